import PyProof.Rows.All
import Wide.All
import OpenK.AllK
import Wide.FinOn
import Lean
import PySem.Challenge.RW_sj0076_01
set_option Elab.async false
set_option maxRecDepth 100000
set_option linter.all false
section
open PySem PySem.W PyProof.Rows
namespace Mine.hd
noncomputable def nth : List Stmt → Nat → Option Stmt
  | [], _ => none
  | x :: _, 0 => some x
  | _ :: l, n + 1 => nth l n
noncomputable def stAt (i : Nat) : Option Stmt := nth Challenge.pw_sj0076_01.main.body i
noncomputable def dfAt (i j : Nat) : Option Stmt := match j with
  | 0 => stAt i
  | j + 1 => match stAt i with
    | some (.ClassDef _ _ _ b _ _ _ _ _ _ _) => nth b j
    | _ => none
noncomputable def parAt (i j : Nat) : Option Arguments := match dfAt i j with
  | some (.FunctionDef _ a _ _ _ _ _ _ _ _) => some a
  | _ => none
noncomputable def bodyAt (i j : Nat) : Option (List Stmt) := match dfAt i j with
  | some (.FunctionDef _ _ b _ _ _ _ _ _ _) => some b
  | _ => none
noncomputable def scopeAt (i j : Nat) : Option Scope := match dfAt i j with
  | some (.FunctionDef _ _ _ _ _ _ s _ _ _) => some s
  | _ => none
noncomputable def heap_39 : Params → Frag := fun P =>
  ((nat_lit 2), (Obj.mk Value.none none (Data.dict (List.toArray [(DictEntry.mk (PyData.keyHash P (Str.ofString "type.__subclasses__.Exception.0")) (Value.str (Str.ofString "type.__subclasses__.Exception.0") (205 : Nat)) (Value.int 24 (0 : Nat))), (DictEntry.mk (PyData.keyHash P (Str.ofString "type.__subclasses__.Exception.n")) (Value.str (Str.ofString "type.__subclasses__.Exception.n") (206 : Nat)) (Value.int 1 (0 : Nat)))]) (2 : Nat)) (List.toArray []))) ::
  ((nat_lit 3), (Obj.mk (Value.type "dict") none (Data.dict (List.toArray ((DictEntry.mk (PyData.keyHash P (Str.ofString "__name__")) (Value.str (Str.ofString "__name__") (165 : Nat)) (Value.str (Str.ofString "law_sj0076_01") (500 : Nat))) :: (DictEntry.mk (PyData.keyHash P (Str.ofString "__doc__")) (Value.str (Str.ofString "__doc__") (166 : Nat)) Value.none) :: (DictEntry.mk (PyData.keyHash P (Str.ofString "__package__")) (Value.str (Str.ofString "__package__") (167 : Nat)) Value.none) :: (DictEntry.mk (PyData.keyHash P (Str.ofString "__loader__")) (Value.str (Str.ofString "__loader__") (168 : Nat)) (Value.builtin "__main__.__loader__#opaque")) :: (DictEntry.mk (PyData.keyHash P (Str.ofString "__spec__")) (Value.str (Str.ofString "__spec__") (169 : Nat)) Value.none) :: (DictEntry.mk (PyData.keyHash P (Str.ofString "__annotations__")) (Value.str (Str.ofString "__annotations__") (170 : Nat)) (Value.ref (6 : Nat))) :: (DictEntry.mk (PyData.keyHash P (Str.ofString "__builtins__")) (Value.str (Str.ofString "__builtins__") (171 : Nat)) (Value.ref (4 : Nat))) :: (DictEntry.mk (PyData.keyHash P (Str.ofString "__file__")) (Value.str (Str.ofString "__file__") (173 : Nat)) (Value.str (Str.ofString "/claim/cut.py") (172 : Nat))) :: (DictEntry.mk (PyData.keyHash P (Str.ofString "__cached__")) (Value.str (Str.ofString "__cached__") (174 : Nat)) Value.none) :: (DictEntry.mk (PyData.keyHash P (Str.ofString "GmpError")) (Value.str (Str.ofString "GmpError") (208 : Nat)) (Value.ref (24 : Nat))) :: (DictEntry.mk (PyData.keyHash P (Str.ofString "OutOfRange")) (Value.str (Str.ofString "OutOfRange") (224 : Nat)) (Value.ref (37 : Nat))) :: (DictEntry.mk (PyData.keyHash P (Str.ofString "normal")) (Value.str (Str.ofString "normal") (232 : Nat)) (Value.ref (46 : Nat))) :: (DictEntry.mk (PyData.keyHash P (Str.ofString "compare")) (Value.str (Str.ofString "compare") (241 : Nat)) (Value.ref (53 : Nat))) :: (DictEntry.mk (PyData.keyHash P (Str.ofString "add")) (Value.str (Str.ofString "add") (254 : Nat)) (Value.ref (60 : Nat))) :: (DictEntry.mk (PyData.keyHash P (Str.ofString "sub")) (Value.str (Str.ofString "sub") (268 : Nat)) (Value.ref (67 : Nat))) :: (DictEntry.mk (PyData.keyHash P (Str.ofString "shift_left")) (Value.str (Str.ofString "shift_left") (283 : Nat)) (Value.ref (74 : Nat))) :: (DictEntry.mk (PyData.keyHash P (Str.ofString "shift_right")) (Value.str (Str.ofString "shift_right") (298 : Nat)) (Value.ref (81 : Nat))) :: (DictEntry.mk (PyData.keyHash P (Str.ofString "bits")) (Value.str (Str.ofString "bits") (306 : Nat)) (Value.ref (88 : Nat))) :: (DictEntry.mk (PyData.keyHash P (Str.ofString "low")) (Value.str (Str.ofString "low") (317 : Nat)) (Value.ref (95 : Nat))) :: (DictEntry.mk (PyData.keyHash P (Str.ofString "TRIES")) (Value.str (Str.ofString "TRIES") (321 : Nat)) (Value.int 80 (320 : Nat))) :: (DictEntry.mk (PyData.keyHash P (Str.ofString "Congruence")) (Value.str (Str.ofString "Congruence") (375 : Nat)) (Value.ref (126 : Nat))) :: (DictEntry.mk (PyData.keyHash P (Str.ofString "Lagged")) (Value.str (Str.ofString "Lagged") (416 : Nat)) (Value.ref (154 : Nat))) :: (DictEntry.mk (PyData.keyHash P (Str.ofString "need_bits")) (Value.str (Str.ofString "need_bits") (423 : Nat)) (Value.ref (165 : Nat))) :: (DictEntry.mk (PyData.keyHash P (Str.ofString "random_bits")) (Value.str (Str.ofString "random_bits") (436 : Nat)) (Value.ref (172 : Nat))) :: (DictEntry.mk (PyData.keyHash P (Str.ofString "random_below")) (Value.str (Str.ofString "random_below") (448 : Nat)) (Value.ref (179 : Nat))) :: (DictEntry.mk (PyData.keyHash P (Str.ofString "small_below")) (Value.str (Str.ofString "small_below") (460 : Nat)) (Value.ref (186 : Nat))) :: (DictEntry.mk (PyData.keyHash P (Str.ofString "small_number")) (Value.str (Str.ofString "small_number") (469 : Nat)) (Value.ref (193 : Nat))) :: (DictEntry.mk (PyData.keyHash P (Str.ofString "shuffled")) (Value.str (Str.ofString "shuffled") (481 : Nat)) (Value.ref (200 : Nat))) :: (DictEntry.mk (PyData.keyHash P (Str.ofString "mul_school")) (Value.str (Str.ofString "mul_school") (499 : Nat)) (Value.ref (207 : Nat))) :: (DictEntry.mk (PyData.keyHash P (Str.ofString "_law_poured")) (Value.str (Str.ofString "_law_poured") (509 : Nat)) (Value.ref (214 : Nat))) :: (DictEntry.mk (PyData.keyHash P (Str.ofString "_law_limbs")) (Value.str (Str.ofString "_law_limbs") (518 : Nat)) (Value.ref (221 : Nat))) :: (DictEntry.mk (PyData.keyHash P (Str.ofString "_law_number")) (Value.str (Str.ofString "_law_number") (524 : Nat)) (Value.ref (226 : Nat))) :: (DictEntry.mk (PyData.keyHash P (Str.ofString "_law_begun")) (Value.str (Str.ofString "_law_begun") (530 : Nat)) (Value.ref (231 : Nat))) :: (DictEntry.mk (PyData.keyHash P (Str.ofString "_law_kept")) (Value.str (Str.ofString "_law_kept") (539 : Nat)) (Value.ref (238 : Nat))) :: (DictEntry.mk (PyData.keyHash P (Str.ofString "_law_taken")) (Value.str (Str.ofString "_law_taken") (550 : Nat)) (Value.ref (245 : Nat))) :: (DictEntry.mk (PyData.keyHash P (Str.ofString "_law_is_within")) (Value.str (Str.ofString "_law_is_within") (560 : Nat)) (Value.ref (252 : Nat))) :: (DictEntry.mk (PyData.keyHash P (Str.ofString "_law_deed")) (Value.str (Str.ofString "_law_deed") (570 : Nat)) (Value.ref (259 : Nat))) :: (DictEntry.mk (PyData.keyHash P (Str.ofString "_law_is_led")) (Value.str (Str.ofString "_law_is_led") (582 : Nat)) (Value.ref (266 : Nat))) :: (DictEntry.mk (PyData.keyHash P (Str.ofString "law")) (Value.str (Str.ofString "law") (588 : Nat)) (Value.ref (271 : Nat))) :: [])) (39 : Nat)) (List.toArray []))) ::
  ((nat_lit 15), (Obj.mk (Value.type "tuple") none (Data.seq (List.toArray [(Value.type "Exception")]) (0 : Nat)) (List.toArray []))) ::
  ((nat_lit 22), (Obj.mk (Value.type "tuple") none (Data.seq (List.toArray []) (0 : Nat)) (List.toArray []))) ::
  ((nat_lit 23), (Obj.mk (Value.type "dict") none (Data.dict (List.toArray [(DictEntry.mk (PyData.keyHash P (Str.ofString "__module__")) (Value.str (Str.ofString "__module__") (196 : Nat)) (Value.str (Str.ofString "gmp.limbs") (187 : Nat))), (DictEntry.mk (PyData.keyHash P (Str.ofString "__firstlineno__")) (Value.str (Str.ofString "__firstlineno__") (200 : Nat)) (Value.int 2 (199 : Nat))), (DictEntry.mk (PyData.keyHash P (Str.ofString "__static_attributes__")) (Value.str (Str.ofString "__static_attributes__") (201 : Nat)) (Value.ref (22 : Nat))), (DictEntry.mk (PyData.keyHash P (Str.ofString "__weakref__")) (Value.str (Str.ofString "__weakref__") (203 : Nat)) (Value.ref (25 : Nat))), (DictEntry.mk (PyData.keyHash P (Str.ofString "__doc__")) (Value.str (Str.ofString "__doc__") (204 : Nat)) Value.none)]) (3 : Nat)) (List.toArray []))) ::
  ((nat_lit 24), (Obj.mk (Value.type "type") none (Data.cls (ClassData.mk (Str.ofString "GmpError") [(Value.type "Exception")] [(Value.ref (24 : Nat)), (Value.type "Exception"), (Value.type "BaseException"), (Value.type "object")] (23 : Nat) (Str.ofString "GmpError") Bool.true [] [(Value.ref (37 : Nat))] Bool.false none Bool.false)) (List.toArray [(some (Value.ref (15 : Nat))), none, (some (Value.str (Str.ofString "GmpError") (189 : Nat))), (some (Value.str (Str.ofString "GmpError") (197 : Nat))), (some (Value.builtin "Exception.__new__")), (some (Value.bool Bool.true))]))) ::
  ((nat_lit 25), (Obj.mk (Value.type "getset_descriptor") none (Data.fields (List.toArray [(Value.str (Str.ofString "__weakref__") (202 : Nat)), (Value.ref (24 : Nat)), (Value.builtin "ExceptionGroup.__weakref__"), Value.none])) (List.toArray []))) ::
  ((nat_lit 28), (Obj.mk (Value.type "tuple") none (Data.seq (List.toArray [(Value.ref (24 : Nat))]) (0 : Nat)) (List.toArray []))) ::
  ((nat_lit 35), (Obj.mk (Value.type "tuple") none (Data.seq (List.toArray []) (0 : Nat)) (List.toArray []))) ::
  ((nat_lit 36), (Obj.mk (Value.type "dict") none (Data.dict (List.toArray [(DictEntry.mk (PyData.keyHash P (Str.ofString "__module__")) (Value.str (Str.ofString "__module__") (216 : Nat)) (Value.str (Str.ofString "gmp.limbs") (187 : Nat))), (DictEntry.mk (PyData.keyHash P (Str.ofString "__firstlineno__")) (Value.str (Str.ofString "__firstlineno__") (220 : Nat)) (Value.int 4 (219 : Nat))), (DictEntry.mk (PyData.keyHash P (Str.ofString "__static_attributes__")) (Value.str (Str.ofString "__static_attributes__") (221 : Nat)) (Value.ref (35 : Nat))), (DictEntry.mk (PyData.keyHash P (Str.ofString "__doc__")) (Value.str (Str.ofString "__doc__") (222 : Nat)) Value.none)]) (2 : Nat)) (List.toArray []))) ::
  ((nat_lit 37), (Obj.mk (Value.type "type") none (Data.cls (ClassData.mk (Str.ofString "OutOfRange") [(Value.ref (24 : Nat))] [(Value.ref (37 : Nat)), (Value.ref (24 : Nat)), (Value.type "Exception"), (Value.type "BaseException"), (Value.type "object")] (36 : Nat) (Str.ofString "OutOfRange") Bool.true [] [] Bool.false none Bool.false)) (List.toArray [(some (Value.ref (28 : Nat))), none, (some (Value.str (Str.ofString "OutOfRange") (209 : Nat))), (some (Value.str (Str.ofString "OutOfRange") (217 : Nat))), (some (Value.builtin "Exception.__new__")), (some (Value.bool Bool.true))]))) ::
  ((nat_lit 40), (Obj.mk (Value.type "tuple") none (Data.seq (List.toArray []) (0 : Nat)) (List.toArray []))) ::
  ((nat_lit 42), (Obj.mk (Value.type "tuple") none (Data.seq (List.toArray [(Value.str (Str.ofString "a") (228 : Nat)), (Value.str (Str.ofString "end") (229 : Nat))]) (0 : Nat)) (List.toArray []))) ::
  ((nat_lit 43), (Obj.mk (Value.type "tuple") none (Data.seq (List.toArray []) (0 : Nat)) (List.toArray []))) ::
  ((nat_lit 45), (Obj.mk (Value.type "code") none (Data.fields (List.toArray [(Value.str (Str.ofString "normal") (225 : Nat)), (Value.str (Str.ofString "normal") (226 : Nat)), (Value.str (Str.ofString "/claim/cut.py") (227 : Nat)), (Value.int 6 (0 : Nat)), (Value.int 1 (0 : Nat)), (Value.int 0 (0 : Nat)), (Value.int 0 (0 : Nat)), (Value.int 3 (0 : Nat)), (Value.ref (40 : Nat)), (Value.bool Bool.true), (Value.int 181 (0 : Nat)), (Value.ref (41 : Nat)), Value.none, (Value.ref (42 : Nat)), (Value.ref (43 : Nat)), (Value.ref (44 : Nat)), (Value.int 230 (0 : Nat)), (Value.int 6 (0 : Nat)), (Value.str (Str.ofString "/claim/cut.py") (231 : Nat))])) (List.toArray []))) ::
  ((nat_lit 46), (Obj.mk (Value.type "function") none (Data.func (FuncData.mk (Str.ofString "normal") (Str.ofString "normal") (by refine' (?f : (x : Arguments) → Mine.hd.parAt 3 0 = some x → Arguments) _ ?h; (case f => exact fun x _ => x); (case h => with_unfolding_all rfl)) (FuncBody.stmts (by refine' (?f : (x : (List Stmt)) → Mine.hd.bodyAt 3 0 = some x → (List Stmt)) _ ?h; (case f => exact fun x _ => x); (case h => with_unfolding_all rfl))) (by refine' (?f : (x : Scope) → Mine.hd.scopeAt 3 0 = some x → Scope) _ ?h; (case f => exact fun x _ => x); (case h => with_unfolding_all rfl)) (3 : Nat) [] Value.none Value.none Value.none (Value.str (Str.ofString "gmp.limbs") (187 : Nat)) none (Value.ref (45 : Nat)) Value.none (0 : Nat))) (List.toArray []))) ::
  ((nat_lit 47), (Obj.mk (Value.type "tuple") none (Data.seq (List.toArray []) (0 : Nat)) (List.toArray []))) ::
  ((nat_lit 49), (Obj.mk (Value.type "tuple") none (Data.seq (List.toArray [(Value.str (Str.ofString "a") (236 : Nat)), (Value.str (Str.ofString "b") (237 : Nat)), (Value.str (Str.ofString "at") (238 : Nat))]) (0 : Nat)) (List.toArray []))) ::
  ((nat_lit 50), (Obj.mk (Value.type "tuple") none (Data.seq (List.toArray []) (0 : Nat)) (List.toArray []))) ::
  ((nat_lit 52), (Obj.mk (Value.type "code") none (Data.fields (List.toArray [(Value.str (Str.ofString "compare") (233 : Nat)), (Value.str (Str.ofString "compare") (234 : Nat)), (Value.str (Str.ofString "/claim/cut.py") (235 : Nat)), (Value.int 11 (0 : Nat)), (Value.int 2 (0 : Nat)), (Value.int 0 (0 : Nat)), (Value.int 0 (0 : Nat)), (Value.int 3 (0 : Nat)), (Value.ref (47 : Nat)), (Value.bool Bool.true), (Value.int 181 (0 : Nat)), (Value.ref (48 : Nat)), Value.none, (Value.ref (49 : Nat)), (Value.ref (50 : Nat)), (Value.ref (51 : Nat)), (Value.int 239 (0 : Nat)), (Value.int 11 (0 : Nat)), (Value.str (Str.ofString "/claim/cut.py") (240 : Nat))])) (List.toArray []))) ::
  ((nat_lit 53), (Obj.mk (Value.type "function") none (Data.func (FuncData.mk (Str.ofString "compare") (Str.ofString "compare") (by refine' (?f : (x : Arguments) → Mine.hd.parAt 4 0 = some x → Arguments) _ ?h; (case f => exact fun x _ => x); (case h => with_unfolding_all rfl)) (FuncBody.stmts (by refine' (?f : (x : (List Stmt)) → Mine.hd.bodyAt 4 0 = some x → (List Stmt)) _ ?h; (case f => exact fun x _ => x); (case h => with_unfolding_all rfl))) (by refine' (?f : (x : Scope) → Mine.hd.scopeAt 4 0 = some x → Scope) _ ?h; (case f => exact fun x _ => x); (case h => with_unfolding_all rfl)) (3 : Nat) [] Value.none Value.none Value.none (Value.str (Str.ofString "gmp.limbs") (187 : Nat)) none (Value.ref (52 : Nat)) Value.none (0 : Nat))) (List.toArray []))) ::
  ((nat_lit 54), (Obj.mk (Value.type "tuple") none (Data.seq (List.toArray []) (0 : Nat)) (List.toArray []))) ::
  ((nat_lit 56), (Obj.mk (Value.type "tuple") none (Data.seq (List.toArray [(Value.str (Str.ofString "a") (245 : Nat)), (Value.str (Str.ofString "b") (246 : Nat)), (Value.str (Str.ofString "w") (247 : Nat)), (Value.str (Str.ofString "found") (248 : Nat)), (Value.str (Str.ofString "carry") (249 : Nat)), (Value.str (Str.ofString "mask") (250 : Nat)), (Value.str (Str.ofString "at") (251 : Nat))]) (0 : Nat)) (List.toArray []))) ::
  ((nat_lit 57), (Obj.mk (Value.type "tuple") none (Data.seq (List.toArray []) (0 : Nat)) (List.toArray []))) ::
  ((nat_lit 59), (Obj.mk (Value.type "code") none (Data.fields (List.toArray [(Value.str (Str.ofString "add") (242 : Nat)), (Value.str (Str.ofString "add") (243 : Nat)), (Value.str (Str.ofString "/claim/cut.py") (244 : Nat)), (Value.int 18 (0 : Nat)), (Value.int 3 (0 : Nat)), (Value.int 0 (0 : Nat)), (Value.int 0 (0 : Nat)), (Value.int 3 (0 : Nat)), (Value.ref (54 : Nat)), (Value.bool Bool.true), (Value.int 181 (0 : Nat)), (Value.ref (55 : Nat)), Value.none, (Value.ref (56 : Nat)), (Value.ref (57 : Nat)), (Value.ref (58 : Nat)), (Value.int 252 (0 : Nat)), (Value.int 18 (0 : Nat)), (Value.str (Str.ofString "/claim/cut.py") (253 : Nat))])) (List.toArray []))) ::
  ((nat_lit 60), (Obj.mk (Value.type "function") none (Data.func (FuncData.mk (Str.ofString "add") (Str.ofString "add") (by refine' (?f : (x : Arguments) → Mine.hd.parAt 5 0 = some x → Arguments) _ ?h; (case f => exact fun x _ => x); (case h => with_unfolding_all rfl)) (FuncBody.stmts (by refine' (?f : (x : (List Stmt)) → Mine.hd.bodyAt 5 0 = some x → (List Stmt)) _ ?h; (case f => exact fun x _ => x); (case h => with_unfolding_all rfl))) (by refine' (?f : (x : Scope) → Mine.hd.scopeAt 5 0 = some x → Scope) _ ?h; (case f => exact fun x _ => x); (case h => with_unfolding_all rfl)) (3 : Nat) [] Value.none Value.none Value.none (Value.str (Str.ofString "gmp.limbs") (187 : Nat)) none (Value.ref (59 : Nat)) Value.none (0 : Nat))) (List.toArray []))) ::
  ((nat_lit 61), (Obj.mk (Value.type "tuple") none (Data.seq (List.toArray []) (0 : Nat)) (List.toArray []))) ::
  ((nat_lit 63), (Obj.mk (Value.type "tuple") none (Data.seq (List.toArray [(Value.str (Str.ofString "a") (258 : Nat)), (Value.str (Str.ofString "b") (259 : Nat)), (Value.str (Str.ofString "w") (260 : Nat)), (Value.str (Str.ofString "found") (261 : Nat)), (Value.str (Str.ofString "borrow") (262 : Nat)), (Value.str (Str.ofString "base") (263 : Nat)), (Value.str (Str.ofString "at") (264 : Nat)), (Value.str (Str.ofString "limb") (265 : Nat))]) (0 : Nat)) (List.toArray []))) ::
  ((nat_lit 64), (Obj.mk (Value.type "tuple") none (Data.seq (List.toArray []) (0 : Nat)) (List.toArray []))) ::
  ((nat_lit 66), (Obj.mk (Value.type "code") none (Data.fields (List.toArray [(Value.str (Str.ofString "sub") (255 : Nat)), (Value.str (Str.ofString "sub") (256 : Nat)), (Value.str (Str.ofString "/claim/cut.py") (257 : Nat)), (Value.int 33 (0 : Nat)), (Value.int 3 (0 : Nat)), (Value.int 0 (0 : Nat)), (Value.int 0 (0 : Nat)), (Value.int 3 (0 : Nat)), (Value.ref (61 : Nat)), (Value.bool Bool.true), (Value.int 181 (0 : Nat)), (Value.ref (62 : Nat)), Value.none, (Value.ref (63 : Nat)), (Value.ref (64 : Nat)), (Value.ref (65 : Nat)), (Value.int 266 (0 : Nat)), (Value.int 33 (0 : Nat)), (Value.str (Str.ofString "/claim/cut.py") (267 : Nat))])) (List.toArray []))) ::
  ((nat_lit 67), (Obj.mk (Value.type "function") none (Data.func (FuncData.mk (Str.ofString "sub") (Str.ofString "sub") (by refine' (?f : (x : Arguments) → Mine.hd.parAt 6 0 = some x → Arguments) _ ?h; (case f => exact fun x _ => x); (case h => with_unfolding_all rfl)) (FuncBody.stmts (by refine' (?f : (x : (List Stmt)) → Mine.hd.bodyAt 6 0 = some x → (List Stmt)) _ ?h; (case f => exact fun x _ => x); (case h => with_unfolding_all rfl))) (by refine' (?f : (x : Scope) → Mine.hd.scopeAt 6 0 = some x → Scope) _ ?h; (case f => exact fun x _ => x); (case h => with_unfolding_all rfl)) (3 : Nat) [] Value.none Value.none Value.none (Value.str (Str.ofString "gmp.limbs") (187 : Nat)) none (Value.ref (66 : Nat)) Value.none (0 : Nat))) (List.toArray []))) ::
  ((nat_lit 68), (Obj.mk (Value.type "tuple") none (Data.seq (List.toArray []) (0 : Nat)) (List.toArray []))) ::
  ((nat_lit 70), (Obj.mk (Value.type "tuple") none (Data.seq (List.toArray [(Value.str (Str.ofString "a") (272 : Nat)), (Value.str (Str.ofString "n") (273 : Nat)), (Value.str (Str.ofString "w") (274 : Nat)), (Value.str (Str.ofString "spots") (275 : Nat)), (Value.str (Str.ofString "few") (276 : Nat)), (Value.str (Str.ofString "found") (277 : Nat)), (Value.str (Str.ofString "carry") (278 : Nat)), (Value.str (Str.ofString "mask") (279 : Nat)), (Value.str (Str.ofString "one") (280 : Nat))]) (0 : Nat)) (List.toArray []))) ::
  ((nat_lit 71), (Obj.mk (Value.type "tuple") none (Data.seq (List.toArray []) (0 : Nat)) (List.toArray []))) ::
  ((nat_lit 73), (Obj.mk (Value.type "code") none (Data.fields (List.toArray [(Value.str (Str.ofString "shift_left") (269 : Nat)), (Value.str (Str.ofString "shift_left") (270 : Nat)), (Value.str (Str.ofString "/claim/cut.py") (271 : Nat)), (Value.int 42 (0 : Nat)), (Value.int 3 (0 : Nat)), (Value.int 0 (0 : Nat)), (Value.int 0 (0 : Nat)), (Value.int 3 (0 : Nat)), (Value.ref (68 : Nat)), (Value.bool Bool.true), (Value.int 181 (0 : Nat)), (Value.ref (69 : Nat)), Value.none, (Value.ref (70 : Nat)), (Value.ref (71 : Nat)), (Value.ref (72 : Nat)), (Value.int 281 (0 : Nat)), (Value.int 42 (0 : Nat)), (Value.str (Str.ofString "/claim/cut.py") (282 : Nat))])) (List.toArray []))) ::
  ((nat_lit 74), (Obj.mk (Value.type "function") none (Data.func (FuncData.mk (Str.ofString "shift_left") (Str.ofString "shift_left") (by refine' (?f : (x : Arguments) → Mine.hd.parAt 7 0 = some x → Arguments) _ ?h; (case f => exact fun x _ => x); (case h => with_unfolding_all rfl)) (FuncBody.stmts (by refine' (?f : (x : (List Stmt)) → Mine.hd.bodyAt 7 0 = some x → (List Stmt)) _ ?h; (case f => exact fun x _ => x); (case h => with_unfolding_all rfl))) (by refine' (?f : (x : Scope) → Mine.hd.scopeAt 7 0 = some x → Scope) _ ?h; (case f => exact fun x _ => x); (case h => with_unfolding_all rfl)) (3 : Nat) [] Value.none Value.none Value.none (Value.str (Str.ofString "gmp.limbs") (187 : Nat)) none (Value.ref (73 : Nat)) Value.none (0 : Nat))) (List.toArray []))) ::
  ((nat_lit 75), (Obj.mk (Value.type "tuple") none (Data.seq (List.toArray []) (0 : Nat)) (List.toArray []))) ::
  ((nat_lit 77), (Obj.mk (Value.type "tuple") none (Data.seq (List.toArray [(Value.str (Str.ofString "a") (287 : Nat)), (Value.str (Str.ofString "n") (288 : Nat)), (Value.str (Str.ofString "w") (289 : Nat)), (Value.str (Str.ofString "spots") (290 : Nat)), (Value.str (Str.ofString "few") (291 : Nat)), (Value.str (Str.ofString "found") (292 : Nat)), (Value.str (Str.ofString "mask") (293 : Nat)), (Value.str (Str.ofString "at") (294 : Nat)), (Value.str (Str.ofString "above") (295 : Nat))]) (0 : Nat)) (List.toArray []))) ::
  ((nat_lit 78), (Obj.mk (Value.type "tuple") none (Data.seq (List.toArray []) (0 : Nat)) (List.toArray []))) ::
  ((nat_lit 80), (Obj.mk (Value.type "code") none (Data.fields (List.toArray [(Value.str (Str.ofString "shift_right") (284 : Nat)), (Value.str (Str.ofString "shift_right") (285 : Nat)), (Value.str (Str.ofString "/claim/cut.py") (286 : Nat)), (Value.int 54 (0 : Nat)), (Value.int 3 (0 : Nat)), (Value.int 0 (0 : Nat)), (Value.int 0 (0 : Nat)), (Value.int 3 (0 : Nat)), (Value.ref (75 : Nat)), (Value.bool Bool.true), (Value.int 181 (0 : Nat)), (Value.ref (76 : Nat)), Value.none, (Value.ref (77 : Nat)), (Value.ref (78 : Nat)), (Value.ref (79 : Nat)), (Value.int 296 (0 : Nat)), (Value.int 54 (0 : Nat)), (Value.str (Str.ofString "/claim/cut.py") (297 : Nat))])) (List.toArray []))) ::
  ((nat_lit 81), (Obj.mk (Value.type "function") none (Data.func (FuncData.mk (Str.ofString "shift_right") (Str.ofString "shift_right") (by refine' (?f : (x : Arguments) → Mine.hd.parAt 8 0 = some x → Arguments) _ ?h; (case f => exact fun x _ => x); (case h => with_unfolding_all rfl)) (FuncBody.stmts (by refine' (?f : (x : (List Stmt)) → Mine.hd.bodyAt 8 0 = some x → (List Stmt)) _ ?h; (case f => exact fun x _ => x); (case h => with_unfolding_all rfl))) (by refine' (?f : (x : Scope) → Mine.hd.scopeAt 8 0 = some x → Scope) _ ?h; (case f => exact fun x _ => x); (case h => with_unfolding_all rfl)) (3 : Nat) [] Value.none Value.none Value.none (Value.str (Str.ofString "gmp.limbs") (187 : Nat)) none (Value.ref (80 : Nat)) Value.none (0 : Nat))) (List.toArray []))) ::
  ((nat_lit 82), (Obj.mk (Value.type "tuple") none (Data.seq (List.toArray []) (0 : Nat)) (List.toArray []))) ::
  ((nat_lit 84), (Obj.mk (Value.type "tuple") none (Data.seq (List.toArray [(Value.str (Str.ofString "a") (302 : Nat)), (Value.str (Str.ofString "w") (303 : Nat))]) (0 : Nat)) (List.toArray []))) ::
  ((nat_lit 85), (Obj.mk (Value.type "tuple") none (Data.seq (List.toArray []) (0 : Nat)) (List.toArray []))) ::
  ((nat_lit 87), (Obj.mk (Value.type "code") none (Data.fields (List.toArray [(Value.str (Str.ofString "bits") (299 : Nat)), (Value.str (Str.ofString "bits") (300 : Nat)), (Value.str (Str.ofString "/claim/cut.py") (301 : Nat)), (Value.int 61 (0 : Nat)), (Value.int 2 (0 : Nat)), (Value.int 0 (0 : Nat)), (Value.int 0 (0 : Nat)), (Value.int 3 (0 : Nat)), (Value.ref (82 : Nat)), (Value.bool Bool.true), (Value.int 181 (0 : Nat)), (Value.ref (83 : Nat)), Value.none, (Value.ref (84 : Nat)), (Value.ref (85 : Nat)), (Value.ref (86 : Nat)), (Value.int 304 (0 : Nat)), (Value.int 61 (0 : Nat)), (Value.str (Str.ofString "/claim/cut.py") (305 : Nat))])) (List.toArray []))) ::
  ((nat_lit 88), (Obj.mk (Value.type "function") none (Data.func (FuncData.mk (Str.ofString "bits") (Str.ofString "bits") (by refine' (?f : (x : Arguments) → Mine.hd.parAt 9 0 = some x → Arguments) _ ?h; (case f => exact fun x _ => x); (case h => with_unfolding_all rfl)) (FuncBody.stmts (by refine' (?f : (x : (List Stmt)) → Mine.hd.bodyAt 9 0 = some x → (List Stmt)) _ ?h; (case f => exact fun x _ => x); (case h => with_unfolding_all rfl))) (by refine' (?f : (x : Scope) → Mine.hd.scopeAt 9 0 = some x → Scope) _ ?h; (case f => exact fun x _ => x); (case h => with_unfolding_all rfl)) (3 : Nat) [] Value.none Value.none Value.none (Value.str (Str.ofString "gmp.limbs") (187 : Nat)) none (Value.ref (87 : Nat)) Value.none (0 : Nat))) (List.toArray []))) ::
  ((nat_lit 89), (Obj.mk (Value.type "tuple") none (Data.seq (List.toArray []) (0 : Nat)) (List.toArray []))) ::
  ((nat_lit 91), (Obj.mk (Value.type "tuple") none (Data.seq (List.toArray [(Value.str (Str.ofString "a") (310 : Nat)), (Value.str (Str.ofString "n") (311 : Nat)), (Value.str (Str.ofString "w") (312 : Nat)), (Value.str (Str.ofString "spots") (313 : Nat)), (Value.str (Str.ofString "few") (314 : Nat))]) (0 : Nat)) (List.toArray []))) ::
  ((nat_lit 92), (Obj.mk (Value.type "tuple") none (Data.seq (List.toArray []) (0 : Nat)) (List.toArray []))) ::
  ((nat_lit 94), (Obj.mk (Value.type "code") none (Data.fields (List.toArray [(Value.str (Str.ofString "low") (307 : Nat)), (Value.str (Str.ofString "low") (308 : Nat)), (Value.str (Str.ofString "/claim/cut.py") (309 : Nat)), (Value.int 63 (0 : Nat)), (Value.int 3 (0 : Nat)), (Value.int 0 (0 : Nat)), (Value.int 0 (0 : Nat)), (Value.int 3 (0 : Nat)), (Value.ref (89 : Nat)), (Value.bool Bool.true), (Value.int 181 (0 : Nat)), (Value.ref (90 : Nat)), Value.none, (Value.ref (91 : Nat)), (Value.ref (92 : Nat)), (Value.ref (93 : Nat)), (Value.int 315 (0 : Nat)), (Value.int 63 (0 : Nat)), (Value.str (Str.ofString "/claim/cut.py") (316 : Nat))])) (List.toArray []))) ::
  ((nat_lit 95), (Obj.mk (Value.type "function") none (Data.func (FuncData.mk (Str.ofString "low") (Str.ofString "low") (by refine' (?f : (x : Arguments) → Mine.hd.parAt 10 0 = some x → Arguments) _ ?h; (case f => exact fun x _ => x); (case h => with_unfolding_all rfl)) (FuncBody.stmts (by refine' (?f : (x : (List Stmt)) → Mine.hd.bodyAt 10 0 = some x → (List Stmt)) _ ?h; (case f => exact fun x _ => x); (case h => with_unfolding_all rfl))) (by refine' (?f : (x : Scope) → Mine.hd.scopeAt 10 0 = some x → Scope) _ ?h; (case f => exact fun x _ => x); (case h => with_unfolding_all rfl)) (3 : Nat) [] Value.none Value.none Value.none (Value.str (Str.ofString "gmp.limbs") (187 : Nat)) none (Value.ref (94 : Nat)) Value.none (0 : Nat))) (List.toArray []))) ::
  ((nat_lit 103), (Obj.mk (Value.type "tuple") none (Data.seq (List.toArray []) (0 : Nat)) (List.toArray []))) ::
  ((nat_lit 105), (Obj.mk (Value.type "tuple") none (Data.seq (List.toArray [(Value.str (Str.ofString "self") (337 : Nat)), (Value.str (Str.ofString "a") (338 : Nat)), (Value.str (Str.ofString "c") (339 : Nat)), (Value.str (Str.ofString "width") (340 : Nat)), (Value.str (Str.ofString "state") (341 : Nat)), (Value.str (Str.ofString "w") (342 : Nat)), (Value.str (Str.ofString "mul") (343 : Nat))]) (0 : Nat)) (List.toArray []))) ::
  ((nat_lit 106), (Obj.mk (Value.type "tuple") none (Data.seq (List.toArray []) (0 : Nat)) (List.toArray []))) ::
  ((nat_lit 108), (Obj.mk (Value.type "code") none (Data.fields (List.toArray [(Value.str (Str.ofString "__init__") (334 : Nat)), (Value.str (Str.ofString "Congruence.__init__") (335 : Nat)), (Value.str (Str.ofString "/claim/cut.py") (336 : Nat)), (Value.int 72 (0 : Nat)), (Value.int 7 (0 : Nat)), (Value.int 0 (0 : Nat)), (Value.int 0 (0 : Nat)), (Value.int 3 (0 : Nat)), (Value.ref (103 : Nat)), (Value.bool Bool.true), (Value.int 181 (0 : Nat)), (Value.ref (104 : Nat)), Value.none, (Value.ref (105 : Nat)), (Value.ref (106 : Nat)), (Value.ref (107 : Nat)), (Value.int 344 (0 : Nat)), (Value.int 72 (0 : Nat)), (Value.str (Str.ofString "/claim/cut.py") (345 : Nat))])) (List.toArray []))) ::
  ((nat_lit 109), (Obj.mk (Value.type "function") none (Data.func (FuncData.mk (Str.ofString "__init__") (Str.ofString "Congruence.__init__") (by refine' (?f : (x : Arguments) → Mine.hd.parAt 13 1 = some x → Arguments) _ ?h; (case f => exact fun x _ => x); (case h => with_unfolding_all rfl)) (FuncBody.stmts (by refine' (?f : (x : (List Stmt)) → Mine.hd.bodyAt 13 1 = some x → (List Stmt)) _ ?h; (case f => exact fun x _ => x); (case h => with_unfolding_all rfl))) (by refine' (?f : (x : Scope) → Mine.hd.scopeAt 13 1 = some x → Scope) _ ?h; (case f => exact fun x _ => x); (case h => with_unfolding_all rfl)) (3 : Nat) [] Value.none Value.none Value.none (Value.str (Str.ofString "gmp.randoms") (318 : Nat)) none (Value.ref (108 : Nat)) Value.none (0 : Nat))) (List.toArray []))) ::
  ((nat_lit 110), (Obj.mk (Value.type "tuple") none (Data.seq (List.toArray []) (0 : Nat)) (List.toArray []))) ::
  ((nat_lit 112), (Obj.mk (Value.type "tuple") none (Data.seq (List.toArray [(Value.str (Str.ofString "self") (350 : Nat))]) (0 : Nat)) (List.toArray []))) ::
  ((nat_lit 113), (Obj.mk (Value.type "tuple") none (Data.seq (List.toArray []) (0 : Nat)) (List.toArray []))) ::
  ((nat_lit 115), (Obj.mk (Value.type "code") none (Data.fields (List.toArray [(Value.str (Str.ofString "step") (347 : Nat)), (Value.str (Str.ofString "Congruence.step") (348 : Nat)), (Value.str (Str.ofString "/claim/cut.py") (349 : Nat)), (Value.int 82 (0 : Nat)), (Value.int 1 (0 : Nat)), (Value.int 0 (0 : Nat)), (Value.int 0 (0 : Nat)), (Value.int 3 (0 : Nat)), (Value.ref (110 : Nat)), (Value.bool Bool.true), (Value.int 181 (0 : Nat)), (Value.ref (111 : Nat)), Value.none, (Value.ref (112 : Nat)), (Value.ref (113 : Nat)), (Value.ref (114 : Nat)), (Value.int 351 (0 : Nat)), (Value.int 82 (0 : Nat)), (Value.str (Str.ofString "/claim/cut.py") (352 : Nat))])) (List.toArray []))) ::
  ((nat_lit 116), (Obj.mk (Value.type "function") none (Data.func (FuncData.mk (Str.ofString "step") (Str.ofString "Congruence.step") (by refine' (?f : (x : Arguments) → Mine.hd.parAt 13 2 = some x → Arguments) _ ?h; (case f => exact fun x _ => x); (case h => with_unfolding_all rfl)) (FuncBody.stmts (by refine' (?f : (x : (List Stmt)) → Mine.hd.bodyAt 13 2 = some x → (List Stmt)) _ ?h; (case f => exact fun x _ => x); (case h => with_unfolding_all rfl))) (by refine' (?f : (x : Scope) → Mine.hd.scopeAt 13 2 = some x → Scope) _ ?h; (case f => exact fun x _ => x); (case h => with_unfolding_all rfl)) (3 : Nat) [] Value.none Value.none Value.none (Value.str (Str.ofString "gmp.randoms") (318 : Nat)) none (Value.ref (115 : Nat)) Value.none (0 : Nat))) (List.toArray []))) ::
  ((nat_lit 117), (Obj.mk (Value.type "tuple") none (Data.seq (List.toArray []) (0 : Nat)) (List.toArray []))) ::
  ((nat_lit 119), (Obj.mk (Value.type "tuple") none (Data.seq (List.toArray [(Value.str (Str.ofString "self") (357 : Nat)), (Value.str (Str.ofString "many") (358 : Nat))]) (0 : Nat)) (List.toArray []))) ::
  ((nat_lit 120), (Obj.mk (Value.type "tuple") none (Data.seq (List.toArray []) (0 : Nat)) (List.toArray []))) ::
  ((nat_lit 122), (Obj.mk (Value.type "code") none (Data.fields (List.toArray [(Value.str (Str.ofString "take") (354 : Nat)), (Value.str (Str.ofString "Congruence.take") (355 : Nat)), (Value.str (Str.ofString "/claim/cut.py") (356 : Nat)), (Value.int 85 (0 : Nat)), (Value.int 1 (0 : Nat)), (Value.int 0 (0 : Nat)), (Value.int 0 (0 : Nat)), (Value.int 3 (0 : Nat)), (Value.ref (117 : Nat)), (Value.bool Bool.true), (Value.int 181 (0 : Nat)), (Value.ref (118 : Nat)), Value.none, (Value.ref (119 : Nat)), (Value.ref (120 : Nat)), (Value.ref (121 : Nat)), (Value.int 359 (0 : Nat)), (Value.int 85 (0 : Nat)), (Value.str (Str.ofString "/claim/cut.py") (360 : Nat))])) (List.toArray []))) ::
  ((nat_lit 123), (Obj.mk (Value.type "function") none (Data.func (FuncData.mk (Str.ofString "take") (Str.ofString "Congruence.take") (by refine' (?f : (x : Arguments) → Mine.hd.parAt 13 3 = some x → Arguments) _ ?h; (case f => exact fun x _ => x); (case h => with_unfolding_all rfl)) (FuncBody.stmts (by refine' (?f : (x : (List Stmt)) → Mine.hd.bodyAt 13 3 = some x → (List Stmt)) _ ?h; (case f => exact fun x _ => x); (case h => with_unfolding_all rfl))) (by refine' (?f : (x : Scope) → Mine.hd.scopeAt 13 3 = some x → Scope) _ ?h; (case f => exact fun x _ => x); (case h => with_unfolding_all rfl)) (3 : Nat) [] Value.none Value.none Value.none (Value.str (Str.ofString "gmp.randoms") (318 : Nat)) none (Value.ref (122 : Nat)) Value.none (0 : Nat))) (List.toArray []))) ::
  ((nat_lit 124), (Obj.mk (Value.type "tuple") none (Data.seq (List.toArray [(Value.str (Str.ofString "a") (362 : Nat)), (Value.str (Str.ofString "c") (363 : Nat)), (Value.str (Str.ofString "mul") (364 : Nat)), (Value.str (Str.ofString "state") (365 : Nat)), (Value.str (Str.ofString "w") (366 : Nat)), (Value.str (Str.ofString "width") (367 : Nat))]) (0 : Nat)) (List.toArray []))) ::
  ((nat_lit 125), (Obj.mk (Value.type "dict") none (Data.dict (List.toArray [(DictEntry.mk (PyData.keyHash P (Str.ofString "__module__")) (Value.str (Str.ofString "__module__") (329 : Nat)) (Value.str (Str.ofString "gmp.randoms") (318 : Nat))), (DictEntry.mk (PyData.keyHash P (Str.ofString "__firstlineno__")) (Value.str (Str.ofString "__firstlineno__") (333 : Nat)) (Value.int 70 (332 : Nat))), (DictEntry.mk (PyData.keyHash P (Str.ofString "__init__")) (Value.str (Str.ofString "__init__") (346 : Nat)) (Value.ref (109 : Nat))), (DictEntry.mk (PyData.keyHash P (Str.ofString "step")) (Value.str (Str.ofString "step") (353 : Nat)) (Value.ref (116 : Nat))), (DictEntry.mk (PyData.keyHash P (Str.ofString "take")) (Value.str (Str.ofString "take") (361 : Nat)) (Value.ref (123 : Nat))), (DictEntry.mk (PyData.keyHash P (Str.ofString "__static_attributes__")) (Value.str (Str.ofString "__static_attributes__") (368 : Nat)) (Value.ref (124 : Nat))), (DictEntry.mk (PyData.keyHash P (Str.ofString "__dict__")) (Value.str (Str.ofString "__dict__") (370 : Nat)) (Value.ref (127 : Nat))), (DictEntry.mk (PyData.keyHash P (Str.ofString "__weakref__")) (Value.str (Str.ofString "__weakref__") (372 : Nat)) (Value.ref (128 : Nat))), (DictEntry.mk (PyData.keyHash P (Str.ofString "__doc__")) (Value.str (Str.ofString "__doc__") (373 : Nat)) Value.none)]) (4 : Nat)) (List.toArray []))) ::
  ((nat_lit 126), (Obj.mk (Value.type "type") none (Data.cls (ClassData.mk (Str.ofString "Congruence") [(Value.type "object")] [(Value.ref (126 : Nat)), (Value.type "object")] (125 : Nat) (Str.ofString "Congruence") Bool.true [] [] Bool.false none Bool.false)) (List.toArray [none, none, (some (Value.str (Str.ofString "Congruence") (322 : Nat))), (some (Value.str (Str.ofString "Congruence") (330 : Nat))), (some (Value.builtin "object.__new__")), (some (Value.bool Bool.true))]))) ::
  ((nat_lit 127), (Obj.mk (Value.type "getset_descriptor") none (Data.fields (List.toArray [(Value.str (Str.ofString "__dict__") (369 : Nat)), (Value.ref (126 : Nat)), (Value.builtin "function.__dict__"), (Value.builtin "function.__dict__#set")])) (List.toArray []))) ::
  ((nat_lit 128), (Obj.mk (Value.type "getset_descriptor") none (Data.fields (List.toArray [(Value.str (Str.ofString "__weakref__") (371 : Nat)), (Value.ref (126 : Nat)), (Value.builtin "ExceptionGroup.__weakref__"), Value.none])) (List.toArray []))) ::
  ((nat_lit 138), (Obj.mk (Value.type "tuple") none (Data.seq (List.toArray []) (0 : Nat)) (List.toArray []))) ::
  ((nat_lit 140), (Obj.mk (Value.type "tuple") none (Data.seq (List.toArray [(Value.str (Str.ofString "self") (391 : Nat)), (Value.str (Str.ofString "row") (392 : Nat)), (Value.str (Str.ofString "place") (393 : Nat)), (Value.str (Str.ofString "w") (394 : Nat))]) (0 : Nat)) (List.toArray []))) ::
  ((nat_lit 141), (Obj.mk (Value.type "tuple") none (Data.seq (List.toArray []) (0 : Nat)) (List.toArray []))) ::
  ((nat_lit 143), (Obj.mk (Value.type "code") none (Data.fields (List.toArray [(Value.str (Str.ofString "__init__") (388 : Nat)), (Value.str (Str.ofString "Lagged.__init__") (389 : Nat)), (Value.str (Str.ofString "/claim/cut.py") (390 : Nat)), (Value.int 91 (0 : Nat)), (Value.int 4 (0 : Nat)), (Value.int 0 (0 : Nat)), (Value.int 0 (0 : Nat)), (Value.int 3 (0 : Nat)), (Value.ref (138 : Nat)), (Value.bool Bool.true), (Value.int 181 (0 : Nat)), (Value.ref (139 : Nat)), Value.none, (Value.ref (140 : Nat)), (Value.ref (141 : Nat)), (Value.ref (142 : Nat)), (Value.int 395 (0 : Nat)), (Value.int 91 (0 : Nat)), (Value.str (Str.ofString "/claim/cut.py") (396 : Nat))])) (List.toArray []))) ::
  ((nat_lit 144), (Obj.mk (Value.type "function") none (Data.func (FuncData.mk (Str.ofString "__init__") (Str.ofString "Lagged.__init__") (by refine' (?f : (x : Arguments) → Mine.hd.parAt 14 1 = some x → Arguments) _ ?h; (case f => exact fun x _ => x); (case h => with_unfolding_all rfl)) (FuncBody.stmts (by refine' (?f : (x : (List Stmt)) → Mine.hd.bodyAt 14 1 = some x → (List Stmt)) _ ?h; (case f => exact fun x _ => x); (case h => with_unfolding_all rfl))) (by refine' (?f : (x : Scope) → Mine.hd.scopeAt 14 1 = some x → Scope) _ ?h; (case f => exact fun x _ => x); (case h => with_unfolding_all rfl)) (3 : Nat) [] Value.none Value.none Value.none (Value.str (Str.ofString "gmp.randoms") (318 : Nat)) none (Value.ref (143 : Nat)) Value.none (0 : Nat))) (List.toArray []))) ::
  ((nat_lit 145), (Obj.mk (Value.type "tuple") none (Data.seq (List.toArray []) (0 : Nat)) (List.toArray []))) ::
  ((nat_lit 147), (Obj.mk (Value.type "tuple") none (Data.seq (List.toArray [(Value.str (Str.ofString "self") (401 : Nat)), (Value.str (Str.ofString "found") (402 : Nat))]) (0 : Nat)) (List.toArray []))) ::
  ((nat_lit 148), (Obj.mk (Value.type "tuple") none (Data.seq (List.toArray []) (0 : Nat)) (List.toArray []))) ::
  ((nat_lit 150), (Obj.mk (Value.type "code") none (Data.fields (List.toArray [(Value.str (Str.ofString "take") (398 : Nat)), (Value.str (Str.ofString "Lagged.take") (399 : Nat)), (Value.str (Str.ofString "/claim/cut.py") (400 : Nat)), (Value.int 98 (0 : Nat)), (Value.int 1 (0 : Nat)), (Value.int 0 (0 : Nat)), (Value.int 0 (0 : Nat)), (Value.int 3 (0 : Nat)), (Value.ref (145 : Nat)), (Value.bool Bool.true), (Value.int 181 (0 : Nat)), (Value.ref (146 : Nat)), Value.none, (Value.ref (147 : Nat)), (Value.ref (148 : Nat)), (Value.ref (149 : Nat)), (Value.int 403 (0 : Nat)), (Value.int 98 (0 : Nat)), (Value.str (Str.ofString "/claim/cut.py") (404 : Nat))])) (List.toArray []))) ::
  ((nat_lit 151), (Obj.mk (Value.type "function") none (Data.func (FuncData.mk (Str.ofString "take") (Str.ofString "Lagged.take") (by refine' (?f : (x : Arguments) → Mine.hd.parAt 14 2 = some x → Arguments) _ ?h; (case f => exact fun x _ => x); (case h => with_unfolding_all rfl)) (FuncBody.stmts (by refine' (?f : (x : (List Stmt)) → Mine.hd.bodyAt 14 2 = some x → (List Stmt)) _ ?h; (case f => exact fun x _ => x); (case h => with_unfolding_all rfl))) (by refine' (?f : (x : Scope) → Mine.hd.scopeAt 14 2 = some x → Scope) _ ?h; (case f => exact fun x _ => x); (case h => with_unfolding_all rfl)) (3 : Nat) [] Value.none Value.none Value.none (Value.str (Str.ofString "gmp.randoms") (318 : Nat)) none (Value.ref (150 : Nat)) Value.none (0 : Nat))) (List.toArray []))) ::
  ((nat_lit 152), (Obj.mk (Value.type "tuple") none (Data.seq (List.toArray [(Value.str (Str.ofString "place") (406 : Nat)), (Value.str (Str.ofString "row") (407 : Nat)), (Value.str (Str.ofString "w") (408 : Nat))]) (0 : Nat)) (List.toArray []))) ::
  ((nat_lit 153), (Obj.mk (Value.type "dict") none (Data.dict (List.toArray [(DictEntry.mk (PyData.keyHash P (Str.ofString "__module__")) (Value.str (Str.ofString "__module__") (383 : Nat)) (Value.str (Str.ofString "gmp.randoms") (318 : Nat))), (DictEntry.mk (PyData.keyHash P (Str.ofString "__firstlineno__")) (Value.str (Str.ofString "__firstlineno__") (387 : Nat)) (Value.int 89 (386 : Nat))), (DictEntry.mk (PyData.keyHash P (Str.ofString "__init__")) (Value.str (Str.ofString "__init__") (397 : Nat)) (Value.ref (144 : Nat))), (DictEntry.mk (PyData.keyHash P (Str.ofString "take")) (Value.str (Str.ofString "take") (405 : Nat)) (Value.ref (151 : Nat))), (DictEntry.mk (PyData.keyHash P (Str.ofString "__static_attributes__")) (Value.str (Str.ofString "__static_attributes__") (409 : Nat)) (Value.ref (152 : Nat))), (DictEntry.mk (PyData.keyHash P (Str.ofString "__dict__")) (Value.str (Str.ofString "__dict__") (411 : Nat)) (Value.ref (155 : Nat))), (DictEntry.mk (PyData.keyHash P (Str.ofString "__weakref__")) (Value.str (Str.ofString "__weakref__") (413 : Nat)) (Value.ref (156 : Nat))), (DictEntry.mk (PyData.keyHash P (Str.ofString "__doc__")) (Value.str (Str.ofString "__doc__") (414 : Nat)) Value.none)]) (4 : Nat)) (List.toArray []))) ::
  ((nat_lit 154), (Obj.mk (Value.type "type") none (Data.cls (ClassData.mk (Str.ofString "Lagged") [(Value.type "object")] [(Value.ref (154 : Nat)), (Value.type "object")] (153 : Nat) (Str.ofString "Lagged") Bool.true [] [] Bool.false none Bool.false)) (List.toArray [none, none, (some (Value.str (Str.ofString "Lagged") (376 : Nat))), (some (Value.str (Str.ofString "Lagged") (384 : Nat))), (some (Value.builtin "object.__new__")), (some (Value.bool Bool.true))]))) ::
  ((nat_lit 155), (Obj.mk (Value.type "getset_descriptor") none (Data.fields (List.toArray [(Value.str (Str.ofString "__dict__") (410 : Nat)), (Value.ref (154 : Nat)), (Value.builtin "function.__dict__"), (Value.builtin "function.__dict__#set")])) (List.toArray []))) ::
  ((nat_lit 156), (Obj.mk (Value.type "getset_descriptor") none (Data.fields (List.toArray [(Value.str (Str.ofString "__weakref__") (412 : Nat)), (Value.ref (154 : Nat)), (Value.builtin "ExceptionGroup.__weakref__"), Value.none])) (List.toArray []))) ::
  ((nat_lit 159), (Obj.mk (Value.type "tuple") none (Data.seq (List.toArray []) (0 : Nat)) (List.toArray []))) ::
  ((nat_lit 161), (Obj.mk (Value.type "tuple") none (Data.seq (List.toArray [(Value.str (Str.ofString "n") (420 : Nat))]) (0 : Nat)) (List.toArray []))) ::
  ((nat_lit 162), (Obj.mk (Value.type "tuple") none (Data.seq (List.toArray []) (0 : Nat)) (List.toArray []))) ::
  ((nat_lit 164), (Obj.mk (Value.type "code") none (Data.fields (List.toArray [(Value.str (Str.ofString "need_bits") (417 : Nat)), (Value.str (Str.ofString "need_bits") (418 : Nat)), (Value.str (Str.ofString "/claim/cut.py") (419 : Nat)), (Value.int 102 (0 : Nat)), (Value.int 1 (0 : Nat)), (Value.int 0 (0 : Nat)), (Value.int 0 (0 : Nat)), (Value.int 3 (0 : Nat)), (Value.ref (159 : Nat)), (Value.bool Bool.true), (Value.int 181 (0 : Nat)), (Value.ref (160 : Nat)), Value.none, (Value.ref (161 : Nat)), (Value.ref (162 : Nat)), (Value.ref (163 : Nat)), (Value.int 421 (0 : Nat)), (Value.int 102 (0 : Nat)), (Value.str (Str.ofString "/claim/cut.py") (422 : Nat))])) (List.toArray []))) ::
  ((nat_lit 165), (Obj.mk (Value.type "function") none (Data.func (FuncData.mk (Str.ofString "need_bits") (Str.ofString "need_bits") (by refine' (?f : (x : Arguments) → Mine.hd.parAt 15 0 = some x → Arguments) _ ?h; (case f => exact fun x _ => x); (case h => with_unfolding_all rfl)) (FuncBody.stmts (by refine' (?f : (x : (List Stmt)) → Mine.hd.bodyAt 15 0 = some x → (List Stmt)) _ ?h; (case f => exact fun x _ => x); (case h => with_unfolding_all rfl))) (by refine' (?f : (x : Scope) → Mine.hd.scopeAt 15 0 = some x → Scope) _ ?h; (case f => exact fun x _ => x); (case h => with_unfolding_all rfl)) (3 : Nat) [] Value.none Value.none Value.none (Value.str (Str.ofString "gmp.randoms") (318 : Nat)) none (Value.ref (164 : Nat)) Value.none (0 : Nat))) (List.toArray []))) ::
  ((nat_lit 166), (Obj.mk (Value.type "tuple") none (Data.seq (List.toArray []) (0 : Nat)) (List.toArray []))) ::
  ((nat_lit 168), (Obj.mk (Value.type "tuple") none (Data.seq (List.toArray [(Value.str (Str.ofString "source") (427 : Nat)), (Value.str (Str.ofString "n") (428 : Nat)), (Value.str (Str.ofString "w") (429 : Nat)), (Value.str (Str.ofString "found") (430 : Nat)), (Value.str (Str.ofString "have") (431 : Nat)), (Value.str (Str.ofString "part") (432 : Nat)), (Value.str (Str.ofString "many") (433 : Nat))]) (0 : Nat)) (List.toArray []))) ::
  ((nat_lit 169), (Obj.mk (Value.type "tuple") none (Data.seq (List.toArray []) (0 : Nat)) (List.toArray []))) ::
  ((nat_lit 171), (Obj.mk (Value.type "code") none (Data.fields (List.toArray [(Value.str (Str.ofString "random_bits") (424 : Nat)), (Value.str (Str.ofString "random_bits") (425 : Nat)), (Value.str (Str.ofString "/claim/cut.py") (426 : Nat)), (Value.int 105 (0 : Nat)), (Value.int 3 (0 : Nat)), (Value.int 0 (0 : Nat)), (Value.int 0 (0 : Nat)), (Value.int 3 (0 : Nat)), (Value.ref (166 : Nat)), (Value.bool Bool.true), (Value.int 181 (0 : Nat)), (Value.ref (167 : Nat)), Value.none, (Value.ref (168 : Nat)), (Value.ref (169 : Nat)), (Value.ref (170 : Nat)), (Value.int 434 (0 : Nat)), (Value.int 105 (0 : Nat)), (Value.str (Str.ofString "/claim/cut.py") (435 : Nat))])) (List.toArray []))) ::
  ((nat_lit 172), (Obj.mk (Value.type "function") none (Data.func (FuncData.mk (Str.ofString "random_bits") (Str.ofString "random_bits") (by refine' (?f : (x : Arguments) → Mine.hd.parAt 16 0 = some x → Arguments) _ ?h; (case f => exact fun x _ => x); (case h => with_unfolding_all rfl)) (FuncBody.stmts (by refine' (?f : (x : (List Stmt)) → Mine.hd.bodyAt 16 0 = some x → (List Stmt)) _ ?h; (case f => exact fun x _ => x); (case h => with_unfolding_all rfl))) (by refine' (?f : (x : Scope) → Mine.hd.scopeAt 16 0 = some x → Scope) _ ?h; (case f => exact fun x _ => x); (case h => with_unfolding_all rfl)) (3 : Nat) [] Value.none Value.none Value.none (Value.str (Str.ofString "gmp.randoms") (318 : Nat)) none (Value.ref (171 : Nat)) Value.none (0 : Nat))) (List.toArray []))) ::
  ((nat_lit 173), (Obj.mk (Value.type "tuple") none (Data.seq (List.toArray []) (0 : Nat)) (List.toArray []))) ::
  ((nat_lit 175), (Obj.mk (Value.type "tuple") none (Data.seq (List.toArray [(Value.str (Str.ofString "source") (440 : Nat)), (Value.str (Str.ofString "bound") (441 : Nat)), (Value.str (Str.ofString "w") (442 : Nat)), (Value.str (Str.ofString "many") (443 : Nat)), (Value.str (Str.ofString "found") (444 : Nat)), (Value.str (Str.ofString "turn") (445 : Nat))]) (0 : Nat)) (List.toArray []))) ::
  ((nat_lit 176), (Obj.mk (Value.type "tuple") none (Data.seq (List.toArray []) (0 : Nat)) (List.toArray []))) ::
  ((nat_lit 178), (Obj.mk (Value.type "code") none (Data.fields (List.toArray [(Value.str (Str.ofString "random_below") (437 : Nat)), (Value.str (Str.ofString "random_below") (438 : Nat)), (Value.str (Str.ofString "/claim/cut.py") (439 : Nat)), (Value.int 113 (0 : Nat)), (Value.int 3 (0 : Nat)), (Value.int 0 (0 : Nat)), (Value.int 0 (0 : Nat)), (Value.int 3 (0 : Nat)), (Value.ref (173 : Nat)), (Value.bool Bool.true), (Value.int 181 (0 : Nat)), (Value.ref (174 : Nat)), Value.none, (Value.ref (175 : Nat)), (Value.ref (176 : Nat)), (Value.ref (177 : Nat)), (Value.int 446 (0 : Nat)), (Value.int 113 (0 : Nat)), (Value.str (Str.ofString "/claim/cut.py") (447 : Nat))])) (List.toArray []))) ::
  ((nat_lit 179), (Obj.mk (Value.type "function") none (Data.func (FuncData.mk (Str.ofString "random_below") (Str.ofString "random_below") (by refine' (?f : (x : Arguments) → Mine.hd.parAt 17 0 = some x → Arguments) _ ?h; (case f => exact fun x _ => x); (case h => with_unfolding_all rfl)) (FuncBody.stmts (by refine' (?f : (x : (List Stmt)) → Mine.hd.bodyAt 17 0 = some x → (List Stmt)) _ ?h; (case f => exact fun x _ => x); (case h => with_unfolding_all rfl))) (by refine' (?f : (x : Scope) → Mine.hd.scopeAt 17 0 = some x → Scope) _ ?h; (case f => exact fun x _ => x); (case h => with_unfolding_all rfl)) (3 : Nat) [] Value.none Value.none Value.none (Value.str (Str.ofString "gmp.randoms") (318 : Nat)) none (Value.ref (178 : Nat)) Value.none (0 : Nat))) (List.toArray []))) ::
  ((nat_lit 180), (Obj.mk (Value.type "tuple") none (Data.seq (List.toArray []) (0 : Nat)) (List.toArray []))) ::
  ((nat_lit 182), (Obj.mk (Value.type "tuple") none (Data.seq (List.toArray [(Value.str (Str.ofString "source") (452 : Nat)), (Value.str (Str.ofString "n") (453 : Nat)), (Value.str (Str.ofString "w") (454 : Nat)), (Value.str (Str.ofString "found") (455 : Nat)), (Value.str (Str.ofString "value") (456 : Nat)), (Value.str (Str.ofString "limb") (457 : Nat))]) (0 : Nat)) (List.toArray []))) ::
  ((nat_lit 183), (Obj.mk (Value.type "tuple") none (Data.seq (List.toArray []) (0 : Nat)) (List.toArray []))) ::
  ((nat_lit 185), (Obj.mk (Value.type "code") none (Data.fields (List.toArray [(Value.str (Str.ofString "small_below") (449 : Nat)), (Value.str (Str.ofString "small_below") (450 : Nat)), (Value.str (Str.ofString "/claim/cut.py") (451 : Nat)), (Value.int 123 (0 : Nat)), (Value.int 3 (0 : Nat)), (Value.int 0 (0 : Nat)), (Value.int 0 (0 : Nat)), (Value.int 3 (0 : Nat)), (Value.ref (180 : Nat)), (Value.bool Bool.true), (Value.int 181 (0 : Nat)), (Value.ref (181 : Nat)), Value.none, (Value.ref (182 : Nat)), (Value.ref (183 : Nat)), (Value.ref (184 : Nat)), (Value.int 458 (0 : Nat)), (Value.int 123 (0 : Nat)), (Value.str (Str.ofString "/claim/cut.py") (459 : Nat))])) (List.toArray []))) ::
  ((nat_lit 186), (Obj.mk (Value.type "function") none (Data.func (FuncData.mk (Str.ofString "small_below") (Str.ofString "small_below") (by refine' (?f : (x : Arguments) → Mine.hd.parAt 18 0 = some x → Arguments) _ ?h; (case f => exact fun x _ => x); (case h => with_unfolding_all rfl)) (FuncBody.stmts (by refine' (?f : (x : (List Stmt)) → Mine.hd.bodyAt 18 0 = some x → (List Stmt)) _ ?h; (case f => exact fun x _ => x); (case h => with_unfolding_all rfl))) (by refine' (?f : (x : Scope) → Mine.hd.scopeAt 18 0 = some x → Scope) _ ?h; (case f => exact fun x _ => x); (case h => with_unfolding_all rfl)) (3 : Nat) [] Value.none Value.none Value.none (Value.str (Str.ofString "gmp.randoms") (318 : Nat)) none (Value.ref (185 : Nat)) Value.none (0 : Nat))) (List.toArray []))) ::
  ((nat_lit 187), (Obj.mk (Value.type "tuple") none (Data.seq (List.toArray []) (0 : Nat)) (List.toArray []))) ::
  ((nat_lit 189), (Obj.mk (Value.type "tuple") none (Data.seq (List.toArray [(Value.str (Str.ofString "n") (464 : Nat)), (Value.str (Str.ofString "w") (465 : Nat)), (Value.str (Str.ofString "found") (466 : Nat))]) (0 : Nat)) (List.toArray []))) ::
  ((nat_lit 190), (Obj.mk (Value.type "tuple") none (Data.seq (List.toArray []) (0 : Nat)) (List.toArray []))) ::
  ((nat_lit 192), (Obj.mk (Value.type "code") none (Data.fields (List.toArray [(Value.str (Str.ofString "small_number") (461 : Nat)), (Value.str (Str.ofString "small_number") (462 : Nat)), (Value.str (Str.ofString "/claim/cut.py") (463 : Nat)), (Value.int 129 (0 : Nat)), (Value.int 2 (0 : Nat)), (Value.int 0 (0 : Nat)), (Value.int 0 (0 : Nat)), (Value.int 3 (0 : Nat)), (Value.ref (187 : Nat)), (Value.bool Bool.true), (Value.int 181 (0 : Nat)), (Value.ref (188 : Nat)), Value.none, (Value.ref (189 : Nat)), (Value.ref (190 : Nat)), (Value.ref (191 : Nat)), (Value.int 467 (0 : Nat)), (Value.int 129 (0 : Nat)), (Value.str (Str.ofString "/claim/cut.py") (468 : Nat))])) (List.toArray []))) ::
  ((nat_lit 193), (Obj.mk (Value.type "function") none (Data.func (FuncData.mk (Str.ofString "small_number") (Str.ofString "small_number") (by refine' (?f : (x : Arguments) → Mine.hd.parAt 19 0 = some x → Arguments) _ ?h; (case f => exact fun x _ => x); (case h => with_unfolding_all rfl)) (FuncBody.stmts (by refine' (?f : (x : (List Stmt)) → Mine.hd.bodyAt 19 0 = some x → (List Stmt)) _ ?h; (case f => exact fun x _ => x); (case h => with_unfolding_all rfl))) (by refine' (?f : (x : Scope) → Mine.hd.scopeAt 19 0 = some x → Scope) _ ?h; (case f => exact fun x _ => x); (case h => with_unfolding_all rfl)) (3 : Nat) [] Value.none Value.none Value.none (Value.str (Str.ofString "gmp.randoms") (318 : Nat)) none (Value.ref (192 : Nat)) Value.none (0 : Nat))) (List.toArray []))) ::
  ((nat_lit 194), (Obj.mk (Value.type "tuple") none (Data.seq (List.toArray []) (0 : Nat)) (List.toArray []))) ::
  ((nat_lit 196), (Obj.mk (Value.type "tuple") none (Data.seq (List.toArray [(Value.str (Str.ofString "source") (473 : Nat)), (Value.str (Str.ofString "items") (474 : Nat)), (Value.str (Str.ofString "w") (475 : Nat)), (Value.str (Str.ofString "found") (476 : Nat)), (Value.str (Str.ofString "at") (477 : Nat)), (Value.str (Str.ofString "spot") (478 : Nat))]) (0 : Nat)) (List.toArray []))) ::
  ((nat_lit 197), (Obj.mk (Value.type "tuple") none (Data.seq (List.toArray []) (0 : Nat)) (List.toArray []))) ::
  ((nat_lit 199), (Obj.mk (Value.type "code") none (Data.fields (List.toArray [(Value.str (Str.ofString "shuffled") (470 : Nat)), (Value.str (Str.ofString "shuffled") (471 : Nat)), (Value.str (Str.ofString "/claim/cut.py") (472 : Nat)), (Value.int 135 (0 : Nat)), (Value.int 3 (0 : Nat)), (Value.int 0 (0 : Nat)), (Value.int 0 (0 : Nat)), (Value.int 3 (0 : Nat)), (Value.ref (194 : Nat)), (Value.bool Bool.true), (Value.int 181 (0 : Nat)), (Value.ref (195 : Nat)), Value.none, (Value.ref (196 : Nat)), (Value.ref (197 : Nat)), (Value.ref (198 : Nat)), (Value.int 479 (0 : Nat)), (Value.int 135 (0 : Nat)), (Value.str (Str.ofString "/claim/cut.py") (480 : Nat))])) (List.toArray []))) ::
  ((nat_lit 200), (Obj.mk (Value.type "function") none (Data.func (FuncData.mk (Str.ofString "shuffled") (Str.ofString "shuffled") (by refine' (?f : (x : Arguments) → Mine.hd.parAt 20 0 = some x → Arguments) _ ?h; (case f => exact fun x _ => x); (case h => with_unfolding_all rfl)) (FuncBody.stmts (by refine' (?f : (x : (List Stmt)) → Mine.hd.bodyAt 20 0 = some x → (List Stmt)) _ ?h; (case f => exact fun x _ => x); (case h => with_unfolding_all rfl))) (by refine' (?f : (x : Scope) → Mine.hd.scopeAt 20 0 = some x → Scope) _ ?h; (case f => exact fun x _ => x); (case h => with_unfolding_all rfl)) (3 : Nat) [] Value.none Value.none Value.none (Value.str (Str.ofString "gmp.randoms") (318 : Nat)) none (Value.ref (199 : Nat)) Value.none (0 : Nat))) (List.toArray []))) ::
  ((nat_lit 201), (Obj.mk (Value.type "tuple") none (Data.seq (List.toArray []) (0 : Nat)) (List.toArray []))) ::
  ((nat_lit 203), (Obj.mk (Value.type "tuple") none (Data.seq (List.toArray [(Value.str (Str.ofString "a") (487 : Nat)), (Value.str (Str.ofString "b") (488 : Nat)), (Value.str (Str.ofString "w") (489 : Nat)), (Value.str (Str.ofString "found") (490 : Nat)), (Value.str (Str.ofString "mask") (491 : Nat)), (Value.str (Str.ofString "at") (492 : Nat)), (Value.str (Str.ofString "limb") (493 : Nat)), (Value.str (Str.ofString "carry") (494 : Nat)), (Value.str (Str.ofString "spot") (495 : Nat)), (Value.str (Str.ofString "other") (496 : Nat))]) (0 : Nat)) (List.toArray []))) ::
  ((nat_lit 204), (Obj.mk (Value.type "tuple") none (Data.seq (List.toArray []) (0 : Nat)) (List.toArray []))) ::
  ((nat_lit 206), (Obj.mk (Value.type "code") none (Data.fields (List.toArray [(Value.str (Str.ofString "mul_school") (484 : Nat)), (Value.str (Str.ofString "mul_school") (485 : Nat)), (Value.str (Str.ofString "/claim/cut.py") (486 : Nat)), (Value.int 142 (0 : Nat)), (Value.int 3 (0 : Nat)), (Value.int 0 (0 : Nat)), (Value.int 0 (0 : Nat)), (Value.int 3 (0 : Nat)), (Value.ref (201 : Nat)), (Value.bool Bool.true), (Value.int 181 (0 : Nat)), (Value.ref (202 : Nat)), Value.none, (Value.ref (203 : Nat)), (Value.ref (204 : Nat)), (Value.ref (205 : Nat)), (Value.int 497 (0 : Nat)), (Value.int 142 (0 : Nat)), (Value.str (Str.ofString "/claim/cut.py") (498 : Nat))])) (List.toArray []))) ::
  ((nat_lit 207), (Obj.mk (Value.type "function") none (Data.func (FuncData.mk (Str.ofString "mul_school") (Str.ofString "mul_school") (by refine' (?f : (x : Arguments) → Mine.hd.parAt 22 0 = some x → Arguments) _ ?h; (case f => exact fun x _ => x); (case h => with_unfolding_all rfl)) (FuncBody.stmts (by refine' (?f : (x : (List Stmt)) → Mine.hd.bodyAt 22 0 = some x → (List Stmt)) _ ?h; (case f => exact fun x _ => x); (case h => with_unfolding_all rfl))) (by refine' (?f : (x : Scope) → Mine.hd.scopeAt 22 0 = some x → Scope) _ ?h; (case f => exact fun x _ => x); (case h => with_unfolding_all rfl)) (3 : Nat) [] Value.none Value.none Value.none (Value.str (Str.ofString "gmp.school") (482 : Nat)) none (Value.ref (206 : Nat)) Value.none (0 : Nat))) (List.toArray []))) ::
  ((nat_lit 208), (Obj.mk (Value.type "tuple") none (Data.seq (List.toArray []) (0 : Nat)) (List.toArray []))) ::
  ((nat_lit 210), (Obj.mk (Value.type "tuple") none (Data.seq (List.toArray [(Value.str (Str.ofString "can") (505 : Nat)), (Value.str (Str.ofString "many") (506 : Nat))]) (0 : Nat)) (List.toArray []))) ::
  ((nat_lit 211), (Obj.mk (Value.type "tuple") none (Data.seq (List.toArray []) (0 : Nat)) (List.toArray []))) ::
  ((nat_lit 213), (Obj.mk (Value.type "code") none (Data.fields (List.toArray [(Value.str (Str.ofString "_law_poured") (502 : Nat)), (Value.str (Str.ofString "_law_poured") (503 : Nat)), (Value.str (Str.ofString "/claim/cut.py") (504 : Nat)), (Value.int 153 (0 : Nat)), (Value.int 2 (0 : Nat)), (Value.int 0 (0 : Nat)), (Value.int 0 (0 : Nat)), (Value.int 3 (0 : Nat)), (Value.ref (208 : Nat)), (Value.bool Bool.true), (Value.int 181 (0 : Nat)), (Value.ref (209 : Nat)), Value.none, (Value.ref (210 : Nat)), (Value.ref (211 : Nat)), (Value.ref (212 : Nat)), (Value.int 507 (0 : Nat)), (Value.int 153 (0 : Nat)), (Value.str (Str.ofString "/claim/cut.py") (508 : Nat))])) (List.toArray []))) ::
  ((nat_lit 214), (Obj.mk (Value.type "function") none (Data.func (FuncData.mk (Str.ofString "_law_poured") (Str.ofString "_law_poured") (by refine' (?f : (x : Arguments) → Mine.hd.parAt 24 0 = some x → Arguments) _ ?h; (case f => exact fun x _ => x); (case h => with_unfolding_all rfl)) (FuncBody.stmts (by refine' (?f : (x : (List Stmt)) → Mine.hd.bodyAt 24 0 = some x → (List Stmt)) _ ?h; (case f => exact fun x _ => x); (case h => with_unfolding_all rfl))) (by refine' (?f : (x : Scope) → Mine.hd.scopeAt 24 0 = some x → Scope) _ ?h; (case f => exact fun x _ => x); (case h => with_unfolding_all rfl)) (3 : Nat) [] Value.none Value.none Value.none (Value.str (Str.ofString "law_sj0076_01") (500 : Nat)) none (Value.ref (213 : Nat)) Value.none (0 : Nat))) (List.toArray []))) ::
  ((nat_lit 215), (Obj.mk (Value.type "tuple") none (Data.seq (List.toArray []) (0 : Nat)) (List.toArray []))) ::
  ((nat_lit 217), (Obj.mk (Value.type "tuple") none (Data.seq (List.toArray [(Value.str (Str.ofString "number") (513 : Nat)), (Value.str (Str.ofString "w") (514 : Nat)), (Value.str (Str.ofString "found") (515 : Nat))]) (0 : Nat)) (List.toArray []))) ::
  ((nat_lit 218), (Obj.mk (Value.type "tuple") none (Data.seq (List.toArray []) (0 : Nat)) (List.toArray []))) ::
  ((nat_lit 220), (Obj.mk (Value.type "code") none (Data.fields (List.toArray [(Value.str (Str.ofString "_law_limbs") (510 : Nat)), (Value.str (Str.ofString "_law_limbs") (511 : Nat)), (Value.str (Str.ofString "/claim/cut.py") (512 : Nat)), (Value.int 158 (0 : Nat)), (Value.int 2 (0 : Nat)), (Value.int 0 (0 : Nat)), (Value.int 0 (0 : Nat)), (Value.int 3 (0 : Nat)), (Value.ref (215 : Nat)), (Value.bool Bool.true), (Value.int 181 (0 : Nat)), (Value.ref (216 : Nat)), Value.none, (Value.ref (217 : Nat)), (Value.ref (218 : Nat)), (Value.ref (219 : Nat)), (Value.int 516 (0 : Nat)), (Value.int 158 (0 : Nat)), (Value.str (Str.ofString "/claim/cut.py") (517 : Nat))])) (List.toArray []))) ::
  ((nat_lit 221), (Obj.mk (Value.type "function") none (Data.func (FuncData.mk (Str.ofString "_law_limbs") (Str.ofString "_law_limbs") (by refine' (?f : (x : Arguments) → Mine.hd.parAt 25 0 = some x → Arguments) _ ?h; (case f => exact fun x _ => x); (case h => with_unfolding_all rfl)) (FuncBody.stmts (by refine' (?f : (x : (List Stmt)) → Mine.hd.bodyAt 25 0 = some x → (List Stmt)) _ ?h; (case f => exact fun x _ => x); (case h => with_unfolding_all rfl))) (by refine' (?f : (x : Scope) → Mine.hd.scopeAt 25 0 = some x → Scope) _ ?h; (case f => exact fun x _ => x); (case h => with_unfolding_all rfl)) (3 : Nat) [] Value.none Value.none Value.none (Value.str (Str.ofString "law_sj0076_01") (500 : Nat)) none (Value.ref (220 : Nat)) Value.none (0 : Nat))) (List.toArray []))) ::
  ((nat_lit 222), (Obj.mk (Value.type "tuple") none (Data.seq (List.toArray []) (0 : Nat)) (List.toArray []))) ::
  ((nat_lit 225), (Obj.mk (Value.type "code") none (Data.fields (List.toArray [(Value.str (Str.ofString "_law_number") (519 : Nat)), (Value.str (Str.ofString "_law_number") (520 : Nat)), (Value.str (Str.ofString "/claim/cut.py") (521 : Nat)), (Value.int 164 (0 : Nat)), (Value.int 2 (0 : Nat)), (Value.int 0 (0 : Nat)), (Value.int 0 (0 : Nat)), (Value.int 3 (0 : Nat)), (Value.ref (222 : Nat)), (Value.bool Bool.true), (Value.int 181 (0 : Nat)), (Value.ref (223 : Nat)), Value.none, Value.none, Value.none, (Value.ref (224 : Nat)), (Value.int 522 (0 : Nat)), (Value.int 164 (0 : Nat)), (Value.str (Str.ofString "/claim/cut.py") (523 : Nat))])) (List.toArray []))) ::
  ((nat_lit 226), (Obj.mk (Value.type "function") none (Data.func (FuncData.mk (Str.ofString "_law_number") (Str.ofString "_law_number") (by refine' (?f : (x : Arguments) → Mine.hd.parAt 26 0 = some x → Arguments) _ ?h; (case f => exact fun x _ => x); (case h => with_unfolding_all rfl)) (FuncBody.stmts (by refine' (?f : (x : (List Stmt)) → Mine.hd.bodyAt 26 0 = some x → (List Stmt)) _ ?h; (case f => exact fun x _ => x); (case h => with_unfolding_all rfl))) (by refine' (?f : (x : Scope) → Mine.hd.scopeAt 26 0 = some x → Scope) _ ?h; (case f => exact fun x _ => x); (case h => with_unfolding_all rfl)) (3 : Nat) [] Value.none Value.none Value.none (Value.str (Str.ofString "law_sj0076_01") (500 : Nat)) none (Value.ref (225 : Nat)) Value.none (0 : Nat))) (List.toArray []))) ::
  ((nat_lit 227), (Obj.mk (Value.type "tuple") none (Data.seq (List.toArray []) (0 : Nat)) (List.toArray []))) ::
  ((nat_lit 230), (Obj.mk (Value.type "code") none (Data.fields (List.toArray [(Value.str (Str.ofString "_law_begun") (525 : Nat)), (Value.str (Str.ofString "_law_begun") (526 : Nat)), (Value.str (Str.ofString "/claim/cut.py") (527 : Nat)), (Value.int 166 (0 : Nat)), (Value.int 2 (0 : Nat)), (Value.int 0 (0 : Nat)), (Value.int 0 (0 : Nat)), (Value.int 3 (0 : Nat)), (Value.ref (227 : Nat)), (Value.bool Bool.true), (Value.int 181 (0 : Nat)), (Value.ref (228 : Nat)), Value.none, Value.none, Value.none, (Value.ref (229 : Nat)), (Value.int 528 (0 : Nat)), (Value.int 166 (0 : Nat)), (Value.str (Str.ofString "/claim/cut.py") (529 : Nat))])) (List.toArray []))) ::
  ((nat_lit 231), (Obj.mk (Value.type "function") none (Data.func (FuncData.mk (Str.ofString "_law_begun") (Str.ofString "_law_begun") (by refine' (?f : (x : Arguments) → Mine.hd.parAt 27 0 = some x → Arguments) _ ?h; (case f => exact fun x _ => x); (case h => with_unfolding_all rfl)) (FuncBody.stmts (by refine' (?f : (x : (List Stmt)) → Mine.hd.bodyAt 27 0 = some x → (List Stmt)) _ ?h; (case f => exact fun x _ => x); (case h => with_unfolding_all rfl))) (by refine' (?f : (x : Scope) → Mine.hd.scopeAt 27 0 = some x → Scope) _ ?h; (case f => exact fun x _ => x); (case h => with_unfolding_all rfl)) (3 : Nat) [] Value.none Value.none Value.none (Value.str (Str.ofString "law_sj0076_01") (500 : Nat)) none (Value.ref (230 : Nat)) Value.none (0 : Nat))) (List.toArray []))) ::
  ((nat_lit 232), (Obj.mk (Value.type "tuple") none (Data.seq (List.toArray []) (0 : Nat)) (List.toArray []))) ::
  ((nat_lit 234), (Obj.mk (Value.type "tuple") none (Data.seq (List.toArray [(Value.str (Str.ofString "source") (534 : Nat)), (Value.str (Str.ofString "told") (535 : Nat)), (Value.str (Str.ofString "w") (536 : Nat))]) (0 : Nat)) (List.toArray []))) ::
  ((nat_lit 235), (Obj.mk (Value.type "tuple") none (Data.seq (List.toArray []) (0 : Nat)) (List.toArray []))) ::
  ((nat_lit 237), (Obj.mk (Value.type "code") none (Data.fields (List.toArray [(Value.str (Str.ofString "_law_kept") (531 : Nat)), (Value.str (Str.ofString "_law_kept") (532 : Nat)), (Value.str (Str.ofString "/claim/cut.py") (533 : Nat)), (Value.int 171 (0 : Nat)), (Value.int 3 (0 : Nat)), (Value.int 0 (0 : Nat)), (Value.int 0 (0 : Nat)), (Value.int 3 (0 : Nat)), (Value.ref (232 : Nat)), (Value.bool Bool.true), (Value.int 181 (0 : Nat)), (Value.ref (233 : Nat)), Value.none, (Value.ref (234 : Nat)), (Value.ref (235 : Nat)), (Value.ref (236 : Nat)), (Value.int 537 (0 : Nat)), (Value.int 171 (0 : Nat)), (Value.str (Str.ofString "/claim/cut.py") (538 : Nat))])) (List.toArray []))) ::
  ((nat_lit 238), (Obj.mk (Value.type "function") none (Data.func (FuncData.mk (Str.ofString "_law_kept") (Str.ofString "_law_kept") (by refine' (?f : (x : Arguments) → Mine.hd.parAt 28 0 = some x → Arguments) _ ?h; (case f => exact fun x _ => x); (case h => with_unfolding_all rfl)) (FuncBody.stmts (by refine' (?f : (x : (List Stmt)) → Mine.hd.bodyAt 28 0 = some x → (List Stmt)) _ ?h; (case f => exact fun x _ => x); (case h => with_unfolding_all rfl))) (by refine' (?f : (x : Scope) → Mine.hd.scopeAt 28 0 = some x → Scope) _ ?h; (case f => exact fun x _ => x); (case h => with_unfolding_all rfl)) (3 : Nat) [] Value.none Value.none Value.none (Value.str (Str.ofString "law_sj0076_01") (500 : Nat)) none (Value.ref (237 : Nat)) Value.none (0 : Nat))) (List.toArray []))) ::
  ((nat_lit 239), (Obj.mk (Value.type "tuple") none (Data.seq (List.toArray []) (0 : Nat)) (List.toArray []))) ::
  ((nat_lit 241), (Obj.mk (Value.type "tuple") none (Data.seq (List.toArray [(Value.str (Str.ofString "source") (543 : Nat)), (Value.str (Str.ofString "deed") (544 : Nat)), (Value.str (Str.ofString "w") (545 : Nat)), (Value.str (Str.ofString "form") (546 : Nat)), (Value.str (Str.ofString "number") (547 : Nat))]) (0 : Nat)) (List.toArray []))) ::
  ((nat_lit 242), (Obj.mk (Value.type "tuple") none (Data.seq (List.toArray []) (0 : Nat)) (List.toArray []))) ::
  ((nat_lit 244), (Obj.mk (Value.type "code") none (Data.fields (List.toArray [(Value.str (Str.ofString "_law_taken") (540 : Nat)), (Value.str (Str.ofString "_law_taken") (541 : Nat)), (Value.str (Str.ofString "/claim/cut.py") (542 : Nat)), (Value.int 175 (0 : Nat)), (Value.int 3 (0 : Nat)), (Value.int 0 (0 : Nat)), (Value.int 0 (0 : Nat)), (Value.int 3 (0 : Nat)), (Value.ref (239 : Nat)), (Value.bool Bool.true), (Value.int 181 (0 : Nat)), (Value.ref (240 : Nat)), Value.none, (Value.ref (241 : Nat)), (Value.ref (242 : Nat)), (Value.ref (243 : Nat)), (Value.int 548 (0 : Nat)), (Value.int 175 (0 : Nat)), (Value.str (Str.ofString "/claim/cut.py") (549 : Nat))])) (List.toArray []))) ::
  ((nat_lit 245), (Obj.mk (Value.type "function") none (Data.func (FuncData.mk (Str.ofString "_law_taken") (Str.ofString "_law_taken") (by refine' (?f : (x : Arguments) → Mine.hd.parAt 29 0 = some x → Arguments) _ ?h; (case f => exact fun x _ => x); (case h => with_unfolding_all rfl)) (FuncBody.stmts (by refine' (?f : (x : (List Stmt)) → Mine.hd.bodyAt 29 0 = some x → (List Stmt)) _ ?h; (case f => exact fun x _ => x); (case h => with_unfolding_all rfl))) (by refine' (?f : (x : Scope) → Mine.hd.scopeAt 29 0 = some x → Scope) _ ?h; (case f => exact fun x _ => x); (case h => with_unfolding_all rfl)) (3 : Nat) [] Value.none Value.none Value.none (Value.str (Str.ofString "law_sj0076_01") (500 : Nat)) none (Value.ref (244 : Nat)) Value.none (0 : Nat))) (List.toArray []))) ::
  ((nat_lit 246), (Obj.mk (Value.type "tuple") none (Data.seq (List.toArray []) (0 : Nat)) (List.toArray []))) ::
  ((nat_lit 248), (Obj.mk (Value.type "tuple") none (Data.seq (List.toArray [(Value.str (Str.ofString "told") (554 : Nat)), (Value.str (Str.ofString "deed") (555 : Nat)), (Value.str (Str.ofString "form") (556 : Nat)), (Value.str (Str.ofString "number") (557 : Nat))]) (0 : Nat)) (List.toArray []))) ::
  ((nat_lit 249), (Obj.mk (Value.type "tuple") none (Data.seq (List.toArray []) (0 : Nat)) (List.toArray []))) ::
  ((nat_lit 251), (Obj.mk (Value.type "code") none (Data.fields (List.toArray [(Value.str (Str.ofString "_law_is_within") (551 : Nat)), (Value.str (Str.ofString "_law_is_within") (552 : Nat)), (Value.str (Str.ofString "/claim/cut.py") (553 : Nat)), (Value.int 191 (0 : Nat)), (Value.int 2 (0 : Nat)), (Value.int 0 (0 : Nat)), (Value.int 0 (0 : Nat)), (Value.int 3 (0 : Nat)), (Value.ref (246 : Nat)), (Value.bool Bool.true), (Value.int 181 (0 : Nat)), (Value.ref (247 : Nat)), Value.none, (Value.ref (248 : Nat)), (Value.ref (249 : Nat)), (Value.ref (250 : Nat)), (Value.int 558 (0 : Nat)), (Value.int 191 (0 : Nat)), (Value.str (Str.ofString "/claim/cut.py") (559 : Nat))])) (List.toArray []))) ::
  ((nat_lit 252), (Obj.mk (Value.type "function") none (Data.func (FuncData.mk (Str.ofString "_law_is_within") (Str.ofString "_law_is_within") (by refine' (?f : (x : Arguments) → Mine.hd.parAt 30 0 = some x → Arguments) _ ?h; (case f => exact fun x _ => x); (case h => with_unfolding_all rfl)) (FuncBody.stmts (by refine' (?f : (x : (List Stmt)) → Mine.hd.bodyAt 30 0 = some x → (List Stmt)) _ ?h; (case f => exact fun x _ => x); (case h => with_unfolding_all rfl))) (by refine' (?f : (x : Scope) → Mine.hd.scopeAt 30 0 = some x → Scope) _ ?h; (case f => exact fun x _ => x); (case h => with_unfolding_all rfl)) (3 : Nat) [] Value.none Value.none Value.none (Value.str (Str.ofString "law_sj0076_01") (500 : Nat)) none (Value.ref (251 : Nat)) Value.none (0 : Nat))) (List.toArray []))) ::
  ((nat_lit 253), (Obj.mk (Value.type "tuple") none (Data.seq (List.toArray []) (0 : Nat)) (List.toArray []))) ::
  ((nat_lit 255), (Obj.mk (Value.type "tuple") none (Data.seq (List.toArray [(Value.str (Str.ofString "can") (564 : Nat)), (Value.str (Str.ofString "is_row") (565 : Nat)), (Value.str (Str.ofString "form") (566 : Nat)), (Value.str (Str.ofString "number") (567 : Nat))]) (0 : Nat)) (List.toArray []))) ::
  ((nat_lit 256), (Obj.mk (Value.type "tuple") none (Data.seq (List.toArray []) (0 : Nat)) (List.toArray []))) ::
  ((nat_lit 258), (Obj.mk (Value.type "code") none (Data.fields (List.toArray [(Value.str (Str.ofString "_law_deed") (561 : Nat)), (Value.str (Str.ofString "_law_deed") (562 : Nat)), (Value.str (Str.ofString "/claim/cut.py") (563 : Nat)), (Value.int 200 (0 : Nat)), (Value.int 2 (0 : Nat)), (Value.int 0 (0 : Nat)), (Value.int 0 (0 : Nat)), (Value.int 3 (0 : Nat)), (Value.ref (253 : Nat)), (Value.bool Bool.true), (Value.int 181 (0 : Nat)), (Value.ref (254 : Nat)), Value.none, (Value.ref (255 : Nat)), (Value.ref (256 : Nat)), (Value.ref (257 : Nat)), (Value.int 568 (0 : Nat)), (Value.int 200 (0 : Nat)), (Value.str (Str.ofString "/claim/cut.py") (569 : Nat))])) (List.toArray []))) ::
  ((nat_lit 259), (Obj.mk (Value.type "function") none (Data.func (FuncData.mk (Str.ofString "_law_deed") (Str.ofString "_law_deed") (by refine' (?f : (x : Arguments) → Mine.hd.parAt 31 0 = some x → Arguments) _ ?h; (case f => exact fun x _ => x); (case h => with_unfolding_all rfl)) (FuncBody.stmts (by refine' (?f : (x : (List Stmt)) → Mine.hd.bodyAt 31 0 = some x → (List Stmt)) _ ?h; (case f => exact fun x _ => x); (case h => with_unfolding_all rfl))) (by refine' (?f : (x : Scope) → Mine.hd.scopeAt 31 0 = some x → Scope) _ ?h; (case f => exact fun x _ => x); (case h => with_unfolding_all rfl)) (3 : Nat) [] Value.none Value.none Value.none (Value.str (Str.ofString "law_sj0076_01") (500 : Nat)) none (Value.ref (258 : Nat)) Value.none (0 : Nat))) (List.toArray []))) ::
  ((nat_lit 260), (Obj.mk (Value.type "tuple") none (Data.seq (List.toArray []) (0 : Nat)) (List.toArray []))) ::
  ((nat_lit 262), (Obj.mk (Value.type "tuple") none (Data.seq (List.toArray [(Value.str (Str.ofString "source") (574 : Nat)), (Value.str (Str.ofString "ahead") (575 : Nat)), (Value.str (Str.ofString "w") (576 : Nat)), (Value.str (Str.ofString "row") (577 : Nat)), (Value.str (Str.ofString "place") (578 : Nat)), (Value.str (Str.ofString "turn") (579 : Nat))]) (0 : Nat)) (List.toArray []))) ::
  ((nat_lit 263), (Obj.mk (Value.type "tuple") none (Data.seq (List.toArray []) (0 : Nat)) (List.toArray []))) ::
  ((nat_lit 265), (Obj.mk (Value.type "code") none (Data.fields (List.toArray [(Value.str (Str.ofString "_law_is_led") (571 : Nat)), (Value.str (Str.ofString "_law_is_led") (572 : Nat)), (Value.str (Str.ofString "/claim/cut.py") (573 : Nat)), (Value.int 207 (0 : Nat)), (Value.int 3 (0 : Nat)), (Value.int 0 (0 : Nat)), (Value.int 0 (0 : Nat)), (Value.int 3 (0 : Nat)), (Value.ref (260 : Nat)), (Value.bool Bool.true), (Value.int 181 (0 : Nat)), (Value.ref (261 : Nat)), Value.none, (Value.ref (262 : Nat)), (Value.ref (263 : Nat)), (Value.ref (264 : Nat)), (Value.int 580 (0 : Nat)), (Value.int 207 (0 : Nat)), (Value.str (Str.ofString "/claim/cut.py") (581 : Nat))])) (List.toArray []))) ::
  ((nat_lit 266), (Obj.mk (Value.type "function") none (Data.func (FuncData.mk (Str.ofString "_law_is_led") (Str.ofString "_law_is_led") (by refine' (?f : (x : Arguments) → Mine.hd.parAt 32 0 = some x → Arguments) _ ?h; (case f => exact fun x _ => x); (case h => with_unfolding_all rfl)) (FuncBody.stmts (by refine' (?f : (x : (List Stmt)) → Mine.hd.bodyAt 32 0 = some x → (List Stmt)) _ ?h; (case f => exact fun x _ => x); (case h => with_unfolding_all rfl))) (by refine' (?f : (x : Scope) → Mine.hd.scopeAt 32 0 = some x → Scope) _ ?h; (case f => exact fun x _ => x); (case h => with_unfolding_all rfl)) (3 : Nat) [] Value.none Value.none Value.none (Value.str (Str.ofString "law_sj0076_01") (500 : Nat)) none (Value.ref (265 : Nat)) Value.none (0 : Nat))) (List.toArray []))) ::
  ((nat_lit 267), (Obj.mk (Value.type "tuple") none (Data.seq (List.toArray []) (0 : Nat)) (List.toArray []))) ::
  ((nat_lit 270), (Obj.mk (Value.type "code") none (Data.fields (List.toArray [(Value.str (Str.ofString "law") (583 : Nat)), (Value.str (Str.ofString "law") (584 : Nat)), (Value.str (Str.ofString "/claim/cut.py") (585 : Nat)), (Value.int 214 (0 : Nat)), (Value.int 1 (0 : Nat)), (Value.int 0 (0 : Nat)), (Value.int 0 (0 : Nat)), (Value.int 3 (0 : Nat)), (Value.ref (267 : Nat)), (Value.bool Bool.true), (Value.int 181 (0 : Nat)), (Value.ref (268 : Nat)), Value.none, Value.none, Value.none, (Value.ref (269 : Nat)), (Value.int 586 (0 : Nat)), (Value.int 214 (0 : Nat)), (Value.str (Str.ofString "/claim/cut.py") (587 : Nat))])) (List.toArray []))) ::
  ((nat_lit 271), (Obj.mk (Value.type "function") none (Data.func (FuncData.mk (Str.ofString "law") (Str.ofString "law") (by refine' (?f : (x : Arguments) → Mine.hd.parAt 33 0 = some x → Arguments) _ ?h; (case f => exact fun x _ => x); (case h => with_unfolding_all rfl)) (FuncBody.stmts (by refine' (?f : (x : (List Stmt)) → Mine.hd.bodyAt 33 0 = some x → (List Stmt)) _ ?h; (case f => exact fun x _ => x); (case h => with_unfolding_all rfl))) (by refine' (?f : (x : Scope) → Mine.hd.scopeAt 33 0 = some x → Scope) _ ?h; (case f => exact fun x _ => x); (case h => with_unfolding_all rfl)) (3 : Nat) [] Value.none Value.none Value.none (Value.str (Str.ofString "law_sj0076_01") (500 : Nat)) none (Value.ref (270 : Nat)) Value.none (0 : Nat))) (List.toArray []))) :: []
noncomputable def view_39 : Program :=
  Program.mk (Module.mk (
  (by refine' (?f : (x : Stmt) → Mine.hd.stAt 1 = some x → Stmt) _ ?h; (case f => exact fun x _ => x); (case h => with_unfolding_all rfl)) ::
  (by refine' (?f : (x : Stmt) → Mine.hd.stAt 2 = some x → Stmt) _ ?h; (case f => exact fun x _ => x); (case h => with_unfolding_all rfl)) ::
  (by refine' (?f : (x : Stmt) → Mine.hd.stAt 3 = some x → Stmt) _ ?h; (case f => exact fun x _ => x); (case h => with_unfolding_all rfl)) ::
  (by refine' (?f : (x : Stmt) → Mine.hd.stAt 4 = some x → Stmt) _ ?h; (case f => exact fun x _ => x); (case h => with_unfolding_all rfl)) ::
  (by refine' (?f : (x : Stmt) → Mine.hd.stAt 5 = some x → Stmt) _ ?h; (case f => exact fun x _ => x); (case h => with_unfolding_all rfl)) ::
  (by refine' (?f : (x : Stmt) → Mine.hd.stAt 6 = some x → Stmt) _ ?h; (case f => exact fun x _ => x); (case h => with_unfolding_all rfl)) ::
  (by refine' (?f : (x : Stmt) → Mine.hd.stAt 7 = some x → Stmt) _ ?h; (case f => exact fun x _ => x); (case h => with_unfolding_all rfl)) ::
  (by refine' (?f : (x : Stmt) → Mine.hd.stAt 8 = some x → Stmt) _ ?h; (case f => exact fun x _ => x); (case h => with_unfolding_all rfl)) ::
  (by refine' (?f : (x : Stmt) → Mine.hd.stAt 9 = some x → Stmt) _ ?h; (case f => exact fun x _ => x); (case h => with_unfolding_all rfl)) ::
  (by refine' (?f : (x : Stmt) → Mine.hd.stAt 10 = some x → Stmt) _ ?h; (case f => exact fun x _ => x); (case h => with_unfolding_all rfl)) ::
  (by refine' (?f : (x : Stmt) → Mine.hd.stAt 12 = some x → Stmt) _ ?h; (case f => exact fun x _ => x); (case h => with_unfolding_all rfl)) ::
  (by refine' (?f : (x : Stmt) → Mine.hd.stAt 13 = some x → Stmt) _ ?h; (case f => exact fun x _ => x); (case h => with_unfolding_all rfl)) ::
  (by refine' (?f : (x : Stmt) → Mine.hd.stAt 14 = some x → Stmt) _ ?h; (case f => exact fun x _ => x); (case h => with_unfolding_all rfl)) ::
  (by refine' (?f : (x : Stmt) → Mine.hd.stAt 15 = some x → Stmt) _ ?h; (case f => exact fun x _ => x); (case h => with_unfolding_all rfl)) ::
  (by refine' (?f : (x : Stmt) → Mine.hd.stAt 16 = some x → Stmt) _ ?h; (case f => exact fun x _ => x); (case h => with_unfolding_all rfl)) ::
  (by refine' (?f : (x : Stmt) → Mine.hd.stAt 17 = some x → Stmt) _ ?h; (case f => exact fun x _ => x); (case h => with_unfolding_all rfl)) ::
  (by refine' (?f : (x : Stmt) → Mine.hd.stAt 18 = some x → Stmt) _ ?h; (case f => exact fun x _ => x); (case h => with_unfolding_all rfl)) ::
  (by refine' (?f : (x : Stmt) → Mine.hd.stAt 19 = some x → Stmt) _ ?h; (case f => exact fun x _ => x); (case h => with_unfolding_all rfl)) ::
  (by refine' (?f : (x : Stmt) → Mine.hd.stAt 20 = some x → Stmt) _ ?h; (case f => exact fun x _ => x); (case h => with_unfolding_all rfl)) ::
  (by refine' (?f : (x : Stmt) → Mine.hd.stAt 22 = some x → Stmt) _ ?h; (case f => exact fun x _ => x); (case h => with_unfolding_all rfl)) ::
  (by refine' (?f : (x : Stmt) → Mine.hd.stAt 24 = some x → Stmt) _ ?h; (case f => exact fun x _ => x); (case h => with_unfolding_all rfl)) ::
  (by refine' (?f : (x : Stmt) → Mine.hd.stAt 25 = some x → Stmt) _ ?h; (case f => exact fun x _ => x); (case h => with_unfolding_all rfl)) ::
  (by refine' (?f : (x : Stmt) → Mine.hd.stAt 26 = some x → Stmt) _ ?h; (case f => exact fun x _ => x); (case h => with_unfolding_all rfl)) ::
  (by refine' (?f : (x : Stmt) → Mine.hd.stAt 27 = some x → Stmt) _ ?h; (case f => exact fun x _ => x); (case h => with_unfolding_all rfl)) ::
  (by refine' (?f : (x : Stmt) → Mine.hd.stAt 28 = some x → Stmt) _ ?h; (case f => exact fun x _ => x); (case h => with_unfolding_all rfl)) ::
  (by refine' (?f : (x : Stmt) → Mine.hd.stAt 29 = some x → Stmt) _ ?h; (case f => exact fun x _ => x); (case h => with_unfolding_all rfl)) ::
  (by refine' (?f : (x : Stmt) → Mine.hd.stAt 30 = some x → Stmt) _ ?h; (case f => exact fun x _ => x); (case h => with_unfolding_all rfl)) ::
  (by refine' (?f : (x : Stmt) → Mine.hd.stAt 31 = some x → Stmt) _ ?h; (case f => exact fun x _ => x); (case h => with_unfolding_all rfl)) ::
  (by refine' (?f : (x : Stmt) → Mine.hd.stAt 32 = some x → Stmt) _ ?h; (case f => exact fun x _ => x); (case h => with_unfolding_all rfl)) ::
  (by refine' (?f : (x : Stmt) → Mine.hd.stAt 33 = some x → Stmt) _ ?h; (case f => exact fun x _ => x); (case h => with_unfolding_all rfl)) :: [])
    (OpenLaw.row Challenge.rw_sj0076_01).toRowW.prog.main.scope (OpenLaw.row Challenge.rw_sj0076_01).toRowW.prog.main.futureAnnotations (OpenLaw.row Challenge.rw_sj0076_01).toRowW.prog.main.file (OpenLaw.row Challenge.rw_sj0076_01).toRowW.prog.main.more)
    (OpenLaw.row Challenge.rw_sj0076_01).toRowW.prog.modules (OpenLaw.row Challenge.rw_sj0076_01).toRowW.prog.parses (OpenLaw.row Challenge.rw_sj0076_01).toRowW.prog.absent (OpenLaw.row Challenge.rw_sj0076_01).toRowW.prog.harvested (OpenLaw.row Challenge.rw_sj0076_01).toRowW.prog.given
end Mine.hd
namespace Mine
noncomputable def hd.as_39 : List Addr := [2, 3, 15, 22, 23, 24, 25, 28, 35, 36, 37, 40, 42, 43, 45, 46, 47, 49, 50, 52, 53, 54, 56, 57, 59, 60, 61, 63, 64, 66, 67, 68, 70, 71, 73, 74, 75, 77, 78, 80, 81, 82, 84, 85, 87, 88, 89, 91, 92, 94, 95, 103, 105, 106, 108, 109, 110, 112, 113, 115, 116, 117, 119, 120, 122, 123, 124, 125, 126, 127, 128, 138, 140, 141, 143, 144, 145, 147, 148, 150, 151, 152, 153, 154, 155, 156, 159, 161, 162, 164, 165, 166, 168, 169, 171, 172, 173, 175, 176, 178, 179, 180, 182, 183, 185, 186, 187, 189, 190, 192, 193, 194, 196, 197, 199, 200, 201, 203, 204, 206, 207, 208, 210, 211, 213, 214, 215, 217, 218, 220, 221, 222, 225, 226, 227, 230, 231, 232, 234, 235, 237, 238, 239, 241, 242, 244, 245, 246, 248, 249, 251, 252, 253, 255, 256, 258, 259, 260, 262, 263, 265, 266, 267, 270, 271]
theorem hd.said_39 : Challenge.rw_sj0076_01.wellSaid = true := by
  unfold OpenLaw.wellSaid OpenRow.wellSaid OpenRow.partSaid looksOpen
  repeat' (with_reducible refine look_both ?_ ?_)
  all_goals first | (with_reducible show noRoadLSs _ _ = true; rw [PySem.W.Fast.te8326940854005059898]; decide +kernel) | (with_reducible show namesMeet _ _ _ = true; rw [PySem.W.Fast.te17119622794617984870]; decide +kernel) | (rw [PySem.W.Fast.named_eq]; decide +kernel) | decide +kernel
end Mine
namespace Mine
theorem hd.core_39 (w : World) (os : OsState) : (topFrom treeTable (OpenLaw.row Challenge.rw_sj0076_01).toRowW.prog w 3750 ⟨boot_heap w.params, #[], boot_drawn, boot_toks, os⟩).map (fun s => (openSeen hd.view_39 [] (importedModules (OpenLaw.row Challenge.rw_sj0076_01).toRowW.prog.main.body) (fun s => xlAt hd.view_39 [] s && recOk (RowW.records (OpenLaw.row Challenge.rw_sj0076_01).toRowW) s) true s, hd.as_39.map s.heap.get?)) = some (openGood hd.view_39 [], (hd.heap_39 w.params).map fun p => some p.2) := by
  unfold topFrom
  rw [PySem.W.Fast.te14082659384304107361, PySem.W.Fast.te14364793385576792824]
  kernel_rfl
theorem hd.left_39 : LeftO (OpenLaw.row Challenge.rw_sj0076_01).toRowW.prog hd.view_39 [] (fun s => xlAt hd.view_39 [] s && recOk (RowW.records (OpenLaw.row Challenge.rw_sj0076_01).toRowW) s) (fun s => hd.as_39.map s.heap.get?) (fun w => (hd.heap_39 w.params).map fun p => some p.2) 3750 := by
  intro w
  obtain ⟨s, hs, hv⟩ := Option.map_eq_some_iff.mp (boot_open (p := (OpenLaw.row Challenge.rw_sj0076_01).toRowW.prog) (N := 3750) (by kernel_rfl) (by kernel_rfl) (fun _ => by kernel_rfl) w)
  obtain ⟨h, gs, dr, tk, os⟩ := s
  obtain ⟨rfl, rfl, rfl, rfl⟩ : h = _ ∧ gs = _ ∧ dr = _ ∧ tk = _ := by simpa using hv
  unfold openEnds
  rw [hs, Option.bind_some]
  exact hd.core_39 w os
end Mine
namespace Mine
theorem hd.keys_39 (P : Params) : hd.as_39 = (hd.heap_39 P).map (·.1) := by kernel_rfl
theorem hd {d : DefRec} {kwd : List (Str × Expr)}
    (h1 : defOf hd.view_39 (OpenLaw.row Challenge.rw_sj0076_01).name = some (d, kwd))
    (h2 : (OpenLaw.row Challenge.rw_sj0076_01).prog.theDef (OpenLaw.row Challenge.rw_sj0076_01).name = some (d.params, d.body, d.scope)) (h3 : kwWritten? d.params.kwonlyargs d.params.kw_defaults = some kwd)
    (walk : WalkO hd.view_39 [] (XL hd.view_39 []) (kHook hd.heap_39 hd.as_39 hd.keys_39).says (OpenLaw.row Challenge.rw_sj0076_01).toRowW d kwd (fun f vs => PySem.call f vs)) : Challenge.rw_sj0076_01.Holds := by
  refine holds_law hd.said_39 (fun said => ?_)
  refine holds_open (q := hd.view_39) (loose := []) (Xt := fun s => xlAt hd.view_39 [] s && recOk (RowW.records (OpenLaw.row Challenge.rw_sj0076_01).toRowW) s) (XP := XL hd.view_39 []) (Yf := Hook.obs (kHook hd.heap_39 hd.as_39 hd.keys_39)) (Ya := Hook.val (kHook hd.heap_39 hd.as_39 hd.keys_39)) (YP := Hook.says (kHook hd.heap_39 hd.as_39 hd.keys_39)) (N := 3750) hd.left_39
    (Hook.of (kHook hd.heap_39 hd.as_39 hd.keys_39)) (Hook.keeps (kHook hd.heap_39 hd.as_39 hd.keys_39)) (fun s e => xl_of s (Bool.and_eq_true_iff.mp e).1) XL.keeps h1 h2 h3 (fun s e => recFacts_of (Bool.and_eq_true_iff.mp e).2) (by rfl) said (by decide +kernel) ⟨rfl, rfl, rfl, rfl, rfl, by decide +kernel⟩ ?hw walk
  case hw => w_witness2
end Mine
end
section
open PySem PySem.W PyProof.Rows PySem.Calls
local macro_rules | `(tactic| omega) => `(tactic| first | with_reducible assumption | with_reducible exact Int.natCast_nonneg _ | lia)
section
open PySem PySem.W PyProof.Rows PySem.Calls PySem.Spec
namespace Mine

noncomputable abbrev lst (vs : List Value) (n : Nat) : Obj := { cls := .type "list", data := .seq vs.toArray n }
noncomputable abbrev Led := List (Addr × Obj)
noncomputable abbrev Bs := List (Str × Value)

noncomputable def bnd (u : Str → Option Value) : Bs → Str → Option Value
  | [] => u
  | (x, v) :: r => fun z => if z = x then some v else bnd u r z

theorem bnd_self {m : Str → Option Value} : ∀ {l : Bs}, (∀ p ∈ l, m p.1 = some p.2) → bnd m l = m
  | [], _ => rfl
  | (x, v) :: r, h => by
    funext z
    show (if z = x then some v else bnd m r z) = m z
    by_cases e : z = x
    · rw [if_pos e, e]; exact (h (x, v) (.head _)).symm
    · rw [if_neg e, bnd_self (fun p hp => h p (.tail _ hp))]

noncomputable def keepM (keep : List Str) (m₀ u : Str → Option Value) : Str → Option Value := fun z => if keep.contains z then m₀ z else u z
theorem keepM_self {keep : List Str} {m₀ m : Str → Option Value} (h : ∀ y ∈ keep, m y = m₀ y) : keepM keep m₀ m = m := by
  funext z
  show (if keep.contains z = true then m₀ z else m z) = m z
  cases e : keep.contains z with
  | true => simp only [if_true]; exact (h z (by simpa using e)).symm
  | false => simp only [Bool.false_eq_true, if_false]

noncomputable def Binds (m : Str → Option Value) : Bs → Prop
  | [] => True
  | p :: r => m p.1 = some p.2 ∧ Binds m r
theorem Binds.all {m : Str → Option Value} : ∀ {l : Bs}, Binds m l → ∀ p ∈ l, m p.1 = some p.2
  | [], _, _, h => nomatch h
  | _ :: _, ⟨h, hr⟩, p, hp => by
    rcases List.mem_cons.mp hp with rfl | hp
    · exact h
    · exact hr.all p hp
noncomputable def Kept (m m₀ : Str → Option Value) : List Str → Prop
  | [] => True
  | y :: r => m y = m₀ y ∧ Kept m m₀ r
theorem Kept.all {m m₀ : Str → Option Value} : ∀ {l : List Str}, Kept m m₀ l → ∀ y ∈ l, m y = m₀ y
  | [], _, _, h => nomatch h
  | _ :: _, ⟨h, hr⟩, y, hy => by
    rcases List.mem_cons.mp hy with rfl | hy
    · exact h
    · exact hr.all y hy
noncomputable def SubL (l : Led) : Led → Prop
  | [] => True
  | p :: r => p ∈ l ∧ SubL l r
theorem SubL.all {l : Led} : ∀ {r : Led}, SubL l r → ∀ p ∈ r, p ∈ l
  | [], _, _, h => nomatch h
  | _ :: _, ⟨h, hr⟩, p, hp => by
    rcases List.mem_cons.mp hp with rfl | hp
    · exact h
    · exact hr.all p hp
noncomputable def SepL (rest : Led) : Led → Prop
  | [] => True
  | p :: r => (∀ q ∈ rest, q.1 ≠ p.1) ∧ SepL rest r

/-- every address of `hot` is off `rest` -/
noncomputable def Sep (hot rest : Led) : Prop := ∀ p ∈ hot, ∀ q ∈ rest, q.1 ≠ p.1

theorem SepL.all {rest : Led} : ∀ {r : Led}, SepL rest r → Sep r rest
  | [], _, _, h => nomatch h
  | _ :: _, ⟨h, hr⟩, p, hp => by
    rcases List.mem_cons.mp hp with rfl | hp
    · exact h
    · exact hr.all p hp

noncomputable def TurnEnd {σ : Type} (h₀ : Heap) (L : Addr) (keep : List Str) (m₀ : Str → Option Value) (bs : σ → Bs) (hot : σ → Led) (P : σ → Prop) (rest : Led) (s : Shared) (Q : Flow → Shared → Prop) (f : Flow) (s₂ : Shared) : Prop :=
  match f with
  | .ret v => Q (.ret v) s₂
  | .brk => Q .next s₂
  | _ => ∃ st h' tk m', s₂ = { s with heap := h', toks := tk } ∧ Fr h₀ L h' m' ∧ News h₀ L h' (hot st ++ rest) ∧ Sep (hot st) rest ∧ (∀ p ∈ bs st, m' p.1 = some p.2) ∧ (∀ y ∈ keep, m' y = m₀ y) ∧ P st

theorem TurnEnd.mk {σ : Type} {h₀ : Heap} {L : Addr} {keep : List Str} {m₀ : Str → Option Value} {bs : σ → Bs} {hot : σ → Led} {P : σ → Prop} {rest : Led} {s : Shared} {Q : Flow → Shared → Prop} {h' : Heap} {tk : Nat} {m' : Str → Option Value} {news : Led} (st : σ)
    (F : Fr h₀ L h' m') (N : News h₀ L h' news) (hb : Binds m' (bs st)) (hk : Kept m' m₀ keep) (hn : SubL news (hot st)) (hr : ∀ p ∈ rest, p ∈ news) (hs : SepL rest (hot st)) (hP : P st) :
    TurnEnd h₀ L keep m₀ bs hot P rest s Q .next { s with heap := h', toks := tk } := ⟨st, h', tk, m', rfl, F, fun p hp => N p ((List.mem_append.mp hp).elim (hn.all p) (hr p)), hs.all, hb.all, hk.all, hP⟩

theorem TurnEnd.ret {σ : Type} {h₀ : Heap} {L : Addr} {keep : List Str} {m₀ : Str → Option Value} {bs : σ → Bs} {hot : σ → Led} {P : σ → Prop} {rest : Led} {s s₂ : Shared} {Q : Flow → Shared → Prop} {v : Value} (h : Q (.ret v) s₂) :
    TurnEnd h₀ L keep m₀ bs hot P rest s Q (.ret v) s₂ := h
theorem TurnEnd.brk {σ : Type} {h₀ : Heap} {L : Addr} {keep : List Str} {m₀ : Str → Option Value} {bs : σ → Bs} {hot : σ → Led} {P : σ → Prop} {rest : Led} {s s₂ : Shared} {Q : Flow → Shared → Prop} (h : Q .next s₂) :
    TurnEnd h₀ L keep m₀ bs hot P rest s Q .brk s₂ := h

section
variable {prog : Program} {w : World} {A : Around} {E : Value → Shared → Prop} {s : Shared} {env : Env} {h₀ : Heap} {x : Str} {body : List Stmt} {Q : Flow → Shared → Prop}

theorem loop_gen {σ : Type} {I : Addr} {fp : List Addr} {n : Nat} {Pv : Nat → Value → Prop} {St : Nat → Heap → Prop} {m₀ : Str → Option Value} {news : Led} (keep : List Str) (bs : σ → Bs) (hot : σ → Led) (P : Nat → σ → Prop) (st₀ : σ) (cold : Led)
    (W : Walks prog w A I fp [I] n Pv St) (hLf : env.locals ∉ fp) (hI0 : h₀.get? I = none) (hfp : ∀ b ∈ fp, b = I ∨ (∃ o, (b, o) ∈ cold) ∨ ∃ o, h₀.get? b = some o)
    (hlive : ∀ i h, St i h → ∃ o, h.get? I = some o) (hst : St 0 s.heap)
    (F : Fr h₀ env.locals s.heap m₀) (N : News h₀ env.locals s.heap news) (hin : ∀ p ∈ hot st₀ ++ cold, p ∈ news) (hnI : ∀ p ∈ news, p.1 ≠ I) (hsep : Sep (hot st₀) cold) (hb : ∀ p ∈ bs st₀, m₀ p.1 = some p.2) (hP : P 0 st₀)
    (turn : ∀ i v st u h tk rest, i < n → Pv i v → P i st → (∀ p ∈ cold, p ∈ rest) → Sep (hot st) rest → Fr h₀ env.locals h (fun y => if y = x then some v else bnd (keepM keep m₀ u) (bs st) y) → News h₀ env.locals h (hot st ++ rest) →
      wpAny (model prog w) A (execs body env) (TurnEnd h₀ env.locals keep m₀ bs hot (P (i + 1)) rest { s with heap := h, toks := tk } Q) E { s with heap := h, toks := tk })
    (done : ∀ st u h tk, P n st → Sep (hot st) cold → Fr h₀ env.locals h (bnd (keepM keep m₀ u) (bs st)) → News h₀ env.locals h (hot st ++ cold) → Q .next { s with heap := h, toks := tk }) :
    LoopAtV prog w A h₀ env x body Q E (.ref I) s := by
  let J : Nat → (Str → Option Value) → Led → Prop := fun i m nx => ∃ st, nx = hot st ++ cold ∧ Sep (hot st) cold ∧ (∀ p ∈ bs st, m p.1 = some p.2) ∧ (∀ y ∈ keep, m y = m₀ y) ∧ P i st
  refine ⟨I, fp, [I], n, Pv, St, m₀, hot st₀ ++ cold, J, rfl, W, hLf, ?_, ?_, hst, F, fun p hp => N p (hin p hp), ⟨st₀, rfl, hsep, hb, fun _ _ => rfl, hP⟩, ?_, ?_⟩
  · intro b hb'; rw [List.mem_singleton.mp hb']; exact hI0
  · intro p hp hI; exact hnI p (hin p hp) (List.mem_singleton.mp hI)
  · rintro i v m₁ news₁ s₁ own ⟨hh, tk, rfl⟩ hin' hPv ⟨st, rfl, hsep', hb', hk', hP'⟩ hoff hown hget hall hst' F₁ N₁
    obtain ⟨oI, hoI⟩ := hlive _ _ hst'
    have hIown : (I, oI) ∈ own := hall I (W.sub _ (.head _)) hI0 _ hoI
    have hsep2 : Sep (hot st) (cold ++ own) := by
      intro p hp q hq
      rcases List.mem_append.mp hq with hq | hq
      · exact hsep' p hp q hq
      · intro e
        rcases hfp _ (hown q hq) with e1 | ⟨o, ho⟩ | ⟨o, ho⟩
        · exact hoff p (List.mem_append_left _ hp) (List.mem_singleton.mpr (e ▸ e1))
        · exact hsep' p hp _ ho e
        · have := (N₁ q (List.mem_append_left _ hq)).2.2
          rw [ho] at this; cases this
    have F₂ : Fr h₀ env.locals hh (fun y => if y = x then some v else bnd (keepM keep m₀ m₁) (bs st) y) := by rw [keepM_self hk', bnd_self hb']; exact F₁
    have N₂ : News h₀ env.locals hh (hot st ++ (cold ++ own)) := fun p hp => N₁ p (by
      rcases List.mem_append.mp hp with h1 | h1
      · exact List.mem_append_right _ (List.mem_append_left _ h1)
      · rcases List.mem_append.mp h1 with h2 | h2
        · exact List.mem_append_right _ (List.mem_append_right _ h2)
        · exact List.mem_append_left _ h2)
    refine wpAny_mono (turn i v st m₁ hh tk (cold ++ own) hin' hPv hP' (fun p hp => List.mem_append_left _ hp) hsep2 F₂ N₂) (fun f s₂ p => ?_) fun _ _ e => e
    have fin : (∃ st h' tk' m', s₂ = { s with heap := h', toks := tk' } ∧ Fr h₀ env.locals h' m' ∧ News h₀ env.locals h' (hot st ++ (cold ++ own)) ∧ Sep (hot st) (cold ++ own) ∧ (∀ p ∈ bs st, m' p.1 = some p.2) ∧ (∀ y ∈ keep, m' y = m₀ y) ∧ P (i + 1) st) →
        LoopStepU h₀ env.locals [I] own (J (i + 1)) { s with heap := hh, toks := tk } .next s₂ := by
      rintro ⟨st', h', tk', m', rfl, F', N', hs', hbs', hk'', hP''⟩
      refine ⟨rfl, h', tk', m', hot st' ++ cold, rfl, F', fun p hp => N' p ?_, fun p hp hq => ?_, st', rfl, fun p hp q hq => hs' p hp q (List.mem_append_left _ hq), hbs', hk'', hP''⟩
      · rcases List.mem_append.mp hp with h1 | h1
        · exact List.mem_append_right _ (List.mem_append_right _ h1)
        · rcases List.mem_append.mp h1 with h2 | h2
          · exact List.mem_append_left _ h2
          · exact List.mem_append_right _ (List.mem_append_left _ h2)
      · have e := List.mem_singleton.mp hq
        rcases List.mem_append.mp hp with h1 | h1
        · exact hs' p h1 (I, oI) (List.mem_append_right _ hIown) e.symm
        · exact hoff p (List.mem_append_right _ h1) hq
    cases f with
    | ret v => exact .ret p
    | brk => exact .brk p
    | next => exact .next (fin p)
    | cont => exact .cont (fin p)
  · rintro h' tk m' news' F' N' _ ⟨st, rfl, hsep', hb', hk', hP'⟩
    exact done st m' h' tk hP' hsep' (by rw [keepM_self hk', bnd_self hb']; exact F') N'

theorem for_range {σ : Type} {r : Addr} {a₀ b₀ : Int} {t₀ u₀ v₀ : Tok} {m₀ : Str → Option Value} {news : Led} (n : Nat) (keep : List Str) (bs : σ → Bs) (hot : σ → Led) (P : Nat → σ → Prop) (st₀ : σ) (cold : Led)
    (hh : A.handled = none) (hr : IsRange s.heap r a₀ b₀ 1 t₀ u₀ v₀) (hsmall : Builtin.Range.small a₀ b₀ 1 = true) (hn : (b₀ - a₀).toNat = n)
    (F : Fr h₀ env.locals s.heap m₀) (N : News h₀ env.locals s.heap news) (hb' : Binds m₀ (bs st₀)) (hin' : SubL news (hot st₀)) (hcold' : ∀ p ∈ cold, p ∈ news) (hsep' : SepL cold (hot st₀)) (hP : P 0 st₀)
    (turn : ∀ i t st u h tk rest, i < n → P i st → (∀ p ∈ cold, p ∈ rest) → Sep (hot st) rest → Fr h₀ env.locals h (fun y => if y = x then some (.int (a₀ + (i : Int)) t) else bnd (keepM keep m₀ u) (bs st) y) → News h₀ env.locals h (hot st ++ rest) →
      wpAny (model prog w) A (execs body env) (TurnEnd h₀ env.locals keep m₀ bs hot (P (i + 1)) rest { s with heap := h, toks := tk } Q) E { s with heap := h, toks := tk })
    (done : ∀ st u h tk, P n st → Sep (hot st) cold → Fr h₀ env.locals h (bnd (keepM keep m₀ u) (bs st)) → News h₀ env.locals h (hot st ++ cold) → Q .next { s with heap := h, toks := tk }) :
    wpAny (model prog w) A (pyIter (.ref r)) (fun it s₂ => LoopAtV prog w A h₀ env x body Q E it s₂) E s := by
  have hin : ∀ p ∈ hot st₀ ++ cold, p ∈ news := fun p hp => (List.mem_append.mp hp).elim (hin'.all p) (hcold' p)
  have hsep := hsep'.all
  have hb := hb'.all
  refine wpAny_pyIter_range hr hsmall ?_
  have hn' : Builtin.Range.rangeSize a₀ b₀ 1 = (n : Int) := by rw [rangeSize_nat, hn]
  have W : Walks prog w A s.heap.objs.size [s.heap.objs.size] [s.heap.objs.size] n (fun i v => ∃ t, v = .int (a₀ + i * 1) t)
      (fun i h => IsRangeIter h s.heap.objs.size (a₀ + (i : Nat) * 1) ((n : Int) - (i : Nat)) 1) := Walks.range hh _ a₀ 1 n
  refine loop_gen keep bs hot P st₀ cold W ?_ (next_is_new F) (fun b hb => .inl (List.mem_singleton.mp hb)) (fun i h st => ⟨_, st⟩) (by show IsRangeIter _ _ _ _ _; rw [hn']; simpa using Heap.get?_push_size _ rfl) (F.push _) (fun p hp => ⟨Heap.get?_push_of_some _ (N p hp).1, (N p hp).2⟩) hin ?_ hsep hb hP ?_ ?_
  · intro hm; exact absurd F.ns.lt ((List.mem_singleton.mp hm) ▸ Nat.lt_irrefl _)
  · intro p hp e; exact absurd (Heap.lt_size (N p hp).1) (e ▸ Nat.lt_irrefl _)
  · rintro i v st u h tk rest hi ⟨t, rfl⟩ hP' hc hs' F' N'
    rw [Int.mul_one] at F'
    exact turn i t st u h tk rest hi hP' hc hs' F' N'
  · exact done

theorem for_down {σ : Type} {r : Addr} {a₀ b₀ : Int} {t₀ u₀ v₀ : Tok} {m₀ : Str → Option Value} {news : Led} (n : Nat) (keep : List Str) (bs : σ → Bs) (hot : σ → Led) (P : Nat → σ → Prop) (st₀ : σ) (cold : Led)
    (hh : A.handled = none) (hr : IsRange s.heap r a₀ b₀ (-1) t₀ u₀ v₀) (hsmall : Builtin.Range.small a₀ b₀ (-1) = true) (hn : (a₀ - b₀).toNat = n)
    (F : Fr h₀ env.locals s.heap m₀) (N : News h₀ env.locals s.heap news) (hb' : Binds m₀ (bs st₀)) (hin' : SubL news (hot st₀)) (hcold' : ∀ p ∈ cold, p ∈ news) (hsep' : SepL cold (hot st₀)) (hP : P 0 st₀)
    (turn : ∀ i t st u h tk rest, i < n → P i st → (∀ p ∈ cold, p ∈ rest) → Sep (hot st) rest → Fr h₀ env.locals h (fun y => if y = x then some (.int (a₀ - (i : Int)) t) else bnd (keepM keep m₀ u) (bs st) y) → News h₀ env.locals h (hot st ++ rest) →
      wpAny (model prog w) A (execs body env) (TurnEnd h₀ env.locals keep m₀ bs hot (P (i + 1)) rest { s with heap := h, toks := tk } Q) E { s with heap := h, toks := tk })
    (done : ∀ st u h tk, P n st → Sep (hot st) cold → Fr h₀ env.locals h (bnd (keepM keep m₀ u) (bs st)) → News h₀ env.locals h (hot st ++ cold) → Q .next { s with heap := h, toks := tk }) :
    wpAny (model prog w) A (pyIter (.ref r)) (fun it s₂ => LoopAtV prog w A h₀ env x body Q E it s₂) E s := by
  have hin : ∀ p ∈ hot st₀ ++ cold, p ∈ news := fun p hp => (List.mem_append.mp hp).elim (hin'.all p) (hcold' p)
  have hsep := hsep'.all
  have hb := hb'.all
  refine wpAny_pyIter_range hr hsmall ?_
  have hn' : Builtin.Range.rangeSize a₀ b₀ (-1) = (n : Int) := by rw [rangeSize_downNat, hn]
  have W : Walks prog w A s.heap.objs.size [s.heap.objs.size] [s.heap.objs.size] n (fun i v => ∃ t, v = .int (a₀ + i * (-1)) t)
      (fun i h => IsRangeIter h s.heap.objs.size (a₀ + (i : Nat) * (-1)) ((n : Int) - (i : Nat)) (-1)) := Walks.range hh _ a₀ (-1) n
  refine loop_gen keep bs hot P st₀ cold W ?_ (next_is_new F) (fun b hb => .inl (List.mem_singleton.mp hb)) (fun i h st => ⟨_, st⟩) (by show IsRangeIter _ _ _ _ _; rw [hn']; simpa using Heap.get?_push_size _ rfl) (F.push _) (fun p hp => ⟨Heap.get?_push_of_some _ (N p hp).1, (N p hp).2⟩) hin ?_ hsep hb hP ?_ ?_
  · intro hm; exact absurd F.ns.lt ((List.mem_singleton.mp hm) ▸ Nat.lt_irrefl _)
  · intro p hp e; exact absurd (Heap.lt_size (N p hp).1) (e ▸ Nat.lt_irrefl _)
  · rintro i v st u h tk rest hi ⟨t, rfl⟩ hP' hc hs' F' N'
    have e1 : a₀ + (i : Int) * (-1) = a₀ - (i : Int) := by omega
    rw [e1] at F'
    exact turn i t st u h tk rest hi hP' hc hs' F' N'
  · exact done

theorem for_list {σ : Type} {l : Addr} {vs : List Value} {k : Nat} {m₀ : Str → Option Value} {news : Led} (keep : List Str) (bs : σ → Bs) (hot : σ → Led) (P : Nat → σ → Prop) (st₀ : σ) (cold : Led)
    (hh : A.handled = none) (hl : (l, lst vs k) ∈ cold)
    (F : Fr h₀ env.locals s.heap m₀) (N : News h₀ env.locals s.heap news) (hb' : Binds m₀ (bs st₀)) (hin' : SubL news (hot st₀)) (hcold' : ∀ p ∈ cold, p ∈ news) (hsep' : SepL cold (hot st₀)) (hP : P 0 st₀)
    (turn : ∀ i v st u h tk rest, i < vs.length → vs[i]? = some v → P i st → (∀ p ∈ cold, p ∈ rest) → Sep (hot st) rest → Fr h₀ env.locals h (fun y => if y = x then some v else bnd (keepM keep m₀ u) (bs st) y) → News h₀ env.locals h (hot st ++ rest) →
      wpAny (model prog w) A (execs body env) (TurnEnd h₀ env.locals keep m₀ bs hot (P (i + 1)) rest { s with heap := h, toks := tk } Q) E { s with heap := h, toks := tk })
    (done : ∀ st u h tk, P vs.length st → Sep (hot st) cold → Fr h₀ env.locals h (bnd (keepM keep m₀ u) (bs st)) → News h₀ env.locals h (hot st ++ cold) → Q .next { s with heap := h, toks := tk }) :
    wpAny (model prog w) A (pyIter (.ref l)) (fun it s₂ => LoopAtV prog w A h₀ env x body Q E it s₂) E s := by
  have hin : ∀ p ∈ hot st₀ ++ cold, p ∈ news := fun p hp => (List.mem_append.mp hp).elim (hin'.all p) (hcold' p)
  have hsep := hsep'.all
  have hb := hb'.all
  have hlN := N _ (hin _ (List.mem_append_right _ hl))
  have hls : s.heap.IsList l vs.toArray := ⟨_, hlN.1, rfl, k, rfl⟩
  have hne : l ≠ s.heap.objs.size := Nat.ne_of_lt (Heap.lt_size hlN.1)
  refine wpAny_pyIter_list hls ?_
  have W := Walks.list (prog := prog) (w := w) hh s.heap.objs.size l hne vs.toArray
  have e : vs.toArray.size = vs.length := by simp
  rw [e] at W
  refine loop_gen keep bs hot P st₀ cold W ?_ (next_is_new F) (fun b hb => ?_) (fun i h st => let ⟨⟨o, ho, _⟩, _⟩ := st; ⟨_, ho⟩) ⟨⟨_, Heap.get?_push_size _ rfl, rfl, rfl⟩, hls.at fun o e => Heap.get?_push_of_some _ e⟩ (F.push _) (fun p hp => ⟨Heap.get?_push_of_some _ (N p hp).1, (N p hp).2⟩) hin ?_ hsep hb hP ?_ ?_
  · intro hm
    rcases List.mem_cons.mp hm with e | hm
    · exact absurd F.ns.lt (e ▸ Nat.lt_irrefl _)
    · exact hlN.2.1 (List.mem_singleton.mp hm).symm
  · rcases List.mem_cons.mp hb with e | hb
    · exact .inl e
    · exact .inr (.inl ⟨_, (List.mem_singleton.mp hb) ▸ hl⟩)
  · intro p hp e; exact absurd (Heap.lt_size (N p hp).1) (e ▸ Nat.lt_irrefl _)
  · rintro i v st u h tk rest hi hv hP' hc hs' F' N'
    exact turn i v st u h tk rest hi (by simpa using hv) hP' hc hs' F' N'
  · exact done

noncomputable def WTurn {σ : Type} (h₀ : Heap) (L : Addr) (keep : List Str) (m₀ : Str → Option Value) (bs : σ → Bs) (hot : σ → Led) (P : σ → Prop) (μ : σ → Nat) (cold : Led) (c : Nat) (s : Shared) (f : Flow) (s₂ : Shared) : Prop :=
  f = .next ∧ ∃ st h' tk m', s₂ = { s with heap := h', toks := tk } ∧ Fr h₀ L h' m' ∧ News h₀ L h' (hot st ++ cold) ∧ Sep (hot st) cold ∧ (∀ p ∈ bs st, m' p.1 = some p.2) ∧ (∀ y ∈ keep, m' y = m₀ y) ∧ P st ∧ μ st < c

theorem WTurn.mk {σ : Type} {h₀ : Heap} {L : Addr} {keep : List Str} {m₀ : Str → Option Value} {bs : σ → Bs} {hot : σ → Led} {P : σ → Prop} {μ : σ → Nat} {cold : Led} {c : Nat} {s : Shared} {h' : Heap} {tk : Nat} {m' : Str → Option Value} {news : Led} (st : σ)
    (F : Fr h₀ L h' m') (N : News h₀ L h' news) (hb : Binds m' (bs st)) (hk : Kept m' m₀ keep) (hn : SubL news (hot st)) (hr : ∀ p ∈ cold, p ∈ news) (hs : SepL cold (hot st)) (hP : P st) (hm : μ st < c) :
    WTurn h₀ L keep m₀ bs hot P μ cold c s .next { s with heap := h', toks := tk } := ⟨rfl, st, h', tk, m', rfl, F, fun p hp => N p ((List.mem_append.mp hp).elim (hn.all p) (hr p)), hs.all, hb.all, hk.all, hP, hm⟩

theorem while_st {σ : Type} {L : Addr} {test : Expr} {pos : Pos} {m₀ : Str → Option Value} {news : Led} (keep : List Str) (bs : σ → Bs) (hot : σ → Led) (P : σ → Prop) (μ : σ → Nat) (st₀ : σ) (cold : Led)
    (F : Fr h₀ L s.heap m₀) (N : News h₀ L s.heap news) (hb' : Binds m₀ (bs st₀)) (hin' : SubL news (hot st₀)) (hcold' : ∀ p ∈ cold, p ∈ news) (hsep' : SepL cold (hot st₀)) (hP : P st₀)
    (turn : ∀ st u h tk, P st → Sep (hot st) cold → Fr h₀ L h (bnd (keepM keep m₀ u) (bs st)) → News h₀ L h (hot st ++ cold) →
      wpAny (model prog w) A (isTrue test env (eval test env)) (fun b s₂ =>
        if b = true then wpAny (model prog w) A (execs body env) (WTurn h₀ L keep m₀ bs hot P μ cold (μ st) s) E s₂ else Q .next s₂) E { s with heap := h, toks := tk })
    (hE : PassesOwn (model prog w) A env E := by passes_own) :
    wpAny (model prog w) A (exec (.While test body [] pos) env) Q E s := by
  have hin : ∀ p ∈ hot st₀ ++ cold, p ∈ news := fun p hp => (List.mem_append.mp hp).elim (hin'.all p) (hcold' p)
  have hsep := hsep'.all
  have hb := hb'.all
  refine While_inv (fun n m nx => ∃ st, nx = hot st ++ cold ∧ Sep (hot st) cold ∧ (∀ p ∈ bs st, m p.1 = some p.2) ∧ (∀ y ∈ keep, m y = m₀ y) ∧ P st ∧ μ st = n) F (fun p hp => N p (hin p hp)) ⟨st₀, rfl, hsep, hb, fun _ _ => rfl, hP, rfl⟩ ?_ hE
  rintro n m₁ nx h tk F₁ N₁ ⟨st, rfl, hs, hb', hk', hP', rfl⟩
  refine wpAny_mono (turn st m₁ h tk hP' hs (by rw [keepM_self hk', bnd_self hb']; exact F₁) N₁) (fun b s₂ p => ?_) fun _ _ x => x
  cases b with
  | false => simpa using p
  | true =>
    simp only [if_true] at p ⊢
    refine wpAny_mono p (fun f s₃ q => ?_) fun _ _ x => x
    obtain ⟨rfl, st', h', tk', m', rfl, F', N', hs', hb'', hk'', hP'', hm⟩ := q
    exact ⟨rfl, h', tk', m', _, μ st', rfl, F', N', hm, st', rfl, hs', hb'', hk'', hP'', rfl⟩
end

theorem sep_nil {rest : Led} : Sep [] rest := fun _ h => nomatch h
theorem sep_cons {d : Addr} {o : Obj} {r rest : Led} (h : ∀ q ∈ rest, q.1 ≠ d) (hr : Sep r rest) : Sep ((d, o) :: r) rest := fun p hp => by
  rcases List.mem_cons.mp hp with rfl | hp
  · exact h
  · exact hr p hp
theorem sep_head {d : Addr} {o : Obj} {r rest : Led} (h : Sep ((d, o) :: r) rest) : ∀ q ∈ rest, q.1 ≠ d := h (d, o) (.head _)
theorem sep_tail {p : Addr × Obj} {r rest : Led} (h : Sep (p :: r) rest) : Sep r rest := fun q hq => h q (.tail _ hq)
theorem ne_of_lt {d : Addr} {rest : Led} (h : ∀ p ∈ rest, p.1 < d) : ∀ p ∈ rest, p.1 ≠ d := fun p hp => Nat.ne_of_lt (h p hp)
theorem ne_of_all {d : Addr} {l : Led} (h : AllLt d l) : ∀ p ∈ l, p.1 ≠ d := ne_of_lt (kst_ltOf h)
theorem bs_nil {m : Str → Option Value} : ∀ p ∈ ([] : Bs), m p.1 = some p.2 := fun _ h => nomatch h
theorem bs_cons {m : Str → Option Value} {x : Str} {v : Value} {r : Bs} (h : m x = some v) (hr : ∀ p ∈ r, m p.1 = some p.2) : ∀ p ∈ (x, v) :: r, m p.1 = some p.2 := fun p hp => by
  rcases List.mem_cons.mp hp with rfl | hp
  · exact h
  · exact hr p hp
theorem kp_nil {m m₀ : Str → Option Value} : ∀ y ∈ ([] : List Str), m y = m₀ y := fun _ h => nomatch h
theorem kp_cons {m m₀ : Str → Option Value} {x : Str} {r : List Str} (h : m x = m₀ x) (hr : ∀ y ∈ r, m y = m₀ y) : ∀ y ∈ x :: r, m y = m₀ y := fun p hp => by
  rcases List.mem_cons.mp hp with rfl | hp
  · exact h
  · exact hr p hp
theorem sub_nil {l : Led} : ∀ p ∈ ([] : Led), p ∈ l := fun _ h => nomatch h
theorem sub_cons {q : Addr × Obj} {r l : Led} (h : q ∈ l) (hr : ∀ p ∈ r, p ∈ l) : ∀ p ∈ q :: r, p ∈ l := fun p hp => by
  rcases List.mem_cons.mp hp with rfl | hp
  · exact h
  · exact hr p hp
theorem sub_skip {q : Addr × Obj} {r l : Led} (h : ∀ p ∈ r, p ∈ l) : ∀ p ∈ r, p ∈ q :: l := fun p hp => .tail _ (h p hp)
theorem name1 {h₀ h : Heap} {L a : Addr} {o : Obj} {r : Led} (_N : News h₀ L h ((a, o) :: r)) {G : Prop} (k : ∀ x, x = a → G) : G := k a rfl
theorem name2 {h₀ h : Heap} {L a b : Addr} {o p : Obj} {r : Led} (_N : News h₀ L h ((a, o) :: (b, p) :: r)) {G : Prop} (k : ∀ x y, x = a → y = b → G) : G := k a b rfl rfl
theorem fr_rng {h₀ h hh : Heap} {L r : Addr} {m : Str → Option Value} {a b c : Int} {t u v : Tok} (_F : Fr h₀ L h m) (_R : IsRange hh r a b c t u v) (C : (Str → Option Value) → Int → Prop) (hc : C m b) : C m b := hc
theorem fr_map {h₀ h : Heap} {L : Addr} {m : Str → Option Value} (_F : Fr h₀ L h m) (C : (Str → Option Value) → Prop) (hc : C m) : C m := hc
section
variable {h₀ h : Heap} {L : Addr} {p q q2 q3 q4 : Addr × Obj} {r : Led}
theorem news_tail (N : News h₀ L h (p :: r)) : News h₀ L h r := fun x hx => N x (.tail _ hx)
theorem news_drop1 (N : News h₀ L h (p :: q :: r)) : News h₀ L h (p :: r) := fun x hx => N x (by
  rcases List.mem_cons.mp hx with rfl | hx
  · exact .head _
  · exact .tail _ (.tail _ hx))
theorem news_drop2 (N : News h₀ L h (p :: q :: q2 :: r)) : News h₀ L h (p :: r) := news_drop1 (news_drop1 N)
theorem news_drop3 (N : News h₀ L h (p :: q :: q2 :: q3 :: r)) : News h₀ L h (p :: r) := news_drop1 (news_drop2 N)
theorem news_drop4 (N : News h₀ L h (p :: q :: q2 :: q3 :: q4 :: r)) : News h₀ L h (p :: r) := news_drop1 (news_drop3 N)
end
theorem news_take7 {h₀ h : Heap} {L : Addr} {a b c d e f g : Addr × Obj} {r : Led} (N : News h₀ L h (a :: b :: c :: d :: e :: f :: g :: r)) : News h₀ L h (a :: b :: f :: c :: r) :=
  kst_newsOf N (fun x hx => by
    simp only [List.mem_cons] at hx ⊢
    rcases hx with h | h | h | h | h <;> simp [h])
theorem news_take8 {h₀ h : Heap} {L : Addr} {a b c d e f g i : Addr × Obj} {r : Led} (N : News h₀ L h (a :: b :: c :: d :: e :: f :: g :: i :: r)) : News h₀ L h (a :: b :: g :: d :: r) :=
  kst_newsOf N (fun x hx => by
    simp only [List.mem_cons] at hx ⊢
    rcases hx with h | h | h | h | h <;> simp [h])
theorem news_take4 {h₀ h : Heap} {L : Addr} {a b c d : Addr × Obj} {r : Led} (N : News h₀ L h (a :: b :: c :: d :: r)) : News h₀ L h (a :: b :: c :: r) :=
  kst_newsOf N (fun x hx => by
    simp only [List.mem_cons] at hx ⊢
    rcases hx with h | h | h | h <;> simp [h])
theorem mem1 {α : Type} {a b : α} {r : List α} : b ∈ a :: b :: r := .tail _ (.head _)
theorem mem2 {α : Type} {a b c : α} {r : List α} : c ∈ a :: b :: c :: r := .tail _ (.tail _ (.head _))
theorem mem3 {α : Type} {a b c d : α} {r : List α} : d ∈ a :: b :: c :: d :: r := .tail _ (.tail _ (.tail _ (.head _)))
theorem mem4 {α : Type} {a b c d e : α} {r : List α} : e ∈ a :: b :: c :: d :: e :: r := .tail _ (.tail _ (.tail _ (.tail _ (.head _))))
theorem mem5 {α : Type} {a b c d e f : α} {r : List α} : f ∈ a :: b :: c :: d :: e :: f :: r := .tail _ (.tail _ (.tail _ (.tail _ (.tail _ (.head _)))))
theorem nameI {vs : List Value} {ns : List Int} (_I : IntsAre vs ns) {G : Prop} (k : ∀ x, x = vs → G) : G := k vs rfl
noncomputable def Hold (P : Prop) : Prop := P
theorem Hold.intro {P : Prop} (h : Hold P) : P := h
theorem Hold.out {P : Prop} (h : P) : Hold P := h
end Mine
end
section
open PySem PySem.W PyProof.Rows PySem.Calls PySem.Spec
namespace Mine
/-- `q` holds wherever `Q` does: a continuation under a short name -/
noncomputable def Cnt {α : Type} (q Q : α → Shared → Prop) : Prop := ∀ a s, Q a s → q a s
theorem Cnt.out {α : Type} {q Q : α → Shared → Prop} {a : α} {s : Shared} (h : Cnt q Q) (p : Q a s) : q a s := h a s p
theorem Cnt.gen {α : Type} {M : Model} {A : Around} {t : Sem α} {Q : α → Shared → Prop} {E : Value → Shared → Prop} {s : Shared} (h : ∀ q, Cnt q Q → wpAny M A t q E s) : wpAny M A t Q E s := h Q fun _ _ p => p
theorem Cnt.seen {α : Type} {M : Model} {A : Around} {t : Sem α} {q Q : α → Shared → Prop} {E : Value → Shared → Prop} {s : Shared} (_ : Cnt q Q) (h : wpAny M A t q E s) : wpAny M A t q E s := h
/-- a goal under a short name, while facts are taken apart -/
theorem hide {p : Prop} (h : ∀ G : Prop, (p → G) → G) : p := h p id
end Mine
namespace Mine
/-- what holds behind the next statement -/
noncomputable def Cn (q : Flow → Shared → Prop) (P : Shared → Prop) : Prop := ∀ s, P s → q .next s
/-- a leaving of the block -/
noncomputable def Co (q Q : Flow → Shared → Prop) : Prop := ∀ f s, f ≠ .next → Q f s → q f s
theorem Cn.out {q : Flow → Shared → Prop} {P : Shared → Prop} {s : Shared} (h : Cn q P) (p : P s) : q .next s := h s p
theorem Co.ret {q Q : Flow → Shared → Prop} {v : Value} {s : Shared} (h : Co q Q) (p : Q (.ret v) s) : q (.ret v) s := h _ s (fun e => nomatch e) p
theorem Co.brk {q Q : Flow → Shared → Prop} {s : Shared} (h : Co q Q) (p : Q .brk s) : q .brk s := h _ s (fun e => nomatch e) p
theorem Co.cont {q Q : Flow → Shared → Prop} {s : Shared} (h : Co q Q) (p : Q .cont s) : q .cont s := h _ s (fun e => nomatch e) p
section
variable {M : Model} {A : Around} {E : Value → Shared → Prop} {s : Shared} {env : Env} {st : Stmt} {rest : List Stmt} {Q : Flow → Shared → Prop}
theorem execs_cnt (h : ∀ q, Cn q (wpAny M A (execs rest env) Q E) → Co q Q → wpAny M A (exec st env) q E s) : wpAny M A (execs (st :: rest) env) Q E s :=
  wpAny_execs_cons (h _ (fun _ p => p) (fun f s hf p => by cases f <;> first | exact absurd rfl hf | exact p))
theorem execs_one (h : wpAny M A (exec st env) Q E s) : wpAny M A (execs [st] env) Q E s :=
  wpAny_execs_cons (wpAny_mono h (fun f s p => by cases f <;> first | exact wpAny_execs_nil p | exact p) fun _ _ e => e)
end
/-- a continuation that bears a short name already -/
theorem Cn.seen {M : Model} {A : Around} {E : Value → Shared → Prop} {s : Shared} {env : Env} {b : List Stmt} {q Q : Flow → Shared → Prop} (_ : Cnt q Q ∨ Co q Q) (h : wpAny M A (execs b env) q E s) : wpAny M A (execs b env) q E s := h
theorem nm {α : Type} (e : α) {G : Prop} (k : ∀ x, x = e → G) : G := k e rfl
theorem room0 {d c l : Nat} (h : d + c < l) : d < l := Nat.lt_of_le_of_lt (Nat.le_add_right _ _) h
theorem room1 {d a c l : Nat} (h : d + c < l) (e : Nat.ble a c = true) : d + a < l := Nat.lt_of_le_of_lt (Nat.add_le_add_left (Nat.le_of_ble_eq_true e) _) h
theorem room2 {d a b c l : Nat} (h : d + c < l) (e : Nat.ble (a + b) c = true) : d + a + b < l := by rw [Nat.add_assoc]; exact room1 h e
theorem room3 {d a b a₂ c l : Nat} (h : d + c < l) (e : Nat.ble (a + b + a₂) c = true) : d + a + b + a₂ < l := by rw [Nat.add_assoc, Nat.add_assoc, ← Nat.add_assoc a]; exact room1 h e
theorem room4 {d a b a₂ a₃ c l : Nat} (h : d + c < l) (e : Nat.ble (a + b + a₂ + a₃) c = true) : d + a + b + a₂ + a₃ < l := by
  have : d + a + b + a₂ + a₃ = d + (a + b + a₂ + a₃) := by omega
  rw [this]; exact room1 h e
end Mine
end
section
namespace Mine

noncomputable def up (l : List Nat) : List Int := l.map fun (n : Nat) => (n : Int)
theorem up_length (l : List Nat) : (up l).length = l.length := by simp [up]
theorem up_getD (l : List Nat) (i : Nat) : (up l).getD i 0 = ((l.getD i 0 : Nat) : Int) := by
  simp only [up, List.getD_eq_getElem?_getD, List.getElem?_map]
  cases l[i]? <;> simp
theorem up_append (a b : List Nat) : up (a ++ b) = up a ++ up b := by simp [up]
theorem up_nil : up [] = [] := rfl
theorem up_cons (a : Nat) (l : List Nat) : up (a :: l) = (a : Int) :: up l := rfl
theorem up_one (a : Nat) : up [a] = [(a : Int)] := rfl
theorem up_drop (l : List Nat) (k : Nat) : up (l.drop k) = (up l).drop k := by simp [up, List.map_drop]
theorem up_take (l : List Nat) (k : Nat) : up (l.take k) = (up l).take k := by simp [up, List.map_take]

theorem div_pow_lt {n w : Nat} (h : n ≠ 0) (hw : w ≠ 0) : n / 2 ^ w < n :=
  Nat.div_lt_self (Nat.pos_of_ne_zero h) (Nat.one_lt_two_pow hw)

noncomputable def digs (w n : Nat) : List Nat := if h : n = 0 ∨ w = 0 then [] else n % 2 ^ w :: digs w (n / 2 ^ w)
termination_by n
decreasing_by exact div_pow_lt (fun e => h (.inl e)) (fun e => h (.inr e))

theorem digs_zero (w : Nat) : digs w 0 = [] := by unfold digs; simp
theorem digs_pos {w n : Nat} (hw : 0 < w) (hn : 0 < n) : digs w n = n % 2 ^ w :: digs w (n / 2 ^ w) := by
  rw [digs]; rw [dif_neg (by omega)]

noncomputable def nval (w : Nat) : List Nat → Nat
  | [] => 0
  | d :: r => d + 2 ^ w * nval w r

noncomputable def Lim (w : Nat) (l : List Nat) : Prop := ∀ d ∈ l, d < 2 ^ w
theorem Lim.nil {w : Nat} : Lim w [] := fun _ h => nomatch h
theorem Lim.cons {w d : Nat} {l : List Nat} (h : d < 2 ^ w) (hl : Lim w l) : Lim w (d :: l) := fun x hx => by
  rcases List.mem_cons.mp hx with rfl | hx
  · exact h
  · exact hl x hx
theorem Lim.append {w : Nat} {a b : List Nat} (ha : Lim w a) (hb : Lim w b) : Lim w (a ++ b) := fun x hx =>
  (List.mem_append.mp hx).elim (ha x) (hb x)
theorem Lim.push {w d : Nat} {a : List Nat} (ha : Lim w a) (h : d < 2 ^ w) : Lim w (a ++ [d]) := ha.append (.cons h .nil)
theorem Lim.tail {w d : Nat} {l : List Nat} (h : Lim w (d :: l)) : Lim w l := fun x hx => h x (.tail _ hx)
theorem Lim.head {w d : Nat} {l : List Nat} (h : Lim w (d :: l)) : d < 2 ^ w := h d (.head _)
theorem Lim.take {w : Nat} {l : List Nat} (h : Lim w l) (k : Nat) : Lim w (l.take k) := fun x hx => h x (List.mem_of_mem_take hx)
theorem Lim.set {w d : Nat} {l : List Nat} (h : Lim w l) (hd : d < 2 ^ w) (k : Nat) : Lim w (l.set k d) := fun x hx => by
  rcases List.mem_or_eq_of_mem_set hx with hx | rfl
  · exact h x hx
  · exact hd
theorem Lim.replicate {w k : Nat} : Lim w (List.replicate k 0) := fun x hx => by
  rw [(List.mem_replicate.mp hx).2]; exact Nat.two_pow_pos w
theorem Lim.getD {w : Nat} {l : List Nat} (h : Lim w l) (i : Nat) : l.getD i 0 < 2 ^ w := by
  rw [List.getD_eq_getElem?_getD]
  cases e : l[i]? with
  | none => exact Nat.two_pow_pos w
  | some x => exact h x (List.mem_of_getElem? e)

theorem nval_append (w : Nat) (a b : List Nat) : nval w (a ++ b) = nval w a + 2 ^ (w * a.length) * nval w b := by
  induction a with
  | nil => simp [nval]
  | cons d r ih =>
    simp only [List.cons_append, nval, ih, List.length_cons, Nat.mul_add, Nat.mul_one, Nat.pow_add]
    rw [← Nat.mul_assoc, Nat.mul_comm (2 ^ w) (2 ^ (w * r.length)), Nat.add_assoc]
theorem nval_push (w : Nat) (a : List Nat) (d : Nat) : nval w (a ++ [d]) = nval w a + 2 ^ (w * a.length) * d := by
  rw [nval_append]; simp [nval]
theorem nval_replicate (w k : Nat) : nval w (List.replicate k 0) = 0 := by
  induction k with
  | zero => rfl
  | succ k ih => rw [List.replicate_succ]; simp [nval, ih]
theorem nval_lt {w : Nat} {l : List Nat} (h : Lim w l) : nval w l < 2 ^ (w * l.length) := by
  induction l with
  | nil => simp [nval]
  | cons d r ih =>
    have h1 := ih h.tail
    have h2 := h.head
    simp only [nval, List.length_cons, Nat.mul_add, Nat.mul_one, Nat.pow_add]
    have h3 : 2 ^ w * (nval w r + 1) ≤ 2 ^ w * 2 ^ (w * r.length) := Nat.mul_le_mul_left _ h1
    rw [Nat.mul_add, Nat.mul_one] at h3
    rw [Nat.mul_comm (2 ^ (w * r.length))]
    omega

theorem nval_digs {w : Nat} (hw : 0 < w) : ∀ n, nval w (digs w n) = n := by
  intro n
  induction n using Nat.strongRecOn with
  | ind n ih =>
    by_cases hn : n = 0
    · subst hn; rw [digs_zero]; rfl
    · rw [digs_pos hw (by omega)]
      show n % 2 ^ w + 2 ^ w * nval w (digs w (n / 2 ^ w)) = n
      rw [ih _ (div_pow_lt hn (by omega))]
      exact Nat.mod_add_div _ _
theorem lim_digs {w : Nat} (hw : 0 < w) : ∀ n, Lim w (digs w n) := by
  intro n
  induction n using Nat.strongRecOn with
  | ind n ih =>
    by_cases hn : n = 0
    · subst hn; rw [digs_zero]; exact .nil
    · rw [digs_pos hw (by omega)]
      exact .cons (Nat.mod_lt _ (Nat.two_pow_pos w)) (ih _ (div_pow_lt hn (by omega)))
theorem digs_eq_nil {w n : Nat} (hw : 0 < w) : digs w n = [] ↔ n = 0 := by
  constructor
  · intro h
    by_cases hn : n = 0
    · exact hn
    · rw [digs_pos hw (by omega)] at h; cases h
  · rintro rfl; exact digs_zero w
theorem digs_len_pos {w n : Nat} (hw : 0 < w) : 0 < (digs w n).length ↔ 0 < n := by
  have := digs_eq_nil (n := n) hw
  constructor
  · intro h
    apply Nat.pos_of_ne_zero
    intro e
    rw [this.mpr e] at h
    cases h
  · intro h
    apply Nat.pos_of_ne_zero
    intro e
    have := this.mp (List.eq_nil_of_length_eq_zero e)
    omega
/-- the top digit is no nought -/
theorem digs_ge {w : Nat} (hw : 0 < w) : ∀ n, 0 < n → 2 ^ (w * ((digs w n).length - 1)) ≤ n := by
  intro n
  induction n using Nat.strongRecOn with
  | ind n ih =>
    intro hn
    rw [digs_pos hw hn]
    simp only [List.length_cons, Nat.add_sub_cancel]
    by_cases h0 : n / 2 ^ w = 0
    · rw [h0, digs_zero, List.length_nil, Nat.mul_zero, Nat.pow_zero]; omega
    · have h1 := ih (n / 2 ^ w) (div_pow_lt (by omega) (by omega)) (Nat.pos_of_ne_zero h0)
      have hl := (digs_len_pos (n := n / 2 ^ w) hw).mpr (Nat.pos_of_ne_zero h0)
      have e : w * (digs w (n / 2 ^ w)).length = w + w * ((digs w (n / 2 ^ w)).length - 1) := by
        obtain ⟨k, hk⟩ : ∃ k, (digs w (n / 2 ^ w)).length = k + 1 := ⟨(digs w (n / 2 ^ w)).length - 1, by omega⟩
        rw [hk, Nat.add_sub_cancel, Nat.mul_add, Nat.mul_one, Nat.add_comm]
      rw [e, Nat.pow_add]
      calc 2 ^ w * 2 ^ (w * ((digs w (n / 2 ^ w)).length - 1)) ≤ 2 ^ w * (n / 2 ^ w) := Nat.mul_le_mul_left _ h1
        _ ≤ n := Nat.mul_div_le _ _
theorem digs_lt {w : Nat} (hw : 0 < w) (n : Nat) : n < 2 ^ (w * (digs w n).length) := by
  have := nval_lt (lim_digs hw n)
  rwa [nval_digs hw] at this
theorem pow_lt_inv {a b : Nat} (h : 2 ^ a < 2 ^ b) : a < b := (Nat.pow_lt_pow_iff_right (by decide)).mp h
theorem digs_len_le {w n k : Nat} (hw : 0 < w) (h : n < 2 ^ k) : (digs w n).length ≤ k := by
  by_cases hn : n = 0
  · subst hn; rw [digs_zero]; exact Nat.zero_le _
  · have h1 := digs_ge hw n (by omega)
    have h2 := pow_lt_inv (Nat.lt_of_le_of_lt h1 h)
    have h3 : (digs w n).length - 1 ≤ w * ((digs w n).length - 1) := Nat.le_mul_of_pos_left _ hw
    omega
theorem digs_len_le_mul {w n k : Nat} (hw : 0 < w) (h : n < 2 ^ (w * k)) : (digs w n).length ≤ k := by
  by_cases hn : n = 0
  · subst hn; rw [digs_zero]; exact Nat.zero_le _
  · have h1 := digs_ge hw n (by omega)
    have h2 := pow_lt_inv (Nat.lt_of_le_of_lt h1 h)
    have h3 := Nat.lt_of_mul_lt_mul_left h2
    omega
theorem digs_of {w : Nat} (hw : 0 < w) : ∀ {l : List Nat}, Lim w l → (∀ h : l ≠ [], l.getLast h ≠ 0) → l = digs w (nval w l) := by
  intro l
  induction l with
  | nil => intro _ _; rw [nval, digs_zero]
  | cons d r ih =>
    intro hl hn
    have hd := hl.head
    have hr : r = digs w (nval w r) := ih hl.tail (fun h => by have := hn (by simp); rwa [List.getLast_cons h] at this)
    have hpos : 0 < nval w (d :: r) := by
      show 0 < d + 2 ^ w * nval w r
      by_cases hr0 : r = []
      · subst hr0
        have := hn (by simp)
        simp at this
        omega
      · have h1 : 0 < nval w r := by
          apply Nat.pos_of_ne_zero
          intro e
          rw [e, digs_zero] at hr
          exact hr0 hr
        have := Nat.mul_pos (Nat.two_pow_pos w) h1
        omega
    rw [digs_pos hw hpos]
    have e1 : nval w (d :: r) % 2 ^ w = d := by
      show (d + 2 ^ w * nval w r) % 2 ^ w = d
      rw [Nat.add_mul_mod_self_left, Nat.mod_eq_of_lt hd]
    have e2 : nval w (d :: r) / 2 ^ w = nval w r := by
      show (d + 2 ^ w * nval w r) / 2 ^ w = nval w r
      rw [Nat.add_mul_div_left _ _ (Nat.two_pow_pos w), Nat.div_eq_of_lt hd, Nat.zero_add]
    rw [e1, e2, ← hr]
/-- a list of limbs whose value needs its length is the number's own -/
theorem digs_of_ge {w : Nat} (hw : 0 < w) {l : List Nat} (hl : Lim w l) (h : l ≠ [] → 2 ^ (w * (l.length - 1)) ≤ nval w l) : l = digs w (nval w l) := by
  refine digs_of hw hl (fun hne e => ?_)
  have h0 := h hne
  have hs : l = l.dropLast ++ [0] := by rw [← e]; exact (List.dropLast_concat_getLast hne).symm
  have hv : nval w l = nval w l.dropLast := by
    have := congrArg (nval w) hs
    rwa [nval_push, Nat.mul_zero, Nat.add_zero] at this
  have hl' : Lim w l.dropLast := fun x hx => hl x ((List.dropLast_sublist _).subset hx)
  have h1 := nval_lt hl'
  rw [List.length_dropLast] at h1
  omega
theorem nval_take {w : Nat} {l : List Nat} (hl : Lim w l) (k : Nat) : nval w (l.take k) = nval w l % 2 ^ (w * k) := by
  by_cases hk : k ≤ l.length
  · have hs : nval w l = nval w (l.take k) + 2 ^ (w * k) * nval w (l.drop k) := by
      have := nval_append w (l.take k) (l.drop k)
      rw [List.take_append_drop, List.length_take, Nat.min_eq_left hk] at this
      exact this
    have h1 := nval_lt (hl.take k)
    rw [List.length_take, Nat.min_eq_left hk] at h1
    rw [hs, Nat.add_mul_mod_self_left, Nat.mod_eq_of_lt h1]
  · have h0 := nval_lt hl
    rw [List.take_of_length_le (by omega), Nat.mod_eq_of_lt]
    exact Nat.lt_of_lt_of_le h0 (Nat.pow_le_pow_right (by decide) (Nat.mul_le_mul_left _ (by omega)))
theorem getD_nval {w : Nat} {l : List Nat} (hl : Lim w l) (i : Nat) : l.getD i 0 = nval w l / 2 ^ (w * i) % 2 ^ w := by
  induction l generalizing i with
  | nil => simp [nval]
  | cons d r ih =>
    have hd := hl.head
    cases i with
    | zero =>
      simp only [nval, List.getD_cons_zero, Nat.mul_zero, Nat.pow_zero, Nat.div_one, Nat.add_mul_mod_self_left]
      exact (Nat.mod_eq_of_lt hd).symm
    | succ i =>
      rw [List.getD_cons_succ, ih hl.tail i]
      show nval w r / 2 ^ (w * i) % 2 ^ w = (d + 2 ^ w * nval w r) / 2 ^ (w * (i + 1)) % 2 ^ w
      rw [Nat.mul_add, Nat.mul_one, Nat.add_comm (w * i) w, Nat.pow_add, ← Nat.div_div_eq_div_mul, Nat.add_mul_div_left _ _ (Nat.two_pow_pos w), Nat.div_eq_of_lt hd, Nat.zero_add]
theorem getD_digs {w : Nat} (hw : 0 < w) (n i : Nat) : (digs w n).getD i 0 = n / 2 ^ (w * i) % 2 ^ w := by
  rw [getD_nval (lim_digs hw n), nval_digs hw]
theorem mod_succ (x w i : Nat) : x % 2 ^ (w * (i + 1)) = x % 2 ^ (w * i) + 2 ^ (w * i) * (x / 2 ^ (w * i) % 2 ^ w) := by
  rw [Nat.mul_add, Nat.mul_one, Nat.pow_add, Nat.mod_mul]
theorem nval_set {w : Nat} : ∀ {l : List Nat} {k : Nat} (v : Nat), k < l.length → nval w (l.set k v) + 2 ^ (w * k) * l.getD k 0 = nval w l + 2 ^ (w * k) * v
  | d :: r, 0, v, _ => by simp [nval]; omega
  | d :: r, k + 1, v, h => by
    have ih := nval_set (w := w) (l := r) (k := k) v (by simpa using h)
    simp only [List.set_cons_succ, nval, List.getD_cons_succ]
    rw [Nat.mul_add, Nat.mul_one, Nat.add_comm (w * k) w, Nat.pow_add, Nat.mul_assoc, Nat.mul_assoc]
    have h2 : 2 ^ w * (nval w (r.set k v) + 2 ^ (w * k) * r.getD k 0) = 2 ^ w * (nval w r + 2 ^ (w * k) * v) := by rw [ih]
    rw [Nat.mul_add, Nat.mul_add] at h2
    omega
theorem getD_beyond {l : List Nat} {i : Nat} (h : l.length ≤ i) : l.getD i 0 = 0 := by
  rw [List.getD_eq_getElem?_getD, List.getElem?_eq_none h]; rfl
theorem digit64 {w : Nat} (hw : 0 < w) (hw2 : w ≤ 6) (n i : Nat) : (digs w n).getD i 0 < 64 :=
  Nat.lt_of_lt_of_le ((lim_digs hw n).getD i) (Nat.le_trans (Nat.pow_le_pow_right (by decide) hw2) (by decide))
theorem digit64i {w : Nat} (hw : 0 < w) (hw2 : w ≤ 6) (n i : Nat) : 0 ≤ (up (digs w n)).getD i 0 ∧ (up (digs w n)).getD i 0 < 64 := by
  have := digit64 hw hw2 n i
  rw [up_getD]; omega
/-- trailing noughts struck -/
theorem digs_of_take {w : Nat} (hw : 0 < w) {l : List Nat} (hl : Lim w l) {k : Nat} (hk : k ≤ l.length) (hz : ∀ j, k ≤ j → j < l.length → l.getD j 0 = 0) (hn : 0 < k → l.getD (k - 1) 0 ≠ 0) : l.take k = digs w (nval w l) := by
  have hv : nval w (l.drop k) = 0 := by
    have h0 : ∀ x ∈ l.drop k, x = 0 := by
      intro x hx
      obtain ⟨i, hi, rfl⟩ := List.mem_iff_getElem.mp hx
      have hi' : k + i < l.length := by simpa using (by rw [List.length_drop] at hi; omega : k + i < l.length)
      have := hz (k + i) (by omega) hi'
      rw [List.getD_eq_getElem?_getD, List.getElem?_eq_getElem hi'] at this
      simpa using this
    generalize l.drop k = r at h0
    induction r with
    | nil => rfl
    | cons d r ih => simp [nval, h0 d (.head _), ih (fun x hx => h0 x (.tail _ hx))]
  have hs : nval w l = nval w (l.take k) := by
    have := nval_append w (l.take k) (l.drop k)
    rw [List.take_append_drop, hv, Nat.mul_zero, Nat.add_zero] at this
    exact this
  rw [hs]
  refine digs_of hw (hl.take k) (fun hne e => ?_)
  have hk0 : 0 < k := by
    apply Nat.pos_of_ne_zero
    rintro rfl
    exact hne (by simp)
  have hlt : k - 1 < l.length := by omega
  apply hn hk0
  rw [List.getD_eq_getElem?_getD, List.getElem?_eq_getElem hlt]
  rw [List.getLast_eq_getElem] at e
  simp only [List.length_take, Nat.min_eq_left hk, List.getElem_take] at e
  simpa using e
end Mine
end
section
open PySem PySem.W PyProof.Rows PySem.Calls
namespace Mine
theorem cast_pow (k : Nat) : ((2 ^ k : Nat) : Int) = (2 : Int) ^ k := kbt_cast k
theorem and_mask (x : Nat) (w : Nat) : Builtin.bitAnd (x : Int) (1 * 2 ^ (w : Int).toNat - 1) = ((x % 2 ^ w : Nat) : Int) := by
  rw [Int.one_mul, Int.toNat_natCast, kbt_mask, ← cast_pow]; rfl
theorem shr_nat (x : Nat) (w : Nat) : (x : Int).fdiv (2 ^ (w : Int).toNat) = ((x / 2 ^ w : Nat) : Int) := by
  rw [Int.toNat_natCast, ← cast_pow, Int.fdiv_eq_ediv_of_nonneg _ (Int.natCast_nonneg _)]; rfl
theorem shl_nat (x : Nat) (w : Nat) : (x : Int) * 2 ^ (w : Int).toNat = ((x * 2 ^ w : Nat) : Int) := by
  rw [Int.toNat_natCast, ← cast_pow]; rfl
theorem bitOr_nat (x y : Nat) : Builtin.bitOr (x : Int) (y : Int) = ((x ||| y : Nat) : Int) := by
  have h1 : ¬ (0 ≤ Builtin.bitNot (x : Int)) := by unfold Builtin.bitNot; omega
  have h2 : ¬ (0 ≤ Builtin.bitNot (y : Int)) := by unfold Builtin.bitNot; omega
  unfold Builtin.bitOr Builtin.bitAnd
  rw [decide_eq_false h1, decide_eq_false h2]
  show Builtin.bitNot (Builtin.bitNot _) = _
  have e : ∀ z : Int, Builtin.bitNot (Builtin.bitNot z) = z := fun z => by unfold Builtin.bitNot; omega
  rw [e, e, e]
  simp
theorem or_low {x y k : Nat} (h : x < 2 ^ k) : x ||| y * 2 ^ k = x + y * 2 ^ k := by
  have := Nat.two_pow_add_eq_or_of_lt h y
  rw [Nat.mul_comm y, Nat.or_comm]
  omega
theorem Intsup.push {vs : List Value} {l : List Nat} {d : Nat} {t : Tok} {i : Int} (h : IntsAre vs (up l)) (e : i = (d : Int)) : IntsAre (vs ++ [.int i t]) (up (l ++ [d])) := by
  subst e
  rw [up_append]
  exact h.append (.cons _ _ .nil)
theorem mem_push {l : Addr} {vs : List Value} {v : Value} {k : Nat} {news : List (Addr × Obj)} (h : (l, (⟨.type "list", none, .seq (vs.toArray.push v) k, #[]⟩ : Obj)) ∈ news) : (l, (⟨.type "list", none, .seq (vs ++ [v]).toArray k, #[]⟩ : Obj)) ∈ news := by
  rw [show (vs ++ [v]).toArray = vs.toArray.push v by simp]
  exact h
theorem ints_item {vs : List Value} {l : List Nat} (hi : IntsAre vs (up l)) {i : Nat} {v : Value} (hv : vs[i]? = some v) : ∃ t, v = .int ((l.getD i 0 : Nat) : Int) t := by
  have hlt : i < vs.length := by
    obtain ⟨h, _⟩ := List.getElem?_eq_some_iff.mp hv
    exact h
  have hl : i < l.length := by rw [hi.length, up_length] at hlt; exact hlt
  have he : (up l)[i]? = some ((l.getD i 0 : Nat) : Int) := by
    simp [up, List.getElem?_map, List.getElem?_eq_getElem hl, List.getD_eq_getElem?_getD]
  obtain ⟨t, ht⟩ := hi.get i _ he
  rw [hv] at ht
  exact ⟨t, Option.some.inj ht⟩
theorem getD_set_ne {l : List Nat} {i z v : Nat} (h : z ≠ i) : (l.set i v).getD z 0 = l.getD z 0 := by
  rw [List.getD_eq_getElem?_getD, List.getD_eq_getElem?_getD, List.getElem?_set_ne (Ne.symm h)]
theorem ints_set {vs : List Value} {ns : List Int} {t : Tok} {i : Int} : ∀ {k : Nat}, IntsAre vs ns → IntsAre (vs.set k (.int i t)) (ns.set k i)
  | _, .nil => .nil
  | 0, .cons n t' h => .cons i t h
  | k + 1, .cons n t' h => .cons n t' (ints_set h)
theorem Intsup.set {vs : List Value} {l : List Nat} {d k : Nat} {t : Tok} {i : Int} (h : IntsAre vs (up l)) (e : i = (d : Int)) : IntsAre (vs.set k (.int i t)) (up (l.set k d)) := by
  subst e
  have : up (l.set k d) = (up l).set k (d : Int) := by simp [up, List.map_set]
  rw [this]
  exact ints_set h
theorem some_int {a b : Int} {t : Tok} (h : a = b) : some (Value.int a t) = some (Value.int b t) := by rw [h]
theorem news_push {h₀ h : Heap} {L l : Addr} {vs : List Value} {v : Value} {k : Nat} {r : List (Addr × Obj)} (N : News h₀ L h ((l, (⟨.type "list", none, .seq (vs.toArray.push v) k, #[]⟩ : Obj)) :: r)) :
    News h₀ L h ((l, (⟨.type "list", none, .seq (vs ++ [v]).toArray k, #[]⟩ : Obj)) :: r) := by
  rw [show (vs ++ [v]).toArray = vs.toArray.push v by simp]
  exact N
end Mine
end
section
open PySem PySem.W PyProof.Rows PySem.Calls PySem.Spec
namespace Mine
section
variable {prog : Program} {w : World} {A : Around} {E : Value → Shared → Prop} {s : Shared} {h₀ : Heap} {L : Addr} {m : Str → Option Value} {news : Led} {Q : Value → Shared → Prop}

theorem zeros_arr (v : Value) (n : Nat) : List.foldl (fun x1 x2 => x1 ++ x2) #[] (List.replicate n #[v]) = (List.replicate n v).toArray := by
  have h : ∀ (k : Nat) (a : Array Value), List.foldl (fun x1 x2 => x1 ++ x2) a (List.replicate k #[v]) = a ++ (List.replicate k v).toArray := by
    intro k
    induction k with
    | zero => intro a; simp
    | succ k ih =>
      intro a
      rw [List.replicate_succ, List.foldl_cons, ih, List.replicate_succ]
      apply Array.toList_inj.mp
      simp
  rw [h]; simp
theorem ints_zeros (t : Tok) (n : Nat) : IntsAre (List.replicate n (Value.int 0 t)) (up (List.replicate n 0)) := by
  induction n with
  | zero => exact .nil
  | succ n ih => rw [List.replicate_succ, List.replicate_succ]; exact .cons _ _ ih
theorem zeros_C {l : Addr} {t u : Tok} {k : Nat} {x : Int} (F : Fr h₀ L s.heap m) (N : News h₀ L s.heap news) (hl : (l, lst [.int 0 t] k) ∈ news) (h0 : 0 ≤ x) (hx : x ≤ 1000)
    (h : ∀ r h' vs', Fr h₀ L h' m → News h₀ L h' ((r, lst vs' 0) :: news) → IntsAre vs' (up (List.replicate x.toNat 0)) → (∀ p ∈ news, p.1 < r) → Q (.ref r) { s with heap := h' }) :
    wpAny (model prog w) A (binaryOp .Mult (.ref l) (.int x u)) Q E s := by
  refine mul_list (items := #[.int 0 t]) (k := k) F N (N _ hl).1 (by omega) (by omega) (by simp; omega) fun h' F' N' => ?_
  have e : List.foldl (fun x1 x2 => x1 ++ x2) #[] (List.replicate (if (#[Value.int 0 t] : Array Value).isEmpty = true then 0 else x.toNat) #[Value.int 0 t]) = (List.replicate x.toNat (Value.int 0 t)).toArray := by
    rw [if_neg (by simp)]; exact zeros_arr _ _
  rw [e] at N'
  exact h _ h' _ F' N' (ints_zeros _ _) fun p hp => Heap.lt_size (N p hp).1

theorem fdiv_nat (n k : Nat) : (n : Int).fdiv (k : Int) = ((n / k : Nat) : Int) := by
  rw [Int.fdiv_eq_ediv_of_nonneg _ (Int.natCast_nonneg _)]; rfl
theorem fmod_nat (n k : Nat) : (n : Int).fmod (k : Int) = ((n % k : Nat) : Int) := by
  rw [Int.fmod_eq_emod_of_nonneg _ (Int.natCast_nonneg _)]; rfl
theorem floordiv_nat {n k : Nat} {t u : Tok} (hk : 0 < k) (hk2 : k ≤ 1000) (h : Q (.int ((n / k : Nat) : Int) s.toks) { s with toks := s.toks + 1 }) : wpAny (model prog w) A (binaryOp .FloorDiv (.int (n : Int) t) (.int (k : Int) u)) Q E s := by
  refine floordiv_int (by omega) (by rw [fdiv_nat]; exact h) (Or.inl (PyProof.noPylong_small (by omega)))
theorem floordiv_two {n : Nat} {t u : Tok} (h : Q (.int ((n / 2 : Nat) : Int) s.toks) { s with toks := s.toks + 1 }) : wpAny (model prog w) A (binaryOp .FloorDiv (.int (n : Int) t) (.int 2 u)) Q E s :=
  floordiv_nat (n := n) (k := 2) (by decide) (by decide) h
theorem mod_nat {n k : Nat} {t u : Tok} (hk : 0 < k) (h : Q (.int ((n % k : Nat) : Int) s.toks) { s with toks := s.toks + 1 }) : wpAny (model prog w) A (binaryOp .Mod (.int (n : Int) t) (.int (k : Int) u)) Q E s := by
  refine mod_int' (by omega) (by rw [fmod_nat]; exact h)
end

section
variable {prog : Program} {w : World} {A : Around} {E : Value → Shared → Prop} {s : Shared} {env : Env} {h₀ : Heap} {xi xc : Str} {body : List Stmt} {Q : Flow → Shared → Prop}
theorem for_enum {σ : Type} {l : Addr} {vs : List Value} {k : Nat} {m₀ : Str → Option Value} {news : Led} (adr : List Addr) (keep : List Str) (bs : σ → Bs) (hot : σ → Led) (P : Nat → σ → Prop) (st₀ : σ) (cold : Led)
    (hh : A.handled = none) (hadr : ∀ st, (hot st).map (·.1) = adr) (hl : (l, lst vs k) ∈ cold)
    (F : Fr h₀ env.locals s.heap m₀) (N : News h₀ env.locals s.heap news) (hb' : Binds m₀ (bs st₀)) (hin' : SubL news (hot st₀)) (hcold' : ∀ p ∈ cold, p ∈ news) (hsep' : SepL cold (hot st₀)) (hP : P 0 st₀)
    (turn : ∀ i v t st u h tk rest, i < vs.length → vs[i]? = some v → P i st → (∀ p ∈ cold, p ∈ rest) → Sep (hot st) rest → Fr h₀ env.locals h (fun y => if y = xc then some v else if y = xi then some (.int (i : Int) t) else bnd (keepM keep m₀ u) (bs st) y) → News h₀ env.locals h (hot st ++ rest) →
      wpAny (model prog w) A (execs body env) (TurnEnd h₀ env.locals keep m₀ bs hot (P (i + 1)) rest { s with heap := h, toks := tk } Q) E { s with heap := h, toks := tk })
    (done : ∀ st u h tk, P vs.length st → Sep (hot st) cold → Fr h₀ env.locals h (bnd (keepM keep m₀ u) (bs st)) → News h₀ env.locals h (hot st ++ cold) → Q .next { s with heap := h, toks := tk }) :
    wpAny (model prog w) A (call (.type "enumerate") [.ref l]) (fun xv s₁ => wpAny (model prog w) A (pyIter xv) (fun it s₂ => PairAt3 prog w A h₀ env xi xc body Q E it s₂) E s₁) E s := by
  have hin : ∀ p ∈ hot st₀ ++ cold, p ∈ news := fun p hp => (List.mem_append.mp hp).elim (hin'.all p) (hcold' p)
  have hlN := N _ (hin _ (List.mem_append_right _ hl))
  have hls : s.heap.IsList l vs.toArray := ⟨_, hlN.1, rfl, k, rfl⟩
  have hl2 : l < s.heap.objs.size := Heap.lt_size hlN.1
  have hLs : env.locals < s.heap.objs.size := F.ns.lt
  have hab : h₀.objs.size ≤ env.locals := F.above
  refine call_enumerate_list hls fun h' he hit hsz hk => ?_
  refine wpAny_pyIter_enum he ?_
  have F' : Fr h₀ env.locals h' m₀ := ⟨F.ns.keeps hk, fun b o e => hk b o (F.keep b o e), F.above⟩
  have N' : News h₀ env.locals h' news := fun p hp => ⟨hk _ _ (N p hp).1, (N p hp).2⟩
  have W := WalksT.enumerate (prog := prog) (w := w) hh (s.heap.objs.size + 1) s.heap.objs.size l (Nat.succ_ne_self _) (Nat.ne_of_lt (Nat.lt_succ_of_lt hl2)) (Nat.ne_of_lt hl2) vs.toArray
  let J : Nat → (Str → Option Value) → Led → Prop := fun i m nx => ∃ st, nx = hot st ++ cold ∧ Sep (hot st) cold ∧ (∀ p ∈ bs st, m p.1 = some p.2) ∧ (∀ y ∈ keep, m y = m₀ y) ∧ P i st
  have lo : ∀ q ∈ hot st₀ ++ cold, q.1 < s.heap.objs.size := fun q hq => Heap.lt_size (N q (hin q hq)).1
  refine ⟨_, _, _, vs.toArray.size, _, _, _, (fun i v0 v1 => ∃ t, v0 = .int (i : Int) t ∧ vs[i]? = some v1), m₀, hot st₀ ++ cold, J, rfl, W, ?_, ?_, ?_, ?_, ⟨⟨_, he⟩, hit, hls.at fun o e => hk l o e⟩, F', fun p hp => N' p (hin p hp), ⟨st₀, rfl, hsep'.all, hb'.all, fun _ _ => rfl, hP⟩, ?_, ?_⟩
  · rintro i vals ⟨t, x, hx, rfl⟩
    exact ⟨_, _, rfl, t, rfl, by simpa using hx⟩
  · intro hm
    rcases List.mem_cons.mp hm with e | hm
    · exact Nat.ne_of_lt (Nat.lt_succ_of_lt hLs) e
    · rcases List.mem_cons.mp hm with e | hm
      · exact Nat.ne_of_lt hLs e
      · exact hlN.2.1 (List.mem_singleton.mp hm).symm
  · intro b hb
    rcases List.mem_cons.mp hb with rfl | hb
    · exact Heap.get?_none_of_le (Nat.le_trans hab (Nat.le_of_lt (Nat.lt_succ_of_lt hLs)))
    · rw [List.mem_singleton.mp hb]; exact Heap.get?_none_of_le (Nat.le_trans hab (Nat.le_of_lt hLs))
  · intro p hp hm
    have t1 : @LT.lt Nat _ p.1 s.heap.objs.size := lo p hp
    rcases List.mem_cons.mp hm with e | hm
    · have t2 : @Eq Nat p.1 (s.heap.objs.size + 1) := e
      omega
    · have t2 : @Eq Nat p.1 s.heap.objs.size := List.mem_singleton.mp hm
      omega
  · rintro i v0 v1 m₁ news₁ s₁ own ⟨hh', tk, rfl⟩ hi ⟨t, rfl, hv⟩ ⟨st, rfl, hsep, hb, hkp, hP'⟩ ha hown F₁ N₁
    have hi' : i < vs.length := by simpa using hi
    have hadrs : ∀ q ∈ hot st, q.1 < s.heap.objs.size := fun q hq => by
      have : q.1 ∈ (hot st₀).map (·.1) := by rw [hadr, ← hadr st]; exact List.mem_map_of_mem hq
      obtain ⟨q', hq', e⟩ := List.mem_map.mp this
      rw [← e]; exact lo q' (List.mem_append_left _ hq')
    have hsep2 : Sep (hot st) (cold ++ own) := by
      intro p hp q hq
      rcases List.mem_append.mp hq with hq | hq
      · exact hsep p hp q hq
      · intro e
        have t1 : @LT.lt Nat _ p.1 s.heap.objs.size := hadrs p hp
        have t2 : @Eq Nat q.1 p.1 := e
        rcases List.mem_cons.mp (hown q hq) with e1 | hm
        · have t3 : @Eq Nat q.1 (s.heap.objs.size + 1) := e1
          omega
        · rcases List.mem_cons.mp hm with e1 | hm
          · have t3 : @Eq Nat q.1 s.heap.objs.size := e1
            omega
          · have e1 := List.mem_singleton.mp hm
            exact hsep p hp _ hl (e1.symm.trans e)
    have F₂ : Fr h₀ env.locals hh' (fun y => if y = xc then some v1 else if y = xi then some (.int (i : Int) t) else bnd (keepM keep m₀ m₁) (bs st) y) := by rw [keepM_self hkp, bnd_self hb]; exact F₁
    have N₂ : News h₀ env.locals hh' (hot st ++ (cold ++ own)) := fun p hp => N₁ p (by
      rcases List.mem_append.mp hp with h1 | h1
      · exact List.mem_append_right _ (List.mem_append_left _ h1)
      · rcases List.mem_append.mp h1 with h2 | h2
        · exact List.mem_append_right _ (List.mem_append_right _ h2)
        · exact List.mem_append_left _ h2)
    refine wpAny_mono (turn i v1 t st m₁ hh' tk (cold ++ own) hi' hv hP' (fun p hp => List.mem_append_left _ hp) hsep2 F₂ N₂) (fun f s₂ p => ?_) fun _ _ e => e
    have fin : (∃ st h' tk' m', s₂ = { s with heap := h', toks := tk' } ∧ Fr h₀ env.locals h' m' ∧ News h₀ env.locals h' (hot st ++ (cold ++ own)) ∧ Sep (hot st) (cold ++ own) ∧ (∀ p ∈ bs st, m' p.1 = some p.2) ∧ (∀ y ∈ keep, m' y = m₀ y) ∧ P (i + 1) st) →
        LoopStep2 h₀ env.locals own (hot st ++ cold) (J (i + 1)) { s with heap := hh', toks := tk } .next s₂ := by
      rintro ⟨st', h', tk', m', rfl, F', N', hs', hbs', hk'', hP''⟩
      refine ⟨rfl, h', tk', m', hot st' ++ cold, rfl, F', fun p hp => N' p ?_, ?_, st', rfl, fun p hp q hq => hs' p hp q (List.mem_append_left _ hq), hbs', hk'', hP''⟩
      · rcases List.mem_append.mp hp with h1 | h1
        · exact List.mem_append_right _ (List.mem_append_right _ h1)
        · rcases List.mem_append.mp h1 with h2 | h2
          · exact List.mem_append_left _ h2
          · exact List.mem_append_right _ (List.mem_append_left _ h2)
      · rw [List.map_append, List.map_append, hadr, hadr]
    cases f with
    | ret v => exact p
    | brk => exact p
    | next => exact fin p
    | cont => exact fin p
  · rintro h' tk m' news' F' N' ha ⟨st, rfl, hsep, hb, hkp, hP'⟩
    exact done st m' h' tk (by simpa using hP') hsep (by rw [keepM_self hkp, bnd_self hb]; exact F') N'
end
end Mine
namespace Mine
theorem units_make (A : Around) (args : Args) : (A.under (.builtin "type.__call__" args)).units = A.units + 1 := by
  show A.units + Code.cUnits (.builtin "type.__call__" args) = _
  rfl
end Mine
end
section
open PySem PySem.W PyProof.Rows PySem.Calls PyProof.Rows.LCg
namespace Mine
section
variable {prog : Program} {w : World} {A : Around} {E : Value → Shared → Prop} {s : Shared} {h₀ : Heap} {L : Addr} {m : Str → Option Value} {env : Env} {news : Led}
noncomputable def CompAt (prog : Program) (w : World) (A : Around) (env : Env) (e : Expr) (scope : Scope) (cl : List (Str × Addr)) (Q : Value → Shared → Prop) (E : Value → Shared → Prop) (x : Value) (s₁ : Shared) : Prop :=
  wpAny (model prog w) A (pyIter x) (fun it s₂ => wpAny (model prog w) A (newList []) (fun acc s₃ =>
    wpAny (model prog w) A (newFunctionEnv scope env.globals cl [] env.qual none .none (some env)) (fun cenv s₄ =>
      codeAny (model prog w) A (.compStart e 0 it acc { cenv with scope := relabel scope env }) (compPost (model prog w) A E none Q acc cenv.locals) s₄) E s₃) E s₂) E s₁
theorem comp_at {elt target iter : Expr} {ifs : List Expr} {gs : List Comprehension} {scope : Scope} {cl : List (Str × Addr)} {pos : Pos} {Q : Value → Shared → Prop}
    (hclos : closureFor scope env = pure cl) (hkind : scope.kind = .function) (hnames : ∀ y ∈ scope.names, y.2 = .local → scope.names.lookup y.1 = some .local)
    (h : wpAny (model prog w) A (eval iter env) (CompAt prog w A env (.ListComp elt (⟨target, iter, ifs, 0⟩ :: gs) scope pos) scope cl Q E) E s)
    (hs : ∀ x, foldedSetIterable iter env x = pure x := by intro _; rfl) :
    wpAny (model prog w) A (eval (.ListComp elt (⟨target, iter, ifs, 0⟩ :: gs) scope pos) env) Q E s := by
  rw [eval_ListComp]
  exact wpAny_comprehension_free (use := none) rfl hs hclos hkind hnames h
noncomputable def EltEnd (h₀ : Heap) (L : Addr) (m : Str → Option Value) (news : Led) (s₁ : Shared) (R : Value → Prop) (y : Value) (s₂ : Shared) : Prop :=
  ∃ h' tk, s₂ = { s₁ with heap := h', toks := tk } ∧ Fr h₀ L h' m ∧ News h₀ L h' news ∧ R y
theorem EltEnd.mk {s₁ : Shared} {R : Value → Prop} {y : Value} {h' : Heap} {tk : Nat} (F : Fr h₀ L h' m) (N : News h₀ L h' news) (r : R y) : EltEnd h₀ L m news s₁ R y { s₁ with heap := h', toks := tk } := ⟨h', tk, rfl, F, N, r⟩
theorem comp_enum {elt iter : Expr} {x x₂ : Str} {px px₂ tp : Pos} {kt} {scope : Scope} {cl : List (Str × Addr)} {pos : Pos} {Q : Value → Shared → Prop} {l : Addr} {vs : List Value} (P : Nat → List Value → Prop)
    (hh : A.handled = none) (F : Fr h₀ L s.heap m) (N : News h₀ L s.heap news) (hl : SrcAt h₀ l vs.toArray news) (hlL : l ≠ L)
    (hcell : ∀ y ∈ scope.names, y.2 ≠ .cell) (hkind : scope.kind = .function) (hx : scope.names.lookup x = some .local) (hx₂ : scope.names.lookup x₂ = some .local) (hne : x ≠ x₂)
    (hsz : vs.length ≤ sizeLine) (h0 : P 0 [])
    (turn : ∀ i v t ys, i < vs.length → vs[i]? = some v → P i ys → ∀ e oe it oi C oC D m₂ h tk (E' : Value → Shared → Prop), NsObj oC m₂ → m₂ x = some (.int (i : Int) t) → m₂ x₂ = some v → Fr h₀ L h m → News h₀ L h ((e, oe) :: (it, oi) :: (C, oC) :: (D, LCg.lst ys) :: news) →
      wpAny (model prog w) A (eval elt (compEnvC scope cl C env)) (EltEnd h₀ L m ((e, oe) :: (it, oi) :: (C, oC) :: (D, LCg.lst ys) :: news) { s with heap := h, toks := tk } (fun y => P (i + 1) (ys ++ [y]))) E' { s with heap := h, toks := tk })
    (done : ∀ D h tk ys, P vs.length ys → ys.length = vs.length → Fr h₀ L h m → News h₀ L h ((D, LCg.lst ys) :: news) → (∀ p ∈ news, p.1 < D) → Q (.ref D) { s with heap := h, toks := tk }) :
    wpAny (model prog w) A (call (.type "enumerate") [.ref l]) (CompAt prog w A env (.ListComp elt [⟨.Tuple [.Name x px, .Name x₂ px₂] kt tp, iter, [], 0⟩] scope pos) scope cl Q E) E s := by
  have hls : s.heap.IsList l vs.toArray := hl.list F.keep N
  have hl2 : l < s.heap.objs.size := by obtain ⟨_, e, _⟩ := hls; exact Heap.lt_size e
  have hLs : L < s.heap.objs.size := F.ns.lt
  have lo : ∀ p ∈ news, p.1 < s.heap.objs.size := fun p hp => Heap.lt_size (N p hp).1
  have fresh : ∀ a, s.heap.objs.size ≤ a → h₀.get? a = none := fun a ha => by
    cases e : h₀.get? a with
    | none => rfl
    | some o' => exact absurd (Heap.lt_size (F.keep a o' e)) (Nat.not_lt.mpr ha)
  refine call_enumerate_list hls fun h' he hit hsz' hk => ?_
  unfold CompAt
  refine wpAny_pyIter_enum he ?_
  refine wpAny_newObj_type (wpAny_newFunctionEnv hcell (by intro y hy; simp at hy) (fun h₁ hns₁ hsb₁ => ?_) hkind)
  dsimp only at hns₁ hsb₁ ⊢
  generalize hH2 : h'.push { cls := .type "list", dict := none, data := .seq ([] : List Value).toArray } = H2 at hns₁ hsb₁ ⊢
  have hC : H2.objs.size = s.heap.objs.size + 3 := by rw [← hH2, Heap.size_push, hsz']
  generalize hC' : H2.objs.size = C at *
  generalize hN : h'.objs.size = N2 at *
  subst hsz'
  generalize hn : s.heap.objs.size = n at *
  have old' : ∀ b o, @LT.lt Nat _ b (n + 2) → h'.get? b = some o → h₁.get? b = some o := fun b o hb e => hsb₁.extBut b o (by intro q; have : @Eq Nat b C := q; omega) (Heap.get?_push_of_some _ (hH2 ▸ Heap.get?_push_of_some _ e))
  have old : ∀ b o, s.heap.get? b = some o → h₁.get? b = some o := fun b o e => old' b o (by have := Heap.lt_size e; rw [hn] at this; exact Nat.lt_of_lt_of_le this (by omega)) (hk b o e)
  have hD2 : H2.get? (n + 2) = some (LCg.lst []) := by
    have q : (h'.push { cls := .type "list", dict := none, data := .seq ([] : List Value).toArray }).get? h'.objs.size = some (LCg.lst []) := Heap.get?_push_size _ rfl
    rw [hH2, hN] at q; exact q
  have hacc : h₁.get? (n + 2) = some (LCg.lst []) := hsb₁.extBut _ _ (by intro q; have : @Eq Nat (n+2) C := q; omega) (Heap.get?_push_of_some _ hD2)
  have W := WalksT.enumerate (prog := prog) (w := w) hh (n + 1) n l (Nat.succ_ne_self _) (Nat.ne_of_lt (Nat.lt_succ_of_lt hl2)) (Nat.ne_of_lt hl2) vs.toArray
  have hst₁ : (∃ o, IsEnum h₁ (n + 1) n ((0 : Nat) : Int) o) ∧ h₁.IsListIter n l 0 ∧ h₁.IsList l vs.toArray :=
    ⟨⟨_, old' _ _ (by omega) he⟩, hit.at fun o e => old' _ _ (by omega) e, hls.at fun o e => old _ _ e⟩
  have loop : ∀ s₃ : Shared, s₃ = { s with heap := h₁ } → codeAny (model prog w) A (.compLoop (.ListComp elt [⟨.Tuple [.Name x px, .Name x₂ px₂] kt tp, iter, [], 0⟩] scope pos) 0 (.ref (n + 1)) (.ref (n + 2)) (compEnvC scope cl C env)) (compPost (model prog w) A E none Q (.ref (n + 2)) C) s₃ := by
    rintro s₃ rfl
    refine kcp_loop (fun k s' => ∃ h' tk i ys m', s' = { s with heap := h', toks := tk } ∧ i ≤ vs.length ∧ k = vs.length + 1 - i ∧ ys.length = i ∧ ((∃ o, IsEnum h' (n + 1) n (i : Int) o) ∧ h'.IsListIter n l i ∧ h'.IsList l vs.toArray) ∧ Fr h₀ L h' m ∧ h'.Ns C m' ∧
      News h₀ L h' ((n + 2, LCg.lst ys) :: news) ∧ P i ys) ?_ (vs.length + 1) ⟨h₁, _, 0, [], _, rfl, Nat.zero_le _, rfl, rfl, hst₁, F.keeps old, hns₁, ?_, h0⟩
    · rintro k s' ⟨h2, tk, i, ys, m', rfl, hi, rfl, hyl, hst, F2, hn2, N2, hP⟩
      have D0 := (N2 _ List.mem_cons_self).2
      have nw : ∀ b o, (∀ q, h₀.get? b = some q → True) → b ∉ [n + 1, n] → h2.get? b = some o → h2.get? b = some o := fun _ _ _ _ e => e
      have fr : ∀ h3 : Heap, (∀ b o, b ∉ [n + 1, n] → h2.get? b = some o → h3.get? b = some o) → Fr h₀ L h3 m ∧ h3.Ns C m' ∧ News h₀ L h3 ((n + 2, LCg.lst ys) :: news) := fun h3 hk3 => by
        refine ⟨⟨F2.ns.at' fun o e => hk3 L o (fun hm => ?_) e, fun b o e => hk3 b o (fun hm => ?_) (F2.keep b o e), F2.above⟩, hn2.at' fun o e => hk3 C o (fun hm => ?_) e, fun p hp => ⟨hk3 _ _ (fun hm => ?_) (N2 p hp).1, (N2 p hp).2⟩⟩
        · rcases List.mem_cons.mp hm with q | hm
          · have : @Eq Nat L (n + 1) := q; have : @LT.lt Nat _ L n := hLs; omega
          · have : @Eq Nat L n := List.mem_singleton.mp hm; have : @LT.lt Nat _ L n := hLs; omega
        · rcases List.mem_cons.mp hm with q | hm
          · rw [q, fresh (n + 1) (Nat.le_succ _)] at e; cases e
          · rw [List.mem_singleton.mp hm, fresh n (Nat.le_refl _)] at e; cases e
        · rcases List.mem_cons.mp hm with q | hm
          · have : @Eq Nat C (n + 1) := q; omega
          · have : @Eq Nat C n := List.mem_singleton.mp hm; omega
        · have hp2 : @Eq Nat p.1 (n + 2) ∨ @LT.lt Nat _ p.1 n := by
            rcases List.mem_cons.mp hp with rfl | hp
            · exact .inl rfl
            · exact .inr (lo p hp)
          rcases List.mem_cons.mp hm with q | hm
          · have : @Eq Nat p.1 (n + 1) := q; omega
          · have : @Eq Nat p.1 n := List.mem_singleton.mp hm; omega
      by_cases hlt : i < vs.length
      · refine W.item i _ _ _ (by simpa using hlt) hst fun T vals h3 tk3 hPt _ hT hMid hk3 => ?_
        obtain ⟨t, v, hv, rfl⟩ := hPt
        have hv' : vs[i]? = some v := by simpa using hv
        refine W.go _ _ _ i T _ _ _ hMid fun h4 hst4 hk4 => ?_
        have ht4 : h4.IsTuple T #[.int i t, v] := hT.at fun o e => hk4 T o (W.apart i T h3 hMid) e
        obtain ⟨F4, hn4, N4⟩ := fr h4 fun b o hb e => hk4 b o hb (hk3 b o hb e)
        refine kcp_assign hh ht4 (lookup_relabel_local hx) (lookup_relabel_local hx₂) (by simp [compEnvC, relabel, hkind]) hn4 fun h5 tk5 hn5 hk5 => ?_
        have hCn : ∀ b, @LT.lt Nat _ b (n + 3) → b ≠ (compEnvC scope cl C env).locals := fun b hb q => by have : @Eq Nat b C := q; omega
        have F5 : Fr h₀ L h5 m := ⟨F4.ns.at' fun o e => hk5 L o (hCn L (Nat.lt_of_lt_of_le hLs (by omega))) e, fun b o e => hk5 b o (hCn b (by
            have : ¬ n ≤ b := fun q => by rw [fresh b q] at e; cases e
            omega)) (F4.keep b o e), F4.above⟩
        have N5 : News h₀ L h5 ((n + 2, LCg.lst ys) :: news) := fun p hp => ⟨hk5 _ _ (hCn _ (by
            rcases List.mem_cons.mp hp with rfl | hp
            · exact Nat.lt_succ_self _
            · exact Nat.lt_of_lt_of_le (lo p hp) (by omega))) (N4 p hp).1, (N4 p hp).2⟩
        obtain ⟨⟨oe0, he4⟩, hi4, hl4⟩ := hst4
        have he5 := hk5 _ _ (hCn (n + 1) (by omega)) he4
        obtain ⟨oi, hoi, hoi2⟩ := hi4
        have hi5 := hk5 _ _ (hCn n (by omega)) hoi
        obtain ⟨oC, heC, hoC⟩ := ns_obj hn5
        have N6 : News h₀ L h5 ((n + 1, _) :: (n, oi) :: (C, oC) :: (n + 2, LCg.lst ys) :: news) := fun p hp => by
          rcases List.mem_cons.mp hp with rfl | hp
          · exact ⟨he5, fun q => by have : @Eq Nat (n + 1) L := q; have : @LT.lt Nat _ L n := hLs; omega, fresh _ (Nat.le_succ _)⟩
          · rcases List.mem_cons.mp hp with rfl | hp
            · exact ⟨hi5, fun q => by have : @Eq Nat n L := q; have : @LT.lt Nat _ L n := hLs; omega, fresh _ (Nat.le_refl _)⟩
            · rcases List.mem_cons.mp hp with rfl | hp
              · exact ⟨heC, fun q => by have : @Eq Nat C L := q; have : @LT.lt Nat _ L n := hLs; omega, fresh _ (by omega)⟩
              · exact N5 p hp
        refine wpAny_mono (turn i v t ys hlt hv' hP (n + 1) _ n oi C oC (n + 2) _ h5 tk5 _ hoC (by simp [hne]) (by simp) F5 N6) (fun y s₅ h₅ => ?_) fun _ _ e => e
        obtain ⟨h6, tk6, rfl, F6, N7, hR⟩ := h₅
        have zD := (N7 _ (List.mem_cons_of_mem _ (List.mem_cons_of_mem _ (List.mem_cons_of_mem _ List.mem_cons_self)))).1
        have zC := (N7 _ (List.mem_cons_of_mem _ (List.mem_cons_of_mem _ List.mem_cons_self))).1
        have zi := (N7 _ (List.mem_cons_of_mem _ List.mem_cons_self)).1
        have ze := (N7 _ List.mem_cons_self).1
        refine append_at (hsz := by show ys.toArray.size ≤ sizeLine; rw [List.size_toArray, hyl]; exact Nat.le_trans hi hsz) zD fun h7 hs7 hD7 => ?_
        have nD : ∀ b, @Ne Nat b (n + 2) → b ≠ (n + 2) := fun b q => q
        have up7 : ∀ b o, @Ne Nat b (n + 2) → h6.get? b = some o → h7.get? b = some o := fun b o hb e => hs7.extBut b o hb e
        have F7 : Fr h₀ L h7 m := F6.change hs7 (fun q => by have : @Eq Nat (n + 2) L := q; have : @LT.lt Nat _ L n := hLs; omega) (fresh _ (by omega))
        refine ⟨vs.length + 1 - (i + 1), by omega, h7, tk6, i + 1, ys ++ [y], _, rfl, hlt, rfl, by rw [List.length_append, List.length_singleton, hyl], ⟨⟨_, up7 _ _ (by omega) ze⟩, ⟨oi, up7 _ _ (by omega) zi, hoi2⟩, ?_⟩, F7, (hoC.ns zC).sameBut hs7 (by intro q; have : @Eq Nat (n + 2) C := q.symm; omega), ?_, hR⟩
        · refine hl.list F7.keep (news := news) fun p hp => ⟨up7 _ _ (by have : @LT.lt Nat _ p.1 n := lo p hp; omega) (N7 p (by simp [hp])).1, (N7 p (by simp [hp])).2⟩
        · intro p hp
          rcases List.mem_cons.mp hp with rfl | hp
          · exact ⟨hD7.trans (congrArg some (lst_snoc ys y)), D0⟩
          · exact ⟨up7 _ _ (by have : @LT.lt Nat _ p.1 n := lo p hp; omega) (N7 p (by simp [hp])).1, (N7 p (by simp [hp])).2⟩
      · obtain rfl : i = vs.length := Nat.le_antisymm hi (Nat.not_lt.mp hlt)
        refine W.done _ _ _ (by simpa using hst) fun h3 tk3 hk3 => ?_
        obtain ⟨F3, hn3, N3⟩ := fr h3 hk3
        refine ⟨m', hn3, fun h4 hs4 => ?_⟩
        refine done (n + 2) h4 tk3 ys hP hyl (F3.change hs4 (fun q => by have : @Eq Nat C L := q; have : @LT.lt Nat _ L n := hLs; omega) (fresh _ (by omega))) (fun p hp => ⟨hs4.extBut _ _ (fun q => ?_) (N3 p hp).1, (N3 p hp).2⟩) fun p hp => Nat.lt_of_lt_of_le (lo p hp) (by omega)
        have q' : @Eq Nat p.1 C := q
        rcases List.mem_cons.mp hp with rfl | hp
        · have : @Eq Nat (n + 2) C := q; omega
        · have : @LT.lt Nat _ p.1 n := lo p hp; omega
    · intro p hp
      rcases List.mem_cons.mp hp with rfl | hp
      · exact ⟨hacc, fun q => by have : @Eq Nat (n + 2) L := q; have : @LT.lt Nat _ L n := hLs; omega, fresh _ (by omega)⟩
      · exact ⟨old _ _ (N p hp).1, (N p hp).2⟩
  exact codeAny_compStart_list (loop _ rfl) (W.self 0 _ _ _ hst₁ (loop _ rfl))
theorem news_tl1 {h : Heap} {p : Addr × Obj} {r : Led} (N : News h₀ L h (p :: r)) : News h₀ L h r := fun x hx => N x (List.mem_cons_of_mem _ hx)
theorem news_tl2 {h : Heap} {p q : Addr × Obj} {r : Led} (N : News h₀ L h (p :: q :: r)) : News h₀ L h r := news_tl1 (news_tl1 N)
theorem news_tl3 {h : Heap} {p q q2 : Addr × Obj} {r : Led} (N : News h₀ L h (p :: q :: q2 :: r)) : News h₀ L h r := news_tl1 (news_tl2 N)
theorem news_tl4 {h : Heap} {p q q2 q3 : Addr × Obj} {r : Led} (N : News h₀ L h (p :: q :: q2 :: q3 :: r)) : News h₀ L h r := news_tl1 (news_tl3 N)
theorem news_tl5 {h : Heap} {p q q2 q3 q4 : Addr × Obj} {r : Led} (N : News h₀ L h (p :: q :: q2 :: q3 :: q4 :: r)) : News h₀ L h r := news_tl1 (news_tl4 N)
theorem news_hot1 {h : Heap} {a p q : Addr × Obj} {r : Led} (N : News h₀ L h (a :: p :: q :: r)) : News h₀ L h (p :: q :: a :: r) := fun x hx => N x (by
  simp only [List.mem_cons] at hx ⊢
  rcases hx with h | h | h | h
  · exact .inr (.inl h)
  · exact .inr (.inr (.inl h))
  · exact .inl h
  · exact .inr (.inr (.inr h)))
theorem news_hot2 {h : Heap} {a b p q : Addr × Obj} {r : Led} (N : News h₀ L h (a :: b :: p :: q :: r)) : News h₀ L h (p :: q :: a :: b :: r) := fun x hx => N x (by
  simp only [List.mem_cons] at hx ⊢
  rcases hx with h | h | h | h | h
  · exact .inr (.inr (.inl h))
  · exact .inr (.inr (.inr (.inl h)))
  · exact .inl h
  · exact .inr (.inl h)
  · exact .inr (.inr (.inr (.inr h))))
theorem all_hd {d : Addr} {p : Addr × Obj} {r : Led} (h : ∀ q ∈ p :: r, q.1 ≠ d) : @Ne Nat p.1 d := h p List.mem_cons_self
theorem all_cons {d : Addr} {p : Addr × Obj} {r : Led} (h1 : @Ne Nat p.1 d) (h2 : ∀ q ∈ r, q.1 ≠ d) : ∀ q ∈ p :: r, q.1 ≠ d := fun q hq => by
  rcases List.mem_cons.mp hq with rfl | hq
  · exact h1
  · exact h2 q hq
end
section
variable {prog : Program} {w : World} {A : Around} {E : Value → Shared → Prop} {s : Shared} {env : Env} {h₀ : Heap} {x : Str} {body : List Stmt} {Q : Flow → Shared → Prop}
theorem for_rev {σ : Type} {I l : Addr} {vs : List Value} {k : Nat} {m₀ : Str → Option Value} {news : Led} (keep : List Str) (bs : σ → Bs) (hot : σ → Led) (P : Nat → σ → Prop) (st₀ : σ) (cold : Led)
    (hh : A.handled = none) (hl : (l, lst vs k) ∈ cold)
    (F : Fr h₀ env.locals s.heap m₀) (N : News h₀ env.locals s.heap ((I, revObj l ((vs.length : Int) - 1)) :: news)) (hnI : ∀ p ∈ news, p.1 < I) (hb' : Binds m₀ (bs st₀)) (hin' : SubL news (hot st₀)) (hcold' : ∀ p ∈ cold, p ∈ news) (hsep' : SepL cold (hot st₀)) (hP : P 0 st₀)
    (turn : ∀ i v st u h tk rest, i < vs.length → vs[vs.length - 1 - i]? = some v → P i st → (∀ p ∈ cold, p ∈ rest) → Sep (hot st) rest → Fr h₀ env.locals h (fun y => if y = x then some v else bnd (keepM keep m₀ u) (bs st) y) → News h₀ env.locals h (hot st ++ rest) →
      wpAny (model prog w) A (execs body env) (TurnEnd h₀ env.locals keep m₀ bs hot (P (i + 1)) rest { s with heap := h, toks := tk } Q) E { s with heap := h, toks := tk })
    (done : ∀ st u h tk, P vs.length st → Sep (hot st) cold → Fr h₀ env.locals h (bnd (keepM keep m₀ u) (bs st)) → News h₀ env.locals h (hot st ++ cold) → Q .next { s with heap := h, toks := tk }) :
    wpAny (model prog w) A (pyIter (.ref I)) (fun it s₂ => LoopAtV prog w A h₀ env x body Q E it s₂) E s := by
  have hin : ∀ p ∈ hot st₀ ++ cold, p ∈ news := fun p hp => (List.mem_append.mp hp).elim (hin'.all p) (hcold' p)
  have N0 : News h₀ env.locals s.heap news := fun p hp => N p (List.mem_cons_of_mem _ hp)
  have hIx := N _ List.mem_cons_self
  have hlN := N0 _ (hin _ (List.mem_append_right _ hl))
  have hls : s.heap.IsList l vs.toArray := ⟨_, hlN.1, rfl, k, rfl⟩
  have hne : l ≠ I := Nat.ne_of_lt (hnI _ (hcold' _ hl))
  have hit : s.heap.IsRevIter I l ((vs.length : Int) - 1) := ⟨_, hIx.1, rfl, rfl⟩
  refine wpAny_pyIter_revIter hit ?_
  have W := Walks.listRev (prog := prog) (w := w) hh I l hne vs.toArray
  have e : vs.toArray.size = vs.length := by simp
  rw [e] at W
  refine loop_gen keep bs hot P st₀ cold W ?_ hIx.2.2 (fun b hb => ?_) (fun i h st => let ⟨_, ⟨o, ho, _⟩, _⟩ := st; ⟨_, ho⟩) ⟨Nat.zero_le _, ?_, hls⟩ F N0 hin (fun p hp => Nat.ne_of_lt (hnI p hp)) hsep'.all hb'.all hP ?_ ?_
  · intro hm
    rcases List.mem_cons.mp hm with e | hm
    · exact hIx.2.1 e.symm
    · exact hlN.2.1 (List.mem_singleton.mp hm).symm
  · rcases List.mem_cons.mp hb with e | hb
    · exact .inl e
    · exact .inr (.inl ⟨_, (List.mem_singleton.mp hb) ▸ hl⟩)
  · have e : (vs.length : Int) - 1 - ((0 : Nat) : Int) = (vs.length : Int) - 1 := by omega
    rw [e]; exact hit
  · rintro i v st u h tk rest hi hv hP' hc hs' F' N'
    exact turn i v st u h tk rest hi (by simpa using hv) hP' hc hs' F' N'
  · exact done
end
end Mine
end
section
open PySem PySem.W PyProof.Rows PySem.Calls
namespace Mine
section
variable {prog : Program} {w : World} {A : Around} {E : Value → Shared → Prop} {s : Shared} {h₀ : Heap} {L : Addr} {m : Str → Option Value} {news : Led}
theorem adjust_to (b n : Nat) (hb : b ≤ n) : Builtin.Slice.sliceAdjust none (some (b : Int)) 1 (n : Int) = (0, (b : Int)) := by
  unfold Builtin.Slice.sliceAdjust
  have h1 : ¬ ((1 : Int) < 0) := by omega
  have h2 : ¬ ((b : Int) < 0) := by omega
  simp only [h1, h2, if_false]
  congr 1
  omega
theorem places_to (b : Nat) : Builtin.Slice.slicePlaces 0 (b : Int) 1 = b := by
  unfold Builtin.Slice.slicePlaces
  have h1 : (1 : Int) > 0 := by omega
  simp only [h1, if_true, Int.ediv_one]
  split <;> omega
theorem sliceApplied_to {sl : Addr} {b n : Nat} {u : Tok} {Q : Int × Int × Nat → Shared → Prop} (hs : s.heap.IsSliceOf sl .none (.int b u) .none) (hb : b ≤ n) (h : Q (0, 1, b) s) :
    wpAny (model prog w) A (Builtin.Slice.sliceApplied (.ref sl) (pure (n : Int))) Q E s := by
  obtain ⟨os, hos, hcs, hds⟩ := id hs
  unfold Builtin.Slice.sliceApplied Builtin.Slice.sliceFields
  refine wpAny_bind (wpAny_bind (wpAny_field hos hds (x := .none) rfl (wpAny_bind (wpAny_field hos hds (x := .int b u) rfl (wpAny_bind (wpAny_field hos hds (x := .none) rfl (wpAny_pure ?_)))))))
  refine wpAny_bind (slicePart_none ?_)
  show wpAny _ _ (if ((1 : Int) == 0) = true then _ else _) _ _ s
  rw [if_neg (by decide)]
  refine wpAny_bind (slicePart_none (wpAny_bind (slicePart_int (wpAny_bind (wpAny_pure ?_)))))
  show wpAny _ _ (match Builtin.Slice.sliceAdjust none (some (b : Int)) 1 (n : Int) with | (lo, hi) => pure (lo, (1 : Int), Builtin.Slice.slicePlaces lo hi 1)) _ _ s
  rw [adjust_to b n hb]
  show wpAny _ _ (pure ((0 : Int), (1 : Int), Builtin.Slice.slicePlaces 0 (b : Int) 1)) _ _ s
  rw [places_to b]
  exact wpAny_pure h
theorem pick_to (xs : Array Value) (b : Nat) (_hb : b ≤ xs.size) : ((List.range b).filterMap fun (k : Nat) => xs[((0 : Int) + (k : Int) * 1).toNat]?).toArray = (xs.toList.take b).toArray := by
  have e : (fun (k : Nat) => xs[((0 : Int) + (k : Int) * 1).toNat]?) = fun k => xs[0 + k]? := by
    funext k
    have : ((0 : Int) + (k : Int) * 1).toNat = 0 + k := by omega
    rw [this]
  rw [e]
  have := pick_run xs 0 b
  rw [List.filterMap_map] at this
  have e2 : ((fun x => xs[x]?) ∘ fun x => 0 + x) = fun k => xs[0 + k]? := rfl
  rw [e2] at this
  rw [this, List.drop_zero]
theorem getItem_tuple_to {t sl : Addr} {items : Array Value} {b : Nat} {u : Tok} {Q : Value → Shared → Prop} (ht : IsTup s.heap t items) (hs : s.heap.IsSliceOf sl .none (.int b u) .none) (hb : b < items.size)
    (h : Q (.ref s.heap.objs.size) { s with heap := s.heap.push { cls := .type "tuple", data := .seq (items.toList.take b).toArray } })
    (hsz : items.size ≤ sizeLine := by size_fits) : wpAny (model prog w) A (getItem (.ref t) (.ref sl)) Q E s := by
  have hdrop : sizeOk (.seq (items.toList.take b).toArray) := by
    show (items.toList.take b).toArray.size ≤ sizeLine
    rw [List.size_toArray, List.length_take, Array.length_toList]
    omega
  obtain ⟨os, hos, hcs, hds⟩ := id hs
  have hTs : s.TypeIs (.ref sl) "slice" := ⟨os, hos, hcs⟩
  unfold getItem
  try with_reducible refine wpAny_holding ?_
  first | refine wpAny_bind (wpAny_pure ?_) | skip
  refine wpAny_bind (wpAny_sequenceKey ht.typeIs (by decide) ?_)
  refine wpAny_bind (wpAny_callSpecial?_slot (name := Str.ofString "__getitem__") ht.typeIs slot_tuple_getitem
    (wpAny_call_entry slot_tuple_getitem ht.typeIs entry_tuple_getitem ?_ (args_tuple_getitem _ _)))
  show wpAny _ _ (Builtin.Tuple.tupleItemsOf (.ref t) >>= _) _ _ s
  refine wpAny_bind (tupleItemsOf_ ht ?_)
  refine wpAny_bind (wpAny_typeOf hTs ?_)
  rw [if_pos (by decide)]
  refine wpAny_bind (sliceApplied_to hs (Nat.le_of_lt hb) ?_)
  have hno : ¬ (((0 : Int) == 0 && (1 : Int) == 1 && b == items.size) = true) := by
    have : (b == items.size) = false := by rw [beq_eq_false_iff_ne]; omega
    rw [this]; simp
  show wpAny _ _ (if ((0 : Int) == 0 && (1 : Int) == 1 && b == items.size) = true then _ else _) _ _ s
  rw [if_neg hno, pick_to items b (Nat.le_of_lt hb)]
  first
    | exact wpAny_bind (m := Builtin.Tuple.tupleExact _) (wpAny_newObj_type (wpAny_pure ⟨_, rfl, wpAny_pure h⟩) hdrop)
    | exact wpAny_bind (m := Builtin.Tuple.tupleExact _) (wpAny_newObj_type (wpAny_bind (wpAny_pure (wpAny_pure ⟨_, rfl, wpAny_pure h⟩))) hdrop)
    | exact wpAny_bind (wpAny_bind (m := Builtin.Tuple.tupleExact _) (wpAny_newObj_type (wpAny_pure (wpAny_pure ⟨_, rfl, wpAny_pure h⟩)) hdrop))
    | exact wpAny_bind (wpAny_bind (m := Builtin.Tuple.tupleExact _) (wpAny_newObj_type (wpAny_pure ⟨_, rfl, wpAny_pure h⟩) hdrop))
theorem slice_tup_from {value slice : Expr} {t : Addr} {vs zs : List Value} {a : Nat} {z : Int} {u : Tok} {Q : Value → Shared → Prop}
    (F : Fr h₀ L s.heap m) (N : News h₀ L s.heap news) (ht : IsTup s.heap t vs.toArray) (hz : z = (a : Int)) (h1 : 1 ≤ a) (ha : a ≤ vs.length) (hsz : vs.length ≤ sizeLine) (e : vs.drop a = zs)
    (h : ∀ D h', Fr h₀ L h' m → News h₀ L h' ((D, { cls := .type "tuple", data := .seq zs.toArray }) :: news) → (∀ p ∈ news, p.1 < D) → Q (.ref D) { s with heap := h' })
    (hs : subscripted slice false (.ref t) (.ref s.heap.objs.size) = operate [.ref s.heap.objs.size, .ref t] (getItem (.ref t) (.ref s.heap.objs.size)) := by with_unfolding_all rfl)
    (hg : ∀ r, letTemporaryGo value (.ref t) r = pure () := by intro _; with_unfolding_all rfl) :
    wpAny (model prog w) A (subscriptTail value slice (.ref t) (.ref s.heap.objs.size)) Q E { s with heap := s.heap.push { cls := .type "slice", data := .fields #[.int z u, .none, .none] } } := by
  subst hz e
  exact slice_tuple_from F N ht h1 (by simpa using ha) (fun h' F' N' => h _ h' F' N' fun p hp => Nat.lt_succ_of_lt (Heap.lt_size (N p hp).1)) hs hg (by simpa using hsz)
theorem slice_tup_to {value slice : Expr} {t : Addr} {vs zs : List Value} {b : Nat} {z : Int} {u : Tok} {Q : Value → Shared → Prop}
    (F : Fr h₀ L s.heap m) (N : News h₀ L s.heap news) (ht : IsTup s.heap t vs.toArray) (hz : z = (b : Int)) (hb : b < vs.length) (hsz : vs.length ≤ sizeLine) (e : vs.take b = zs)
    (h : ∀ D h', Fr h₀ L h' m → News h₀ L h' ((D, { cls := .type "tuple", data := .seq zs.toArray }) :: news) → (∀ p ∈ news, p.1 < D) → Q (.ref D) { s with heap := h' })
    (hs : subscripted slice false (.ref t) (.ref s.heap.objs.size) = operate [.ref s.heap.objs.size, .ref t] (getItem (.ref t) (.ref s.heap.objs.size)) := by with_unfolding_all rfl)
    (hg : ∀ r, letTemporaryGo value (.ref t) r = pure () := by intro _; with_unfolding_all rfl) :
    wpAny (model prog w) A (subscriptTail value slice (.ref t) (.ref s.heap.objs.size)) Q E { s with heap := s.heap.push { cls := .type "slice", data := .fields #[.none, .int z u, .none] } } := by
  subst hz e
  have ht' : IsTup (s.heap.push { cls := .type "slice", data := .fields #[.none, .int b u, .none] }) t vs.toArray := ht.keeps fun _ _ e => Heap.get?_push_of_some _ e
  refine subscriptTail_ops (s := { s with heap := s.heap.push { cls := .type "slice", data := .fields #[.none, .int b u, .none] } }) ht'.typeIs slot_tuple_getitem.lookup
    (getItem_tuple_to ht' (Heap.IsSliceOf.new ..) (by simpa using hb) ?_ (by simpa using hsz)) hs hg
  have N1 := News.push (F.push { cls := .type "slice", data := .fields #[.none, .int b u, .none] }) (N.grown fun _ _ e => Heap.get?_push_of_some _ e) { cls := .type "tuple", data := .seq (vs.toArray.toList.take b).toArray }
  rw [Heap.size_push] at N1
  show Q (.ref (s.heap.push _).objs.size) _
  rw [Heap.size_push]
  exact h _ _ ((F.push _).push _) N1 fun p hp => Nat.lt_succ_of_lt (Heap.lt_size (N p hp).1)
end
end Mine
end
section
open PySem PySem.W PyProof.Rows PySem.Calls PyProof.Rows.LCg
set_option maxHeartbeats 2000000
namespace Mine
section
variable {prog : Program} {w : World} {A : Around} {E : Value → Shared → Prop} {s : Shared} {h₀ : Heap} {L : Addr} {m : Str → Option Value} {env : Env}
noncomputable def SrcTu (prog : Program) (w : World) (A : Around) (h₀ : Heap) (L : Addr) (m : Str → Option Value) (env : Env) (elt : Expr) (x : Str) (scope : Scope) (cl : List (Str × Addr)) (Fin : Shared → List Value → List (Addr × Obj) → Prop) (xv : Value) (s₁ : Shared) : Prop :=
  ∃ (t : Addr) (vs : List Value) (news : List (Addr × Obj)), xv = .ref t ∧ A.handled = none ∧ Fr h₀ L s₁.heap m ∧ News h₀ L s₁.heap news ∧ (t, ({ cls := .type "tuple", data := .seq vs.toArray } : Obj)) ∈ news ∧ vs.length ≤ sizeLine ∧
    ∀ g, CompRest prog w A h₀ L m env elt x scope cl { s₁ with heap := g } (fun nw => (t, ({ cls := .type "tuple", data := .seq vs.toArray } : Obj)) ∈ nw) (fun i v => vs.toArray[i]? = some v) (Fin { s₁ with heap := g }) vs.toArray.size 0 [] news
theorem SrcTu.mk {elt : Expr} {x : Str} {scope : Scope} {cl : List (Str × Addr)} {Fin : Shared → List Value → List (Addr × Obj) → Prop} {t : Addr} {vs : List Value} {news : List (Addr × Obj)} {s₁ : Shared}
    (hh : A.handled = none) (F : Fr h₀ L s₁.heap m) (N : News h₀ L s₁.heap news) (hm : (t, ({ cls := .type "tuple", data := .seq vs.toArray } : Obj)) ∈ news) (hsz : vs.length ≤ sizeLine)
    (h : ∀ g, CompRest prog w A h₀ L m env elt x scope cl { s₁ with heap := g } (fun nw => (t, ({ cls := .type "tuple", data := .seq vs.toArray } : Obj)) ∈ nw) (fun i v => vs.toArray[i]? = some v) (Fin { s₁ with heap := g }) vs.toArray.size 0 [] news) :
    SrcTu prog w A h₀ L m env elt x scope cl Fin (.ref t) s₁ := ⟨t, vs, news, rfl, hh, F, N, hm, hsz, h⟩
theorem tup_st {t I : Addr} {vs : List Value} : ∀ i (h h' : Heap) (o : Obj) (nw : List (Addr × Obj)), (h.IsTupleIter I t i ∧ h.IsTuple t vs.toArray) → h.get? I = some o → h'.get? I = some o → (∀ b o, h₀.get? b = some o → h'.get? b = some o) → News h₀ L h' nw → (t, ({ cls := .type "tuple", data := .seq vs.toArray } : Obj)) ∈ nw → (h'.IsTupleIter I t i ∧ h'.IsTuple t vs.toArray) :=
  fun i h h' o nw st e e' k N S => ⟨by obtain ⟨o', q, r⟩ := st.1; rw [e] at q; cases q; exact ⟨o, e', r⟩, ⟨_, (N _ S).1, rfl, _, rfl⟩⟩
theorem assign_tup {elt iter : Expr} {x y : Str} {px py : Pos} {scope : Scope} {cl : List (Str × Addr)} {pos spos : Pos} {Q : Flow → Shared → Prop} (F₀ : Fr h₀ env.locals s.heap m)
    (hsw : swapsWith (.ListComp elt [⟨.Name x px, iter, [], 0⟩] scope pos) (some (.Name y py)) spos.line env = pure true)
    (hclos : closureFor scope env = pure cl) (hcell : ∀ z ∈ scope.names, z.2 ≠ .cell) (hkind : scope.kind = .function)
    (hnames : ∀ z ∈ scope.names, z.2 = .local → scope.names.lookup z.1 = some .local) (hx : scope.names.lookup x = some .local)
    (hy : env.kindOf y = some .local) (hp : (env.scope.kind == .class || (env.scope.kind == .module && env.locals != env.globals)) = false)
    (h : wpAny (model prog w) A (eval iter env) (SrcTu prog w A h₀ env.locals m env elt x scope cl (fun s₂ => FinA h₀ env.locals m s₂ y Q)) E s)
    (hs : ∀ x, foldedSetIterable iter env x = pure x := by intro _; rfl) :
    wpAny (model prog w) A (exec (.Assign [.Name y py] (.ListComp elt [⟨.Name x px, iter, [], 0⟩] scope pos) spos) env) Q E s := by
  rw [exec_Assign_Name_used _ _ _ _ hsw]
  refine wpAny_bind (wpAny_standAt (wpAny_bind ?_))
  show wpAny _ A (do let _ ← comprehension (.ListComp elt [⟨.Name x px, iter, [], 0⟩] scope pos) scope env _ (newList []) false (eval iter env) (some (assign (.Name y py) env))) _ _ s
  refine wpAny_bind (wpAny_mono (wpAny_comprehension_free (use := some (assign (.Name y py) env)) (Q := fun _ s' => Q .next s') rfl hs hclos hkind hnames
    (wpAny_mono h (fun xv s₁ h₁ => ?_) fun _ _ e => e)) (fun _ s' hq => wpAny_pure (wpAny_pure hq)) fun _ _ e => e)
  obtain ⟨t, vs, news, rfl, hh, F, N, hm, hsz, R⟩ := h₁
  have hl : s₁.heap.IsTuple t vs.toArray := ⟨_, (N _ hm).1, rfl, _, rfl⟩
  have hlt : t < s₁.heap.objs.size := Heap.lt_size (N _ hm).1
  refine wpAny_pyIter_tuple hl ?_
  have up : ∀ b o, s₁.heap.get? b = some o → (s₁.heap.push { cls := .type "tuple_iterator", data := .fields #[.ref t, .int 0 0] }).get? b = some o := fun b o e => Heap.get?_push_of_some _ e
  refine block_U (S := fun nw => (t, ({ cls := .type "tuple", data := .seq vs.toArray } : Obj)) ∈ nw) (Walks.tuple hh s₁.heap.objs.size t (Nat.ne_of_lt hlt) vs.toArray) (by simpa using hsz) (fun i h st => by obtain ⟨o, e, _⟩ := st.1; exact ⟨o, e⟩) tup_st hcell hkind hx ⟨⟨_, Heap.get?_push_size _ rfl, rfl, rfl⟩, ?_⟩ (fun b hb => ?_)
    (F.keeps up) (N.grown up) (Nat.ne_of_lt F.ns.lt) (next_is_new F) (fun p hp => Nat.ne_of_lt (Heap.lt_size (N p hp).1)) hm (R _) ?_
  · exact ⟨_, up _ _ (N _ hm).1, rfl, _, rfl⟩
  · show b < (s₁.heap.push _).objs.size
    rw [Heap.size_push]
    rcases List.mem_cons.mp hb with rfl | hb
    · exact Nat.lt_succ_self _
    · rw [List.mem_singleton.mp hb]; exact Nat.lt_succ_of_lt hlt
  · intro D C h' tk m' ys news' F' N' o1 hn hC₀ hD₀ hCL hDL hCD offC fin
    show wpAny _ A (assign (.Name y py) env (.ref D)) _ _ _
    refine wpAny_assign_Name (wpAny_storeName_local hy F'.ns (fun h₂ hn₂ hs₂ => ?_) hp)
    have hL₀ : h₀.get? env.locals = none := Heap.get?_none_of_le F'.above
    have F₂ : Fr h₀ env.locals h₂ (fun z => if z = y then some (.ref D) else m z) := ⟨hn₂, fun b o e => hs₂.extBut b o (fun q => by rw [q, hL₀] at e; cases e) (F'.keep b o e), F'.above⟩
    refine ⟨m', hn.sameBut hs₂ hCL, fun h'' hs'' => fin D h'' _ (F₂.change hs'' hCL hC₀) (fun p hp => ⟨hs''.extBut _ _ ?_ (hs₂.extBut _ _ (N' p hp).2.1 (N' p hp).1), (N' p hp).2⟩) o1⟩
    rcases List.mem_cons.mp hp with rfl | hp
    · exact Ne.symm hCD
    · exact offC p hp
theorem off3_of {I C D : Addr} : ∀ {l : List (Addr × Obj)}, (∀ p ∈ l, (@Ne Nat p.1 I) ∧ (@Ne Nat p.1 C) ∧ (@Ne Nat p.1 D)) → Off3 I C D l
  | [], _ => trivial
  | p :: _, h => ⟨h p List.mem_cons_self, off3_of fun q hq => h q (List.mem_cons_of_mem _ hq)⟩
theorem comp_end1 {I C D r : Addr} {oI oC oD o : Obj} {s₁ : Shared} {S : List (Addr × Obj) → Prop} {rest : Value → List (Addr × Obj) → Prop} {y : Value} {h' : Heap} {tk : Nat} {news : Led}
    (F : Fr h₀ L h' m) (N : News h₀ L h' ((r, o) :: (I, oI) :: (C, oC) :: (D, oD) :: news)) (off : Off3 I C D news) (h1 : @LT.lt Nat _ I r) (h2 : @LT.lt Nat _ C r) (h3 : @LT.lt Nat _ D r) (hS : S ((r, o) :: news)) (q : rest y ((r, o) :: news)) :
    CompEnd h₀ L m s₁ I oI C oC D oD S rest y { s₁ with heap := h', toks := tk } :=
  CompEnd.intro F N ((r, o) :: news) (fun p hp => by
    simp only [List.mem_cons] at hp ⊢
    rcases hp with h | h | h | h | h
    · exact .inr (.inl h)
    · exact .inr (.inr (.inl h))
    · exact .inr (.inr (.inr (.inl h)))
    · exact .inl h
    · exact .inr (.inr (.inr (.inr h)))) ⟨⟨Ne.symm (Nat.ne_of_lt h1), Ne.symm (Nat.ne_of_lt h2), Ne.symm (Nat.ne_of_lt h3)⟩, off⟩ hS q
end
end Mine
end
section
open PySem PySem.W PyProof.Rows PySem.Calls PySem.Spec
namespace Mine
section
variable {prog : Program} {w : World} {A₀ A : Around} {s : Shared} {base h₀ g₀ : Heap} {L : Addr} {m : Str → Option Value} {env : Env} {news : List (Addr × Obj)} {K : Frag} {p : Program} {loose : List Str} {mean : ExcName → Option Value} {mg mb : Str → Option Value}
    {R : Result → Shared → Prop} {name qual : Str} {params : Arguments} {body : List Stmt} {scope : Scope} {dV kV doc pm cdv ct oc : Value} {an od : Option Addr} {osl : Array (Option Value)} {f : Addr} {args : Args} {binds : List (Str × Value)}

theorem mem_one {env : Env} {L b : Addr} (hf : env.frame = some L) (hm : b ∈ [env].filterMap (·.frame)) : b = L := by
  obtain ⟨e, he, hfe⟩ := List.mem_filterMap.mp hm
  rw [List.mem_singleton.mp he, hf] at hfe
  exact (Option.some.inj hfe).symm
theorem push_one (K : Below A₀ base [] h₀) {h : Heap} (F : Fr h₀ L h m) (hA : A.frames = some [env]) (hf : env.frame = some L) (hk : env.scope.kind = .function) : Below A base [env] h := by
  have hnew : base.get? L = none := by
    cases hq : base.get? L with
    | none => rfl
    | some o => exact absurd (Nat.lt_of_lt_of_le (Heap.lt_size (K.stays L o hq)) F.above) (Nat.lt_irrefl _)
  refine ⟨hA, fun b o e => F.keep b o (K.stays b o e), ?_⟩
  exact .cons (by show env.scope.kind ≠ .module; rw [hk]; decide) hf F.ns hnew (K.frames.of_keeps fun b o e _ => ⟨o, F.keep b o e, rfl⟩)
theorem enterX (B : Below A₀ base [] h₀) (F : Fr h₀ L s.heap m) (N : News h₀ L s.heap news) (hA : A.frames = some [env]) (hf : env.frame = some L) (hk : env.scope.kind = .function) :
    ∃ oL es ep, (hideAll s.heap (news.map (·.1))).get? L = some oL ∧ oL.data = .dict es ep ∧ (∀ h', h'.get? L = some oL → Heap.Ns h' L m) ∧ (∀ (sl : Array (Option Value)) h', h'.get? L = some { oL with slots := sl } → Heap.Ns h' L m) ∧
      h₀.StaysIn (hideAll s.heap (news.map (·.1))) ∧ Below A base [env] (hideAll s.heap (news.map (·.1))) := by
  have nm : ∀ b o, h₀.get? b = some o → b ∉ news.map (·.1) := fun b o e q => by
    obtain ⟨p, hp, rfl⟩ := List.mem_map.mp q
    rw [(N p hp).2.2] at e; cases e
  have st : h₀.StaysIn (hideAll s.heap (news.map (·.1))) := fun b o e => hideAll_get _ (F.keep b o e) (nm b o e)
  obtain ⟨oL, es, ep, hL, hLd, hLk, hLf⟩ := F.ns
  have nL : L ∉ news.map (·.1) := fun q => by
    obtain ⟨p, hp, e⟩ := List.mem_map.mp q
    exact (N p hp).2.1 e
  have hLg := hideAll_get (news.map (·.1)) hL nL
  have B₁ := push_one B F hA hf hk
  exact ⟨oL, es, ep, hLg, hLd, fun h' e => ⟨oL, es, ep, e, hLd, hLk, hLf⟩, fun sl h' e => ⟨_, es, ep, e, hLd, hLk, hLf⟩, st, ⟨hA, fun b o e => st b o (B.stays b o e), funFrames_hideAll B₁.frames fun e he b hb hfe => by
    rw [List.mem_singleton.mp he, hf] at hfe
    exact nL ((Option.some.inj hfe : L = b) ▸ hb)⟩⟩
/-- a called def that catches, entered from the law's own frame, cells or none -/
theorem code_defS0X (B : Below A₀ base [] h₀) (F : Fr h₀ L s.heap m) (X₀ : K.In h₀) (N : News h₀ L s.heap news) (T : Top p loose mean mg mb h₀) (hA : A.frames = some [env]) (hf : env.frame = some L) (hke : env.scope.kind = .function)
    (ho : K.lookup f = some ⟨oc, od, .func (fnOf name qual params body scope dV kV doc pm an cdv ct), osl⟩) (hcd : codeIn K cdv qual = true) (hroom : A.depth < recursionLimit)
    (hbind : BindsTo s (fnOf name qual params body scope dV kV doc pm an cdv ct) args binds) (hloc : ∀ y ∈ binds, scope.names.lookup y.1 = some .local)
    (h : ∀ g L' h₁, Fr h₀ L g m → Fr g L' h₁ (fun y => binds.reverse.lookup y) → News g L' h₁ news → Below A base [env] g → K.In g → Top p loose mean mg mb g → KtsDicts ([env].filterMap (·.frame)) g →
      wpAny (model prog w) (A.deeper (envOf qual scope L' f cdv)) (execs body (envOf qual scope L' f cdv))
        (fun fl s' => LeaveS0 ([env].filterMap (·.frame)) h₀ L m g R (match fl with | .ret v => v | _ => .none) s')
        (fun e s' => wpAny (model prog w) (A.deeper (envOf qual scope L' f cdv)) (leaving (envOf qual scope L' f cdv) e) (fun _ s'' => R (.error e) s'') (fun e' s'' => R (.error e') s'') s')
        { s with heap := h₁, toks := s.toks + binds.length })
    (hco : scope.isCoroutine = false) (hgen : scope.isGenerator = false) (hk : scope.kind = .function)
    (hcell : ∀ x ∈ scope.names, x.2 ≠ .cell) : codeAny (model prog w) A (.call (.ref f) args) R s := by
  have X := X₀.keeps F.keep
  refine codeAny_call_def (fd := fnOf name qual params body scope dV kV doc pm an cdv ct) (body := body) (binds := binds) hroom (X _ _ ho) rfl (T.nolimit.keeps F.keep) (codeRec_of X hcd) rfl hbind hcell hloc (fun h₁ hns hk₁ => ?_) hco hgen hk
  obtain ⟨oL, es, ep, hLg, hLd, hN, hNs, st, B₂⟩ := enterX B F N hA hf hke
  refine wpAny_mono (h _ s.heap.objs.size h₁ ⟨hN _ hLg, st, F.above⟩ ⟨hns, fun b o e => hk₁ b o (of_hideAll _ e), Nat.le_of_eq (hideAll_size _ _)⟩
    (fun p hp => ⟨hk₁ _ _ (N p hp).1, Nat.ne_of_lt (Heap.lt_size (N p hp).1), hideAll_none _ (List.mem_map_of_mem hp)⟩) B₂ (X₀.keeps st) (T.keeps st) (fun b hb => by
      rw [mem_one hf hb]
      exact ⟨oL, es, ep, hLg, hLd⟩)) (fun fl s' hl => ?_) fun _ _ y => y
  obtain ⟨g', L', m', news', T', F', N', k⟩ := hl
  have nL₀ : h₀.get? L = none := kts_self F
  obtain ⟨sl, hs⟩ := T'.up hLg
  refine k ⟨hNs sl _ (F'.keep _ _ hs), fun b o e => F'.keep b o (T'.other b o (st b o e) (fun q => by
    rw [mem_one hf q, nL₀] at e
    cases e)), F.above⟩ fun p hp => ⟨(N' p hp).1, fun q => ?_, ?_⟩
  · have := (N' p hp).2.2; rw [q, hs] at this; cases this
  · cases q : h₀.get? p.1 with
    | none => rfl
    | some o =>
      obtain ⟨sl', hs'⟩ := T'.up (st _ _ q)
      have := (N' p hp).2.2
      rw [hs'] at this
      cases this
end
end Mine
end
section
open PySem PySem.W PyProof.Rows PySem.Calls PyProof.Rows.LCg
namespace Mine
section
variable {prog : Program} {w : World} {A : Around} {E : Value → Shared → Prop} {s : Shared} {h₀ : Heap} {L : Addr} {m : Str → Option Value} {env : Env}
theorem CompEnd.mono {s₁ : Shared} {I C D : Addr} {oI oC oD : Obj} {S : List (Addr × Obj) → Prop} {r r' : Value → List (Addr × Obj) → Prop} {y : Value} {s₂ : Shared} (h : CompEnd h₀ L m s₁ I oI C oC D oD S r y s₂) (k : ∀ y n, r y n → r' y n) : CompEnd h₀ L m s₁ I oI C oC D oD S r' y s₂ := by
  obtain ⟨h', tk, news', e, F, N, off, hS, q⟩ := h
  exact ⟨h', tk, news', e, F, N, off, hS, k _ _ q⟩
/-- the turns of a comprehension, by what holds ahead of each -/
theorem compRest_inv {elt : Expr} {x : Str} {scope : Scope} {cl : List (Str × Addr)} {S : List (Addr × Obj) → Prop} {P : Nat → Value → Prop} {Fin : List Value → List (Addr × Obj) → Prop} {n : Nat} (Inv : Nat → List Value → Led → Prop)
    (turn : ∀ i ys news v I oI C oC D m₂ h tk (E' : Value → Shared → Prop), i < n → Inv i ys news → P i v → NsObj oC m₂ → m₂ x = some v → Fr h₀ L h m → News h₀ L h ((I, oI) :: (C, oC) :: (D, LCg.lst ys) :: news) → Off3 I C D news → ((@Ne Nat I C) ∧ (@Ne Nat I D) ∧ (@Ne Nat C D)) →
      wpAny (model prog w) A (eval elt (compEnvC scope cl C env)) (CompEnd h₀ L m { s with heap := h, toks := tk } I oI C oC D (LCg.lst ys) S (fun y news' => Inv (i + 1) (ys ++ [y]) news')) E' { s with heap := h, toks := tk })
    (fin : ∀ ys news, Inv n ys news → Fin ys news) : ∀ k i ys news, i + k = n → Inv i ys news → CompRest prog w A h₀ L m env elt x scope cl s S P Fin k i ys news
  | 0, i, ys, news, e, q => CompRest.zero (fin ys news (by rw [Nat.add_zero] at e; rw [← e]; exact q))
  | k + 1, i, ys, news, e, q => CompRest.succ fun v I oI C oC D m₂ h tk E' hP hC hx F N off ne =>
    wpAny_mono (turn i ys news v I oI C oC D m₂ h tk E' (by omega) q hP hC hx F N off ne) (fun y s₂ z => CompEnd.mono z fun y' n' z' => compRest_inv Inv turn fin k (i + 1) _ n' (by omega) z') fun _ _ z => z
end
end Mine
end
section
open PySem PySem.W PyProof.Rows PySem.Calls PySem.Spec
namespace Mine
section
variable {prog : Program} {w : World} {A : Around} {E : Value → Shared → Prop} {s : Shared} {env : Env} {h₀ : Heap} {x : Str} {body : List Stmt} {Q : Flow → Shared → Prop}
theorem for_tuple {σ : Type} {l : Addr} {vs : List Value} {m₀ : Str → Option Value} {news : Led} (keep : List Str) (bs : σ → Bs) (hot : σ → Led) (P : Nat → σ → Prop) (st₀ : σ) (cold : Led)
    (hh : A.handled = none) (hl : (l, ({ cls := .type "tuple", data := .seq vs.toArray } : Obj)) ∈ cold)
    (F : Fr h₀ env.locals s.heap m₀) (N : News h₀ env.locals s.heap news) (hb' : Binds m₀ (bs st₀)) (hin' : SubL news (hot st₀)) (hcold' : ∀ p ∈ cold, p ∈ news) (hsep' : SepL cold (hot st₀)) (hP : P 0 st₀)
    (turn : ∀ i v st u h tk rest, i < vs.length → vs[i]? = some v → P i st → (∀ p ∈ cold, p ∈ rest) → Sep (hot st) rest → Fr h₀ env.locals h (fun y => if y = x then some v else bnd (keepM keep m₀ u) (bs st) y) → News h₀ env.locals h (hot st ++ rest) →
      wpAny (model prog w) A (execs body env) (TurnEnd h₀ env.locals keep m₀ bs hot (P (i + 1)) rest { s with heap := h, toks := tk } Q) E { s with heap := h, toks := tk })
    (done : ∀ st u h tk, P vs.length st → Sep (hot st) cold → Fr h₀ env.locals h (bnd (keepM keep m₀ u) (bs st)) → News h₀ env.locals h (hot st ++ cold) → Q .next { s with heap := h, toks := tk }) :
    wpAny (model prog w) A (pyIter (.ref l)) (fun it s₂ => LoopAtV prog w A h₀ env x body Q E it s₂) E s := by
  have hin : ∀ p ∈ hot st₀ ++ cold, p ∈ news := fun p hp => (List.mem_append.mp hp).elim (hin'.all p) (hcold' p)
  have hsep := hsep'.all
  have hb := hb'.all
  have hlN := N _ (hin _ (List.mem_append_right _ hl))
  have hls : s.heap.IsTuple l vs.toArray := ⟨_, hlN.1, rfl, _, rfl⟩
  have hne : l ≠ s.heap.objs.size := Nat.ne_of_lt (Heap.lt_size hlN.1)
  refine wpAny_pyIter_tuple hls ?_
  have W := Walks.tuple (prog := prog) (w := w) hh s.heap.objs.size l hne vs.toArray
  have e : vs.toArray.size = vs.length := by simp
  rw [e] at W
  refine loop_gen keep bs hot P st₀ cold W ?_ (next_is_new F) (fun b hb => ?_) (fun i h st => let ⟨⟨o, ho, _⟩, _⟩ := st; ⟨_, ho⟩) ⟨⟨_, Heap.get?_push_size _ rfl, rfl, rfl⟩, hls.at fun o e => Heap.get?_push_of_some _ e⟩ (F.push _) (fun p hp => ⟨Heap.get?_push_of_some _ (N p hp).1, (N p hp).2⟩) hin ?_ hsep hb hP ?_ ?_
  · intro hm
    rcases List.mem_cons.mp hm with e | hm
    · exact absurd F.ns.lt (e ▸ Nat.lt_irrefl _)
    · exact hlN.2.1 (List.mem_singleton.mp hm).symm
  · rcases List.mem_cons.mp hb with e | hb
    · exact .inl e
    · exact .inr (.inl ⟨_, (List.mem_singleton.mp hb) ▸ hl⟩)
  · intro p hp e; exact absurd (Heap.lt_size (N p hp).1) (e ▸ Nat.lt_irrefl _)
  · rintro i v st u h tk rest hi hv hP' hc hs' F' N'
    exact turn i v st u h tk rest hi (by simpa using hv) hP' hc hs' F' N'
  · exact done
end
end Mine
end
section
open PySem PySem.W PyProof.Rows PySem.Calls
namespace Mine
noncomputable abbrev ent (w : World) (n : String) (t : Tok) (v : Value) : DictEntry := ⟨PyData.keyHash w.params (Str.ofString n), .str (Str.ofString n) t, v⟩
noncomputable abbrev congD (w : World) (W : Nat) (la lc : Addr) (d : Nat) (ls : Addr) (t1 t2 t3 t4 t5 t6 td tw : Tok) : Obj :=
  dictOf [ent w "a" t1 (.ref la), ent w "c" t2 (.ref lc), ent w "width" t3 (.int (d : Int) td), ent w "state" t4 (.ref ls), ent w "w" t5 (.int (W : Int) tw), ent w "mul" t6 (.ref 207)] 6
noncomputable abbrev lagD (w : World) (W : Nat) (lr : Addr) (pl : Nat) (t1 t2 t3 td tw : Tok) : Obj :=
  dictOf [ent w "row" t1 (.ref lr), ent w "place" t2 (.int (pl : Int) td), ent w "w" t3 (.int (W : Int) tw)] 3
noncomputable abbrev tupO (vs : List Value) : Obj := { cls := .type "tuple", data := .seq vs.toArray }
inductive Src where
  | cong (p q d S : Nat)
  | lag (row : List Nat) (pl : Nat)
noncomputable def Src.ok (W : Nat) : Src → Prop
  | .cong p q d S => p < 2 ^ 5 ∧ q < 2 ^ 5 ∧ 4 ≤ d ∧ d ≤ 5 ∧ S < 2 ^ d
  | .lag row pl => Lim W row ∧ 0 < pl ∧ pl < row.length ∧ row.length ≤ 6
noncomputable def Src.next (W : Nat) : Src → Src
  | .cong p q d S => .cong p q d ((S * p + q) % 2 ^ d)
  | .lag row pl => .lag (row.drop 1 ++ [(row.getD 0 0 + row.getD pl 0) % 2 ^ W]) pl
noncomputable def Src.part (W : Nat) : Src → Nat
  | .cong p q d S => (S * p + q) % 2 ^ d / 2 ^ (d - d / 2)
  | .lag row pl => (row.getD 0 0 + row.getD pl 0) % 2 ^ W
noncomputable def Src.many (W : Nat) : Src → Nat
  | .cong _ _ d _ => d / 2
  | .lag _ _ => W
theorem Src.ok.next {W : Nat} {c : Src} (h : c.ok W) : (c.next W).ok W := by
  cases c with
  | cong p q d S => exact ⟨h.1, h.2.1, h.2.2.1, h.2.2.2.1, Nat.mod_lt _ (Nat.two_pow_pos _)⟩
  | lag row pl =>
    obtain ⟨h1, h2, h3, h4⟩ := h
    refine ⟨?_, h2, ?_, ?_⟩
    · exact Lim.push (a := row.drop 1) (fun x hx => h1 x (List.mem_of_mem_drop hx)) (Nat.mod_lt _ (Nat.two_pow_pos _))
    · simp; omega
    · simp; omega
theorem Src.many_next {W : Nat} (c : Src) : (c.next W).many W = c.many W := by cases c <;> rfl
theorem Src.ok.many {W : Nat} {c : Src} (h : c.ok W) (hW : 0 < W) (hW2 : W ≤ 6) : 0 < c.many W ∧ c.many W ≤ 6 := by
  cases c with
  | cong p q d S => obtain ⟨_, _, h3, h4, _⟩ := h; simp only [Src.many]; omega
  | lag row pl => exact ⟨hW, hW2⟩
theorem Src.ok.part {W : Nat} {c : Src} (h : c.ok W) : c.part W < 2 ^ c.many W := by
  cases c with
  | cong p q d S =>
    obtain ⟨_, _, h3, h4, _⟩ := h
    simp only [Src.part, Src.many]
    refine (Nat.div_lt_iff_lt_mul (Nat.two_pow_pos _)).mpr ?_
    rw [← Nat.pow_add, show d / 2 + (d - d / 2) = d by omega]
    exact Nat.mod_lt _ (Nat.two_pow_pos _)
  | lag row pl => exact Nat.mod_lt _ (Nat.two_pow_pos _)
inductive SrcIs (w : World) (W : Nat) (news : List (Addr × Obj)) (x dx : Addr) : Obj → Addr → List Value → Src → Prop
  | cong {la lc ls : Addr} {avs cvs svs : List Value} {n1 n2 p q d S : Nat} {t1 t2 t3 t4 t5 t6 td tw : Tok} (hx : (x, instObj 126 dx) ∈ news) (ha : (la, (⟨.type "list", none, .seq avs.toArray n1, #[]⟩ : Obj)) ∈ news) (hai : IntsAre avs (up (digs W p)))
      (hc : (lc, (⟨.type "list", none, .seq cvs.toArray n2, #[]⟩ : Obj)) ∈ news) (hci : IntsAre cvs (up (digs W q))) (hsi : IntsAre svs (up (digs W S))) :
      SrcIs w W news x dx (congD w W la lc d ls t1 t2 t3 t4 t5 t6 td tw) ls svs (.cong p q d S)
  | lag {lr : Addr} {rvs : List Value} {row : List Nat} {pl : Nat} {t1 t2 t3 td tw : Tok} (hx : (x, instObj 154 dx) ∈ news) (hri : IntsAre rvs (up row)) :
      SrcIs w W news x dx (lagD w W lr pl t1 t2 t3 td tw) lr rvs (.lag row pl)
end Mine
end
section
open PySem PySem.W PyProof.Rows PySem.Calls PySem.SeqAt
namespace Mine
/-- the value reads as the datum wherever the ledger is borne -/
noncomputable def Rd (news : Led) (v : Value) (d : PyData) : Prop := ∀ h : Heap, (∀ p ∈ news, h.get? p.1 = some p.2) → ∃ as, Reads h v d as
noncomputable def RdAll (news : Led) (vs : List Value) (ds : List PyData) : Prop := ∀ h : Heap, (∀ p ∈ news, h.get? p.1 = some p.2) → ∃ as, ReadsAll h vs ds as
theorem Rd.mono {n n' : Led} {v : Value} {d : PyData} (r : Rd n v d) (hs : ∀ p ∈ n, p ∈ n') : Rd n' v d := fun h k => r h fun p hp => k p (hs p hp)
theorem RdAll.mono {n n' : Led} {v : List Value} {d : List PyData} (r : RdAll n v d) (hs : ∀ p ∈ n, p ∈ n') : RdAll n' v d := fun h k => r h fun p hp => k p (hs p hp)
theorem Rd.news {h₀ h : Heap} {L : Addr} {n : Led} {v : Value} {d : PyData} (r : Rd n v d) (N : News h₀ L h n) : ∃ as, Reads h v d as := r h fun p hp => (N p hp).1
theorem Rd.int (n : Led) (i : Int) (t : Tok) : Rd n (.int i t) (.int i) := fun _ _ => ⟨_, .int i t⟩
theorem Rd.str (n : Led) (x : Str) (t : Tok) : Rd n (.str x t) (.str x) := fun _ _ => ⟨_, .str x t⟩
theorem Rd.none (n : Led) : Rd n .none .none := fun _ _ => ⟨_, .none⟩
theorem RdAll.nil (n : Led) : RdAll n [] [] := fun _ _ => ⟨_, .nil⟩
theorem RdAll.cons {n : Led} {v : Value} {d : PyData} {vs : List Value} {ds : List PyData} (r : Rd n v d) (rs : RdAll n vs ds) : RdAll n (v :: vs) (d :: ds) := fun h k => by
  obtain ⟨_, a⟩ := r h k
  obtain ⟨_, b⟩ := rs h k
  exact ⟨_, .cons a b⟩
theorem readsAll_snoc {h : Heap} {v : Value} {d : PyData} {as : List Addr} (r : Reads h v d as) : ∀ {vs : List Value} {ds : List PyData} {bs : List Addr}, ReadsAll h vs ds bs → ∃ cs, ReadsAll h (vs ++ [v]) (ds ++ [d]) cs
  | _, _, _, .nil => ⟨_, .cons r .nil⟩
  | _, _, _, .cons x y => by
    obtain ⟨_, z⟩ := readsAll_snoc r y
    exact ⟨_, .cons x z⟩
theorem RdAll.snoc {n : Led} {v : Value} {d : PyData} {vs : List Value} {ds : List PyData} (rs : RdAll n vs ds) (r : Rd n v d) : RdAll n (vs ++ [v]) (ds ++ [d]) := by
  intro h k
  obtain ⟨_, b⟩ := rs h k
  obtain ⟨_, a⟩ := r h k
  exact readsAll_snoc a b
theorem Rd.list {n : Led} {l : Addr} {vs : List Value} {k : Nat} {ds : List PyData} (hm : (l, lst vs k) ∈ n) (rs : RdAll n vs ds) : Rd n (.ref l) (.list ds) := fun h k' => by
  obtain ⟨_, b⟩ := rs h k'
  exact ⟨_, .list (k' _ hm) rfl rfl (by simpa using b)⟩
theorem Rd.tup {n : Led} {l : Addr} {vs : List Value} {ds : List PyData} (hm : (l, tupO vs) ∈ n) (rs : RdAll n vs ds) : Rd n (.ref l) (.tuple ds) := fun h k' => by
  obtain ⟨_, b⟩ := rs h k'
  exact ⟨_, .tuple (k' _ hm) rfl rfl (by simpa using b)⟩
theorem RdAll.ints {n : Led} : ∀ {vs : List Value} {ns : List Int}, IntsAre vs ns → RdAll n vs (ns.map PyData.int)
  | _, _, .nil => .nil n
  | _, _, .cons i t r => .cons (.int n i t) (RdAll.ints r)
theorem eqv_ints : ∀ ns : List Int, PyData.eqvAll (ns.map PyData.int) (ns.map PyData.int) = true
  | [] => by simp [PyData.eqvAll]
  | a :: r => by simp [PyData.eqvAll, PyData.eqv, eqv_ints r]

/-- what a deed tells -/
inductive Ans where
  | part (n many : Nat)
  | num (n : Nat)
  | swap (b : Bool)
  | none
noncomputable def sOne : Str := Str.ofString "one"
noncomputable def sOther : Str := Str.ofString "other"
noncomputable def swapL (b : Bool) : List Str := if b then [sOther, sOne] else [sOne, sOther]
noncomputable def ansD (W : Nat) : Ans → PyData
  | .part n many => .tuple [.list ((up (digs W n)).map .int), .int many]
  | .num n => .int n
  | .swap b => .list ((swapL b).map .str)
  | .none => .none
noncomputable def tellD : Src → PyData
  | .cong p q d S => .tuple [.str (Str.ofString "state"), .int d, .int p, .int q, .int S]
  | .lag row pl => .tuple [.str (Str.ofString "row"), .list ((up row).map .int), .int pl]
inductive AnsIs (W : Nat) (news : Led) : Value → Ans → Prop
  | part {r pr : Addr} {pvs : List Value} {k n many : Nat} {t : Tok} (h1 : (r, tupO [.ref pr, .int (many : Int) t]) ∈ news) (h2 : (pr, lst pvs k) ∈ news) (hi : IntsAre pvs (up (digs W n))) : AnsIs W news (.ref r) (.part n many)
  | num {n : Nat} {t : Tok} : AnsIs W news (.int (n : Int) t) (.num n)
  | swap {r : Addr} {b : Bool} {t1 t2 : Tok} {k : Nat} (h1 : (r, lst [.str (if b then sOther else sOne) t1, .str (if b then sOne else sOther) t2] k) ∈ news) : AnsIs W news (.ref r) (.swap b)
  | none : AnsIs W news .none .none
theorem AnsIs.mono {W : Nat} {n n' : Led} {v : Value} {a : Ans} (r : AnsIs W n v a) (hs : ∀ p ∈ n, p ∈ n') : AnsIs W n' v a := by
  cases r with
  | part h1 h2 hi => exact .part (hs _ h1) (hs _ h2) hi
  | num => exact .num
  | swap h1 => exact .swap (hs _ h1)
  | none => exact .none
theorem AnsIs.rd {W : Nat} {n : Led} {v : Value} {a : Ans} (r : AnsIs W n v a) : Rd n v (ansD W a) := by
  cases r with
  | part h1 h2 hi => exact .tup h1 (.cons (.list h2 (.ints hi)) (.cons (.int _ _ _) (.nil _)))
  | num => exact .int _ _ _
  | @swap r b t1 t2 k h1 => cases b with
    | true => exact .list h1 (.cons (.str _ _ _) (.cons (.str _ _ _) (.nil _)))
    | false => exact .list h1 (.cons (.str _ _ _) (.cons (.str _ _ _) (.nil _)))
  | none => exact .none _
inductive TellIs (news : Led) (t : Addr) : Src → Prop
  | cong {p q d S : Nat} {t0 t1 t2 t3 t4 : Tok} (h : (t, tupO [.str (Str.ofString "state") t0, .int (d : Int) t1, .int (p : Int) t2, .int (q : Int) t3, .int (S : Int) t4]) ∈ news) : TellIs news t (.cong p q d S)
  | lag {lr : Addr} {rvs : List Value} {k pl : Nat} {row : List Nat} {t0 t1 : Tok} (h : (t, tupO [.str (Str.ofString "row") t0, .ref lr, .int (pl : Int) t1]) ∈ news) (h2 : (lr, lst rvs k) ∈ news) (hi : IntsAre rvs (up row)) : TellIs news t (.lag row pl)
theorem TellIs.mono {n n' : Led} {t : Addr} {c : Src} (r : TellIs n t c) (hs : ∀ p ∈ n, p ∈ n') : TellIs n' t c := by
  cases r with
  | cong h => exact .cong (hs _ h)
  | lag h h2 hi => exact .lag (hs _ h) (hs _ h2) hi
theorem TellIs.rd {n : Led} {t : Addr} {c : Src} (r : TellIs n t c) : Rd n (.ref t) (tellD c) := by
  cases r with
  | cong h => exact .tup h (.cons (.str _ _ _) (.cons (.int _ _ _) (.cons (.int _ _ _) (.cons (.int _ _ _) (.cons (.int _ _ _) (.nil _))))))
  | lag h h2 hi => exact .tup h (.cons (.str _ _ _) (.cons (.list h2 (.ints hi)) (.cons (.int _ _ _) (.nil _))))
theorem swap_facts (b : Bool) : PyData.eqv (ansD 0 (.swap b)) (ansD 0 (.swap b)) = true ∧ (ansD 0 (.swap b)).depth ≤ 2 ∧ (ansD 0 (.swap b)).canLay0 = true := by cases b <;> decide +kernel
theorem eqv_ansD (W : Nat) (a : Ans) : PyData.eqv (ansD W a) (ansD W a) = true := by
  cases a with
  | part n many => simp only [ansD, PyData.eqv, PyData.eqvAll, eqv_ints]; simp
  | num n => simp [ansD, PyData.eqv]
  | swap b => exact (swap_facts b).1
  | none => simp [ansD, PyData.eqv]
theorem eqv_tellD (c : Src) : PyData.eqv (tellD c) (tellD c) = true := by
  cases c with
  | cong p q d S => simp [tellD, PyData.eqv, PyData.eqvAll]
  | lag row pl => simp only [tellD, PyData.eqv, PyData.eqvAll, eqv_ints]; simp
theorem depth_ansD (W : Nat) (a : Ans) : (ansD W a).depth ≤ 2 := by
  cases a with
  | part n many => simp [ansD, PyData.depth, PyData.depthAll, ke_depthAll]
  | num n => simp [ansD, PyData.depth]
  | swap b => exact (swap_facts b).2.1
  | none => simp [ansD, PyData.depth]
theorem canLay_ansD (W : Nat) (a : Ans) : (ansD W a).canLay0 = true := by
  cases a with
  | part n many => simp [ansD, PyData.canLay0, PyData.canLayAll0, ke_canLayAll0]
  | num n => simp [ansD, PyData.canLay0]
  | swap b => exact (swap_facts b).2.2
  | none => simp [ansD, PyData.canLay0]
theorem shaped_ansD (W : Nat) (a : Ans) : shaped (ansD W a) = true := by
  have := depth_ansD W a
  simp only [shaped, canLay_ansD, Bool.true_and, decide_eq_true_eq]
  omega
theorem shaped_tellD (c : Src) : shaped (tellD c) = true := by
  cases c with
  | cong p q d S =>
    have e : PyData.canLay0 (.str (Str.ofString "state")) = true := by decide +kernel
    simp [tellD, shaped, PyData.canLayAll0, PyData.depth, PyData.depthAll, PyData.canLay0] at e ⊢
    exact e
  | lag row pl =>
    have e : PyData.canLay0 (.str (Str.ofString "row")) = true := by decide +kernel
    simp [tellD, shaped, PyData.canLayAll0, PyData.depth, PyData.depthAll, PyData.canLay0, ke_canLayAll0, ke_depthAll] at e ⊢
    exact e
theorem eqvAll_ans (W : Nat) : ∀ l : List Ans, PyData.eqvAll (l.map (ansD W)) (l.map (ansD W)) = true
  | [] => by simp [PyData.eqvAll]
  | a :: r => by simp only [List.map_cons, PyData.eqvAll, eqv_ansD, eqvAll_ans W r]; rfl
theorem canLayAll_ans (W : Nat) : ∀ l : List Ans, PyData.canLayAll0 (l.map (ansD W)) = true
  | [] => by simp [PyData.canLayAll0]
  | a :: r => by simp only [List.map_cons, PyData.canLayAll0, canLay_ansD, canLayAll_ans W r]; rfl
theorem depthAll_ans (W : Nat) : ∀ l : List Ans, PyData.depthAll (l.map (ansD W)) ≤ 2
  | [] => by simp [PyData.depthAll]
  | a :: r => by
    have h1 := depth_ansD W a
    have h2 := depthAll_ans W r
    simp only [List.map_cons, PyData.depthAll]
    omega
theorem shaped_anss (W : Nat) (l : List Ans) : shaped (.list (l.map (ansD W))) = true := by
  have h := depthAll_ans W l
  have e : (PyData.list (l.map (ansD W))).depth = PyData.depthAll (l.map (ansD W)) + 1 := by simp [PyData.depth, Nat.add_comm]
  simp only [shaped, PyData.canLay0, canLayAll_ans, Bool.true_and, decide_eq_true_eq]
  omega
section
variable {prog : Program} {w : World} {A : Around} {E : Value → Shared → Prop} {s : Shared} {h₀ : Heap} {L : Addr} {news : Led} {a b : Value} {Q : Value → Shared → Prop}
theorem ne_rd {d : PyData} (N : News h₀ L s.heap news) (ra : Rd news a d) (rb : Rd news b d) (hs : shaped d = true) (he : PyData.eqv d d = true) (hu : A.units + 64 < cLine) (h : Q (.bool false) s) : wpAny (model prog w) A (compareOp .NotEq a b) Q E s := by
  obtain ⟨_, ra⟩ := ra.news N
  obtain ⟨_, rb⟩ := rb.news N
  refine ne_dataH ra rb hs hs hu ?_
  rw [he]; exact h
end
/-- a source newly begun: its own cells lie apart -/
structure FreshSrc (nw : Led) (dx ls : Addr) (news : Led) : Prop where
  n1 : ∀ p ∈ nw, p.1 ≠ dx
  n2 : ∀ p ∈ nw, p.1 ≠ ls
  n3 : ls ≠ dx
  f1 : ∀ q ∈ news, q.1 < dx
  f2 : ∀ q ∈ news, q.1 < ls
  f3 : ∀ p ∈ nw, ∀ q ∈ news, q.1 < p.1
end Mine
end
section
open PySem PySem.W PyProof.Rows PySem.Calls
namespace Mine
theorem ints_at {vs : List Value} {ns : List Int} (hi : IntsAre vs ns) {i : Nat} {v : Value} (hv : vs.toArray[i]? = some v) : ∃ z t, v = .int z t := by
  have hv' : vs[i]? = some v := by simpa using hv
  have hlt : i < vs.length := by
    obtain ⟨h, _⟩ := List.getElem?_eq_some_iff.mp hv'
    exact h
  have hl : i < ns.length := by rw [← hi.length]; exact hlt
  obtain ⟨t, ht⟩ := hi.get i _ (List.getElem?_eq_getElem hl)
  rw [hv'] at ht
  exact ⟨_, t, Option.some.inj ht⟩
end Mine
end
end
section
open PySem PySem.W PyProof.Rows PySem.Calls
namespace Mine
theorem fillOne (P : Params) : PySem.Challenge.rw_sj0076_01 = PySem.Challenge.rw_sj0076_01 ∧ hd.heap_39 P = hd.heap_39 P := by
  k_fill
  exact ⟨rfl, rfl⟩
local macro_rules | `(tactic| k_mem) => `(tactic| first | exact List.mem_cons_self | ktr_member | (refine' List.mem_cons_of_mem _ ?_; k_mem))
local macro_rules | `(tactic| ktr_room) => `(tactic| first | exact room1 (by with_reducible assumption) rfl | exact room2 (by with_reducible assumption) rfl | exact room0 (by with_reducible assumption) | exact room3 (by with_reducible assumption) rfl | exact room4 (by with_reducible assumption) rfl)
local macro_rules | `(tactic| k_ne) => `(tactic| (refine neN ?_; (try dsimp only); first | with_reducible assumption | with_reducible exact Ne.symm (by with_reducible assumption) | exact Nat.ne_of_lt (by with_reducible assumption) | exact Nat.ne_of_gt (by with_reducible assumption) | omega))
local macro_rules | `(tactic| is_list) => `(tactic| exact News.isList (by assumption) (by k_mem))
local macro_rules | `(tactic| k_all) => `(tactic| first | with_reducible assumption | exact ne_of_lt (by with_reducible assumption) | exact ne_of_all (by k_extra "less"))
local macro_rules | `(tactic| ktr_rel) => `(tactic| first | with_reducible assumption | exact kst_ltOf (by k_extra "less"))
local macro_rules | `(tactic| k_extra "less") => `(tactic| first | with_reducible assumption | exact (And.right (by with_reducible assumption)) | exact (And.right (And.right (by with_reducible assumption))) | exact (And.right (And.right (And.right (by with_reducible assumption)))) | exact (And.right (And.right (And.right (And.right (by with_reducible assumption))))) | exact (And.right (And.right (And.right (And.right (And.right (by with_reducible assumption)))))) | exact (And.right (And.right (And.right (And.right (And.right (And.right (by with_reducible assumption))))))) | exact (And.right (And.right (And.right (And.right (And.right (And.right (And.right (by with_reducible assumption)))))))) | exact (And.right (And.right (And.right (And.right (And.right (And.right (And.right (And.right (by with_reducible assumption))))))))) | exact (And.right (And.right (And.right (And.right (And.right (And.right (And.right (And.right (And.right (by with_reducible assumption)))))))))) | exact (And.right (And.right (And.right (And.right (And.right (And.right (And.right (And.right (And.right (And.right (by with_reducible assumption))))))))))) | exact (And.right (And.right (And.right (And.right (And.right (And.right (And.right (And.right (And.right (And.right (And.right (by with_reducible assumption)))))))))))) | exact (And.right (And.right (And.right (And.right (And.right (And.right (And.right (And.right (And.right (And.right (And.right (And.right (by with_reducible assumption))))))))))))) | exact (And.right (And.right (And.right (And.right (And.right (And.right (And.right (And.right (And.right (And.right (And.right (And.right (And.right (by with_reducible assumption)))))))))))))) | (refine allLt_of ?_; with_reducible assumption))
section
local macro_rules | `(tactic| kst_p2) => `(tactic| first | assumption | omega | (refine Nat.lt_of_lt_of_le (by assumption) ?_; decide) | (refine Nat.lt_of_le_of_lt (by assumption) ?_; decide))
local macro_rules | `(tactic| ktr_units) => `(tactic| (((try simp only [units_make, units_in1, units_deeper, Around.mark_units, units_caller]); (try dsimp only [ktrTop]); first | exact room1 (by with_reducible assumption) rfl | exact room2 (by with_reducible assumption) rfl | exact room0 (by with_reducible assumption) | exact room3 (by with_reducible assumption) rfl | exact room4 (by with_reducible assumption) rfl | ((simp only [units_make, units_in1, units_deeper, Around.mark_units, units_caller] at *); (try dsimp only [ktrTop] at *); omega))))
section
local macro_rules | `(tactic| omega) => `(tactic| first | with_reducible assumption | with_reducible exact Int.natCast_nonneg _ | lia)
section
variable {w : World} {mean : ExcName → Option Value} {mg mb : Str → Option Value}
  {dp un : Nat} {gd : Option (List Code)} {cn : Str} {cs : Scope} {a : Addr} {ccd : Value} {cl : List (Str × Addr)} {outer : List Env} {A₀ : Around} {base h₀ : Heap} {L : Addr} {m : Str → Option Value} {news : Led} {s : Shared}
  {Q E : Value → Shared → Prop}
  (B : Below A₀ base outer h₀) (F : Fr h₀ L s.heap m) (X : (hd.heap_39 w.params).In h₀) (N : News h₀ L s.heap news) (T : Top hd.view_39 (looseW hd.view_39 []) mean mg mb h₀) (hk : cs.kind = .function)
include B F X N T hk
omit B F X N T hk in
theorem norm_take {W : Nat} (hW : 0 < W) {l : List Nat} (hl : Lim W l) {k : Int} (h1 : k ≤ (((up l).length : Nat) : Int)) (h2 : min (((up l).length : Nat) : Int) 0 ≤ k)
    (h3 : ∀ j : Int, k < j → j ≤ (((up l).length : Nat) : Int) → (if 0 < j then if ((up l).getD (j - 1).toNat 0 == 0) = true then true else false else false) = true)
    (h4 : (if 0 < k then if ((up l).getD (k - 1).toNat 0 == 0) = true then true else false else false) = false) : (up l).take k.toNat = up (digs W (nval W l)) := by
  have h0 : 0 ≤ k := by omega
  rw [up_length] at h1 h3
  rw [← up_take]
  congr 1
  refine digs_of_take hW hl (by omega) (fun j hj hj' => ?_) (fun hp => ?_)
  · have := h3 ((j : Int) + 1) (by omega) (by omega)
    rw [if_pos (by omega), up_getD] at this
    have e : ((j : Int) + 1 - 1).toNat = j := by omega
    rw [e] at this
    have : (((l.getD j 0 : Nat) : Int) == 0) = true := by
      cases hb : (((l.getD j 0 : Nat) : Int) == 0) with
      | true => rfl
      | false => rw [hb] at this; simp at this
    have := beq_iff_eq.mp this
    omega
  · rw [if_pos (by omega), up_getD] at h4
    have e : (k - 1).toNat = k.toNat - 1 := by omega
    rw [e] at h4
    intro e0
    rw [e0] at h4
    simp at h4

set_option maxHeartbeats 4000000 in
theorem normal_C {x : Addr} {vs : List Value} {nn : Nat} {ls : List Nat} {W : Nat} (hW : 0 < W) (hd1 : dp + 1 < recursionLimit) (hu : un + 8 < cLine)
    (hx : (x, lst vs nn) ∈ news) (hi : IntsAre vs (up ls)) (hl : Lim W ls) (hlen : ls.length ≤ 100)
    (ret : ∀ r h' tk' vs', Fr h₀ L h' m → News h₀ L h' ((r, lst vs' 0) :: news) → IntsAre vs' (up (digs W (nval W ls))) → (∀ p ∈ news, p.1 < r) → Q (.ref r) { s with heap := h', toks := tk' }) :
    wpAny (model Challenge.rw_sj0076_01.row.prog w) (ktrTop dp un gd cn cs L a ccd cl outer) (call (.ref 46) [.ref x]) Q E s := by
  have hlen' : (up ls).length ≤ 100 := by rw [up_length]; exact hlen
  refine wpAny_call ?_
  k_dflt cell_enter
  repeat' ((fail_if_success (with_reducible show Hold _)); first | (with_reducible refine Cn.out (by assumption) ?_) | (first | (with_reducible refine Co.ret (by assumption) ?_) | (with_reducible refine Co.brk (by assumption) ?_) | (with_reducible refine Co.cont (by assumption) ?_) | (with_reducible refine Cnt.out (by assumption) ?_; (try dsimp only))) | (k_unfold; (try dsimp only)) | ((with_reducible show wpAny _ _ (execs _ _) _ _ _); (first | ((fail_if_success (with_reducible refine Cn.seen (by first | exact Or.inl (by assumption) | exact Or.inr (by assumption)) ?_)); refine Cnt.gen ?_; intro qk hqk) | (with_reducible refine execs_one ?_) | (with_reducible refine execs_cnt ?_; intro qk hqn hqo))) | (first | with_reducible refine TurnEnd.ret ?_ | with_reducible refine TurnEnd.brk ?_) | ((with_reducible show wpAny _ _ (pyIter _) _ _ _); refine Hold.intro ?_) | (k_end; wrow_close) | walk1 | (dsimp only; walk1) | (leave1; try dsimp only))
  refine ret _ _ _ _ (by assumption) (by assumption) ?_ (by assumption)
  have e := norm_take hW hl (by assumption) (by assumption) (by assumption) (by assumption)
  rw [← e]
  assumption

omit B F X N T hk in
theorem len_lt_of {W x y : Nat} (hW : 0 < W) (h : (digs W x).length < (digs W y).length) : x < y := by
  have h1 := digs_lt hW x
  have hy : 0 < y := (digs_len_pos hW).mp (by omega)
  have h2 := digs_ge hW y hy
  refine Nat.lt_of_lt_of_le h1 (Nat.le_trans (Nat.pow_le_pow_right (by decide) (Nat.mul_le_mul_left _ (by omega))) h2)
noncomputable def cmpN (x y : Nat) : Int := if x < y then -1 else if y < x then 1 else 0
omit B F X N T hk in
theorem cmp_top {W x y k : Nat} (h : x / 2 ^ (W * (k + 1)) = y / 2 ^ (W * (k + 1))) (hlt : (digs W x).getD k 0 < (digs W y).getD k 0) (hW : 0 < W) : x < y := by
  rw [getD_digs hW, getD_digs hW] at hlt
  have e : ∀ z : Nat, z / 2 ^ (W * k) = z / 2 ^ (W * (k + 1)) * 2 ^ W + z / 2 ^ (W * k) % 2 ^ W := fun z => by
    rw [Nat.mul_add, Nat.mul_one, Nat.pow_add, ← Nat.div_div_eq_div_mul]
    exact (Nat.div_add_mod' _ _).symm
  have h1 : x / 2 ^ (W * k) < y / 2 ^ (W * k) := by rw [e x, e y, h]; omega
  exact Nat.lt_of_not_le fun hle => Nat.not_le_of_lt h1 (Nat.div_le_div_right hle)
omit B F X N T hk in
theorem cmp_same {W x y k : Nat} (h : x / 2 ^ (W * (k + 1)) = y / 2 ^ (W * (k + 1))) (he : (digs W x).getD k 0 = (digs W y).getD k 0) (hW : 0 < W) : x / 2 ^ (W * k) = y / 2 ^ (W * k) := by
  rw [getD_digs hW, getD_digs hW] at he
  have e : ∀ z : Nat, z / 2 ^ (W * k) = z / 2 ^ (W * (k + 1)) * 2 ^ W + z / 2 ^ (W * k) % 2 ^ W := fun z => by
    rw [Nat.mul_add, Nat.mul_one, Nat.pow_add, ← Nat.div_div_eq_div_mul]
    exact (Nat.div_add_mod' _ _).symm
  rw [e x, e y, h, he]

set_option maxHeartbeats 4000000 in
theorem compare_C {x y : Addr} {vs us : List Value} {nn mm : Nat} {p q : Nat} {W : Nat} (hW : 0 < W) (hd1 : dp + 1 < recursionLimit) (hu : un + 8 < cLine)
    (hx : (x, lst vs nn) ∈ news) (hi : IntsAre vs (up (digs W p))) (hp : p < 2 ^ 60) (hy : (y, lst us mm) ∈ news) (hj : IntsAre us (up (digs W q))) (hq : q < 2 ^ 60)
    (ret : ∀ t h' tk', Fr h₀ L h' m → News h₀ L h' news → Q (.int (cmpN p q) t) { s with heap := h', toks := tk' }) :
    wpAny (model Challenge.rw_sj0076_01.row.prog w) (ktrTop dp un gd cn cs L a ccd cl outer) (call (.ref 53) [.ref x, .ref y]) Q E s := by
  have hl1 : (up (digs W p)).length ≤ 60 := by rw [up_length]; exact digs_len_le hW hp
  have hl2 : (up (digs W q)).length ≤ 60 := by rw [up_length]; exact digs_len_le hW hq
  refine wpAny_call ?_
  k_dflt cell_enter
  repeat' ((fail_if_success (with_reducible show Hold _)); first | (with_reducible refine Cn.out (by assumption) ?_) | (first | (with_reducible refine Co.ret (by assumption) ?_) | (with_reducible refine Co.brk (by assumption) ?_) | (with_reducible refine Co.cont (by assumption) ?_) | (with_reducible refine Cnt.out (by assumption) ?_; (try dsimp only))) | (k_unfold; (try dsimp only)) | ((with_reducible show wpAny _ _ (execs _ _) _ _ _); (first | ((fail_if_success (with_reducible refine Cn.seen (by first | exact Or.inl (by assumption) | exact Or.inr (by assumption)) ?_)); refine Cnt.gen ?_; intro qk hqk) | (with_reducible refine execs_one ?_) | (with_reducible refine execs_cnt ?_; intro qk hqn hqo))) | (first | with_reducible refine TurnEnd.ret ?_ | with_reducible refine TurnEnd.brk ?_) | ((with_reducible show wpAny _ _ (pyIter _) _ _ _); refine Hold.intro ?_) | (k_end; wrow_close) | walk1 | (dsimp only; walk1) | (leave1; try dsimp only))
  · have e : cmpN p q = -1 := if_pos (len_lt_of hW (by rw [← up_length, ← up_length]; omega))
    rw [e] at ret
    exact ret _ _ _ (by assumption) (by assumption)
  · have hlt : q < p := len_lt_of hW (by rw [← up_length, ← up_length]; omega)
    have e : cmpN p q = 1 := (if_neg (by omega)).trans (if_pos hlt)
    rw [e] at ret
    exact ret _ _ _ (by assumption) (by assumption)
  · have hlen : (digs W p).length = (digs W q).length := by rw [← up_length, ← up_length]; omega
    rename News _ _ _ _ => N1
    rename Fr _ _ _ _ => F1
    rename IsRange _ _ _ _ _ _ _ _ => R1
    refine Hold.out ?_
    refine' for_down (σ := Unit) (digs W p).length [Str.ofString "a", Str.ofString "b"] (fun _ => []) (fun _ => []) (fun i _ => p / 2 ^ (W * ((digs W p).length - i)) = q / 2 ^ (W * ((digs W p).length - i))) () news rfl R1 (by exact small_down (by omega) (by omega) (by omega) (by omega)) (by rw [up_length] at *; omega) F1 N1 ?hb ?hin ?hcold ?hsep ?hP ?turn ?done
    case hb => exact trivial
    case hin => exact trivial
    case hcold => exact fun _ h => h
    case hsep => exact trivial
    case hP =>
      rw [Nat.sub_zero, Nat.div_eq_of_lt (digs_lt hW p), hlen, Nat.div_eq_of_lt (digs_lt hW q)]
    case turn =>
      intro i t z90 u h tk rest hi' hP1 hcold hsep F2 N2
      obtain ⟨⟩ := z90
      have hx' := hcold _ hx
      have hy' := hcold _ hy
      have hle1 : (up (digs W p)).length = (digs W p).length := up_length _
      have hle2 : (up (digs W q)).length = (digs W p).length := (up_length _).trans hlen.symm
      obtain ⟨k, hk9⟩ : ∃ k, (digs W p).length - i = k + 1 := ⟨(digs W p).length - i - 1, by omega⟩
      rw [hk9] at hP1
      have hidx : ((((up (digs W p)).length : Nat) : Int) - 1 - (i : Int)) = (k : Int) := by omega
      rw [hidx] at F2
      have hklt : k < (digs W p).length := by omega
      clear hx hy N N1 F1 R1
      dsimp only [List.nil_append] at N2 F2
      try k_fold
      repeat' ((fail_if_success (with_reducible show Hold _)); first | (with_reducible refine Cn.out (by assumption) ?_) | (first | (with_reducible refine Co.ret (by assumption) ?_) | (with_reducible refine Co.brk (by assumption) ?_) | (with_reducible refine Co.cont (by assumption) ?_) | (with_reducible refine Cnt.out (by assumption) ?_; (try dsimp only))) | (k_unfold; (try dsimp only)) | ((with_reducible show wpAny _ _ (execs _ _) _ _ _); (first | ((fail_if_success (with_reducible refine Cn.seen (by first | exact Or.inl (by assumption) | exact Or.inr (by assumption)) ?_)); refine Cnt.gen ?_; intro qk hqk) | (with_reducible refine execs_one ?_) | (with_reducible refine execs_cnt ?_; intro qk hqn hqo))) | (first | with_reducible refine TurnEnd.ret ?_ | with_reducible refine TurnEnd.brk ?_) | ((with_reducible show wpAny _ _ (pyIter _) _ _ _); refine Hold.intro ?_) | (k_end; wrow_close) | walk1 | (dsimp only; walk1) | (leave1; try dsimp only))
      all_goals (try dsimp only)
      all_goals (try repeat' ((fail_if_success (with_reducible show Hold _)); first | (with_reducible refine Cn.out (by assumption) ?_) | (first | (with_reducible refine Co.ret (by assumption) ?_) | (with_reducible refine Co.brk (by assumption) ?_) | (with_reducible refine Co.cont (by assumption) ?_) | (with_reducible refine Cnt.out (by assumption) ?_; (try dsimp only))) | (k_unfold; (try dsimp only)) | ((with_reducible show wpAny _ _ (execs _ _) _ _ _); (first | ((fail_if_success (with_reducible refine Cn.seen (by first | exact Or.inl (by assumption) | exact Or.inr (by assumption)) ?_)); refine Cnt.gen ?_; intro qk hqk) | (with_reducible refine execs_one ?_) | (with_reducible refine execs_cnt ?_; intro qk hqn hqo))) | (first | with_reducible refine TurnEnd.ret ?_ | with_reducible refine TurnEnd.brk ?_) | ((with_reducible show wpAny _ _ (pyIter _) _ _ _); refine Hold.intro ?_) | (k_end; wrow_close) | walk1 | (dsimp only; walk1) | (leave1; try dsimp only)))
      · have e : cmpN p q = -1 := if_pos (cmp_top (k := k) hP1 (by simp only [up_getD, Int.toNat_natCast] at *; omega) hW)
        rw [e] at ret
        exact ret _ _ _ (by assumption) (kst_newsOf (by assumption) hcold)
      · have hlt : q < p := cmp_top (k := k) hP1.symm (by simp only [up_getD, Int.toNat_natCast] at *; omega) hW
        have e : cmpN p q = 1 := (if_neg (by omega)).trans (if_pos hlt)
        rw [e] at ret
        exact ret _ _ _ (by assumption) (kst_newsOf (by assumption) hcold)
      · refine TurnEnd.mk () (by assumption) (by assumption) trivial ⟨rfl, rfl, trivial⟩ trivial (fun _ h => h) trivial ?_
        have e9 : (digs W p).length - (i + 1) = k := by omega
        rw [e9]
        exact cmp_same hP1 (by simp only [up_getD, Int.toNat_natCast] at *; omega) hW
    case done =>
      intro z90 u h tk hP1 hsep F2 N2
      obtain ⟨⟩ := z90
      rw [Nat.sub_self, Nat.mul_zero, Nat.pow_zero, Nat.div_one, Nat.div_one] at hP1
      subst hP1
      have e : cmpN p p = 0 := (if_neg (Nat.lt_irrefl _)).trans (if_neg (Nat.lt_irrefl _))
      rw [e] at ret
      clear N N1 F1 R1
      dsimp only [List.nil_append] at N2 F2
      repeat' ((fail_if_success (with_reducible show Hold _)); first | (with_reducible refine Cn.out (by assumption) ?_) | (first | (with_reducible refine Co.ret (by assumption) ?_) | (with_reducible refine Co.brk (by assumption) ?_) | (with_reducible refine Co.cont (by assumption) ?_) | (with_reducible refine Cnt.out (by assumption) ?_; (try dsimp only))) | (k_unfold; (try dsimp only)) | ((with_reducible show wpAny _ _ (execs _ _) _ _ _); (first | ((fail_if_success (with_reducible refine Cn.seen (by first | exact Or.inl (by assumption) | exact Or.inr (by assumption)) ?_)); refine Cnt.gen ?_; intro qk hqk) | (with_reducible refine execs_one ?_) | (with_reducible refine execs_cnt ?_; intro qk hqn hqo))) | (first | with_reducible refine TurnEnd.ret ?_ | with_reducible refine TurnEnd.brk ?_) | ((with_reducible show wpAny _ _ (pyIter _) _ _ _); refine Hold.intro ?_) | (k_end; wrow_close) | walk1 | (dsimp only; walk1) | (leave1; try dsimp only))
      exact ret _ _ _ (by assumption) (by assumption)
end
section
variable {w : World} {mean : ExcName → Option Value} {mg mb : Str → Option Value}
  {dp un : Nat} {gd : Option (List Code)} {cn : Str} {cs : Scope} {a : Addr} {ccd : Value} {cl : List (Str × Addr)} {outer : List Env} {A₀ : Around} {base h₀ : Heap} {L : Addr} {m : Str → Option Value} {news : Led} {s : Shared}
  {Q E : Value → Shared → Prop}
  (B : Below A₀ base outer h₀) (F : Fr h₀ L s.heap m) (X : (hd.heap_39 w.params).In h₀) (N : News h₀ L s.heap news) (T : Top hd.view_39 (looseW hd.view_39 []) mean mg mb h₀) (hk : cs.kind = .function)
include B F X N T hk
omit B F X N T hk in
theorem digit_lt {W : Nat} (hW : 0 < W) (x i : Nat) : (digs W x).getD i 0 < 2 ^ W := (lim_digs hW x).getD i
omit B F X N T hk in
theorem add_turn {W p q i c v : Nat} (hW : 0 < W) (hv : v + 2 ^ (W * i) * c = p % 2 ^ (W * i) + q % 2 ^ (W * i)) (hc : c ≤ 1) :
    v + 2 ^ (W * i) * ((c + ((digs W p).getD i 0 + (digs W q).getD i 0)) % 2 ^ W) + 2 ^ (W * (i + 1)) * ((c + ((digs W p).getD i 0 + (digs W q).getD i 0)) / 2 ^ W) = p % 2 ^ (W * (i + 1)) + q % 2 ^ (W * (i + 1)) ∧
    (c + ((digs W p).getD i 0 + (digs W q).getD i 0)) / 2 ^ W ≤ 1 := by
  have hp := digit_lt hW p i
  have hq := digit_lt hW q i
  constructor
  · rw [mod_succ p, mod_succ q, ← getD_digs hW p i, ← getD_digs hW q i]
    generalize (digs W p).getD i 0 = x at *
    generalize (digs W q).getD i 0 = y at *
    have e : 2 ^ (W * (i + 1)) * ((c + (x + y)) / 2 ^ W) = 2 ^ (W * i) * (2 ^ W * ((c + (x + y)) / 2 ^ W)) := by
      rw [Nat.mul_add, Nat.mul_one, Nat.pow_add, Nat.mul_assoc]
    rw [e, Nat.add_assoc, ← Nat.mul_add, Nat.mod_add_div, Nat.mul_add, Nat.mul_add]
    omega
  · have : c + ((digs W p).getD i 0 + (digs W q).getD i 0) < 2 * 2 ^ W := by omega
    have := (Nat.div_lt_iff_lt_mul (Nat.two_pow_pos W)).mpr this
    omega
omit B F X N T hk in
theorem add_turn2 {W p q i c v : Nat} (hW : 0 < W) (hv : v + 2 ^ (W * i) * c = p % 2 ^ (W * i) + q) (hc : c ≤ 1) :
    v + 2 ^ (W * i) * ((c + (digs W p).getD i 0) % 2 ^ W) + 2 ^ (W * (i + 1)) * ((c + (digs W p).getD i 0) / 2 ^ W) = p % 2 ^ (W * (i + 1)) + q ∧
    (c + (digs W p).getD i 0) / 2 ^ W ≤ 1 := by
  have hp := digit_lt hW p i
  constructor
  · rw [mod_succ p, ← getD_digs hW p i]
    generalize (digs W p).getD i 0 = x at *
    have e : 2 ^ (W * (i + 1)) * ((c + x) / 2 ^ W) = 2 ^ (W * i) * (2 ^ W * ((c + x) / 2 ^ W)) := by
      rw [Nat.mul_add, Nat.mul_one, Nat.pow_add, Nat.mul_assoc]
    rw [e, Nat.add_assoc, ← Nat.mul_add, Nat.mod_add_div, Nat.mul_add]
    omega
  · have : c + (digs W p).getD i 0 < 2 * 2 ^ W := by have := Nat.two_pow_pos W; omega
    have := (Nat.div_lt_iff_lt_mul (Nat.two_pow_pos W)).mpr this
    omega
omit B F X N T hk in
theorem add_end {W P R c : Nat} {fl : List Nat} (hW : 0 < W) (hl : Lim W fl) (hlen : fl.length = (digs W P).length) (hc : c ≤ 1) (hv : nval W fl + 2 ^ (W * (digs W P).length) * c = P + R) :
    (0 < c → fl ++ [c] = digs W (P + R)) ∧ (c = 0 → fl = digs W (P + R)) := by
  have h2 : (2 : Nat) ≤ 2 ^ W := Nat.le_trans (by decide) (Nat.pow_le_pow_right (by decide) hW)
  constructor
  · intro h
    have hn : nval W (fl ++ [c]) = P + R := by rw [nval_push, hlen]; exact hv
    have := digs_of_ge hW (hl.push (d := c) (by omega)) (fun _ => by
      rw [nval_push, List.length_append, List.length_singleton, Nat.add_sub_cancel]
      have : c = 1 := by omega
      subst this
      omega)
    rwa [hn] at this
  · rintro rfl
    have hn : nval W fl = P + R := by omega
    have := digs_of_ge hW hl (fun hne => by
      have h0 : 0 < (digs W P).length := by
        rw [← hlen]; exact List.length_pos_iff.mpr hne
      have := digs_ge hW P ((digs_len_pos hW).mp h0)
      rw [hn, hlen]
      omega)
    rwa [hn] at this
omit B F X N T hk in
/-- a state in the midst of a block: one of `K`, with `bs` bound -/
noncomputable def MidAt {τ : Type} (h₀ : Heap) (L : Addr) (K : τ → Prop) (bs : τ → Bs) (l : Led) (s : Shared) (fl : Flow) (s' : Shared) : Prop :=
  fl = .next ∧ ∃ t h' tk' u, s' = { s with heap := h', toks := tk' } ∧ Fr h₀ L h' (bnd u (bs t)) ∧ News h₀ L h' l ∧ K t
omit B F X N T hk in
theorem MidAt.mk {τ : Type} {h₀ : Heap} {L : Addr} {m' : Str → Option Value} {K : τ → Prop} {bs : τ → Bs} {l l' : Led} {s : Shared} {h' : Heap} {tk' : Nat} (t : τ) (F : Fr h₀ L h' m') (N : News h₀ L h' l') (hb : Binds m' (bs t)) (hs : ∀ p ∈ l, p ∈ l') (k : K t) :
    MidAt h₀ L K bs l s .next { s with heap := h', toks := tk' } := ⟨rfl, t, h', tk', m', rfl, by rw [bnd_self hb.all]; exact F, fun p hp => N p (hs p hp), k⟩
omit B F X N T hk in
theorem execs_mid {τ : Type} {M : Model} {A : Around} {E : Value → Shared → Prop} {s : Shared} {st : Stmt} {rest : List Stmt} {env : Env} {Q : Flow → Shared → Prop} {h₀ : Heap} {L : Addr} {m : Str → Option Value} {l : Led} (K : τ → Prop) (bs : τ → Bs) (_ : Fr h₀ L s.heap m) (_ : News h₀ L s.heap l)
    (h1 : wpAny M A (exec st env) (MidAt h₀ L K bs l s) E s) (h2 : ∀ t h' tk' u, Fr h₀ L h' (bnd u (bs t)) → News h₀ L h' l → K t → wpAny M A (execs rest env) Q E { s with heap := h', toks := tk' }) : wpAny M A (execs (st :: rest) env) Q E s :=
  wpAny_execs_cons (wpAny_mono h1 (fun fl s' q => by obtain ⟨rfl, t, h', tk', u, rfl, F, N, k⟩ := q; exact h2 t h' tk' u F N k) fun _ _ e => e)
/-- the longer and the shorter of the two -/
structure TAdd where
  P : Nat
  R : Nat
  ux : Addr
  uy : Addr
  va : List Value
  vb : List Value
  ka : Nat
  kb : Nat
structure AddK (news : Led) (W p q : Nat) (t : TAdd) : Prop where
  ma : (t.ux, lst t.va t.ka) ∈ news
  mb : (t.uy, lst t.vb t.kb) ∈ news
  ia : IntsAre t.va (up (digs W t.P))
  ib : IntsAre t.vb (up (digs W t.R))
  la : (up (digs W t.P)).length ≤ 60
  lb : (up (digs W t.R)).length ≤ 60
  sum : t.P + t.R = p + q
  le : (digs W t.R).length ≤ (digs W t.P).length
structure SAdd where
  vs : List Value
  k : Nat
  l : List Nat
  c : Nat
  t : Tok
set_option maxHeartbeats 4000000 in
theorem add_C {x y : Addr} {vs us : List Value} {nn mm : Nat} {p q : Nat} {W : Nat} {tw : Tok} (hW : 0 < W) (hW2 : W ≤ 6) (hd1 : dp + 1 < recursionLimit) (hu : un + 8 < cLine)
    (hx : (x, lst vs nn) ∈ news) (hi : IntsAre vs (up (digs W p))) (hp : p < 2 ^ 60) (hy : (y, lst us mm) ∈ news) (hj : IntsAre us (up (digs W q))) (hq : q < 2 ^ 60)
    (ret : ∀ r h' tk' vs' k', Fr h₀ L h' m → News h₀ L h' ((r, lst vs' k') :: news) → IntsAre vs' (up (digs W (p + q))) → (∀ p ∈ news, p.1 < r) → Q (.ref r) { s with heap := h', toks := tk' }) :
    wpAny (model Challenge.rw_sj0076_01.row.prog w) (ktrTop dp un gd cn cs L a ccd cl outer) (call (.ref 60) [.ref x, .ref y, .int W tw]) Q E s := by
  have hl1 : (up (digs W p)).length ≤ 60 := by rw [up_length]; exact digs_len_le hW hp
  have hl2 : (up (digs W q)).length ≤ 60 := by rw [up_length]; exact digs_len_le hW hq
  have hwi : (0 : Int) < (W : Int) := by omega
  have hwi2 : (W : Int) ≤ 6 := by omega
  refine wpAny_call ?_
  k_dflt cell_enter
  rename News _ _ _ _ => N0
  rename Fr _ _ _ _ => F0
  refine' execs_mid (τ := TAdd) (AddK news W p q) (fun t => [(Str.ofString "a", .ref t.ux), (Str.ofString "b", .ref t.uy), (Str.ofString "w", .int W tw)]) F0 N0 ?first ?after
  case first =>
    repeat' ((fail_if_success (with_reducible show Hold _)); first | (with_reducible refine Cn.out (by assumption) ?_) | (first | (with_reducible refine Co.ret (by assumption) ?_) | (with_reducible refine Co.brk (by assumption) ?_) | (with_reducible refine Co.cont (by assumption) ?_) | (with_reducible refine Cnt.out (by assumption) ?_; (try dsimp only))) | (k_unfold; (try dsimp only)) | ((with_reducible show wpAny _ _ (execs _ _) _ _ _); (first | ((fail_if_success (with_reducible refine Cn.seen (by first | exact Or.inl (by assumption) | exact Or.inr (by assumption)) ?_)); refine Cnt.gen ?_; intro qk hqk) | (with_reducible refine execs_one ?_) | (with_reducible refine execs_cnt ?_; intro qk hqn hqo))) | (first | with_reducible refine TurnEnd.ret ?_ | with_reducible refine TurnEnd.brk ?_) | ((with_reducible show wpAny _ _ (pyIter _) _ _ _); refine Hold.intro ?_) | (k_end; wrow_close) | walk1 | (dsimp only; walk1) | (leave1; try dsimp only))
    · rename News _ _ _ _ => N3
      rename Fr _ _ _ _ => F3
      exact MidAt.mk ⟨q, p, y, x, us, vs, mm, nn⟩ F3 N3 ⟨rfl, rfl, rfl, trivial⟩ (fun p hp => by first | exact hp | exact List.mem_cons_of_mem _ hp) ⟨hy, hx, hj, hi, hl2, hl1, Nat.add_comm _ _, by rw [← up_length, ← up_length]; omega⟩
    · rename News _ _ _ _ => N3
      rename Fr _ _ _ _ => F3
      exact MidAt.mk ⟨p, q, x, y, vs, us, nn, mm⟩ F3 N3 ⟨rfl, rfl, rfl, trivial⟩ (fun p hp => by first | exact hp | exact List.mem_cons_of_mem _ hp) ⟨hx, hy, hi, hj, hl1, hl2, rfl, by rw [← up_length, ← up_length]; omega⟩
  case after =>
    clear N0 F0
    intro z90 h0 tk0 u0 F0 N0 z91
    refine hide fun G9 hG9 => ?_
    obtain ⟨hma, hmb, hia, hib, hla, hlb, hsum, hle⟩ := z91
    obtain ⟨P, R, ux, uy, va, vb, ka, kb⟩ := z90
    refine hG9 ?_
    clear hG9 G9
    dsimp only at F0 hma hmb hia hib hla hlb hsum hle
    clear hi hj hl1 hl2
    repeat' ((fail_if_success (with_reducible show Hold _)); first | (with_reducible refine Cn.out (by assumption) ?_) | (first | (with_reducible refine Co.ret (by assumption) ?_) | (with_reducible refine Co.brk (by assumption) ?_) | (with_reducible refine Co.cont (by assumption) ?_) | (with_reducible refine Cnt.out (by assumption) ?_; (try dsimp only))) | (k_unfold; (try dsimp only)) | ((with_reducible show wpAny _ _ (execs _ _) _ _ _); (first | ((fail_if_success (with_reducible refine Cn.seen (by first | exact Or.inl (by assumption) | exact Or.inr (by assumption)) ?_)); refine Cnt.gen ?_; intro qk hqk) | (with_reducible refine execs_one ?_) | (with_reducible refine execs_cnt ?_; intro qk hqn hqo))) | (first | with_reducible refine TurnEnd.ret ?_ | with_reducible refine TurnEnd.brk ?_) | ((with_reducible show wpAny _ _ (pyIter _) _ _ _); refine Hold.intro ?_) | (k_end; wrow_close) | walk1 | (dsimp only; walk1) | (leave1; try dsimp only))
    rename News _ _ _ _ => N1
    rename Fr _ _ _ _ => F1
    rename IsRange _ _ _ _ _ _ _ _ => R1
    refine name2 N1 (fun D l eD el => ?_)
    subst eD el
    refine hide fun G9 hG9 => ?_
    obtain ⟨ct0, hct, ha, hb⟩ := fr_map F1 (fun m => ∃ (ct : Tok), m (Str.ofString "carry") = some (.int ((0 : Nat) : Int) ct) ∧ m (Str.ofString "a") = some (.ref ux) ∧ m (Str.ofString "b") = some (.ref uy)) ⟨_, rfl, rfl, rfl⟩
    refine hG9 ?_
    clear hG9 G9
    have hlP : (up (digs W P)).length = (digs W P).length := up_length _
    have hlR : (up (digs W R)).length = (digs W R).length := up_length _
    refine Hold.out ?_
    refine' for_range (σ := SAdd) (digs W R).length [Str.ofString "w", Str.ofString "mask", Str.ofString "found"] (fun st => [(Str.ofString "a", .ref ux), (Str.ofString "b", .ref uy), (Str.ofString "carry", .int (st.c : Int) st.t)]) (fun st => [(l, lst st.vs st.k)])
      (fun i st => IntsAre st.vs (up st.l) ∧ Lim W st.l ∧ st.l.length = i ∧ st.c ≤ 1 ∧ nval W st.l + 2 ^ (W * i) * st.c = P % 2 ^ (W * i) + R % 2 ^ (W * i)) ⟨[], 0, [], 0, ct0⟩ news rfl R1 (by exact small_one (by omega) (by omega) (by omega) (by omega)) (by omega) F1 N1 ?hb ?hin ?hcold ?hsep ?hP ?turn ?done
    case hb => exact ⟨ha, hb, hct, trivial⟩
    case hin => exact ⟨by k_mem, trivial⟩
    case hcold => exact fun p hp => by simp only [List.mem_cons, hp, or_true]
    case hsep => exact ⟨by k_all, trivial⟩
    case hP => exact ⟨.nil, .nil, rfl, Nat.zero_le _, by simp [nval, Nat.mod_one]⟩
    case turn =>
      intro i t z90 u h tk rest hi' z91 hcold hsep F2 N2
      refine hide fun G9 hG9 => ?_
      obtain ⟨hP1, hP2, hP3, hP4, hP5⟩ := z91
      obtain ⟨fvs, fk, fl, c, ct⟩ := z90
      refine hG9 ?_
      clear hG9 G9
      have hx' := hcold _ hma
      have hy' := hcold _ hmb
      have hq9 := sep_head hsep
      clear hx hy hma hmb N N1 F1 R1
      dsimp only [List.cons_append, List.nil_append] at N2 F2 hP1 hP2 hP3 hP4 hP5
      rw [Int.zero_add] at F2
      have hfl : fvs.length = i := by rw [hP1.length, up_length]; exact hP3
      have hfl2 : fvs.toArray.size = i := hfl
      try k_fold
      repeat' ((fail_if_success (with_reducible show Hold _)); first | (with_reducible refine Cn.out (by assumption) ?_) | (first | (with_reducible refine Co.ret (by assumption) ?_) | (with_reducible refine Co.brk (by assumption) ?_) | (with_reducible refine Co.cont (by assumption) ?_) | (with_reducible refine Cnt.out (by assumption) ?_; (try dsimp only))) | (k_unfold; (try dsimp only)) | ((with_reducible show wpAny _ _ (execs _ _) _ _ _); (first | ((fail_if_success (with_reducible refine Cn.seen (by first | exact Or.inl (by assumption) | exact Or.inr (by assumption)) ?_)); refine Cnt.gen ?_; intro qk hqk) | (with_reducible refine execs_one ?_) | (with_reducible refine execs_cnt ?_; intro qk hqn hqo))) | (first | with_reducible refine TurnEnd.ret ?_ | with_reducible refine TurnEnd.brk ?_) | ((with_reducible show wpAny _ _ (pyIter _) _ _ _); refine Hold.intro ?_) | (k_end; wrow_close) | walk1 | (dsimp only; walk1) | (leave1; try dsimp only))
      obtain ⟨e1, e2⟩ := add_turn hW hP5 hP4
      have hlt := Nat.mod_lt (c + ((digs W P).getD i 0 + (digs W R).getD i 0)) (Nat.two_pow_pos W)
      rename News _ _ _ _ => N3
      rename Fr _ _ _ _ => F3
      refine TurnEnd.mk ⟨fvs ++ [_], fk + 1, fl ++ [(c + ((digs W P).getD i 0 + (digs W R).getD i 0)) % 2 ^ W], (c + ((digs W P).getD i 0 + (digs W R).getD i 0)) / 2 ^ W, _⟩ F3 N3 ⟨rfl, rfl, some_int ?_, trivial⟩ ⟨rfl, rfl, rfl, trivial⟩ ⟨mem_push List.mem_cons_self, trivial⟩ (fun p hp => List.mem_cons_of_mem _ hp) ⟨hq9, trivial⟩ ⟨Intsup.push hP1 ?_, hP2.push hlt, by simp [hP3], e2, ?_⟩
      · rw [up_getD, up_getD, Int.toNat_natCast, ← Int.natCast_add, ← Int.natCast_add, shr_nat]
      · rw [up_getD, up_getD, Int.toNat_natCast, ← Int.natCast_add, ← Int.natCast_add, and_mask]
      · dsimp only; rw [nval_push, hP3]; exact e1
    case done =>
      intro z90 u h tk z91 hsep F2 N2
      refine hide fun G9 hG9 => ?_
      obtain ⟨hP1, hP2, hP3, hP4, hP5⟩ := z91
      obtain ⟨fvs, fk, fl, c, ct⟩ := z90
      refine hG9 ?_
      clear hG9 G9
      have hq9 := sep_head hsep
      clear hx hy N N1 F1 R1
      dsimp only [List.cons_append, List.nil_append] at N2 F2 hP1 hP2 hP3 hP4 hP5
      repeat' ((fail_if_success (with_reducible show Hold _)); first | (with_reducible refine Cn.out (by assumption) ?_) | (first | (with_reducible refine Co.ret (by assumption) ?_) | (with_reducible refine Co.brk (by assumption) ?_) | (with_reducible refine Co.cont (by assumption) ?_) | (with_reducible refine Cnt.out (by assumption) ?_; (try dsimp only))) | (k_unfold; (try dsimp only)) | ((with_reducible show wpAny _ _ (execs _ _) _ _ _); (first | ((fail_if_success (with_reducible refine Cn.seen (by first | exact Or.inl (by assumption) | exact Or.inr (by assumption)) ?_)); refine Cnt.gen ?_; intro qk hqk) | (with_reducible refine execs_one ?_) | (with_reducible refine execs_cnt ?_; intro qk hqn hqo))) | (first | with_reducible refine TurnEnd.ret ?_ | with_reducible refine TurnEnd.brk ?_) | ((with_reducible show wpAny _ _ (pyIter _) _ _ _); refine Hold.intro ?_) | (k_end; wrow_close) | walk1 | (dsimp only; walk1) | (leave1; try dsimp only))
      rename News _ _ _ _ => N1
      rename Fr _ _ _ _ => F1
      rename IsRange _ _ _ _ _ _ _ _ => R1
      refine Hold.out ?_
      refine' for_range (σ := SAdd) ((digs W P).length - (digs W R).length) [Str.ofString "w", Str.ofString "mask", Str.ofString "found", Str.ofString "a"] (fun st => [(Str.ofString "carry", .int (st.c : Int) st.t)]) (fun st => [(l, lst st.vs st.k)])
        (fun i st => IntsAre st.vs (up st.l) ∧ Lim W st.l ∧ st.l.length = (digs W R).length + i ∧ st.c ≤ 1 ∧ nval W st.l + 2 ^ (W * ((digs W R).length + i)) * st.c = P % 2 ^ (W * ((digs W R).length + i)) + R) ⟨fvs, fk, fl, c, ct⟩ news rfl R1 (by exact small_one (by omega) (by omega) (by omega) (by omega)) (by omega) F1 N1 ?hb ?hin ?hcold ?hsep ?hP ?turn ?done
      case hb => exact ⟨rfl, trivial⟩
      case hin => exact ⟨by k_mem, trivial⟩
      case hcold => exact fun p hp => by simp only [List.mem_cons, hp, or_true]
      case hsep => exact ⟨hq9, trivial⟩
      case hP =>
        refine ⟨hP1, hP2, hP3, hP4, ?_⟩
        rw [Nat.mod_eq_of_lt (digs_lt hW R)] at hP5
        exact hP5
      case turn =>
        clear hP1 hP2 hP3 hP4 hP5 hq9 N1 F1 R1 hsep
        intro i t z90 u h tk rest hi' z91 hcold hsep F2 N2
        refine hide fun G9 hG9 => ?_
        obtain ⟨hP1, hP2, hP3, hP4, hP5⟩ := z91
        obtain ⟨gvs, gk, gl, c2, ct2⟩ := z90
        refine hG9 ?_
        clear hG9 G9
        have hx' := hcold _ hma
        have hq8 := sep_head hsep
        clear hma hmb
        dsimp only [List.cons_append, List.nil_append] at N2 F2 hP1 hP2 hP3 hP4 hP5
        have hfl : gvs.length = (digs W R).length + i := by rw [hP1.length, up_length]; exact hP3
        have hfl2 : gvs.toArray.size = (digs W R).length + i := hfl
        have eidx : ((((up (digs W R)).length : Nat) : Int) + (i : Int)) = (((digs W R).length + i : Nat) : Int) := by rw [hlR]; omega
        rw [eidx] at F2
        try k_fold
        repeat' ((fail_if_success (with_reducible show Hold _)); first | (with_reducible refine Cn.out (by assumption) ?_) | (first | (with_reducible refine Co.ret (by assumption) ?_) | (with_reducible refine Co.brk (by assumption) ?_) | (with_reducible refine Co.cont (by assumption) ?_) | (with_reducible refine Cnt.out (by assumption) ?_; (try dsimp only))) | (k_unfold; (try dsimp only)) | ((with_reducible show wpAny _ _ (execs _ _) _ _ _); (first | ((fail_if_success (with_reducible refine Cn.seen (by first | exact Or.inl (by assumption) | exact Or.inr (by assumption)) ?_)); refine Cnt.gen ?_; intro qk hqk) | (with_reducible refine execs_one ?_) | (with_reducible refine execs_cnt ?_; intro qk hqn hqo))) | (first | with_reducible refine TurnEnd.ret ?_ | with_reducible refine TurnEnd.brk ?_) | ((with_reducible show wpAny _ _ (pyIter _) _ _ _); refine Hold.intro ?_) | (k_end; wrow_close) | walk1 | (dsimp only; walk1) | (leave1; try dsimp only))
        obtain ⟨e1, e2⟩ := add_turn2 hW hP5 hP4
        have hlt := Nat.mod_lt (c2 + (digs W P).getD ((digs W R).length + i) 0) (Nat.two_pow_pos W)
        rename News _ _ _ _ => N3
        rename Fr _ _ _ _ => F3
        refine TurnEnd.mk ⟨gvs ++ [_], gk + 1, gl ++ [(c2 + (digs W P).getD ((digs W R).length + i) 0) % 2 ^ W], (c2 + (digs W P).getD ((digs W R).length + i) 0) / 2 ^ W, _⟩ F3 N3 ⟨some_int ?_, trivial⟩ ⟨rfl, rfl, rfl, rfl, trivial⟩ ⟨mem_push List.mem_cons_self, trivial⟩ (fun p hp => List.mem_cons_of_mem _ hp) ⟨hq8, trivial⟩ ⟨Intsup.push hP1 ?_, hP2.push hlt, by simp [hP3]; omega, e2, ?_⟩
        · rw [up_getD, Int.toNat_natCast, ← Int.natCast_add, shr_nat]
        · rw [up_getD, Int.toNat_natCast, ← Int.natCast_add, and_mask]
        · dsimp only; rw [nval_push, hP3]; exact e1
      case done =>
        clear hP1 hP2 hP3 hP4 hP5 hq9 N1 F1 R1 hsep
        intro z90 u h tk z91 hsep F2 N2
        refine hide fun G9 hG9 => ?_
        obtain ⟨hP1, hP2, hP3, hP4, hP5⟩ := z91
        obtain ⟨gvs, gk, gl, c2, ct2⟩ := z90
        refine hG9 ?_
        clear hG9 G9
        have hq8 := sep_head hsep
        clear hma hmb
        dsimp only [List.cons_append, List.nil_append] at N2 F2 hP1 hP2 hP3 hP4 hP5
        have e9 : (digs W R).length + ((digs W P).length - (digs W R).length) = (digs W P).length := by omega
        rw [e9] at hP3 hP5
        rw [Nat.mod_eq_of_lt (digs_lt hW P)] at hP5
        have hfl : gvs.length = (digs W P).length := by rw [hP1.length, up_length]; exact hP3
        have hfl2 : gvs.toArray.size = (digs W P).length := hfl
        obtain ⟨f1, f2⟩ := add_end hW hP2 hP3 hP4 hP5
        rw [hsum] at f1 f2
        repeat' ((fail_if_success (with_reducible show Hold _)); first | (with_reducible refine Cn.out (by assumption) ?_) | (first | (with_reducible refine Co.ret (by assumption) ?_) | (with_reducible refine Co.brk (by assumption) ?_) | (with_reducible refine Co.cont (by assumption) ?_) | (with_reducible refine Cnt.out (by assumption) ?_; (try dsimp only))) | (k_unfold; (try dsimp only)) | ((with_reducible show wpAny _ _ (execs _ _) _ _ _); (first | ((fail_if_success (with_reducible refine Cn.seen (by first | exact Or.inl (by assumption) | exact Or.inr (by assumption)) ?_)); refine Cnt.gen ?_; intro qk hqk) | (with_reducible refine execs_one ?_) | (with_reducible refine execs_cnt ?_; intro qk hqn hqo))) | (first | with_reducible refine TurnEnd.ret ?_ | with_reducible refine TurnEnd.brk ?_) | ((with_reducible show wpAny _ _ (pyIter _) _ _ _); refine Hold.intro ?_) | (k_end; wrow_close) | walk1 | (dsimp only; walk1) | (leave1; try dsimp only))
        · rename News _ _ _ _ => N3
          rename Fr _ _ _ _ => F3
          refine ret _ _ _ _ _ F3 (news_push N3) ?_ (by ktr_rel)
          rw [← f1 (by omega)]
          exact Intsup.push hP1 rfl
        · rename News _ _ _ _ => N3
          rename Fr _ _ _ _ => F3
          refine ret _ _ _ _ _ F3 N3 ?_ (by ktr_rel)
          rw [← f2 (by omega)]
          exact hP1
end
section
variable {w : World} {mean : ExcName → Option Value} {mg mb : Str → Option Value}
  {dp un : Nat} {gd : Option (List Code)} {cn : Str} {cs : Scope} {a : Addr} {ccd : Value} {cl : List (Str × Addr)} {outer : List Env} {A₀ : Around} {base h₀ : Heap} {L : Addr} {m : Str → Option Value} {news : Led} {s : Shared}
  {Q E : Value → Shared → Prop}
  (B : Below A₀ base outer h₀) (F : Fr h₀ L s.heap m) (X : (hd.heap_39 w.params).In h₀) (N : News h₀ L s.heap news) (T : Top hd.view_39 (looseW hd.view_39 []) mean mg mb h₀) (hk : cs.kind = .function)
include B F X N T hk
omit B F X N T hk in
theorem sub_turn {W p q i c v : Nat} (hW : 0 < W) (hv : v + q % 2 ^ (W * i) = p % 2 ^ (W * i) + 2 ^ (W * i) * c) (hc : c ≤ 1) :
    ((((digs W p).getD i 0 : Nat) : Int) - (c : Int) - (((digs W q).getD i 0 : Nat) : Int) < 0 → ∃ d : Nat, (d : Int) = (((digs W p).getD i 0 : Nat) : Int) - (c : Int) - (((digs W q).getD i 0 : Nat) : Int) + ((2 ^ W : Nat) : Int) ∧ d < 2 ^ W ∧
      v + 2 ^ (W * i) * d + q % 2 ^ (W * (i + 1)) = p % 2 ^ (W * (i + 1)) + 2 ^ (W * (i + 1)) * 1) ∧
    (¬ (((digs W p).getD i 0 : Nat) : Int) - (c : Int) - (((digs W q).getD i 0 : Nat) : Int) < 0 → ∃ d : Nat, (d : Int) = (((digs W p).getD i 0 : Nat) : Int) - (c : Int) - (((digs W q).getD i 0 : Nat) : Int) ∧ d < 2 ^ W ∧
      v + 2 ^ (W * i) * d + q % 2 ^ (W * (i + 1)) = p % 2 ^ (W * (i + 1)) + 2 ^ (W * (i + 1)) * 0) := by
  have hp := (lim_digs hW p).getD i
  have hq := (lim_digs hW q).getD i
  rw [mod_succ p, mod_succ q, ← getD_digs hW p i, ← getD_digs hW q i]
  generalize (digs W p).getD i 0 = x at *
  generalize (digs W q).getD i 0 = y at *
  have e : 2 ^ (W * (i + 1)) = 2 ^ (W * i) * 2 ^ W := by rw [Nat.mul_add, Nat.mul_one, Nat.pow_add]
  rw [e]
  generalize 2 ^ (W * i) = K at *
  generalize 2 ^ W = M at *
  constructor
  · intro h
    refine ⟨x + M - c - y, by omega, by omega, ?_⟩
    have e2 : x + M - c - y + c + y = x + M := by omega
    have e3 := congrArg (K * ·) e2
    simp only [Nat.mul_add] at e3
    omega
  · intro h
    refine ⟨x - c - y, by omega, by omega, ?_⟩
    have e2 : x - c - y + c + y = x := by omega
    have e3 := congrArg (K * ·) e2
    simp only [Nat.mul_add] at e3
    omega
omit B F X N T hk in
theorem sub_end {W p q c : Nat} {fl : List Nat} (hW : 0 < W) (hl : Lim W fl) (hlen : fl.length = (digs W p).length) (hqp : q ≤ p) (hv : nval W fl + q % 2 ^ (W * (digs W p).length) = p % 2 ^ (W * (digs W p).length) + 2 ^ (W * (digs W p).length) * c) (hc : c ≤ 1) : nval W fl = p - q := by
  have h1 := digs_lt hW p
  rw [Nat.mod_eq_of_lt h1, Nat.mod_eq_of_lt (Nat.lt_of_le_of_lt hqp h1)] at hv
  have h2 := nval_lt hl
  rw [hlen] at h2
  by_cases h0 : c = 0
  · subst h0; omega
  · have : c = 1 := by omega
    subst this
    omega
structure SSub where
  vs : List Value
  k : Nat
  l : List Nat
  c : Nat
  t : Tok
set_option maxHeartbeats 4000000 in
theorem sub_C {x y : Addr} {vs us : List Value} {nn mm : Nat} {p q : Nat} {W : Nat} {tw : Tok} (hW : 0 < W) (hW2 : W ≤ 6) (hd1 : dp + 2 < recursionLimit) (hu : un + 11 < cLine)
    (hx : (x, lst vs nn) ∈ news) (hi : IntsAre vs (up (digs W p))) (hp : p < 2 ^ 60) (hy : (y, lst us mm) ∈ news) (hj : IntsAre us (up (digs W q))) (hq : q < 2 ^ 60) (hqp : q ≤ p)
    (ret : ∀ r h' tk' vs' k', Fr h₀ L h' m → News h₀ L h' ((r, lst vs' k') :: news) → IntsAre vs' (up (digs W (p - q))) → (∀ p ∈ news, p.1 < r) → Q (.ref r) { s with heap := h', toks := tk' }) :
    wpAny (model Challenge.rw_sj0076_01.row.prog w) (ktrTop dp un gd cn cs L a ccd cl outer) (call (.ref 67) [.ref x, .ref y, .int W tw]) Q E s := by
  have hl1 : (up (digs W p)).length ≤ 60 := by rw [up_length]; exact digs_len_le hW hp
  have hl2 : (up (digs W q)).length ≤ 60 := by rw [up_length]; exact digs_len_le hW hq
  have hlP : (up (digs W p)).length = (digs W p).length := up_length _
  have hlR : (up (digs W q)).length = (digs W q).length := up_length _
  have hwi : (0 : Int) < (W : Int) := by omega
  have hwi2 : (W : Int) ≤ 6 := by omega
  have hcmp : ¬ cmpN p q < 0 := by unfold cmpN; split <;> (try split) <;> omega
  refine wpAny_call ?_
  k_dflt cell_enter
  repeat' ((fail_if_success (with_reducible show Hold _)); first | (with_reducible refine Cn.out (by assumption) ?_) | (first | (with_reducible refine Co.ret (by assumption) ?_) | (with_reducible refine Co.brk (by assumption) ?_) | (with_reducible refine Co.cont (by assumption) ?_) | (with_reducible refine Cnt.out (by assumption) ?_; (try dsimp only))) | (k_unfold; (try dsimp only)) | ((with_reducible show wpAny _ _ (execs _ _) _ _ _); (first | ((fail_if_success (with_reducible refine Cn.seen (by first | exact Or.inl (by assumption) | exact Or.inr (by assumption)) ?_)); refine Cnt.gen ?_; intro qk hqk) | (with_reducible refine execs_one ?_) | (with_reducible refine execs_cnt ?_; intro qk hqn hqo))) | (k_here; (with_reducible show wpAny _ _ (binaryOp Operator.Mod (Value.int (Nat.cast _) _) (Value.int (Nat.cast _) _)) _ _ _); k_dflt (refine' mod_nat ?a ?_; (case a => omega); k_whole)) | (k_here; (with_reducible show wpAny _ _ (binaryOp Operator.FloorDiv (Value.int (Nat.cast _) _) (Value.int (Nat.cast _) _)) _ _ _); k_dflt (refine' floordiv_nat ?a ?b ?_; (case a => omega); (case b => omega); k_whole)) | (k_here; (with_reducible show wpAny _ _ (binaryOp Operator.Mult (Value.ref _) (Value.int _ _)) _ _ _); k_dflt (refine' zeros_C ?F ?N ?l ?a ?b ?_; (case F => k_asm); (case N => k_asm); (case l => k_mem); (case a => first | exact Int.natCast_nonneg _ | omega); (case b => omega); k_whole); intro r' h' vs' F' N' I' l1; (try k_lt l1); (try k_sweep)) | (k_here; (with_reducible show wpAny _ _ (call (Value.ref 53) _ _) _ _ _); k_dflt (refine' compare_C ?k1 ?k2 ?k3 ?k4 ?k5 ?k6 ?k7 ?k8 ?k9 ?m1 ?i1 ?p1 ?m2 ?i2 ?p2 ?_; (case k1 => k_asm); (case k2 => k_asm); (case k3 => k_asm); (case k4 => k_asm); (case k5 => k_asm); (case k6 => first | exact rfl | assumption); (case m1 => k_mem); (case i1 => l_ints); (case p1 => kst_p2); (case m2 => k_mem); (case i2 => l_ints); (case p2 => kst_p2); (case k7 => assumption); (case k8 => ktr_room); (case k9 => ktr_units); k_whole; intro t' h' tk' F' N'; (try k_sweep))) | (k_here; (with_reducible show wpAny _ _ (call (Value.ref 46) _ _) _ _ _); k_dflt (refine' normal_C ?k1 ?k2 ?k3 ?k4 ?k5 ?k6 ?k7 ?k8 ?k9 ?m1 ?i1 ?p1 ?p2 ?_; (case k1 => k_asm); (case k2 => k_asm); (case k3 => k_asm); (case k4 => k_asm); (case k5 => k_asm); (case k6 => first | exact rfl | assumption); (case m1 => k_mem); (case i1 => l_ints); (case p1 => assumption); (case p2 => kst_p2); (case k7 => assumption); (case k8 => ktr_room); (case k9 => ktr_units); k_whole; intro r' h' tk' vs' F' N' I' l1; (try k_lt l1); (try k_sweep))) | (first | with_reducible refine TurnEnd.ret ?_ | with_reducible refine TurnEnd.brk ?_) | ((with_reducible show wpAny _ _ (pyIter _) _ _ _); refine Hold.intro ?_) | (k_end; wrow_close) | walk1 | (dsimp only; walk1) | (leave1; try dsimp only))
  rename News _ _ _ _ => N1
  rename Fr _ _ _ _ => F1
  rename IsRange _ _ _ _ _ _ _ _ => R1
  refine name2 N1 (fun D l eD el => ?_)
  subst eD el
  refine Hold.out ?_
  obtain ⟨ct0, hct⟩ := fr_rng F1 R1 (fun m _ => ∃ ct : Tok, m (Str.ofString "borrow") = some (.int ((0 : Nat) : Int) ct)) ⟨_, rfl⟩
  refine' for_range (σ := SSub) (digs W p).length [Str.ofString "a", Str.ofString "b", Str.ofString "w", Str.ofString "base", Str.ofString "found"] (fun st => [(Str.ofString "borrow", .int (st.c : Int) st.t)]) (fun st => [(l, lst st.vs st.k)])
    (fun i st => IntsAre st.vs (up st.l) ∧ Lim W st.l ∧ st.l.length = i ∧ st.c ≤ 1 ∧ nval W st.l + q % 2 ^ (W * i) = p % 2 ^ (W * i) + 2 ^ (W * i) * st.c) ⟨[], 0, [], 0, ct0⟩ news rfl R1 (by exact small_one (by omega) (by omega) (by omega) (by omega)) (by omega) F1 N1 ?hb ?hin ?hcold ?hsep ?hP ?turn ?done
  case hb => exact ⟨hct, trivial⟩
  case hin => exact ⟨by k_mem, trivial⟩
  case hcold => exact fun p hp => by simp only [List.mem_cons, hp, or_true]
  case hsep => exact ⟨by k_all, trivial⟩
  case hP => exact ⟨.nil, .nil, rfl, Nat.zero_le _, by simp [nval, Nat.mod_one]⟩
  case turn =>
    intro i t z90 u h tk rest hi' z91 hcold hsep F2 N2
    refine hide fun G9 hG9 => ?_
    obtain ⟨hP1, hP2, hP3, hP4, hP5⟩ := z91
    obtain ⟨fvs, fk, fl, c, ct⟩ := z90
    refine hG9 ?_
    clear hG9 G9
    have hx' := hcold _ hx
    have hy' := hcold _ hy
    have hq9 := sep_head hsep
    clear hx hy N N1 F1 R1
    dsimp only [List.cons_append, List.nil_append] at N2 F2 hP1 hP2 hP3 hP4 hP5
    rw [Int.zero_add] at F2
    have hfl : fvs.length = i := by rw [hP1.length, up_length]; exact hP3
    have hfl2 : fvs.toArray.size = i := hfl
    try k_fold
    repeat' ((fail_if_success (with_reducible show Hold _)); first | (with_reducible refine Cn.out (by assumption) ?_) | (first | (with_reducible refine Co.ret (by assumption) ?_) | (with_reducible refine Co.brk (by assumption) ?_) | (with_reducible refine Co.cont (by assumption) ?_) | (with_reducible refine Cnt.out (by assumption) ?_; (try dsimp only))) | (k_unfold; (try dsimp only)) | ((with_reducible show wpAny _ _ (execs _ _) _ _ _); (first | ((fail_if_success (with_reducible refine Cn.seen (by first | exact Or.inl (by assumption) | exact Or.inr (by assumption)) ?_)); refine Cnt.gen ?_; intro qk hqk) | (with_reducible refine execs_one ?_) | (with_reducible refine execs_cnt ?_; intro qk hqn hqo))) | (k_here; (with_reducible show wpAny _ _ (binaryOp Operator.Mod (Value.int (Nat.cast _) _) (Value.int (Nat.cast _) _)) _ _ _); k_dflt (refine' mod_nat ?a ?_; (case a => omega); k_whole)) | (k_here; (with_reducible show wpAny _ _ (binaryOp Operator.FloorDiv (Value.int (Nat.cast _) _) (Value.int (Nat.cast _) _)) _ _ _); k_dflt (refine' floordiv_nat ?a ?b ?_; (case a => omega); (case b => omega); k_whole)) | (k_here; (with_reducible show wpAny _ _ (binaryOp Operator.Mult (Value.ref _) (Value.int _ _)) _ _ _); k_dflt (refine' zeros_C ?F ?N ?l ?a ?b ?_; (case F => k_asm); (case N => k_asm); (case l => k_mem); (case a => first | exact Int.natCast_nonneg _ | omega); (case b => omega); k_whole); intro r' h' vs' F' N' I' l1; (try k_lt l1); (try k_sweep)) | (k_here; (with_reducible show wpAny _ _ (call (Value.ref 53) _ _) _ _ _); k_dflt (refine' compare_C ?k1 ?k2 ?k3 ?k4 ?k5 ?k6 ?k7 ?k8 ?k9 ?m1 ?i1 ?p1 ?m2 ?i2 ?p2 ?_; (case k1 => k_asm); (case k2 => k_asm); (case k3 => k_asm); (case k4 => k_asm); (case k5 => k_asm); (case k6 => first | exact rfl | assumption); (case m1 => k_mem); (case i1 => l_ints); (case p1 => kst_p2); (case m2 => k_mem); (case i2 => l_ints); (case p2 => kst_p2); (case k7 => assumption); (case k8 => ktr_room); (case k9 => ktr_units); k_whole; intro t' h' tk' F' N'; (try k_sweep))) | (k_here; (with_reducible show wpAny _ _ (call (Value.ref 46) _ _) _ _ _); k_dflt (refine' normal_C ?k1 ?k2 ?k3 ?k4 ?k5 ?k6 ?k7 ?k8 ?k9 ?m1 ?i1 ?p1 ?p2 ?_; (case k1 => k_asm); (case k2 => k_asm); (case k3 => k_asm); (case k4 => k_asm); (case k5 => k_asm); (case k6 => first | exact rfl | assumption); (case m1 => k_mem); (case i1 => l_ints); (case p1 => assumption); (case p2 => kst_p2); (case k7 => assumption); (case k8 => ktr_room); (case k9 => ktr_units); k_whole; intro r' h' tk' vs' F' N' I' l1; (try k_lt l1); (try k_sweep))) | (first | with_reducible refine TurnEnd.ret ?_ | with_reducible refine TurnEnd.brk ?_) | ((with_reducible show wpAny _ _ (pyIter _) _ _ _); refine Hold.intro ?_) | (k_end; wrow_close) | walk1 | (dsimp only; walk1) | (leave1; try dsimp only))
    all_goals (
      rename News _ _ _ _ => N3
      rename Fr _ _ _ _ => F3)
    · have h9 : (((digs W p).getD i 0 : Nat) : Int) - (c : Int) - (((digs W q).getD i 0 : Nat) : Int) < 0 := by
        have h8 := ‹(up (digs W p)).getD (i : Int).toNat 0 - (c : Int) - (up (digs W q)).getD (i : Int).toNat 0 < 0›
        simpa only [up_getD, Int.toNat_natCast] using h8
      refine hide fun G9 hG9 => ?_
      obtain ⟨d, e1, e2, e3⟩ := (sub_turn hW hP5 hP4).1 h9
      refine hG9 ?_
      clear hG9 G9
      refine TurnEnd.mk ⟨fvs ++ [_], fk + 1, fl ++ [d], 1, _⟩ F3 N3 ⟨rfl, trivial⟩ ⟨rfl, rfl, rfl, rfl, rfl, trivial⟩ ⟨mem_push List.mem_cons_self, trivial⟩ (fun p hp => List.mem_cons_of_mem _ hp) ⟨hq9, trivial⟩ ⟨Intsup.push hP1 ?_, hP2.push e2, by simp [hP3], Nat.le_refl _, ?_⟩
      · simp only [up_getD, Int.toNat_natCast, Int.one_mul, ← cast_pow]; omega
      · dsimp only; rw [nval_push, hP3]; exact e3
    · have h9 : ¬ (((digs W p).getD i 0 : Nat) : Int) - (c : Int) - (((digs W q).getD i 0 : Nat) : Int) < 0 := by
        have h8 := ‹¬ (up (digs W p)).getD (i : Int).toNat 0 - (c : Int) - (up (digs W q)).getD (i : Int).toNat 0 < 0›
        simpa only [up_getD, Int.toNat_natCast] using h8
      refine hide fun G9 hG9 => ?_
      obtain ⟨d, e1, e2, e3⟩ := (sub_turn hW hP5 hP4).2 h9
      refine hG9 ?_
      clear hG9 G9
      refine TurnEnd.mk ⟨fvs ++ [_], fk + 1, fl ++ [d], 0, _⟩ F3 N3 ⟨rfl, trivial⟩ ⟨rfl, rfl, rfl, rfl, rfl, trivial⟩ ⟨mem_push List.mem_cons_self, trivial⟩ (fun p hp => List.mem_cons_of_mem _ hp) ⟨hq9, trivial⟩ ⟨Intsup.push hP1 ?_, hP2.push e2, by simp [hP3], Nat.zero_le _, ?_⟩
      · simp only [up_getD, Int.toNat_natCast]; omega
      · dsimp only; rw [nval_push, hP3]; exact e3
    · have hb0 : (digs W q).getD i 0 = 0 := by
        have h8 := ‹¬ (i : Int) < (((up (digs W q)).length : Nat) : Int)›
        exact getD_beyond (by omega)
      have h9 : (((digs W p).getD i 0 : Nat) : Int) - (c : Int) - (((digs W q).getD i 0 : Nat) : Int) < 0 := by
        have h8 := ‹(up (digs W p)).getD (i : Int).toNat 0 - (c : Int) - 0 < 0›
        simp only [up_getD, Int.toNat_natCast] at h8
        rw [hb0]
        exact h8
      refine hide fun G9 hG9 => ?_
      obtain ⟨d, e1, e2, e3⟩ := (sub_turn hW hP5 hP4).1 h9
      refine hG9 ?_
      clear hG9 G9
      refine TurnEnd.mk ⟨fvs ++ [_], fk + 1, fl ++ [d], 1, _⟩ F3 N3 ⟨rfl, trivial⟩ ⟨rfl, rfl, rfl, rfl, rfl, trivial⟩ ⟨mem_push List.mem_cons_self, trivial⟩ (fun p hp => List.mem_cons_of_mem _ hp) ⟨hq9, trivial⟩ ⟨Intsup.push hP1 ?_, hP2.push e2, by simp [hP3], Nat.le_refl _, ?_⟩
      · simp only [up_getD, Int.toNat_natCast, Int.one_mul, ← cast_pow]; omega
      · dsimp only; rw [nval_push, hP3]; exact e3
    · have hb0 : (digs W q).getD i 0 = 0 := by
        have h8 := ‹¬ (i : Int) < (((up (digs W q)).length : Nat) : Int)›
        exact getD_beyond (by omega)
      have h9 : ¬ (((digs W p).getD i 0 : Nat) : Int) - (c : Int) - (((digs W q).getD i 0 : Nat) : Int) < 0 := by
        have h8 := ‹¬ (up (digs W p)).getD (i : Int).toNat 0 - (c : Int) - 0 < 0›
        simp only [up_getD, Int.toNat_natCast] at h8
        rw [hb0]
        exact h8
      refine hide fun G9 hG9 => ?_
      obtain ⟨d, e1, e2, e3⟩ := (sub_turn hW hP5 hP4).2 h9
      refine hG9 ?_
      clear hG9 G9
      refine TurnEnd.mk ⟨fvs ++ [_], fk + 1, fl ++ [d], 0, _⟩ F3 N3 ⟨rfl, trivial⟩ ⟨rfl, rfl, rfl, rfl, rfl, trivial⟩ ⟨mem_push List.mem_cons_self, trivial⟩ (fun p hp => List.mem_cons_of_mem _ hp) ⟨hq9, trivial⟩ ⟨Intsup.push hP1 ?_, hP2.push e2, by simp [hP3], Nat.zero_le _, ?_⟩
      · simp only [up_getD, Int.toNat_natCast]; omega
      · dsimp only; rw [nval_push, hP3]; exact e3
  case done =>
    intro z90 u h tk z91 hsep F2 N2
    refine hide fun G9 hG9 => ?_
    obtain ⟨hP1, hP2, hP3, hP4, hP5⟩ := z91
    obtain ⟨fvs, fk, fl, c, ct⟩ := z90
    refine hG9 ?_
    clear hG9 G9
    have hq9 := sep_head hsep
    clear hx hy N N1 F1 R1
    dsimp only [List.cons_append, List.nil_append] at N2 F2 hP1 hP2 hP3 hP4 hP5
    have hfl : fvs.length = (digs W p).length := by rw [hP1.length, up_length]; exact hP3
    have hfl2 : fl.length ≤ 100 := by omega
    have hv := sub_end hW hP2 hP3 hqp hP5 hP4
    repeat' ((fail_if_success (with_reducible show Hold _)); first | (with_reducible refine Cn.out (by assumption) ?_) | (first | (with_reducible refine Co.ret (by assumption) ?_) | (with_reducible refine Co.brk (by assumption) ?_) | (with_reducible refine Co.cont (by assumption) ?_) | (with_reducible refine Cnt.out (by assumption) ?_; (try dsimp only))) | (k_unfold; (try dsimp only)) | ((with_reducible show wpAny _ _ (execs _ _) _ _ _); (first | ((fail_if_success (with_reducible refine Cn.seen (by first | exact Or.inl (by assumption) | exact Or.inr (by assumption)) ?_)); refine Cnt.gen ?_; intro qk hqk) | (with_reducible refine execs_one ?_) | (with_reducible refine execs_cnt ?_; intro qk hqn hqo))) | (k_here; (with_reducible show wpAny _ _ (binaryOp Operator.Mod (Value.int (Nat.cast _) _) (Value.int (Nat.cast _) _)) _ _ _); k_dflt (refine' mod_nat ?a ?_; (case a => omega); k_whole)) | (k_here; (with_reducible show wpAny _ _ (binaryOp Operator.FloorDiv (Value.int (Nat.cast _) _) (Value.int (Nat.cast _) _)) _ _ _); k_dflt (refine' floordiv_nat ?a ?b ?_; (case a => omega); (case b => omega); k_whole)) | (k_here; (with_reducible show wpAny _ _ (binaryOp Operator.Mult (Value.ref _) (Value.int _ _)) _ _ _); k_dflt (refine' zeros_C ?F ?N ?l ?a ?b ?_; (case F => k_asm); (case N => k_asm); (case l => k_mem); (case a => first | exact Int.natCast_nonneg _ | omega); (case b => omega); k_whole); intro r' h' vs' F' N' I' l1; (try k_lt l1); (try k_sweep)) | (k_here; (with_reducible show wpAny _ _ (call (Value.ref 53) _ _) _ _ _); k_dflt (refine' compare_C ?k1 ?k2 ?k3 ?k4 ?k5 ?k6 ?k7 ?k8 ?k9 ?m1 ?i1 ?p1 ?m2 ?i2 ?p2 ?_; (case k1 => k_asm); (case k2 => k_asm); (case k3 => k_asm); (case k4 => k_asm); (case k5 => k_asm); (case k6 => first | exact rfl | assumption); (case m1 => k_mem); (case i1 => l_ints); (case p1 => kst_p2); (case m2 => k_mem); (case i2 => l_ints); (case p2 => kst_p2); (case k7 => assumption); (case k8 => ktr_room); (case k9 => ktr_units); k_whole; intro t' h' tk' F' N'; (try k_sweep))) | (k_here; (with_reducible show wpAny _ _ (call (Value.ref 46) _ _) _ _ _); k_dflt (refine' normal_C ?k1 ?k2 ?k3 ?k4 ?k5 ?k6 ?k7 ?k8 ?k9 ?m1 ?i1 ?p1 ?p2 ?_; (case k1 => k_asm); (case k2 => k_asm); (case k3 => k_asm); (case k4 => k_asm); (case k5 => k_asm); (case k6 => first | exact rfl | assumption); (case m1 => k_mem); (case i1 => l_ints); (case p1 => assumption); (case p2 => kst_p2); (case k7 => assumption); (case k8 => ktr_room); (case k9 => ktr_units); k_whole; intro r' h' tk' vs' F' N' I' l1; (try k_lt l1); (try k_sweep))) | (first | with_reducible refine TurnEnd.ret ?_ | with_reducible refine TurnEnd.brk ?_) | ((with_reducible show wpAny _ _ (pyIter _) _ _ _); refine Hold.intro ?_) | (k_end; wrow_close) | walk1 | (dsimp only; walk1) | (leave1; try dsimp only))
    rw [hv] at *
    rename News _ _ _ _ => N3
    rename Fr _ _ _ _ => F3
    refine ret _ _ _ _ _ F3 (news_drop1 N3) ‹IntsAre _ (up (digs W (p - q)))› (by ktr_rel)
end
section
variable {w : World} {mean : ExcName → Option Value} {mg mb : Str → Option Value}
  {dp un : Nat} {gd : Option (List Code)} {cn : Str} {cs : Scope} {a : Addr} {ccd : Value} {cl : List (Str × Addr)} {outer : List Env} {A₀ : Around} {base h₀ : Heap} {L : Addr} {m : Str → Option Value} {news : Led} {s : Shared}
  {Q E : Value → Shared → Prop}
  (B : Below A₀ base outer h₀) (F : Fr h₀ L s.heap m) (X : (hd.heap_39 w.params).In h₀) (N : News h₀ L s.heap news) (T : Top hd.view_39 (looseW hd.view_39 []) mean mg mb h₀) (hk : cs.kind = .function)
include B F X N T hk
omit B F X N T hk in
theorem shl_turn {W p K f i c v : Nat} (hW : 0 < W) (hv : v + K * 2 ^ (W * i) * c = K * (p % 2 ^ (W * i)) * 2 ^ f) (hc : c < 2 ^ f) :
    v + K * 2 ^ (W * i) * ((c + (digs W p).getD i 0 * 2 ^ f) % 2 ^ W) + K * 2 ^ (W * (i + 1)) * ((c + (digs W p).getD i 0 * 2 ^ f) / 2 ^ W) = K * (p % 2 ^ (W * (i + 1))) * 2 ^ f ∧
    (c + (digs W p).getD i 0 * 2 ^ f) / 2 ^ W < 2 ^ f := by
  have hd := (lim_digs hW p).getD i
  constructor
  · rw [mod_succ p, ← getD_digs hW p i]
    generalize (digs W p).getD i 0 = x at *
    have e : K * 2 ^ (W * (i + 1)) * ((c + x * 2 ^ f) / 2 ^ W) = K * 2 ^ (W * i) * (2 ^ W * ((c + x * 2 ^ f) / 2 ^ W)) := by
      rw [Nat.mul_add W, Nat.mul_one, Nat.pow_add, Nat.mul_assoc, Nat.mul_assoc, Nat.mul_assoc]
    rw [e, Nat.add_assoc, ← Nat.mul_add, Nat.mod_add_div, Nat.mul_add, ← Nat.add_assoc, hv, Nat.mul_add K, Nat.add_mul]
    simp only [Nat.mul_assoc]
  · have h1 : c + (digs W p).getD i 0 * 2 ^ f < 2 ^ f * 2 ^ W := by
      have h2 : ((digs W p).getD i 0 + 1) * 2 ^ f ≤ 2 ^ W * 2 ^ f := Nat.mul_le_mul_right _ hd
      rw [Nat.add_mul, Nat.one_mul, Nat.mul_comm (2 ^ W)] at h2
      omega
    exact (Nat.div_lt_iff_lt_mul (Nat.two_pow_pos W)).mpr h1
omit B F X N T hk in
theorem shl_end {W p n c : Nat} {fl : List Nat} (hW : 0 < W) (hl : Lim W fl) (hp : 0 < p) (hlen : fl.length = n / W + (digs W p).length) (hc : c < 2 ^ (n % W))
    (hv : nval W fl + 2 ^ (W * (n / W)) * 2 ^ (W * (digs W p).length) * c = 2 ^ (W * (n / W)) * (p % 2 ^ (W * (digs W p).length)) * 2 ^ (n % W)) :
    (0 < c → fl ++ [c] = digs W (p * 2 ^ n)) ∧ (c = 0 → fl = digs W (p * 2 ^ n)) := by
  have e : 2 ^ (W * (n / W)) * (p % 2 ^ (W * (digs W p).length)) * 2 ^ (n % W) = p * 2 ^ n := by
    rw [Nat.mod_eq_of_lt (digs_lt hW p), Nat.mul_comm _ p, Nat.mul_assoc, ← Nat.pow_add, Nat.div_add_mod]
  rw [e] at hv
  have hcW : c < 2 ^ W := Nat.lt_of_lt_of_le hc (Nat.pow_le_pow_right (by decide) (Nat.le_of_lt (Nat.mod_lt _ hW)))
  have e2 : 2 ^ (W * (n / W)) * 2 ^ (W * (digs W p).length) = 2 ^ (W * (n / W + (digs W p).length)) := by rw [← Nat.pow_add, Nat.mul_add]
  rw [e2] at hv
  constructor
  · intro h
    have hn : nval W (fl ++ [c]) = p * 2 ^ n := by rw [nval_push, hlen]; exact hv
    have := digs_of_ge hW (hl.push hcW) (fun _ => by
      rw [nval_push, List.length_append, List.length_singleton, Nat.add_sub_cancel, hlen]
      have := Nat.mul_le_mul_left (2 ^ (W * (n / W + (digs W p).length))) h
      rw [Nat.mul_one] at this
      omega)
    rwa [hn] at this
  · rintro rfl
    have hn : nval W fl = p * 2 ^ n := by rw [Nat.mul_zero] at hv; omega
    have := digs_of_ge hW hl (fun hne => by
      rw [hn, hlen]
      have h1 := digs_ge hW p hp
      have h0 := (digs_len_pos hW).mpr hp
      have e3 : W * (n / W + (digs W p).length - 1) = W * ((digs W p).length - 1) + W * (n / W) := by
        rw [← Nat.mul_add]
        have e4 : n / W + (digs W p).length - 1 = (digs W p).length - 1 + n / W := by
          generalize n / W = z
          omega
        rw [e4]
      rw [e3, Nat.pow_add]
      exact Nat.mul_le_mul h1 (Nat.pow_le_pow_right (by decide) (Nat.mul_div_le _ _)))
    rwa [hn] at this
structure SShl where
  vs : List Value
  k : Nat
  l : List Nat
  c : Nat
  t : Tok
set_option maxHeartbeats 4000000 in
theorem shift_left_C {x : Addr} {vs : List Value} {nn : Nat} {p n : Nat} {W : Nat} {tw tn : Tok} (hW : 0 < W) (hW2 : W ≤ 6) (hd1 : dp + 1 < recursionLimit) (hu : un + 8 < cLine)
    (hx : (x, lst vs nn) ∈ news) (hi : IntsAre vs (up (digs W p))) (hp : p < 2 ^ 60) (hn : n ≤ 60)
    (ret : ∀ r h' tk' vs' k', Fr h₀ L h' m → News h₀ L h' ((r, lst vs' k') :: news) → IntsAre vs' (up (digs W (p * 2 ^ n))) → (∀ p ∈ news, p.1 < r) → Q (.ref r) { s with heap := h', toks := tk' }) :
    wpAny (model Challenge.rw_sj0076_01.row.prog w) (ktrTop dp un gd cn cs L a ccd cl outer) (call (.ref 74) [.ref x, .int n tn, .int W tw]) Q E s := by
  have hl1 : (up (digs W p)).length ≤ 60 := by rw [up_length]; exact digs_len_le hW hp
  have hlP : (up (digs W p)).length = (digs W p).length := up_length _
  have hwi : (0 : Int) < (W : Int) := by omega
  have hwi2 : (W : Int) ≤ 6 := by omega
  have hni : (n : Int) ≤ 60 := by omega
  have hnd : n / W ≤ 60 := Nat.le_trans (Nat.div_le_self _ _) hn
  have hnm : n % W < W := Nat.mod_lt _ hW
  have hnd0 : (0 : Int) ≤ ((n / W : Nat) : Int) := Int.natCast_nonneg _
  have hnm0 : (0 : Int) ≤ ((n % W : Nat) : Int) := Int.natCast_nonneg _
  refine wpAny_call ?_
  k_dflt cell_enter
  repeat' ((fail_if_success (with_reducible show Hold _)); first | (with_reducible refine Cn.out (by assumption) ?_) | (first | (with_reducible refine Co.ret (by assumption) ?_) | (with_reducible refine Co.brk (by assumption) ?_) | (with_reducible refine Co.cont (by assumption) ?_) | (with_reducible refine Cnt.out (by assumption) ?_; (try dsimp only))) | (k_unfold; (try dsimp only)) | ((with_reducible show wpAny _ _ (execs _ _) _ _ _); (first | ((fail_if_success (with_reducible refine Cn.seen (by first | exact Or.inl (by assumption) | exact Or.inr (by assumption)) ?_)); refine Cnt.gen ?_; intro qk hqk) | (with_reducible refine execs_one ?_) | (with_reducible refine execs_cnt ?_; intro qk hqn hqo))) | (k_here; (with_reducible show wpAny _ _ (binaryOp Operator.Mod (Value.int (Nat.cast _) _) (Value.int (Nat.cast _) _)) _ _ _); k_dflt (refine' mod_nat ?a ?_; (case a => omega); k_whole)) | (k_here; (with_reducible show wpAny _ _ (binaryOp Operator.FloorDiv (Value.int (Nat.cast _) _) (Value.int (Nat.cast _) _)) _ _ _); k_dflt (refine' floordiv_nat ?a ?b ?_; (case a => omega); (case b => omega); k_whole)) | (k_here; (with_reducible show wpAny _ _ (binaryOp Operator.Mult (Value.ref _) (Value.int _ _)) _ _ _); k_dflt (refine' zeros_C ?F ?N ?l ?a ?b ?_; (case F => k_asm); (case N => k_asm); (case l => k_mem); (case a => first | exact Int.natCast_nonneg _ | omega); (case b => omega); k_whole); intro r' h' vs' F' N' I' l1; (try k_lt l1); (try k_sweep)) | (first | with_reducible refine TurnEnd.ret ?_ | with_reducible refine TurnEnd.brk ?_) | ((with_reducible show wpAny _ _ (pyIter _) _ _ _); refine Hold.intro ?_) | (k_end; wrow_close) | walk1 | (dsimp only; walk1) | (leave1; try dsimp only))
  · have h0 : p = 0 := by
      have h8 := ‹(((up (digs W p)).length : Nat) : Int) = 0›
      apply (digs_eq_nil hW).mp
      exact List.eq_nil_of_length_eq_zero (by omega)
    rename News _ _ _ _ => N3
    rename Fr _ _ _ _ => F3
    refine ret _ _ _ [] 0 F3 N3 ?_ (by ktr_rel)
    rw [h0, Nat.zero_mul, digs_zero]
    exact .nil
  · have h0 : 0 < p := by
      have h8 := ‹(((up (digs W p)).length : Nat) : Int) ≠ 0›
      apply (digs_len_pos hW).mp
      omega
    rename News _ _ _ _ => N1
    rename Fr _ _ _ _ => F1
    refine name2 N1 (fun D l eD el => ?_)
    subst eD el
    have I1 := ‹IntsAre _ (up (List.replicate _ 0))›
    refine nameI I1 (fun zs ez => ?_)
    subst ez
    rw [Int.toNat_natCast] at I1
    refine Hold.out ?_
    obtain ⟨ct0, hct⟩ := fr_map F1 (fun m => ∃ ct : Tok, m (Str.ofString "carry") = some (.int ((0 : Nat) : Int) ct)) ⟨_, rfl⟩
    refine' for_list (σ := SShl) [Str.ofString "w", Str.ofString "few", Str.ofString "mask", Str.ofString "found"] (fun st => [(Str.ofString "carry", .int (st.c : Int) st.t)]) (fun st => [(l, lst st.vs st.k)])
      (fun i st => IntsAre st.vs (up st.l) ∧ Lim W st.l ∧ st.l.length = n / W + i ∧ st.c < 2 ^ (n % W) ∧ nval W st.l + 2 ^ (W * (n / W)) * 2 ^ (W * i) * st.c = 2 ^ (W * (n / W)) * (p % 2 ^ (W * i)) * 2 ^ (n % W)) ⟨zs, 0, List.replicate (n / W) 0, 0, ct0⟩ news rfl hx F1 N1 ?hb ?hin ?hcold ?hsep ?hP ?turn ?done
    case hb => exact ⟨hct, trivial⟩
    case hin => exact ⟨List.mem_cons_of_mem _ List.mem_cons_self, trivial⟩
    case hcold => exact fun p hp => by simp only [List.mem_cons, hp, or_true]
    case hsep => exact ⟨by k_all, trivial⟩
    case hP => exact ⟨I1, Lim.replicate, by simp, Nat.two_pow_pos _, by simp [nval_replicate, Nat.mod_one]⟩
    case turn =>
      intro i v z90 u h tk rest hi' hv z91 hcold hsep F2 N2
      refine hide fun G9 hG9 => ?_
      obtain ⟨hP1, hP2, hP3, hP4, hP5⟩ := z91
      obtain ⟨fvs, fk, fl, c, ct⟩ := z90
      refine hG9 ?_
      clear hG9 G9
      obtain ⟨t9, rfl⟩ := ints_item hi hv
      have hil : i < (digs W p).length := by rw [hi.length, up_length] at hi'; exact hi'
      have hq9 := sep_head hsep
      have hdv := digit64 hW hW2 p i
      clear hx N N1 F1 I1
      dsimp only [List.cons_append, List.nil_append] at N2 F2 hP1 hP2 hP3 hP4 hP5
      have hfl : fvs.length = n / W + i := by rw [hP1.length, up_length]; exact hP3
      have hfl2 : fvs.toArray.size = n / W + i := hfl
      try k_fold
      repeat' ((fail_if_success (with_reducible show Hold _)); first | (with_reducible refine Cn.out (by assumption) ?_) | (first | (with_reducible refine Co.ret (by assumption) ?_) | (with_reducible refine Co.brk (by assumption) ?_) | (with_reducible refine Co.cont (by assumption) ?_) | (with_reducible refine Cnt.out (by assumption) ?_; (try dsimp only))) | (k_unfold; (try dsimp only)) | ((with_reducible show wpAny _ _ (execs _ _) _ _ _); (first | ((fail_if_success (with_reducible refine Cn.seen (by first | exact Or.inl (by assumption) | exact Or.inr (by assumption)) ?_)); refine Cnt.gen ?_; intro qk hqk) | (with_reducible refine execs_one ?_) | (with_reducible refine execs_cnt ?_; intro qk hqn hqo))) | (k_here; (with_reducible show wpAny _ _ (binaryOp Operator.Mod (Value.int (Nat.cast _) _) (Value.int (Nat.cast _) _)) _ _ _); k_dflt (refine' mod_nat ?a ?_; (case a => omega); k_whole)) | (k_here; (with_reducible show wpAny _ _ (binaryOp Operator.FloorDiv (Value.int (Nat.cast _) _) (Value.int (Nat.cast _) _)) _ _ _); k_dflt (refine' floordiv_nat ?a ?b ?_; (case a => omega); (case b => omega); k_whole)) | (k_here; (with_reducible show wpAny _ _ (binaryOp Operator.Mult (Value.ref _) (Value.int _ _)) _ _ _); k_dflt (refine' zeros_C ?F ?N ?l ?a ?b ?_; (case F => k_asm); (case N => k_asm); (case l => k_mem); (case a => first | exact Int.natCast_nonneg _ | omega); (case b => omega); k_whole); intro r' h' vs' F' N' I' l1; (try k_lt l1); (try k_sweep)) | (first | with_reducible refine TurnEnd.ret ?_ | with_reducible refine TurnEnd.brk ?_) | ((with_reducible show wpAny _ _ (pyIter _) _ _ _); refine Hold.intro ?_) | (k_end; wrow_close) | walk1 | (dsimp only; walk1) | (leave1; try dsimp only))
      obtain ⟨e1, e2⟩ := shl_turn (K := 2 ^ (W * (n / W))) hW hP5 hP4
      have hlt := Nat.mod_lt (c + (digs W p).getD i 0 * 2 ^ (n % W)) (Nat.two_pow_pos W)
      rename News _ _ _ _ => N3
      rename Fr _ _ _ _ => F3
      refine TurnEnd.mk ⟨fvs ++ [_], fk + 1, fl ++ [(c + (digs W p).getD i 0 * 2 ^ (n % W)) % 2 ^ W], (c + (digs W p).getD i 0 * 2 ^ (n % W)) / 2 ^ W, _⟩ F3 N3 ⟨some_int ?_, trivial⟩ ⟨rfl, rfl, rfl, rfl, trivial⟩ ⟨mem_push List.mem_cons_self, trivial⟩ (fun p hp => List.mem_cons_of_mem _ hp) ⟨hq9, trivial⟩ ⟨Intsup.push hP1 ?_, hP2.push hlt, by simp [hP3]; omega, e2, ?_⟩
      · rw [shl_nat, bitOr_nat, or_low hP4, shr_nat]
      · rw [shl_nat, bitOr_nat, or_low hP4, and_mask]
      · dsimp only; rw [nval_push, hP3, Nat.mul_add W, Nat.pow_add]; exact e1
    case done =>
      intro z90 u h tk z91 hsep F2 N2
      refine hide fun G9 hG9 => ?_
      obtain ⟨hP1, hP2, hP3, hP4, hP5⟩ := z91
      obtain ⟨fvs, fk, fl, c, ct⟩ := z90
      refine hG9 ?_
      clear hG9 G9
      have hq9 := sep_head hsep
      clear hx N N1 F1 I1
      dsimp only [List.cons_append, List.nil_append] at N2 F2 hP1 hP2 hP3 hP4 hP5
      rw [hi.length, up_length] at hP3 hP5
      have hfl : fvs.length = n / W + (digs W p).length := by rw [hP1.length, up_length]; exact hP3
      have hfl2 : fvs.toArray.size = n / W + (digs W p).length := hfl
      obtain ⟨f1, f2⟩ := shl_end hW hP2 h0 hP3 hP4 hP5
      repeat' ((fail_if_success (with_reducible show Hold _)); first | (with_reducible refine Cn.out (by assumption) ?_) | (first | (with_reducible refine Co.ret (by assumption) ?_) | (with_reducible refine Co.brk (by assumption) ?_) | (with_reducible refine Co.cont (by assumption) ?_) | (with_reducible refine Cnt.out (by assumption) ?_; (try dsimp only))) | (k_unfold; (try dsimp only)) | ((with_reducible show wpAny _ _ (execs _ _) _ _ _); (first | ((fail_if_success (with_reducible refine Cn.seen (by first | exact Or.inl (by assumption) | exact Or.inr (by assumption)) ?_)); refine Cnt.gen ?_; intro qk hqk) | (with_reducible refine execs_one ?_) | (with_reducible refine execs_cnt ?_; intro qk hqn hqo))) | (k_here; (with_reducible show wpAny _ _ (binaryOp Operator.Mod (Value.int (Nat.cast _) _) (Value.int (Nat.cast _) _)) _ _ _); k_dflt (refine' mod_nat ?a ?_; (case a => omega); k_whole)) | (k_here; (with_reducible show wpAny _ _ (binaryOp Operator.FloorDiv (Value.int (Nat.cast _) _) (Value.int (Nat.cast _) _)) _ _ _); k_dflt (refine' floordiv_nat ?a ?b ?_; (case a => omega); (case b => omega); k_whole)) | (k_here; (with_reducible show wpAny _ _ (binaryOp Operator.Mult (Value.ref _) (Value.int _ _)) _ _ _); k_dflt (refine' zeros_C ?F ?N ?l ?a ?b ?_; (case F => k_asm); (case N => k_asm); (case l => k_mem); (case a => first | exact Int.natCast_nonneg _ | omega); (case b => omega); k_whole); intro r' h' vs' F' N' I' l1; (try k_lt l1); (try k_sweep)) | (first | with_reducible refine TurnEnd.ret ?_ | with_reducible refine TurnEnd.brk ?_) | ((with_reducible show wpAny _ _ (pyIter _) _ _ _); refine Hold.intro ?_) | (k_end; wrow_close) | walk1 | (dsimp only; walk1) | (leave1; try dsimp only))
      · rename News _ _ _ _ => N3
        rename Fr _ _ _ _ => F3
        refine ret _ _ _ _ _ F3 (news_push N3) ?_ (by ktr_rel)
        rw [← f1 (by omega)]
        exact Intsup.push hP1 rfl
      · rename News _ _ _ _ => N3
        rename Fr _ _ _ _ => F3
        refine ret _ _ _ _ _ F3 N3 ?_ (by ktr_rel)
        rw [← f2 (by omega)]
        exact hP1
end
section
variable {w : World} {mean : ExcName → Option Value} {mg mb : Str → Option Value}
  {dp un : Nat} {gd : Option (List Code)} {cn : Str} {cs : Scope} {a : Addr} {ccd : Value} {cl : List (Str × Addr)} {outer : List Env} {A₀ : Around} {base h₀ : Heap} {L : Addr} {m : Str → Option Value} {news : Led} {s : Shared}
  {Q E : Value → Shared → Prop}
  (B : Below A₀ base outer h₀) (F : Fr h₀ L s.heap m) (X : (hd.heap_39 w.params).In h₀) (N : News h₀ L s.heap news) (T : Top hd.view_39 (looseW hd.view_39 []) mean mg mb h₀) (hk : cs.kind = .function)
include B F X N T hk
omit B F X N T hk in
theorem shr_digit {W p n i : Nat} (hW : 0 < W) : ((digs W p).getD (n / W + i) 0 / 2 ^ (n % W) ||| (digs W p).getD (n / W + i + 1) 0 * 2 ^ (W - n % W)) % 2 ^ W = p / 2 ^ n / 2 ^ (W * i) % 2 ^ W := by
  have hm := Nat.mod_lt n hW
  have hd := (lim_digs hW p).getD (n / W + i)
  have e0 : 2 ^ W = 2 ^ (n % W) * 2 ^ (W - n % W) := by rw [← Nat.pow_add]; congr 1; omega
  have hlt : (digs W p).getD (n / W + i) 0 / 2 ^ (n % W) < 2 ^ (W - n % W) := by
    refine (Nat.div_lt_iff_lt_mul (Nat.two_pow_pos _)).mpr ?_
    rw [Nat.mul_comm, ← e0]; exact hd
  rw [or_low hlt, getD_digs hW, getD_digs hW]
  have e1 : p / 2 ^ n / 2 ^ (W * i) = p / 2 ^ (W * (n / W + i)) / 2 ^ (n % W) := by
    rw [Nat.div_div_eq_div_mul, Nat.div_div_eq_div_mul, ← Nat.pow_add, ← Nat.pow_add]
    congr 2
    rw [Nat.mul_add]
    have := Nat.div_add_mod n W
    omega
  have e2 : p / 2 ^ (W * (n / W + i + 1)) = p / 2 ^ (W * (n / W + i)) / 2 ^ W := by
    rw [Nat.div_div_eq_div_mul, ← Nat.pow_add, Nat.mul_add W (n / W + i), Nat.mul_one]
  rw [e1, e2]
  generalize p / 2 ^ (W * (n / W + i)) = Y
  have e3 : Y / 2 ^ (n % W) = Y % 2 ^ W / 2 ^ (n % W) + Y / 2 ^ W * 2 ^ (W - n % W) := by
    have h1 : Y = Y % 2 ^ W + 2 ^ (n % W) * (2 ^ (W - n % W) * (Y / 2 ^ W)) := by
      rw [← Nat.mul_assoc, ← e0]; exact (Nat.mod_add_div _ _).symm
    have h2 : Y / 2 ^ (n % W) = (Y % 2 ^ W + 2 ^ (n % W) * (2 ^ (W - n % W) * (Y / 2 ^ W))) / 2 ^ (n % W) := by rw [← h1]
    rw [h2, Nat.add_mul_div_left _ _ (Nat.two_pow_pos _), Nat.mul_comm (2 ^ (W - n % W))]
  rw [e3, Nat.add_mod, Nat.add_mod (Y % 2 ^ W / 2 ^ (n % W)) (Y / 2 ^ W * 2 ^ (W - n % W)), Nat.mul_mod (Y / 2 ^ W % 2 ^ W), Nat.mul_mod (Y / 2 ^ W), Nat.mod_mod]
omit B F X N T hk in
theorem shr_end {W p n : Nat} {fl : List Nat} (hW : 0 < W) (hv : nval W fl = p / 2 ^ n % 2 ^ (W * ((digs W p).length - n / W))) : nval W fl = p / 2 ^ n := by
  rw [hv, Nat.mod_eq_of_lt]
  have h1 := digs_lt hW p
  have h2 : 2 ^ (W * (n / W)) ≤ 2 ^ n := Nat.pow_le_pow_right (by decide) (Nat.mul_div_le _ _)
  refine Nat.lt_of_le_of_lt (Nat.div_le_div_left h2 (Nat.two_pow_pos _)) ((Nat.div_lt_iff_lt_mul (Nat.two_pow_pos _)).mpr (Nat.lt_of_lt_of_le h1 ?_))
  rw [← Nat.pow_add, ← Nat.mul_add]
  exact Nat.pow_le_pow_right (by decide) (Nat.mul_le_mul_left _ (by omega))
structure SShr where
  vs : List Value
  k : Nat
  l : List Nat
set_option maxHeartbeats 4000000 in
theorem shift_right_C {x : Addr} {vs : List Value} {nn : Nat} {p n : Nat} {W : Nat} {tw tn : Tok} (hW : 0 < W) (hW2 : W ≤ 6) (hd1 : dp + 2 < recursionLimit) (hu : un + 11 < cLine)
    (hx : (x, lst vs nn) ∈ news) (hi : IntsAre vs (up (digs W p))) (hp : p < 2 ^ 60) (hn : n ≤ 60)
    (ret : ∀ r h' tk' vs' k', Fr h₀ L h' m → News h₀ L h' ((r, lst vs' k') :: news) → IntsAre vs' (up (digs W (p / 2 ^ n))) → (∀ p ∈ news, p.1 < r) → Q (.ref r) { s with heap := h', toks := tk' }) :
    wpAny (model Challenge.rw_sj0076_01.row.prog w) (ktrTop dp un gd cn cs L a ccd cl outer) (call (.ref 81) [.ref x, .int n tn, .int W tw]) Q E s := by
  have hl1 : (up (digs W p)).length ≤ 60 := by rw [up_length]; exact digs_len_le hW hp
  have hlP : (up (digs W p)).length = (digs W p).length := up_length _
  have hwi : (0 : Int) < (W : Int) := by omega
  have hwi2 : (W : Int) ≤ 6 := by omega
  have hni : (n : Int) ≤ 60 := by omega
  have hnd : n / W ≤ 60 := Nat.le_trans (Nat.div_le_self _ _) hn
  have hnm : n % W < W := Nat.mod_lt _ hW
  have hnd0 : (0 : Int) ≤ ((n / W : Nat) : Int) := Int.natCast_nonneg _
  have hnm0 : (0 : Int) ≤ ((n % W : Nat) : Int) := Int.natCast_nonneg _
  refine wpAny_call ?_
  k_dflt cell_enter
  repeat' ((fail_if_success (with_reducible show Hold _)); first | (with_reducible refine Cn.out (by assumption) ?_) | (first | (with_reducible refine Co.ret (by assumption) ?_) | (with_reducible refine Co.brk (by assumption) ?_) | (with_reducible refine Co.cont (by assumption) ?_) | (with_reducible refine Cnt.out (by assumption) ?_; (try dsimp only))) | (k_unfold; (try dsimp only)) | ((with_reducible show wpAny _ _ (execs _ _) _ _ _); (first | ((fail_if_success (with_reducible refine Cn.seen (by first | exact Or.inl (by assumption) | exact Or.inr (by assumption)) ?_)); refine Cnt.gen ?_; intro qk hqk) | (with_reducible refine execs_one ?_) | (with_reducible refine execs_cnt ?_; intro qk hqn hqo))) | (k_here; (with_reducible show wpAny _ _ (binaryOp Operator.Mod (Value.int (Nat.cast _) _) (Value.int (Nat.cast _) _)) _ _ _); k_dflt (refine' mod_nat ?a ?_; (case a => omega); k_whole)) | (k_here; (with_reducible show wpAny _ _ (binaryOp Operator.FloorDiv (Value.int (Nat.cast _) _) (Value.int (Nat.cast _) _)) _ _ _); k_dflt (refine' floordiv_nat ?a ?b ?_; (case a => omega); (case b => omega); k_whole)) | (k_here; (with_reducible show wpAny _ _ (binaryOp Operator.Mult (Value.ref _) (Value.int _ _)) _ _ _); k_dflt (refine' zeros_C ?F ?N ?l ?a ?b ?_; (case F => k_asm); (case N => k_asm); (case l => k_mem); (case a => first | exact Int.natCast_nonneg _ | omega); (case b => omega); k_whole); intro r' h' vs' F' N' I' l1; (try k_lt l1); (try k_sweep)) | (k_here; (with_reducible show wpAny _ _ (call (Value.ref 46) _ _) _ _ _); k_dflt (refine' normal_C ?k1 ?k2 ?k3 ?k4 ?k5 ?k6 ?k7 ?k8 ?k9 ?m1 ?i1 ?p1 ?p2 ?_; (case k1 => k_asm); (case k2 => k_asm); (case k3 => k_asm); (case k4 => k_asm); (case k5 => k_asm); (case k6 => first | exact rfl | assumption); (case m1 => k_mem); (case i1 => l_ints); (case p1 => assumption); (case p2 => kst_p2); (case k7 => assumption); (case k8 => ktr_room); (case k9 => ktr_units); k_whole; intro r' h' tk' vs' F' N' I' l1; (try k_lt l1); (try k_sweep))) | (first | with_reducible refine TurnEnd.ret ?_ | with_reducible refine TurnEnd.brk ?_) | ((with_reducible show wpAny _ _ (pyIter _) _ _ _); refine Hold.intro ?_) | (k_end; wrow_close) | walk1 | (dsimp only; walk1) | (leave1; try dsimp only))
  rename News _ _ _ _ => N1
  rename Fr _ _ _ _ => F1
  rename IsRange _ _ _ _ _ _ _ _ => R1
  refine name2 N1 (fun D l eD el => ?_)
  subst eD el
  refine Hold.out ?_
  refine' for_range (σ := SShr) ((digs W p).length - n / W) [Str.ofString "a", Str.ofString "w", Str.ofString "few", Str.ofString "mask", Str.ofString "found"] (fun _ => []) (fun st => [(l, lst st.vs st.k)])
    (fun i st => IntsAre st.vs (up st.l) ∧ Lim W st.l ∧ st.l.length = i ∧ nval W st.l = p / 2 ^ n % 2 ^ (W * i)) ⟨[], 0, []⟩ news rfl R1 (by exact small_one (by omega) (by omega) (by omega) (by omega)) (by generalize n / W = z at *; omega) F1 N1 ?hb ?hin ?hcold ?hsep ?hP ?turn ?done
  case hb => exact trivial
  case hin => exact ⟨List.mem_cons_of_mem _ List.mem_cons_self, trivial⟩
  case hcold => exact fun p hp => by simp only [List.mem_cons, hp, or_true]
  case hsep => exact ⟨by k_all, trivial⟩
  case hP => exact ⟨.nil, .nil, rfl, by simp [nval, Nat.mod_one]⟩
  case turn =>
    intro i t z90 u h tk rest hi' z91 hcold hsep F2 N2
    refine hide fun G9 hG9 => ?_
    obtain ⟨hP1, hP2, hP3, hP5⟩ := z91
    obtain ⟨fvs, fk, fl⟩ := z90
    refine hG9 ?_
    clear hG9 G9
    have hx' := hcold _ hx
    have hq9 := sep_head hsep
    clear hx N N1 F1 R1
    dsimp only [List.cons_append, List.nil_append] at N2 F2 hP1 hP2 hP3 hP5
    have eidx : (((n / W : Nat) : Int) + (i : Int)) = ((n / W + i : Nat) : Int) := (Int.natCast_add _ _).symm
    rw [eidx] at F2
    have hdig := @shr_digit W p n i hW
    obtain ⟨j, hj⟩ : ∃ j, j = n / W + i := ⟨_, rfl⟩
    rw [← hj] at F2 hdig
    have hjl : j < (digs W p).length := by rw [hj]; generalize n / W = z at *; omega
    have hfl : fvs.length = i := by rw [hP1.length, up_length]; exact hP3
    have hfl2 : fvs.toArray.size = i := hfl
    have hil : i < 60 := by generalize n / W = z at *; omega
    have hd1 := digit64i hW hW2 p (j : Int).toNat
    have hd2 := digit64i hW hW2 p ((j : Int) + 1).toNat
    clear hj
    try k_fold
    repeat' ((fail_if_success (with_reducible show Hold _)); first | (with_reducible refine Cn.out (by assumption) ?_) | (first | (with_reducible refine Co.ret (by assumption) ?_) | (with_reducible refine Co.brk (by assumption) ?_) | (with_reducible refine Co.cont (by assumption) ?_) | (with_reducible refine Cnt.out (by assumption) ?_; (try dsimp only))) | (k_unfold; (try dsimp only)) | ((with_reducible show wpAny _ _ (execs _ _) _ _ _); (first | ((fail_if_success (with_reducible refine Cn.seen (by first | exact Or.inl (by assumption) | exact Or.inr (by assumption)) ?_)); refine Cnt.gen ?_; intro qk hqk) | (with_reducible refine execs_one ?_) | (with_reducible refine execs_cnt ?_; intro qk hqn hqo))) | (k_here; (with_reducible show wpAny _ _ (binaryOp Operator.Mod (Value.int (Nat.cast _) _) (Value.int (Nat.cast _) _)) _ _ _); k_dflt (refine' mod_nat ?a ?_; (case a => omega); k_whole)) | (k_here; (with_reducible show wpAny _ _ (binaryOp Operator.FloorDiv (Value.int (Nat.cast _) _) (Value.int (Nat.cast _) _)) _ _ _); k_dflt (refine' floordiv_nat ?a ?b ?_; (case a => omega); (case b => omega); k_whole)) | (k_here; (with_reducible show wpAny _ _ (binaryOp Operator.Mult (Value.ref _) (Value.int _ _)) _ _ _); k_dflt (refine' zeros_C ?F ?N ?l ?a ?b ?_; (case F => k_asm); (case N => k_asm); (case l => k_mem); (case a => first | exact Int.natCast_nonneg _ | omega); (case b => omega); k_whole); intro r' h' vs' F' N' I' l1; (try k_lt l1); (try k_sweep)) | (k_here; (with_reducible show wpAny _ _ (call (Value.ref 46) _ _) _ _ _); k_dflt (refine' normal_C ?k1 ?k2 ?k3 ?k4 ?k5 ?k6 ?k7 ?k8 ?k9 ?m1 ?i1 ?p1 ?p2 ?_; (case k1 => k_asm); (case k2 => k_asm); (case k3 => k_asm); (case k4 => k_asm); (case k5 => k_asm); (case k6 => first | exact rfl | assumption); (case m1 => k_mem); (case i1 => l_ints); (case p1 => assumption); (case p2 => kst_p2); (case k7 => assumption); (case k8 => ktr_room); (case k9 => ktr_units); k_whole; intro r' h' tk' vs' F' N' I' l1; (try k_lt l1); (try k_sweep))) | (first | with_reducible refine TurnEnd.ret ?_ | with_reducible refine TurnEnd.brk ?_) | ((with_reducible show wpAny _ _ (pyIter _) _ _ _); refine Hold.intro ?_) | (k_end; wrow_close) | walk1 | (dsimp only; walk1) | (leave1; try dsimp only))
    all_goals (
      rename News _ _ _ _ => N3
      rename Fr _ _ _ _ => F3)
    · have hj1 : ((j : Int) + 1).toNat = j + 1 := by omega
      have hs9 : ((W : Int) - ((n % W : Nat) : Int)).toNat = W - n % W := by omega
      refine TurnEnd.mk ⟨fvs ++ [_], fk + 1, fl ++ [p / 2 ^ n / 2 ^ (W * i) % 2 ^ W]⟩ F3 N3 trivial ⟨rfl, rfl, rfl, rfl, rfl, trivial⟩ ⟨mem_push List.mem_cons_self, trivial⟩ (fun p hp => List.mem_cons_of_mem _ hp) ⟨hq9, trivial⟩ ⟨Intsup.push hP1 ?_, hP2.push (Nat.mod_lt _ (Nat.two_pow_pos _)), by simp [hP3], ?_⟩
      · rw [hj1, hs9, up_getD, up_getD, Int.toNat_natCast, shr_nat, ← cast_pow, ← Int.natCast_mul, bitOr_nat, and_mask, hdig]
      · dsimp only; rw [nval_push, hP3, hP5, mod_succ]
    · have hj1 : (digs W p).getD (j + 1) 0 = 0 := by
        have h8 := ‹¬ (j : Int) + 1 < (((up (digs W p)).length : Nat) : Int)›
        exact getD_beyond (by omega)
      have hs9 : ((W : Int) - ((n % W : Nat) : Int)).toNat = W - n % W := by omega
      rw [hj1] at hdig
      refine TurnEnd.mk ⟨fvs ++ [_], fk + 1, fl ++ [p / 2 ^ n / 2 ^ (W * i) % 2 ^ W]⟩ F3 N3 trivial ⟨rfl, rfl, rfl, rfl, rfl, trivial⟩ ⟨mem_push List.mem_cons_self, trivial⟩ (fun p hp => List.mem_cons_of_mem _ hp) ⟨hq9, trivial⟩ ⟨Intsup.push hP1 ?_, hP2.push (Nat.mod_lt _ (Nat.two_pow_pos _)), by simp [hP3], ?_⟩
      · have e0 : (0 : Int) * 2 ^ ((W : Int) - ((n % W : Nat) : Int)).toNat = ((0 * 2 ^ (W - n % W) : Nat) : Int) := by rw [Int.zero_mul, Nat.zero_mul]; rfl
        rw [e0, up_getD, Int.toNat_natCast, shr_nat, bitOr_nat, and_mask, hdig]
      · dsimp only; rw [nval_push, hP3, hP5, mod_succ]
  case done =>
    intro z90 u h tk z91 hsep F2 N2
    refine hide fun G9 hG9 => ?_
    obtain ⟨hP1, hP2, hP3, hP5⟩ := z91
    obtain ⟨fvs, fk, fl⟩ := z90
    refine hG9 ?_
    clear hG9 G9
    have hq9 := sep_head hsep
    clear hx N N1 F1 R1
    dsimp only [List.cons_append, List.nil_append] at N2 F2 hP1 hP2 hP3 hP5
    have hfl2 : fl.length ≤ 100 := by generalize n / W = z at *; omega
    have hv := shr_end hW hP5
    repeat' ((fail_if_success (with_reducible show Hold _)); first | (with_reducible refine Cn.out (by assumption) ?_) | (first | (with_reducible refine Co.ret (by assumption) ?_) | (with_reducible refine Co.brk (by assumption) ?_) | (with_reducible refine Co.cont (by assumption) ?_) | (with_reducible refine Cnt.out (by assumption) ?_; (try dsimp only))) | (k_unfold; (try dsimp only)) | ((with_reducible show wpAny _ _ (execs _ _) _ _ _); (first | ((fail_if_success (with_reducible refine Cn.seen (by first | exact Or.inl (by assumption) | exact Or.inr (by assumption)) ?_)); refine Cnt.gen ?_; intro qk hqk) | (with_reducible refine execs_one ?_) | (with_reducible refine execs_cnt ?_; intro qk hqn hqo))) | (k_here; (with_reducible show wpAny _ _ (binaryOp Operator.Mod (Value.int (Nat.cast _) _) (Value.int (Nat.cast _) _)) _ _ _); k_dflt (refine' mod_nat ?a ?_; (case a => omega); k_whole)) | (k_here; (with_reducible show wpAny _ _ (binaryOp Operator.FloorDiv (Value.int (Nat.cast _) _) (Value.int (Nat.cast _) _)) _ _ _); k_dflt (refine' floordiv_nat ?a ?b ?_; (case a => omega); (case b => omega); k_whole)) | (k_here; (with_reducible show wpAny _ _ (binaryOp Operator.Mult (Value.ref _) (Value.int _ _)) _ _ _); k_dflt (refine' zeros_C ?F ?N ?l ?a ?b ?_; (case F => k_asm); (case N => k_asm); (case l => k_mem); (case a => first | exact Int.natCast_nonneg _ | omega); (case b => omega); k_whole); intro r' h' vs' F' N' I' l1; (try k_lt l1); (try k_sweep)) | (k_here; (with_reducible show wpAny _ _ (call (Value.ref 46) _ _) _ _ _); k_dflt (refine' normal_C ?k1 ?k2 ?k3 ?k4 ?k5 ?k6 ?k7 ?k8 ?k9 ?m1 ?i1 ?p1 ?p2 ?_; (case k1 => k_asm); (case k2 => k_asm); (case k3 => k_asm); (case k4 => k_asm); (case k5 => k_asm); (case k6 => first | exact rfl | assumption); (case m1 => k_mem); (case i1 => l_ints); (case p1 => assumption); (case p2 => kst_p2); (case k7 => assumption); (case k8 => ktr_room); (case k9 => ktr_units); k_whole; intro r' h' tk' vs' F' N' I' l1; (try k_lt l1); (try k_sweep))) | (first | with_reducible refine TurnEnd.ret ?_ | with_reducible refine TurnEnd.brk ?_) | ((with_reducible show wpAny _ _ (pyIter _) _ _ _); refine Hold.intro ?_) | (k_end; wrow_close) | walk1 | (dsimp only; walk1) | (leave1; try dsimp only))
    rw [hv] at *
    rename News _ _ _ _ => N3
    rename Fr _ _ _ _ => F3
    refine ret _ _ _ _ _ F3 (news_drop1 N3) ‹IntsAre _ (up (digs W (p / 2 ^ n)))› (by ktr_rel)
theorem shift_right_Z {x : Addr} {vs : List Value} {nn : Nat} {p : Nat} {z : Int} {W : Nat} {tw tn : Tok} (hW : 0 < W) (hW2 : W ≤ 6) (hd1 : dp + 2 < recursionLimit) (hu : un + 11 < cLine)
    (hx : (x, lst vs nn) ∈ news) (hi : IntsAre vs (up (digs W p))) (hp : p < 2 ^ 60) (hz : 0 ≤ z) (hn : z ≤ 60)
    (ret : ∀ r h' tk' vs' k', Fr h₀ L h' m → News h₀ L h' ((r, lst vs' k') :: news) → IntsAre vs' (up (digs W (p / 2 ^ z.toNat))) → (∀ p ∈ news, p.1 < r) → Q (.ref r) { s with heap := h', toks := tk' }) :
    wpAny (model Challenge.rw_sj0076_01.row.prog w) (ktrTop dp un gd cn cs L a ccd cl outer) (call (.ref 81) [.ref x, .int z tn, .int W tw]) Q E s := by
  obtain ⟨n, rfl⟩ := Int.eq_ofNat_of_zero_le hz
  exact shift_right_C B F X N T hk hW hW2 hd1 hu hx hi hp (by omega) ret
end
section
variable {w : World} {mean : ExcName → Option Value} {mg mb : Str → Option Value}
  {dp un : Nat} {gd : Option (List Code)} {cn : Str} {cs : Scope} {a : Addr} {ccd : Value} {cl : List (Str × Addr)} {outer : List Env} {A₀ : Around} {base h₀ : Heap} {L : Addr} {m : Str → Option Value} {news : Led} {s : Shared}
  {Q E : Value → Shared → Prop}
  (B : Below A₀ base outer h₀) (F : Fr h₀ L s.heap m) (X : (hd.heap_39 w.params).In h₀) (N : News h₀ L s.heap news) (T : Top hd.view_39 (looseW hd.view_39 []) mean mg mb h₀) (hk : cs.kind = .function)
include B F X N T hk
local macro_rules | `(tactic| kmk_nums) => `(tactic| with_reducible exact kmk_all (by assumption))
noncomputable def blen (n : Nat) : Nat := if n = 0 then 0 else n.log2 + 1
omit B F X N T hk in
theorem log2_div {p k : Nat} (h : 2 ^ k ≤ p) : p.log2 = k + (p / 2 ^ k).log2 := by
  have hp : p ≠ 0 := by have := Nat.two_pow_pos k; omega
  have hd : p / 2 ^ k ≠ 0 := by
    have := (Nat.le_div_iff_mul_le (x := 1) (y := p) (Nat.two_pow_pos k)).mpr (by rw [Nat.one_mul]; exact h)
    omega
  obtain ⟨h1, h2⟩ := (Nat.log2_eq_iff hd).mp rfl
  refine (Nat.log2_eq_iff hp).mpr ⟨?_, ?_⟩
  · rw [Nat.pow_add, Nat.mul_comm]
    exact (Nat.le_div_iff_mul_le (Nat.two_pow_pos k)).mp h1
  · have := (Nat.div_lt_iff_lt_mul (Nat.two_pow_pos k)).mp h2
    rwa [← Nat.pow_add, show (p / 2 ^ k).log2 + 1 + k = k + (p / 2 ^ k).log2 + 1 by omega] at this
omit B F X N T hk in
theorem bits_val {W p : Nat} (hW : 0 < W) (hp : 0 < p) : ((((digs W p).length : Nat) : Int) - 1) * (W : Int) + ((Builtin.Int.intBits (((digs W p).getD ((digs W p).length - 1) 0 : Nat) : Int) : Nat) : Int) = ((blen p : Nat) : Int) := by
  have hl := (digs_len_pos hW).mpr hp
  have hge := digs_ge hW p hp
  have hlt := digs_lt hW p
  obtain ⟨k, hk⟩ : ∃ k, (digs W p).length = k + 1 := ⟨(digs W p).length - 1, by omega⟩
  rw [hk, Nat.add_sub_cancel] at hge ⊢
  rw [hk] at hlt
  have hd : (digs W p).getD k 0 = p / 2 ^ (W * k) := by
    rw [getD_digs hW, Nat.mod_eq_of_lt]
    refine (Nat.div_lt_iff_lt_mul (Nat.two_pow_pos _)).mpr ?_
    rw [← Nat.pow_add, Nat.add_comm, ← Nat.mul_succ]; exact hlt
  have hpos : 0 < p / 2 ^ (W * k) := (Nat.le_div_iff_mul_le (Nat.two_pow_pos _)).mpr (by rw [Nat.one_mul]; exact hge)
  rw [hd]
  have e1 : Builtin.Int.intBits ((p / 2 ^ (W * k) : Nat) : Int) = (p / 2 ^ (W * k)).log2 + 1 := by
    unfold Builtin.Int.intBits
    rw [if_neg (by rw [beq_iff_eq]; omega), Int.natAbs_natCast]
  rw [e1]
  unfold blen
  rw [if_neg (by omega), log2_div hge]
  have e2 : (((k + 1 : Nat) : Int) - 1) = (k : Int) := by omega
  rw [e2, Nat.mul_comm W k]
  push_cast
  omega
omit B F X N T hk in
theorem low_end {W p n : Nat} (hW : 0 < W) (h : n / W < (digs W p).length) : nval W ((digs W p).take (n / W) ++ [(digs W p).getD (n / W) 0 % 2 ^ (n % W)]) = p % 2 ^ n ∧ Lim W ((digs W p).take (n / W) ++ [(digs W p).getD (n / W) 0 % 2 ^ (n % W)]) := by
  have hm := Nat.mod_lt n hW
  have hd := (lim_digs hW p).getD (n / W)
  constructor
  · rw [nval_push, nval_take (lim_digs hW p), nval_digs hW, List.length_take, Nat.min_eq_left (Nat.le_of_lt h), getD_digs hW]
    have e : 2 ^ n = 2 ^ (W * (n / W)) * 2 ^ (n % W) := by rw [← Nat.pow_add, Nat.div_add_mod]
    rw [e, Nat.mod_mul]
    congr 2
    exact Nat.mod_mod_of_dvd _ (Nat.pow_dvd_pow 2 (Nat.le_of_lt hm))
  · exact (lim_digs hW p).take _ |>.push (Nat.lt_of_le_of_lt (Nat.mod_le _ _) hd)
set_option maxHeartbeats 4000000 in
theorem bits_C {x : Addr} {vs : List Value} {nn : Nat} {p : Nat} {W : Nat} {tw : Tok} (hW : 0 < W) (hW2 : W ≤ 6) (hd1 : dp + 1 < recursionLimit) (hu : un + 8 < cLine)
    (hx : (x, lst vs nn) ∈ news) (hi : IntsAre vs (up (digs W p))) (hp : p < 2 ^ 60)
    (ret : ∀ t h' tk', Fr h₀ L h' m → News h₀ L h' news → Q (.int (blen p : Nat) t) { s with heap := h', toks := tk' }) :
    wpAny (model Challenge.rw_sj0076_01.row.prog w) (ktrTop dp un gd cn cs L a ccd cl outer) (call (.ref 88) [.ref x, .int W tw]) Q E s := by
  have hl1 : (up (digs W p)).length ≤ 60 := by rw [up_length]; exact digs_len_le hW hp
  have hlP : (up (digs W p)).length = (digs W p).length := up_length _
  have hwi : (0 : Int) < (W : Int) := by omega
  have hwi2 : (W : Int) ≤ 6 := by omega
  refine wpAny_call ?_
  k_dflt cell_enter
  repeat' ((fail_if_success (with_reducible show Hold _)); first | (with_reducible refine Cn.out (by assumption) ?_) | (first | (with_reducible refine Co.ret (by assumption) ?_) | (with_reducible refine Co.brk (by assumption) ?_) | (with_reducible refine Co.cont (by assumption) ?_) | (with_reducible refine Cnt.out (by assumption) ?_; (try dsimp only))) | (k_unfold; (try dsimp only)) | ((with_reducible show wpAny _ _ (execs _ _) _ _ _); (first | ((fail_if_success (with_reducible refine Cn.seen (by first | exact Or.inl (by assumption) | exact Or.inr (by assumption)) ?_)); refine Cnt.gen ?_; intro qk hqk) | (with_reducible refine execs_one ?_) | (with_reducible refine execs_cnt ?_; intro qk hqn hqo))) | ((with_reducible show wpAny _ _ (call (Value.ref 46) _ _) _ _ _); refine Hold.intro ?_) | (k_here; (with_reducible show wpAny _ _ (binaryOp Operator.Mod (Value.int (Nat.cast _) _) (Value.int (Nat.cast _) _)) _ _ _); k_dflt (refine' mod_nat ?a ?_; (case a => omega); k_whole)) | (k_here; (with_reducible show wpAny _ _ (binaryOp Operator.FloorDiv (Value.int (Nat.cast _) _) (Value.int (Nat.cast _) _)) _ _ _); k_dflt (refine' floordiv_nat ?a ?b ?_; (case a => omega); (case b => omega); k_whole)) | (k_here; (with_reducible show wpAny _ _ (binaryOp Operator.Mult (Value.ref _) (Value.int _ _)) _ _ _); k_dflt (refine' zeros_C ?F ?N ?l ?a ?b ?_; (case F => k_asm); (case N => k_asm); (case l => k_mem); (case a => first | exact Int.natCast_nonneg _ | omega); (case b => omega); k_whole); intro r' h' vs' F' N' I' l1; (try k_lt l1); (try k_sweep)) | (first | with_reducible refine TurnEnd.ret ?_ | with_reducible refine TurnEnd.brk ?_) | ((with_reducible show wpAny _ _ (pyIter _) _ _ _); refine Hold.intro ?_) | (k_end; wrow_close) | walk1 | (dsimp only; walk1) | (leave1; try dsimp only))
  · have h0 : 0 < p := by
      have h8 := ‹(0 : Int) < (((up (digs W p)).length : Nat) : Int)›
      apply (digs_len_pos hW).mp
      omega
    have hl := (digs_len_pos hW).mpr h0
    have e := bits_val hW h0
    have e2 : (-1 + (((up (digs W p)).length : Nat) : Int)).toNat = (digs W p).length - 1 := by omega
    rw [e2, up_getD, up_length, e]
    exact ret _ _ _ (by assumption) (by assumption)
  · have h0 : p = 0 := by
      have h8 := ‹¬ (0 : Int) < (((up (digs W p)).length : Nat) : Int)›
      apply (digs_eq_nil hW).mp
      exact List.eq_nil_of_length_eq_zero (by omega)
    subst h0
    exact ret _ _ _ (by assumption) (by assumption)
set_option maxHeartbeats 4000000 in
theorem low_C {x : Addr} {vs : List Value} {nn : Nat} {p n : Nat} {W : Nat} {tw tn : Tok} (hW : 0 < W) (hW2 : W ≤ 6) (hd1 : dp + 2 < recursionLimit) (hu : un + 11 < cLine)
    (hx : (x, lst vs nn) ∈ news) (hi : IntsAre vs (up (digs W p))) (hp : p < 2 ^ 60) (hn : n ≤ 60)
    (ret : ∀ r h' tk' vs' k', Fr h₀ L h' m → News h₀ L h' ((r, lst vs' k') :: news) → IntsAre vs' (up (digs W (p % 2 ^ n))) → (∀ p ∈ news, p.1 < r) → Q (.ref r) { s with heap := h', toks := tk' }) :
    wpAny (model Challenge.rw_sj0076_01.row.prog w) (ktrTop dp un gd cn cs L a ccd cl outer) (call (.ref 95) [.ref x, .int n tn, .int W tw]) Q E s := by
  have hl1 : (up (digs W p)).length ≤ 60 := by rw [up_length]; exact digs_len_le hW hp
  have hlP : (up (digs W p)).length = (digs W p).length := up_length _
  have hwi : (0 : Int) < (W : Int) := by omega
  have hwi2 : (W : Int) ≤ 6 := by omega
  have hni : (n : Int) ≤ 60 := by omega
  have hnd : n / W ≤ 60 := Nat.le_trans (Nat.div_le_self _ _) hn
  have hnm : n % W < W := Nat.mod_lt _ hW
  have hnd0 : (0 : Int) ≤ ((n / W : Nat) : Int) := Int.natCast_nonneg _
  have hnm0 : (0 : Int) ≤ ((n % W : Nat) : Int) := Int.natCast_nonneg _
  refine wpAny_call ?_
  k_dflt cell_enter
  repeat' ((fail_if_success (with_reducible show Hold _)); first | (with_reducible refine Cn.out (by assumption) ?_) | (first | (with_reducible refine Co.ret (by assumption) ?_) | (with_reducible refine Co.brk (by assumption) ?_) | (with_reducible refine Co.cont (by assumption) ?_) | (with_reducible refine Cnt.out (by assumption) ?_; (try dsimp only))) | (k_unfold; (try dsimp only)) | ((with_reducible show wpAny _ _ (execs _ _) _ _ _); (first | ((fail_if_success (with_reducible refine Cn.seen (by first | exact Or.inl (by assumption) | exact Or.inr (by assumption)) ?_)); refine Cnt.gen ?_; intro qk hqk) | (with_reducible refine execs_one ?_) | (with_reducible refine execs_cnt ?_; intro qk hqn hqo))) | ((with_reducible show wpAny _ _ (call (Value.ref 46) _ _) _ _ _); refine Hold.intro ?_) | (k_here; (with_reducible show wpAny _ _ (binaryOp Operator.Mod (Value.int (Nat.cast _) _) (Value.int (Nat.cast _) _)) _ _ _); k_dflt (refine' mod_nat ?a ?_; (case a => omega); k_whole)) | (k_here; (with_reducible show wpAny _ _ (binaryOp Operator.FloorDiv (Value.int (Nat.cast _) _) (Value.int (Nat.cast _) _)) _ _ _); k_dflt (refine' floordiv_nat ?a ?b ?_; (case a => omega); (case b => omega); k_whole)) | (k_here; (with_reducible show wpAny _ _ (binaryOp Operator.Mult (Value.ref _) (Value.int _ _)) _ _ _); k_dflt (refine' zeros_C ?F ?N ?l ?a ?b ?_; (case F => k_asm); (case N => k_asm); (case l => k_mem); (case a => first | exact Int.natCast_nonneg _ | omega); (case b => omega); k_whole); intro r' h' vs' F' N' I' l1; (try k_lt l1); (try k_sweep)) | (first | with_reducible refine TurnEnd.ret ?_ | with_reducible refine TurnEnd.brk ?_) | ((with_reducible show wpAny _ _ (pyIter _) _ _ _); refine Hold.intro ?_) | (k_end; wrow_close) | walk1 | (dsimp only; walk1) | (leave1; try dsimp only))
  · have h8 := ‹((n / W : Nat) : Int) ≥ (((up (digs W p)).length : Nat) : Int)›
    have e : p % 2 ^ n = p := by
      rw [Nat.mod_eq_of_lt]
      refine Nat.lt_of_lt_of_le (digs_lt hW p) (Nat.pow_le_pow_right (by decide) ?_)
      refine Nat.le_trans (Nat.mul_le_mul_left W (m := n / W) ?_) (Nat.mul_div_le _ _)
      generalize n / W = z at *
      omega
    rename News _ _ _ _ => N3
    rename Fr _ _ _ _ => F3
    refine ret _ _ _ _ _ F3 (news_drop1 N3) ?_ (by ktr_rel)
    rw [e]
    assumption
  · have h8 := ‹¬ ((n / W : Nat) : Int) ≥ (((up (digs W p)).length : Nat) : Int)›
    have hlt : n / W < (digs W p).length := by
      generalize n / W = z at *
      omega
    obtain ⟨e1, e2⟩ := low_end (n := n) hW hlt
    rename News _ _ _ _ => N3
    rename Fr _ _ _ _ => F3
    have I3 := ‹IntsAre _ (List.take _ _ ++ _)›
    rw [up_getD, and_mask, Int.toNat_natCast, ← up_take, ← up_one, ← up_append] at I3
    refine Hold.out ?_
    refine' normal_C (ls := (digs W p).take (n / W) ++ [(digs W p).getD (n / W) 0 % 2 ^ (n % W)]) (W := W) ?k1 ?k2 ?k3 ?k4 ?k5 ?k6 ?k7 ?k8 ?k9 ?m1 ?i1 ?i2 ?p2 ?_
    case k2 => exact F3
    case k4 => exact N3
    case k7 => exact hW
    case i1 => exact I3
    case i2 => exact e2
    case k1 => k_asm
    case k3 => k_asm
    case k5 => k_asm
    case k6 => first | exact rfl | assumption
    case m1 => k_mem
    case p2 => rw [List.length_append, List.length_take, List.length_singleton]; omega
    case k8 => ktr_room
    case k9 => ktr_units
    rw [e1]
    intro r' h' tk' vs' F' N' I' l1
    repeat' ((fail_if_success (with_reducible show Hold _)); first | (with_reducible refine Cn.out (by assumption) ?_) | (first | (with_reducible refine Co.ret (by assumption) ?_) | (with_reducible refine Co.brk (by assumption) ?_) | (with_reducible refine Co.cont (by assumption) ?_) | (with_reducible refine Cnt.out (by assumption) ?_; (try dsimp only))) | (k_unfold; (try dsimp only)) | ((with_reducible show wpAny _ _ (execs _ _) _ _ _); (first | ((fail_if_success (with_reducible refine Cn.seen (by first | exact Or.inl (by assumption) | exact Or.inr (by assumption)) ?_)); refine Cnt.gen ?_; intro qk hqk) | (with_reducible refine execs_one ?_) | (with_reducible refine execs_cnt ?_; intro qk hqn hqo))) | ((with_reducible show wpAny _ _ (call (Value.ref 46) _ _) _ _ _); refine Hold.intro ?_) | (k_here; (with_reducible show wpAny _ _ (binaryOp Operator.Mod (Value.int (Nat.cast _) _) (Value.int (Nat.cast _) _)) _ _ _); k_dflt (refine' mod_nat ?a ?_; (case a => omega); k_whole)) | (k_here; (with_reducible show wpAny _ _ (binaryOp Operator.FloorDiv (Value.int (Nat.cast _) _) (Value.int (Nat.cast _) _)) _ _ _); k_dflt (refine' floordiv_nat ?a ?b ?_; (case a => omega); (case b => omega); k_whole)) | (k_here; (with_reducible show wpAny _ _ (binaryOp Operator.Mult (Value.ref _) (Value.int _ _)) _ _ _); k_dflt (refine' zeros_C ?F ?N ?l ?a ?b ?_; (case F => k_asm); (case N => k_asm); (case l => k_mem); (case a => first | exact Int.natCast_nonneg _ | omega); (case b => omega); k_whole); intro r' h' vs' F' N' I' l1; (try k_lt l1); (try k_sweep)) | (first | with_reducible refine TurnEnd.ret ?_ | with_reducible refine TurnEnd.brk ?_) | ((with_reducible show wpAny _ _ (pyIter _) _ _ _); refine Hold.intro ?_) | (k_end; wrow_close) | walk1 | (dsimp only; walk1) | (leave1; try dsimp only))
    rename News _ _ _ _ => N4
    rename Fr _ _ _ _ => F4
    refine ret _ _ _ _ _ F4 (news_drop4 N4) ‹IntsAre _ (up (digs W (p % 2 ^ n)))› (fun p hp => l1 p (by simp only [List.mem_cons, hp, or_true]))
end
section
variable {w : World} {mean : ExcName → Option Value} {mg mb : Str → Option Value}
  {dp un : Nat} {gd : Option (List Code)} {cn : Str} {cs : Scope} {a : Addr} {ccd : Value} {cl : List (Str × Addr)} {outer : List Env} {A₀ : Around} {base h₀ : Heap} {L : Addr} {m : Str → Option Value} {news : Led} {s : Shared}
  {Q E : Value → Shared → Prop}
  (B : Below A₀ base outer h₀) (F : Fr h₀ L s.heap m) (X : (hd.heap_39 w.params).In h₀) (N : News h₀ L s.heap news) (T : Top hd.view_39 (looseW hd.view_39 []) mean mg mb h₀) (hk : cs.kind = .function)
include B F X N T hk
omit B F X N T hk in
theorem mul_turn {W q i j d c v V x v' : Nat} (hW : 0 < W) (hd : d < 2 ^ W) (hx : x < 2 ^ W) (hc : c < 2 ^ W) (hv : v + 2 ^ (W * (i + j)) * c = V + 2 ^ (W * i) * d * (q % 2 ^ (W * j)))
    (hs : v' + 2 ^ (W * (i + j)) * x = v + 2 ^ (W * (i + j)) * ((c + (x + d * (digs W q).getD j 0)) % 2 ^ W)) :
    v' + 2 ^ (W * (i + (j + 1))) * ((c + (x + d * (digs W q).getD j 0)) / 2 ^ W) = V + 2 ^ (W * i) * d * (q % 2 ^ (W * (j + 1))) ∧ (c + (x + d * (digs W q).getD j 0)) / 2 ^ W < 2 ^ W := by
  have hq := (lim_digs hW q).getD j
  constructor
  · rw [mod_succ q, ← getD_digs hW q j]
    generalize (digs W q).getD j 0 = y at *
    have e : 2 ^ (W * (i + (j + 1))) * ((c + (x + d * y)) / 2 ^ W) = 2 ^ (W * (i + j)) * (2 ^ W * ((c + (x + d * y)) / 2 ^ W)) := by
      rw [← Nat.add_assoc, Nat.mul_add W (i + j), Nat.mul_one, Nat.pow_add, Nat.mul_assoc]
    have e2 : 2 ^ (W * (i + j)) * ((c + (x + d * y)) % 2 ^ W) + 2 ^ (W * (i + j)) * (2 ^ W * ((c + (x + d * y)) / 2 ^ W)) = 2 ^ (W * (i + j)) * (c + (x + d * y)) := by
      rw [← Nat.mul_add, Nat.mod_add_div]
    have e3 : 2 ^ (W * i) * d * (q % 2 ^ (W * j) + 2 ^ (W * j) * y) = 2 ^ (W * i) * d * (q % 2 ^ (W * j)) + 2 ^ (W * (i + j)) * (d * y) := by
      rw [Nat.mul_add, Nat.mul_add W, Nat.pow_add]
      simp only [Nat.mul_assoc, Nat.mul_left_comm]
    rw [Nat.mul_add (2 ^ (W * (i + j))) c, Nat.mul_add (2 ^ (W * (i + j))) x] at e2
    rw [e, e3]
    omega
  · refine (Nat.div_lt_iff_lt_mul (Nat.two_pow_pos W)).mpr ?_
    generalize (digs W q).getD j 0 = y at *
    generalize 2 ^ W = M at *
    have h1 : d * y ≤ (M - 1) * (M - 1) := Nat.mul_le_mul (by omega) (by omega)
    obtain ⟨z, rfl⟩ : ∃ z, M = z + 1 := ⟨M - 1, by omega⟩
    rw [Nat.add_sub_cancel] at h1
    have h2 : (z + 1) * (z + 1) = z * z + 2 * z + 1 := by rw [Nat.add_mul, Nat.mul_add]; omega
    omega
omit B F X N T hk in
theorem mul_top {W p q i : Nat} {l : List Nat} (hW : 0 < W) (hl : Lim W l) (hv : nval W l = p % 2 ^ (W * i) * q) : l.getD (i + (digs W q).length) 0 = 0 := by
  rw [getD_nval hl, hv]
  have h1 : p % 2 ^ (W * i) * q < 2 ^ (W * (i + (digs W q).length)) := by
    rw [Nat.mul_add, Nat.pow_add]
    have h2 := Nat.mod_lt p (Nat.two_pow_pos (W * i))
    have h3 := digs_lt hW q
    exact Nat.mul_lt_mul'' h2 h3
  rw [Nat.div_eq_of_lt h1, Nat.zero_mod]
structure SMul where
  vs : List Value
  k : Nat
  l : List Nat
structure SMul2 where
  vs : List Value
  k : Nat
  l : List Nat
  c : Nat
  t : Tok
set_option maxHeartbeats 4000000 in
theorem mul_C {x y : Addr} {vs us : List Value} {nn mm : Nat} {p q : Nat} {W : Nat} {tw : Tok} (hW : 0 < W) (hW2 : W ≤ 6) (hd1 : dp + 2 < recursionLimit) (hu : un + 11 < cLine)
    (hx : (x, lst vs nn) ∈ news) (hi : IntsAre vs (up (digs W p))) (hp : p < 2 ^ 30) (hy : (y, lst us mm) ∈ news) (hj : IntsAre us (up (digs W q))) (hq : q < 2 ^ 30)
    (ret : ∀ r h' tk' vs' k', Fr h₀ L h' m → News h₀ L h' ((r, lst vs' k') :: news) → IntsAre vs' (up (digs W (p * q))) → (∀ p ∈ news, p.1 < r) → Q (.ref r) { s with heap := h', toks := tk' }) :
    wpAny (model Challenge.rw_sj0076_01.row.prog w) (ktrTop dp un gd cn cs L a ccd cl outer) (call (.ref 207) [.ref x, .ref y, .int W tw]) Q E s := by
  have hl1 : (up (digs W p)).length ≤ 30 := by rw [up_length]; exact digs_len_le hW hp
  have hl2 : (up (digs W q)).length ≤ 30 := by rw [up_length]; exact digs_len_le hW hq
  have hlP : (up (digs W p)).length = (digs W p).length := up_length _
  have hlR : (up (digs W q)).length = (digs W q).length := up_length _
  have hwi : (0 : Int) < (W : Int) := by omega
  have hwi2 : (W : Int) ≤ 6 := by omega
  refine wpAny_call ?_
  k_dflt cell_enter
  repeat' ((fail_if_success (with_reducible show Hold _)); first | (with_reducible refine Cn.out (by assumption) ?_) | (first | (with_reducible refine Co.ret (by assumption) ?_) | (with_reducible refine Co.brk (by assumption) ?_) | (with_reducible refine Co.cont (by assumption) ?_) | (with_reducible refine Cnt.out (by assumption) ?_; (try dsimp only))) | (k_unfold; (try dsimp only)) | ((with_reducible show wpAny _ _ (execs _ _) _ _ _); (first | ((fail_if_success (with_reducible refine Cn.seen (by first | exact Or.inl (by assumption) | exact Or.inr (by assumption)) ?_)); refine Cnt.gen ?_; intro qk hqk) | (with_reducible refine execs_one ?_) | (with_reducible refine execs_cnt ?_; intro qk hqn hqo))) | ((with_reducible show wpAny _ _ (call (Value.type "enumerate") _ _) _ _ _); refine Hold.intro ?_) | (k_here; (with_reducible show wpAny _ _ (binaryOp Operator.Mod (Value.int (Nat.cast _) _) (Value.int (Nat.cast _) _)) _ _ _); k_dflt (refine' mod_nat ?a ?_; (case a => omega); k_whole)) | (k_here; (with_reducible show wpAny _ _ (binaryOp Operator.FloorDiv (Value.int (Nat.cast _) _) (Value.int (Nat.cast _) _)) _ _ _); k_dflt (refine' floordiv_nat ?a ?b ?_; (case a => omega); (case b => omega); k_whole)) | (k_here; (with_reducible show wpAny _ _ (binaryOp Operator.Mult (Value.ref _) (Value.int _ _)) _ _ _); k_dflt (refine' zeros_C ?F ?N ?l ?a ?b ?_; (case F => k_asm); (case N => k_asm); (case l => k_mem); (case a => first | exact Int.natCast_nonneg _ | omega); (case b => omega); k_whole); intro r' h' vs' F' N' I' l1; (try k_lt l1); (try k_sweep)) | (k_here; (with_reducible show wpAny _ _ (call (Value.ref 46) _ _) _ _ _); k_dflt (refine' normal_C ?k1 ?k2 ?k3 ?k4 ?k5 ?k6 ?k7 ?k8 ?k9 ?m1 ?i1 ?p1 ?p2 ?_; (case k1 => k_asm); (case k2 => k_asm); (case k3 => k_asm); (case k4 => k_asm); (case k5 => k_asm); (case k6 => first | exact rfl | assumption); (case m1 => k_mem); (case i1 => l_ints); (case p1 => assumption); (case p2 => kst_p2); (case k7 => assumption); (case k8 => ktr_room); (case k9 => ktr_units); k_whole; intro r' h' tk' vs' F' N' I' l1; (try k_lt l1); (try k_sweep))) | (first | with_reducible refine TurnEnd.ret ?_ | with_reducible refine TurnEnd.brk ?_) | ((with_reducible show wpAny _ _ (pyIter _) _ _ _); refine Hold.intro ?_) | (k_end; wrow_close) | walk1 | (dsimp only; walk1) | (leave1; try dsimp only))
  rename News _ _ _ _ => N1
  rename Fr _ _ _ _ => F1
  refine name2 N1 (fun D l eD el => ?_)
  subst eD el
  have I1 := ‹IntsAre _ (up (List.replicate _ 0))›
  refine nameI I1 (fun zs ez => ?_)
  subst ez
  have e9 : (((((up (digs W p)).length : Nat) : Int)) + (((up (digs W q)).length : Nat) : Int)).toNat = (digs W p).length + (digs W q).length := by omega
  rw [e9] at I1
  refine Hold.out ?_
  refine' for_enum (σ := SMul) [l] [Str.ofString "b", Str.ofString "w", Str.ofString "mask", Str.ofString "found"] (fun _ => []) (fun st => [(l, lst st.vs st.k)])
    (fun i st => IntsAre st.vs (up st.l) ∧ Lim W st.l ∧ st.l.length = (digs W p).length + (digs W q).length ∧ nval W st.l = p % 2 ^ (W * i) * q) ⟨zs, 0, List.replicate ((digs W p).length + (digs W q).length) 0⟩ news rfl (fun _ => rfl) hx F1 N1 ?hb ?hin ?hcold ?hsep ?hP ?turn ?done
  case hb => exact trivial
  case hin => exact ⟨List.mem_cons_of_mem _ List.mem_cons_self, trivial⟩
  case hcold => exact fun p hp => by simp only [List.mem_cons, hp, or_true]
  case hsep => exact ⟨by k_all, trivial⟩
  case hP => exact ⟨I1, Lim.replicate, by simp, by simp [nval_replicate, Nat.mod_one]⟩
  case turn =>
    intro i v t z90 u h tk rest hi' hv z91 hcold hsep F2 N2
    refine hide fun G9 hG9 => ?_
    obtain ⟨hP1, hP2, hP3, hP5⟩ := z91
    obtain ⟨fvs, fk, fl⟩ := z90
    refine hG9 ?_
    clear hG9 G9
    obtain ⟨t9, rfl⟩ := ints_item hi hv
    have hil : i < (digs W p).length := by rw [hi.length, up_length] at hi'; exact hi'
    have hy' := hcold _ hy
    have hq9 := sep_head hsep
    clear hx hy N N1 F1 I1
    dsimp only [List.cons_append, List.nil_append] at N2 F2 hP1 hP2 hP3 hP5
    try k_fold
    repeat' ((fail_if_success (with_reducible show Hold _)); first | (with_reducible refine Cn.out (by assumption) ?_) | (first | (with_reducible refine Co.ret (by assumption) ?_) | (with_reducible refine Co.brk (by assumption) ?_) | (with_reducible refine Co.cont (by assumption) ?_) | (with_reducible refine Cnt.out (by assumption) ?_; (try dsimp only))) | (k_unfold; (try dsimp only)) | ((with_reducible show wpAny _ _ (execs _ _) _ _ _); (first | ((fail_if_success (with_reducible refine Cn.seen (by first | exact Or.inl (by assumption) | exact Or.inr (by assumption)) ?_)); refine Cnt.gen ?_; intro qk hqk) | (with_reducible refine execs_one ?_) | (with_reducible refine execs_cnt ?_; intro qk hqn hqo))) | ((with_reducible show wpAny _ _ (call (Value.type "enumerate") _ _) _ _ _); refine Hold.intro ?_) | (k_here; (with_reducible show wpAny _ _ (binaryOp Operator.Mod (Value.int (Nat.cast _) _) (Value.int (Nat.cast _) _)) _ _ _); k_dflt (refine' mod_nat ?a ?_; (case a => omega); k_whole)) | (k_here; (with_reducible show wpAny _ _ (binaryOp Operator.FloorDiv (Value.int (Nat.cast _) _) (Value.int (Nat.cast _) _)) _ _ _); k_dflt (refine' floordiv_nat ?a ?b ?_; (case a => omega); (case b => omega); k_whole)) | (k_here; (with_reducible show wpAny _ _ (binaryOp Operator.Mult (Value.ref _) (Value.int _ _)) _ _ _); k_dflt (refine' zeros_C ?F ?N ?l ?a ?b ?_; (case F => k_asm); (case N => k_asm); (case l => k_mem); (case a => first | exact Int.natCast_nonneg _ | omega); (case b => omega); k_whole); intro r' h' vs' F' N' I' l1; (try k_lt l1); (try k_sweep)) | (k_here; (with_reducible show wpAny _ _ (call (Value.ref 46) _ _) _ _ _); k_dflt (refine' normal_C ?k1 ?k2 ?k3 ?k4 ?k5 ?k6 ?k7 ?k8 ?k9 ?m1 ?i1 ?p1 ?p2 ?_; (case k1 => k_asm); (case k2 => k_asm); (case k3 => k_asm); (case k4 => k_asm); (case k5 => k_asm); (case k6 => first | exact rfl | assumption); (case m1 => k_mem); (case i1 => l_ints); (case p1 => assumption); (case p2 => kst_p2); (case k7 => assumption); (case k8 => ktr_room); (case k9 => ktr_units); k_whole; intro r' h' tk' vs' F' N' I' l1; (try k_lt l1); (try k_sweep))) | (first | with_reducible refine TurnEnd.ret ?_ | with_reducible refine TurnEnd.brk ?_) | ((with_reducible show wpAny _ _ (pyIter _) _ _ _); refine Hold.intro ?_) | (k_end; wrow_close) | walk1 | (dsimp only; walk1) | (leave1; try dsimp only))
    rename News _ _ _ _ => N1
    rename Fr _ _ _ _ => F1
    refine Hold.out ?_
    obtain ⟨ct0, hct⟩ := fr_map F1 (fun m => ∃ ct : Tok, m (Str.ofString "carry") = some (.int ((0 : Nat) : Int) ct)) ⟨_, rfl⟩
    refine' for_enum (σ := SMul2) [l] [Str.ofString "b", Str.ofString "w", Str.ofString "mask", Str.ofString "found", Str.ofString "at", Str.ofString "limb"] (fun st => [(Str.ofString "carry", .int (st.c : Int) st.t)]) (fun st => [(l, lst st.vs st.k)])
      (fun j st => IntsAre st.vs (up st.l) ∧ Lim W st.l ∧ st.l.length = (digs W p).length + (digs W q).length ∧ st.c < 2 ^ W ∧ nval W st.l + 2 ^ (W * (i + j)) * st.c = p % 2 ^ (W * i) * q + 2 ^ (W * i) * (digs W p).getD i 0 * (q % 2 ^ (W * j)) ∧ (∀ z, i + j ≤ z → st.l.getD z 0 = fl.getD z 0)) ⟨fvs, fk, fl, 0, ct0⟩ rest rfl (fun _ => rfl) hy' F1 N1 ?hb2 ?hin2 ?hcold2 ?hsep2 ?hP2 ?turn2 ?done2
    case hb2 => exact ⟨hct, trivial⟩
    case hin2 => exact ⟨by k_mem, trivial⟩
    case hcold2 => exact fun p hp => by simp only [List.mem_cons, hp, or_true]
    case hsep2 => exact ⟨hq9, trivial⟩
    case hP2 => exact ⟨hP1, hP2, hP3, Nat.two_pow_pos _, by simp [hP5, Nat.mod_one], fun _ _ => rfl⟩
    case turn2 =>
      intro j v t z90 u h tk rest2 hj' hv2 z91 hcold2 hsep2 F2 N2
      refine hide fun G9 hG9 => ?_
      obtain ⟨hG1, hG2, hG3, hG4, hG5, hG6⟩ := z91
      obtain ⟨gvs, gk, gl, c, ct⟩ := z90
      refine hG9 ?_
      clear hG9 G9
      obtain ⟨t8, rfl⟩ := ints_item hj hv2
      have hjl : j < (digs W q).length := by rw [hj.length, up_length] at hj'; exact hj'
      have hq8 := sep_head hsep2
      clear hq9 hsep hy' N1 F1 hcold
      dsimp only [List.cons_append, List.nil_append] at N2 F2 hG1 hG2 hG3 hG4 hG5 hG6
      have hgl : (up gl).length = (digs W p).length + (digs W q).length := by rw [up_length]; exact hG3
      have hgv : gvs.length = (digs W p).length + (digs W q).length := by rw [hG1.length]; exact hgl
      have hdv := digit64 hW hW2 p i
      have hdw := digit64 hW hW2 q j
      have hdd := (lim_digs hW p).getD i
      try k_fold
      repeat' ((fail_if_success (with_reducible show Hold _)); first | (with_reducible refine Cn.out (by assumption) ?_) | (first | (with_reducible refine Co.ret (by assumption) ?_) | (with_reducible refine Co.brk (by assumption) ?_) | (with_reducible refine Co.cont (by assumption) ?_) | (with_reducible refine Cnt.out (by assumption) ?_; (try dsimp only))) | (k_unfold; (try dsimp only)) | ((with_reducible show wpAny _ _ (execs _ _) _ _ _); (first | ((fail_if_success (with_reducible refine Cn.seen (by first | exact Or.inl (by assumption) | exact Or.inr (by assumption)) ?_)); refine Cnt.gen ?_; intro qk hqk) | (with_reducible refine execs_one ?_) | (with_reducible refine execs_cnt ?_; intro qk hqn hqo))) | ((with_reducible show wpAny _ _ (call (Value.type "enumerate") _ _) _ _ _); refine Hold.intro ?_) | (k_here; (with_reducible show wpAny _ _ (binaryOp Operator.Mod (Value.int (Nat.cast _) _) (Value.int (Nat.cast _) _)) _ _ _); k_dflt (refine' mod_nat ?a ?_; (case a => omega); k_whole)) | (k_here; (with_reducible show wpAny _ _ (binaryOp Operator.FloorDiv (Value.int (Nat.cast _) _) (Value.int (Nat.cast _) _)) _ _ _); k_dflt (refine' floordiv_nat ?a ?b ?_; (case a => omega); (case b => omega); k_whole)) | (k_here; (with_reducible show wpAny _ _ (binaryOp Operator.Mult (Value.ref _) (Value.int _ _)) _ _ _); k_dflt (refine' zeros_C ?F ?N ?l ?a ?b ?_; (case F => k_asm); (case N => k_asm); (case l => k_mem); (case a => first | exact Int.natCast_nonneg _ | omega); (case b => omega); k_whole); intro r' h' vs' F' N' I' l1; (try k_lt l1); (try k_sweep)) | (k_here; (with_reducible show wpAny _ _ (call (Value.ref 46) _ _) _ _ _); k_dflt (refine' normal_C ?k1 ?k2 ?k3 ?k4 ?k5 ?k6 ?k7 ?k8 ?k9 ?m1 ?i1 ?p1 ?p2 ?_; (case k1 => k_asm); (case k2 => k_asm); (case k3 => k_asm); (case k4 => k_asm); (case k5 => k_asm); (case k6 => first | exact rfl | assumption); (case m1 => k_mem); (case i1 => l_ints); (case p1 => assumption); (case p2 => kst_p2); (case k7 => assumption); (case k8 => ktr_room); (case k9 => ktr_units); k_whole; intro r' h' tk' vs' F' N' I' l1; (try k_lt l1); (try k_sweep))) | (first | with_reducible refine TurnEnd.ret ?_ | with_reducible refine TurnEnd.brk ?_) | ((with_reducible show wpAny _ _ (pyIter _) _ _ _); refine Hold.intro ?_) | (k_end; wrow_close) | walk1 | (dsimp only; walk1) | (leave1; try dsimp only))
      rename News _ _ _ _ => N3
      rename Fr _ _ _ _ => F3
      have eidx : ((i : Int) + (j : Int)).toNat = i + j := by omega
      have hij : i + j < gl.length := by omega
      have hset := nval_set (w := W) (l := gl) (k := i + j) ((c + (gl.getD (i + j) 0 + (digs W p).getD i 0 * (digs W q).getD j 0)) % 2 ^ W) hij
      obtain ⟨e1, e2⟩ := mul_turn hW hdd (hG2.getD (i + j)) hG4 hG5 hset
      have hlt := Nat.mod_lt (c + (gl.getD (i + j) 0 + (digs W p).getD i 0 * (digs W q).getD j 0)) (Nat.two_pow_pos W)
      rw [eidx] at N3
      refine TurnEnd.mk ⟨gvs.set (i + j) _, _, gl.set (i + j) ((c + (gl.getD (i + j) 0 + (digs W p).getD i 0 * (digs W q).getD j 0)) % 2 ^ W), (c + (gl.getD (i + j) 0 + (digs W p).getD i 0 * (digs W q).getD j 0)) / 2 ^ W, _⟩ F3 N3 ⟨some_int ?_, trivial⟩ ⟨rfl, rfl, rfl, rfl, rfl, rfl, trivial⟩ ⟨List.mem_cons_self, trivial⟩ (fun p hp => List.mem_cons_of_mem _ hp) ⟨hq8, trivial⟩ ⟨Intsup.set hG1 ?_, hG2.set hlt _, by simp [hG3], e2, e1, ?_⟩
      · dsimp only
        rw [eidx, up_getD, ← Int.natCast_mul, ← Int.natCast_add, ← Int.natCast_add, shr_nat]
      · rw [up_getD, ← Int.natCast_mul, ← Int.natCast_add, ← Int.natCast_add, and_mask]
      · intro z hz
        dsimp only
        rw [getD_set_ne (by omega (config := {}))]
        exact hG6 z (by omega)
    case done2 =>
      intro z90 u h tk z91 hsep2 F2 N2
      refine hide fun G9 hG9 => ?_
      obtain ⟨hG1, hG2, hG3, hG4, hG5, hG6⟩ := z91
      obtain ⟨gvs, gk, gl, c, ct⟩ := z90
      refine hG9 ?_
      clear hG9 G9
      have hq8 := sep_head hsep2
      clear hq9 hsep N1 F1 
      dsimp only [List.cons_append, List.nil_append] at N2 F2 hG1 hG2 hG3 hG4 hG5 hG6
      rw [hj.length, up_length] at hG5 hG6
      rw [Nat.mod_eq_of_lt (digs_lt hW q)] at hG5
      have hgl : (up gl).length = (digs W p).length + (digs W q).length := by rw [up_length]; exact hG3
      have hgv : gvs.length = (digs W p).length + (digs W q).length := by rw [hG1.length]; exact hgl
      have htop := mul_top hW hP2 hP5
      rw [← hG6 _ (Nat.le_refl _)] at htop
      have hij : i + (digs W q).length < gl.length := by omega
      have hset := nval_set (w := W) (l := gl) (k := i + (digs W q).length) c hij
      rw [htop, Nat.mul_zero, Nat.add_zero, hG5] at hset
      repeat' ((fail_if_success (with_reducible show Hold _)); first | (with_reducible refine Cn.out (by assumption) ?_) | (first | (with_reducible refine Co.ret (by assumption) ?_) | (with_reducible refine Co.brk (by assumption) ?_) | (with_reducible refine Co.cont (by assumption) ?_) | (with_reducible refine Cnt.out (by assumption) ?_; (try dsimp only))) | (k_unfold; (try dsimp only)) | ((with_reducible show wpAny _ _ (execs _ _) _ _ _); (first | ((fail_if_success (with_reducible refine Cn.seen (by first | exact Or.inl (by assumption) | exact Or.inr (by assumption)) ?_)); refine Cnt.gen ?_; intro qk hqk) | (with_reducible refine execs_one ?_) | (with_reducible refine execs_cnt ?_; intro qk hqn hqo))) | ((with_reducible show wpAny _ _ (call (Value.type "enumerate") _ _) _ _ _); refine Hold.intro ?_) | (k_here; (with_reducible show wpAny _ _ (binaryOp Operator.Mod (Value.int (Nat.cast _) _) (Value.int (Nat.cast _) _)) _ _ _); k_dflt (refine' mod_nat ?a ?_; (case a => omega); k_whole)) | (k_here; (with_reducible show wpAny _ _ (binaryOp Operator.FloorDiv (Value.int (Nat.cast _) _) (Value.int (Nat.cast _) _)) _ _ _); k_dflt (refine' floordiv_nat ?a ?b ?_; (case a => omega); (case b => omega); k_whole)) | (k_here; (with_reducible show wpAny _ _ (binaryOp Operator.Mult (Value.ref _) (Value.int _ _)) _ _ _); k_dflt (refine' zeros_C ?F ?N ?l ?a ?b ?_; (case F => k_asm); (case N => k_asm); (case l => k_mem); (case a => first | exact Int.natCast_nonneg _ | omega); (case b => omega); k_whole); intro r' h' vs' F' N' I' l1; (try k_lt l1); (try k_sweep)) | (k_here; (with_reducible show wpAny _ _ (call (Value.ref 46) _ _) _ _ _); k_dflt (refine' normal_C ?k1 ?k2 ?k3 ?k4 ?k5 ?k6 ?k7 ?k8 ?k9 ?m1 ?i1 ?p1 ?p2 ?_; (case k1 => k_asm); (case k2 => k_asm); (case k3 => k_asm); (case k4 => k_asm); (case k5 => k_asm); (case k6 => first | exact rfl | assumption); (case m1 => k_mem); (case i1 => l_ints); (case p1 => assumption); (case p2 => kst_p2); (case k7 => assumption); (case k8 => ktr_room); (case k9 => ktr_units); k_whole; intro r' h' tk' vs' F' N' I' l1; (try k_lt l1); (try k_sweep))) | (first | with_reducible refine TurnEnd.ret ?_ | with_reducible refine TurnEnd.brk ?_) | ((with_reducible show wpAny _ _ (pyIter _) _ _ _); refine Hold.intro ?_) | (k_end; wrow_close) | walk1 | (dsimp only; walk1) | (leave1; try dsimp only))
      rename News _ _ _ _ => N3
      rename Fr _ _ _ _ => F3
      have eidx : ((i : Int) + (((up (digs W q)).length : Nat) : Int)).toNat = i + (digs W q).length := by omega
      rw [eidx] at N3
      refine TurnEnd.mk ⟨gvs.set (i + (digs W q).length) _, _, gl.set (i + (digs W q).length) c⟩ F3 N3 trivial ⟨rfl, rfl, rfl, rfl, trivial⟩ ⟨List.mem_cons_self, trivial⟩ (fun p hp => List.mem_cons_of_mem _ hp) ⟨hq8, trivial⟩ ⟨Intsup.set hG1 rfl, hG2.set hG4 _, by simp [hG3], ?_⟩
      dsimp only
      rw [hset, mod_succ p, ← getD_digs hW p i, Nat.add_mul]
  case done =>
    intro z90 u h tk z91 hsep F2 N2
    refine hide fun G9 hG9 => ?_
    obtain ⟨hP1, hP2, hP3, hP5⟩ := z91
    obtain ⟨fvs, fk, fl⟩ := z90
    refine hG9 ?_
    clear hG9 G9
    have hq9 := sep_head hsep
    clear hx hy N N1 F1 I1
    dsimp only [List.cons_append, List.nil_append] at N2 F2 hP1 hP2 hP3 hP5
    rw [hi.length, up_length, Nat.mod_eq_of_lt (digs_lt hW p)] at hP5
    have hfl2 : fl.length ≤ 100 := by omega
    repeat' ((fail_if_success (with_reducible show Hold _)); first | (with_reducible refine Cn.out (by assumption) ?_) | (first | (with_reducible refine Co.ret (by assumption) ?_) | (with_reducible refine Co.brk (by assumption) ?_) | (with_reducible refine Co.cont (by assumption) ?_) | (with_reducible refine Cnt.out (by assumption) ?_; (try dsimp only))) | (k_unfold; (try dsimp only)) | ((with_reducible show wpAny _ _ (execs _ _) _ _ _); (first | ((fail_if_success (with_reducible refine Cn.seen (by first | exact Or.inl (by assumption) | exact Or.inr (by assumption)) ?_)); refine Cnt.gen ?_; intro qk hqk) | (with_reducible refine execs_one ?_) | (with_reducible refine execs_cnt ?_; intro qk hqn hqo))) | ((with_reducible show wpAny _ _ (call (Value.type "enumerate") _ _) _ _ _); refine Hold.intro ?_) | (k_here; (with_reducible show wpAny _ _ (binaryOp Operator.Mod (Value.int (Nat.cast _) _) (Value.int (Nat.cast _) _)) _ _ _); k_dflt (refine' mod_nat ?a ?_; (case a => omega); k_whole)) | (k_here; (with_reducible show wpAny _ _ (binaryOp Operator.FloorDiv (Value.int (Nat.cast _) _) (Value.int (Nat.cast _) _)) _ _ _); k_dflt (refine' floordiv_nat ?a ?b ?_; (case a => omega); (case b => omega); k_whole)) | (k_here; (with_reducible show wpAny _ _ (binaryOp Operator.Mult (Value.ref _) (Value.int _ _)) _ _ _); k_dflt (refine' zeros_C ?F ?N ?l ?a ?b ?_; (case F => k_asm); (case N => k_asm); (case l => k_mem); (case a => first | exact Int.natCast_nonneg _ | omega); (case b => omega); k_whole); intro r' h' vs' F' N' I' l1; (try k_lt l1); (try k_sweep)) | (k_here; (with_reducible show wpAny _ _ (call (Value.ref 46) _ _) _ _ _); k_dflt (refine' normal_C ?k1 ?k2 ?k3 ?k4 ?k5 ?k6 ?k7 ?k8 ?k9 ?m1 ?i1 ?p1 ?p2 ?_; (case k1 => k_asm); (case k2 => k_asm); (case k3 => k_asm); (case k4 => k_asm); (case k5 => k_asm); (case k6 => first | exact rfl | assumption); (case m1 => k_mem); (case i1 => l_ints); (case p1 => assumption); (case p2 => kst_p2); (case k7 => assumption); (case k8 => ktr_room); (case k9 => ktr_units); k_whole; intro r' h' tk' vs' F' N' I' l1; (try k_lt l1); (try k_sweep))) | (first | with_reducible refine TurnEnd.ret ?_ | with_reducible refine TurnEnd.brk ?_) | ((with_reducible show wpAny _ _ (pyIter _) _ _ _); refine Hold.intro ?_) | (k_end; wrow_close) | walk1 | (dsimp only; walk1) | (leave1; try dsimp only))
    rw [hP5] at *
    rename News _ _ _ _ => N3
    rename Fr _ _ _ _ => F3
    refine ret _ _ _ _ _ F3 (news_drop1 N3) ‹IntsAre _ (up (digs W (p * q)))› (by ktr_rel)
end
section
section
variable {w : World} {mean : ExcName → Option Value} {mg mb : Str → Option Value}
  {dp un : Nat} {gd : Option (List Code)} {cn : Str} {cs : Scope} {a : Addr} {ccd : Value} {cl : List (Str × Addr)} {outer : List Env} {A₀ : Around} {base h₀ : Heap} {L : Addr} {m : Str → Option Value} {news : Led} {s : Shared}
  {Q E : Value → Shared → Prop}
  (B : Below A₀ base outer h₀) (F : Fr h₀ L s.heap m) (X : (hd.heap_39 w.params).In h₀) (N : News h₀ L s.heap news) (T : Top hd.view_39 (looseW hd.view_39 []) mean mg mb h₀) (hk : cs.kind = .function)
include B F X N T hk
omit N in
set_option maxHeartbeats 4000000 in
theorem cong_take_C {x dx la lc ls : Addr} {avs cvs svs : List Value} {n1 n2 n3 : Nat} {p q S d : Nat} {W : Nat} {t1 t2 t3 t4 t5 t6 td tw : Tok} (hW : 0 < W) (hW2 : W ≤ 6) (hd1 : dp + 10 < recursionLimit) (hu : un + 40 < cLine)
    (hx : (x, instObj 126 dx) ∈ news) (ha : (la, lst avs n1) ∈ news) (hai : IntsAre avs (up (digs W p))) (hp : p < 2 ^ 5) (hc : (lc, lst cvs n2) ∈ news) (hci : IntsAre cvs (up (digs W q))) (hq : q < 2 ^ 5)
    (hsi : IntsAre svs (up (digs W S))) (hS : S < 2 ^ 6) (hd : 4 ≤ d) (hd2 : d ≤ 5)
    (hdx : ∀ p ∈ news, p.1 ≠ dx) (hlx : ls ≠ dx)
    (N : News h₀ L s.heap ((dx, congD w W la lc d ls t1 t2 t3 t4 t5 t6 td tw) :: (ls, lst svs n3) :: news))
    (ret : ∀ r pr pvs pk ls' svs' k' h' tk' t, Fr h₀ L h' m → News h₀ L h' ((r, tupO [.ref pr, .int ((d / 2 : Nat) : Int) t]) :: (pr, lst pvs pk) :: (dx, congD w W la lc d ls' t1 t2 t3 t4 t5 t6 td tw) :: (ls', lst svs' k') :: news) →
      IntsAre pvs (up (digs W ((S * p + q) % 2 ^ d / 2 ^ (d - d / 2)))) → IntsAre svs' (up (digs W ((S * p + q) % 2 ^ d))) → (@LT.lt Nat _ dx ls' ∧ AllLt ls' news) → (@LT.lt Nat _ dx pr ∧ @LT.lt Nat _ ls' pr ∧ AllLt pr news) → (@LT.lt Nat _ pr r ∧ @LT.lt Nat _ dx r ∧ @LT.lt Nat _ ls' r ∧ AllLt r news) → Q (.ref r) { s with heap := h', toks := tk' }) :
    wpAny (model Challenge.rw_sj0076_01.row.prog w) (ktrTop dp un gd cn cs L a ccd cl outer) (call (.ref 123) [.ref x]) Q E s := by
  have hwi : (0 : Int) < (W : Int) := by omega
  have hm1 : S * p < 2 ^ 11 := Nat.lt_of_lt_of_le (Nat.mul_lt_mul'' hS hp) (by decide)
  have hm2 : (S * p + q) % 2 ^ d < 2 ^ 5 := Nat.lt_of_lt_of_le (Nat.mod_lt _ (Nat.two_pow_pos _)) (Nat.pow_le_pow_right (by decide) hd2)
  have hwi2 : (W : Int) ≤ 6 := by omega
  have hdi : (4 : Int) ≤ (d : Int) := by omega
  have hdi2 : (d : Int) ≤ 5 := by omega
  refine wpAny_call ?_
  k_dflt (first | (refine' code_defC ?k1 ?k2 ?k3 ?k4 ?k5 ?kA ?kF ?kK ?k6 ?k7 ?k8 ?k9 ?kB ?kD ?_ ?c2 ?c3 ?c4; (case kA => exact rfl); (case kF => exact rfl); (case kK => first | exact rfl | assumption); (case k1 => k_asm); (case k2 => k_asm); (case k3 => k_asm); (case k4 => k_asm); (case k5 => k_asm); (case k6 => k_is); (case k7 => k_is); (case k8 => ktr_room); (case k9 => first | exact BindsTo.of_eq rfl | exact binds_K (by k_in) rfl (by k_is) rfl rfl rfl); (case kB => exact rfl); (case kD => decide +kernel); (case c2 => exact rfl); (case c3 => exact rfl); (case c4 => exact rfl); k_whole; intro g' L' h' tk' cells' FG' F' N' Y' B' X' T' l1; (try k_lt l1); k_cells Y'; (try simp only [List.cons_append, List.nil_append] at N'); (try dsimp only); (try k_lift B'); (try k_fold)) | (refine' code_def ?k1 ?k2 ?k3 ?k4 ?k5 ?kA ?kF ?kK ?k6 ?k7 ?k8 ?k9 ?kB ?_ ?c2 ?c3 ?c4 ?c5; (case kA => exact rfl); (case kF => exact rfl); (case kK => first | exact rfl | assumption); (case k1 => k_asm); (case k2 => k_asm); (case k3 => k_asm); (case k4 => k_asm); (case k5 => k_asm); (case k6 => k_is); (case k7 => k_is); (case k8 => ktr_room); (case k9 => first | exact BindsTo.of_eq rfl | exact binds_K (by k_in) rfl (by k_is) rfl rfl rfl); (case c5 => decide); (case kB => exact locs rfl); (case c2 => exact rfl); (case c3 => exact rfl); (case c4 => exact rfl); k_whole; intro g' L' h' FG' F' N' B' X' T'; (try dsimp only); (try k_lift B'); (try k_fold)))
  repeat' ((fail_if_success (with_reducible show Hold _)); first | (with_reducible refine Cn.out (by assumption) ?_) | (first | (with_reducible refine Co.ret (by assumption) ?_) | (with_reducible refine Co.brk (by assumption) ?_) | (with_reducible refine Co.cont (by assumption) ?_) | (with_reducible refine Cnt.out (by assumption) ?_; (try dsimp only))) | (k_unfold; (try dsimp only)) | ((with_reducible show wpAny _ _ (execs _ _) _ _ _); (first | ((fail_if_success (with_reducible refine Cn.seen (by first | exact Or.inl (by assumption) | exact Or.inr (by assumption)) ?_)); refine Cnt.gen ?_; intro qk hqk) | (with_reducible refine execs_one ?_) | (with_reducible refine execs_cnt ?_; intro qk hqn hqo))) | ((with_reducible show wpAny _ _ (call (Value.ref 46) _ _) _ _ _); refine Hold.intro ?_) | (k_here; (with_reducible show wpAny _ _ (binaryOp Operator.FloorDiv (Value.int (Nat.cast _) _) (Value.int 2 _)) _ _ _); k_dflt (refine' floordiv_two ?_; k_whole)) | (k_here; (with_reducible show wpAny _ _ (call (Value.ref 207) _ _) _ _ _); k_dflt (refine' mul_C ?k1 ?k2 ?k3 ?k4 ?k5 ?k6 ?k7 ?k71 ?k8 ?k9 ?m1 ?i1 ?p1 ?m2 ?i2 ?p2 ?_; (case k1 => k_asm); (case k2 => k_asm); (case k3 => k_asm); (case k4 => k_asm); (case k5 => k_asm); (case k6 => first | exact rfl | assumption); (case m1 => k_mem); (case i1 => l_ints); (case p1 => kst_p2); (case m2 => k_mem); (case i2 => l_ints); (case p2 => kst_p2); (case k7 => assumption); (case k71 => assumption); (case k8 => ktr_room); (case k9 => ktr_units); k_whole; intro r' h' tk' vs' k' F' N' I' l1; (try k_lt l1); (try k_sweep))) | (k_here; (with_reducible show wpAny _ _ (call (Value.ref 95) _ _) _ _ _); k_dflt (refine' low_C ?k1 ?k2 ?k3 ?k4 ?k5 ?k6 ?k7 ?k71 ?k8 ?k9 ?m1 ?i1 ?p1 ?p2 ?_; (case k1 => k_asm); (case k2 => k_asm); (case k3 => k_asm); (case k4 => k_asm); (case k5 => k_asm); (case k6 => first | exact rfl | assumption); (case m1 => k_mem); (case i1 => l_ints); (case p1 => kst_p2); (case p2 => kst_p2); (case k7 => assumption); (case k71 => assumption); (case k8 => ktr_room); (case k9 => ktr_units); k_whole; intro r' h' tk' vs' k' F' N' I' l1; (try k_lt l1); (try k_sweep))) | (k_here; (with_reducible show wpAny _ _ (call (Value.ref 81) _ _) _ _ _); k_dflt (refine' shift_right_Z ?k1 ?k2 ?k3 ?k4 ?k5 ?k6 ?k7 ?k71 ?k8 ?k9 ?m1 ?i1 ?p1 ?p2 ?p3 ?_; (case p3 => omega); (case k1 => k_asm); (case k2 => k_asm); (case k3 => k_asm); (case k4 => k_asm); (case k5 => k_asm); (case k6 => first | exact rfl | assumption); (case m1 => k_mem); (case i1 => l_ints); (case p1 => kst_p2); (case p2 => kst_p2); (case k7 => assumption); (case k71 => assumption); (case k8 => ktr_room); (case k9 => ktr_units); k_whole; intro r' h' tk' vs' k' F' N' I' l1; (try k_lt l1); (try k_sweep))) | (k_here; (with_reducible show wpAny _ _ (call (Value.ref 60) _ _) _ _ _); k_dflt (refine' add_C ?k1 ?k2 ?k3 ?k4 ?k5 ?k6 ?k7 ?k71 ?k8 ?k9 ?m1 ?i1 ?p1 ?m2 ?i2 ?p2 ?_; (case k1 => k_asm); (case k2 => k_asm); (case k3 => k_asm); (case k4 => k_asm); (case k5 => k_asm); (case k6 => first | exact rfl | assumption); (case m1 => k_mem); (case i1 => l_ints); (case p1 => kst_p2); (case m2 => k_mem); (case i2 => l_ints); (case p2 => kst_p2); (case k7 => assumption); (case k71 => assumption); (case k8 => ktr_room); (case k9 => ktr_units); k_whole; intro r' h' tk' vs' k' F' N' I' l1; (try k_lt l1); (try k_sweep))) | (k_here; (with_reducible show wpAny _ _ (binaryOp Operator.Mod (Value.int (Nat.cast _) _) (Value.int (Nat.cast _) _)) _ _ _); k_dflt (refine' mod_nat ?a ?_; (case a => omega); k_whole)) | (k_here; (with_reducible show wpAny _ _ (binaryOp Operator.FloorDiv (Value.int (Nat.cast _) _) (Value.int (Nat.cast _) _)) _ _ _); k_dflt (refine' floordiv_nat ?a ?b ?_; (case a => omega); (case b => omega); k_whole)) | (k_here; (with_reducible show wpAny _ _ (binaryOp Operator.Mult (Value.ref _) (Value.int _ _)) _ _ _); k_dflt (refine' zeros_C ?F ?N ?l ?a ?b ?_; (case F => k_asm); (case N => k_asm); (case l => k_mem); (case a => first | exact Int.natCast_nonneg _ | omega); (case b => omega); k_whole); intro r' h' vs' F' N' I' l1; (try k_lt l1); (try k_sweep)) | ((with_reducible show wpAny _ _ (call (Value.ref _) _ _) _ _ _); (k_here; k_dflt (first   | (refine' call_cls ?k1 ?k2 ?k3 ?k4 ?k5 ?k6 ?_; (case k1 => k_asm); (case k2 => k_asm); (case k3 => k_asm); (case k4 => k_is); (case k5 => k_is); (case k6 => k_is); k_whole; intro x' d' h' F' N' l1 l2; (try k_lt l1); (try k_lt2 l2); (try k_sweep); (first | (refine' code_defC ?k1 ?k2 ?k3 ?k4 ?k5 ?kA ?kF ?kK ?k6 ?k7 ?k8 ?k9 ?kB ?kD ?_ ?c2 ?c3 ?c4; (case kA => exact rfl); (case kF => exact rfl); (case kK => first | exact rfl | assumption); (case k1 => k_asm); (case k2 => k_asm); (case k3 => k_asm); (case k4 => k_asm); (case k5 => k_asm); (case k6 => k_is); (case k7 => k_is); (case k8 => ktr_room); (case k9 => first | exact BindsTo.of_eq rfl | exact binds_K (by k_in) rfl (by k_is) rfl rfl rfl); (case kB => exact rfl); (case kD => decide +kernel); (case c2 => exact rfl); (case c3 => exact rfl); (case c4 => exact rfl); k_whole; intro g' L' h' tk' cells' FG' F' N' Y' B' X' T' l1; (try k_lt l1); k_cells Y'; (try simp only [List.cons_append, List.nil_append] at N'); (try dsimp only); (try k_lift B'); (try k_fold)) | (refine' code_def ?k1 ?k2 ?k3 ?k4 ?k5 ?kA ?kF ?kK ?k6 ?k7 ?k8 ?k9 ?kB ?_ ?c2 ?c3 ?c4 ?c5; (case kA => exact rfl); (case kF => exact rfl); (case kK => first | exact rfl | assumption); (case k1 => k_asm); (case k2 => k_asm); (case k3 => k_asm); (case k4 => k_asm); (case k5 => k_asm); (case k6 => k_is); (case k7 => k_is); (case k8 => ktr_room); (case k9 => first | exact BindsTo.of_eq rfl | exact binds_K (by k_in) rfl (by k_is) rfl rfl rfl); (case c5 => decide); (case kB => exact locs rfl); (case c2 => exact rfl); (case c3 => exact rfl); (case c4 => exact rfl); k_whole; intro g' L' h' FG' F' N' B' X' T'; (try dsimp only); (try k_lift B'); (try k_fold))))   | (refine wpAny_call ?_; (first | (refine' code_defC ?k1 ?k2 ?k3 ?k4 ?k5 ?kA ?kF ?kK ?k6 ?k7 ?k8 ?k9 ?kB ?kD ?_ ?c2 ?c3 ?c4; (case kA => exact rfl); (case kF => exact rfl); (case kK => first | exact rfl | assumption); (case k1 => k_asm); (case k2 => k_asm); (case k3 => k_asm); (case k4 => k_asm); (case k5 => k_asm); (case k6 => k_is); (case k7 => k_is); (case k8 => ktr_room); (case k9 => first | exact BindsTo.of_eq rfl | exact binds_K (by k_in) rfl (by k_is) rfl rfl rfl); (case kB => exact rfl); (case kD => decide +kernel); (case c2 => exact rfl); (case c3 => exact rfl); (case c4 => exact rfl); k_whole; intro g' L' h' tk' cells' FG' F' N' Y' B' X' T' l1; (try k_lt l1); k_cells Y'; (try simp only [List.cons_append, List.nil_append] at N'); (try dsimp only); (try k_lift B'); (try k_fold)) | (refine' code_def ?k1 ?k2 ?k3 ?k4 ?k5 ?kA ?kF ?kK ?k6 ?k7 ?k8 ?k9 ?kB ?_ ?c2 ?c3 ?c4 ?c5; (case kA => exact rfl); (case kF => exact rfl); (case kK => first | exact rfl | assumption); (case k1 => k_asm); (case k2 => k_asm); (case k3 => k_asm); (case k4 => k_asm); (case k5 => k_asm); (case k6 => k_is); (case k7 => k_is); (case k8 => ktr_room); (case k9 => first | exact BindsTo.of_eq rfl | exact binds_K (by k_in) rfl (by k_is) rfl rfl rfl); (case c5 => decide); (case kB => exact locs rfl); (case c2 => exact rfl); (case c3 => exact rfl); (case c4 => exact rfl); k_whole; intro g' L' h' FG' F' N' B' X' T'; (try dsimp only); (try k_lift B'); (try k_fold))))))) | ((with_reducible show wpAny _ _ (exec (Stmt.While _ _ _ _) _) _ _ _); refine Hold.intro ?_) | (first | with_reducible refine TurnEnd.ret ?_ | with_reducible refine TurnEnd.brk ?_) | ((with_reducible show wpAny _ _ (pyIter _) _ _ _); refine Hold.intro ?_) | (k_end; wrow_close) | walk1 | (dsimp only; walk1) | (leave1; try dsimp only))
  have ed : ((d : Int) - ((d / 2 : Nat) : Int)).toNat = d - d / 2 := by omega
  rename News _ _ _ _ => N3
  rename Fr _ _ _ _ => F3
  have I1 := ‹IntsAre _ (up (digs W ((S * p + q) % 2 ^ d)))›
  have I2 := ‹IntsAre _ (up (digs W ((S * p + q) % 2 ^ d / 2 ^ ((d : Int) - ((d / 2 : Nat) : Int)).toNat)))›
  rw [ed] at I2
  refine ret _ _ _ _ _ _ _ _ _ _ F3 (news_take7 N3) I2 I1 ?_ ?_ ?_
  · exact ⟨by omega, by k_extra "less"⟩
  · exact ⟨by omega, by omega, by k_extra "less"⟩
  · exact ⟨by omega, by omega, by omega, by k_extra "less"⟩
omit N in
set_option maxHeartbeats 4000000 in
theorem lag_take_C {x dx lr : Addr} {rvs : List Value} {n3 : Nat} {row : List Nat} {pl : Nat} {W : Nat} {t1 t2 t3 td tw : Tok} (hW : 0 < W) (hW2 : W ≤ 6) (hd1 : dp + 10 < recursionLimit) (hu : un + 40 < cLine)
    (hx : (x, instObj 154 dx) ∈ news) (hri : IntsAre rvs (up row)) (hrl : Lim W row) (hpl : 0 < pl) (hpl2 : pl < row.length) (hlen : row.length ≤ 6)
    (hdx : ∀ p ∈ news, p.1 ≠ dx) (hlx : lr ≠ dx)
    (N : News h₀ L s.heap ((dx, lagD w W lr pl t1 t2 t3 td tw) :: (lr, lst rvs n3) :: news))
    (ret : ∀ r pr pvs pk ls' svs' k' h' tk' t, Fr h₀ L h' m → News h₀ L h' ((r, tupO [.ref pr, .int (W : Int) t]) :: (pr, lst pvs pk) :: (dx, lagD w W ls' pl t1 t2 t3 td tw) :: (ls', lst svs' k') :: news) →
      IntsAre pvs (up (digs W ((row.getD 0 0 + row.getD pl 0) % 2 ^ W))) → IntsAre svs' (up (row.drop 1 ++ [(row.getD 0 0 + row.getD pl 0) % 2 ^ W])) → (@LT.lt Nat _ dx ls' ∧ AllLt ls' news) → (@LT.lt Nat _ dx pr ∧ @LT.lt Nat _ ls' pr ∧ AllLt pr news) → (@LT.lt Nat _ pr r ∧ @LT.lt Nat _ dx r ∧ @LT.lt Nat _ ls' r ∧ AllLt r news) → Q (.ref r) { s with heap := h', toks := tk' }) :
    wpAny (model Challenge.rw_sj0076_01.row.prog w) (ktrTop dp un gd cn cs L a ccd cl outer) (call (.ref 151) [.ref x]) Q E s := by
  have hwi : (0 : Int) < (W : Int) := by omega
  have hwi2 : (W : Int) ≤ 6 := by omega
  have hul : (up row).length = row.length := up_length _
  have hg0 : (up row).getD 0 0 = ((row.getD 0 0 : Nat) : Int) := up_getD _ _
  refine wpAny_call ?_
  k_dflt (first | (refine' code_defC ?k1 ?k2 ?k3 ?k4 ?k5 ?kA ?kF ?kK ?k6 ?k7 ?k8 ?k9 ?kB ?kD ?_ ?c2 ?c3 ?c4; (case kA => exact rfl); (case kF => exact rfl); (case kK => first | exact rfl | assumption); (case k1 => k_asm); (case k2 => k_asm); (case k3 => k_asm); (case k4 => k_asm); (case k5 => k_asm); (case k6 => k_is); (case k7 => k_is); (case k8 => ktr_room); (case k9 => first | exact BindsTo.of_eq rfl | exact binds_K (by k_in) rfl (by k_is) rfl rfl rfl); (case kB => exact rfl); (case kD => decide +kernel); (case c2 => exact rfl); (case c3 => exact rfl); (case c4 => exact rfl); k_whole; intro g' L' h' tk' cells' FG' F' N' Y' B' X' T' l1; (try k_lt l1); k_cells Y'; (try simp only [List.cons_append, List.nil_append] at N'); (try dsimp only); (try k_lift B'); (try k_fold)) | (refine' code_def ?k1 ?k2 ?k3 ?k4 ?k5 ?kA ?kF ?kK ?k6 ?k7 ?k8 ?k9 ?kB ?_ ?c2 ?c3 ?c4 ?c5; (case kA => exact rfl); (case kF => exact rfl); (case kK => first | exact rfl | assumption); (case k1 => k_asm); (case k2 => k_asm); (case k3 => k_asm); (case k4 => k_asm); (case k5 => k_asm); (case k6 => k_is); (case k7 => k_is); (case k8 => ktr_room); (case k9 => first | exact BindsTo.of_eq rfl | exact binds_K (by k_in) rfl (by k_is) rfl rfl rfl); (case c5 => decide); (case kB => exact locs rfl); (case c2 => exact rfl); (case c3 => exact rfl); (case c4 => exact rfl); k_whole; intro g' L' h' FG' F' N' B' X' T'; (try dsimp only); (try k_lift B'); (try k_fold)))
  repeat' ((fail_if_success (with_reducible show Hold _)); first | (with_reducible refine Cn.out (by assumption) ?_) | (first | (with_reducible refine Co.ret (by assumption) ?_) | (with_reducible refine Co.brk (by assumption) ?_) | (with_reducible refine Co.cont (by assumption) ?_) | (with_reducible refine Cnt.out (by assumption) ?_; (try dsimp only))) | (k_unfold; (try dsimp only)) | ((with_reducible show wpAny _ _ (execs _ _) _ _ _); (first | ((fail_if_success (with_reducible refine Cn.seen (by first | exact Or.inl (by assumption) | exact Or.inr (by assumption)) ?_)); refine Cnt.gen ?_; intro qk hqk) | (with_reducible refine execs_one ?_) | (with_reducible refine execs_cnt ?_; intro qk hqn hqo))) | ((with_reducible show wpAny _ _ (call (Value.ref 46) _ _) _ _ _); refine Hold.intro ?_) | (k_here; (with_reducible show wpAny _ _ (binaryOp Operator.FloorDiv (Value.int (Nat.cast _) _) (Value.int 2 _)) _ _ _); k_dflt (refine' floordiv_two ?_; k_whole)) | (k_here; (with_reducible show wpAny _ _ (call (Value.ref 207) _ _) _ _ _); k_dflt (refine' mul_C ?k1 ?k2 ?k3 ?k4 ?k5 ?k6 ?k7 ?k71 ?k8 ?k9 ?m1 ?i1 ?p1 ?m2 ?i2 ?p2 ?_; (case k1 => k_asm); (case k2 => k_asm); (case k3 => k_asm); (case k4 => k_asm); (case k5 => k_asm); (case k6 => first | exact rfl | assumption); (case m1 => k_mem); (case i1 => l_ints); (case p1 => kst_p2); (case m2 => k_mem); (case i2 => l_ints); (case p2 => kst_p2); (case k7 => assumption); (case k71 => assumption); (case k8 => ktr_room); (case k9 => ktr_units); k_whole; intro r' h' tk' vs' k' F' N' I' l1; (try k_lt l1); (try k_sweep))) | (k_here; (with_reducible show wpAny _ _ (call (Value.ref 95) _ _) _ _ _); k_dflt (refine' low_C ?k1 ?k2 ?k3 ?k4 ?k5 ?k6 ?k7 ?k71 ?k8 ?k9 ?m1 ?i1 ?p1 ?p2 ?_; (case k1 => k_asm); (case k2 => k_asm); (case k3 => k_asm); (case k4 => k_asm); (case k5 => k_asm); (case k6 => first | exact rfl | assumption); (case m1 => k_mem); (case i1 => l_ints); (case p1 => kst_p2); (case p2 => kst_p2); (case k7 => assumption); (case k71 => assumption); (case k8 => ktr_room); (case k9 => ktr_units); k_whole; intro r' h' tk' vs' k' F' N' I' l1; (try k_lt l1); (try k_sweep))) | (k_here; (with_reducible show wpAny _ _ (call (Value.ref 81) _ _) _ _ _); k_dflt (refine' shift_right_Z ?k1 ?k2 ?k3 ?k4 ?k5 ?k6 ?k7 ?k71 ?k8 ?k9 ?m1 ?i1 ?p1 ?p2 ?p3 ?_; (case p3 => omega); (case k1 => k_asm); (case k2 => k_asm); (case k3 => k_asm); (case k4 => k_asm); (case k5 => k_asm); (case k6 => first | exact rfl | assumption); (case m1 => k_mem); (case i1 => l_ints); (case p1 => kst_p2); (case p2 => kst_p2); (case k7 => assumption); (case k71 => assumption); (case k8 => ktr_room); (case k9 => ktr_units); k_whole; intro r' h' tk' vs' k' F' N' I' l1; (try k_lt l1); (try k_sweep))) | (k_here; (with_reducible show wpAny _ _ (call (Value.ref 60) _ _) _ _ _); k_dflt (refine' add_C ?k1 ?k2 ?k3 ?k4 ?k5 ?k6 ?k7 ?k71 ?k8 ?k9 ?m1 ?i1 ?p1 ?m2 ?i2 ?p2 ?_; (case k1 => k_asm); (case k2 => k_asm); (case k3 => k_asm); (case k4 => k_asm); (case k5 => k_asm); (case k6 => first | exact rfl | assumption); (case m1 => k_mem); (case i1 => l_ints); (case p1 => kst_p2); (case m2 => k_mem); (case i2 => l_ints); (case p2 => kst_p2); (case k7 => assumption); (case k71 => assumption); (case k8 => ktr_room); (case k9 => ktr_units); k_whole; intro r' h' tk' vs' k' F' N' I' l1; (try k_lt l1); (try k_sweep))) | (k_here; (with_reducible show wpAny _ _ (binaryOp Operator.Mod (Value.int (Nat.cast _) _) (Value.int (Nat.cast _) _)) _ _ _); k_dflt (refine' mod_nat ?a ?_; (case a => omega); k_whole)) | (k_here; (with_reducible show wpAny _ _ (binaryOp Operator.FloorDiv (Value.int (Nat.cast _) _) (Value.int (Nat.cast _) _)) _ _ _); k_dflt (refine' floordiv_nat ?a ?b ?_; (case a => omega); (case b => omega); k_whole)) | (k_here; (with_reducible show wpAny _ _ (binaryOp Operator.Mult (Value.ref _) (Value.int _ _)) _ _ _); k_dflt (refine' zeros_C ?F ?N ?l ?a ?b ?_; (case F => k_asm); (case N => k_asm); (case l => k_mem); (case a => first | exact Int.natCast_nonneg _ | omega); (case b => omega); k_whole); intro r' h' vs' F' N' I' l1; (try k_lt l1); (try k_sweep)) | ((with_reducible show wpAny _ _ (call (Value.ref _) _ _) _ _ _); (k_here; k_dflt (first   | (refine' call_cls ?k1 ?k2 ?k3 ?k4 ?k5 ?k6 ?_; (case k1 => k_asm); (case k2 => k_asm); (case k3 => k_asm); (case k4 => k_is); (case k5 => k_is); (case k6 => k_is); k_whole; intro x' d' h' F' N' l1 l2; (try k_lt l1); (try k_lt2 l2); (try k_sweep); (first | (refine' code_defC ?k1 ?k2 ?k3 ?k4 ?k5 ?kA ?kF ?kK ?k6 ?k7 ?k8 ?k9 ?kB ?kD ?_ ?c2 ?c3 ?c4; (case kA => exact rfl); (case kF => exact rfl); (case kK => first | exact rfl | assumption); (case k1 => k_asm); (case k2 => k_asm); (case k3 => k_asm); (case k4 => k_asm); (case k5 => k_asm); (case k6 => k_is); (case k7 => k_is); (case k8 => ktr_room); (case k9 => first | exact BindsTo.of_eq rfl | exact binds_K (by k_in) rfl (by k_is) rfl rfl rfl); (case kB => exact rfl); (case kD => decide +kernel); (case c2 => exact rfl); (case c3 => exact rfl); (case c4 => exact rfl); k_whole; intro g' L' h' tk' cells' FG' F' N' Y' B' X' T' l1; (try k_lt l1); k_cells Y'; (try simp only [List.cons_append, List.nil_append] at N'); (try dsimp only); (try k_lift B'); (try k_fold)) | (refine' code_def ?k1 ?k2 ?k3 ?k4 ?k5 ?kA ?kF ?kK ?k6 ?k7 ?k8 ?k9 ?kB ?_ ?c2 ?c3 ?c4 ?c5; (case kA => exact rfl); (case kF => exact rfl); (case kK => first | exact rfl | assumption); (case k1 => k_asm); (case k2 => k_asm); (case k3 => k_asm); (case k4 => k_asm); (case k5 => k_asm); (case k6 => k_is); (case k7 => k_is); (case k8 => ktr_room); (case k9 => first | exact BindsTo.of_eq rfl | exact binds_K (by k_in) rfl (by k_is) rfl rfl rfl); (case c5 => decide); (case kB => exact locs rfl); (case c2 => exact rfl); (case c3 => exact rfl); (case c4 => exact rfl); k_whole; intro g' L' h' FG' F' N' B' X' T'; (try dsimp only); (try k_lift B'); (try k_fold))))   | (refine wpAny_call ?_; (first | (refine' code_defC ?k1 ?k2 ?k3 ?k4 ?k5 ?kA ?kF ?kK ?k6 ?k7 ?k8 ?k9 ?kB ?kD ?_ ?c2 ?c3 ?c4; (case kA => exact rfl); (case kF => exact rfl); (case kK => first | exact rfl | assumption); (case k1 => k_asm); (case k2 => k_asm); (case k3 => k_asm); (case k4 => k_asm); (case k5 => k_asm); (case k6 => k_is); (case k7 => k_is); (case k8 => ktr_room); (case k9 => first | exact BindsTo.of_eq rfl | exact binds_K (by k_in) rfl (by k_is) rfl rfl rfl); (case kB => exact rfl); (case kD => decide +kernel); (case c2 => exact rfl); (case c3 => exact rfl); (case c4 => exact rfl); k_whole; intro g' L' h' tk' cells' FG' F' N' Y' B' X' T' l1; (try k_lt l1); k_cells Y'; (try simp only [List.cons_append, List.nil_append] at N'); (try dsimp only); (try k_lift B'); (try k_fold)) | (refine' code_def ?k1 ?k2 ?k3 ?k4 ?k5 ?kA ?kF ?kK ?k6 ?k7 ?k8 ?k9 ?kB ?_ ?c2 ?c3 ?c4 ?c5; (case kA => exact rfl); (case kF => exact rfl); (case kK => first | exact rfl | assumption); (case k1 => k_asm); (case k2 => k_asm); (case k3 => k_asm); (case k4 => k_asm); (case k5 => k_asm); (case k6 => k_is); (case k7 => k_is); (case k8 => ktr_room); (case k9 => first | exact BindsTo.of_eq rfl | exact binds_K (by k_in) rfl (by k_is) rfl rfl rfl); (case c5 => decide); (case kB => exact locs rfl); (case c2 => exact rfl); (case c3 => exact rfl); (case c4 => exact rfl); k_whole; intro g' L' h' FG' F' N' B' X' T'; (try dsimp only); (try k_lift B'); (try k_fold))))))) | ((with_reducible show wpAny _ _ (exec (Stmt.While _ _ _ _) _) _ _ _); refine Hold.intro ?_) | (first | with_reducible refine TurnEnd.ret ?_ | with_reducible refine TurnEnd.brk ?_) | ((with_reducible show wpAny _ _ (pyIter _) _ _ _); refine Hold.intro ?_) | (k_end; wrow_close) | walk1 | (dsimp only; walk1) | (leave1; try dsimp only))
  rename News _ _ _ _ => N3
  rename Fr _ _ _ _ => F3
  have eX : ((up row).getD (Int.toNat 0) 0 + (up row).getD (pl : Int).toNat 0).fmod (1 * 2 ^ (W : Int).toNat) = (((row.getD 0 0 + row.getD pl 0) % 2 ^ W : Nat) : Int) := by
    have e0 : (1 : Int) * 2 ^ (W : Int).toNat = ((2 ^ W : Nat) : Int) := by rw [Int.one_mul, Int.toNat_natCast, cast_pow]
    rw [e0, up_getD, up_getD, ← Int.natCast_add, fmod_nat]
    rfl
  have I3 := ‹IntsAre _ (List.drop 1 (up row) ++ _)›
  rw [eX] at N3 I3
  rw [← up_drop, ← up_one, ← up_append] at I3
  refine Hold.out ?_
  refine' normal_C (ls := [(row.getD 0 0 + row.getD pl 0) % 2 ^ W]) (W := W) ?k1 F3 ?k3 N3 ?k5 ?k6 hW ?k8 ?k9 ?m1 (.cons _ _ .nil) ?e2 ?p2 ?_
  case k1 => k_asm
  case k3 => k_asm
  case k5 => k_asm
  case k6 => first | exact rfl | assumption
  case m1 => k_mem
  case e2 => exact .cons (Nat.mod_lt _ (Nat.two_pow_pos W)) .nil
  case p2 => exact (by decide : (1 : Nat) ≤ 100)
  case k8 => ktr_room
  case k9 => ktr_units
  intro r' h' tk' vs' F' N' I' l1
  have eV : nval W [(row.getD 0 0 + row.getD pl 0) % 2 ^ W] = (row.getD 0 0 + row.getD pl 0) % 2 ^ W := by simp [nval]
  rw [eV] at I'
  k_lt l1
  repeat' ((fail_if_success (with_reducible show Hold _)); first | (with_reducible refine Cn.out (by assumption) ?_) | (first | (with_reducible refine Co.ret (by assumption) ?_) | (with_reducible refine Co.brk (by assumption) ?_) | (with_reducible refine Co.cont (by assumption) ?_) | (with_reducible refine Cnt.out (by assumption) ?_; (try dsimp only))) | (k_unfold; (try dsimp only)) | ((with_reducible show wpAny _ _ (execs _ _) _ _ _); (first | ((fail_if_success (with_reducible refine Cn.seen (by first | exact Or.inl (by assumption) | exact Or.inr (by assumption)) ?_)); refine Cnt.gen ?_; intro qk hqk) | (with_reducible refine execs_one ?_) | (with_reducible refine execs_cnt ?_; intro qk hqn hqo))) | ((with_reducible show wpAny _ _ (call (Value.ref 46) _ _) _ _ _); refine Hold.intro ?_) | (k_here; (with_reducible show wpAny _ _ (binaryOp Operator.FloorDiv (Value.int (Nat.cast _) _) (Value.int 2 _)) _ _ _); k_dflt (refine' floordiv_two ?_; k_whole)) | (k_here; (with_reducible show wpAny _ _ (call (Value.ref 207) _ _) _ _ _); k_dflt (refine' mul_C ?k1 ?k2 ?k3 ?k4 ?k5 ?k6 ?k7 ?k71 ?k8 ?k9 ?m1 ?i1 ?p1 ?m2 ?i2 ?p2 ?_; (case k1 => k_asm); (case k2 => k_asm); (case k3 => k_asm); (case k4 => k_asm); (case k5 => k_asm); (case k6 => first | exact rfl | assumption); (case m1 => k_mem); (case i1 => l_ints); (case p1 => kst_p2); (case m2 => k_mem); (case i2 => l_ints); (case p2 => kst_p2); (case k7 => assumption); (case k71 => assumption); (case k8 => ktr_room); (case k9 => ktr_units); k_whole; intro r' h' tk' vs' k' F' N' I' l1; (try k_lt l1); (try k_sweep))) | (k_here; (with_reducible show wpAny _ _ (call (Value.ref 95) _ _) _ _ _); k_dflt (refine' low_C ?k1 ?k2 ?k3 ?k4 ?k5 ?k6 ?k7 ?k71 ?k8 ?k9 ?m1 ?i1 ?p1 ?p2 ?_; (case k1 => k_asm); (case k2 => k_asm); (case k3 => k_asm); (case k4 => k_asm); (case k5 => k_asm); (case k6 => first | exact rfl | assumption); (case m1 => k_mem); (case i1 => l_ints); (case p1 => kst_p2); (case p2 => kst_p2); (case k7 => assumption); (case k71 => assumption); (case k8 => ktr_room); (case k9 => ktr_units); k_whole; intro r' h' tk' vs' k' F' N' I' l1; (try k_lt l1); (try k_sweep))) | (k_here; (with_reducible show wpAny _ _ (call (Value.ref 81) _ _) _ _ _); k_dflt (refine' shift_right_Z ?k1 ?k2 ?k3 ?k4 ?k5 ?k6 ?k7 ?k71 ?k8 ?k9 ?m1 ?i1 ?p1 ?p2 ?p3 ?_; (case p3 => omega); (case k1 => k_asm); (case k2 => k_asm); (case k3 => k_asm); (case k4 => k_asm); (case k5 => k_asm); (case k6 => first | exact rfl | assumption); (case m1 => k_mem); (case i1 => l_ints); (case p1 => kst_p2); (case p2 => kst_p2); (case k7 => assumption); (case k71 => assumption); (case k8 => ktr_room); (case k9 => ktr_units); k_whole; intro r' h' tk' vs' k' F' N' I' l1; (try k_lt l1); (try k_sweep))) | (k_here; (with_reducible show wpAny _ _ (call (Value.ref 60) _ _) _ _ _); k_dflt (refine' add_C ?k1 ?k2 ?k3 ?k4 ?k5 ?k6 ?k7 ?k71 ?k8 ?k9 ?m1 ?i1 ?p1 ?m2 ?i2 ?p2 ?_; (case k1 => k_asm); (case k2 => k_asm); (case k3 => k_asm); (case k4 => k_asm); (case k5 => k_asm); (case k6 => first | exact rfl | assumption); (case m1 => k_mem); (case i1 => l_ints); (case p1 => kst_p2); (case m2 => k_mem); (case i2 => l_ints); (case p2 => kst_p2); (case k7 => assumption); (case k71 => assumption); (case k8 => ktr_room); (case k9 => ktr_units); k_whole; intro r' h' tk' vs' k' F' N' I' l1; (try k_lt l1); (try k_sweep))) | (k_here; (with_reducible show wpAny _ _ (binaryOp Operator.Mod (Value.int (Nat.cast _) _) (Value.int (Nat.cast _) _)) _ _ _); k_dflt (refine' mod_nat ?a ?_; (case a => omega); k_whole)) | (k_here; (with_reducible show wpAny _ _ (binaryOp Operator.FloorDiv (Value.int (Nat.cast _) _) (Value.int (Nat.cast _) _)) _ _ _); k_dflt (refine' floordiv_nat ?a ?b ?_; (case a => omega); (case b => omega); k_whole)) | (k_here; (with_reducible show wpAny _ _ (binaryOp Operator.Mult (Value.ref _) (Value.int _ _)) _ _ _); k_dflt (refine' zeros_C ?F ?N ?l ?a ?b ?_; (case F => k_asm); (case N => k_asm); (case l => k_mem); (case a => first | exact Int.natCast_nonneg _ | omega); (case b => omega); k_whole); intro r' h' vs' F' N' I' l1; (try k_lt l1); (try k_sweep)) | ((with_reducible show wpAny _ _ (call (Value.ref _) _ _) _ _ _); (k_here; k_dflt (first   | (refine' call_cls ?k1 ?k2 ?k3 ?k4 ?k5 ?k6 ?_; (case k1 => k_asm); (case k2 => k_asm); (case k3 => k_asm); (case k4 => k_is); (case k5 => k_is); (case k6 => k_is); k_whole; intro x' d' h' F' N' l1 l2; (try k_lt l1); (try k_lt2 l2); (try k_sweep); (first | (refine' code_defC ?k1 ?k2 ?k3 ?k4 ?k5 ?kA ?kF ?kK ?k6 ?k7 ?k8 ?k9 ?kB ?kD ?_ ?c2 ?c3 ?c4; (case kA => exact rfl); (case kF => exact rfl); (case kK => first | exact rfl | assumption); (case k1 => k_asm); (case k2 => k_asm); (case k3 => k_asm); (case k4 => k_asm); (case k5 => k_asm); (case k6 => k_is); (case k7 => k_is); (case k8 => ktr_room); (case k9 => first | exact BindsTo.of_eq rfl | exact binds_K (by k_in) rfl (by k_is) rfl rfl rfl); (case kB => exact rfl); (case kD => decide +kernel); (case c2 => exact rfl); (case c3 => exact rfl); (case c4 => exact rfl); k_whole; intro g' L' h' tk' cells' FG' F' N' Y' B' X' T' l1; (try k_lt l1); k_cells Y'; (try simp only [List.cons_append, List.nil_append] at N'); (try dsimp only); (try k_lift B'); (try k_fold)) | (refine' code_def ?k1 ?k2 ?k3 ?k4 ?k5 ?kA ?kF ?kK ?k6 ?k7 ?k8 ?k9 ?kB ?_ ?c2 ?c3 ?c4 ?c5; (case kA => exact rfl); (case kF => exact rfl); (case kK => first | exact rfl | assumption); (case k1 => k_asm); (case k2 => k_asm); (case k3 => k_asm); (case k4 => k_asm); (case k5 => k_asm); (case k6 => k_is); (case k7 => k_is); (case k8 => ktr_room); (case k9 => first | exact BindsTo.of_eq rfl | exact binds_K (by k_in) rfl (by k_is) rfl rfl rfl); (case c5 => decide); (case kB => exact locs rfl); (case c2 => exact rfl); (case c3 => exact rfl); (case c4 => exact rfl); k_whole; intro g' L' h' FG' F' N' B' X' T'; (try dsimp only); (try k_lift B'); (try k_fold))))   | (refine wpAny_call ?_; (first | (refine' code_defC ?k1 ?k2 ?k3 ?k4 ?k5 ?kA ?kF ?kK ?k6 ?k7 ?k8 ?k9 ?kB ?kD ?_ ?c2 ?c3 ?c4; (case kA => exact rfl); (case kF => exact rfl); (case kK => first | exact rfl | assumption); (case k1 => k_asm); (case k2 => k_asm); (case k3 => k_asm); (case k4 => k_asm); (case k5 => k_asm); (case k6 => k_is); (case k7 => k_is); (case k8 => ktr_room); (case k9 => first | exact BindsTo.of_eq rfl | exact binds_K (by k_in) rfl (by k_is) rfl rfl rfl); (case kB => exact rfl); (case kD => decide +kernel); (case c2 => exact rfl); (case c3 => exact rfl); (case c4 => exact rfl); k_whole; intro g' L' h' tk' cells' FG' F' N' Y' B' X' T' l1; (try k_lt l1); k_cells Y'; (try simp only [List.cons_append, List.nil_append] at N'); (try dsimp only); (try k_lift B'); (try k_fold)) | (refine' code_def ?k1 ?k2 ?k3 ?k4 ?k5 ?kA ?kF ?kK ?k6 ?k7 ?k8 ?k9 ?kB ?_ ?c2 ?c3 ?c4 ?c5; (case kA => exact rfl); (case kF => exact rfl); (case kK => first | exact rfl | assumption); (case k1 => k_asm); (case k2 => k_asm); (case k3 => k_asm); (case k4 => k_asm); (case k5 => k_asm); (case k6 => k_is); (case k7 => k_is); (case k8 => ktr_room); (case k9 => first | exact BindsTo.of_eq rfl | exact binds_K (by k_in) rfl (by k_is) rfl rfl rfl); (case c5 => decide); (case kB => exact locs rfl); (case c2 => exact rfl); (case c3 => exact rfl); (case c4 => exact rfl); k_whole; intro g' L' h' FG' F' N' B' X' T'; (try dsimp only); (try k_lift B'); (try k_fold))))))) | ((with_reducible show wpAny _ _ (exec (Stmt.While _ _ _ _) _) _ _ _); refine Hold.intro ?_) | (first | with_reducible refine TurnEnd.ret ?_ | with_reducible refine TurnEnd.brk ?_) | ((with_reducible show wpAny _ _ (pyIter _) _ _ _); refine Hold.intro ?_) | (k_end; wrow_close) | walk1 | (dsimp only; walk1) | (leave1; try dsimp only))
  rename News _ _ _ _ => N4
  rename Fr _ _ _ _ => F4
  refine ret _ _ _ _ _ _ _ _ _ _ F4 (news_take8 N4) I' I3 ?_ ?_ ?_
  · exact ⟨by omega, by k_extra "less"⟩
  · exact ⟨by omega, by omega, by k_extra "less"⟩
  · exact ⟨by omega, by omega, by omega, by k_extra "less"⟩
end
section
variable {w : World} {mean : ExcName → Option Value} {mg mb : Str → Option Value}
  {dp un : Nat} {gd : Option (List Code)} {cn : Str} {cs : Scope} {a : Addr} {ccd : Value} {cl : List (Str × Addr)} {outer : List Env} {A₀ : Around} {base h₀ : Heap} {L : Addr} {m : Str → Option Value} {news : Led} {s : Shared}
  {Q E : Value → Shared → Prop}
  (B : Below A₀ base outer h₀) (F : Fr h₀ L s.heap m) (X : (hd.heap_39 w.params).In h₀) (N : News h₀ L s.heap news) (T : Top hd.view_39 (looseW hd.view_39 []) mean mg mb h₀) (hk : cs.kind = .function)
include B F X N T hk
noncomputable def rbGo (W n : Nat) : Nat → Src → Nat → Nat → Src × Nat
  | 0, c, f, _ => (c, f % 2 ^ n)
  | fuel + 1, c, f, hv => if hv < n then rbGo W n fuel (c.next W) (f + c.part W * 2 ^ hv) (hv + c.many W) else (c, f % 2 ^ n)
noncomputable def rbits (W n : Nat) (c : Src) : Src × Nat := rbGo W n n c 0 0
omit B F X N T hk in
theorem rb_lt {f p h m : Nat} (hf : f < 2 ^ h) (hp : p < 2 ^ m) : f + p * 2 ^ h < 2 ^ (h + m) := by
  have h2 : (p + 1) * 2 ^ h ≤ 2 ^ m * 2 ^ h := Nat.mul_le_mul_right _ hp
  rw [Nat.add_mul, Nat.one_mul, ← Nat.pow_add, Nat.add_comm m] at h2
  omega
omit B F X N T hk in
theorem rbGo_step {W n fuel f hv : Nat} {c : Src} (h : hv < n) (hf : 0 < fuel) : rbGo W n fuel c f hv = rbGo W n (fuel - 1) (c.next W) (f + c.part W * 2 ^ hv) (hv + c.many W) := by
  obtain ⟨k, rfl⟩ : ∃ k, fuel = k + 1 := ⟨fuel - 1, by omega⟩
  show (if hv < n then _ else _) = _
  rw [if_pos h]; rfl
omit B F X N T hk in
theorem rbGo_end {W n fuel f hv : Nat} {c : Src} (h : ¬ hv < n) : rbGo W n fuel c f hv = (c, f % 2 ^ n) := by
  cases fuel with
  | zero => rfl
  | succ k => show (if hv < n then _ else _) = _; rw [if_neg h]
structure SRb where
  c : Src
  D : Obj
  ls : Addr
  svs : List Value
  k : Nat
  lf : Addr
  fvs : List Value
  fk : Nat
  f : Nat
  hv : Nat
  th : Tok
  fuel : Nat
omit N in
set_option maxHeartbeats 8000000 in
theorem random_bits_C {x dx ls : Addr} {D : Obj} {svs : List Value} {k3 n : Nat} {c : Src} {W : Nat} {tn tw : Tok} (hW : 0 < W) (hW2 : W ≤ 6) (hd1 : dp + 15 < recursionLimit) (hu : un + 60 < cLine)
    (hok : c.ok W) {n2 : Led} (hsub : ∀ p ∈ n2, p ∈ news) (hsrc : SrcIs w W n2 x dx D ls svs c) (hn : n ≤ 12) (hdx : ∀ p ∈ news, p.1 ≠ dx) (hls : ∀ p ∈ news, p.1 ≠ ls) (hlx : ls ≠ dx)
    (N : News h₀ L s.heap ((dx, D) :: (ls, lst svs k3) :: news))
    (ret : ∀ r vs' k' D' ls' svs' k3' h' tk', Fr h₀ L h' m → News h₀ L h' ((r, lst vs' k') :: (dx, D') :: (ls', lst svs' k3') :: news) → IntsAre vs' (up (digs W (rbits W n c).2)) → SrcIs w W n2 x dx D' ls' svs' (rbits W n c).1 →
      (ls' ≠ dx) → (∀ p ∈ news, p.1 ≠ ls') → (@LT.lt Nat _ dx r ∧ @LT.lt Nat _ ls' r ∧ AllLt r news) → Q (.ref r) { s with heap := h', toks := tk' }) :
    wpAny (model Challenge.rw_sj0076_01.row.prog w) (ktrTop dp un gd cn cs L a ccd cl outer) (call (.ref 172) [.ref x, .int n tn, .int W tw]) Q E s := by
  have hwi : (0 : Int) < (W : Int) := by omega
  have hwi2 : (W : Int) ≤ 6 := by omega
  have hni : (0 : Int) ≤ (n : Int) := by omega
  refine wpAny_call ?_
  k_dflt (first | (refine' code_defC ?k1 ?k2 ?k3 ?k4 ?k5 ?kA ?kF ?kK ?k6 ?k7 ?k8 ?k9 ?kB ?kD ?_ ?c2 ?c3 ?c4; (case kA => exact rfl); (case kF => exact rfl); (case kK => first | exact rfl | assumption); (case k1 => k_asm); (case k2 => k_asm); (case k3 => k_asm); (case k4 => k_asm); (case k5 => k_asm); (case k6 => k_is); (case k7 => k_is); (case k8 => ktr_room); (case k9 => first | exact BindsTo.of_eq rfl | exact binds_K (by k_in) rfl (by k_is) rfl rfl rfl); (case kB => exact rfl); (case kD => decide +kernel); (case c2 => exact rfl); (case c3 => exact rfl); (case c4 => exact rfl); k_whole; intro g' L' h' tk' cells' FG' F' N' Y' B' X' T' l1; (try k_lt l1); k_cells Y'; (try simp only [List.cons_append, List.nil_append] at N'); (try dsimp only); (try k_lift B'); (try k_fold)) | (refine' code_def ?k1 ?k2 ?k3 ?k4 ?k5 ?kA ?kF ?kK ?k6 ?k7 ?k8 ?k9 ?kB ?_ ?c2 ?c3 ?c4 ?c5; (case kA => exact rfl); (case kF => exact rfl); (case kK => first | exact rfl | assumption); (case k1 => k_asm); (case k2 => k_asm); (case k3 => k_asm); (case k4 => k_asm); (case k5 => k_asm); (case k6 => k_is); (case k7 => k_is); (case k8 => ktr_room); (case k9 => first | exact BindsTo.of_eq rfl | exact binds_K (by k_in) rfl (by k_is) rfl rfl rfl); (case c5 => decide); (case kB => exact locs rfl); (case c2 => exact rfl); (case c3 => exact rfl); (case c4 => exact rfl); k_whole; intro g' L' h' FG' F' N' B' X' T'; (try dsimp only); (try k_lift B'); (try k_fold)))
  repeat' ((fail_if_success (with_reducible show Hold _)); first | (with_reducible refine Cn.out (by assumption) ?_) | (first | (with_reducible refine Co.ret (by assumption) ?_) | (with_reducible refine Co.brk (by assumption) ?_) | (with_reducible refine Co.cont (by assumption) ?_) | (with_reducible refine Cnt.out (by assumption) ?_; (try dsimp only))) | (k_unfold; (try dsimp only)) | ((with_reducible show wpAny _ _ (execs _ _) _ _ _); (first | ((fail_if_success (with_reducible refine Cn.seen (by first | exact Or.inl (by assumption) | exact Or.inr (by assumption)) ?_)); refine Cnt.gen ?_; intro qk hqk) | (with_reducible refine execs_one ?_) | (with_reducible refine execs_cnt ?_; intro qk hqn hqo))) | (k_here; (with_reducible show wpAny _ _ (call (Value.ref 151) _ _) _ _ _); k_dflt (refine' lag_take_C ?k1 ?k2 ?k3 ?k5 ?k6 ?k7 ?k71 ?k8 ?k9 ?x1 ?a2 ?a3 ?a4 ?a5 ?a6 ?e1 ?e2 ?N ?_; (case N => k_asm); (case k1 => k_asm); (case k2 => k_asm); (case k3 => k_asm); (case k5 => k_asm); (case k6 => first | exact rfl | assumption); (case x1 => k_mem); (case a2 => l_ints); (case a3 => assumption); (case a4 => assumption); (case a5 => assumption); (case a6 => assumption); (case e1 => k_all); (case e2 => assumption); (case k7 => assumption); (case k71 => assumption); (case k8 => ktr_room); (case k9 => ktr_units); k_whole; intro r' pr' pvs' pk' ls' svs' k' h' tk' t' F' N' I1' I2' l1 l2 l3; (try k_sweep))) | (k_here; (with_reducible show wpAny _ _ (call (Value.ref 123) _ _) _ _ _); k_dflt (refine' cong_take_C ?k1 ?k2 ?k3 ?k5 ?k6 ?k7 ?k71 ?k8 ?k9 ?x1 ?a1 ?a2 ?a3 ?c1 ?c2 ?c3 ?s1 ?s2 ?d1 ?d2 ?e1 ?e2 ?N ?_; (case N => k_asm); (case k1 => k_asm); (case k2 => k_asm); (case k3 => k_asm); (case k5 => k_asm); (case k6 => first | exact rfl | assumption); (case x1 => k_mem); (case a1 => k_mem); (case a2 => l_ints); (case a3 => kst_p2); (case c1 => k_mem); (case c2 => l_ints); (case c3 => kst_p2); (case s1 => l_ints); (case s2 => kst_p2); (case d1 => kst_p2); (case d2 => kst_p2); (case e1 => k_all); (case e2 => assumption); (case k7 => assumption); (case k71 => assumption); (case k8 => ktr_room); (case k9 => ktr_units); k_whole; intro r' pr' pvs' pk' ls' svs' k' h' tk' t' F' N' I1' I2' l1 l2 l3; (try k_sweep))) | (k_here; (with_reducible show wpAny _ _ (binaryOp Operator.FloorDiv (Value.int (Nat.cast _) _) (Value.int 2 _)) _ _ _); k_dflt (refine' floordiv_two ?_; k_whole)) | (k_here; (with_reducible show wpAny _ _ (call (Value.ref 95) _ _) _ _ _); k_dflt (refine' low_C ?k1 ?k2 ?k3 ?k4 ?k5 ?k6 ?k7 ?k71 ?k8 ?k9 ?m1 ?i1 ?p1 ?p2 ?_; (case k1 => k_asm); (case k2 => k_asm); (case k3 => k_asm); (case k4 => k_asm); (case k5 => k_asm); (case k6 => first | exact rfl | assumption); (case m1 => k_mem); (case i1 => l_ints); (case p1 => kst_p2); (case p2 => kst_p2); (case k7 => assumption); (case k71 => assumption); (case k8 => ktr_room); (case k9 => ktr_units); k_whole; intro r' h' tk' vs' k' F' N' I' l1; (try k_lt l1); (try k_sweep))) | (k_here; (with_reducible show wpAny _ _ (call (Value.ref 74) _ _) _ _ _); k_dflt (refine' shift_left_C ?k1 ?k2 ?k3 ?k4 ?k5 ?k6 ?k7 ?k71 ?k8 ?k9 ?m1 ?i1 ?p1 ?p2 ?_; (case k1 => k_asm); (case k2 => k_asm); (case k3 => k_asm); (case k4 => k_asm); (case k5 => k_asm); (case k6 => first | exact rfl | assumption); (case m1 => k_mem); (case i1 => l_ints); (case p1 => kst_p2); (case p2 => kst_p2); (case k7 => assumption); (case k71 => assumption); (case k8 => ktr_room); (case k9 => ktr_units); k_whole; intro r' h' tk' vs' k' F' N' I' l1; (try k_lt l1); (try k_sweep))) | (k_here; (with_reducible show wpAny _ _ (call (Value.ref 60) _ _) _ _ _); k_dflt (refine' add_C ?k1 ?k2 ?k3 ?k4 ?k5 ?k6 ?k7 ?k71 ?k8 ?k9 ?m1 ?i1 ?p1 ?m2 ?i2 ?p2 ?_; (case k1 => k_asm); (case k2 => k_asm); (case k3 => k_asm); (case k4 => k_asm); (case k5 => k_asm); (case k6 => first | exact rfl | assumption); (case m1 => k_mem); (case i1 => l_ints); (case p1 => kst_p2); (case m2 => k_mem); (case i2 => l_ints); (case p2 => kst_p2); (case k7 => assumption); (case k71 => assumption); (case k8 => ktr_room); (case k9 => ktr_units); k_whole; intro r' h' tk' vs' k' F' N' I' l1; (try k_lt l1); (try k_sweep))) | (k_here; (with_reducible show wpAny _ _ (binaryOp Operator.Mod (Value.int (Nat.cast _) _) (Value.int (Nat.cast _) _)) _ _ _); k_dflt (refine' mod_nat ?a ?_; (case a => omega); k_whole)) | (k_here; (with_reducible show wpAny _ _ (binaryOp Operator.FloorDiv (Value.int (Nat.cast _) _) (Value.int (Nat.cast _) _)) _ _ _); k_dflt (refine' floordiv_nat ?a ?b ?_; (case a => omega); (case b => omega); k_whole)) | (k_here; (with_reducible show wpAny _ _ (binaryOp Operator.Mult (Value.ref _) (Value.int _ _)) _ _ _); k_dflt (refine' zeros_C ?F ?N ?l ?a ?b ?_; (case F => k_asm); (case N => k_asm); (case l => k_mem); (case a => first | exact Int.natCast_nonneg _ | omega); (case b => omega); k_whole); intro r' h' vs' F' N' I' l1; (try k_lt l1); (try k_sweep)) | ((with_reducible show wpAny _ _ (call (Value.ref _) _ _) _ _ _); (k_here; k_dflt (first   | (refine' call_cls ?k1 ?k2 ?k3 ?k4 ?k5 ?k6 ?_; (case k1 => k_asm); (case k2 => k_asm); (case k3 => k_asm); (case k4 => k_is); (case k5 => k_is); (case k6 => k_is); k_whole; intro x' d' h' F' N' l1 l2; (try k_lt l1); (try k_lt2 l2); (try k_sweep); (first | (refine' code_defC ?k1 ?k2 ?k3 ?k4 ?k5 ?kA ?kF ?kK ?k6 ?k7 ?k8 ?k9 ?kB ?kD ?_ ?c2 ?c3 ?c4; (case kA => exact rfl); (case kF => exact rfl); (case kK => first | exact rfl | assumption); (case k1 => k_asm); (case k2 => k_asm); (case k3 => k_asm); (case k4 => k_asm); (case k5 => k_asm); (case k6 => k_is); (case k7 => k_is); (case k8 => ktr_room); (case k9 => first | exact BindsTo.of_eq rfl | exact binds_K (by k_in) rfl (by k_is) rfl rfl rfl); (case kB => exact rfl); (case kD => decide +kernel); (case c2 => exact rfl); (case c3 => exact rfl); (case c4 => exact rfl); k_whole; intro g' L' h' tk' cells' FG' F' N' Y' B' X' T' l1; (try k_lt l1); k_cells Y'; (try simp only [List.cons_append, List.nil_append] at N'); (try dsimp only); (try k_lift B'); (try k_fold)) | (refine' code_def ?k1 ?k2 ?k3 ?k4 ?k5 ?kA ?kF ?kK ?k6 ?k7 ?k8 ?k9 ?kB ?_ ?c2 ?c3 ?c4 ?c5; (case kA => exact rfl); (case kF => exact rfl); (case kK => first | exact rfl | assumption); (case k1 => k_asm); (case k2 => k_asm); (case k3 => k_asm); (case k4 => k_asm); (case k5 => k_asm); (case k6 => k_is); (case k7 => k_is); (case k8 => ktr_room); (case k9 => first | exact BindsTo.of_eq rfl | exact binds_K (by k_in) rfl (by k_is) rfl rfl rfl); (case c5 => decide); (case kB => exact locs rfl); (case c2 => exact rfl); (case c3 => exact rfl); (case c4 => exact rfl); k_whole; intro g' L' h' FG' F' N' B' X' T'; (try dsimp only); (try k_lift B'); (try k_fold))))   | (refine wpAny_call ?_; (first | (refine' code_defC ?k1 ?k2 ?k3 ?k4 ?k5 ?kA ?kF ?kK ?k6 ?k7 ?k8 ?k9 ?kB ?kD ?_ ?c2 ?c3 ?c4; (case kA => exact rfl); (case kF => exact rfl); (case kK => first | exact rfl | assumption); (case k1 => k_asm); (case k2 => k_asm); (case k3 => k_asm); (case k4 => k_asm); (case k5 => k_asm); (case k6 => k_is); (case k7 => k_is); (case k8 => ktr_room); (case k9 => first | exact BindsTo.of_eq rfl | exact binds_K (by k_in) rfl (by k_is) rfl rfl rfl); (case kB => exact rfl); (case kD => decide +kernel); (case c2 => exact rfl); (case c3 => exact rfl); (case c4 => exact rfl); k_whole; intro g' L' h' tk' cells' FG' F' N' Y' B' X' T' l1; (try k_lt l1); k_cells Y'; (try simp only [List.cons_append, List.nil_append] at N'); (try dsimp only); (try k_lift B'); (try k_fold)) | (refine' code_def ?k1 ?k2 ?k3 ?k4 ?k5 ?kA ?kF ?kK ?k6 ?k7 ?k8 ?k9 ?kB ?_ ?c2 ?c3 ?c4 ?c5; (case kA => exact rfl); (case kF => exact rfl); (case kK => first | exact rfl | assumption); (case k1 => k_asm); (case k2 => k_asm); (case k3 => k_asm); (case k4 => k_asm); (case k5 => k_asm); (case k6 => k_is); (case k7 => k_is); (case k8 => ktr_room); (case k9 => first | exact BindsTo.of_eq rfl | exact binds_K (by k_in) rfl (by k_is) rfl rfl rfl); (case c5 => decide); (case kB => exact locs rfl); (case c2 => exact rfl); (case c3 => exact rfl); (case c4 => exact rfl); k_whole; intro g' L' h' FG' F' N' B' X' T'; (try dsimp only); (try k_lift B'); (try k_fold))))))) | ((with_reducible show wpAny _ _ (exec (Stmt.While _ _ _ _) _) _ _ _); refine Hold.intro ?_) | (first | with_reducible refine TurnEnd.ret ?_ | with_reducible refine TurnEnd.brk ?_) | ((with_reducible show wpAny _ _ (pyIter _) _ _ _); refine Hold.intro ?_) | (k_end; wrow_close) | walk1 | (dsimp only; walk1) | (leave1; try dsimp only))
  rename News _ _ _ _ => N1
  rename Fr _ _ _ _ => F1
  refine name2 N1 (fun tD lf0 eD el => ?_)
  subst eD el
  have hn1 : @Ne Nat lf0 dx := by omega
  have hn2 : @Ne Nat lf0 ls := by omega
  refine Hold.out ?_
  obtain ⟨th0, hth⟩ := fr_map F1 (fun m => ∃ th : Tok, m (Str.ofString "have") = some (.int ((0 : Nat) : Int) th)) ⟨_, rfl⟩
  refine' while_st (σ := SRb) [Str.ofString "source", Str.ofString "n", Str.ofString "w"] (fun st => [(Str.ofString "found", .ref st.lf), (Str.ofString "have", .int (st.hv : Int) st.th)]) (fun st => [(dx, st.D), (st.ls, lst st.svs st.k), (st.lf, lst st.fvs st.fk)])
    (fun st => st.c.ok W ∧ SrcIs w W n2 x dx st.D st.ls st.svs st.c ∧ (st.ls ≠ dx ∧ st.lf ≠ dx ∧ st.lf ≠ st.ls) ∧ IntsAre st.fvs (up (digs W st.f)) ∧ st.f < 2 ^ st.hv ∧ st.hv ≤ n + 6 ∧ n ≤ st.hv + st.fuel ∧ rbGo W n st.fuel st.c st.f st.hv = rbits W n c) (fun st => st.fuel)
    ⟨c, D, ls, svs, k3, lf0, [], 0, 0, 0, th0, n⟩ news F1 N1 ?hb ?hin ?hcold ?hsep ?hP ?turn ?hE
  case hb => exact ⟨rfl, hth, trivial⟩
  case hin => exact ⟨by k_mem, by k_mem, by k_mem, trivial⟩
  case hcold => exact fun p hp => by simp only [List.mem_cons, hp, or_true]
  case hsep => exact ⟨hdx, hls, by k_all, trivial⟩
  case hP => exact ⟨hok, hsrc, ⟨hlx, hn1, hn2⟩, by rw [digs_zero]; exact .nil, Nat.zero_lt_one, Nat.zero_le _, Nat.le_of_eq (Nat.zero_add n).symm, rfl⟩
  case hE => passes_own
  case turn =>
    intro z90 u h tk z91 hsep F2 N2
    refine hide fun G9 hG9 => ?_
    obtain ⟨q1, q2, ⟨q3, q4, q5⟩, q6, q7, q8, q9, q10⟩ := z91
    obtain ⟨c1, D1, ls1, svs1, k1, lf1, fvs, fk, f, hv, th, fuel⟩ := z90
    refine hG9 ?_
    clear hG9 G9
    have z1 := sep_head hsep
    have z2 := sep_head (sep_tail hsep)
    have z3 := sep_head (sep_tail (sep_tail hsep))
    clear N1 F1 N hsrc hdx hls hlx hok
    dsimp only [List.cons_append, List.nil_append] at N2 F2 q1 q2 q3 q4 q5 q6 q7 q8 q9 q10 z1 z2 z3
    have q11 := q1.part
    have q12 := q1.many hW hW2
    have q13 := q1.next
    have q14 : f < 2 ^ 18 := Nat.lt_of_lt_of_le q7 (Nat.pow_le_pow_right (by decide) (by omega))
    cases q2 with
    | @cong la lc ls avs cvs svs n1 n2 p q d S t1 t2 t3 t4 t5 t6 td tw hx ha hai hc hci hsi =>
      refine hide fun G9 hG9 => ?_
      obtain ⟨o1, o2, o3, o4, o5⟩ := q1
      refine hG9 ?_
      clear hG9 G9
      have hx' := hsub _ hx
      have ha' := hsub _ ha
      have hc' := hsub _ hc
      have o6 := Nat.lt_of_lt_of_le o5 (Nat.pow_le_pow_right (by decide) o4 : _ ≤ 2 ^ 5)
      simp only [Src.part, Src.many] at q11 q12
      have q15 := Nat.lt_of_lt_of_le q11 (Nat.pow_le_pow_right (by decide) q12.2 : _ ≤ 2 ^ 6)
      have q16 := Nat.mul_lt_mul'' q15 (Nat.pow_lt_pow_right (by decide) (by omega : hv < 19) : 2 ^ hv < 2 ^ 19)
      try k_fold
      repeat' ((fail_if_success (with_reducible show Hold _)); first | (with_reducible refine Cn.out (by assumption) ?_) | (first | (with_reducible refine Co.ret (by assumption) ?_) | (with_reducible refine Co.brk (by assumption) ?_) | (with_reducible refine Co.cont (by assumption) ?_) | (with_reducible refine Cnt.out (by assumption) ?_; (try dsimp only))) | (k_unfold; (try dsimp only)) | ((with_reducible show wpAny _ _ (execs _ _) _ _ _); (first | ((fail_if_success (with_reducible refine Cn.seen (by first | exact Or.inl (by assumption) | exact Or.inr (by assumption)) ?_)); refine Cnt.gen ?_; intro qk hqk) | (with_reducible refine execs_one ?_) | (with_reducible refine execs_cnt ?_; intro qk hqn hqo))) | (k_here; (with_reducible show wpAny _ _ (call (Value.ref 151) _ _) _ _ _); k_dflt (refine' lag_take_C ?k1 ?k2 ?k3 ?k5 ?k6 ?k7 ?k71 ?k8 ?k9 ?x1 ?a2 ?a3 ?a4 ?a5 ?a6 ?e1 ?e2 ?N ?_; (case N => k_asm); (case k1 => k_asm); (case k2 => k_asm); (case k3 => k_asm); (case k5 => k_asm); (case k6 => first | exact rfl | assumption); (case x1 => k_mem); (case a2 => l_ints); (case a3 => assumption); (case a4 => assumption); (case a5 => assumption); (case a6 => assumption); (case e1 => k_all); (case e2 => assumption); (case k7 => assumption); (case k71 => assumption); (case k8 => ktr_room); (case k9 => ktr_units); k_whole; intro r' pr' pvs' pk' ls' svs' k' h' tk' t' F' N' I1' I2' l1 l2 l3; (try k_sweep))) | (k_here; (with_reducible show wpAny _ _ (call (Value.ref 123) _ _) _ _ _); k_dflt (refine' cong_take_C ?k1 ?k2 ?k3 ?k5 ?k6 ?k7 ?k71 ?k8 ?k9 ?x1 ?a1 ?a2 ?a3 ?c1 ?c2 ?c3 ?s1 ?s2 ?d1 ?d2 ?e1 ?e2 ?N ?_; (case N => k_asm); (case k1 => k_asm); (case k2 => k_asm); (case k3 => k_asm); (case k5 => k_asm); (case k6 => first | exact rfl | assumption); (case x1 => k_mem); (case a1 => k_mem); (case a2 => l_ints); (case a3 => kst_p2); (case c1 => k_mem); (case c2 => l_ints); (case c3 => kst_p2); (case s1 => l_ints); (case s2 => kst_p2); (case d1 => kst_p2); (case d2 => kst_p2); (case e1 => k_all); (case e2 => assumption); (case k7 => assumption); (case k71 => assumption); (case k8 => ktr_room); (case k9 => ktr_units); k_whole; intro r' pr' pvs' pk' ls' svs' k' h' tk' t' F' N' I1' I2' l1 l2 l3; (try k_sweep))) | (k_here; (with_reducible show wpAny _ _ (binaryOp Operator.FloorDiv (Value.int (Nat.cast _) _) (Value.int 2 _)) _ _ _); k_dflt (refine' floordiv_two ?_; k_whole)) | (k_here; (with_reducible show wpAny _ _ (call (Value.ref 95) _ _) _ _ _); k_dflt (refine' low_C ?k1 ?k2 ?k3 ?k4 ?k5 ?k6 ?k7 ?k71 ?k8 ?k9 ?m1 ?i1 ?p1 ?p2 ?_; (case k1 => k_asm); (case k2 => k_asm); (case k3 => k_asm); (case k4 => k_asm); (case k5 => k_asm); (case k6 => first | exact rfl | assumption); (case m1 => k_mem); (case i1 => l_ints); (case p1 => kst_p2); (case p2 => kst_p2); (case k7 => assumption); (case k71 => assumption); (case k8 => ktr_room); (case k9 => ktr_units); k_whole; intro r' h' tk' vs' k' F' N' I' l1; (try k_lt l1); (try k_sweep))) | (k_here; (with_reducible show wpAny _ _ (call (Value.ref 74) _ _) _ _ _); k_dflt (refine' shift_left_C ?k1 ?k2 ?k3 ?k4 ?k5 ?k6 ?k7 ?k71 ?k8 ?k9 ?m1 ?i1 ?p1 ?p2 ?_; (case k1 => k_asm); (case k2 => k_asm); (case k3 => k_asm); (case k4 => k_asm); (case k5 => k_asm); (case k6 => first | exact rfl | assumption); (case m1 => k_mem); (case i1 => l_ints); (case p1 => kst_p2); (case p2 => kst_p2); (case k7 => assumption); (case k71 => assumption); (case k8 => ktr_room); (case k9 => ktr_units); k_whole; intro r' h' tk' vs' k' F' N' I' l1; (try k_lt l1); (try k_sweep))) | (k_here; (with_reducible show wpAny _ _ (call (Value.ref 60) _ _) _ _ _); k_dflt (refine' add_C ?k1 ?k2 ?k3 ?k4 ?k5 ?k6 ?k7 ?k71 ?k8 ?k9 ?m1 ?i1 ?p1 ?m2 ?i2 ?p2 ?_; (case k1 => k_asm); (case k2 => k_asm); (case k3 => k_asm); (case k4 => k_asm); (case k5 => k_asm); (case k6 => first | exact rfl | assumption); (case m1 => k_mem); (case i1 => l_ints); (case p1 => kst_p2); (case m2 => k_mem); (case i2 => l_ints); (case p2 => kst_p2); (case k7 => assumption); (case k71 => assumption); (case k8 => ktr_room); (case k9 => ktr_units); k_whole; intro r' h' tk' vs' k' F' N' I' l1; (try k_lt l1); (try k_sweep))) | (k_here; (with_reducible show wpAny _ _ (binaryOp Operator.Mod (Value.int (Nat.cast _) _) (Value.int (Nat.cast _) _)) _ _ _); k_dflt (refine' mod_nat ?a ?_; (case a => omega); k_whole)) | (k_here; (with_reducible show wpAny _ _ (binaryOp Operator.FloorDiv (Value.int (Nat.cast _) _) (Value.int (Nat.cast _) _)) _ _ _); k_dflt (refine' floordiv_nat ?a ?b ?_; (case a => omega); (case b => omega); k_whole)) | (k_here; (with_reducible show wpAny _ _ (binaryOp Operator.Mult (Value.ref _) (Value.int _ _)) _ _ _); k_dflt (refine' zeros_C ?F ?N ?l ?a ?b ?_; (case F => k_asm); (case N => k_asm); (case l => k_mem); (case a => first | exact Int.natCast_nonneg _ | omega); (case b => omega); k_whole); intro r' h' vs' F' N' I' l1; (try k_lt l1); (try k_sweep)) | ((with_reducible show wpAny _ _ (call (Value.ref _) _ _) _ _ _); (k_here; k_dflt (first   | (refine' call_cls ?k1 ?k2 ?k3 ?k4 ?k5 ?k6 ?_; (case k1 => k_asm); (case k2 => k_asm); (case k3 => k_asm); (case k4 => k_is); (case k5 => k_is); (case k6 => k_is); k_whole; intro x' d' h' F' N' l1 l2; (try k_lt l1); (try k_lt2 l2); (try k_sweep); (first | (refine' code_defC ?k1 ?k2 ?k3 ?k4 ?k5 ?kA ?kF ?kK ?k6 ?k7 ?k8 ?k9 ?kB ?kD ?_ ?c2 ?c3 ?c4; (case kA => exact rfl); (case kF => exact rfl); (case kK => first | exact rfl | assumption); (case k1 => k_asm); (case k2 => k_asm); (case k3 => k_asm); (case k4 => k_asm); (case k5 => k_asm); (case k6 => k_is); (case k7 => k_is); (case k8 => ktr_room); (case k9 => first | exact BindsTo.of_eq rfl | exact binds_K (by k_in) rfl (by k_is) rfl rfl rfl); (case kB => exact rfl); (case kD => decide +kernel); (case c2 => exact rfl); (case c3 => exact rfl); (case c4 => exact rfl); k_whole; intro g' L' h' tk' cells' FG' F' N' Y' B' X' T' l1; (try k_lt l1); k_cells Y'; (try simp only [List.cons_append, List.nil_append] at N'); (try dsimp only); (try k_lift B'); (try k_fold)) | (refine' code_def ?k1 ?k2 ?k3 ?k4 ?k5 ?kA ?kF ?kK ?k6 ?k7 ?k8 ?k9 ?kB ?_ ?c2 ?c3 ?c4 ?c5; (case kA => exact rfl); (case kF => exact rfl); (case kK => first | exact rfl | assumption); (case k1 => k_asm); (case k2 => k_asm); (case k3 => k_asm); (case k4 => k_asm); (case k5 => k_asm); (case k6 => k_is); (case k7 => k_is); (case k8 => ktr_room); (case k9 => first | exact BindsTo.of_eq rfl | exact binds_K (by k_in) rfl (by k_is) rfl rfl rfl); (case c5 => decide); (case kB => exact locs rfl); (case c2 => exact rfl); (case c3 => exact rfl); (case c4 => exact rfl); k_whole; intro g' L' h' FG' F' N' B' X' T'; (try dsimp only); (try k_lift B'); (try k_fold))))   | (refine wpAny_call ?_; (first | (refine' code_defC ?k1 ?k2 ?k3 ?k4 ?k5 ?kA ?kF ?kK ?k6 ?k7 ?k8 ?k9 ?kB ?kD ?_ ?c2 ?c3 ?c4; (case kA => exact rfl); (case kF => exact rfl); (case kK => first | exact rfl | assumption); (case k1 => k_asm); (case k2 => k_asm); (case k3 => k_asm); (case k4 => k_asm); (case k5 => k_asm); (case k6 => k_is); (case k7 => k_is); (case k8 => ktr_room); (case k9 => first | exact BindsTo.of_eq rfl | exact binds_K (by k_in) rfl (by k_is) rfl rfl rfl); (case kB => exact rfl); (case kD => decide +kernel); (case c2 => exact rfl); (case c3 => exact rfl); (case c4 => exact rfl); k_whole; intro g' L' h' tk' cells' FG' F' N' Y' B' X' T' l1; (try k_lt l1); k_cells Y'; (try simp only [List.cons_append, List.nil_append] at N'); (try dsimp only); (try k_lift B'); (try k_fold)) | (refine' code_def ?k1 ?k2 ?k3 ?k4 ?k5 ?kA ?kF ?kK ?k6 ?k7 ?k8 ?k9 ?kB ?_ ?c2 ?c3 ?c4 ?c5; (case kA => exact rfl); (case kF => exact rfl); (case kK => first | exact rfl | assumption); (case k1 => k_asm); (case k2 => k_asm); (case k3 => k_asm); (case k4 => k_asm); (case k5 => k_asm); (case k6 => k_is); (case k7 => k_is); (case k8 => ktr_room); (case k9 => first | exact BindsTo.of_eq rfl | exact binds_K (by k_in) rfl (by k_is) rfl rfl rfl); (case c5 => decide); (case kB => exact locs rfl); (case c2 => exact rfl); (case c3 => exact rfl); (case c4 => exact rfl); k_whole; intro g' L' h' FG' F' N' B' X' T'; (try dsimp only); (try k_lift B'); (try k_fold))))))) | ((with_reducible show wpAny _ _ (exec (Stmt.While _ _ _ _) _) _ _ _); refine Hold.intro ?_) | (first | with_reducible refine TurnEnd.ret ?_ | with_reducible refine TurnEnd.brk ?_) | ((with_reducible show wpAny _ _ (pyIter _) _ _ _); refine Hold.intro ?_) | (k_end; wrow_close) | walk1 | (dsimp only; walk1) | (leave1; try dsimp only))
      · rename News _ _ _ _ => N3
        rename Fr _ _ _ _ => F3
        have hlt : hv < n := by have := ‹(hv : Int) < (n : Int)›; omega
        have I2 := ‹IntsAre _ (up (digs W ((S * p + q) % 2 ^ d)))›
        have I3 := ‹IntsAre _ (up (digs W (f + (S * p + q) % 2 ^ d / 2 ^ (d - d / 2) * 2 ^ hv)))›
        refine WTurn.mk ⟨.cong _ _ _ _, _, _, _, _, _, _, _, f + (S * p + q) % 2 ^ d / 2 ^ (d - d / 2) * 2 ^ hv, hv + d / 2, _, fuel - 1⟩ F3 N3 ⟨rfl, some_int (Int.natCast_add _ _).symm, trivial⟩ ⟨rfl, rfl, rfl, trivial⟩ ⟨mem4, mem5, List.mem_cons_self, trivial⟩ (fun p hp => by simp only [List.mem_cons, hp, or_true]) ⟨z1, ?_, ?_, trivial⟩ ⟨q13, SrcIs.cong hx ha hai hc hci I2, ⟨?_, ?_, ?_⟩, I3, rb_lt q7 q11, ?_, ?_, ?_⟩ ?_
        · have w1 := ‹@LT.lt Nat _ dx _ ∧ AllLt _ ((lf1, lst fvs fk) :: news)›
          exact ne_of_all w1.2.2
        · k_all
        · k_ne
        · k_ne
        · k_ne
        · dsimp only; omega
        · dsimp only; omega
        · rw [← q10, rbGo_step hlt (by omega)]; rfl
        · dsimp only; omega
      · have hge : ¬ hv < n := by have := ‹¬ (hv : Int) < (n : Int)›; omega
        rw [rbGo_end hge] at q10
        rename News _ _ _ _ => N3
        rename Fr _ _ _ _ => F3
        rw [← q10] at ret
        exact ret _ _ _ _ _ _ _ _ _ F3 (news_take4 N3) ‹IntsAre _ (up (digs W (f % 2 ^ n)))› (SrcIs.cong hx ha hai hc hci hsi) q3 z2 ⟨by omega, by omega, by k_extra "less"⟩
    | @lag lr rvs row pl t1 t2 t3 td tw hx hri =>
      refine hide fun G9 hG9 => ?_
      obtain ⟨o1, o2, o3, o4⟩ := q1
      refine hG9 ?_
      clear hG9 G9
      have hx' := hsub _ hx
      simp only [Src.part, Src.many] at q11 q12
      have q15 := Nat.lt_of_lt_of_le q11 (Nat.pow_le_pow_right (by decide) q12.2 : _ ≤ 2 ^ 6)
      have q16 := Nat.mul_lt_mul'' q15 (Nat.pow_lt_pow_right (by decide) (by omega : hv < 19) : 2 ^ hv < 2 ^ 19)
      try k_fold
      repeat' ((fail_if_success (with_reducible show Hold _)); first | (with_reducible refine Cn.out (by assumption) ?_) | (first | (with_reducible refine Co.ret (by assumption) ?_) | (with_reducible refine Co.brk (by assumption) ?_) | (with_reducible refine Co.cont (by assumption) ?_) | (with_reducible refine Cnt.out (by assumption) ?_; (try dsimp only))) | (k_unfold; (try dsimp only)) | ((with_reducible show wpAny _ _ (execs _ _) _ _ _); (first | ((fail_if_success (with_reducible refine Cn.seen (by first | exact Or.inl (by assumption) | exact Or.inr (by assumption)) ?_)); refine Cnt.gen ?_; intro qk hqk) | (with_reducible refine execs_one ?_) | (with_reducible refine execs_cnt ?_; intro qk hqn hqo))) | (k_here; (with_reducible show wpAny _ _ (call (Value.ref 151) _ _) _ _ _); k_dflt (refine' lag_take_C ?k1 ?k2 ?k3 ?k5 ?k6 ?k7 ?k71 ?k8 ?k9 ?x1 ?a2 ?a3 ?a4 ?a5 ?a6 ?e1 ?e2 ?N ?_; (case N => k_asm); (case k1 => k_asm); (case k2 => k_asm); (case k3 => k_asm); (case k5 => k_asm); (case k6 => first | exact rfl | assumption); (case x1 => k_mem); (case a2 => l_ints); (case a3 => assumption); (case a4 => assumption); (case a5 => assumption); (case a6 => assumption); (case e1 => k_all); (case e2 => assumption); (case k7 => assumption); (case k71 => assumption); (case k8 => ktr_room); (case k9 => ktr_units); k_whole; intro r' pr' pvs' pk' ls' svs' k' h' tk' t' F' N' I1' I2' l1 l2 l3; (try k_sweep))) | (k_here; (with_reducible show wpAny _ _ (call (Value.ref 123) _ _) _ _ _); k_dflt (refine' cong_take_C ?k1 ?k2 ?k3 ?k5 ?k6 ?k7 ?k71 ?k8 ?k9 ?x1 ?a1 ?a2 ?a3 ?c1 ?c2 ?c3 ?s1 ?s2 ?d1 ?d2 ?e1 ?e2 ?N ?_; (case N => k_asm); (case k1 => k_asm); (case k2 => k_asm); (case k3 => k_asm); (case k5 => k_asm); (case k6 => first | exact rfl | assumption); (case x1 => k_mem); (case a1 => k_mem); (case a2 => l_ints); (case a3 => kst_p2); (case c1 => k_mem); (case c2 => l_ints); (case c3 => kst_p2); (case s1 => l_ints); (case s2 => kst_p2); (case d1 => kst_p2); (case d2 => kst_p2); (case e1 => k_all); (case e2 => assumption); (case k7 => assumption); (case k71 => assumption); (case k8 => ktr_room); (case k9 => ktr_units); k_whole; intro r' pr' pvs' pk' ls' svs' k' h' tk' t' F' N' I1' I2' l1 l2 l3; (try k_sweep))) | (k_here; (with_reducible show wpAny _ _ (binaryOp Operator.FloorDiv (Value.int (Nat.cast _) _) (Value.int 2 _)) _ _ _); k_dflt (refine' floordiv_two ?_; k_whole)) | (k_here; (with_reducible show wpAny _ _ (call (Value.ref 95) _ _) _ _ _); k_dflt (refine' low_C ?k1 ?k2 ?k3 ?k4 ?k5 ?k6 ?k7 ?k71 ?k8 ?k9 ?m1 ?i1 ?p1 ?p2 ?_; (case k1 => k_asm); (case k2 => k_asm); (case k3 => k_asm); (case k4 => k_asm); (case k5 => k_asm); (case k6 => first | exact rfl | assumption); (case m1 => k_mem); (case i1 => l_ints); (case p1 => kst_p2); (case p2 => kst_p2); (case k7 => assumption); (case k71 => assumption); (case k8 => ktr_room); (case k9 => ktr_units); k_whole; intro r' h' tk' vs' k' F' N' I' l1; (try k_lt l1); (try k_sweep))) | (k_here; (with_reducible show wpAny _ _ (call (Value.ref 74) _ _) _ _ _); k_dflt (refine' shift_left_C ?k1 ?k2 ?k3 ?k4 ?k5 ?k6 ?k7 ?k71 ?k8 ?k9 ?m1 ?i1 ?p1 ?p2 ?_; (case k1 => k_asm); (case k2 => k_asm); (case k3 => k_asm); (case k4 => k_asm); (case k5 => k_asm); (case k6 => first | exact rfl | assumption); (case m1 => k_mem); (case i1 => l_ints); (case p1 => kst_p2); (case p2 => kst_p2); (case k7 => assumption); (case k71 => assumption); (case k8 => ktr_room); (case k9 => ktr_units); k_whole; intro r' h' tk' vs' k' F' N' I' l1; (try k_lt l1); (try k_sweep))) | (k_here; (with_reducible show wpAny _ _ (call (Value.ref 60) _ _) _ _ _); k_dflt (refine' add_C ?k1 ?k2 ?k3 ?k4 ?k5 ?k6 ?k7 ?k71 ?k8 ?k9 ?m1 ?i1 ?p1 ?m2 ?i2 ?p2 ?_; (case k1 => k_asm); (case k2 => k_asm); (case k3 => k_asm); (case k4 => k_asm); (case k5 => k_asm); (case k6 => first | exact rfl | assumption); (case m1 => k_mem); (case i1 => l_ints); (case p1 => kst_p2); (case m2 => k_mem); (case i2 => l_ints); (case p2 => kst_p2); (case k7 => assumption); (case k71 => assumption); (case k8 => ktr_room); (case k9 => ktr_units); k_whole; intro r' h' tk' vs' k' F' N' I' l1; (try k_lt l1); (try k_sweep))) | (k_here; (with_reducible show wpAny _ _ (binaryOp Operator.Mod (Value.int (Nat.cast _) _) (Value.int (Nat.cast _) _)) _ _ _); k_dflt (refine' mod_nat ?a ?_; (case a => omega); k_whole)) | (k_here; (with_reducible show wpAny _ _ (binaryOp Operator.FloorDiv (Value.int (Nat.cast _) _) (Value.int (Nat.cast _) _)) _ _ _); k_dflt (refine' floordiv_nat ?a ?b ?_; (case a => omega); (case b => omega); k_whole)) | (k_here; (with_reducible show wpAny _ _ (binaryOp Operator.Mult (Value.ref _) (Value.int _ _)) _ _ _); k_dflt (refine' zeros_C ?F ?N ?l ?a ?b ?_; (case F => k_asm); (case N => k_asm); (case l => k_mem); (case a => first | exact Int.natCast_nonneg _ | omega); (case b => omega); k_whole); intro r' h' vs' F' N' I' l1; (try k_lt l1); (try k_sweep)) | ((with_reducible show wpAny _ _ (call (Value.ref _) _ _) _ _ _); (k_here; k_dflt (first   | (refine' call_cls ?k1 ?k2 ?k3 ?k4 ?k5 ?k6 ?_; (case k1 => k_asm); (case k2 => k_asm); (case k3 => k_asm); (case k4 => k_is); (case k5 => k_is); (case k6 => k_is); k_whole; intro x' d' h' F' N' l1 l2; (try k_lt l1); (try k_lt2 l2); (try k_sweep); (first | (refine' code_defC ?k1 ?k2 ?k3 ?k4 ?k5 ?kA ?kF ?kK ?k6 ?k7 ?k8 ?k9 ?kB ?kD ?_ ?c2 ?c3 ?c4; (case kA => exact rfl); (case kF => exact rfl); (case kK => first | exact rfl | assumption); (case k1 => k_asm); (case k2 => k_asm); (case k3 => k_asm); (case k4 => k_asm); (case k5 => k_asm); (case k6 => k_is); (case k7 => k_is); (case k8 => ktr_room); (case k9 => first | exact BindsTo.of_eq rfl | exact binds_K (by k_in) rfl (by k_is) rfl rfl rfl); (case kB => exact rfl); (case kD => decide +kernel); (case c2 => exact rfl); (case c3 => exact rfl); (case c4 => exact rfl); k_whole; intro g' L' h' tk' cells' FG' F' N' Y' B' X' T' l1; (try k_lt l1); k_cells Y'; (try simp only [List.cons_append, List.nil_append] at N'); (try dsimp only); (try k_lift B'); (try k_fold)) | (refine' code_def ?k1 ?k2 ?k3 ?k4 ?k5 ?kA ?kF ?kK ?k6 ?k7 ?k8 ?k9 ?kB ?_ ?c2 ?c3 ?c4 ?c5; (case kA => exact rfl); (case kF => exact rfl); (case kK => first | exact rfl | assumption); (case k1 => k_asm); (case k2 => k_asm); (case k3 => k_asm); (case k4 => k_asm); (case k5 => k_asm); (case k6 => k_is); (case k7 => k_is); (case k8 => ktr_room); (case k9 => first | exact BindsTo.of_eq rfl | exact binds_K (by k_in) rfl (by k_is) rfl rfl rfl); (case c5 => decide); (case kB => exact locs rfl); (case c2 => exact rfl); (case c3 => exact rfl); (case c4 => exact rfl); k_whole; intro g' L' h' FG' F' N' B' X' T'; (try dsimp only); (try k_lift B'); (try k_fold))))   | (refine wpAny_call ?_; (first | (refine' code_defC ?k1 ?k2 ?k3 ?k4 ?k5 ?kA ?kF ?kK ?k6 ?k7 ?k8 ?k9 ?kB ?kD ?_ ?c2 ?c3 ?c4; (case kA => exact rfl); (case kF => exact rfl); (case kK => first | exact rfl | assumption); (case k1 => k_asm); (case k2 => k_asm); (case k3 => k_asm); (case k4 => k_asm); (case k5 => k_asm); (case k6 => k_is); (case k7 => k_is); (case k8 => ktr_room); (case k9 => first | exact BindsTo.of_eq rfl | exact binds_K (by k_in) rfl (by k_is) rfl rfl rfl); (case kB => exact rfl); (case kD => decide +kernel); (case c2 => exact rfl); (case c3 => exact rfl); (case c4 => exact rfl); k_whole; intro g' L' h' tk' cells' FG' F' N' Y' B' X' T' l1; (try k_lt l1); k_cells Y'; (try simp only [List.cons_append, List.nil_append] at N'); (try dsimp only); (try k_lift B'); (try k_fold)) | (refine' code_def ?k1 ?k2 ?k3 ?k4 ?k5 ?kA ?kF ?kK ?k6 ?k7 ?k8 ?k9 ?kB ?_ ?c2 ?c3 ?c4 ?c5; (case kA => exact rfl); (case kF => exact rfl); (case kK => first | exact rfl | assumption); (case k1 => k_asm); (case k2 => k_asm); (case k3 => k_asm); (case k4 => k_asm); (case k5 => k_asm); (case k6 => k_is); (case k7 => k_is); (case k8 => ktr_room); (case k9 => first | exact BindsTo.of_eq rfl | exact binds_K (by k_in) rfl (by k_is) rfl rfl rfl); (case c5 => decide); (case kB => exact locs rfl); (case c2 => exact rfl); (case c3 => exact rfl); (case c4 => exact rfl); k_whole; intro g' L' h' FG' F' N' B' X' T'; (try dsimp only); (try k_lift B'); (try k_fold))))))) | ((with_reducible show wpAny _ _ (exec (Stmt.While _ _ _ _) _) _ _ _); refine Hold.intro ?_) | (first | with_reducible refine TurnEnd.ret ?_ | with_reducible refine TurnEnd.brk ?_) | ((with_reducible show wpAny _ _ (pyIter _) _ _ _); refine Hold.intro ?_) | (k_end; wrow_close) | walk1 | (dsimp only; walk1) | (leave1; try dsimp only))
      · rename News _ _ _ _ => N3
        rename Fr _ _ _ _ => F3
        have hlt : hv < n := by have := ‹(hv : Int) < (n : Int)›; omega
        have I2 := ‹IntsAre _ (up (row.drop 1 ++ [(row.getD 0 0 + row.getD pl 0) % 2 ^ W]))›
        have I3 := ‹IntsAre _ (up (digs W (f + (row.getD 0 0 + row.getD pl 0) % 2 ^ W * 2 ^ hv)))›
        refine WTurn.mk ⟨.lag _ _, _, _, _, _, _, _, _, f + (row.getD 0 0 + row.getD pl 0) % 2 ^ W * 2 ^ hv, hv + W, _, fuel - 1⟩ F3 N3 ⟨rfl, some_int (Int.natCast_add _ _).symm, trivial⟩ ⟨rfl, rfl, rfl, trivial⟩ ⟨mem4, mem5, List.mem_cons_self, trivial⟩ (fun p hp => by simp only [List.mem_cons, hp, or_true]) ⟨z1, ?_, ?_, trivial⟩ ⟨q13, SrcIs.lag hx I2, ⟨?_, ?_, ?_⟩, I3, rb_lt q7 q11, ?_, ?_, ?_⟩ ?_
        · have w1 := ‹@LT.lt Nat _ dx _ ∧ AllLt _ ((lf1, lst fvs fk) :: news)›
          exact ne_of_all w1.2.2
        · k_all
        · k_ne
        · k_ne
        · k_ne
        · dsimp only; omega
        · dsimp only; omega
        · rw [← q10, rbGo_step hlt (by omega)]; rfl
        · dsimp only; omega
      · have hge : ¬ hv < n := by have := ‹¬ (hv : Int) < (n : Int)›; omega
        rw [rbGo_end hge] at q10
        rename News _ _ _ _ => N3
        rename Fr _ _ _ _ => F3
        rw [← q10] at ret
        exact ret _ _ _ _ _ _ _ _ _ F3 (news_take4 N3) ‹IntsAre _ (up (digs W (f % 2 ^ n)))› (SrcIs.lag hx hri) q3 z2 ⟨by omega, by omega, by k_extra "less"⟩
end
section
variable {w : World} {mean : ExcName → Option Value} {mg mb : Str → Option Value}
  {dp un : Nat} {gd : Option (List Code)} {cn : Str} {cs : Scope} {a : Addr} {ccd : Value} {cl : List (Str × Addr)} {outer : List Env} {A₀ : Around} {base h₀ : Heap} {L : Addr} {m : Str → Option Value} {news : Led} {s : Shared}
  {Q E : Value → Shared → Prop}
  (B : Below A₀ base outer h₀) (F : Fr h₀ L s.heap m) (X : (hd.heap_39 w.params).In h₀) (N : News h₀ L s.heap news) (T : Top hd.view_39 (looseW hd.view_39 []) mean mg mb h₀) (hk : cs.kind = .function)
include B F X N T hk
omit B F X N T hk in
theorem fmod_one (n W : Nat) : (n : Int).fmod (1 * 2 ^ (W : Int).toNat) = ((n % 2 ^ W : Nat) : Int) := by
  rw [Int.one_mul, Int.toNat_natCast, ← cast_pow, fmod_nat]
omit B F X N T hk in
theorem fmod_pow (n W : Nat) : (n : Int).fmod (2 ^ (W : Int).toNat) = ((n % 2 ^ W : Nat) : Int) := by
  rw [Int.toNat_natCast, ← cast_pow, fmod_nat]
structure SNum where
  vs : List Value
  k : Nat
  l : List Nat
  r : Nat
  t : Tok
set_option maxHeartbeats 4000000 in
theorem small_number_C {n W : Nat} {tn tw : Tok} (hW : 0 < W) (hW2 : W ≤ 6) (hd1 : dp + 2 < recursionLimit) (hu : un + 11 < cLine) (hn : n < 2 ^ 30)
    (ret : ∀ r h' tk' vs' k', Fr h₀ L h' m → News h₀ L h' ((r, lst vs' k') :: news) → IntsAre vs' (up (digs W n)) → (∀ p ∈ news, p.1 < r) → Q (.ref r) { s with heap := h', toks := tk' }) :
    wpAny (model Challenge.rw_sj0076_01.row.prog w) (ktrTop dp un gd cn cs L a ccd cl outer) (call (.ref 193) [.int n tn, .int W tw]) Q E s := by
  have hwi : (0 : Int) < (W : Int) := by omega
  have hwi2 : (W : Int) ≤ 6 := by omega
  have hlen : (digs W n).length ≤ 30 := digs_len_le hW hn
  refine wpAny_call ?_
  k_dflt (first | (refine' code_defC ?k1 ?k2 ?k3 ?k4 ?k5 ?kA ?kF ?kK ?k6 ?k7 ?k8 ?k9 ?kB ?kD ?_ ?c2 ?c3 ?c4; (case kA => exact rfl); (case kF => exact rfl); (case kK => first | exact rfl | assumption); (case k1 => k_asm); (case k2 => k_asm); (case k3 => k_asm); (case k4 => k_asm); (case k5 => k_asm); (case k6 => k_is); (case k7 => k_is); (case k8 => ktr_room); (case k9 => first | exact BindsTo.of_eq rfl | exact binds_K (by k_in) rfl (by k_is) rfl rfl rfl); (case kB => exact rfl); (case kD => decide +kernel); (case c2 => exact rfl); (case c3 => exact rfl); (case c4 => exact rfl); k_whole; intro g' L' h' tk' cells' FG' F' N' Y' B' X' T' l1; (try k_lt l1); k_cells Y'; (try simp only [List.cons_append, List.nil_append] at N'); (try dsimp only); (try k_lift B'); (try k_fold)) | (refine' code_def ?k1 ?k2 ?k3 ?k4 ?k5 ?kA ?kF ?kK ?k6 ?k7 ?k8 ?k9 ?kB ?_ ?c2 ?c3 ?c4 ?c5; (case kA => exact rfl); (case kF => exact rfl); (case kK => first | exact rfl | assumption); (case k1 => k_asm); (case k2 => k_asm); (case k3 => k_asm); (case k4 => k_asm); (case k5 => k_asm); (case k6 => k_is); (case k7 => k_is); (case k8 => ktr_room); (case k9 => first | exact BindsTo.of_eq rfl | exact binds_K (by k_in) rfl (by k_is) rfl rfl rfl); (case c5 => decide); (case kB => exact locs rfl); (case c2 => exact rfl); (case c3 => exact rfl); (case c4 => exact rfl); k_whole; intro g' L' h' FG' F' N' B' X' T'; (try dsimp only); (try k_lift B'); (try k_fold)))
  repeat' ((fail_if_success (with_reducible show Hold _)); first | (with_reducible refine Cn.out (by assumption) ?_) | (first | (with_reducible refine Co.ret (by assumption) ?_) | (with_reducible refine Co.brk (by assumption) ?_) | (with_reducible refine Co.cont (by assumption) ?_) | (with_reducible refine Cnt.out (by assumption) ?_; (try dsimp only))) | (k_unfold; (try dsimp only)) | ((with_reducible show wpAny _ _ (execs _ _) _ _ _); (first | ((fail_if_success (with_reducible refine Cn.seen (by first | exact Or.inl (by assumption) | exact Or.inr (by assumption)) ?_)); refine Cnt.gen ?_; intro qk hqk) | (with_reducible refine execs_one ?_) | (with_reducible refine execs_cnt ?_; intro qk hqn hqo))) | (k_here; (with_reducible show wpAny _ _ (binaryOp Operator.FloorDiv (Value.int (Nat.cast _) _) (Value.int 2 _)) _ _ _); k_dflt (refine' floordiv_two ?_; k_whole)) | (k_here; (with_reducible show wpAny _ _ (binaryOp Operator.Mod (Value.int (Nat.cast _) _) (Value.int (Nat.cast _) _)) _ _ _); k_dflt (refine' mod_nat ?a ?_; (case a => omega); k_whole)) | (k_here; (with_reducible show wpAny _ _ (binaryOp Operator.FloorDiv (Value.int (Nat.cast _) _) (Value.int (Nat.cast _) _)) _ _ _); k_dflt (refine' floordiv_nat ?a ?b ?_; (case a => omega); (case b => omega); k_whole)) | (k_here; (with_reducible show wpAny _ _ (binaryOp Operator.Mult (Value.ref _) (Value.int _ _)) _ _ _); k_dflt (refine' zeros_C ?F ?N ?l ?a ?b ?_; (case F => k_asm); (case N => k_asm); (case l => k_mem); (case a => first | exact Int.natCast_nonneg _ | omega); (case b => omega); k_whole); intro r' h' vs' F' N' I' l1; (try k_lt l1); (try k_sweep)) | ((with_reducible show wpAny _ _ (exec (Stmt.While _ _ _ _) _) _ _ _); refine Hold.intro ?_) | (first | with_reducible refine TurnEnd.ret ?_ | with_reducible refine TurnEnd.brk ?_) | ((with_reducible show wpAny _ _ (pyIter _) _ _ _); refine Hold.intro ?_) | (k_end; wrow_close) | walk1 | (dsimp only; walk1) | (leave1; try dsimp only))
  rename News _ _ _ _ => N1
  rename Fr _ _ _ _ => F1
  refine name1 N1 (fun l el => ?_)
  subst el
  refine Hold.out ?_
  refine' while_st (σ := SNum) [Str.ofString "w", Str.ofString "found"] (fun st => [(Str.ofString "n", .int (st.r : Int) st.t)]) (fun st => [(l, lst st.vs st.k)])
    (fun st => IntsAre st.vs (up st.l) ∧ st.l ++ digs W st.r = digs W n) (fun st => st.r)
    ⟨[], 0, [], n, tn⟩ news F1 N1 ?hb ?hin ?hcold ?hsep ?hP ?turn ?hE
  case hb => exact ⟨rfl, trivial⟩
  case hin => exact ⟨by k_mem, trivial⟩
  case hcold => exact fun p hp => by simp only [List.mem_cons, hp, or_true]
  case hsep => exact ⟨by k_all, trivial⟩
  case hP => exact ⟨.nil, rfl⟩
  case hE => passes_own
  case turn =>
    intro z90 u h tk z91 hsep F2 N2
    obtain ⟨fvs, fk, fl, r, t⟩ := z90
    obtain ⟨q1, q2⟩ := z91
    have z1 := sep_head hsep
    clear N1 F1 N
    dsimp only [List.cons_append, List.nil_append] at N2 F2 q1 q2 z1
    have hlf : fl.length ≤ 30 := by have := congrArg List.length q2; rw [List.length_append] at this; omega
    have hfv : fvs.length = fl.length := by rw [q1.length, up_length]
    have hfv2 : fvs.toArray.size = fl.length := hfv
    try k_fold
    repeat' ((fail_if_success (with_reducible show Hold _)); first | (with_reducible refine Cn.out (by assumption) ?_) | (first | (with_reducible refine Co.ret (by assumption) ?_) | (with_reducible refine Co.brk (by assumption) ?_) | (with_reducible refine Co.cont (by assumption) ?_) | (with_reducible refine Cnt.out (by assumption) ?_; (try dsimp only))) | (k_unfold; (try dsimp only)) | ((with_reducible show wpAny _ _ (execs _ _) _ _ _); (first | ((fail_if_success (with_reducible refine Cn.seen (by first | exact Or.inl (by assumption) | exact Or.inr (by assumption)) ?_)); refine Cnt.gen ?_; intro qk hqk) | (with_reducible refine execs_one ?_) | (with_reducible refine execs_cnt ?_; intro qk hqn hqo))) | (k_here; (with_reducible show wpAny _ _ (binaryOp Operator.FloorDiv (Value.int (Nat.cast _) _) (Value.int 2 _)) _ _ _); k_dflt (refine' floordiv_two ?_; k_whole)) | (k_here; (with_reducible show wpAny _ _ (binaryOp Operator.Mod (Value.int (Nat.cast _) _) (Value.int (Nat.cast _) _)) _ _ _); k_dflt (refine' mod_nat ?a ?_; (case a => omega); k_whole)) | (k_here; (with_reducible show wpAny _ _ (binaryOp Operator.FloorDiv (Value.int (Nat.cast _) _) (Value.int (Nat.cast _) _)) _ _ _); k_dflt (refine' floordiv_nat ?a ?b ?_; (case a => omega); (case b => omega); k_whole)) | (k_here; (with_reducible show wpAny _ _ (binaryOp Operator.Mult (Value.ref _) (Value.int _ _)) _ _ _); k_dflt (refine' zeros_C ?F ?N ?l ?a ?b ?_; (case F => k_asm); (case N => k_asm); (case l => k_mem); (case a => first | exact Int.natCast_nonneg _ | omega); (case b => omega); k_whole); intro r' h' vs' F' N' I' l1; (try k_lt l1); (try k_sweep)) | ((with_reducible show wpAny _ _ (exec (Stmt.While _ _ _ _) _) _ _ _); refine Hold.intro ?_) | (first | with_reducible refine TurnEnd.ret ?_ | with_reducible refine TurnEnd.brk ?_) | ((with_reducible show wpAny _ _ (pyIter _) _ _ _); refine Hold.intro ?_) | (k_end; wrow_close) | walk1 | (dsimp only; walk1) | (leave1; try dsimp only))
    · have hr : 0 < r := by have := ‹(0 : Int) < (r : Int)›; omega
      rename News _ _ _ _ => N3
      rename Fr _ _ _ _ => F3
      refine WTurn.mk ⟨fvs ++ [_], fk + 1, fl ++ [r % 2 ^ W], r / 2 ^ W, _⟩ F3 N3 ⟨some_int (shr_nat _ _), trivial⟩ ⟨rfl, rfl, trivial⟩ ⟨mem_push List.mem_cons_self, trivial⟩ (fun p hp => List.mem_cons_of_mem _ hp) ⟨z1, trivial⟩ ⟨Intsup.push q1 (fmod_one _ _), ?_⟩ (div_pow_lt (by omega) (by omega))
      rw [← q2, digs_pos hW hr]
      simp
    · have hr : r = 0 := by have := ‹¬ (0 : Int) < (r : Int)›; omega
      rw [hr, digs_zero, List.append_nil] at q2
      rename News _ _ _ _ => N3
      rename Fr _ _ _ _ => F3
      refine ret _ _ _ _ _ F3 N3 ?_ (by ktr_rel)
      rw [← q2]
      exact q1
set_option maxHeartbeats 4000000 in
theorem law_limbs_C {n W : Nat} {tn tw : Tok} (hW : 0 < W) (hW2 : W ≤ 6) (hd1 : dp + 2 < recursionLimit) (hu : un + 11 < cLine) (hn : n < 2 ^ 30)
    (ret : ∀ r h' tk' vs' k', Fr h₀ L h' m → News h₀ L h' ((r, lst vs' k') :: news) → IntsAre vs' (up (digs W n)) → (∀ p ∈ news, p.1 < r) → Q (.ref r) { s with heap := h', toks := tk' }) :
    wpAny (model Challenge.rw_sj0076_01.row.prog w) (ktrTop dp un gd cn cs L a ccd cl outer) (call (.ref 221) [.int n tn, .int W tw]) Q E s := by
  have hwi : (0 : Int) < (W : Int) := by omega
  have hwi2 : (W : Int) ≤ 6 := by omega
  have hpw : (0 : Int) < 2 ^ (W : Int).toNat := by rw [Int.toNat_natCast]; exact kbt_pos _
  have hlen : (digs W n).length ≤ 30 := digs_len_le hW hn
  refine wpAny_call ?_
  k_dflt (first | (refine' code_defC ?k1 ?k2 ?k3 ?k4 ?k5 ?kA ?kF ?kK ?k6 ?k7 ?k8 ?k9 ?kB ?kD ?_ ?c2 ?c3 ?c4; (case kA => exact rfl); (case kF => exact rfl); (case kK => first | exact rfl | assumption); (case k1 => k_asm); (case k2 => k_asm); (case k3 => k_asm); (case k4 => k_asm); (case k5 => k_asm); (case k6 => k_is); (case k7 => k_is); (case k8 => ktr_room); (case k9 => first | exact BindsTo.of_eq rfl | exact binds_K (by k_in) rfl (by k_is) rfl rfl rfl); (case kB => exact rfl); (case kD => decide +kernel); (case c2 => exact rfl); (case c3 => exact rfl); (case c4 => exact rfl); k_whole; intro g' L' h' tk' cells' FG' F' N' Y' B' X' T' l1; (try k_lt l1); k_cells Y'; (try simp only [List.cons_append, List.nil_append] at N'); (try dsimp only); (try k_lift B'); (try k_fold)) | (refine' code_def ?k1 ?k2 ?k3 ?k4 ?k5 ?kA ?kF ?kK ?k6 ?k7 ?k8 ?k9 ?kB ?_ ?c2 ?c3 ?c4 ?c5; (case kA => exact rfl); (case kF => exact rfl); (case kK => first | exact rfl | assumption); (case k1 => k_asm); (case k2 => k_asm); (case k3 => k_asm); (case k4 => k_asm); (case k5 => k_asm); (case k6 => k_is); (case k7 => k_is); (case k8 => ktr_room); (case k9 => first | exact BindsTo.of_eq rfl | exact binds_K (by k_in) rfl (by k_is) rfl rfl rfl); (case c5 => decide); (case kB => exact locs rfl); (case c2 => exact rfl); (case c3 => exact rfl); (case c4 => exact rfl); k_whole; intro g' L' h' FG' F' N' B' X' T'; (try dsimp only); (try k_lift B'); (try k_fold)))
  repeat' ((fail_if_success (with_reducible show Hold _)); first | (with_reducible refine Cn.out (by assumption) ?_) | (first | (with_reducible refine Co.ret (by assumption) ?_) | (with_reducible refine Co.brk (by assumption) ?_) | (with_reducible refine Co.cont (by assumption) ?_) | (with_reducible refine Cnt.out (by assumption) ?_; (try dsimp only))) | (k_unfold; (try dsimp only)) | ((with_reducible show wpAny _ _ (execs _ _) _ _ _); (first | ((fail_if_success (with_reducible refine Cn.seen (by first | exact Or.inl (by assumption) | exact Or.inr (by assumption)) ?_)); refine Cnt.gen ?_; intro qk hqk) | (with_reducible refine execs_one ?_) | (with_reducible refine execs_cnt ?_; intro qk hqn hqo))) | (k_here; (with_reducible show wpAny _ _ (binaryOp Operator.FloorDiv (Value.int (Nat.cast _) _) (Value.int 2 _)) _ _ _); k_dflt (refine' floordiv_two ?_; k_whole)) | (k_here; (with_reducible show wpAny _ _ (binaryOp Operator.Mod (Value.int (Nat.cast _) _) (Value.int (Nat.cast _) _)) _ _ _); k_dflt (refine' mod_nat ?a ?_; (case a => omega); k_whole)) | (k_here; (with_reducible show wpAny _ _ (binaryOp Operator.FloorDiv (Value.int (Nat.cast _) _) (Value.int (Nat.cast _) _)) _ _ _); k_dflt (refine' floordiv_nat ?a ?b ?_; (case a => omega); (case b => omega); k_whole)) | (k_here; (with_reducible show wpAny _ _ (binaryOp Operator.Mult (Value.ref _) (Value.int _ _)) _ _ _); k_dflt (refine' zeros_C ?F ?N ?l ?a ?b ?_; (case F => k_asm); (case N => k_asm); (case l => k_mem); (case a => first | exact Int.natCast_nonneg _ | omega); (case b => omega); k_whole); intro r' h' vs' F' N' I' l1; (try k_lt l1); (try k_sweep)) | ((with_reducible show wpAny _ _ (exec (Stmt.While _ _ _ _) _) _ _ _); refine Hold.intro ?_) | (first | with_reducible refine TurnEnd.ret ?_ | with_reducible refine TurnEnd.brk ?_) | ((with_reducible show wpAny _ _ (pyIter _) _ _ _); refine Hold.intro ?_) | (k_end; wrow_close) | walk1 | (dsimp only; walk1) | (leave1; try dsimp only))
  rename News _ _ _ _ => N1
  rename Fr _ _ _ _ => F1
  refine name1 N1 (fun l el => ?_)
  subst el
  refine Hold.out ?_
  refine' while_st (σ := SNum) [Str.ofString "w", Str.ofString "found"] (fun st => [(Str.ofString "number", .int (st.r : Int) st.t)]) (fun st => [(l, lst st.vs st.k)])
    (fun st => IntsAre st.vs (up st.l) ∧ st.l ++ digs W st.r = digs W n) (fun st => st.r)
    ⟨[], 0, [], n, tn⟩ news F1 N1 ?hb ?hin ?hcold ?hsep ?hP ?turn ?hE
  case hb => exact ⟨rfl, trivial⟩
  case hin => exact ⟨by k_mem, trivial⟩
  case hcold => exact fun p hp => by simp only [List.mem_cons, hp, or_true]
  case hsep => exact ⟨by k_all, trivial⟩
  case hP => exact ⟨.nil, rfl⟩
  case hE => passes_own
  case turn =>
    intro z90 u h tk z91 hsep F2 N2
    obtain ⟨fvs, fk, fl, r, t⟩ := z90
    obtain ⟨q1, q2⟩ := z91
    have z1 := sep_head hsep
    clear N1 F1 N
    dsimp only [List.cons_append, List.nil_append] at N2 F2 q1 q2 z1
    have hlf : fl.length ≤ 30 := by have := congrArg List.length q2; rw [List.length_append] at this; omega
    have hfv : fvs.length = fl.length := by rw [q1.length, up_length]
    have hfv2 : fvs.toArray.size = fl.length := hfv
    try k_fold
    repeat' ((fail_if_success (with_reducible show Hold _)); first | (with_reducible refine Cn.out (by assumption) ?_) | (first | (with_reducible refine Co.ret (by assumption) ?_) | (with_reducible refine Co.brk (by assumption) ?_) | (with_reducible refine Co.cont (by assumption) ?_) | (with_reducible refine Cnt.out (by assumption) ?_; (try dsimp only))) | (k_unfold; (try dsimp only)) | ((with_reducible show wpAny _ _ (execs _ _) _ _ _); (first | ((fail_if_success (with_reducible refine Cn.seen (by first | exact Or.inl (by assumption) | exact Or.inr (by assumption)) ?_)); refine Cnt.gen ?_; intro qk hqk) | (with_reducible refine execs_one ?_) | (with_reducible refine execs_cnt ?_; intro qk hqn hqo))) | (k_here; (with_reducible show wpAny _ _ (binaryOp Operator.FloorDiv (Value.int (Nat.cast _) _) (Value.int 2 _)) _ _ _); k_dflt (refine' floordiv_two ?_; k_whole)) | (k_here; (with_reducible show wpAny _ _ (binaryOp Operator.Mod (Value.int (Nat.cast _) _) (Value.int (Nat.cast _) _)) _ _ _); k_dflt (refine' mod_nat ?a ?_; (case a => omega); k_whole)) | (k_here; (with_reducible show wpAny _ _ (binaryOp Operator.FloorDiv (Value.int (Nat.cast _) _) (Value.int (Nat.cast _) _)) _ _ _); k_dflt (refine' floordiv_nat ?a ?b ?_; (case a => omega); (case b => omega); k_whole)) | (k_here; (with_reducible show wpAny _ _ (binaryOp Operator.Mult (Value.ref _) (Value.int _ _)) _ _ _); k_dflt (refine' zeros_C ?F ?N ?l ?a ?b ?_; (case F => k_asm); (case N => k_asm); (case l => k_mem); (case a => first | exact Int.natCast_nonneg _ | omega); (case b => omega); k_whole); intro r' h' vs' F' N' I' l1; (try k_lt l1); (try k_sweep)) | ((with_reducible show wpAny _ _ (exec (Stmt.While _ _ _ _) _) _ _ _); refine Hold.intro ?_) | (first | with_reducible refine TurnEnd.ret ?_ | with_reducible refine TurnEnd.brk ?_) | ((with_reducible show wpAny _ _ (pyIter _) _ _ _); refine Hold.intro ?_) | (k_end; wrow_close) | walk1 | (dsimp only; walk1) | (leave1; try dsimp only))
    · have hr : 0 < r := by have := ‹(0 : Int) < (r : Int)›; omega
      rename News _ _ _ _ => N3
      rename Fr _ _ _ _ => F3
      refine WTurn.mk ⟨fvs ++ [_], fk + 1, fl ++ [r % 2 ^ W], r / 2 ^ W, _⟩ F3 N3 ⟨some_int (shr_nat _ _), trivial⟩ ⟨rfl, rfl, trivial⟩ ⟨mem_push List.mem_cons_self, trivial⟩ (fun p hp => List.mem_cons_of_mem _ hp) ⟨z1, trivial⟩ ⟨Intsup.push q1 (fmod_pow _ _), ?_⟩ (div_pow_lt (by omega) (by omega))
      rw [← q2, digs_pos hW hr]
      simp
    · have hr : r = 0 := by have := ‹¬ (0 : Int) < (r : Int)›; omega
      rw [hr, digs_zero, List.append_nil] at q2
      rename News _ _ _ _ => N3
      rename Fr _ _ _ _ => F3
      refine ret _ _ _ _ _ F3 N3 ?_ (by ktr_rel)
      rw [← q2]
      exact q1
end
section
variable {w : World} {mean : ExcName → Option Value} {mg mb : Str → Option Value}
  {dp un : Nat} {gd : Option (List Code)} {cn : Str} {cs : Scope} {a : Addr} {ccd : Value} {cl : List (Str × Addr)} {outer : List Env} {A₀ : Around} {base h₀ : Heap} {L : Addr} {m : Str → Option Value} {news : Led} {s : Shared}
  {Q E : Value → Shared → Prop}
  (B : Below A₀ base outer h₀) (F : Fr h₀ L s.heap m) (X : (hd.heap_39 w.params).In h₀) (N : News h₀ L s.heap news) (T : Top hd.view_39 (looseW hd.view_39 []) mean mg mb h₀) (hk : cs.kind = .function)
include B F X N T hk
omit B F X N T hk in
theorem up_sum (l : List Nat) : (up l).sum = ((l.sum : Nat) : Int) := by
  induction l with
  | nil => rfl
  | cons a l ih => rw [up_cons, List.sum_cons, List.sum_cons, ih]; simp
set_option maxHeartbeats 4000000 in
theorem law_number_C {x : Addr} {vs : List Value} {k p W : Nat} {tw : Tok} (hW : 0 < W) (hW2 : W ≤ 6) (hd1 : dp + 5 < recursionLimit) (hu : un + 30 < cLine) (hp : p < 2 ^ 30)
    (hx : (x, lst vs k) ∈ news) (hi : IntsAre vs (up (digs W p)))
    (ret : ∀ t h' tk', Fr h₀ L h' m → News h₀ L h' news → Q (.int (p : Int) t) { s with heap := h', toks := tk' }) :
    wpAny (model Challenge.rw_sj0076_01.row.prog w) (ktrTop dp un gd cn cs L a ccd cl outer) (call (.ref 226) [.ref x, .int W tw]) Q E s := by
  have hwi : (0 : Int) < (W : Int) := by omega
  have hwi2 : (W : Int) ≤ 6 := by omega
  have hlen : (digs W p).length ≤ 30 := digs_len_le hW hp
  refine wpAny_call ?_
  k_dflt (first | (first | (refine' code_defC ?k1 ?k2 ?k3 ?k4 ?k5 ?kA ?kF ?kK ?k6 ?k7 ?k8 ?k9 ?kB ?kD ?_ ?c2 ?c3 ?c4; (case kA => exact rfl); (case kF => exact rfl); (case kK => first | exact rfl | assumption); (case k1 => k_asm); (case k2 => k_asm); (case k3 => k_asm); (case k4 => k_asm); (case k5 => k_asm); (case k6 => k_is); (case k7 => k_is); (case k8 => ktr_room); (case k9 => first | exact BindsTo.of_eq rfl | exact binds_K (by k_in) rfl (by k_is) rfl rfl rfl); (case kB => exact rfl); (case kD => decide +kernel); (case c2 => exact rfl); (case c3 => exact rfl); (case c4 => exact rfl); k_whole; intro g' L' h' tk' cells' FG' F' N' Y' B' X' T' l1; (try k_lt l1); k_cells Y'; (try simp only [List.cons_append, List.nil_append] at N'); (try dsimp only); (try k_lift B'); (try k_fold)) | (refine' code_def ?k1 ?k2 ?k3 ?k4 ?k5 ?kA ?kF ?kK ?k6 ?k7 ?k8 ?k9 ?kB ?_ ?c2 ?c3 ?c4 ?c5; (case kA => exact rfl); (case kF => exact rfl); (case kK => first | exact rfl | assumption); (case k1 => k_asm); (case k2 => k_asm); (case k3 => k_asm); (case k4 => k_asm); (case k5 => k_asm); (case k6 => k_is); (case k7 => k_is); (case k8 => ktr_room); (case k9 => first | exact BindsTo.of_eq rfl | exact binds_K (by k_in) rfl (by k_is) rfl rfl rfl); (case c5 => decide); (case kB => exact locs rfl); (case c2 => exact rfl); (case c3 => exact rfl); (case c4 => exact rfl); k_whole; intro g' L' h' FG' F' N' B' X' T'; (try dsimp only); (try k_lift B'); (try k_fold))))
  repeat' ((fail_if_success (with_reducible show Hold _)); first | (with_reducible refine Cn.out (by assumption) ?_) | (first | (with_reducible refine Co.ret (by assumption) ?_) | (with_reducible refine Co.brk (by assumption) ?_) | (with_reducible refine Co.cont (by assumption) ?_) | (with_reducible refine Cnt.out (by assumption) ?_; (try dsimp only))) | (k_unfold; (try dsimp only)) | ((with_reducible show wpAny _ _ (execs _ _) _ _ _); (first | ((fail_if_success (with_reducible refine Cn.seen (by first | exact Or.inl (by assumption) | exact Or.inr (by assumption)) ?_)); refine Cnt.gen ?_; intro qk hqk) | (with_reducible refine execs_one ?_) | (with_reducible refine execs_cnt ?_; intro qk hqn hqo))) | ((with_reducible show wpAny _ _ (call (Value.type "enumerate") _) _ _ _); refine Hold.intro ?_) | ((with_reducible show wpAny _ _ (eval (Expr.ListComp _ _ _ _) _) _ _ _); (k_here; lcg_calm; k_dflt (refine comp_at (by with_unfolding_all rfl) (by rfl) (by decide) ?_))) | (k_here; (with_reducible show wpAny _ _ (binaryOp Operator.FloorDiv (Value.int (Nat.cast _) _) (Value.int 2 _)) _ _ _); k_dflt (refine' floordiv_two ?_; k_whole)) | (k_here; (with_reducible show wpAny _ _ (binaryOp Operator.Mod (Value.int (Nat.cast _) _) (Value.int (Nat.cast _) _)) _ _ _); k_dflt (refine' mod_nat ?a ?_; (case a => omega); k_whole)) | (k_here; (with_reducible show wpAny _ _ (binaryOp Operator.FloorDiv (Value.int (Nat.cast _) _) (Value.int (Nat.cast _) _)) _ _ _); k_dflt (refine' floordiv_nat ?a ?b ?_; (case a => omega); (case b => omega); k_whole)) | (k_here; (with_reducible show wpAny _ _ (binaryOp Operator.Mult (Value.ref _) (Value.int _ _)) _ _ _); k_dflt (refine' zeros_C ?F ?N ?l ?a ?b ?_; (case F => k_asm); (case N => k_asm); (case l => k_mem); (case a => first | exact Int.natCast_nonneg _ | omega); (case b => omega); k_whole); intro r' h' vs' F' N' I' l1; (try k_lt l1); (try k_sweep)) | ((with_reducible show wpAny _ _ (exec (Stmt.While _ _ _ _) _) _ _ _); refine Hold.intro ?_) | (first | with_reducible refine TurnEnd.ret ?_ | with_reducible refine TurnEnd.brk ?_) | ((with_reducible show wpAny _ _ (pyIter _) _ _ _); refine Hold.intro ?_) | (k_end; wrow_close) | walk1 | (dsimp only; walk1) | (leave1; try dsimp only))
  rename News _ _ _ _ => N1
  rename Fr _ _ _ _ => F1
  rename ((_ : Obj).data = _) => d1
  replace d1 : _ = Data.cell (some (.int (W : Int) tw)) := d1
  refine Hold.out ?_
  refine' comp_enum (l := x) (vs := vs) (fun i ys => ∃ ns, IntsAre ys (up ns) ∧ ns.sum = nval W ((digs W p).take i)) rfl F1 N1 ?hl ?hlL ?hcell ?hkind ?hx ?hx2 ?hne ?hsz ?h0 ?turn ?done
  case hl => exact .inr ⟨_, by k_mem, rfl, _, rfl⟩
  case hlL => exact (N1 _ (List.mem_cons_of_mem _ hx)).2.1
  case hcell => decide
  case hkind => rfl
  case hx => rfl
  case hx2 => rfl
  case hne => decide
  case hsz => rw [hi.length, up_length]; exact Nat.le_trans hlen (by decide)
  case h0 => exact ⟨[], .nil, by simp [nval]⟩
  case turn =>
    intro i v t ys hlt hv z90 e oe it oi C oC D m₂ h tk E' hoC hm1 hm2 F2 N2
    refine hide fun G9 hG9 => ?_
    obtain ⟨ns, q1, q2⟩ := z90
    refine hG9 ?_
    clear hG9 G9
    have hlt2 : i < (digs W p).length := by rw [hi.length, up_length] at hlt; exact hlt
    obtain ⟨tv, rfl⟩ := ints_item hi hv
    have hd := digit64 hW hW2 p i
    generalize hdd : (digs W p).getD i 0 = d at *
    have hWi : W * i ≤ 6 * 30 := Nat.mul_le_mul hW2 (by omega)
    have hWi2 : (W : Int) * (i : Int) ≤ 180 := by exact_mod_cast hWi
    have hWi3 : 0 ≤ (W : Int) * (i : Int) := by exact_mod_cast Nat.zero_le _
    repeat' ((fail_if_success (with_reducible show Hold _)); first | (with_reducible refine Cn.out (by assumption) ?_) | (first | (with_reducible refine Co.ret (by assumption) ?_) | (with_reducible refine Co.brk (by assumption) ?_) | (with_reducible refine Co.cont (by assumption) ?_) | (with_reducible refine Cnt.out (by assumption) ?_; (try dsimp only))) | (k_unfold; (try dsimp only)) | ((with_reducible show wpAny _ _ (execs _ _) _ _ _); (first | ((fail_if_success (with_reducible refine Cn.seen (by first | exact Or.inl (by assumption) | exact Or.inr (by assumption)) ?_)); refine Cnt.gen ?_; intro qk hqk) | (with_reducible refine execs_one ?_) | (with_reducible refine execs_cnt ?_; intro qk hqn hqo))) | ((with_reducible show wpAny _ _ (call (Value.type "enumerate") _) _ _ _); refine Hold.intro ?_) | ((with_reducible show wpAny _ _ (eval (Expr.ListComp _ _ _ _) _) _ _ _); (k_here; lcg_calm; k_dflt (refine comp_at (by with_unfolding_all rfl) (by rfl) (by decide) ?_))) | (k_here; (with_reducible show wpAny _ _ (binaryOp Operator.FloorDiv (Value.int (Nat.cast _) _) (Value.int 2 _)) _ _ _); k_dflt (refine' floordiv_two ?_; k_whole)) | (k_here; (with_reducible show wpAny _ _ (binaryOp Operator.Mod (Value.int (Nat.cast _) _) (Value.int (Nat.cast _) _)) _ _ _); k_dflt (refine' mod_nat ?a ?_; (case a => omega); k_whole)) | (k_here; (with_reducible show wpAny _ _ (binaryOp Operator.FloorDiv (Value.int (Nat.cast _) _) (Value.int (Nat.cast _) _)) _ _ _); k_dflt (refine' floordiv_nat ?a ?b ?_; (case a => omega); (case b => omega); k_whole)) | (k_here; (with_reducible show wpAny _ _ (binaryOp Operator.Mult (Value.ref _) (Value.int _ _)) _ _ _); k_dflt (refine' zeros_C ?F ?N ?l ?a ?b ?_; (case F => k_asm); (case N => k_asm); (case l => k_mem); (case a => first | exact Int.natCast_nonneg _ | omega); (case b => omega); k_whole); intro r' h' vs' F' N' I' l1; (try k_lt l1); (try k_sweep)) | ((with_reducible show wpAny _ _ (exec (Stmt.While _ _ _ _) _) _ _ _); refine Hold.intro ?_) | (first | with_reducible refine TurnEnd.ret ?_ | with_reducible refine TurnEnd.brk ?_) | ((with_reducible show wpAny _ _ (pyIter _) _ _ _); refine Hold.intro ?_) | (k_end; wrow_close) | walk1 | (dsimp only; walk1) | (leave1; try dsimp only))
    rename News _ _ _ _ => N3
    rename Fr _ _ _ _ => F3
    refine EltEnd.mk F3 N3 ⟨ns ++ [d * 2 ^ (W * i)], Intsup.push q1 ?_, ?_⟩
    · rw [← Int.natCast_mul, Int.toNat_natCast, Int.natCast_mul, cast_pow]
    · have e1 : (digs W p).take (i + 1) = (digs W p).take i ++ [d] := by
        rw [List.take_succ, ← hdd, List.getD_eq_getElem?_getD, List.getElem?_eq_getElem hlt2]
        rfl
      have e2 : ((digs W p).take i).length = i := by rw [List.length_take]; omega
      rw [e1, nval_push, e2, ← q2, Nat.mul_comm]
      simp
  case done =>
    intro D h tk ys z90 hyl F2 N2 l1
    refine hide fun G9 hG9 => ?_
    obtain ⟨ns, q1, q2⟩ := z90
    refine hG9 ?_
    clear hG9 G9
    repeat' ((fail_if_success (with_reducible show Hold _)); first | (with_reducible refine Cn.out (by assumption) ?_) | (first | (with_reducible refine Co.ret (by assumption) ?_) | (with_reducible refine Co.brk (by assumption) ?_) | (with_reducible refine Co.cont (by assumption) ?_) | (with_reducible refine Cnt.out (by assumption) ?_; (try dsimp only))) | (k_unfold; (try dsimp only)) | ((with_reducible show wpAny _ _ (execs _ _) _ _ _); (first | ((fail_if_success (with_reducible refine Cn.seen (by first | exact Or.inl (by assumption) | exact Or.inr (by assumption)) ?_)); refine Cnt.gen ?_; intro qk hqk) | (with_reducible refine execs_one ?_) | (with_reducible refine execs_cnt ?_; intro qk hqn hqo))) | ((with_reducible show wpAny _ _ (call (Value.type "enumerate") _) _ _ _); refine Hold.intro ?_) | ((with_reducible show wpAny _ _ (eval (Expr.ListComp _ _ _ _) _) _ _ _); (k_here; lcg_calm; k_dflt (refine comp_at (by with_unfolding_all rfl) (by rfl) (by decide) ?_))) | (k_here; (with_reducible show wpAny _ _ (binaryOp Operator.FloorDiv (Value.int (Nat.cast _) _) (Value.int 2 _)) _ _ _); k_dflt (refine' floordiv_two ?_; k_whole)) | (k_here; (with_reducible show wpAny _ _ (binaryOp Operator.Mod (Value.int (Nat.cast _) _) (Value.int (Nat.cast _) _)) _ _ _); k_dflt (refine' mod_nat ?a ?_; (case a => omega); k_whole)) | (k_here; (with_reducible show wpAny _ _ (binaryOp Operator.FloorDiv (Value.int (Nat.cast _) _) (Value.int (Nat.cast _) _)) _ _ _); k_dflt (refine' floordiv_nat ?a ?b ?_; (case a => omega); (case b => omega); k_whole)) | (k_here; (with_reducible show wpAny _ _ (binaryOp Operator.Mult (Value.ref _) (Value.int _ _)) _ _ _); k_dflt (refine' zeros_C ?F ?N ?l ?a ?b ?_; (case F => k_asm); (case N => k_asm); (case l => k_mem); (case a => first | exact Int.natCast_nonneg _ | omega); (case b => omega); k_whole); intro r' h' vs' F' N' I' l1; (try k_lt l1); (try k_sweep)) | ((with_reducible show wpAny _ _ (exec (Stmt.While _ _ _ _) _) _ _ _); refine Hold.intro ?_) | (first | with_reducible refine TurnEnd.ret ?_ | with_reducible refine TurnEnd.brk ?_) | ((with_reducible show wpAny _ _ (pyIter _) _ _ _); refine Hold.intro ?_) | (k_end; wrow_close) | walk1 | (dsimp only; walk1) | (leave1; try dsimp only))
    rename Fr h₀ L _ m => F3
    rename News h₀ L _ _ => N3
    have e0 : (digs W p).length = vs.length := by rw [hi.length, up_length]
    have e1 : (up ns).sum = (p : Int) := by
      rw [up_sum, q2, ← e0, List.take_length, nval_digs hW]
    rw [e1]
    exact ret _ _ _ F3 fun q hq => N3 q (List.mem_cons_of_mem _ (List.mem_cons_of_mem _ hq))
end
section
variable {w : World} {mean : ExcName → Option Value} {mg mb : Str → Option Value}
  {dp un : Nat} {gd : Option (List Code)} {cn : Str} {cs : Scope} {a : Addr} {ccd : Value} {cl : List (Str × Addr)} {outer : List Env} {A₀ : Around} {base h₀ : Heap} {L : Addr} {m : Str → Option Value} {news : Led} {s : Shared}
  {Q E : Value → Shared → Prop}
  (B : Below A₀ base outer h₀) (F : Fr h₀ L s.heap m) (X : (hd.heap_39 w.params).In h₀) (N : News h₀ L s.heap news) (T : Top hd.view_39 (looseW hd.view_39 []) mean mg mb h₀) (hk : cs.kind = .function)
include B F X N T hk
omit B F X N T hk in
theorem ints_one {W : Nat} {t : Tok} (hW : 0 < W) : IntsAre [.int 1 t] (up (digs W 1)) := by
  have e : digs W 1 = [1] := by
    rw [digs_pos hW Nat.one_pos, Nat.mod_eq_of_lt (Nat.one_lt_two_pow (by omega)), Nat.div_eq_of_lt (Nat.one_lt_two_pow (by omega)), digs_zero]
  rw [e]; exact .cons _ _ .nil
local macro_rules | `(tactic| l_ints) => `(tactic| exact ints_one (by assumption))
noncomputable def rbelGo (W b n : Nat) : Nat → Src → Nat → Src × Nat
  | 0, c, f => (c, if f < b then f else f - b)
  | k + 1, c, f => if f < b then (c, f) else rbelGo W b n k (rbits W n c).1 (rbits W n c).2
noncomputable def rbelow (W b : Nat) (c : Src) : Src × Nat := rbelGo W b (blen (b - 1)) 80 (rbits W (blen (b - 1)) c).1 (rbits W (blen (b - 1)) c).2
omit B F X N T hk in
theorem rbGo_lt (W n : Nat) : ∀ k c f h, (rbGo W n k c f h).2 < 2 ^ n
  | 0, c, f, h => Nat.mod_lt _ (Nat.two_pow_pos _)
  | k + 1, c, f, h => by
    unfold rbGo
    split
    · exact rbGo_lt W n k _ _ _
    · exact Nat.mod_lt _ (Nat.two_pow_pos _)
omit B F X N T hk in
theorem rbits_lt (W n : Nat) (c : Src) : (rbits W n c).2 < 2 ^ n := rbGo_lt W n _ _ _ _
omit B F X N T hk in
theorem rbGo_ok (W n : Nat) : ∀ k c f h, c.ok W → (rbGo W n k c f h).1.ok W
  | 0, c, f, h, q => q
  | k + 1, c, f, h, q => by
    unfold rbGo
    split
    · exact rbGo_ok W n k _ _ _ q.next
    · exact q
omit B F X N T hk in
theorem rbits_ok {W n : Nat} {c : Src} (q : c.ok W) : (rbits W n c).1.ok W := rbGo_ok W n _ _ _ _ q
omit B F X N T hk in
theorem rbelGo_ok (W b n : Nat) : ∀ k c f, c.ok W → (rbelGo W b n k c f).1.ok W
  | 0, c, f, q => q
  | k + 1, c, f, q => by
    unfold rbelGo
    split
    · exact q
    · exact rbelGo_ok W b n k _ _ (rbits_ok q)
omit B F X N T hk in
theorem rbelow_ok {W b : Nat} {c : Src} (q : c.ok W) : (rbelow W b c).1.ok W := rbelGo_ok W b _ _ _ _ (rbits_ok q)
omit B F X N T hk in
theorem rbelGo_lt {W b n : Nat} (hb : 2 ^ n ≤ 2 * b) : ∀ k c f, f < 2 ^ n → (rbelGo W b n k c f).2 < b
  | 0, c, f, q => by
    show (if f < b then f else f - b) < b
    split <;> omega
  | k + 1, c, f, q => by
    unfold rbelGo
    split
    · assumption
    · exact rbelGo_lt hb k _ _ (rbits_lt _ _ _)
omit B F X N T hk in
theorem blen_pow {b : Nat} (h0 : 0 < b) (hb : b ≤ 16) : 2 ^ blen (b - 1) ≤ 2 * b := by
  have : ∀ b ≤ 16, 0 < b → 2 ^ blen (b - 1) ≤ 2 * b := by decide
  exact this b hb h0
omit B F X N T hk in
theorem rbelow_lt {W b : Nat} {c : Src} (h0 : 0 < b) (hb : b ≤ 16) : (rbelow W b c).2 < b := rbelGo_lt (blen_pow h0 hb) _ _ _ (rbits_lt _ _ _)
omit B F X N T hk in
theorem name_rb {h₀ h : Heap} {L r dx ls : Addr} {vs svs : List Value} {k k3 : Nat} {D : Obj} {news : Led} {G : Prop} (_ : News h₀ L h ((r, lst vs k) :: (dx, D) :: (ls, lst svs k3) :: news))
    (f : ∀ r' vs' k' D' ls' svs' k3', r' = r → vs' = vs → k' = k → D' = D → ls' = ls → svs' = svs → k3' = k3 → G) : G := f _ _ _ _ _ _ _ rfl rfl rfl rfl rfl rfl rfl
omit B F X N T hk in
theorem cmpN_lt {x y : Nat} (h : x < y) : cmpN x y = -1 := if_pos h
omit B F X N T hk in
theorem cmpN_ge {x y : Nat} (h : ¬ x < y) : 0 ≤ cmpN x y := by unfold cmpN; rw [if_neg h]; split <;> decide
omit B F X N T hk in
theorem rbelGo_hit {W b n k f : Nat} {c : Src} (h : f < b) : rbelGo W b n k c f = (c, f) := by
  cases k with
  | zero => show (c, if f < b then f else f - b) = _; rw [if_pos h]
  | succ k => show (if f < b then _ else _) = _; rw [if_pos h]
omit B F X N T hk in
theorem rbelGo_miss {W b n k f : Nat} {c : Src} (h : ¬ f < b) (hk : 0 < k) : rbelGo W b n k c f = rbelGo W b n (k - 1) (rbits W n c).1 (rbits W n c).2 := by
  obtain ⟨j, rfl⟩ : ∃ j, k = j + 1 := ⟨k - 1, by omega⟩
  show (if f < b then _ else _) = _; rw [if_neg h]; rfl
omit B F X N T hk in
theorem news_sub3 {h₀ h : Heap} {L : Addr} {a b c : Addr × Obj} {news rest : Led} (N : News h₀ L h (a :: b :: c :: rest)) (hcr : ∀ p ∈ news, p ∈ rest) : News h₀ L h (a :: b :: c :: news) := fun p hp => N p (by
  simp only [List.mem_cons] at hp ⊢
  rcases hp with h | h | h | h
  · exact .inl h
  · exact .inr (.inl h)
  · exact .inr (.inr (.inl h))
  · exact .inr (.inr (.inr (hcr _ h))))
omit B F X N T hk in
theorem lt_sub {d : Addr} {news rest : Led} (h : AllLt d rest) (hcr : ∀ p ∈ news, p ∈ rest) : AllLt d news := allLt_of fun p hp => kst_ltOf h p (hcr p hp)
structure SRl where
  c : Src
  D : Obj
  ls : Addr
  svs : List Value
  k : Nat
  lf : Addr
  fvs : List Value
  fk : Nat
  f : Nat
omit N in
set_option maxHeartbeats 8000000 in
theorem random_below_C {x dx ls y : Addr} {D : Obj} {svs us : List Value} {k3 mm b : Nat} {c : Src} {W : Nat} {tw : Tok} (hW : 0 < W) (hW2 : W ≤ 6) (hd1 : dp + 20 < recursionLimit) (hu : un + 80 < cLine)
    (hok : c.ok W) {n2 : Led} (hsub : ∀ p ∈ n2, p ∈ news) (hsrc : SrcIs w W n2 x dx D ls svs c) (hb0 : 0 < b) (hb : b ≤ 16) (hy : (y, lst us mm) ∈ news) (hj : IntsAre us (up (digs W b)))
    (hdx : ∀ p ∈ news, p.1 ≠ dx) (hls : ∀ p ∈ news, p.1 ≠ ls) (hlx : ls ≠ dx)
    (N : News h₀ L s.heap ((dx, D) :: (ls, lst svs k3) :: news))
    (ret : ∀ r vs' k' D' ls' svs' k3' h' tk', Fr h₀ L h' m → News h₀ L h' ((r, lst vs' k') :: (dx, D') :: (ls', lst svs' k3') :: news) → IntsAre vs' (up (digs W (rbelow W b c).2)) → SrcIs w W n2 x dx D' ls' svs' (rbelow W b c).1 →
      (ls' ≠ dx) → (∀ p ∈ news, p.1 ≠ ls') → (@LT.lt Nat _ dx r ∧ @LT.lt Nat _ ls' r ∧ AllLt r news) → Q (.ref r) { s with heap := h', toks := tk' }) :
    wpAny (model Challenge.rw_sj0076_01.row.prog w) (ktrTop dp un gd cn cs L a ccd cl outer) (call (.ref 179) [.ref x, .ref y, .int W tw]) Q E s := by
  have hwi : (0 : Int) < (W : Int) := by omega
  have hwi2 : (W : Int) ≤ 6 := by omega
  have hln : blen (b - 1) ≤ 4 := by
    have : ∀ b ≤ 16, blen (b - 1) ≤ 4 := by decide
    exact this b hb
  have hl1 : (up (digs W b)).length ≤ 60 := by rw [up_length]; exact digs_len_le hW (Nat.lt_of_le_of_lt hb (by decide))
  have hup : 0 < (up (digs W b)).length := by rw [up_length]; exact (digs_len_pos hW).mpr hb0
  have hb60 : b < 2 ^ 60 := Nat.lt_of_le_of_lt hb (by decide)
  have hb61 : b - 1 < 2 ^ 60 := by omega
  refine wpAny_call ?_
  k_dflt (first | (refine' code_defC ?k1 ?k2 ?k3 ?k4 ?k5 ?kA ?kF ?kK ?k6 ?k7 ?k8 ?k9 ?kB ?kD ?_ ?c2 ?c3 ?c4; (case kA => exact rfl); (case kF => exact rfl); (case kK => first | exact rfl | assumption); (case k1 => k_asm); (case k2 => k_asm); (case k3 => k_asm); (case k4 => k_asm); (case k5 => k_asm); (case k6 => k_is); (case k7 => k_is); (case k8 => ktr_room); (case k9 => first | exact BindsTo.of_eq rfl | exact binds_K (by k_in) rfl (by k_is) rfl rfl rfl); (case kB => exact rfl); (case kD => decide +kernel); (case c2 => exact rfl); (case c3 => exact rfl); (case c4 => exact rfl); k_whole; intro g' L' h' tk' cells' FG' F' N' Y' B' X' T' l1; (try k_lt l1); k_cells Y'; (try simp only [List.cons_append, List.nil_append] at N'); (try dsimp only); (try k_lift B'); (try k_fold)) | (refine' code_def ?k1 ?k2 ?k3 ?k4 ?k5 ?kA ?kF ?kK ?k6 ?k7 ?k8 ?k9 ?kB ?_ ?c2 ?c3 ?c4 ?c5; (case kA => exact rfl); (case kF => exact rfl); (case kK => first | exact rfl | assumption); (case k1 => k_asm); (case k2 => k_asm); (case k3 => k_asm); (case k4 => k_asm); (case k5 => k_asm); (case k6 => k_is); (case k7 => k_is); (case k8 => ktr_room); (case k9 => first | exact BindsTo.of_eq rfl | exact binds_K (by k_in) rfl (by k_is) rfl rfl rfl); (case c5 => decide); (case kB => exact locs rfl); (case c2 => exact rfl); (case c3 => exact rfl); (case c4 => exact rfl); k_whole; intro g' L' h' FG' F' N' B' X' T'; (try dsimp only); (try k_lift B'); (try k_fold)))
  repeat' ((fail_if_success (with_reducible show Hold _)); first | (with_reducible refine Cn.out (by assumption) ?_) | (first | (with_reducible refine Co.ret (by assumption) ?_) | (with_reducible refine Co.brk (by assumption) ?_) | (with_reducible refine Co.cont (by assumption) ?_) | (with_reducible refine Cnt.out (by assumption) ?_; (try dsimp only))) | (k_unfold; (try dsimp only)) | ((with_reducible show wpAny _ _ (execs _ _) _ _ _); (first | ((fail_if_success (with_reducible refine Cn.seen (by first | exact Or.inl (by assumption) | exact Or.inr (by assumption)) ?_)); refine Cnt.gen ?_; intro qk hqk) | (with_reducible refine execs_one ?_) | (with_reducible refine execs_cnt ?_; intro qk hqn hqo))) | (k_here; (with_reducible show wpAny _ _ (call (Value.ref 172) _ _) _ _ _); k_dflt (refine' random_bits_C ?k1 ?k2 ?k3 ?k5 ?k6 ?k7 ?k71 ?k8 ?k9 ?o1 ?o2 ?o3 ?o4 ?o5 ?o6 ?o7 ?N ?_; (case o3 => assumption); (case N => first | (with_reducible assumption) | exact news_tl1 (by with_reducible assumption) | exact news_tl2 (by with_reducible assumption) | exact news_tl3 (by with_reducible assumption) | exact news_tl4 (by with_reducible assumption) | exact news_tl5 (by with_reducible assumption) | assumption | exact news_tl1 (by assumption)); (case o2 => first | exact fun _ h => h | assumption); (case k1 => k_asm); (case k2 => k_asm); (case k3 => k_asm); (case k5 => k_asm); (case k6 => first | exact rfl | assumption); (case o1 => assumption); (case o4 => kst_p2); (case o5 => k_all); (case o6 => k_all); (case o7 => assumption); (case k7 => assumption); (case k71 => assumption); (case k8 => ktr_room); (case k9 => ktr_units); k_whole; intro r' vs' k' D' ls' svs' k3' h' tk' F' N' I' S' z1' z2' l1; (try k_sweep))) | (k_here; (with_reducible show wpAny _ _ (binaryOp Operator.FloorDiv (Value.int (Nat.cast _) _) (Value.int 2 _)) _ _ _); k_dflt (refine' floordiv_two ?_; k_whole)) | (k_here; (with_reducible show wpAny _ _ (call (Value.ref 88) _ _) _ _ _); k_dflt (refine' bits_C ?k1 ?k2 ?k3 ?k4 ?k5 ?k6 ?k7 ?k71 ?k8 ?k9 ?m1 ?i1 ?p1 ?_; (case k1 => k_asm); (case k2 => k_asm); (case k3 => k_asm); (case k4 => k_asm); (case k5 => k_asm); (case k6 => first | exact rfl | assumption); (case m1 => k_mem); (case i1 => l_ints); (case p1 => kst_p2); (case k7 => assumption); (case k71 => assumption); (case k8 => ktr_room); (case k9 => ktr_units); k_whole; intro t' h' tk' F' N'; (try k_sweep))) | (k_here; (with_reducible show wpAny _ _ (call (Value.ref 67) _ _) _ _ _); k_dflt (refine' sub_C ?k1 ?k2 ?k3 ?k4 ?k5 ?k6 ?k7 ?k71 ?k8 ?k9 ?m1 ?i1 ?p1 ?m2 ?i2 ?p2 ?p3 ?_; (case k1 => k_asm); (case k2 => k_asm); (case k3 => k_asm); (case k4 => k_asm); (case k5 => k_asm); (case k6 => first | exact rfl | assumption); (case m1 => k_mem); (case i1 => l_ints); (case p1 => kst_p2); (case m2 => k_mem); (case i2 => l_ints); (case p2 => kst_p2); (case p3 => kst_p2); (case k7 => assumption); (case k71 => assumption); (case k8 => ktr_room); (case k9 => ktr_units); k_whole; intro r' h' tk' vs' k' F' N' I' l1; (try k_lt l1); (try k_sweep))) | (k_here; (with_reducible show wpAny _ _ (binaryOp Operator.Mod (Value.int (Nat.cast _) _) (Value.int (Nat.cast _) _)) _ _ _); k_dflt (refine' mod_nat ?a ?_; (case a => omega); k_whole)) | (k_here; (with_reducible show wpAny _ _ (binaryOp Operator.FloorDiv (Value.int (Nat.cast _) _) (Value.int (Nat.cast _) _)) _ _ _); k_dflt (refine' floordiv_nat ?a ?b ?_; (case a => omega); (case b => omega); k_whole)) | (k_here; (with_reducible show wpAny _ _ (binaryOp Operator.Mult (Value.ref _) (Value.int _ _)) _ _ _); k_dflt (refine' zeros_C ?F ?N ?l ?a ?b ?_; (case F => k_asm); (case N => k_asm); (case l => k_mem); (case a => first | exact Int.natCast_nonneg _ | omega); (case b => omega); k_whole); intro r' h' vs' F' N' I' l1; (try k_lt l1); (try k_sweep)) | (k_here; (with_reducible show wpAny _ _ (call (Value.ref 53) _ _) _ _ _); k_dflt (refine' compare_C ?k1 ?k2 ?k3 ?k4 ?k5 ?k6 ?k7 ?k8 ?k9 ?m1 ?i1 ?p1 ?m2 ?i2 ?p2 ?_; (case k1 => k_asm); (case k2 => k_asm); (case k3 => k_asm); (case k4 => k_asm); (case k5 => k_asm); (case k6 => first | exact rfl | assumption); (case m1 => k_mem); (case i1 => l_ints); (case p1 => kst_p2); (case m2 => k_mem); (case i2 => l_ints); (case p2 => kst_p2); (case k7 => assumption); (case k8 => ktr_room); (case k9 => ktr_units); k_whole; intro t' h' tk' F' N'; (try k_sweep))) | ((with_reducible show wpAny _ _ (exec (Stmt.While _ _ _ _) _) _ _ _); refine Hold.intro ?_) | (first | with_reducible refine TurnEnd.ret ?_ | with_reducible refine TurnEnd.brk ?_) | ((with_reducible show wpAny _ _ (pyIter _) _ _ _); refine Hold.intro ?_) | (k_end; wrow_close) | walk1 | (dsimp only; walk1) | (leave1; try dsimp only))
  rename IsRange _ _ _ _ _ _ _ _ => R1
  rename News _ _ _ _ => N1
  rename Fr _ _ _ _ => F1
  refine name_rb N1 (fun r1 vs1 k1 D1 ls1 sv1 k31 e1 e2 e3 e4 e5 e6 e7 => ?_)
  subst e1 e2 e3 e4 e5 e6 e7
  have S0 := ‹SrcIs w W n2 x dx D1 ls1 sv1 (rbits W (blen (b - 1)) c).1›
  have I0 := ‹IntsAre vs1 (up (digs W (rbits W (blen (b - 1)) c).2))›
  have Z0 := ‹@LT.lt Nat _ dx r1 ∧ @LT.lt Nat _ ls1 r1 ∧ AllLt r1 news›
  have Z1 := ‹ls1 ≠ dx›
  have Z2 := ‹∀ p ∈ news, p.1 ≠ ls1›
  have hn1 : @Ne Nat r1 dx := by omega
  have hn2 : @Ne Nat r1 ls1 := by omega
  refine Hold.out ?_
  refine' for_range (σ := SRl) 80 [Str.ofString "source", Str.ofString "bound", Str.ofString "w", Str.ofString "many"] (fun st => [(Str.ofString "found", .ref st.lf)]) (fun st => [(st.lf, lst st.fvs st.fk), (dx, st.D), (st.ls, lst st.svs st.k)])
    (fun i st => st.c.ok W ∧ SrcIs w W n2 x dx st.D st.ls st.svs st.c ∧ (st.ls ≠ dx ∧ @LT.lt Nat _ dx st.lf ∧ @LT.lt Nat _ st.ls st.lf ∧ AllLt st.lf news) ∧ IntsAre st.fvs (up (digs W st.f)) ∧ st.f < 2 ^ (blen (b - 1)) ∧ rbelGo W b (blen (b - 1)) (80 - i) st.c st.f = rbelow W b c)
    ⟨(rbits W (blen (b - 1)) c).1, D1, ls1, sv1, k31, r1, vs1, k1, (rbits W (blen (b - 1)) c).2⟩ news rfl R1 (by exact small_one (by omega) (by omega) (by omega) (by omega)) (by omega) F1 N1 ?hb ?hin ?hcold ?hsep ?hP ?turn ?done
  case hb => exact ⟨rfl, trivial⟩
  case hin => exact ⟨by k_mem, by k_mem, by k_mem, trivial⟩
  case hcold => exact fun p hp => by simp only [List.mem_cons, hp, or_true]
  case hsep => exact ⟨ne_of_all Z0.2.2, hdx, Z2, trivial⟩
  case hP => exact ⟨rbits_ok hok, S0, ⟨Z1, Z0⟩, I0, rbits_lt _ _ _, rfl⟩
  case turn =>
    intro i t z90 u h tk rest hi z91 hcr hsep F2 N2
    refine hide fun G9 hG9 => ?_
    obtain ⟨q1, q2, ⟨q3, q4, q5, q6⟩, q7, q8, q9⟩ := z91
    obtain ⟨c1, D2, ls2, svs2, k2, lf2, fvs, fk, f⟩ := z90
    refine hG9 ?_
    clear hG9 G9
    have z1 := sep_head hsep
    have z2 := sep_head (sep_tail hsep)
    have z3 := sep_head (sep_tail (sep_tail hsep))
    clear N1 F1 N hsrc S0 I0 Z0 Z1 Z2
    dsimp only [List.cons_append, List.nil_append] at N2 F2 q1 q2 q3 q4 q5 q6 q7 q8 q9 z1 z2 z3
    have hy2 := hcr _ hy
    have hsub2 : ∀ p ∈ n2, p ∈ rest := fun p hp => hcr _ (hsub p hp)
    have q10 : f < 2 ^ 60 := Nat.lt_of_lt_of_le q8 (Nat.pow_le_pow_right (by decide) (by omega))
    try k_fold
    by_cases hfb : f < b
    · have e1 := cmpN_lt hfb
      repeat' ((fail_if_success (with_reducible show Hold _)); first | (with_reducible refine Cn.out (by assumption) ?_) | (first | (with_reducible refine Co.ret (by assumption) ?_) | (with_reducible refine Co.brk (by assumption) ?_) | (with_reducible refine Co.cont (by assumption) ?_) | (with_reducible refine Cnt.out (by assumption) ?_; (try dsimp only))) | (k_unfold; (try dsimp only)) | ((with_reducible show wpAny _ _ (execs _ _) _ _ _); (first | ((fail_if_success (with_reducible refine Cn.seen (by first | exact Or.inl (by assumption) | exact Or.inr (by assumption)) ?_)); refine Cnt.gen ?_; intro qk hqk) | (with_reducible refine execs_one ?_) | (with_reducible refine execs_cnt ?_; intro qk hqn hqo))) | (k_here; (with_reducible show wpAny _ _ (call (Value.ref 172) _ _) _ _ _); k_dflt (refine' random_bits_C ?k1 ?k2 ?k3 ?k5 ?k6 ?k7 ?k71 ?k8 ?k9 ?o1 ?o2 ?o3 ?o4 ?o5 ?o6 ?o7 ?N ?_; (case o3 => assumption); (case N => first | (with_reducible assumption) | exact news_tl1 (by with_reducible assumption) | exact news_tl2 (by with_reducible assumption) | exact news_tl3 (by with_reducible assumption) | exact news_tl4 (by with_reducible assumption) | exact news_tl5 (by with_reducible assumption) | assumption | exact news_tl1 (by assumption)); (case o2 => first | exact fun _ h => h | assumption); (case k1 => k_asm); (case k2 => k_asm); (case k3 => k_asm); (case k5 => k_asm); (case k6 => first | exact rfl | assumption); (case o1 => assumption); (case o4 => kst_p2); (case o5 => k_all); (case o6 => k_all); (case o7 => assumption); (case k7 => assumption); (case k71 => assumption); (case k8 => ktr_room); (case k9 => ktr_units); k_whole; intro r' vs' k' D' ls' svs' k3' h' tk' F' N' I' S' z1' z2' l1; (try k_sweep))) | (k_here; (with_reducible show wpAny _ _ (binaryOp Operator.FloorDiv (Value.int (Nat.cast _) _) (Value.int 2 _)) _ _ _); k_dflt (refine' floordiv_two ?_; k_whole)) | (k_here; (with_reducible show wpAny _ _ (call (Value.ref 88) _ _) _ _ _); k_dflt (refine' bits_C ?k1 ?k2 ?k3 ?k4 ?k5 ?k6 ?k7 ?k71 ?k8 ?k9 ?m1 ?i1 ?p1 ?_; (case k1 => k_asm); (case k2 => k_asm); (case k3 => k_asm); (case k4 => k_asm); (case k5 => k_asm); (case k6 => first | exact rfl | assumption); (case m1 => k_mem); (case i1 => l_ints); (case p1 => kst_p2); (case k7 => assumption); (case k71 => assumption); (case k8 => ktr_room); (case k9 => ktr_units); k_whole; intro t' h' tk' F' N'; (try k_sweep))) | (k_here; (with_reducible show wpAny _ _ (call (Value.ref 67) _ _) _ _ _); k_dflt (refine' sub_C ?k1 ?k2 ?k3 ?k4 ?k5 ?k6 ?k7 ?k71 ?k8 ?k9 ?m1 ?i1 ?p1 ?m2 ?i2 ?p2 ?p3 ?_; (case k1 => k_asm); (case k2 => k_asm); (case k3 => k_asm); (case k4 => k_asm); (case k5 => k_asm); (case k6 => first | exact rfl | assumption); (case m1 => k_mem); (case i1 => l_ints); (case p1 => kst_p2); (case m2 => k_mem); (case i2 => l_ints); (case p2 => kst_p2); (case p3 => kst_p2); (case k7 => assumption); (case k71 => assumption); (case k8 => ktr_room); (case k9 => ktr_units); k_whole; intro r' h' tk' vs' k' F' N' I' l1; (try k_lt l1); (try k_sweep))) | (k_here; (with_reducible show wpAny _ _ (binaryOp Operator.Mod (Value.int (Nat.cast _) _) (Value.int (Nat.cast _) _)) _ _ _); k_dflt (refine' mod_nat ?a ?_; (case a => omega); k_whole)) | (k_here; (with_reducible show wpAny _ _ (binaryOp Operator.FloorDiv (Value.int (Nat.cast _) _) (Value.int (Nat.cast _) _)) _ _ _); k_dflt (refine' floordiv_nat ?a ?b ?_; (case a => omega); (case b => omega); k_whole)) | (k_here; (with_reducible show wpAny _ _ (binaryOp Operator.Mult (Value.ref _) (Value.int _ _)) _ _ _); k_dflt (refine' zeros_C ?F ?N ?l ?a ?b ?_; (case F => k_asm); (case N => k_asm); (case l => k_mem); (case a => first | exact Int.natCast_nonneg _ | omega); (case b => omega); k_whole); intro r' h' vs' F' N' I' l1; (try k_lt l1); (try k_sweep)) | (k_here; (with_reducible show wpAny _ _ (call (Value.ref 53) _ _) _ _ _); k_dflt (refine' compare_C ?k1 ?k2 ?k3 ?k4 ?k5 ?k6 ?k7 ?k8 ?k9 ?m1 ?i1 ?p1 ?m2 ?i2 ?p2 ?_; (case k1 => k_asm); (case k2 => k_asm); (case k3 => k_asm); (case k4 => k_asm); (case k5 => k_asm); (case k6 => first | exact rfl | assumption); (case m1 => k_mem); (case i1 => l_ints); (case p1 => kst_p2); (case m2 => k_mem); (case i2 => l_ints); (case p2 => kst_p2); (case k7 => assumption); (case k8 => ktr_room); (case k9 => ktr_units); k_whole; intro t' h' tk' F' N'; (try k_sweep))) | ((with_reducible show wpAny _ _ (exec (Stmt.While _ _ _ _) _) _ _ _); refine Hold.intro ?_) | (first | with_reducible refine TurnEnd.ret ?_ | with_reducible refine TurnEnd.brk ?_) | ((with_reducible show wpAny _ _ (pyIter _) _ _ _); refine Hold.intro ?_) | (k_end; wrow_close) | walk1 | (dsimp only; walk1) | (leave1; try dsimp only))
      rename Fr h₀ L _ m => F3
      rename News h₀ L _ _ => N3
      rw [rbelGo_hit hfb] at q9
      rw [← q9] at ret
      exact ret _ _ _ _ _ _ _ _ _ F3 (news_sub3 N3 hcr) q7 q2 q3 (fun p hp => z3 p (hcr p hp)) ⟨q4, q5, q6⟩
    · have e1 := cmpN_ge hfb
      repeat' ((fail_if_success (with_reducible show Hold _)); first | (with_reducible refine Cn.out (by assumption) ?_) | (first | (with_reducible refine Co.ret (by assumption) ?_) | (with_reducible refine Co.brk (by assumption) ?_) | (with_reducible refine Co.cont (by assumption) ?_) | (with_reducible refine Cnt.out (by assumption) ?_; (try dsimp only))) | (k_unfold; (try dsimp only)) | ((with_reducible show wpAny _ _ (execs _ _) _ _ _); (first | ((fail_if_success (with_reducible refine Cn.seen (by first | exact Or.inl (by assumption) | exact Or.inr (by assumption)) ?_)); refine Cnt.gen ?_; intro qk hqk) | (with_reducible refine execs_one ?_) | (with_reducible refine execs_cnt ?_; intro qk hqn hqo))) | (k_here; (with_reducible show wpAny _ _ (call (Value.ref 172) _ _) _ _ _); k_dflt (refine' random_bits_C ?k1 ?k2 ?k3 ?k5 ?k6 ?k7 ?k71 ?k8 ?k9 ?o1 ?o2 ?o3 ?o4 ?o5 ?o6 ?o7 ?N ?_; (case o3 => assumption); (case N => first | (with_reducible assumption) | exact news_tl1 (by with_reducible assumption) | exact news_tl2 (by with_reducible assumption) | exact news_tl3 (by with_reducible assumption) | exact news_tl4 (by with_reducible assumption) | exact news_tl5 (by with_reducible assumption) | assumption | exact news_tl1 (by assumption)); (case o2 => first | exact fun _ h => h | assumption); (case k1 => k_asm); (case k2 => k_asm); (case k3 => k_asm); (case k5 => k_asm); (case k6 => first | exact rfl | assumption); (case o1 => assumption); (case o4 => kst_p2); (case o5 => k_all); (case o6 => k_all); (case o7 => assumption); (case k7 => assumption); (case k71 => assumption); (case k8 => ktr_room); (case k9 => ktr_units); k_whole; intro r' vs' k' D' ls' svs' k3' h' tk' F' N' I' S' z1' z2' l1; (try k_sweep))) | (k_here; (with_reducible show wpAny _ _ (binaryOp Operator.FloorDiv (Value.int (Nat.cast _) _) (Value.int 2 _)) _ _ _); k_dflt (refine' floordiv_two ?_; k_whole)) | (k_here; (with_reducible show wpAny _ _ (call (Value.ref 88) _ _) _ _ _); k_dflt (refine' bits_C ?k1 ?k2 ?k3 ?k4 ?k5 ?k6 ?k7 ?k71 ?k8 ?k9 ?m1 ?i1 ?p1 ?_; (case k1 => k_asm); (case k2 => k_asm); (case k3 => k_asm); (case k4 => k_asm); (case k5 => k_asm); (case k6 => first | exact rfl | assumption); (case m1 => k_mem); (case i1 => l_ints); (case p1 => kst_p2); (case k7 => assumption); (case k71 => assumption); (case k8 => ktr_room); (case k9 => ktr_units); k_whole; intro t' h' tk' F' N'; (try k_sweep))) | (k_here; (with_reducible show wpAny _ _ (call (Value.ref 67) _ _) _ _ _); k_dflt (refine' sub_C ?k1 ?k2 ?k3 ?k4 ?k5 ?k6 ?k7 ?k71 ?k8 ?k9 ?m1 ?i1 ?p1 ?m2 ?i2 ?p2 ?p3 ?_; (case k1 => k_asm); (case k2 => k_asm); (case k3 => k_asm); (case k4 => k_asm); (case k5 => k_asm); (case k6 => first | exact rfl | assumption); (case m1 => k_mem); (case i1 => l_ints); (case p1 => kst_p2); (case m2 => k_mem); (case i2 => l_ints); (case p2 => kst_p2); (case p3 => kst_p2); (case k7 => assumption); (case k71 => assumption); (case k8 => ktr_room); (case k9 => ktr_units); k_whole; intro r' h' tk' vs' k' F' N' I' l1; (try k_lt l1); (try k_sweep))) | (k_here; (with_reducible show wpAny _ _ (binaryOp Operator.Mod (Value.int (Nat.cast _) _) (Value.int (Nat.cast _) _)) _ _ _); k_dflt (refine' mod_nat ?a ?_; (case a => omega); k_whole)) | (k_here; (with_reducible show wpAny _ _ (binaryOp Operator.FloorDiv (Value.int (Nat.cast _) _) (Value.int (Nat.cast _) _)) _ _ _); k_dflt (refine' floordiv_nat ?a ?b ?_; (case a => omega); (case b => omega); k_whole)) | (k_here; (with_reducible show wpAny _ _ (binaryOp Operator.Mult (Value.ref _) (Value.int _ _)) _ _ _); k_dflt (refine' zeros_C ?F ?N ?l ?a ?b ?_; (case F => k_asm); (case N => k_asm); (case l => k_mem); (case a => first | exact Int.natCast_nonneg _ | omega); (case b => omega); k_whole); intro r' h' vs' F' N' I' l1; (try k_lt l1); (try k_sweep)) | (k_here; (with_reducible show wpAny _ _ (call (Value.ref 53) _ _) _ _ _); k_dflt (refine' compare_C ?k1 ?k2 ?k3 ?k4 ?k5 ?k6 ?k7 ?k8 ?k9 ?m1 ?i1 ?p1 ?m2 ?i2 ?p2 ?_; (case k1 => k_asm); (case k2 => k_asm); (case k3 => k_asm); (case k4 => k_asm); (case k5 => k_asm); (case k6 => first | exact rfl | assumption); (case m1 => k_mem); (case i1 => l_ints); (case p1 => kst_p2); (case m2 => k_mem); (case i2 => l_ints); (case p2 => kst_p2); (case k7 => assumption); (case k8 => ktr_room); (case k9 => ktr_units); k_whole; intro t' h' tk' F' N'; (try k_sweep))) | ((with_reducible show wpAny _ _ (exec (Stmt.While _ _ _ _) _) _ _ _); refine Hold.intro ?_) | (first | with_reducible refine TurnEnd.ret ?_ | with_reducible refine TurnEnd.brk ?_) | ((with_reducible show wpAny _ _ (pyIter _) _ _ _); refine Hold.intro ?_) | (k_end; wrow_close) | walk1 | (dsimp only; walk1) | (leave1; try dsimp only))
      rename News _ _ _ _ => N3
      rename Fr _ _ _ _ => F3
      have S3 := ‹SrcIs w W n2 x dx _ _ _ (rbits W (blen (b - 1)) c1).1›
      have I3 := ‹IntsAre _ (up (digs W (rbits W (blen (b - 1)) c1).2))›
      have A3 := ‹@LT.lt Nat _ dx _ ∧ @LT.lt Nat _ _ _ ∧ AllLt _ rest›
      have B3 := ‹∀ p ∈ rest, p.1 ≠ _›
      refine TurnEnd.mk ⟨(rbits W (blen (b - 1)) c1).1, _, _, _, _, _, _, _, (rbits W (blen (b - 1)) c1).2⟩ F3 N3 ⟨rfl, trivial⟩ ⟨rfl, rfl, rfl, rfl, trivial⟩ ⟨List.mem_cons_self, by k_mem, by k_mem, trivial⟩ (fun p hp => by simp only [List.mem_cons, hp, or_true]) ⟨ne_of_all A3.2.2, z2, by assumption, trivial⟩
        ⟨rbits_ok q1, S3, ⟨by assumption, A3.1, A3.2.1, lt_sub A3.2.2 hcr⟩, I3, rbits_lt _ _ _, ?_⟩
      rw [← q9, rbelGo_miss hfb (by omega)]
      rw [show 80 - i - 1 = 80 - (i + 1) by omega]
  case done =>
    intro z90 u h tk z91 hsep F2 N2
    refine hide fun G9 hG9 => ?_
    obtain ⟨q1, q2, ⟨q3, q4, q5, q6⟩, q7, q8, q9⟩ := z91
    obtain ⟨c1, D2, ls2, svs2, k2, lf2, fvs, fk, f⟩ := z90
    refine hG9 ?_
    clear hG9 G9
    have z1 := sep_head hsep
    have z2 := sep_head (sep_tail hsep)
    have z3 := sep_head (sep_tail (sep_tail hsep))
    clear N1 F1 N hsrc S0 I0 Z0 Z1 Z2
    dsimp only [List.cons_append, List.nil_append] at N2 F2 q1 q2 q3 q4 q5 q6 q7 q8 q9 z1 z2 z3
    have q10 : f < 2 ^ 60 := Nat.lt_of_lt_of_le q8 (Nat.pow_le_pow_right (by decide) (by omega))
    by_cases hfb : f < b
    · have e1 := cmpN_lt hfb
      repeat' ((fail_if_success (with_reducible show Hold _)); first | (with_reducible refine Cn.out (by assumption) ?_) | (first | (with_reducible refine Co.ret (by assumption) ?_) | (with_reducible refine Co.brk (by assumption) ?_) | (with_reducible refine Co.cont (by assumption) ?_) | (with_reducible refine Cnt.out (by assumption) ?_; (try dsimp only))) | (k_unfold; (try dsimp only)) | ((with_reducible show wpAny _ _ (execs _ _) _ _ _); (first | ((fail_if_success (with_reducible refine Cn.seen (by first | exact Or.inl (by assumption) | exact Or.inr (by assumption)) ?_)); refine Cnt.gen ?_; intro qk hqk) | (with_reducible refine execs_one ?_) | (with_reducible refine execs_cnt ?_; intro qk hqn hqo))) | (k_here; (with_reducible show wpAny _ _ (call (Value.ref 172) _ _) _ _ _); k_dflt (refine' random_bits_C ?k1 ?k2 ?k3 ?k5 ?k6 ?k7 ?k71 ?k8 ?k9 ?o1 ?o2 ?o3 ?o4 ?o5 ?o6 ?o7 ?N ?_; (case o3 => assumption); (case N => first | (with_reducible assumption) | exact news_tl1 (by with_reducible assumption) | exact news_tl2 (by with_reducible assumption) | exact news_tl3 (by with_reducible assumption) | exact news_tl4 (by with_reducible assumption) | exact news_tl5 (by with_reducible assumption) | assumption | exact news_tl1 (by assumption)); (case o2 => first | exact fun _ h => h | assumption); (case k1 => k_asm); (case k2 => k_asm); (case k3 => k_asm); (case k5 => k_asm); (case k6 => first | exact rfl | assumption); (case o1 => assumption); (case o4 => kst_p2); (case o5 => k_all); (case o6 => k_all); (case o7 => assumption); (case k7 => assumption); (case k71 => assumption); (case k8 => ktr_room); (case k9 => ktr_units); k_whole; intro r' vs' k' D' ls' svs' k3' h' tk' F' N' I' S' z1' z2' l1; (try k_sweep))) | (k_here; (with_reducible show wpAny _ _ (binaryOp Operator.FloorDiv (Value.int (Nat.cast _) _) (Value.int 2 _)) _ _ _); k_dflt (refine' floordiv_two ?_; k_whole)) | (k_here; (with_reducible show wpAny _ _ (call (Value.ref 88) _ _) _ _ _); k_dflt (refine' bits_C ?k1 ?k2 ?k3 ?k4 ?k5 ?k6 ?k7 ?k71 ?k8 ?k9 ?m1 ?i1 ?p1 ?_; (case k1 => k_asm); (case k2 => k_asm); (case k3 => k_asm); (case k4 => k_asm); (case k5 => k_asm); (case k6 => first | exact rfl | assumption); (case m1 => k_mem); (case i1 => l_ints); (case p1 => kst_p2); (case k7 => assumption); (case k71 => assumption); (case k8 => ktr_room); (case k9 => ktr_units); k_whole; intro t' h' tk' F' N'; (try k_sweep))) | (k_here; (with_reducible show wpAny _ _ (call (Value.ref 67) _ _) _ _ _); k_dflt (refine' sub_C ?k1 ?k2 ?k3 ?k4 ?k5 ?k6 ?k7 ?k71 ?k8 ?k9 ?m1 ?i1 ?p1 ?m2 ?i2 ?p2 ?p3 ?_; (case k1 => k_asm); (case k2 => k_asm); (case k3 => k_asm); (case k4 => k_asm); (case k5 => k_asm); (case k6 => first | exact rfl | assumption); (case m1 => k_mem); (case i1 => l_ints); (case p1 => kst_p2); (case m2 => k_mem); (case i2 => l_ints); (case p2 => kst_p2); (case p3 => kst_p2); (case k7 => assumption); (case k71 => assumption); (case k8 => ktr_room); (case k9 => ktr_units); k_whole; intro r' h' tk' vs' k' F' N' I' l1; (try k_lt l1); (try k_sweep))) | (k_here; (with_reducible show wpAny _ _ (binaryOp Operator.Mod (Value.int (Nat.cast _) _) (Value.int (Nat.cast _) _)) _ _ _); k_dflt (refine' mod_nat ?a ?_; (case a => omega); k_whole)) | (k_here; (with_reducible show wpAny _ _ (binaryOp Operator.FloorDiv (Value.int (Nat.cast _) _) (Value.int (Nat.cast _) _)) _ _ _); k_dflt (refine' floordiv_nat ?a ?b ?_; (case a => omega); (case b => omega); k_whole)) | (k_here; (with_reducible show wpAny _ _ (binaryOp Operator.Mult (Value.ref _) (Value.int _ _)) _ _ _); k_dflt (refine' zeros_C ?F ?N ?l ?a ?b ?_; (case F => k_asm); (case N => k_asm); (case l => k_mem); (case a => first | exact Int.natCast_nonneg _ | omega); (case b => omega); k_whole); intro r' h' vs' F' N' I' l1; (try k_lt l1); (try k_sweep)) | (k_here; (with_reducible show wpAny _ _ (call (Value.ref 53) _ _) _ _ _); k_dflt (refine' compare_C ?k1 ?k2 ?k3 ?k4 ?k5 ?k6 ?k7 ?k8 ?k9 ?m1 ?i1 ?p1 ?m2 ?i2 ?p2 ?_; (case k1 => k_asm); (case k2 => k_asm); (case k3 => k_asm); (case k4 => k_asm); (case k5 => k_asm); (case k6 => first | exact rfl | assumption); (case m1 => k_mem); (case i1 => l_ints); (case p1 => kst_p2); (case m2 => k_mem); (case i2 => l_ints); (case p2 => kst_p2); (case k7 => assumption); (case k8 => ktr_room); (case k9 => ktr_units); k_whole; intro t' h' tk' F' N'; (try k_sweep))) | ((with_reducible show wpAny _ _ (exec (Stmt.While _ _ _ _) _) _ _ _); refine Hold.intro ?_) | (first | with_reducible refine TurnEnd.ret ?_ | with_reducible refine TurnEnd.brk ?_) | ((with_reducible show wpAny _ _ (pyIter _) _ _ _); refine Hold.intro ?_) | (k_end; wrow_close) | walk1 | (dsimp only; walk1) | (leave1; try dsimp only))
      rename Fr h₀ L _ m => F3
      rename News h₀ L _ _ => N3
      rw [rbelGo_hit hfb] at q9
      rw [← q9] at ret
      exact ret _ _ _ _ _ _ _ _ _ F3 N3 q7 q2 q3 z3 ⟨q4, q5, q6⟩
    · have e1 := cmpN_ge hfb
      have e2 : b ≤ f := by omega
      repeat' ((fail_if_success (with_reducible show Hold _)); first | (with_reducible refine Cn.out (by assumption) ?_) | (first | (with_reducible refine Co.ret (by assumption) ?_) | (with_reducible refine Co.brk (by assumption) ?_) | (with_reducible refine Co.cont (by assumption) ?_) | (with_reducible refine Cnt.out (by assumption) ?_; (try dsimp only))) | (k_unfold; (try dsimp only)) | ((with_reducible show wpAny _ _ (execs _ _) _ _ _); (first | ((fail_if_success (with_reducible refine Cn.seen (by first | exact Or.inl (by assumption) | exact Or.inr (by assumption)) ?_)); refine Cnt.gen ?_; intro qk hqk) | (with_reducible refine execs_one ?_) | (with_reducible refine execs_cnt ?_; intro qk hqn hqo))) | (k_here; (with_reducible show wpAny _ _ (call (Value.ref 172) _ _) _ _ _); k_dflt (refine' random_bits_C ?k1 ?k2 ?k3 ?k5 ?k6 ?k7 ?k71 ?k8 ?k9 ?o1 ?o2 ?o3 ?o4 ?o5 ?o6 ?o7 ?N ?_; (case o3 => assumption); (case N => first | (with_reducible assumption) | exact news_tl1 (by with_reducible assumption) | exact news_tl2 (by with_reducible assumption) | exact news_tl3 (by with_reducible assumption) | exact news_tl4 (by with_reducible assumption) | exact news_tl5 (by with_reducible assumption) | assumption | exact news_tl1 (by assumption)); (case o2 => first | exact fun _ h => h | assumption); (case k1 => k_asm); (case k2 => k_asm); (case k3 => k_asm); (case k5 => k_asm); (case k6 => first | exact rfl | assumption); (case o1 => assumption); (case o4 => kst_p2); (case o5 => k_all); (case o6 => k_all); (case o7 => assumption); (case k7 => assumption); (case k71 => assumption); (case k8 => ktr_room); (case k9 => ktr_units); k_whole; intro r' vs' k' D' ls' svs' k3' h' tk' F' N' I' S' z1' z2' l1; (try k_sweep))) | (k_here; (with_reducible show wpAny _ _ (binaryOp Operator.FloorDiv (Value.int (Nat.cast _) _) (Value.int 2 _)) _ _ _); k_dflt (refine' floordiv_two ?_; k_whole)) | (k_here; (with_reducible show wpAny _ _ (call (Value.ref 88) _ _) _ _ _); k_dflt (refine' bits_C ?k1 ?k2 ?k3 ?k4 ?k5 ?k6 ?k7 ?k71 ?k8 ?k9 ?m1 ?i1 ?p1 ?_; (case k1 => k_asm); (case k2 => k_asm); (case k3 => k_asm); (case k4 => k_asm); (case k5 => k_asm); (case k6 => first | exact rfl | assumption); (case m1 => k_mem); (case i1 => l_ints); (case p1 => kst_p2); (case k7 => assumption); (case k71 => assumption); (case k8 => ktr_room); (case k9 => ktr_units); k_whole; intro t' h' tk' F' N'; (try k_sweep))) | (k_here; (with_reducible show wpAny _ _ (call (Value.ref 67) _ _) _ _ _); k_dflt (refine' sub_C ?k1 ?k2 ?k3 ?k4 ?k5 ?k6 ?k7 ?k71 ?k8 ?k9 ?m1 ?i1 ?p1 ?m2 ?i2 ?p2 ?p3 ?_; (case k1 => k_asm); (case k2 => k_asm); (case k3 => k_asm); (case k4 => k_asm); (case k5 => k_asm); (case k6 => first | exact rfl | assumption); (case m1 => k_mem); (case i1 => l_ints); (case p1 => kst_p2); (case m2 => k_mem); (case i2 => l_ints); (case p2 => kst_p2); (case p3 => kst_p2); (case k7 => assumption); (case k71 => assumption); (case k8 => ktr_room); (case k9 => ktr_units); k_whole; intro r' h' tk' vs' k' F' N' I' l1; (try k_lt l1); (try k_sweep))) | (k_here; (with_reducible show wpAny _ _ (binaryOp Operator.Mod (Value.int (Nat.cast _) _) (Value.int (Nat.cast _) _)) _ _ _); k_dflt (refine' mod_nat ?a ?_; (case a => omega); k_whole)) | (k_here; (with_reducible show wpAny _ _ (binaryOp Operator.FloorDiv (Value.int (Nat.cast _) _) (Value.int (Nat.cast _) _)) _ _ _); k_dflt (refine' floordiv_nat ?a ?b ?_; (case a => omega); (case b => omega); k_whole)) | (k_here; (with_reducible show wpAny _ _ (binaryOp Operator.Mult (Value.ref _) (Value.int _ _)) _ _ _); k_dflt (refine' zeros_C ?F ?N ?l ?a ?b ?_; (case F => k_asm); (case N => k_asm); (case l => k_mem); (case a => first | exact Int.natCast_nonneg _ | omega); (case b => omega); k_whole); intro r' h' vs' F' N' I' l1; (try k_lt l1); (try k_sweep)) | (k_here; (with_reducible show wpAny _ _ (call (Value.ref 53) _ _) _ _ _); k_dflt (refine' compare_C ?k1 ?k2 ?k3 ?k4 ?k5 ?k6 ?k7 ?k8 ?k9 ?m1 ?i1 ?p1 ?m2 ?i2 ?p2 ?_; (case k1 => k_asm); (case k2 => k_asm); (case k3 => k_asm); (case k4 => k_asm); (case k5 => k_asm); (case k6 => first | exact rfl | assumption); (case m1 => k_mem); (case i1 => l_ints); (case p1 => kst_p2); (case m2 => k_mem); (case i2 => l_ints); (case p2 => kst_p2); (case k7 => assumption); (case k8 => ktr_room); (case k9 => ktr_units); k_whole; intro t' h' tk' F' N'; (try k_sweep))) | ((with_reducible show wpAny _ _ (exec (Stmt.While _ _ _ _) _) _ _ _); refine Hold.intro ?_) | (first | with_reducible refine TurnEnd.ret ?_ | with_reducible refine TurnEnd.brk ?_) | ((with_reducible show wpAny _ _ (pyIter _) _ _ _); refine Hold.intro ?_) | (k_end; wrow_close) | walk1 | (dsimp only; walk1) | (leave1; try dsimp only))
      rename Fr h₀ L _ m => F3
      rename News h₀ L _ _ => N3
      have q9' : (c1, f - b) = rbelow W b c := by rw [← q9]; show _ = (c1, if f < b then f else f - b); rw [if_neg hfb]
      rw [← q9'] at ret
      have A3 := ‹@LT.lt Nat _ lf2 _ ∧ @LT.lt Nat _ dx _ ∧ @LT.lt Nat _ ls2 _ ∧ AllLt _ news›
      exact ret _ _ _ _ _ _ _ _ _ F3 (news_drop1 N3) ‹IntsAre _ (up (digs W (f - b)))› q2 q3 z3 A3.2
end
section
variable {w : World} {mean : ExcName → Option Value} {mg mb : Str → Option Value}
  {dp un : Nat} {gd : Option (List Code)} {cn : Str} {cs : Scope} {a : Addr} {ccd : Value} {cl : List (Str × Addr)} {outer : List Env} {A₀ : Around} {base h₀ : Heap} {L : Addr} {m : Str → Option Value} {news : Led} {s : Shared}
  {Q E : Value → Shared → Prop}
  (B : Below A₀ base outer h₀) (F : Fr h₀ L s.heap m) (X : (hd.heap_39 w.params).In h₀) (N : News h₀ L s.heap news) (T : Top hd.view_39 (looseW hd.view_39 []) mean mg mb h₀) (hk : cs.kind = .function)
include B F X N T hk
omit B F X N T hk in
theorem name_rv {h₀ h : Heap} {L I r dx ls : Addr} {O : Obj} {vs svs : List Value} {k k3 : Nat} {D : Obj} {news : Led} {G : Prop} (_ : News h₀ L h ((I, O) :: (r, lst vs k) :: (dx, D) :: (ls, lst svs k3) :: news))
    (f : ∀ I' r' vs' k' D' ls' svs' k3', I' = I → r' = r → vs' = vs → k' = k → D' = D → ls' = ls → svs' = svs → k3' = k3 → G) : G := f _ _ _ _ _ _ _ _ rfl rfl rfl rfl rfl rfl rfl rfl
omit B F X N T hk in
theorem news_sub2 {h₀ h : Heap} {L : Addr} {b c : Addr × Obj} {news rest : Led} (N : News h₀ L h (b :: c :: rest)) (hcr : ∀ p ∈ news, p ∈ rest) : News h₀ L h (b :: c :: news) := fun p hp => N p (by
  simp only [List.mem_cons] at hp ⊢
  rcases hp with h | h | h
  · exact .inl h
  · exact .inr (.inl h)
  · exact .inr (.inr (hcr _ h)))
structure SSb where
  v : Nat
  t : Tok
omit N in
set_option maxHeartbeats 8000000 in
theorem small_below_C {x dx ls : Addr} {D : Obj} {svs : List Value} {k3 b : Nat} {c : Src} {W : Nat} {tn tw : Tok} (hW : 0 < W) (hW2 : W ≤ 6) (hd1 : dp + 25 < recursionLimit) (hu : un + 100 < cLine)
    (hok : c.ok W) {n2 : Led} (hsub : ∀ p ∈ n2, p ∈ news) (hsrc : SrcIs w W n2 x dx D ls svs c) (hb0 : 0 < b) (hb : b ≤ 16)
    (hdx : ∀ p ∈ news, p.1 ≠ dx) (hls : ∀ p ∈ news, p.1 ≠ ls) (hlx : ls ≠ dx)
    (N : News h₀ L s.heap ((dx, D) :: (ls, lst svs k3) :: news))
    (ret : ∀ t D' ls' svs' k3' h' tk', Fr h₀ L h' m → News h₀ L h' ((dx, D') :: (ls', lst svs' k3') :: news) → SrcIs w W n2 x dx D' ls' svs' (rbelow W b c).1 →
      (ls' ≠ dx) → (∀ p ∈ news, p.1 ≠ ls') → Q (.int ((rbelow W b c).2 : Int) t) { s with heap := h', toks := tk' }) :
    wpAny (model Challenge.rw_sj0076_01.row.prog w) (ktrTop dp un gd cn cs L a ccd cl outer) (call (.ref 186) [.ref x, .int b tn, .int W tw]) Q E s := by
  have hwi : (0 : Int) < (W : Int) := by omega
  have hwi2 : (W : Int) ≤ 6 := by omega
  have hb30 : b < 2 ^ 30 := Nat.lt_of_le_of_lt hb (by decide)
  refine wpAny_call ?_
  k_dflt (first | (refine' code_defC ?k1 ?k2 ?k3 ?k4 ?k5 ?kA ?kF ?kK ?k6 ?k7 ?k8 ?k9 ?kB ?kD ?_ ?c2 ?c3 ?c4; (case kA => exact rfl); (case kF => exact rfl); (case kK => first | exact rfl | assumption); (case k1 => k_asm); (case k2 => k_asm); (case k3 => k_asm); (case k4 => k_asm); (case k5 => k_asm); (case k6 => k_is); (case k7 => k_is); (case k8 => ktr_room); (case k9 => first | exact BindsTo.of_eq rfl | exact binds_K (by k_in) rfl (by k_is) rfl rfl rfl); (case kB => exact rfl); (case kD => decide +kernel); (case c2 => exact rfl); (case c3 => exact rfl); (case c4 => exact rfl); k_whole; intro g' L' h' tk' cells' FG' F' N' Y' B' X' T' l1; (try k_lt l1); k_cells Y'; (try simp only [List.cons_append, List.nil_append] at N'); (try dsimp only); (try k_lift B'); (try k_fold)) | (refine' code_def ?k1 ?k2 ?k3 ?k4 ?k5 ?kA ?kF ?kK ?k6 ?k7 ?k8 ?k9 ?kB ?_ ?c2 ?c3 ?c4 ?c5; (case kA => exact rfl); (case kF => exact rfl); (case kK => first | exact rfl | assumption); (case k1 => k_asm); (case k2 => k_asm); (case k3 => k_asm); (case k4 => k_asm); (case k5 => k_asm); (case k6 => k_is); (case k7 => k_is); (case k8 => ktr_room); (case k9 => first | exact BindsTo.of_eq rfl | exact binds_K (by k_in) rfl (by k_is) rfl rfl rfl); (case c5 => decide); (case kB => exact locs rfl); (case c2 => exact rfl); (case c3 => exact rfl); (case c4 => exact rfl); k_whole; intro g' L' h' FG' F' N' B' X' T'; (try dsimp only); (try k_lift B'); (try k_fold)))
  repeat' ((fail_if_success (with_reducible show Hold _)); first | (with_reducible refine Cn.out (by assumption) ?_) | (first | (with_reducible refine Co.ret (by assumption) ?_) | (with_reducible refine Co.brk (by assumption) ?_) | (with_reducible refine Co.cont (by assumption) ?_) | (with_reducible refine Cnt.out (by assumption) ?_; (try dsimp only))) | (k_unfold; (try dsimp only)) | ((with_reducible show wpAny _ _ (execs _ _) _ _ _); (first | ((fail_if_success (with_reducible refine Cn.seen (by first | exact Or.inl (by assumption) | exact Or.inr (by assumption)) ?_)); refine Cnt.gen ?_; intro qk hqk) | (with_reducible refine execs_one ?_) | (with_reducible refine execs_cnt ?_; intro qk hqn hqo))) | (k_here; (with_reducible show wpAny _ _ (call (Value.ref 179) _ _) _ _ _); k_dflt (refine' random_below_C ?k1 ?k2 ?k3 ?k5 ?k6 ?k7 ?k71 ?k8 ?k9 ?o1 ?o2 ?o3 ?p0 ?p1 ?m1 ?i1 ?o5 ?o6 ?o7 ?N ?_; (case o3 => assumption); (case N => first | exact news_hot1 (by with_reducible assumption) | exact news_hot1 (news_tl1 (by with_reducible assumption)) | exact news_hot2 (by with_reducible assumption) | (with_reducible assumption) | exact news_hot1 (by assumption) | assumption); (case o2 => first | exact fun _ h => h | assumption | exact fun p hp => List.mem_cons_of_mem _ ((by assumption : ∀ p ∈ _, p ∈ _) p hp)); (case k1 => k_asm); (case k2 => k_asm); (case k3 => k_asm); (case k5 => k_asm); (case k6 => first | exact rfl | assumption); (case o1 => assumption); (case m1 => k_mem); (case i1 => l_ints); (case p0 => kst_p2); (case p1 => kst_p2); (case o5 => first | assumption | (refine all_cons (by first | k_ne | assumption | (dsimp only; omega)) ?_; first | assumption | (refine all_cons (by first | k_ne | assumption | (dsimp only; omega)) ?_; assumption))); (case o6 => first | assumption | (refine all_cons (by first | k_ne | assumption | (dsimp only; omega)) ?_; first | assumption | (refine all_cons (by first | k_ne | assumption | (dsimp only; omega)) ?_; assumption))); (case o7 => assumption); (case k7 => assumption); (case k71 => assumption); (case k8 => ktr_room); (case k9 => ktr_units); k_whole; intro r' vs' k' D' ls' svs' k3' h' tk' F' N' I' S' z1' z2' l1; (try k_sweep))) | (k_here; (with_reducible show wpAny _ _ (call (Value.ref 193) _ _) _ _ _); k_dflt (refine' small_number_C ?k1 ?k2 ?k3 ?k4 ?k5 ?k6 ?k7 ?k71 ?k8 ?k9 ?p1 ?_; (case k1 => k_asm); (case k2 => k_asm); (case k3 => k_asm); (case k4 => k_asm); (case k5 => k_asm); (case k6 => first | exact rfl | assumption); (case p1 => kst_p2); (case k7 => assumption); (case k71 => assumption); (case k8 => ktr_room); (case k9 => ktr_units); k_whole; intro r' h' tk' vs' k' F' N' I' l1; (try k_lt l1); (try k_sweep))) | (k_here; (with_reducible show wpAny _ _ (binaryOp Operator.FloorDiv (Value.int (Nat.cast _) _) (Value.int 2 _)) _ _ _); k_dflt (refine' floordiv_two ?_; k_whole)) | (k_here; (with_reducible show wpAny _ _ (binaryOp Operator.Mod (Value.int (Nat.cast _) _) (Value.int (Nat.cast _) _)) _ _ _); k_dflt (refine' mod_nat ?a ?_; (case a => omega); k_whole)) | (k_here; (with_reducible show wpAny _ _ (binaryOp Operator.FloorDiv (Value.int (Nat.cast _) _) (Value.int (Nat.cast _) _)) _ _ _); k_dflt (refine' floordiv_nat ?a ?b ?_; (case a => omega); (case b => omega); k_whole)) | (k_here; (with_reducible show wpAny _ _ (binaryOp Operator.Mult (Value.ref _) (Value.int _ _)) _ _ _); k_dflt (refine' zeros_C ?F ?N ?l ?a ?b ?_; (case F => k_asm); (case N => k_asm); (case l => k_mem); (case a => first | exact Int.natCast_nonneg _ | omega); (case b => omega); k_whole); intro r' h' vs' F' N' I' l1; (try k_lt l1); (try k_sweep)) | ((with_reducible show wpAny _ _ (exec (Stmt.While _ _ _ _) _) _ _ _); refine Hold.intro ?_) | (first | with_reducible refine TurnEnd.ret ?_ | with_reducible refine TurnEnd.brk ?_) | ((with_reducible show wpAny _ _ (pyIter _) _ _ _); refine Hold.intro ?_) | (k_end; wrow_close) | walk1 | (dsimp only; walk1) | (leave1; try dsimp only))
  rename News _ _ _ _ => N1
  rename Fr _ _ _ _ => F1
  have I0 := ‹IntsAre _ (up (digs W (rbelow W b c).2))›
  refine name_rv N1 (fun I r1 vs1 k1 D1 ls1 sv1 k31 e0 e1 e2 e3 e4 e5 e6 e7 => ?_)
  subst e0 e1 e2 e3 e4 e5 e6 e7
  have hlt := ‹@LT.lt Nat _ r1 I ∧ @LT.lt Nat _ dx I ∧ @LT.lt Nat _ ls1 I ∧ _›
  have S0 := ‹SrcIs w W n2 x dx D1 ls1 sv1 (rbelow W b c).1›
  have Z1 := ‹ls1 ≠ dx›
  have Z2 := ‹∀ p ∈ _ :: news, p.1 ≠ ls1›
  have hrl : (rbelow W b c).2 < 16 := Nat.lt_of_lt_of_le (rbelow_lt hb0 hb) hb
  generalize hR : (rbelow W b c).2 = R at *
  have hlen : vs1.length = (digs W R).length := by rw [I0.length, up_length]
  obtain ⟨tv0, htv⟩ := fr_map F1 (fun m => ∃ t : Tok, m (Str.ofString "value") = some (.int ((0 : Nat) : Int) t)) ⟨_, rfl⟩
  refine Hold.out ?_
  refine' for_rev (σ := SSb) (l := r1) (vs := vs1) [Str.ofString "w"] (fun st => [(Str.ofString "value", .int (st.v : Int) st.t)]) (fun st => [])
    (fun i st => st.v = R / 2 ^ (W * (vs1.length - i))) ⟨0, tv0⟩ _ rfl List.mem_cons_self F1 N1 (kst_ltOf hlt) ?hb ?hin ?hcold ?hsep ?hP ?turn ?done
  case hb => exact ⟨htv, trivial⟩
  case hin => exact trivial
  case hcold => exact fun p hp => hp
  case hsep => exact trivial
  case hP =>
    show 0 = _
    rw [hlen, Nat.sub_zero]
    exact (Nat.div_eq_of_lt (digs_lt hW R)).symm
  case turn =>
    intro i v z90 m1 h tk rest hi hv q1 hcr hsep F2 N2
    obtain ⟨u, tu⟩ := z90
    dsimp only [List.cons_append, List.nil_append] at N2 F2 q1
    have hj : vs1.length - 1 - i < (digs W R).length := by omega
    obtain ⟨tl, rfl⟩ := ints_item I0 hv
    have hd := digit64 hW hW2 R (vs1.length - 1 - i)
    have hu16 : u < 16 := by rw [q1]; exact Nat.lt_of_le_of_lt (Nat.div_le_self _ _) hrl
    have hgd := getD_digs hW R (vs1.length - 1 - i)
    generalize (digs W R).getD (vs1.length - 1 - i) 0 = d at *
    try k_fold
    repeat' ((fail_if_success (with_reducible show Hold _)); first | (with_reducible refine Cn.out (by assumption) ?_) | (first | (with_reducible refine Co.ret (by assumption) ?_) | (with_reducible refine Co.brk (by assumption) ?_) | (with_reducible refine Co.cont (by assumption) ?_) | (with_reducible refine Cnt.out (by assumption) ?_; (try dsimp only))) | (k_unfold; (try dsimp only)) | ((with_reducible show wpAny _ _ (execs _ _) _ _ _); (first | ((fail_if_success (with_reducible refine Cn.seen (by first | exact Or.inl (by assumption) | exact Or.inr (by assumption)) ?_)); refine Cnt.gen ?_; intro qk hqk) | (with_reducible refine execs_one ?_) | (with_reducible refine execs_cnt ?_; intro qk hqn hqo))) | (k_here; (with_reducible show wpAny _ _ (call (Value.ref 179) _ _) _ _ _); k_dflt (refine' random_below_C ?k1 ?k2 ?k3 ?k5 ?k6 ?k7 ?k71 ?k8 ?k9 ?o1 ?o2 ?o3 ?p0 ?p1 ?m1 ?i1 ?o5 ?o6 ?o7 ?N ?_; (case o3 => assumption); (case N => first | exact news_hot1 (by with_reducible assumption) | exact news_hot1 (news_tl1 (by with_reducible assumption)) | exact news_hot2 (by with_reducible assumption) | (with_reducible assumption) | exact news_hot1 (by assumption) | assumption); (case o2 => first | exact fun _ h => h | assumption | exact fun p hp => List.mem_cons_of_mem _ ((by assumption : ∀ p ∈ _, p ∈ _) p hp)); (case k1 => k_asm); (case k2 => k_asm); (case k3 => k_asm); (case k5 => k_asm); (case k6 => first | exact rfl | assumption); (case o1 => assumption); (case m1 => k_mem); (case i1 => l_ints); (case p0 => kst_p2); (case p1 => kst_p2); (case o5 => first | assumption | (refine all_cons (by first | k_ne | assumption | (dsimp only; omega)) ?_; first | assumption | (refine all_cons (by first | k_ne | assumption | (dsimp only; omega)) ?_; assumption))); (case o6 => first | assumption | (refine all_cons (by first | k_ne | assumption | (dsimp only; omega)) ?_; first | assumption | (refine all_cons (by first | k_ne | assumption | (dsimp only; omega)) ?_; assumption))); (case o7 => assumption); (case k7 => assumption); (case k71 => assumption); (case k8 => ktr_room); (case k9 => ktr_units); k_whole; intro r' vs' k' D' ls' svs' k3' h' tk' F' N' I' S' z1' z2' l1; (try k_sweep))) | (k_here; (with_reducible show wpAny _ _ (call (Value.ref 193) _ _) _ _ _); k_dflt (refine' small_number_C ?k1 ?k2 ?k3 ?k4 ?k5 ?k6 ?k7 ?k71 ?k8 ?k9 ?p1 ?_; (case k1 => k_asm); (case k2 => k_asm); (case k3 => k_asm); (case k4 => k_asm); (case k5 => k_asm); (case k6 => first | exact rfl | assumption); (case p1 => kst_p2); (case k7 => assumption); (case k71 => assumption); (case k8 => ktr_room); (case k9 => ktr_units); k_whole; intro r' h' tk' vs' k' F' N' I' l1; (try k_lt l1); (try k_sweep))) | (k_here; (with_reducible show wpAny _ _ (binaryOp Operator.FloorDiv (Value.int (Nat.cast _) _) (Value.int 2 _)) _ _ _); k_dflt (refine' floordiv_two ?_; k_whole)) | (k_here; (with_reducible show wpAny _ _ (binaryOp Operator.Mod (Value.int (Nat.cast _) _) (Value.int (Nat.cast _) _)) _ _ _); k_dflt (refine' mod_nat ?a ?_; (case a => omega); k_whole)) | (k_here; (with_reducible show wpAny _ _ (binaryOp Operator.FloorDiv (Value.int (Nat.cast _) _) (Value.int (Nat.cast _) _)) _ _ _); k_dflt (refine' floordiv_nat ?a ?b ?_; (case a => omega); (case b => omega); k_whole)) | (k_here; (with_reducible show wpAny _ _ (binaryOp Operator.Mult (Value.ref _) (Value.int _ _)) _ _ _); k_dflt (refine' zeros_C ?F ?N ?l ?a ?b ?_; (case F => k_asm); (case N => k_asm); (case l => k_mem); (case a => first | exact Int.natCast_nonneg _ | omega); (case b => omega); k_whole); intro r' h' vs' F' N' I' l1; (try k_lt l1); (try k_sweep)) | ((with_reducible show wpAny _ _ (exec (Stmt.While _ _ _ _) _) _ _ _); refine Hold.intro ?_) | (first | with_reducible refine TurnEnd.ret ?_ | with_reducible refine TurnEnd.brk ?_) | ((with_reducible show wpAny _ _ (pyIter _) _ _ _); refine Hold.intro ?_) | (k_end; wrow_close) | walk1 | (dsimp only; walk1) | (leave1; try dsimp only))
    rename News _ _ _ _ => N3
    rename Fr _ _ _ _ => F3
    refine TurnEnd.mk ⟨u * 2 ^ W + d, _⟩ F3 N3 ⟨some_int ?_, trivial⟩ ⟨rfl, trivial⟩ trivial (fun p hp => hp) trivial ?_
    · rw [shl_nat]; exact (Int.natCast_add _ _).symm
    · show u * 2 ^ W + d = _
      have e1 : vs1.length - (i + 1) = vs1.length - 1 - i := by omega
      have e2 : vs1.length - i = vs1.length - 1 - i + 1 := by omega
      rw [q1, e1, e2, hgd, Nat.mul_succ, Nat.pow_add, ← Nat.div_div_eq_div_mul, Nat.mul_comm]
      exact Nat.div_add_mod _ _
  case done =>
    intro z90 m1 h tk q1 hsep F2 N2
    obtain ⟨u, tu⟩ := z90
    dsimp only [List.cons_append, List.nil_append] at N2 F2 q1
    have q2 : u = R := by rw [q1, Nat.sub_self, Nat.mul_zero, Nat.pow_zero, Nat.div_one]
    repeat' ((fail_if_success (with_reducible show Hold _)); first | (with_reducible refine Cn.out (by assumption) ?_) | (first | (with_reducible refine Co.ret (by assumption) ?_) | (with_reducible refine Co.brk (by assumption) ?_) | (with_reducible refine Co.cont (by assumption) ?_) | (with_reducible refine Cnt.out (by assumption) ?_; (try dsimp only))) | (k_unfold; (try dsimp only)) | ((with_reducible show wpAny _ _ (execs _ _) _ _ _); (first | ((fail_if_success (with_reducible refine Cn.seen (by first | exact Or.inl (by assumption) | exact Or.inr (by assumption)) ?_)); refine Cnt.gen ?_; intro qk hqk) | (with_reducible refine execs_one ?_) | (with_reducible refine execs_cnt ?_; intro qk hqn hqo))) | (k_here; (with_reducible show wpAny _ _ (call (Value.ref 179) _ _) _ _ _); k_dflt (refine' random_below_C ?k1 ?k2 ?k3 ?k5 ?k6 ?k7 ?k71 ?k8 ?k9 ?o1 ?o2 ?o3 ?p0 ?p1 ?m1 ?i1 ?o5 ?o6 ?o7 ?N ?_; (case o3 => assumption); (case N => first | exact news_hot1 (by with_reducible assumption) | exact news_hot1 (news_tl1 (by with_reducible assumption)) | exact news_hot2 (by with_reducible assumption) | (with_reducible assumption) | exact news_hot1 (by assumption) | assumption); (case o2 => first | exact fun _ h => h | assumption | exact fun p hp => List.mem_cons_of_mem _ ((by assumption : ∀ p ∈ _, p ∈ _) p hp)); (case k1 => k_asm); (case k2 => k_asm); (case k3 => k_asm); (case k5 => k_asm); (case k6 => first | exact rfl | assumption); (case o1 => assumption); (case m1 => k_mem); (case i1 => l_ints); (case p0 => kst_p2); (case p1 => kst_p2); (case o5 => first | assumption | (refine all_cons (by first | k_ne | assumption | (dsimp only; omega)) ?_; first | assumption | (refine all_cons (by first | k_ne | assumption | (dsimp only; omega)) ?_; assumption))); (case o6 => first | assumption | (refine all_cons (by first | k_ne | assumption | (dsimp only; omega)) ?_; first | assumption | (refine all_cons (by first | k_ne | assumption | (dsimp only; omega)) ?_; assumption))); (case o7 => assumption); (case k7 => assumption); (case k71 => assumption); (case k8 => ktr_room); (case k9 => ktr_units); k_whole; intro r' vs' k' D' ls' svs' k3' h' tk' F' N' I' S' z1' z2' l1; (try k_sweep))) | (k_here; (with_reducible show wpAny _ _ (call (Value.ref 193) _ _) _ _ _); k_dflt (refine' small_number_C ?k1 ?k2 ?k3 ?k4 ?k5 ?k6 ?k7 ?k71 ?k8 ?k9 ?p1 ?_; (case k1 => k_asm); (case k2 => k_asm); (case k3 => k_asm); (case k4 => k_asm); (case k5 => k_asm); (case k6 => first | exact rfl | assumption); (case p1 => kst_p2); (case k7 => assumption); (case k71 => assumption); (case k8 => ktr_room); (case k9 => ktr_units); k_whole; intro r' h' tk' vs' k' F' N' I' l1; (try k_lt l1); (try k_sweep))) | (k_here; (with_reducible show wpAny _ _ (binaryOp Operator.FloorDiv (Value.int (Nat.cast _) _) (Value.int 2 _)) _ _ _); k_dflt (refine' floordiv_two ?_; k_whole)) | (k_here; (with_reducible show wpAny _ _ (binaryOp Operator.Mod (Value.int (Nat.cast _) _) (Value.int (Nat.cast _) _)) _ _ _); k_dflt (refine' mod_nat ?a ?_; (case a => omega); k_whole)) | (k_here; (with_reducible show wpAny _ _ (binaryOp Operator.FloorDiv (Value.int (Nat.cast _) _) (Value.int (Nat.cast _) _)) _ _ _); k_dflt (refine' floordiv_nat ?a ?b ?_; (case a => omega); (case b => omega); k_whole)) | (k_here; (with_reducible show wpAny _ _ (binaryOp Operator.Mult (Value.ref _) (Value.int _ _)) _ _ _); k_dflt (refine' zeros_C ?F ?N ?l ?a ?b ?_; (case F => k_asm); (case N => k_asm); (case l => k_mem); (case a => first | exact Int.natCast_nonneg _ | omega); (case b => omega); k_whole); intro r' h' vs' F' N' I' l1; (try k_lt l1); (try k_sweep)) | ((with_reducible show wpAny _ _ (exec (Stmt.While _ _ _ _) _) _ _ _); refine Hold.intro ?_) | (first | with_reducible refine TurnEnd.ret ?_ | with_reducible refine TurnEnd.brk ?_) | ((with_reducible show wpAny _ _ (pyIter _) _ _ _); refine Hold.intro ?_) | (k_end; wrow_close) | walk1 | (dsimp only; walk1) | (leave1; try dsimp only))
    rename Fr h₀ L _ m => F3
    rename News h₀ L _ _ => N3
    rw [q2]
    exact ret _ _ _ _ _ _ _ F3 (news_sub2 (news_tl1 N3) fun p hp => List.mem_cons_of_mem _ hp) S0 Z1 fun p hp => Z2 p (List.mem_cons_of_mem _ hp)
omit N in
set_option maxHeartbeats 8000000 in
theorem small_below_V {x dx ls : Addr} {D : Obj} {svs : List Value} {k3 b : Nat} {c : Src} {W : Nat} {tn tw : Tok} (hW : 0 < W) (hW2 : W ≤ 6) (hd1 : dp + 25 < recursionLimit) (hu : un + 100 < cLine)
    (hok : c.ok W) {n2 : Led} (hsub : ∀ p ∈ n2, p ∈ news) (hsrc : SrcIs w W n2 x dx D ls svs c) (hb0 : 0 < b) (hb : b ≤ 16)
    (hdx : ∀ p ∈ news, p.1 ≠ dx) (hls : ∀ p ∈ news, p.1 ≠ ls) (hlx : ls ≠ dx) {z zb : Int} (hz : ((rbelow W b c).2 : Int) = z) (hzb : zb = (b : Int))
    (N : News h₀ L s.heap ((dx, D) :: (ls, lst svs k3) :: news))
    (ret : ∀ t D' ls' svs' k3' h' tk', Fr h₀ L h' m → News h₀ L h' ((dx, D') :: (ls', lst svs' k3') :: news) → SrcIs w W n2 x dx D' ls' svs' (rbelow W b c).1 →
      (ls' ≠ dx) → (∀ p ∈ news, p.1 ≠ ls') → Q (.int z t) { s with heap := h', toks := tk' }) :
    wpAny (model Challenge.rw_sj0076_01.row.prog w) (ktrTop dp un gd cn cs L a ccd cl outer) (call (.ref 186) [.ref x, .int zb tn, .int W tw]) Q E s := by
  subst hz hzb
  exact small_below_C B F X T hk hW hW2 hd1 hu hok hsub hsrc hb0 hb hdx hls hlx N ret
end
section
variable {w : World} {mean : ExcName → Option Value} {mg mb : Str → Option Value}
  {dp un : Nat} {gd : Option (List Code)} {cn : Str} {cs : Scope} {a : Addr} {ccd : Value} {cl : List (Str × Addr)} {outer : List Env} {A₀ : Around} {base h₀ : Heap} {L : Addr} {m : Str → Option Value} {news : Led} {s : Shared}
  {Q E : Value → Shared → Prop}
  (B : Below A₀ base outer h₀) (F : Fr h₀ L s.heap m) (X : (hd.heap_39 w.params).In h₀) (N : News h₀ L s.heap news) (T : Top hd.view_39 (looseW hd.view_39 []) mean mg mb h₀) (hk : cs.kind = .function)
include B F X N T hk
structure SSh where
  c : Src
  D : Obj
  ls : Addr
  svs : List Value
  k : Nat
  fvs : List Value
  fk : Nat
omit B F X N T hk in
theorem name_sh {h₀ h : Heap} {L r : Addr} {vs : List Value} {k : Nat} {news : Led} {G : Prop} (_ : News h₀ L h ((r, lst vs k) :: news)) (f : ∀ r' k', r' = r → k' = k → G) : G := f _ _ rfl rfl
omit N in
set_option maxHeartbeats 8000000 in
theorem shuffled_C {x dx ls y : Addr} {D : Obj} {svs : List Value} {a1 a2 : Value} {k3 ky : Nat} {c : Src} {W : Nat} {tw : Tok} (hW : 0 < W) (hW2 : W ≤ 6) (hd1 : dp + 30 < recursionLimit) (hu : un + 120 < cLine)
    (hok : c.ok W) {n2 : Led} (hsub : ∀ p ∈ n2, p ∈ news) (hsrc : SrcIs w W n2 x dx D ls svs c) (hy : (y, lst [a1, a2] ky) ∈ news)
    (hdx : ∀ p ∈ news, p.1 ≠ dx) (hls : ∀ p ∈ news, p.1 ≠ ls) (hlx : ls ≠ dx)
    (N : News h₀ L s.heap ((dx, D) :: (ls, lst svs k3) :: news))
    (ret : ∀ r k D' ls' svs' k3' h' tk', Fr h₀ L h' m → News h₀ L h' ((r, lst (if (rbelow W 2 c).2 = 0 then [a2, a1] else [a1, a2]) k) :: (dx, D') :: (ls', lst svs' k3') :: news) → SrcIs w W n2 x dx D' ls' svs' (rbelow W 2 c).1 →
      (ls' ≠ dx) → (∀ p ∈ news, p.1 ≠ ls') → (@LT.lt Nat _ dx r ∧ AllLt r news) → r ≠ ls' → Q (.ref r) { s with heap := h', toks := tk' }) :
    wpAny (model Challenge.rw_sj0076_01.row.prog w) (ktrTop dp un gd cn cs L a ccd cl outer) (call (.ref 200) [.ref x, .ref y, .int W tw]) Q E s := by
  have hwi : (0 : Int) < (W : Int) := by omega
  have hwi2 : (W : Int) ≤ 6 := by omega
  refine wpAny_call ?_
  k_dflt (first | (refine' code_defC ?k1 ?k2 ?k3 ?k4 ?k5 ?kA ?kF ?kK ?k6 ?k7 ?k8 ?k9 ?kB ?kD ?_ ?c2 ?c3 ?c4; (case kA => exact rfl); (case kF => exact rfl); (case kK => first | exact rfl | assumption); (case k1 => k_asm); (case k2 => k_asm); (case k3 => k_asm); (case k4 => k_asm); (case k5 => k_asm); (case k6 => k_is); (case k7 => k_is); (case k8 => ktr_room); (case k9 => first | exact BindsTo.of_eq rfl | exact binds_K (by k_in) rfl (by k_is) rfl rfl rfl); (case kB => exact rfl); (case kD => decide +kernel); (case c2 => exact rfl); (case c3 => exact rfl); (case c4 => exact rfl); k_whole; intro g' L' h' tk' cells' FG' F' N' Y' B' X' T' l1; (try k_lt l1); k_cells Y'; (try simp only [List.cons_append, List.nil_append] at N'); (try dsimp only); (try k_lift B'); (try k_fold)) | (refine' code_def ?k1 ?k2 ?k3 ?k4 ?k5 ?kA ?kF ?kK ?k6 ?k7 ?k8 ?k9 ?kB ?_ ?c2 ?c3 ?c4 ?c5; (case kA => exact rfl); (case kF => exact rfl); (case kK => first | exact rfl | assumption); (case k1 => k_asm); (case k2 => k_asm); (case k3 => k_asm); (case k4 => k_asm); (case k5 => k_asm); (case k6 => k_is); (case k7 => k_is); (case k8 => ktr_room); (case k9 => first | exact BindsTo.of_eq rfl | exact binds_K (by k_in) rfl (by k_is) rfl rfl rfl); (case c5 => decide); (case kB => exact locs rfl); (case c2 => exact rfl); (case c3 => exact rfl); (case c4 => exact rfl); k_whole; intro g' L' h' FG' F' N' B' X' T'; (try dsimp only); (try k_lift B'); (try k_fold)))
  repeat' ((fail_if_success (with_reducible show Hold _)); first | (with_reducible refine Cn.out (by assumption) ?_) | (first | (with_reducible refine Co.ret (by assumption) ?_) | (with_reducible refine Co.brk (by assumption) ?_) | (with_reducible refine Co.cont (by assumption) ?_) | (with_reducible refine Cnt.out (by assumption) ?_; (try dsimp only))) | (k_unfold; (try dsimp only)) | ((with_reducible show wpAny _ _ (execs _ _) _ _ _); (first | ((fail_if_success (with_reducible refine Cn.seen (by first | exact Or.inl (by assumption) | exact Or.inr (by assumption)) ?_)); refine Cnt.gen ?_; intro qk hqk) | (with_reducible refine execs_one ?_) | (with_reducible refine execs_cnt ?_; intro qk hqn hqo))) | (k_here; (with_reducible show wpAny _ _ (call (Value.ref 186) _ _) _ _ _); k_dflt (refine' small_below_V ?k1 ?k2 ?k3 ?k5 ?k6 ?k7 ?k71 ?k8 ?k9 ?o1 ?o2 ?o3 ?p0 ?p1 ?o5 ?o6 ?o7 ?hz ?hzb ?N ?_; (case o3 => assumption); (try (case hz => assumption)); (case hzb => first | exact rfl | omega); (try (case hz => exact rfl)); (case N => first | exact news_hot1 (by with_reducible assumption) | exact news_hot1 (news_tl1 (by with_reducible assumption)) | exact news_hot2 (by with_reducible assumption) | (with_reducible assumption) | exact news_hot1 (by assumption) | assumption); (case o2 => first | exact fun _ h => h | assumption | exact fun p hp => List.mem_cons_of_mem _ ((by assumption : ∀ p ∈ _, p ∈ _) p hp)); (case k1 => k_asm); (case k2 => k_asm); (case k3 => k_asm); (case k5 => k_asm); (case k6 => first | exact rfl | assumption); (case o1 => assumption); (case p0 => kst_p2); (case p1 => kst_p2); (case o5 => first | assumption | (refine all_cons (by first | k_ne | assumption | (dsimp only; omega)) ?_; first | assumption | (refine all_cons (by first | k_ne | assumption | (dsimp only; omega)) ?_; assumption))); (case o6 => first | assumption | (refine all_cons (by first | k_ne | assumption | (dsimp only; omega)) ?_; first | assumption | (refine all_cons (by first | k_ne | assumption | (dsimp only; omega)) ?_; assumption))); (case o7 => assumption); (case k7 => assumption); (case k71 => assumption); (case k8 => ktr_room); (case k9 => ktr_units); k_whole; intro t' D' ls' svs' k3' h' tk' F' N' S' z1' z2'; (try (have zh := all_hd z2'; dsimp only at zh)); (try k_sweep))) | (k_here; (with_reducible show wpAny _ _ (binaryOp Operator.FloorDiv (Value.int (Nat.cast _) _) (Value.int 2 _)) _ _ _); k_dflt (refine' floordiv_two ?_; k_whole)) | (k_here; (with_reducible show wpAny _ _ (binaryOp Operator.Mod (Value.int (Nat.cast _) _) (Value.int (Nat.cast _) _)) _ _ _); k_dflt (refine' mod_nat ?a ?_; (case a => omega); k_whole)) | (k_here; (with_reducible show wpAny _ _ (binaryOp Operator.FloorDiv (Value.int (Nat.cast _) _) (Value.int (Nat.cast _) _)) _ _ _); k_dflt (refine' floordiv_nat ?a ?b ?_; (case a => omega); (case b => omega); k_whole)) | (k_here; (with_reducible show wpAny _ _ (binaryOp Operator.Mult (Value.ref _) (Value.int _ _)) _ _ _); k_dflt (refine' zeros_C ?F ?N ?l ?a ?b ?_; (case F => k_asm); (case N => k_asm); (case l => k_mem); (case a => first | exact Int.natCast_nonneg _ | omega); (case b => omega); k_whole); intro r' h' vs' F' N' I' l1; (try k_lt l1); (try k_sweep)) | ((with_reducible show wpAny _ _ (exec (Stmt.While _ _ _ _) _) _ _ _); refine Hold.intro ?_) | (first | with_reducible refine TurnEnd.ret ?_ | with_reducible refine TurnEnd.brk ?_) | ((with_reducible show wpAny _ _ (pyIter _) _ _ _); refine Hold.intro ?_) | (k_end; wrow_close) | walk1 | (dsimp only; walk1) | (leave1; try dsimp only))
  rename IsRange _ _ _ _ _ _ _ _ => R1
  rename News _ _ _ _ => N1
  rename Fr _ _ _ _ => F1
  refine name_sh N1 (fun l1 k1 e1 e2 => ?_)
  subst e1 e2
  have Z0 := ‹@LT.lt Nat _ dx l1 ∧ @LT.lt Nat _ ls l1 ∧ AllLt l1 news›
  have hR2 : (rbelow W 2 c).2 < 2 := rbelow_lt (by decide) (by decide)
  refine Hold.out ?_
  refine' for_down (σ := SSh) 1 [Str.ofString "source", Str.ofString "w", Str.ofString "found"] (fun st => []) (fun st => [(l1, lst st.fvs st.fk), (dx, st.D), (st.ls, lst st.svs st.k)])
    (fun i st => SrcIs w W n2 x dx st.D st.ls st.svs st.c ∧ st.ls ≠ dx ∧ (∀ p ∈ news, p.1 ≠ st.ls) ∧ l1 ≠ st.ls ∧ (i = 0 → st.c = c ∧ st.fvs = [a1, a2]) ∧ (i = 1 → st.c = (rbelow W 2 c).1 ∧ st.fvs = if (rbelow W 2 c).2 = 0 then [a2, a1] else [a1, a2]))
    ⟨c, D, ls, svs, k3, [a1, a2], k1⟩ news rfl R1 (by decide) (by decide) F1 N1 ?hb ?hin ?hcold ?hsep ?hP ?turn ?done
  case hb => exact trivial
  case hin => exact ⟨by k_mem, by k_mem, by k_mem, trivial⟩
  case hcold => exact fun p hp => by simp only [List.mem_cons, hp, or_true]
  case hsep => exact ⟨ne_of_all Z0.2.2, hdx, hls, trivial⟩
  case hP => exact ⟨hsrc, hlx, hls, by k_ne, fun _ => ⟨rfl, rfl⟩, fun h => absurd h (by decide)⟩
  case turn =>
    intro i t z90 u h tk rest hi z91 hcr hsep F2 N2
    refine hide fun G9 hG9 => ?_
    obtain ⟨q1, q2, q3, q4, q5, q6⟩ := z91
    obtain ⟨c1, D2, ls2, svs2, k2, fvs, fk⟩ := z90
    refine hG9 ?_
    clear hG9 G9
    have z1 := sep_head hsep
    have z2 := sep_head (sep_tail hsep)
    have z3 := sep_head (sep_tail (sep_tail hsep))
    obtain rfl : i = 0 := by omega
    obtain ⟨e1, e2⟩ := q5 rfl
    dsimp only at e1 e2
    subst e1 e2
    clear N1 F1 N hsrc
    dsimp only [List.cons_append, List.nil_append] at N2 F2 q1 q2 q3 q4 z1 z2 z3
    have hsub2 : ∀ p ∈ n2, p ∈ rest := fun p hp => hcr _ (hsub p hp)
    rw [show ((2 : Int) - 1 - ((0 : Nat) : Int)) = 1 from rfl] at F2
    by_cases hR : (rbelow W 2 c1).2 = 0
    · have hz : ((rbelow W 2 c1).2 : Int) = 0 := by rw [hR]; rfl
      try k_fold
      repeat' ((fail_if_success (with_reducible show Hold _)); first | (with_reducible refine Cn.out (by assumption) ?_) | (first | (with_reducible refine Co.ret (by assumption) ?_) | (with_reducible refine Co.brk (by assumption) ?_) | (with_reducible refine Co.cont (by assumption) ?_) | (with_reducible refine Cnt.out (by assumption) ?_; (try dsimp only))) | (k_unfold; (try dsimp only)) | ((with_reducible show wpAny _ _ (execs _ _) _ _ _); (first | ((fail_if_success (with_reducible refine Cn.seen (by first | exact Or.inl (by assumption) | exact Or.inr (by assumption)) ?_)); refine Cnt.gen ?_; intro qk hqk) | (with_reducible refine execs_one ?_) | (with_reducible refine execs_cnt ?_; intro qk hqn hqo))) | (k_here; (with_reducible show wpAny _ _ (call (Value.ref 186) _ _) _ _ _); k_dflt (refine' small_below_V ?k1 ?k2 ?k3 ?k5 ?k6 ?k7 ?k71 ?k8 ?k9 ?o1 ?o2 ?o3 ?p0 ?p1 ?o5 ?o6 ?o7 ?hz ?hzb ?N ?_; (case o3 => assumption); (try (case hz => assumption)); (case hzb => first | exact rfl | omega); (try (case hz => exact rfl)); (case N => first | exact news_hot1 (by with_reducible assumption) | exact news_hot1 (news_tl1 (by with_reducible assumption)) | exact news_hot2 (by with_reducible assumption) | (with_reducible assumption) | exact news_hot1 (by assumption) | assumption); (case o2 => first | exact fun _ h => h | assumption | exact fun p hp => List.mem_cons_of_mem _ ((by assumption : ∀ p ∈ _, p ∈ _) p hp)); (case k1 => k_asm); (case k2 => k_asm); (case k3 => k_asm); (case k5 => k_asm); (case k6 => first | exact rfl | assumption); (case o1 => assumption); (case p0 => kst_p2); (case p1 => kst_p2); (case o5 => first | assumption | (refine all_cons (by first | k_ne | assumption | (dsimp only; omega)) ?_; first | assumption | (refine all_cons (by first | k_ne | assumption | (dsimp only; omega)) ?_; assumption))); (case o6 => first | assumption | (refine all_cons (by first | k_ne | assumption | (dsimp only; omega)) ?_; first | assumption | (refine all_cons (by first | k_ne | assumption | (dsimp only; omega)) ?_; assumption))); (case o7 => assumption); (case k7 => assumption); (case k71 => assumption); (case k8 => ktr_room); (case k9 => ktr_units); k_whole; intro t' D' ls' svs' k3' h' tk' F' N' S' z1' z2'; (try (have zh := all_hd z2'; dsimp only at zh)); (try k_sweep))) | (k_here; (with_reducible show wpAny _ _ (binaryOp Operator.FloorDiv (Value.int (Nat.cast _) _) (Value.int 2 _)) _ _ _); k_dflt (refine' floordiv_two ?_; k_whole)) | (k_here; (with_reducible show wpAny _ _ (binaryOp Operator.Mod (Value.int (Nat.cast _) _) (Value.int (Nat.cast _) _)) _ _ _); k_dflt (refine' mod_nat ?a ?_; (case a => omega); k_whole)) | (k_here; (with_reducible show wpAny _ _ (binaryOp Operator.FloorDiv (Value.int (Nat.cast _) _) (Value.int (Nat.cast _) _)) _ _ _); k_dflt (refine' floordiv_nat ?a ?b ?_; (case a => omega); (case b => omega); k_whole)) | (k_here; (with_reducible show wpAny _ _ (binaryOp Operator.Mult (Value.ref _) (Value.int _ _)) _ _ _); k_dflt (refine' zeros_C ?F ?N ?l ?a ?b ?_; (case F => k_asm); (case N => k_asm); (case l => k_mem); (case a => first | exact Int.natCast_nonneg _ | omega); (case b => omega); k_whole); intro r' h' vs' F' N' I' l1; (try k_lt l1); (try k_sweep)) | ((with_reducible show wpAny _ _ (exec (Stmt.While _ _ _ _) _) _ _ _); refine Hold.intro ?_) | (first | with_reducible refine TurnEnd.ret ?_ | with_reducible refine TurnEnd.brk ?_) | ((with_reducible show wpAny _ _ (pyIter _) _ _ _); refine Hold.intro ?_) | (k_end; wrow_close) | walk1 | (dsimp only; walk1) | (leave1; try dsimp only))
      rename News _ _ _ _ => N3
      rename Fr _ _ _ _ => F3
      have S3 := ‹SrcIs w W n2 x dx _ _ _ (rbelow W 2 c1).1›
      have B3 := ‹∀ p ∈ _ :: rest, p.1 ≠ _›
      refine TurnEnd.mk ⟨(rbelow W 2 c1).1, _, _, _, _, [a2, a1], fk⟩ F3 N3 trivial ⟨rfl, rfl, rfl, trivial⟩ ⟨mem3, List.mem_cons_of_mem _ List.mem_cons_self, mem2, trivial⟩ (fun p hp => by simp only [List.mem_cons, hp, or_true]) ⟨z1, z2, fun p hp => B3 p (List.mem_cons_of_mem _ hp), trivial⟩
        ⟨S3, by assumption, fun p hp => B3 p (List.mem_cons_of_mem _ (hcr p hp)), all_hd B3, fun h => absurd h (by omega), fun _ => ⟨rfl, by rw [if_pos hR]⟩⟩
    · have hz : ((rbelow W 2 c1).2 : Int) = 1 := by omega
      try k_fold
      repeat' ((fail_if_success (with_reducible show Hold _)); first | (with_reducible refine Cn.out (by assumption) ?_) | (first | (with_reducible refine Co.ret (by assumption) ?_) | (with_reducible refine Co.brk (by assumption) ?_) | (with_reducible refine Co.cont (by assumption) ?_) | (with_reducible refine Cnt.out (by assumption) ?_; (try dsimp only))) | (k_unfold; (try dsimp only)) | ((with_reducible show wpAny _ _ (execs _ _) _ _ _); (first | ((fail_if_success (with_reducible refine Cn.seen (by first | exact Or.inl (by assumption) | exact Or.inr (by assumption)) ?_)); refine Cnt.gen ?_; intro qk hqk) | (with_reducible refine execs_one ?_) | (with_reducible refine execs_cnt ?_; intro qk hqn hqo))) | (k_here; (with_reducible show wpAny _ _ (call (Value.ref 186) _ _) _ _ _); k_dflt (refine' small_below_V ?k1 ?k2 ?k3 ?k5 ?k6 ?k7 ?k71 ?k8 ?k9 ?o1 ?o2 ?o3 ?p0 ?p1 ?o5 ?o6 ?o7 ?hz ?hzb ?N ?_; (case o3 => assumption); (try (case hz => assumption)); (case hzb => first | exact rfl | omega); (try (case hz => exact rfl)); (case N => first | exact news_hot1 (by with_reducible assumption) | exact news_hot1 (news_tl1 (by with_reducible assumption)) | exact news_hot2 (by with_reducible assumption) | (with_reducible assumption) | exact news_hot1 (by assumption) | assumption); (case o2 => first | exact fun _ h => h | assumption | exact fun p hp => List.mem_cons_of_mem _ ((by assumption : ∀ p ∈ _, p ∈ _) p hp)); (case k1 => k_asm); (case k2 => k_asm); (case k3 => k_asm); (case k5 => k_asm); (case k6 => first | exact rfl | assumption); (case o1 => assumption); (case p0 => kst_p2); (case p1 => kst_p2); (case o5 => first | assumption | (refine all_cons (by first | k_ne | assumption | (dsimp only; omega)) ?_; first | assumption | (refine all_cons (by first | k_ne | assumption | (dsimp only; omega)) ?_; assumption))); (case o6 => first | assumption | (refine all_cons (by first | k_ne | assumption | (dsimp only; omega)) ?_; first | assumption | (refine all_cons (by first | k_ne | assumption | (dsimp only; omega)) ?_; assumption))); (case o7 => assumption); (case k7 => assumption); (case k71 => assumption); (case k8 => ktr_room); (case k9 => ktr_units); k_whole; intro t' D' ls' svs' k3' h' tk' F' N' S' z1' z2'; (try (have zh := all_hd z2'; dsimp only at zh)); (try k_sweep))) | (k_here; (with_reducible show wpAny _ _ (binaryOp Operator.FloorDiv (Value.int (Nat.cast _) _) (Value.int 2 _)) _ _ _); k_dflt (refine' floordiv_two ?_; k_whole)) | (k_here; (with_reducible show wpAny _ _ (binaryOp Operator.Mod (Value.int (Nat.cast _) _) (Value.int (Nat.cast _) _)) _ _ _); k_dflt (refine' mod_nat ?a ?_; (case a => omega); k_whole)) | (k_here; (with_reducible show wpAny _ _ (binaryOp Operator.FloorDiv (Value.int (Nat.cast _) _) (Value.int (Nat.cast _) _)) _ _ _); k_dflt (refine' floordiv_nat ?a ?b ?_; (case a => omega); (case b => omega); k_whole)) | (k_here; (with_reducible show wpAny _ _ (binaryOp Operator.Mult (Value.ref _) (Value.int _ _)) _ _ _); k_dflt (refine' zeros_C ?F ?N ?l ?a ?b ?_; (case F => k_asm); (case N => k_asm); (case l => k_mem); (case a => first | exact Int.natCast_nonneg _ | omega); (case b => omega); k_whole); intro r' h' vs' F' N' I' l1; (try k_lt l1); (try k_sweep)) | ((with_reducible show wpAny _ _ (exec (Stmt.While _ _ _ _) _) _ _ _); refine Hold.intro ?_) | (first | with_reducible refine TurnEnd.ret ?_ | with_reducible refine TurnEnd.brk ?_) | ((with_reducible show wpAny _ _ (pyIter _) _ _ _); refine Hold.intro ?_) | (k_end; wrow_close) | walk1 | (dsimp only; walk1) | (leave1; try dsimp only))
      rename News _ _ _ _ => N3
      rename Fr _ _ _ _ => F3
      have S3 := ‹SrcIs w W n2 x dx _ _ _ (rbelow W 2 c1).1›
      have B3 := ‹∀ p ∈ _ :: rest, p.1 ≠ _›
      refine TurnEnd.mk ⟨(rbelow W 2 c1).1, _, _, _, _, [a1, a2], fk⟩ F3 N3 trivial ⟨rfl, rfl, rfl, trivial⟩ ⟨mem3, List.mem_cons_of_mem _ List.mem_cons_self, mem2, trivial⟩ (fun p hp => by simp only [List.mem_cons, hp, or_true]) ⟨z1, z2, fun p hp => B3 p (List.mem_cons_of_mem _ hp), trivial⟩
        ⟨S3, by assumption, fun p hp => B3 p (List.mem_cons_of_mem _ (hcr p hp)), all_hd B3, fun h => absurd h (by omega), fun _ => ⟨rfl, by rw [if_neg hR]⟩⟩
  case done =>
    intro z90 u h tk z91 hsep F2 N2
    refine hide fun G9 hG9 => ?_
    obtain ⟨q1, q2, q3, q4, q5, q6⟩ := z91
    obtain ⟨c1, D2, ls2, svs2, k2, fvs, fk⟩ := z90
    refine hG9 ?_
    clear hG9 G9
    obtain ⟨e1, e2⟩ := q6 rfl
    dsimp only at e1 e2
    clear N1 F1 N hsrc
    dsimp only [List.cons_append, List.nil_append] at N2 F2 q1 q2 q3 q4
    repeat' ((fail_if_success (with_reducible show Hold _)); first | (with_reducible refine Cn.out (by assumption) ?_) | (first | (with_reducible refine Co.ret (by assumption) ?_) | (with_reducible refine Co.brk (by assumption) ?_) | (with_reducible refine Co.cont (by assumption) ?_) | (with_reducible refine Cnt.out (by assumption) ?_; (try dsimp only))) | (k_unfold; (try dsimp only)) | ((with_reducible show wpAny _ _ (execs _ _) _ _ _); (first | ((fail_if_success (with_reducible refine Cn.seen (by first | exact Or.inl (by assumption) | exact Or.inr (by assumption)) ?_)); refine Cnt.gen ?_; intro qk hqk) | (with_reducible refine execs_one ?_) | (with_reducible refine execs_cnt ?_; intro qk hqn hqo))) | (k_here; (with_reducible show wpAny _ _ (call (Value.ref 186) _ _) _ _ _); k_dflt (refine' small_below_V ?k1 ?k2 ?k3 ?k5 ?k6 ?k7 ?k71 ?k8 ?k9 ?o1 ?o2 ?o3 ?p0 ?p1 ?o5 ?o6 ?o7 ?hz ?hzb ?N ?_; (case o3 => assumption); (try (case hz => assumption)); (case hzb => first | exact rfl | omega); (try (case hz => exact rfl)); (case N => first | exact news_hot1 (by with_reducible assumption) | exact news_hot1 (news_tl1 (by with_reducible assumption)) | exact news_hot2 (by with_reducible assumption) | (with_reducible assumption) | exact news_hot1 (by assumption) | assumption); (case o2 => first | exact fun _ h => h | assumption | exact fun p hp => List.mem_cons_of_mem _ ((by assumption : ∀ p ∈ _, p ∈ _) p hp)); (case k1 => k_asm); (case k2 => k_asm); (case k3 => k_asm); (case k5 => k_asm); (case k6 => first | exact rfl | assumption); (case o1 => assumption); (case p0 => kst_p2); (case p1 => kst_p2); (case o5 => first | assumption | (refine all_cons (by first | k_ne | assumption | (dsimp only; omega)) ?_; first | assumption | (refine all_cons (by first | k_ne | assumption | (dsimp only; omega)) ?_; assumption))); (case o6 => first | assumption | (refine all_cons (by first | k_ne | assumption | (dsimp only; omega)) ?_; first | assumption | (refine all_cons (by first | k_ne | assumption | (dsimp only; omega)) ?_; assumption))); (case o7 => assumption); (case k7 => assumption); (case k71 => assumption); (case k8 => ktr_room); (case k9 => ktr_units); k_whole; intro t' D' ls' svs' k3' h' tk' F' N' S' z1' z2'; (try (have zh := all_hd z2'; dsimp only at zh)); (try k_sweep))) | (k_here; (with_reducible show wpAny _ _ (binaryOp Operator.FloorDiv (Value.int (Nat.cast _) _) (Value.int 2 _)) _ _ _); k_dflt (refine' floordiv_two ?_; k_whole)) | (k_here; (with_reducible show wpAny _ _ (binaryOp Operator.Mod (Value.int (Nat.cast _) _) (Value.int (Nat.cast _) _)) _ _ _); k_dflt (refine' mod_nat ?a ?_; (case a => omega); k_whole)) | (k_here; (with_reducible show wpAny _ _ (binaryOp Operator.FloorDiv (Value.int (Nat.cast _) _) (Value.int (Nat.cast _) _)) _ _ _); k_dflt (refine' floordiv_nat ?a ?b ?_; (case a => omega); (case b => omega); k_whole)) | (k_here; (with_reducible show wpAny _ _ (binaryOp Operator.Mult (Value.ref _) (Value.int _ _)) _ _ _); k_dflt (refine' zeros_C ?F ?N ?l ?a ?b ?_; (case F => k_asm); (case N => k_asm); (case l => k_mem); (case a => first | exact Int.natCast_nonneg _ | omega); (case b => omega); k_whole); intro r' h' vs' F' N' I' l1; (try k_lt l1); (try k_sweep)) | ((with_reducible show wpAny _ _ (exec (Stmt.While _ _ _ _) _) _ _ _); refine Hold.intro ?_) | (first | with_reducible refine TurnEnd.ret ?_ | with_reducible refine TurnEnd.brk ?_) | ((with_reducible show wpAny _ _ (pyIter _) _ _ _); refine Hold.intro ?_) | (k_end; wrow_close) | walk1 | (dsimp only; walk1) | (leave1; try dsimp only))
    rename Fr h₀ L _ m => F3
    rename News h₀ L _ _ => N3
    rw [e2] at N3
    rw [e1] at q1
    exact ret _ _ _ _ _ _ _ _ F3 N3 q1 q2 q3 ⟨Z0.1, Z0.2.2⟩ q4
end
section
local macro_rules | `(tactic| is_tup) => `(tactic| exact News.isTup (by assumption) (by k_mem))
section
variable {w : World} {mean : ExcName → Option Value} {mg mb : Str → Option Value}
  {dp un : Nat} {gd : Option (List Code)} {cn : Str} {cs : Scope} {a : Addr} {ccd : Value} {cl : List (Str × Addr)} {outer : List Env} {A₀ : Around} {base h₀ : Heap} {L : Addr} {m : Str → Option Value} {news : Led} {s : Shared}
  {Q E : Value → Shared → Prop}
  (B : Below A₀ base outer h₀) (F : Fr h₀ L s.heap m) (X : (hd.heap_39 w.params).In h₀) (N : News h₀ L s.heap news) (T : Top hd.view_39 (looseW hd.view_39 []) mean mg mb h₀) (hk : cs.kind = .function)
include B F X N T hk
omit B F X N T hk in
theorem news_begun {h₀ h : Heap} {L : Addr} {a b c d e f g i j : Addr × Obj} {r : Led} (N : News h₀ L h (a :: b :: c :: d :: e :: f :: g :: i :: j :: r)) : News h₀ L h (c :: a :: ([b, g, f] ++ r)) :=
  kst_newsOf N (fun x hx => by
    simp only [List.mem_cons, List.cons_append, List.nil_append] at hx ⊢
    rcases hx with h | h | h | h | h | h <;> simp [h])
omit B F X N T hk in
theorem news_begun2 {h₀ h : Heap} {L : Addr} {a b c j : Addr × Obj} {r : Led} (N : News h₀ L h (a :: b :: c :: j :: r)) : News h₀ L h (c :: a :: ([b] ++ r)) :=
  kst_newsOf N (fun x hx => by
    simp only [List.mem_cons, List.cons_append, List.nil_append] at hx ⊢
    rcases hx with h | h | h | h <;> simp [h])
omit B F X N T hk in
theorem lt_cons {news : Led} {d : Addr} {o : Obj} {r : Led} (h1 : ∀ q ∈ news, q.1 < d) (h2 : ∀ p ∈ r, ∀ q ∈ news, q.1 < p.1) : ∀ x ∈ (d, o) :: r, ∀ q ∈ news, q.1 < x.1 := fun x hx => by
  rcases List.mem_cons.mp hx with rfl | hx
  · exact h1
  · exact h2 x hx
omit B F X N T hk in
theorem fresh3 {news : Led} {x la lc dx ls : Addr} {o1 o2 o3 : Obj} (f1 : ∀ q ∈ news, q.1 < dx) (f2 : ∀ q ∈ news, q.1 < ls) (f3 : ∀ q ∈ news, q.1 < la) (f4 : ∀ q ∈ news, q.1 < lc) (h1 : @LT.lt Nat _ dx x) (h2 : @LT.lt Nat _ x ls) (h3 : @LT.lt Nat _ la dx) (h4 : @LT.lt Nat _ lc dx)
    (h5 : @LT.lt Nat _ la ls) (h6 : @LT.lt Nat _ lc ls) : FreshSrc [(x, o1), (la, o2), (lc, o3)] dx ls news where
  n1 := all_cons (Nat.ne_of_gt h1) (all_cons (Nat.ne_of_lt h3) (all_cons (Nat.ne_of_lt h4) (fun _ h => nomatch h)))
  n2 := all_cons (Nat.ne_of_lt h2) (all_cons (Nat.ne_of_lt h5) (all_cons (Nat.ne_of_lt h6) (fun _ h => nomatch h)))
  n3 := Nat.ne_of_gt (Nat.lt_trans h1 h2)
  f1 := f1
  f2 := f2
  f3 := lt_cons (fun q hq => Nat.lt_trans (f1 q hq) h1) (lt_cons f3 (lt_cons f4 (fun _ h => nomatch h)))
omit B F X N T hk in
theorem fresh1 {news : Led} {x dx ls : Addr} {o1 : Obj} (f1 : ∀ q ∈ news, q.1 < dx) (f2 : ∀ q ∈ news, q.1 < ls) (h1 : @LT.lt Nat _ dx x) (h2 : @LT.lt Nat _ x ls) : FreshSrc [(x, o1)] dx ls news where
  n1 := all_cons (Nat.ne_of_gt h1) (fun _ h => nomatch h)
  n2 := all_cons (Nat.ne_of_lt h2) (fun _ h => nomatch h)
  n3 := Nat.ne_of_gt (Nat.lt_trans h1 h2)
  f1 := f1
  f2 := f2
  f3 := lt_cons (fun q hq => Nat.lt_trans (f1 q hq) h1) (fun _ h => nomatch h)
set_option maxHeartbeats 8000000 in
theorem begun_state_C {x : Addr} {p q S d : Nat} {W : Nat} {tw t0 t1 t2 t3 t4 : Tok} (hW : 0 < W) (hW2 : W ≤ 6) (hd1 : dp + 30 < recursionLimit) (hu : un + 120 < cLine)
    (ha : p < 2 ^ 5) (hc : q < 2 ^ 5) (hS : S < 2 ^ d) (hd4 : 4 ≤ d) (hd5 : d ≤ 5)
    (hx : (x, tupO [.str (Str.ofString "state") t0, .int (d : Int) t1, .int (p : Int) t2, .int (q : Int) t3, .int (S : Int) t4]) ∈ news)
    (ret : ∀ x dx D ls svs k3 nw h' tk', Fr h₀ L h' m → News h₀ L h' ((dx, D) :: (ls, lst svs k3) :: (nw ++ news)) → SrcIs w W nw x dx D ls svs (.cong p q d S) → FreshSrc nw dx ls news → Q (.ref x) { s with heap := h', toks := tk' }) :
    wpAny (model Challenge.rw_sj0076_01.row.prog w) (ktrTop dp un gd cn cs L a ccd cl outer) (call (.ref 231) [.ref x, .int W tw]) Q E s := by
  have hwi : (0 : Int) < (W : Int) := by omega
  have hwi2 : (W : Int) ≤ 6 := by omega
  have hS30 : S < 2 ^ 30 := Nat.lt_of_lt_of_le hS (Nat.pow_le_pow_right (by decide) (by omega))
  have ha30 : p < 2 ^ 30 := Nat.lt_of_lt_of_le ha (by decide)
  have hc30 : q < 2 ^ 30 := Nat.lt_of_lt_of_le hc (by decide)
  have hdi : (4 : Int) ≤ d := by omega
  have hdi2 : (d : Int) ≤ 5 := by omega
  refine wpAny_call ?_
  k_dflt (first | (refine' code_defC ?k1 ?k2 ?k3 ?k4 ?k5 ?kA ?kF ?kK ?k6 ?k7 ?k8 ?k9 ?kB ?kD ?_ ?c2 ?c3 ?c4; (case kA => exact rfl); (case kF => exact rfl); (case kK => first | exact rfl | assumption); (case k1 => k_asm); (case k2 => k_asm); (case k3 => k_asm); (case k4 => k_asm); (case k5 => k_asm); (case k6 => k_is); (case k7 => k_is); (case k8 => ktr_room); (case k9 => first | exact BindsTo.of_eq rfl | exact binds_K (by k_in) rfl (by k_is) rfl rfl rfl); (case kB => exact rfl); (case kD => decide +kernel); (case c2 => exact rfl); (case c3 => exact rfl); (case c4 => exact rfl); k_whole; intro g' L' h' tk' cells' FG' F' N' Y' B' X' T' l1; (try k_lt l1); k_cells Y'; (try simp only [List.cons_append, List.nil_append] at N'); (try dsimp only); (try k_lift B'); (try k_fold)) | (refine' code_def ?k1 ?k2 ?k3 ?k4 ?k5 ?kA ?kF ?kK ?k6 ?k7 ?k8 ?k9 ?kB ?_ ?c2 ?c3 ?c4 ?c5; (case kA => exact rfl); (case kF => exact rfl); (case kK => first | exact rfl | assumption); (case k1 => k_asm); (case k2 => k_asm); (case k3 => k_asm); (case k4 => k_asm); (case k5 => k_asm); (case k6 => k_is); (case k7 => k_is); (case k8 => ktr_room); (case k9 => first | exact BindsTo.of_eq rfl | exact binds_K (by k_in) rfl (by k_is) rfl rfl rfl); (case c5 => decide); (case kB => exact locs rfl); (case c2 => exact rfl); (case c3 => exact rfl); (case c4 => exact rfl); k_whole; intro g' L' h' FG' F' N' B' X' T'; (try dsimp only); (try k_lift B'); (try k_fold)))
  repeat' ((fail_if_success (with_reducible show Hold _)); first | (with_reducible refine Cn.out (by assumption) ?_) | (first | (with_reducible refine Co.ret (by assumption) ?_) | (with_reducible refine Co.brk (by assumption) ?_) | (with_reducible refine Co.cont (by assumption) ?_) | (with_reducible refine Cnt.out (by assumption) ?_; (try dsimp only))) | (k_unfold; (try dsimp only)) | ((with_reducible show wpAny _ _ (execs _ _) _ _ _); (first | ((fail_if_success (with_reducible refine Cn.seen (by first | exact Or.inl (by assumption) | exact Or.inr (by assumption)) ?_)); refine Cnt.gen ?_; intro qk hqk) | (with_reducible refine execs_one ?_))) | (k_dflt (refine' comp_end1 ?F ?N ?off ?h1 ?h2 ?h3 ?hS ?_; (case F => k_asm); (case N => with_reducible assumption); (case off => first | assumption | exact ⟨⟨by k_ne, by k_ne, by k_ne⟩, by assumption⟩); (case h1 => omega); (case h2 => omega); (case h3 => omega); (case hS => k_mem))) | (k_here; k_dflt (refine SrcTu.mk (by rfl) (by k_asm) (by k_asm) (by k_mem) (by exact Nat.le_of_ble_eq_true rfl) ?_; intro g'; lcg_lit)) | ((with_reducible show wpAny _ _ (exec (Stmt.Assign _ (Expr.ListComp _ _ _ _) _) _) _ _ _); (k_here; lcg_calm; k_dflt (refine assign_tup (F₀ := by k_asm) (by rfl) (by with_unfolding_all rfl) (by decide) (by rfl) (by decide) (by rfl) (by rfl) (by rfl) ?_))) | (k_here; (with_reducible show wpAny _ _ (subscriptTail _ (PySem.Expr.Slice _ _ none _) (Value.ref _) (Value.ref _)) _ _ _); k_dflt (first | (refine' slice_tup_from (a := 2) ?F ?N ?l ?hz ?h1 ?h2 ?h3 ?e ?_ ?s ?t; (case F => k_asm); (case N => k_asm); (case l => is_tup); (case hz => exact rfl); (case h1 => decide); (case h2 => exact Nat.le_of_ble_eq_true rfl); (case h3 => exact Nat.le_of_ble_eq_true rfl); (case e => exact rfl); (case s => with_unfolding_all rfl); (case t => kmk_pure)) | (refine' slice_tup_to (b := 4) ?F ?N ?l ?hz ?h2 ?h3 ?e ?_ ?s ?t; (case F => k_asm); (case N => k_asm); (case l => is_tup); (case hz => exact rfl); (case h2 => exact Nat.le_of_ble_eq_true rfl); (case h3 => exact Nat.le_of_ble_eq_true rfl); (case e => exact rfl); (case s => with_unfolding_all rfl); (case t => kmk_pure))); intro D' h' F' N' l1; (try k_lt l1); (try k_sweep)) | (k_here; (with_reducible show wpAny _ _ (call (Value.ref 221) _ _) _ _ _); k_dflt (refine' law_limbs_C ?k1 ?k2 ?k3 ?k4 ?k5 ?k6 ?k7 ?k71 ?k8 ?k9 ?p1 ?_; (case k1 => k_asm); (case k2 => k_asm); (case k3 => k_asm); (case k4 => k_asm); (case k5 => k_asm); (case k6 => first | exact rfl | assumption); (case p1 => kst_p2); (case k7 => assumption); (case k71 => assumption); (case k8 => ktr_room); (case k9 => ktr_units); k_whole; intro r' h' tk' vs' k' F' N' I' l1; (try k_lt l1); (try k_sweep))) | (k_here; (with_reducible show wpAny _ _ (binaryOp Operator.FloorDiv (Value.int (Nat.cast _) _) (Value.int 2 _)) _ _ _); k_dflt (refine' floordiv_two ?_; k_whole)) | (k_here; (with_reducible show wpAny _ _ (call (Value.ref 95) _ _) _ _ _); k_dflt (refine' low_C ?k1 ?k2 ?k3 ?k4 ?k5 ?k6 ?k7 ?k71 ?k8 ?k9 ?m1 ?i1 ?p1 ?p2 ?_; (case k1 => k_asm); (case k2 => k_asm); (case k3 => k_asm); (case k4 => k_asm); (case k5 => k_asm); (case k6 => first | exact rfl | assumption); (case m1 => k_mem); (case i1 => l_ints); (case p1 => kst_p2); (case p2 => kst_p2); (case k7 => assumption); (case k71 => assumption); (case k8 => ktr_room); (case k9 => ktr_units); k_whole; intro r' h' tk' vs' k' F' N' I' l1; (try k_lt l1); (try k_sweep))) | (k_here; (with_reducible show wpAny _ _ (binaryOp Operator.Mod (Value.int (Nat.cast _) _) (Value.int (Nat.cast _) _)) _ _ _); k_dflt (refine' mod_nat ?a ?_; (case a => omega); k_whole)) | (k_here; (with_reducible show wpAny _ _ (binaryOp Operator.FloorDiv (Value.int (Nat.cast _) _) (Value.int (Nat.cast _) _)) _ _ _); k_dflt (refine' floordiv_nat ?a ?b ?_; (case a => omega); (case b => omega); k_whole)) | (k_here; (with_reducible show wpAny _ _ (binaryOp Operator.Mult (Value.ref _) (Value.int _ _)) _ _ _); k_dflt (refine' zeros_C ?F ?N ?l ?a ?b ?_; (case F => k_asm); (case N => k_asm); (case l => k_mem); (case a => first | exact Int.natCast_nonneg _ | omega); (case b => omega); k_whole); intro r' h' vs' F' N' I' l1; (try k_lt l1); (try k_sweep)) | ((with_reducible show wpAny _ _ (call (Value.ref _) _ _) _ _ _); (k_here; k_dflt (first   | (refine' call_cls ?k1 ?k2 ?k3 ?k4 ?k5 ?k6 ?_; (case k1 => k_asm); (case k2 => k_asm); (case k3 => k_asm); (case k4 => k_is); (case k5 => k_is); (case k6 => k_is); k_whole; intro x' d' h' F' N' l1 l2; (try k_lt l1); (try k_lt2 l2); (try k_sweep); (first | (refine' code_defC ?k1 ?k2 ?k3 ?k4 ?k5 ?kA ?kF ?kK ?k6 ?k7 ?k8 ?k9 ?kB ?kD ?_ ?c2 ?c3 ?c4; (case kA => exact rfl); (case kF => exact rfl); (case kK => first | exact rfl | assumption); (case k1 => k_asm); (case k2 => k_asm); (case k3 => k_asm); (case k4 => k_asm); (case k5 => k_asm); (case k6 => k_is); (case k7 => k_is); (case k8 => ktr_room); (case k9 => first | exact BindsTo.of_eq rfl | exact binds_K (by k_in) rfl (by k_is) rfl rfl rfl); (case kB => exact rfl); (case kD => decide +kernel); (case c2 => exact rfl); (case c3 => exact rfl); (case c4 => exact rfl); k_whole; intro g' L' h' tk' cells' FG' F' N' Y' B' X' T' l1; (try k_lt l1); k_cells Y'; (try simp only [List.cons_append, List.nil_append] at N'); (try dsimp only); (try k_lift B'); (try k_fold)) | (refine' code_def ?k1 ?k2 ?k3 ?k4 ?k5 ?kA ?kF ?kK ?k6 ?k7 ?k8 ?k9 ?kB ?_ ?c2 ?c3 ?c4 ?c5; (case kA => exact rfl); (case kF => exact rfl); (case kK => first | exact rfl | assumption); (case k1 => k_asm); (case k2 => k_asm); (case k3 => k_asm); (case k4 => k_asm); (case k5 => k_asm); (case k6 => k_is); (case k7 => k_is); (case k8 => ktr_room); (case k9 => first | exact BindsTo.of_eq rfl | exact binds_K (by k_in) rfl (by k_is) rfl rfl rfl); (case c5 => decide); (case kB => exact locs rfl); (case c2 => exact rfl); (case c3 => exact rfl); (case c4 => exact rfl); k_whole; intro g' L' h' FG' F' N' B' X' T'; (try dsimp only); (try k_lift B'); (try k_fold))))   | (refine wpAny_call ?_; (first | (refine' code_defC ?k1 ?k2 ?k3 ?k4 ?k5 ?kA ?kF ?kK ?k6 ?k7 ?k8 ?k9 ?kB ?kD ?_ ?c2 ?c3 ?c4; (case kA => exact rfl); (case kF => exact rfl); (case kK => first | exact rfl | assumption); (case k1 => k_asm); (case k2 => k_asm); (case k3 => k_asm); (case k4 => k_asm); (case k5 => k_asm); (case k6 => k_is); (case k7 => k_is); (case k8 => ktr_room); (case k9 => first | exact BindsTo.of_eq rfl | exact binds_K (by k_in) rfl (by k_is) rfl rfl rfl); (case kB => exact rfl); (case kD => decide +kernel); (case c2 => exact rfl); (case c3 => exact rfl); (case c4 => exact rfl); k_whole; intro g' L' h' tk' cells' FG' F' N' Y' B' X' T' l1; (try k_lt l1); k_cells Y'; (try simp only [List.cons_append, List.nil_append] at N'); (try dsimp only); (try k_lift B'); (try k_fold)) | (refine' code_def ?k1 ?k2 ?k3 ?k4 ?k5 ?kA ?kF ?kK ?k6 ?k7 ?k8 ?k9 ?kB ?_ ?c2 ?c3 ?c4 ?c5; (case kA => exact rfl); (case kF => exact rfl); (case kK => first | exact rfl | assumption); (case k1 => k_asm); (case k2 => k_asm); (case k3 => k_asm); (case k4 => k_asm); (case k5 => k_asm); (case k6 => k_is); (case k7 => k_is); (case k8 => ktr_room); (case k9 => first | exact BindsTo.of_eq rfl | exact binds_K (by k_in) rfl (by k_is) rfl rfl rfl); (case c5 => decide); (case kB => exact locs rfl); (case c2 => exact rfl); (case c3 => exact rfl); (case c4 => exact rfl); k_whole; intro g' L' h' FG' F' N' B' X' T'; (try dsimp only); (try k_lift B'); (try k_fold))))))) | ((with_reducible show wpAny _ _ (exec (Stmt.While _ _ _ _) _) _ _ _); refine Hold.intro ?_) | (first | with_reducible refine TurnEnd.ret ?_ | with_reducible refine TurnEnd.brk ?_) | ((with_reducible show wpAny _ _ (pyIter _) _ _ _); refine Hold.intro ?_) | (k_end; wrow_close) | walk1 | (dsimp only; walk1) | (leave1; try dsimp only))
  rename News _ _ _ _ => N3
  rename Fr _ _ _ _ => F3
  rename (_ ∧ _ ∧ LCg.Off3 _ _ _ _) => O3
  refine comp_end1 F3 N3 O3 (by omega) (by omega) (by omega) (by k_mem) ?_
  repeat' ((fail_if_success (with_reducible show Hold _)); first | (with_reducible refine Cn.out (by assumption) ?_) | (first | (with_reducible refine Co.ret (by assumption) ?_) | (with_reducible refine Co.brk (by assumption) ?_) | (with_reducible refine Co.cont (by assumption) ?_) | (with_reducible refine Cnt.out (by assumption) ?_; (try dsimp only))) | (k_unfold; (try dsimp only)) | ((with_reducible show wpAny _ _ (execs _ _) _ _ _); (first | ((fail_if_success (with_reducible refine Cn.seen (by first | exact Or.inl (by assumption) | exact Or.inr (by assumption)) ?_)); refine Cnt.gen ?_; intro qk hqk) | (with_reducible refine execs_one ?_))) | (k_dflt (refine' comp_end1 ?F ?N ?off ?h1 ?h2 ?h3 ?hS ?_; (case F => k_asm); (case N => with_reducible assumption); (case off => first | assumption | exact ⟨⟨by k_ne, by k_ne, by k_ne⟩, by assumption⟩); (case h1 => omega); (case h2 => omega); (case h3 => omega); (case hS => k_mem))) | (k_here; k_dflt (refine SrcTu.mk (by rfl) (by k_asm) (by k_asm) (by k_mem) (by exact Nat.le_of_ble_eq_true rfl) ?_; intro g'; lcg_lit)) | ((with_reducible show wpAny _ _ (exec (Stmt.Assign _ (Expr.ListComp _ _ _ _) _) _) _ _ _); (k_here; lcg_calm; k_dflt (refine assign_tup (F₀ := by k_asm) (by rfl) (by with_unfolding_all rfl) (by decide) (by rfl) (by decide) (by rfl) (by rfl) (by rfl) ?_))) | (k_here; (with_reducible show wpAny _ _ (subscriptTail _ (PySem.Expr.Slice _ _ none _) (Value.ref _) (Value.ref _)) _ _ _); k_dflt (first | (refine' slice_tup_from (a := 2) ?F ?N ?l ?hz ?h1 ?h2 ?h3 ?e ?_ ?s ?t; (case F => k_asm); (case N => k_asm); (case l => is_tup); (case hz => exact rfl); (case h1 => decide); (case h2 => exact Nat.le_of_ble_eq_true rfl); (case h3 => exact Nat.le_of_ble_eq_true rfl); (case e => exact rfl); (case s => with_unfolding_all rfl); (case t => kmk_pure)) | (refine' slice_tup_to (b := 4) ?F ?N ?l ?hz ?h2 ?h3 ?e ?_ ?s ?t; (case F => k_asm); (case N => k_asm); (case l => is_tup); (case hz => exact rfl); (case h2 => exact Nat.le_of_ble_eq_true rfl); (case h3 => exact Nat.le_of_ble_eq_true rfl); (case e => exact rfl); (case s => with_unfolding_all rfl); (case t => kmk_pure))); intro D' h' F' N' l1; (try k_lt l1); (try k_sweep)) | (k_here; (with_reducible show wpAny _ _ (call (Value.ref 221) _ _) _ _ _); k_dflt (refine' law_limbs_C ?k1 ?k2 ?k3 ?k4 ?k5 ?k6 ?k7 ?k71 ?k8 ?k9 ?p1 ?_; (case k1 => k_asm); (case k2 => k_asm); (case k3 => k_asm); (case k4 => k_asm); (case k5 => k_asm); (case k6 => first | exact rfl | assumption); (case p1 => kst_p2); (case k7 => assumption); (case k71 => assumption); (case k8 => ktr_room); (case k9 => ktr_units); k_whole; intro r' h' tk' vs' k' F' N' I' l1; (try k_lt l1); (try k_sweep))) | (k_here; (with_reducible show wpAny _ _ (binaryOp Operator.FloorDiv (Value.int (Nat.cast _) _) (Value.int 2 _)) _ _ _); k_dflt (refine' floordiv_two ?_; k_whole)) | (k_here; (with_reducible show wpAny _ _ (call (Value.ref 95) _ _) _ _ _); k_dflt (refine' low_C ?k1 ?k2 ?k3 ?k4 ?k5 ?k6 ?k7 ?k71 ?k8 ?k9 ?m1 ?i1 ?p1 ?p2 ?_; (case k1 => k_asm); (case k2 => k_asm); (case k3 => k_asm); (case k4 => k_asm); (case k5 => k_asm); (case k6 => first | exact rfl | assumption); (case m1 => k_mem); (case i1 => l_ints); (case p1 => kst_p2); (case p2 => kst_p2); (case k7 => assumption); (case k71 => assumption); (case k8 => ktr_room); (case k9 => ktr_units); k_whole; intro r' h' tk' vs' k' F' N' I' l1; (try k_lt l1); (try k_sweep))) | (k_here; (with_reducible show wpAny _ _ (binaryOp Operator.Mod (Value.int (Nat.cast _) _) (Value.int (Nat.cast _) _)) _ _ _); k_dflt (refine' mod_nat ?a ?_; (case a => omega); k_whole)) | (k_here; (with_reducible show wpAny _ _ (binaryOp Operator.FloorDiv (Value.int (Nat.cast _) _) (Value.int (Nat.cast _) _)) _ _ _); k_dflt (refine' floordiv_nat ?a ?b ?_; (case a => omega); (case b => omega); k_whole)) | (k_here; (with_reducible show wpAny _ _ (binaryOp Operator.Mult (Value.ref _) (Value.int _ _)) _ _ _); k_dflt (refine' zeros_C ?F ?N ?l ?a ?b ?_; (case F => k_asm); (case N => k_asm); (case l => k_mem); (case a => first | exact Int.natCast_nonneg _ | omega); (case b => omega); k_whole); intro r' h' vs' F' N' I' l1; (try k_lt l1); (try k_sweep)) | ((with_reducible show wpAny _ _ (call (Value.ref _) _ _) _ _ _); (k_here; k_dflt (first   | (refine' call_cls ?k1 ?k2 ?k3 ?k4 ?k5 ?k6 ?_; (case k1 => k_asm); (case k2 => k_asm); (case k3 => k_asm); (case k4 => k_is); (case k5 => k_is); (case k6 => k_is); k_whole; intro x' d' h' F' N' l1 l2; (try k_lt l1); (try k_lt2 l2); (try k_sweep); (first | (refine' code_defC ?k1 ?k2 ?k3 ?k4 ?k5 ?kA ?kF ?kK ?k6 ?k7 ?k8 ?k9 ?kB ?kD ?_ ?c2 ?c3 ?c4; (case kA => exact rfl); (case kF => exact rfl); (case kK => first | exact rfl | assumption); (case k1 => k_asm); (case k2 => k_asm); (case k3 => k_asm); (case k4 => k_asm); (case k5 => k_asm); (case k6 => k_is); (case k7 => k_is); (case k8 => ktr_room); (case k9 => first | exact BindsTo.of_eq rfl | exact binds_K (by k_in) rfl (by k_is) rfl rfl rfl); (case kB => exact rfl); (case kD => decide +kernel); (case c2 => exact rfl); (case c3 => exact rfl); (case c4 => exact rfl); k_whole; intro g' L' h' tk' cells' FG' F' N' Y' B' X' T' l1; (try k_lt l1); k_cells Y'; (try simp only [List.cons_append, List.nil_append] at N'); (try dsimp only); (try k_lift B'); (try k_fold)) | (refine' code_def ?k1 ?k2 ?k3 ?k4 ?k5 ?kA ?kF ?kK ?k6 ?k7 ?k8 ?k9 ?kB ?_ ?c2 ?c3 ?c4 ?c5; (case kA => exact rfl); (case kF => exact rfl); (case kK => first | exact rfl | assumption); (case k1 => k_asm); (case k2 => k_asm); (case k3 => k_asm); (case k4 => k_asm); (case k5 => k_asm); (case k6 => k_is); (case k7 => k_is); (case k8 => ktr_room); (case k9 => first | exact BindsTo.of_eq rfl | exact binds_K (by k_in) rfl (by k_is) rfl rfl rfl); (case c5 => decide); (case kB => exact locs rfl); (case c2 => exact rfl); (case c3 => exact rfl); (case c4 => exact rfl); k_whole; intro g' L' h' FG' F' N' B' X' T'; (try dsimp only); (try k_lift B'); (try k_fold))))   | (refine wpAny_call ?_; (first | (refine' code_defC ?k1 ?k2 ?k3 ?k4 ?k5 ?kA ?kF ?kK ?k6 ?k7 ?k8 ?k9 ?kB ?kD ?_ ?c2 ?c3 ?c4; (case kA => exact rfl); (case kF => exact rfl); (case kK => first | exact rfl | assumption); (case k1 => k_asm); (case k2 => k_asm); (case k3 => k_asm); (case k4 => k_asm); (case k5 => k_asm); (case k6 => k_is); (case k7 => k_is); (case k8 => ktr_room); (case k9 => first | exact BindsTo.of_eq rfl | exact binds_K (by k_in) rfl (by k_is) rfl rfl rfl); (case kB => exact rfl); (case kD => decide +kernel); (case c2 => exact rfl); (case c3 => exact rfl); (case c4 => exact rfl); k_whole; intro g' L' h' tk' cells' FG' F' N' Y' B' X' T' l1; (try k_lt l1); k_cells Y'; (try simp only [List.cons_append, List.nil_append] at N'); (try dsimp only); (try k_lift B'); (try k_fold)) | (refine' code_def ?k1 ?k2 ?k3 ?k4 ?k5 ?kA ?kF ?kK ?k6 ?k7 ?k8 ?k9 ?kB ?_ ?c2 ?c3 ?c4 ?c5; (case kA => exact rfl); (case kF => exact rfl); (case kK => first | exact rfl | assumption); (case k1 => k_asm); (case k2 => k_asm); (case k3 => k_asm); (case k4 => k_asm); (case k5 => k_asm); (case k6 => k_is); (case k7 => k_is); (case k8 => ktr_room); (case k9 => first | exact BindsTo.of_eq rfl | exact binds_K (by k_in) rfl (by k_is) rfl rfl rfl); (case c5 => decide); (case kB => exact locs rfl); (case c2 => exact rfl); (case c3 => exact rfl); (case c4 => exact rfl); k_whole; intro g' L' h' FG' F' N' B' X' T'; (try dsimp only); (try k_lift B'); (try k_fold))))))) | ((with_reducible show wpAny _ _ (exec (Stmt.While _ _ _ _) _) _ _ _); refine Hold.intro ?_) | (first | with_reducible refine TurnEnd.ret ?_ | with_reducible refine TurnEnd.brk ?_) | ((with_reducible show wpAny _ _ (pyIter _) _ _ _); refine Hold.intro ?_) | (k_end; wrow_close) | walk1 | (dsimp only; walk1) | (leave1; try dsimp only))
  rename News _ _ _ _ => N4
  rename Fr _ _ _ _ => F4
  rename (_ ∧ _ ∧ _ ∧ LCg.Off3 _ _ _ _) => O4
  refine comp_end1 F4 N4 O4 (by omega) (by omega) (by omega) (by k_mem) ?_
  repeat' ((fail_if_success (with_reducible show Hold _)); first | (with_reducible refine Cn.out (by assumption) ?_) | (first | (with_reducible refine Co.ret (by assumption) ?_) | (with_reducible refine Co.brk (by assumption) ?_) | (with_reducible refine Co.cont (by assumption) ?_) | (with_reducible refine Cnt.out (by assumption) ?_; (try dsimp only))) | (k_unfold; (try dsimp only)) | ((with_reducible show wpAny _ _ (execs _ _) _ _ _); (first | ((fail_if_success (with_reducible refine Cn.seen (by first | exact Or.inl (by assumption) | exact Or.inr (by assumption)) ?_)); refine Cnt.gen ?_; intro qk hqk) | (with_reducible refine execs_one ?_))) | (k_dflt (refine' comp_end1 ?F ?N ?off ?h1 ?h2 ?h3 ?hS ?_; (case F => k_asm); (case N => with_reducible assumption); (case off => first | assumption | exact ⟨⟨by k_ne, by k_ne, by k_ne⟩, by assumption⟩); (case h1 => omega); (case h2 => omega); (case h3 => omega); (case hS => k_mem))) | (k_here; k_dflt (refine SrcTu.mk (by rfl) (by k_asm) (by k_asm) (by k_mem) (by exact Nat.le_of_ble_eq_true rfl) ?_; intro g'; lcg_lit)) | ((with_reducible show wpAny _ _ (exec (Stmt.Assign _ (Expr.ListComp _ _ _ _) _) _) _ _ _); (k_here; lcg_calm; k_dflt (refine assign_tup (F₀ := by k_asm) (by rfl) (by with_unfolding_all rfl) (by decide) (by rfl) (by decide) (by rfl) (by rfl) (by rfl) ?_))) | (k_here; (with_reducible show wpAny _ _ (subscriptTail _ (PySem.Expr.Slice _ _ none _) (Value.ref _) (Value.ref _)) _ _ _); k_dflt (first | (refine' slice_tup_from (a := 2) ?F ?N ?l ?hz ?h1 ?h2 ?h3 ?e ?_ ?s ?t; (case F => k_asm); (case N => k_asm); (case l => is_tup); (case hz => exact rfl); (case h1 => decide); (case h2 => exact Nat.le_of_ble_eq_true rfl); (case h3 => exact Nat.le_of_ble_eq_true rfl); (case e => exact rfl); (case s => with_unfolding_all rfl); (case t => kmk_pure)) | (refine' slice_tup_to (b := 4) ?F ?N ?l ?hz ?h2 ?h3 ?e ?_ ?s ?t; (case F => k_asm); (case N => k_asm); (case l => is_tup); (case hz => exact rfl); (case h2 => exact Nat.le_of_ble_eq_true rfl); (case h3 => exact Nat.le_of_ble_eq_true rfl); (case e => exact rfl); (case s => with_unfolding_all rfl); (case t => kmk_pure))); intro D' h' F' N' l1; (try k_lt l1); (try k_sweep)) | (k_here; (with_reducible show wpAny _ _ (call (Value.ref 221) _ _) _ _ _); k_dflt (refine' law_limbs_C ?k1 ?k2 ?k3 ?k4 ?k5 ?k6 ?k7 ?k71 ?k8 ?k9 ?p1 ?_; (case k1 => k_asm); (case k2 => k_asm); (case k3 => k_asm); (case k4 => k_asm); (case k5 => k_asm); (case k6 => first | exact rfl | assumption); (case p1 => kst_p2); (case k7 => assumption); (case k71 => assumption); (case k8 => ktr_room); (case k9 => ktr_units); k_whole; intro r' h' tk' vs' k' F' N' I' l1; (try k_lt l1); (try k_sweep))) | (k_here; (with_reducible show wpAny _ _ (binaryOp Operator.FloorDiv (Value.int (Nat.cast _) _) (Value.int 2 _)) _ _ _); k_dflt (refine' floordiv_two ?_; k_whole)) | (k_here; (with_reducible show wpAny _ _ (call (Value.ref 95) _ _) _ _ _); k_dflt (refine' low_C ?k1 ?k2 ?k3 ?k4 ?k5 ?k6 ?k7 ?k71 ?k8 ?k9 ?m1 ?i1 ?p1 ?p2 ?_; (case k1 => k_asm); (case k2 => k_asm); (case k3 => k_asm); (case k4 => k_asm); (case k5 => k_asm); (case k6 => first | exact rfl | assumption); (case m1 => k_mem); (case i1 => l_ints); (case p1 => kst_p2); (case p2 => kst_p2); (case k7 => assumption); (case k71 => assumption); (case k8 => ktr_room); (case k9 => ktr_units); k_whole; intro r' h' tk' vs' k' F' N' I' l1; (try k_lt l1); (try k_sweep))) | (k_here; (with_reducible show wpAny _ _ (binaryOp Operator.Mod (Value.int (Nat.cast _) _) (Value.int (Nat.cast _) _)) _ _ _); k_dflt (refine' mod_nat ?a ?_; (case a => omega); k_whole)) | (k_here; (with_reducible show wpAny _ _ (binaryOp Operator.FloorDiv (Value.int (Nat.cast _) _) (Value.int (Nat.cast _) _)) _ _ _); k_dflt (refine' floordiv_nat ?a ?b ?_; (case a => omega); (case b => omega); k_whole)) | (k_here; (with_reducible show wpAny _ _ (binaryOp Operator.Mult (Value.ref _) (Value.int _ _)) _ _ _); k_dflt (refine' zeros_C ?F ?N ?l ?a ?b ?_; (case F => k_asm); (case N => k_asm); (case l => k_mem); (case a => first | exact Int.natCast_nonneg _ | omega); (case b => omega); k_whole); intro r' h' vs' F' N' I' l1; (try k_lt l1); (try k_sweep)) | ((with_reducible show wpAny _ _ (call (Value.ref _) _ _) _ _ _); (k_here; k_dflt (first   | (refine' call_cls ?k1 ?k2 ?k3 ?k4 ?k5 ?k6 ?_; (case k1 => k_asm); (case k2 => k_asm); (case k3 => k_asm); (case k4 => k_is); (case k5 => k_is); (case k6 => k_is); k_whole; intro x' d' h' F' N' l1 l2; (try k_lt l1); (try k_lt2 l2); (try k_sweep); (first | (refine' code_defC ?k1 ?k2 ?k3 ?k4 ?k5 ?kA ?kF ?kK ?k6 ?k7 ?k8 ?k9 ?kB ?kD ?_ ?c2 ?c3 ?c4; (case kA => exact rfl); (case kF => exact rfl); (case kK => first | exact rfl | assumption); (case k1 => k_asm); (case k2 => k_asm); (case k3 => k_asm); (case k4 => k_asm); (case k5 => k_asm); (case k6 => k_is); (case k7 => k_is); (case k8 => ktr_room); (case k9 => first | exact BindsTo.of_eq rfl | exact binds_K (by k_in) rfl (by k_is) rfl rfl rfl); (case kB => exact rfl); (case kD => decide +kernel); (case c2 => exact rfl); (case c3 => exact rfl); (case c4 => exact rfl); k_whole; intro g' L' h' tk' cells' FG' F' N' Y' B' X' T' l1; (try k_lt l1); k_cells Y'; (try simp only [List.cons_append, List.nil_append] at N'); (try dsimp only); (try k_lift B'); (try k_fold)) | (refine' code_def ?k1 ?k2 ?k3 ?k4 ?k5 ?kA ?kF ?kK ?k6 ?k7 ?k8 ?k9 ?kB ?_ ?c2 ?c3 ?c4 ?c5; (case kA => exact rfl); (case kF => exact rfl); (case kK => first | exact rfl | assumption); (case k1 => k_asm); (case k2 => k_asm); (case k3 => k_asm); (case k4 => k_asm); (case k5 => k_asm); (case k6 => k_is); (case k7 => k_is); (case k8 => ktr_room); (case k9 => first | exact BindsTo.of_eq rfl | exact binds_K (by k_in) rfl (by k_is) rfl rfl rfl); (case c5 => decide); (case kB => exact locs rfl); (case c2 => exact rfl); (case c3 => exact rfl); (case c4 => exact rfl); k_whole; intro g' L' h' FG' F' N' B' X' T'; (try dsimp only); (try k_lift B'); (try k_fold))))   | (refine wpAny_call ?_; (first | (refine' code_defC ?k1 ?k2 ?k3 ?k4 ?k5 ?kA ?kF ?kK ?k6 ?k7 ?k8 ?k9 ?kB ?kD ?_ ?c2 ?c3 ?c4; (case kA => exact rfl); (case kF => exact rfl); (case kK => first | exact rfl | assumption); (case k1 => k_asm); (case k2 => k_asm); (case k3 => k_asm); (case k4 => k_asm); (case k5 => k_asm); (case k6 => k_is); (case k7 => k_is); (case k8 => ktr_room); (case k9 => first | exact BindsTo.of_eq rfl | exact binds_K (by k_in) rfl (by k_is) rfl rfl rfl); (case kB => exact rfl); (case kD => decide +kernel); (case c2 => exact rfl); (case c3 => exact rfl); (case c4 => exact rfl); k_whole; intro g' L' h' tk' cells' FG' F' N' Y' B' X' T' l1; (try k_lt l1); k_cells Y'; (try simp only [List.cons_append, List.nil_append] at N'); (try dsimp only); (try k_lift B'); (try k_fold)) | (refine' code_def ?k1 ?k2 ?k3 ?k4 ?k5 ?kA ?kF ?kK ?k6 ?k7 ?k8 ?k9 ?kB ?_ ?c2 ?c3 ?c4 ?c5; (case kA => exact rfl); (case kF => exact rfl); (case kK => first | exact rfl | assumption); (case k1 => k_asm); (case k2 => k_asm); (case k3 => k_asm); (case k4 => k_asm); (case k5 => k_asm); (case k6 => k_is); (case k7 => k_is); (case k8 => ktr_room); (case k9 => first | exact BindsTo.of_eq rfl | exact binds_K (by k_in) rfl (by k_is) rfl rfl rfl); (case c5 => decide); (case kB => exact locs rfl); (case c2 => exact rfl); (case c3 => exact rfl); (case c4 => exact rfl); k_whole; intro g' L' h' FG' F' N' B' X' T'; (try dsimp only); (try k_lift B'); (try k_fold))))))) | ((with_reducible show wpAny _ _ (exec (Stmt.While _ _ _ _) _) _ _ _); refine Hold.intro ?_) | (first | with_reducible refine TurnEnd.ret ?_ | with_reducible refine TurnEnd.brk ?_) | ((with_reducible show wpAny _ _ (pyIter _) _ _ _); refine Hold.intro ?_) | (k_end; wrow_close) | walk1 | (dsimp only; walk1) | (leave1; try dsimp only))
  rename News _ _ _ _ => N5
  rename Fr _ _ _ _ => F5
  rename (_ ∧ _ ∧ _ ∧ _ ∧ LCg.Off3 _ _ _ _) => O5
  refine comp_end1 F5 N5 O5 (by omega) (by omega) (by omega) (by k_mem) ?_
  repeat' ((fail_if_success (with_reducible show Hold _)); first | (with_reducible refine Cn.out (by assumption) ?_) | (first | (with_reducible refine Co.ret (by assumption) ?_) | (with_reducible refine Co.brk (by assumption) ?_) | (with_reducible refine Co.cont (by assumption) ?_) | (with_reducible refine Cnt.out (by assumption) ?_; (try dsimp only))) | (k_unfold; (try dsimp only)) | ((with_reducible show wpAny _ _ (execs _ _) _ _ _); (first | ((fail_if_success (with_reducible refine Cn.seen (by first | exact Or.inl (by assumption) | exact Or.inr (by assumption)) ?_)); refine Cnt.gen ?_; intro qk hqk) | (with_reducible refine execs_one ?_))) | (k_dflt (refine' comp_end1 ?F ?N ?off ?h1 ?h2 ?h3 ?hS ?_; (case F => k_asm); (case N => with_reducible assumption); (case off => first | assumption | exact ⟨⟨by k_ne, by k_ne, by k_ne⟩, by assumption⟩); (case h1 => omega); (case h2 => omega); (case h3 => omega); (case hS => k_mem))) | (k_here; k_dflt (refine SrcTu.mk (by rfl) (by k_asm) (by k_asm) (by k_mem) (by exact Nat.le_of_ble_eq_true rfl) ?_; intro g'; lcg_lit)) | ((with_reducible show wpAny _ _ (exec (Stmt.Assign _ (Expr.ListComp _ _ _ _) _) _) _ _ _); (k_here; lcg_calm; k_dflt (refine assign_tup (F₀ := by k_asm) (by rfl) (by with_unfolding_all rfl) (by decide) (by rfl) (by decide) (by rfl) (by rfl) (by rfl) ?_))) | (k_here; (with_reducible show wpAny _ _ (subscriptTail _ (PySem.Expr.Slice _ _ none _) (Value.ref _) (Value.ref _)) _ _ _); k_dflt (first | (refine' slice_tup_from (a := 2) ?F ?N ?l ?hz ?h1 ?h2 ?h3 ?e ?_ ?s ?t; (case F => k_asm); (case N => k_asm); (case l => is_tup); (case hz => exact rfl); (case h1 => decide); (case h2 => exact Nat.le_of_ble_eq_true rfl); (case h3 => exact Nat.le_of_ble_eq_true rfl); (case e => exact rfl); (case s => with_unfolding_all rfl); (case t => kmk_pure)) | (refine' slice_tup_to (b := 4) ?F ?N ?l ?hz ?h2 ?h3 ?e ?_ ?s ?t; (case F => k_asm); (case N => k_asm); (case l => is_tup); (case hz => exact rfl); (case h2 => exact Nat.le_of_ble_eq_true rfl); (case h3 => exact Nat.le_of_ble_eq_true rfl); (case e => exact rfl); (case s => with_unfolding_all rfl); (case t => kmk_pure))); intro D' h' F' N' l1; (try k_lt l1); (try k_sweep)) | (k_here; (with_reducible show wpAny _ _ (call (Value.ref 221) _ _) _ _ _); k_dflt (refine' law_limbs_C ?k1 ?k2 ?k3 ?k4 ?k5 ?k6 ?k7 ?k71 ?k8 ?k9 ?p1 ?_; (case k1 => k_asm); (case k2 => k_asm); (case k3 => k_asm); (case k4 => k_asm); (case k5 => k_asm); (case k6 => first | exact rfl | assumption); (case p1 => kst_p2); (case k7 => assumption); (case k71 => assumption); (case k8 => ktr_room); (case k9 => ktr_units); k_whole; intro r' h' tk' vs' k' F' N' I' l1; (try k_lt l1); (try k_sweep))) | (k_here; (with_reducible show wpAny _ _ (binaryOp Operator.FloorDiv (Value.int (Nat.cast _) _) (Value.int 2 _)) _ _ _); k_dflt (refine' floordiv_two ?_; k_whole)) | (k_here; (with_reducible show wpAny _ _ (call (Value.ref 95) _ _) _ _ _); k_dflt (refine' low_C ?k1 ?k2 ?k3 ?k4 ?k5 ?k6 ?k7 ?k71 ?k8 ?k9 ?m1 ?i1 ?p1 ?p2 ?_; (case k1 => k_asm); (case k2 => k_asm); (case k3 => k_asm); (case k4 => k_asm); (case k5 => k_asm); (case k6 => first | exact rfl | assumption); (case m1 => k_mem); (case i1 => l_ints); (case p1 => kst_p2); (case p2 => kst_p2); (case k7 => assumption); (case k71 => assumption); (case k8 => ktr_room); (case k9 => ktr_units); k_whole; intro r' h' tk' vs' k' F' N' I' l1; (try k_lt l1); (try k_sweep))) | (k_here; (with_reducible show wpAny _ _ (binaryOp Operator.Mod (Value.int (Nat.cast _) _) (Value.int (Nat.cast _) _)) _ _ _); k_dflt (refine' mod_nat ?a ?_; (case a => omega); k_whole)) | (k_here; (with_reducible show wpAny _ _ (binaryOp Operator.FloorDiv (Value.int (Nat.cast _) _) (Value.int (Nat.cast _) _)) _ _ _); k_dflt (refine' floordiv_nat ?a ?b ?_; (case a => omega); (case b => omega); k_whole)) | (k_here; (with_reducible show wpAny _ _ (binaryOp Operator.Mult (Value.ref _) (Value.int _ _)) _ _ _); k_dflt (refine' zeros_C ?F ?N ?l ?a ?b ?_; (case F => k_asm); (case N => k_asm); (case l => k_mem); (case a => first | exact Int.natCast_nonneg _ | omega); (case b => omega); k_whole); intro r' h' vs' F' N' I' l1; (try k_lt l1); (try k_sweep)) | ((with_reducible show wpAny _ _ (call (Value.ref _) _ _) _ _ _); (k_here; k_dflt (first   | (refine' call_cls ?k1 ?k2 ?k3 ?k4 ?k5 ?k6 ?_; (case k1 => k_asm); (case k2 => k_asm); (case k3 => k_asm); (case k4 => k_is); (case k5 => k_is); (case k6 => k_is); k_whole; intro x' d' h' F' N' l1 l2; (try k_lt l1); (try k_lt2 l2); (try k_sweep); (first | (refine' code_defC ?k1 ?k2 ?k3 ?k4 ?k5 ?kA ?kF ?kK ?k6 ?k7 ?k8 ?k9 ?kB ?kD ?_ ?c2 ?c3 ?c4; (case kA => exact rfl); (case kF => exact rfl); (case kK => first | exact rfl | assumption); (case k1 => k_asm); (case k2 => k_asm); (case k3 => k_asm); (case k4 => k_asm); (case k5 => k_asm); (case k6 => k_is); (case k7 => k_is); (case k8 => ktr_room); (case k9 => first | exact BindsTo.of_eq rfl | exact binds_K (by k_in) rfl (by k_is) rfl rfl rfl); (case kB => exact rfl); (case kD => decide +kernel); (case c2 => exact rfl); (case c3 => exact rfl); (case c4 => exact rfl); k_whole; intro g' L' h' tk' cells' FG' F' N' Y' B' X' T' l1; (try k_lt l1); k_cells Y'; (try simp only [List.cons_append, List.nil_append] at N'); (try dsimp only); (try k_lift B'); (try k_fold)) | (refine' code_def ?k1 ?k2 ?k3 ?k4 ?k5 ?kA ?kF ?kK ?k6 ?k7 ?k8 ?k9 ?kB ?_ ?c2 ?c3 ?c4 ?c5; (case kA => exact rfl); (case kF => exact rfl); (case kK => first | exact rfl | assumption); (case k1 => k_asm); (case k2 => k_asm); (case k3 => k_asm); (case k4 => k_asm); (case k5 => k_asm); (case k6 => k_is); (case k7 => k_is); (case k8 => ktr_room); (case k9 => first | exact BindsTo.of_eq rfl | exact binds_K (by k_in) rfl (by k_is) rfl rfl rfl); (case c5 => decide); (case kB => exact locs rfl); (case c2 => exact rfl); (case c3 => exact rfl); (case c4 => exact rfl); k_whole; intro g' L' h' FG' F' N' B' X' T'; (try dsimp only); (try k_lift B'); (try k_fold))))   | (refine wpAny_call ?_; (first | (refine' code_defC ?k1 ?k2 ?k3 ?k4 ?k5 ?kA ?kF ?kK ?k6 ?k7 ?k8 ?k9 ?kB ?kD ?_ ?c2 ?c3 ?c4; (case kA => exact rfl); (case kF => exact rfl); (case kK => first | exact rfl | assumption); (case k1 => k_asm); (case k2 => k_asm); (case k3 => k_asm); (case k4 => k_asm); (case k5 => k_asm); (case k6 => k_is); (case k7 => k_is); (case k8 => ktr_room); (case k9 => first | exact BindsTo.of_eq rfl | exact binds_K (by k_in) rfl (by k_is) rfl rfl rfl); (case kB => exact rfl); (case kD => decide +kernel); (case c2 => exact rfl); (case c3 => exact rfl); (case c4 => exact rfl); k_whole; intro g' L' h' tk' cells' FG' F' N' Y' B' X' T' l1; (try k_lt l1); k_cells Y'; (try simp only [List.cons_append, List.nil_append] at N'); (try dsimp only); (try k_lift B'); (try k_fold)) | (refine' code_def ?k1 ?k2 ?k3 ?k4 ?k5 ?kA ?kF ?kK ?k6 ?k7 ?k8 ?k9 ?kB ?_ ?c2 ?c3 ?c4 ?c5; (case kA => exact rfl); (case kF => exact rfl); (case kK => first | exact rfl | assumption); (case k1 => k_asm); (case k2 => k_asm); (case k3 => k_asm); (case k4 => k_asm); (case k5 => k_asm); (case k6 => k_is); (case k7 => k_is); (case k8 => ktr_room); (case k9 => first | exact BindsTo.of_eq rfl | exact binds_K (by k_in) rfl (by k_is) rfl rfl rfl); (case c5 => decide); (case kB => exact locs rfl); (case c2 => exact rfl); (case c3 => exact rfl); (case c4 => exact rfl); k_whole; intro g' L' h' FG' F' N' B' X' T'; (try dsimp only); (try k_lift B'); (try k_fold))))))) | ((with_reducible show wpAny _ _ (exec (Stmt.While _ _ _ _) _) _ _ _); refine Hold.intro ?_) | (first | with_reducible refine TurnEnd.ret ?_ | with_reducible refine TurnEnd.brk ?_) | ((with_reducible show wpAny _ _ (pyIter _) _ _ _); refine Hold.intro ?_) | (k_end; wrow_close) | walk1 | (dsimp only; walk1) | (leave1; try dsimp only))
  rename Fr h₀ L _ m => F6
  rename News h₀ L _ _ => N6
  have hSm : S % 2 ^ d = S := Nat.mod_eq_of_lt hS
  have I6 := ‹IntsAre _ (up (digs W (S % 2 ^ d)))›
  rw [hSm] at I6
  refine ret _ _ _ _ _ _ [(_, _), (_, _), (_, _)] _ _ F6 (news_begun N6) (SrcIs.cong (List.mem_cons_self) (mem1) (by assumption) (mem2) (by assumption) I6) (fresh3 (by ktr_rel) (by ktr_rel) (by ktr_rel) (by ktr_rel) (by omega) (by omega) (by omega) (by omega) (by omega) (by omega))
set_option maxHeartbeats 8000000 in
theorem begun_row_C {x lr : Addr} {rvs : List Value} {k0 pl : Nat} {row : List Nat} {W : Nat} {tw t0 t1 : Tok} (hW : 0 < W) (hW2 : W ≤ 6) (hd1 : dp + 30 < recursionLimit) (hu : un + 120 < cLine)
    (hpl : 0 < pl) (hpl2 : pl < row.length) (hlen : row.length ≤ 6)
    (hx : (x, tupO [.str (Str.ofString "row") t0, .ref lr, .int (pl : Int) t1]) ∈ news) (hr : (lr, lst rvs k0) ∈ news) (hri : IntsAre rvs (up row))
    (ret : ∀ x dx D ls svs k3 nw h' tk', Fr h₀ L h' m → News h₀ L h' ((dx, D) :: (ls, lst svs k3) :: (nw ++ news)) → SrcIs w W nw x dx D ls svs (.lag row pl) → FreshSrc nw dx ls news → Q (.ref x) { s with heap := h', toks := tk' }) :
    wpAny (model Challenge.rw_sj0076_01.row.prog w) (ktrTop dp un gd cn cs L a ccd cl outer) (call (.ref 231) [.ref x, .int W tw]) Q E s := by
  have hwi : (0 : Int) < (W : Int) := by omega
  have hwi2 : (W : Int) ≤ 6 := by omega
  have hvl : rvs.length = row.length := by rw [hri.length, up_length]
  have hul : (up row).length = row.length := up_length _
  refine wpAny_call ?_
  k_dflt (first | (refine' code_defC ?k1 ?k2 ?k3 ?k4 ?k5 ?kA ?kF ?kK ?k6 ?k7 ?k8 ?k9 ?kB ?kD ?_ ?c2 ?c3 ?c4; (case kA => exact rfl); (case kF => exact rfl); (case kK => first | exact rfl | assumption); (case k1 => k_asm); (case k2 => k_asm); (case k3 => k_asm); (case k4 => k_asm); (case k5 => k_asm); (case k6 => k_is); (case k7 => k_is); (case k8 => ktr_room); (case k9 => first | exact BindsTo.of_eq rfl | exact binds_K (by k_in) rfl (by k_is) rfl rfl rfl); (case kB => exact rfl); (case kD => decide +kernel); (case c2 => exact rfl); (case c3 => exact rfl); (case c4 => exact rfl); k_whole; intro g' L' h' tk' cells' FG' F' N' Y' B' X' T' l1; (try k_lt l1); k_cells Y'; (try simp only [List.cons_append, List.nil_append] at N'); (try dsimp only); (try k_lift B'); (try k_fold)) | (refine' code_def ?k1 ?k2 ?k3 ?k4 ?k5 ?kA ?kF ?kK ?k6 ?k7 ?k8 ?k9 ?kB ?_ ?c2 ?c3 ?c4 ?c5; (case kA => exact rfl); (case kF => exact rfl); (case kK => first | exact rfl | assumption); (case k1 => k_asm); (case k2 => k_asm); (case k3 => k_asm); (case k4 => k_asm); (case k5 => k_asm); (case k6 => k_is); (case k7 => k_is); (case k8 => ktr_room); (case k9 => first | exact BindsTo.of_eq rfl | exact binds_K (by k_in) rfl (by k_is) rfl rfl rfl); (case c5 => decide); (case kB => exact locs rfl); (case c2 => exact rfl); (case c3 => exact rfl); (case c4 => exact rfl); k_whole; intro g' L' h' FG' F' N' B' X' T'; (try dsimp only); (try k_lift B'); (try k_fold)))
  repeat' ((fail_if_success (with_reducible show Hold _)); first | (with_reducible refine Cn.out (by assumption) ?_) | (first | (with_reducible refine Co.ret (by assumption) ?_) | (with_reducible refine Co.brk (by assumption) ?_) | (with_reducible refine Co.cont (by assumption) ?_) | (with_reducible refine Cnt.out (by assumption) ?_; (try dsimp only))) | (k_unfold; (try dsimp only)) | ((with_reducible show wpAny _ _ (execs _ _) _ _ _); (first | ((fail_if_success (with_reducible refine Cn.seen (by first | exact Or.inl (by assumption) | exact Or.inr (by assumption)) ?_)); refine Cnt.gen ?_; intro qk hqk) | (with_reducible refine execs_one ?_))) | (k_dflt (refine' comp_end1 ?F ?N ?off ?h1 ?h2 ?h3 ?hS ?_; (case F => k_asm); (case N => with_reducible assumption); (case off => first | assumption | exact ⟨⟨by k_ne, by k_ne, by k_ne⟩, by assumption⟩); (case h1 => omega); (case h2 => omega); (case h3 => omega); (case hS => k_mem))) | (k_here; k_dflt (refine SrcTu.mk (by rfl) (by k_asm) (by k_asm) (by k_mem) (by exact Nat.le_of_ble_eq_true rfl) ?_; intro g'; lcg_lit)) | ((with_reducible show wpAny _ _ (exec (Stmt.Assign _ (Expr.ListComp _ _ _ _) _) _) _ _ _); (k_here; lcg_calm; k_dflt (refine assign_tup (F₀ := by k_asm) (by rfl) (by with_unfolding_all rfl) (by decide) (by rfl) (by decide) (by rfl) (by rfl) (by rfl) ?_))) | (k_here; (with_reducible show wpAny _ _ (subscriptTail _ (PySem.Expr.Slice _ _ none _) (Value.ref _) (Value.ref _)) _ _ _); k_dflt (first | (refine' slice_tup_from (a := 2) ?F ?N ?l ?hz ?h1 ?h2 ?h3 ?e ?_ ?s ?t; (case F => k_asm); (case N => k_asm); (case l => is_tup); (case hz => exact rfl); (case h1 => decide); (case h2 => exact Nat.le_of_ble_eq_true rfl); (case h3 => exact Nat.le_of_ble_eq_true rfl); (case e => exact rfl); (case s => with_unfolding_all rfl); (case t => kmk_pure)) | (refine' slice_tup_to (b := 4) ?F ?N ?l ?hz ?h2 ?h3 ?e ?_ ?s ?t; (case F => k_asm); (case N => k_asm); (case l => is_tup); (case hz => exact rfl); (case h2 => exact Nat.le_of_ble_eq_true rfl); (case h3 => exact Nat.le_of_ble_eq_true rfl); (case e => exact rfl); (case s => with_unfolding_all rfl); (case t => kmk_pure))); intro D' h' F' N' l1; (try k_lt l1); (try k_sweep)) | (k_here; (with_reducible show wpAny _ _ (call (Value.ref 221) _ _) _ _ _); k_dflt (refine' law_limbs_C ?k1 ?k2 ?k3 ?k4 ?k5 ?k6 ?k7 ?k71 ?k8 ?k9 ?p1 ?_; (case k1 => k_asm); (case k2 => k_asm); (case k3 => k_asm); (case k4 => k_asm); (case k5 => k_asm); (case k6 => first | exact rfl | assumption); (case p1 => kst_p2); (case k7 => assumption); (case k71 => assumption); (case k8 => ktr_room); (case k9 => ktr_units); k_whole; intro r' h' tk' vs' k' F' N' I' l1; (try k_lt l1); (try k_sweep))) | (k_here; (with_reducible show wpAny _ _ (binaryOp Operator.FloorDiv (Value.int (Nat.cast _) _) (Value.int 2 _)) _ _ _); k_dflt (refine' floordiv_two ?_; k_whole)) | (k_here; (with_reducible show wpAny _ _ (call (Value.ref 95) _ _) _ _ _); k_dflt (refine' low_C ?k1 ?k2 ?k3 ?k4 ?k5 ?k6 ?k7 ?k71 ?k8 ?k9 ?m1 ?i1 ?p1 ?p2 ?_; (case k1 => k_asm); (case k2 => k_asm); (case k3 => k_asm); (case k4 => k_asm); (case k5 => k_asm); (case k6 => first | exact rfl | assumption); (case m1 => k_mem); (case i1 => l_ints); (case p1 => kst_p2); (case p2 => kst_p2); (case k7 => assumption); (case k71 => assumption); (case k8 => ktr_room); (case k9 => ktr_units); k_whole; intro r' h' tk' vs' k' F' N' I' l1; (try k_lt l1); (try k_sweep))) | (k_here; (with_reducible show wpAny _ _ (binaryOp Operator.Mod (Value.int (Nat.cast _) _) (Value.int (Nat.cast _) _)) _ _ _); k_dflt (refine' mod_nat ?a ?_; (case a => omega); k_whole)) | (k_here; (with_reducible show wpAny _ _ (binaryOp Operator.FloorDiv (Value.int (Nat.cast _) _) (Value.int (Nat.cast _) _)) _ _ _); k_dflt (refine' floordiv_nat ?a ?b ?_; (case a => omega); (case b => omega); k_whole)) | (k_here; (with_reducible show wpAny _ _ (binaryOp Operator.Mult (Value.ref _) (Value.int _ _)) _ _ _); k_dflt (refine' zeros_C ?F ?N ?l ?a ?b ?_; (case F => k_asm); (case N => k_asm); (case l => k_mem); (case a => first | exact Int.natCast_nonneg _ | omega); (case b => omega); k_whole); intro r' h' vs' F' N' I' l1; (try k_lt l1); (try k_sweep)) | ((with_reducible show wpAny _ _ (call (Value.ref _) _ _) _ _ _); (k_here; k_dflt (first   | (refine' call_cls ?k1 ?k2 ?k3 ?k4 ?k5 ?k6 ?_; (case k1 => k_asm); (case k2 => k_asm); (case k3 => k_asm); (case k4 => k_is); (case k5 => k_is); (case k6 => k_is); k_whole; intro x' d' h' F' N' l1 l2; (try k_lt l1); (try k_lt2 l2); (try k_sweep); (first | (refine' code_defC ?k1 ?k2 ?k3 ?k4 ?k5 ?kA ?kF ?kK ?k6 ?k7 ?k8 ?k9 ?kB ?kD ?_ ?c2 ?c3 ?c4; (case kA => exact rfl); (case kF => exact rfl); (case kK => first | exact rfl | assumption); (case k1 => k_asm); (case k2 => k_asm); (case k3 => k_asm); (case k4 => k_asm); (case k5 => k_asm); (case k6 => k_is); (case k7 => k_is); (case k8 => ktr_room); (case k9 => first | exact BindsTo.of_eq rfl | exact binds_K (by k_in) rfl (by k_is) rfl rfl rfl); (case kB => exact rfl); (case kD => decide +kernel); (case c2 => exact rfl); (case c3 => exact rfl); (case c4 => exact rfl); k_whole; intro g' L' h' tk' cells' FG' F' N' Y' B' X' T' l1; (try k_lt l1); k_cells Y'; (try simp only [List.cons_append, List.nil_append] at N'); (try dsimp only); (try k_lift B'); (try k_fold)) | (refine' code_def ?k1 ?k2 ?k3 ?k4 ?k5 ?kA ?kF ?kK ?k6 ?k7 ?k8 ?k9 ?kB ?_ ?c2 ?c3 ?c4 ?c5; (case kA => exact rfl); (case kF => exact rfl); (case kK => first | exact rfl | assumption); (case k1 => k_asm); (case k2 => k_asm); (case k3 => k_asm); (case k4 => k_asm); (case k5 => k_asm); (case k6 => k_is); (case k7 => k_is); (case k8 => ktr_room); (case k9 => first | exact BindsTo.of_eq rfl | exact binds_K (by k_in) rfl (by k_is) rfl rfl rfl); (case c5 => decide); (case kB => exact locs rfl); (case c2 => exact rfl); (case c3 => exact rfl); (case c4 => exact rfl); k_whole; intro g' L' h' FG' F' N' B' X' T'; (try dsimp only); (try k_lift B'); (try k_fold))))   | (refine wpAny_call ?_; (first | (refine' code_defC ?k1 ?k2 ?k3 ?k4 ?k5 ?kA ?kF ?kK ?k6 ?k7 ?k8 ?k9 ?kB ?kD ?_ ?c2 ?c3 ?c4; (case kA => exact rfl); (case kF => exact rfl); (case kK => first | exact rfl | assumption); (case k1 => k_asm); (case k2 => k_asm); (case k3 => k_asm); (case k4 => k_asm); (case k5 => k_asm); (case k6 => k_is); (case k7 => k_is); (case k8 => ktr_room); (case k9 => first | exact BindsTo.of_eq rfl | exact binds_K (by k_in) rfl (by k_is) rfl rfl rfl); (case kB => exact rfl); (case kD => decide +kernel); (case c2 => exact rfl); (case c3 => exact rfl); (case c4 => exact rfl); k_whole; intro g' L' h' tk' cells' FG' F' N' Y' B' X' T' l1; (try k_lt l1); k_cells Y'; (try simp only [List.cons_append, List.nil_append] at N'); (try dsimp only); (try k_lift B'); (try k_fold)) | (refine' code_def ?k1 ?k2 ?k3 ?k4 ?k5 ?kA ?kF ?kK ?k6 ?k7 ?k8 ?k9 ?kB ?_ ?c2 ?c3 ?c4 ?c5; (case kA => exact rfl); (case kF => exact rfl); (case kK => first | exact rfl | assumption); (case k1 => k_asm); (case k2 => k_asm); (case k3 => k_asm); (case k4 => k_asm); (case k5 => k_asm); (case k6 => k_is); (case k7 => k_is); (case k8 => ktr_room); (case k9 => first | exact BindsTo.of_eq rfl | exact binds_K (by k_in) rfl (by k_is) rfl rfl rfl); (case c5 => decide); (case kB => exact locs rfl); (case c2 => exact rfl); (case c3 => exact rfl); (case c4 => exact rfl); k_whole; intro g' L' h' FG' F' N' B' X' T'; (try dsimp only); (try k_lift B'); (try k_fold))))))) | ((with_reducible show wpAny _ _ (exec (Stmt.While _ _ _ _) _) _ _ _); refine Hold.intro ?_) | (first | with_reducible refine TurnEnd.ret ?_ | with_reducible refine TurnEnd.brk ?_) | ((with_reducible show wpAny _ _ (pyIter _) _ _ _); refine Hold.intro ?_) | (k_end; wrow_close) | walk1 | (dsimp only; walk1) | (leave1; try dsimp only))
  rename Fr h₀ L _ m => F6
  rename News h₀ L _ _ => N6
  exact ret _ _ _ _ _ _ [(_, _)] _ _ F6 (news_begun2 N6) (SrcIs.lag List.mem_cons_self hri) (fresh1 (by ktr_rel) (by ktr_rel) (by omega) (by omega))
/-- begun anew from what was told -/
theorem begun_C {x : Addr} {c : Src} {W : Nat} {tw : Tok} (hW : 0 < W) (hW2 : W ≤ 6) (hd1 : dp + 30 < recursionLimit) (hu : un + 120 < cLine)
    (hok : c.ok W) (hx : TellIs news x c)
    (ret : ∀ x dx D ls svs k3 nw h' tk', Fr h₀ L h' m → News h₀ L h' ((dx, D) :: (ls, lst svs k3) :: (nw ++ news)) → SrcIs w W nw x dx D ls svs c → FreshSrc nw dx ls news → Q (.ref x) { s with heap := h', toks := tk' }) :
    wpAny (model Challenge.rw_sj0076_01.row.prog w) (ktrTop dp un gd cn cs L a ccd cl outer) (call (.ref 231) [.ref x, .int W tw]) Q E s := by
  cases hx with
  | cong h =>
    refine hide fun G9 hG9 => ?_
    obtain ⟨h1, h2, h3, h4, h5⟩ := hok
    refine hG9 ?_
    clear hG9 G9
    exact begun_state_C B F X N T hk hW hW2 hd1 hu h1 h2 h5 h3 h4 h ret
  | lag h h2 hi =>
    refine hide fun G9 hG9 => ?_
    obtain ⟨h1, h3, h4, h5⟩ := hok
    refine hG9 ?_
    clear hG9 G9
    exact begun_row_C B F X N T hk hW hW2 hd1 hu h3 h4 h5 h h2 hi ret
end
section
variable {w : World} {mean : ExcName → Option Value} {mg mb : Str → Option Value}
  {dp un : Nat} {gd : Option (List Code)} {cn : Str} {cs : Scope} {a : Addr} {ccd : Value} {cl : List (Str × Addr)} {outer : List Env} {A₀ : Around} {base h₀ : Heap} {L : Addr} {m : Str → Option Value} {news : Led} {s : Shared}
  {Q E : Value → Shared → Prop}
  (B : Below A₀ base outer h₀) (F : Fr h₀ L s.heap m) (X : (hd.heap_39 w.params).In h₀) (N : News h₀ L s.heap news) (T : Top hd.view_39 (looseW hd.view_39 []) mean mg mb h₀) (hk : cs.kind = .function)
include B F X N T hk
omit B F X N T hk in
theorem news_kept1 {h₀ h : Heap} {L : Addr} {a b c : Addr × Obj} {r : Led} (N : News h₀ L h (a :: b :: c :: r)) : News h₀ L h ([a] ++ r) :=
  kst_newsOf N (fun x hx => by
    simp only [List.mem_cons, List.cons_append, List.nil_append] at hx ⊢
    rcases hx with h | h <;> simp [h])
set_option maxHeartbeats 8000000 in
theorem kept_state_C {x y dx ls la lc : Addr} {p q S S0 d : Nat} {W : Nat} {svs : List Value} {k3 : Nat} {tw t0 t1 t2 t3 t4 u1 u2 u3 u4 u5 u6 ud uw : Tok} (hW : 0 < W) (hW2 : W ≤ 6) (hd1 : dp + 30 < recursionLimit) (hu : un + 120 < cLine)
    (hS : S < 2 ^ 5)
    (hx : (x, instObj 126 dx) ∈ news) (hD : (dx, congD w W la lc d ls u1 u2 u3 u4 u5 u6 ud uw) ∈ news) (hls : (ls, lst svs k3) ∈ news) (hsi : IntsAre svs (up (digs W S)))
    (hy : (y, tupO [.str (Str.ofString "state") t0, .int (d : Int) t1, .int (p : Int) t2, .int (q : Int) t3, .int (S0 : Int) t4]) ∈ news)
    (ret : ∀ r nw h' tk', Fr h₀ L h' m → News h₀ L h' (nw ++ news) → TellIs nw r (.cong p q d S) → (∀ p ∈ nw, ∀ q ∈ news, q.1 < p.1) → Q (.ref r) { s with heap := h', toks := tk' }) :
    wpAny (model Challenge.rw_sj0076_01.row.prog w) (ktrTop dp un gd cn cs L a ccd cl outer) (call (.ref 238) [.ref x, .ref y, .int W tw]) Q E s := by
  have hwi : (0 : Int) < (W : Int) := by omega
  have hwi2 : (W : Int) ≤ 6 := by omega
  have hS30 : S < 2 ^ 30 := Nat.lt_of_lt_of_le hS (by decide)
  refine wpAny_call ?_
  k_dflt (first | (refine' code_defC ?k1 ?k2 ?k3 ?k4 ?k5 ?kA ?kF ?kK ?k6 ?k7 ?k8 ?k9 ?kB ?kD ?_ ?c2 ?c3 ?c4; (case kA => exact rfl); (case kF => exact rfl); (case kK => first | exact rfl | assumption); (case k1 => k_asm); (case k2 => k_asm); (case k3 => k_asm); (case k4 => k_asm); (case k5 => k_asm); (case k6 => k_is); (case k7 => k_is); (case k8 => ktr_room); (case k9 => first | exact BindsTo.of_eq rfl | exact binds_K (by k_in) rfl (by k_is) rfl rfl rfl); (case kB => exact rfl); (case kD => decide +kernel); (case c2 => exact rfl); (case c3 => exact rfl); (case c4 => exact rfl); k_whole; intro g' L' h' tk' cells' FG' F' N' Y' B' X' T' l1; (try k_lt l1); k_cells Y'; (try simp only [List.cons_append, List.nil_append] at N'); (try dsimp only); (try k_lift B'); (try k_fold)) | (refine' code_def ?k1 ?k2 ?k3 ?k4 ?k5 ?kA ?kF ?kK ?k6 ?k7 ?k8 ?k9 ?kB ?_ ?c2 ?c3 ?c4 ?c5; (case kA => exact rfl); (case kF => exact rfl); (case kK => first | exact rfl | assumption); (case k1 => k_asm); (case k2 => k_asm); (case k3 => k_asm); (case k4 => k_asm); (case k5 => k_asm); (case k6 => k_is); (case k7 => k_is); (case k8 => ktr_room); (case k9 => first | exact BindsTo.of_eq rfl | exact binds_K (by k_in) rfl (by k_is) rfl rfl rfl); (case c5 => decide); (case kB => exact locs rfl); (case c2 => exact rfl); (case c3 => exact rfl); (case c4 => exact rfl); k_whole; intro g' L' h' FG' F' N' B' X' T'; (try dsimp only); (try k_lift B'); (try k_fold)))
  repeat' ((fail_if_success (with_reducible show Hold _)); first | (with_reducible refine Cn.out (by assumption) ?_) | (first | (with_reducible refine Co.ret (by assumption) ?_) | (with_reducible refine Co.brk (by assumption) ?_) | (with_reducible refine Co.cont (by assumption) ?_) | (with_reducible refine Cnt.out (by assumption) ?_; (try dsimp only))) | (k_unfold; (try dsimp only)) | ((with_reducible show wpAny _ _ (execs _ _) _ _ _); (first | ((fail_if_success (with_reducible refine Cn.seen (by first | exact Or.inl (by assumption) | exact Or.inr (by assumption)) ?_)); refine Cnt.gen ?_; intro qk hqk) | (with_reducible refine execs_one ?_))) | (k_dflt (refine' comp_end1 ?F ?N ?off ?h1 ?h2 ?h3 ?hS ?_; (case F => k_asm); (case N => with_reducible assumption); (case off => first | assumption | exact ⟨⟨by k_ne, by k_ne, by k_ne⟩, by assumption⟩); (case h1 => omega); (case h2 => omega); (case h3 => omega); (case hS => k_mem))) | (k_here; k_dflt (refine SrcTu.mk (by rfl) (by k_asm) (by k_asm) (by k_mem) (by exact Nat.le_of_ble_eq_true rfl) ?_; intro g'; lcg_lit)) | ((with_reducible show wpAny _ _ (exec (Stmt.Assign _ (Expr.ListComp _ _ _ _) _) _) _ _ _); (k_here; lcg_calm; k_dflt (refine assign_tup (F₀ := by k_asm) (by rfl) (by with_unfolding_all rfl) (by decide) (by rfl) (by decide) (by rfl) (by rfl) (by rfl) ?_))) | (k_here; (with_reducible show wpAny _ _ (subscriptTail _ (PySem.Expr.Slice _ _ none _) (Value.ref _) (Value.ref _)) _ _ _); k_dflt (first | (refine' slice_tup_from (a := 2) ?F ?N ?l ?hz ?h1 ?h2 ?h3 ?e ?_ ?s ?t; (case F => k_asm); (case N => k_asm); (case l => is_tup); (case hz => exact rfl); (case h1 => decide); (case h2 => exact Nat.le_of_ble_eq_true rfl); (case h3 => exact Nat.le_of_ble_eq_true rfl); (case e => exact rfl); (case s => with_unfolding_all rfl); (case t => kmk_pure)) | (refine' slice_tup_to (b := 4) ?F ?N ?l ?hz ?h2 ?h3 ?e ?_ ?s ?t; (case F => k_asm); (case N => k_asm); (case l => is_tup); (case hz => exact rfl); (case h2 => exact Nat.le_of_ble_eq_true rfl); (case h3 => exact Nat.le_of_ble_eq_true rfl); (case e => exact rfl); (case s => with_unfolding_all rfl); (case t => kmk_pure))); intro D' h' F' N' l1; (try k_lt l1); (try k_sweep)) | (k_here; (with_reducible show wpAny _ _ (call (Value.ref 226) _ _) _ _ _); k_dflt (refine' law_number_C ?k1 ?k2 ?k3 ?k4 ?k5 ?k6 ?k7 ?k71 ?k8 ?k9 ?p1 ?m1 ?i1 ?_; (case k1 => k_asm); (case k2 => k_asm); (case k3 => k_asm); (case k4 => k_asm); (case k5 => k_asm); (case k6 => first | exact rfl | assumption); (case m1 => k_mem); (case i1 => l_ints); (case p1 => kst_p2); (case k7 => assumption); (case k71 => assumption); (case k8 => ktr_room); (case k9 => ktr_units); k_whole; intro t' h' tk' F' N'; (try k_sweep))) | (k_here; (with_reducible show wpAny _ _ (binaryOp Operator.FloorDiv (Value.int (Nat.cast _) _) (Value.int 2 _)) _ _ _); k_dflt (refine' floordiv_two ?_; k_whole)) | (k_here; (with_reducible show wpAny _ _ (binaryOp Operator.Mod (Value.int (Nat.cast _) _) (Value.int (Nat.cast _) _)) _ _ _); k_dflt (refine' mod_nat ?a ?_; (case a => omega); k_whole)) | (k_here; (with_reducible show wpAny _ _ (binaryOp Operator.FloorDiv (Value.int (Nat.cast _) _) (Value.int (Nat.cast _) _)) _ _ _); k_dflt (refine' floordiv_nat ?a ?b ?_; (case a => omega); (case b => omega); k_whole)) | (k_here; (with_reducible show wpAny _ _ (binaryOp Operator.Mult (Value.ref _) (Value.int _ _)) _ _ _); k_dflt (refine' zeros_C ?F ?N ?l ?a ?b ?_; (case F => k_asm); (case N => k_asm); (case l => k_mem); (case a => first | exact Int.natCast_nonneg _ | omega); (case b => omega); k_whole); intro r' h' vs' F' N' I' l1; (try k_lt l1); (try k_sweep)) | ((with_reducible show wpAny _ _ (exec (Stmt.While _ _ _ _) _) _ _ _); refine Hold.intro ?_) | (first | with_reducible refine TurnEnd.ret ?_ | with_reducible refine TurnEnd.brk ?_) | ((with_reducible show wpAny _ _ (pyIter _) _ _ _); refine Hold.intro ?_) | (k_end; wrow_close) | walk1 | (dsimp only; walk1) | (leave1; try dsimp only))
  rename Fr h₀ L _ m => F6
  rename News h₀ L _ _ => N6
  exact ret _ [(_, _)] _ _ F6 (news_kept1 N6) (.cong List.mem_cons_self) (lt_cons (by ktr_rel) (fun _ h => nomatch h))
set_option maxHeartbeats 8000000 in
theorem kept_row_C {x y dx lr lr0 : Addr} {pl pl0 : Nat} {row : List Nat} {W : Nat} {rvs : List Value} {k3 : Nat} {tw t0 t1 u1 u2 u3 ud uw : Tok} (hW : 0 < W) (hW2 : W ≤ 6) (hd1 : dp + 30 < recursionLimit) (hu : un + 120 < cLine)
    (hlen : row.length ≤ 6)
    (hx : (x, instObj 154 dx) ∈ news) (hD : (dx, lagD w W lr pl u1 u2 u3 ud uw) ∈ news) (hls : (lr, lst rvs k3) ∈ news) (hri : IntsAre rvs (up row))
    (hy : (y, tupO [.str (Str.ofString "row") t0, .ref lr0, .int (pl0 : Int) t1]) ∈ news)
    (ret : ∀ r nw h' tk', Fr h₀ L h' m → News h₀ L h' (nw ++ news) → TellIs nw r (.lag row pl) → (∀ p ∈ nw, ∀ q ∈ news, q.1 < p.1) → Q (.ref r) { s with heap := h', toks := tk' }) :
    wpAny (model Challenge.rw_sj0076_01.row.prog w) (ktrTop dp un gd cn cs L a ccd cl outer) (call (.ref 238) [.ref x, .ref y, .int W tw]) Q E s := by
  have hwi : (0 : Int) < (W : Int) := by omega
  have hwi2 : (W : Int) ≤ 6 := by omega
  have hvl : rvs.length = row.length := by rw [hri.length, up_length]
  refine wpAny_call ?_
  k_dflt (first | (refine' code_defC ?k1 ?k2 ?k3 ?k4 ?k5 ?kA ?kF ?kK ?k6 ?k7 ?k8 ?k9 ?kB ?kD ?_ ?c2 ?c3 ?c4; (case kA => exact rfl); (case kF => exact rfl); (case kK => first | exact rfl | assumption); (case k1 => k_asm); (case k2 => k_asm); (case k3 => k_asm); (case k4 => k_asm); (case k5 => k_asm); (case k6 => k_is); (case k7 => k_is); (case k8 => ktr_room); (case k9 => first | exact BindsTo.of_eq rfl | exact binds_K (by k_in) rfl (by k_is) rfl rfl rfl); (case kB => exact rfl); (case kD => decide +kernel); (case c2 => exact rfl); (case c3 => exact rfl); (case c4 => exact rfl); k_whole; intro g' L' h' tk' cells' FG' F' N' Y' B' X' T' l1; (try k_lt l1); k_cells Y'; (try simp only [List.cons_append, List.nil_append] at N'); (try dsimp only); (try k_lift B'); (try k_fold)) | (refine' code_def ?k1 ?k2 ?k3 ?k4 ?k5 ?kA ?kF ?kK ?k6 ?k7 ?k8 ?k9 ?kB ?_ ?c2 ?c3 ?c4 ?c5; (case kA => exact rfl); (case kF => exact rfl); (case kK => first | exact rfl | assumption); (case k1 => k_asm); (case k2 => k_asm); (case k3 => k_asm); (case k4 => k_asm); (case k5 => k_asm); (case k6 => k_is); (case k7 => k_is); (case k8 => ktr_room); (case k9 => first | exact BindsTo.of_eq rfl | exact binds_K (by k_in) rfl (by k_is) rfl rfl rfl); (case c5 => decide); (case kB => exact locs rfl); (case c2 => exact rfl); (case c3 => exact rfl); (case c4 => exact rfl); k_whole; intro g' L' h' FG' F' N' B' X' T'; (try dsimp only); (try k_lift B'); (try k_fold)))
  repeat' ((fail_if_success (with_reducible show Hold _)); first | (with_reducible refine Cn.out (by assumption) ?_) | (first | (with_reducible refine Co.ret (by assumption) ?_) | (with_reducible refine Co.brk (by assumption) ?_) | (with_reducible refine Co.cont (by assumption) ?_) | (with_reducible refine Cnt.out (by assumption) ?_; (try dsimp only))) | (k_unfold; (try dsimp only)) | ((with_reducible show wpAny _ _ (execs _ _) _ _ _); (first | ((fail_if_success (with_reducible refine Cn.seen (by first | exact Or.inl (by assumption) | exact Or.inr (by assumption)) ?_)); refine Cnt.gen ?_; intro qk hqk) | (with_reducible refine execs_one ?_))) | (k_dflt (refine' comp_end1 ?F ?N ?off ?h1 ?h2 ?h3 ?hS ?_; (case F => k_asm); (case N => with_reducible assumption); (case off => first | assumption | exact ⟨⟨by k_ne, by k_ne, by k_ne⟩, by assumption⟩); (case h1 => omega); (case h2 => omega); (case h3 => omega); (case hS => k_mem))) | (k_here; k_dflt (refine SrcTu.mk (by rfl) (by k_asm) (by k_asm) (by k_mem) (by exact Nat.le_of_ble_eq_true rfl) ?_; intro g'; lcg_lit)) | ((with_reducible show wpAny _ _ (exec (Stmt.Assign _ (Expr.ListComp _ _ _ _) _) _) _ _ _); (k_here; lcg_calm; k_dflt (refine assign_tup (F₀ := by k_asm) (by rfl) (by with_unfolding_all rfl) (by decide) (by rfl) (by decide) (by rfl) (by rfl) (by rfl) ?_))) | (k_here; (with_reducible show wpAny _ _ (subscriptTail _ (PySem.Expr.Slice _ _ none _) (Value.ref _) (Value.ref _)) _ _ _); k_dflt (first | (refine' slice_tup_from (a := 2) ?F ?N ?l ?hz ?h1 ?h2 ?h3 ?e ?_ ?s ?t; (case F => k_asm); (case N => k_asm); (case l => is_tup); (case hz => exact rfl); (case h1 => decide); (case h2 => exact Nat.le_of_ble_eq_true rfl); (case h3 => exact Nat.le_of_ble_eq_true rfl); (case e => exact rfl); (case s => with_unfolding_all rfl); (case t => kmk_pure)) | (refine' slice_tup_to (b := 4) ?F ?N ?l ?hz ?h2 ?h3 ?e ?_ ?s ?t; (case F => k_asm); (case N => k_asm); (case l => is_tup); (case hz => exact rfl); (case h2 => exact Nat.le_of_ble_eq_true rfl); (case h3 => exact Nat.le_of_ble_eq_true rfl); (case e => exact rfl); (case s => with_unfolding_all rfl); (case t => kmk_pure))); intro D' h' F' N' l1; (try k_lt l1); (try k_sweep)) | (k_here; (with_reducible show wpAny _ _ (call (Value.ref 226) _ _) _ _ _); k_dflt (refine' law_number_C ?k1 ?k2 ?k3 ?k4 ?k5 ?k6 ?k7 ?k71 ?k8 ?k9 ?p1 ?m1 ?i1 ?_; (case k1 => k_asm); (case k2 => k_asm); (case k3 => k_asm); (case k4 => k_asm); (case k5 => k_asm); (case k6 => first | exact rfl | assumption); (case m1 => k_mem); (case i1 => l_ints); (case p1 => kst_p2); (case k7 => assumption); (case k71 => assumption); (case k8 => ktr_room); (case k9 => ktr_units); k_whole; intro t' h' tk' F' N'; (try k_sweep))) | (k_here; (with_reducible show wpAny _ _ (binaryOp Operator.FloorDiv (Value.int (Nat.cast _) _) (Value.int 2 _)) _ _ _); k_dflt (refine' floordiv_two ?_; k_whole)) | (k_here; (with_reducible show wpAny _ _ (binaryOp Operator.Mod (Value.int (Nat.cast _) _) (Value.int (Nat.cast _) _)) _ _ _); k_dflt (refine' mod_nat ?a ?_; (case a => omega); k_whole)) | (k_here; (with_reducible show wpAny _ _ (binaryOp Operator.FloorDiv (Value.int (Nat.cast _) _) (Value.int (Nat.cast _) _)) _ _ _); k_dflt (refine' floordiv_nat ?a ?b ?_; (case a => omega); (case b => omega); k_whole)) | (k_here; (with_reducible show wpAny _ _ (binaryOp Operator.Mult (Value.ref _) (Value.int _ _)) _ _ _); k_dflt (refine' zeros_C ?F ?N ?l ?a ?b ?_; (case F => k_asm); (case N => k_asm); (case l => k_mem); (case a => first | exact Int.natCast_nonneg _ | omega); (case b => omega); k_whole); intro r' h' vs' F' N' I' l1; (try k_lt l1); (try k_sweep)) | ((with_reducible show wpAny _ _ (exec (Stmt.While _ _ _ _) _) _ _ _); refine Hold.intro ?_) | (first | with_reducible refine TurnEnd.ret ?_ | with_reducible refine TurnEnd.brk ?_) | ((with_reducible show wpAny _ _ (pyIter _) _ _ _); refine Hold.intro ?_) | (k_end; wrow_close) | walk1 | (dsimp only; walk1) | (leave1; try dsimp only))
  rename Fr h₀ L _ m => F6
  rename News h₀ L _ _ => N6
  exact ret _ [(_, _), (_, _)] _ _ F6 N6 (.lag List.mem_cons_self mem1 hri) (lt_cons (by ktr_rel) (lt_cons (by ktr_rel) (fun _ h => nomatch h)))
noncomputable def Src.kin : Src → Src → Prop
  | .cong p q d _, .cong p' q' d' _ => p = p' ∧ q = q' ∧ d = d'
  | .lag _ _, .lag _ _ => True
  | _, _ => False
theorem kept_C {x y dx ls : Addr} {D : Obj} {svs : List Value} {c c0 : Src} {k3 : Nat} {W : Nat} {tw : Tok} (hW : 0 < W) (hW2 : W ≤ 6) (hd1 : dp + 30 < recursionLimit) (hu : un + 120 < cLine)
    (hok : c.ok W) {n2 : Led} (hsub : ∀ p ∈ n2, p ∈ news) (hsrc : SrcIs w W n2 x dx D ls svs c) (hD : (dx, D) ∈ news) (hls : (ls, lst svs k3) ∈ news)
    (hy : TellIs news y c0) (hkin : c0.kin c)
    (ret : ∀ r nw h' tk', Fr h₀ L h' m → News h₀ L h' (nw ++ news) → TellIs nw r c → (∀ p ∈ nw, ∀ q ∈ news, q.1 < p.1) → Q (.ref r) { s with heap := h', toks := tk' }) :
    wpAny (model Challenge.rw_sj0076_01.row.prog w) (ktrTop dp un gd cn cs L a ccd cl outer) (call (.ref 238) [.ref x, .ref y, .int W tw]) Q E s := by
  cases hsrc with
  | cong hx ha hai hc hci hsi =>
    refine hide fun G9 hG9 => ?_
    obtain ⟨h1, h2, h3, h4, h5⟩ := hok
    refine hG9 ?_
    clear hG9 G9
    cases hy with
    | cong h =>
      obtain ⟨rfl, rfl, rfl⟩ := hkin
      exact kept_state_C B F X N T hk hW hW2 hd1 hu (Nat.lt_of_lt_of_le h5 (Nat.pow_le_pow_right (by decide) h4)) (hsub _ hx) hD hls hsi h ret
    | lag h h2 hi => exact hkin.elim
  | lag hx hri =>
    refine hide fun G9 hG9 => ?_
    obtain ⟨h1, h3, h4, h5⟩ := hok
    refine hG9 ?_
    clear hG9 G9
    cases hy with
    | cong h => exact hkin.elim
    | lag h h2 hi => exact kept_row_C B F X N T hk hW hW2 hd1 hu h5 (hsub _ hx) hD hls hri h ret
end
end
section
variable {w : World} {mean : ExcName → Option Value} {mg mb : Str → Option Value}
  {dp un : Nat} {gd : Option (List Code)} {cn : Str} {cs : Scope} {a : Addr} {ccd : Value} {cl : List (Str × Addr)} {outer : List Env} {A₀ : Around} {base h₀ : Heap} {L : Addr} {m : Str → Option Value} {news : Led} {s : Shared}
  {Q E : Value → Shared → Prop}
  (B : Below A₀ base outer h₀) (F : Fr h₀ L s.heap m) (X : (hd.heap_39 w.params).In h₀) (N : News h₀ L s.heap news) (T : Top hd.view_39 (looseW hd.view_39 []) mean mg mb h₀) (hk : cs.kind = .function)
include B F X N T hk
omit B F X N T hk in
theorem fmod_of (x : Int) {z : Int} (hz : 0 < z) : ∃ v : Nat, x.fmod z = (v : Int) ∧ (v : Int) < z := by
  have h1 := Int.fmod_nonneg_of_pos x hz
  have h2 := Int.fmod_lt_of_pos x hz
  exact ⟨(x.fmod z).toNat, by omega, by omega⟩
set_option maxHeartbeats 4000000 in
omit N in
theorem poured_C {x lc : Addr} {k : Int} {tk0 tz : Tok} {n1 n2 : Nat} {vs : List Value} {ns : List Int} {z : Int} (hd1 : dp + 5 < recursionLimit) (hu : un + 30 < cLine)
    (hk0 : 0 ≤ k) (hk1 : k ≤ 1000) (hz0 : 0 < z) (hz1 : z ≤ 1000) (hlc : (lc, lst vs n2) ∈ news) (hi : IntsAre vs ns) (hx : ∀ p ∈ news, p.1 ≠ x) (hlen : ns.length ≤ 100)
    (N : News h₀ L s.heap ((x, lst [.int k tk0, .ref lc] n1) :: news))
    (ret : ∀ (v : Nat) t t1 h' tk', (v : Int) < z → Fr h₀ L h' m → News h₀ L h' ((x, lst [.int (k + 1) t1, .ref lc] n1) :: news) → Q (.int (v : Int) t) { s with heap := h', toks := tk' }) :
    wpAny (model Challenge.rw_sj0076_01.row.prog w) (ktrTop dp un gd cn cs L a ccd cl outer) (call (.ref 214) [.ref x, .int z tz]) Q E s := by
  refine wpAny_call ?_
  k_dflt (first | (refine' code_defC ?k1 ?k2 ?k3 ?k4 ?k5 ?kA ?kF ?kK ?k6 ?k7 ?k8 ?k9 ?kB ?kD ?_ ?c2 ?c3 ?c4; (case kA => exact rfl); (case kF => exact rfl); (case kK => first | exact rfl | assumption); (case k1 => k_asm); (case k2 => k_asm); (case k3 => k_asm); (case k4 => k_asm); (case k5 => k_asm); (case k6 => k_is); (case k7 => k_is); (case k8 => ktr_room); (case k9 => first | exact BindsTo.of_eq rfl | exact binds_K (by k_in) rfl (by k_is) rfl rfl rfl); (case kB => exact rfl); (case kD => decide +kernel); (case c2 => exact rfl); (case c3 => exact rfl); (case c4 => exact rfl); k_whole; intro g' L' h' tk' cells' FG' F' N' Y' B' X' T' l1; (try k_lt l1); k_cells Y'; (try simp only [List.cons_append, List.nil_append] at N'); (try dsimp only); (try k_lift B'); (try k_fold)) | (refine' code_def ?k1 ?k2 ?k3 ?k4 ?k5 ?kA ?kF ?kK ?k6 ?k7 ?k8 ?k9 ?kB ?_ ?c2 ?c3 ?c4 ?c5; (case kA => exact rfl); (case kF => exact rfl); (case kK => first | exact rfl | assumption); (case k1 => k_asm); (case k2 => k_asm); (case k3 => k_asm); (case k4 => k_asm); (case k5 => k_asm); (case k6 => k_is); (case k7 => k_is); (case k8 => ktr_room); (case k9 => first | exact BindsTo.of_eq rfl | exact binds_K (by k_in) rfl (by k_is) rfl rfl rfl); (case c5 => decide); (case kB => exact locs rfl); (case c2 => exact rfl); (case c3 => exact rfl); (case c4 => exact rfl); k_whole; intro g' L' h' FG' F' N' B' X' T'; (try dsimp only); (try k_lift B'); (try k_fold)))
  repeat' ((fail_if_success (with_reducible show Hold _)); first | (with_reducible refine Cn.out (by assumption) ?_) | (first | (with_reducible refine Co.ret (by assumption) ?_) | (with_reducible refine Co.brk (by assumption) ?_) | (with_reducible refine Co.cont (by assumption) ?_) | (with_reducible refine Cnt.out (by assumption) ?_; (try dsimp only))) | (k_unfold; (try dsimp only)) | ((with_reducible show wpAny _ _ (execs _ _) _ _ _); (first | ((fail_if_success (with_reducible refine Cn.seen (by first | exact Or.inl (by assumption) | exact Or.inr (by assumption)) ?_)); refine Cnt.gen ?_; intro qk hqk) | (with_reducible refine execs_one ?_) | (with_reducible refine execs_cnt ?_; intro qk hqn hqo))) | ((with_reducible show wpAny _ _ (exec (Stmt.While _ _ _ _) _) _ _ _); refine Hold.intro ?_) | (first | with_reducible refine TurnEnd.ret ?_ | with_reducible refine TurnEnd.brk ?_) | ((with_reducible show wpAny _ _ (pyIter _) _ _ _); refine Hold.intro ?_) | (k_end; wrow_close) | walk1 | (dsimp only; walk1) | (leave1; try dsimp only))
  · rename Fr h₀ L _ m => F3
    rename News h₀ L _ _ => N3
    refine hide fun G9 hG9 => ?_
    obtain ⟨v, e, hv⟩ := fmod_of ((ns.getD (k + 1 - 1).toNat 0)) hz0
    refine hG9 ?_
    clear hG9 G9
    rw [e]
    exact ret v _ _ _ _ hv F3 N3
  · rename Fr h₀ L _ m => F3
    rename News h₀ L _ _ => N3
    refine hide fun G9 hG9 => ?_
    obtain ⟨v, e, hv⟩ := fmod_of (11 * (k + 1) + (k + 1).fdiv 2 + 6) hz0
    refine hG9 ?_
    clear hG9 G9
    rw [e]
    exact ret v _ _ _ _ hv F3 N3
omit B F X N T hk in
theorem news_can1 {h₀ h : Heap} {L : Addr} {p q : Addr × Obj} {r : Led} (N : News h₀ L h (p :: q :: r)) : News h₀ L h (q :: p :: r) :=
  kst_newsOf N (fun x hx => by
    simp only [List.mem_cons] at hx ⊢
    rcases hx with h | h | h <;> simp [h])
omit B F X N T hk in
theorem news_can2 {h₀ h : Heap} {L : Addr} {p q q2 : Addr × Obj} {r : Led} (N : News h₀ L h (p :: q :: q2 :: r)) : News h₀ L h (q2 :: p :: q :: r) :=
  kst_newsOf N (fun x hx => by
    simp only [List.mem_cons] at hx ⊢
    rcases hx with h | h | h | h <;> simp [h])
end
section
variable {w : World} {mean : ExcName → Option Value} {mg mb : Str → Option Value}
  {dp un : Nat} {gd : Option (List Code)} {cn : Str} {cs : Scope} {a : Addr} {ccd : Value} {cl : List (Str × Addr)} {outer : List Env} {A₀ : Around} {base h₀ : Heap} {L : Addr} {m : Str → Option Value} {news : Led} {s : Shared}
  {Q E : Value → Shared → Prop}
  (B : Below A₀ base outer h₀) (F : Fr h₀ L s.heap m) (X : (hd.heap_39 w.params).In h₀) (N : News h₀ L s.heap news) (T : Top hd.view_39 (looseW hd.view_39 []) mean mg mb h₀) (hk : cs.kind = .function)
include B F X N T hk
structure FreshAns (nw : Led) (dx ls : Addr) (news : Led) : Prop where
  n1 : ∀ p ∈ nw, p.1 ≠ dx
  n2 : ∀ p ∈ nw, p.1 ≠ ls
  n3 : ls ≠ dx
  f2 : ∀ q ∈ news, q.1 ≠ ls
  f3 : ∀ p ∈ nw, ∀ q ∈ news, q.1 < p.1
omit B F X N T hk in
theorem tl_all {d : Addr} {p : Addr × Obj} {news : Led} (h : ∀ q ∈ p :: news, q.1 ≠ d) : ∀ q ∈ news, q.1 ≠ d := fun q hq => h q (List.mem_cons_of_mem _ hq)
omit B F X N T hk in
theorem news_x2 {h₀ h : Heap} {L : Addr} {a b c d : Addr × Obj} {r : Led} (N : News h₀ L h (a :: b :: c :: d :: r)) : News h₀ L h (b :: c :: r) :=
  kst_newsOf N (fun x hx => by
    simp only [List.mem_cons] at hx ⊢
    rcases hx with h | h | h <;> simp [h])
omit B F X N T hk in
theorem news_x4 {h₀ h : Heap} {L : Addr} {a b c d : Addr × Obj} {r : Led} (N : News h₀ L h (a :: b :: c :: d :: r)) : News h₀ L h (b :: c :: ([a] ++ r)) :=
  kst_newsOf N (fun x hx => by
    simp only [List.mem_cons, List.cons_append, List.nil_append] at hx ⊢
    rcases hx with h | h | h | h <;> simp [h])
omit B F X N T hk in
theorem news_x0 {h₀ h : Heap} {L : Addr} {a b c d : Addr × Obj} {r : Led} (N : News h₀ L h (a :: b :: c :: d :: r)) : News h₀ L h (c :: d :: ([a, b] ++ r)) :=
  kst_newsOf N (fun x hx => by
    simp only [List.mem_cons, List.cons_append, List.nil_append] at hx ⊢
    rcases hx with h | h | h | h | h <;> simp [h])
omit B F X N T hk in
theorem fresh_one {r dx ls : Addr} {o : Obj} {news : Led} (h1 : ls ≠ dx) (h2 : ∀ q ∈ news, q.1 ≠ ls) (h3 : r ≠ dx) (h4 : r ≠ ls) (h5 : ∀ q ∈ news, q.1 < r) : FreshAns [(r, o)] dx ls news :=
  ⟨all_cons h3 (fun _ h => nomatch h), all_cons h4 (fun _ h => nomatch h), h1, h2, lt_cons h5 (fun _ h => nomatch h)⟩
omit B F X N T hk in
theorem fresh_two {r pr dx ls : Addr} {o p : Obj} {news : Led} (h1 : @LT.lt Nat _ dx ls ∧ AllLt ls news) (h2 : @LT.lt Nat _ dx pr ∧ @LT.lt Nat _ ls pr ∧ AllLt pr news) (h3 : @LT.lt Nat _ pr r ∧ @LT.lt Nat _ dx r ∧ @LT.lt Nat _ ls r ∧ AllLt r news) : FreshAns [(r, o), (pr, p)] dx ls news :=
  ⟨all_cons (Nat.ne_of_gt h3.2.1) (all_cons (Nat.ne_of_gt h2.1) (fun _ h => nomatch h)), all_cons (Nat.ne_of_gt h3.2.2.1) (all_cons (Nat.ne_of_gt h2.2.1) (fun _ h => nomatch h)), Nat.ne_of_gt h1.1, ne_of_all h1.2, lt_cons (kst_ltOf h3.2.2.2) (lt_cons (kst_ltOf h2.2.2) (fun _ h => nomatch h))⟩
noncomputable def taken (W : Nat) (c : Src) (f g : Nat) : Src × Ans :=
  if f = 0 then (c.next W, .part (c.part W) (c.many W))
  else if f = 1 then ((rbits W g c).1, .num (rbits W g c).2)
  else if f = 2 ∨ f = 3 then ((rbelow W g c).1, .num (rbelow W g c).2)
  else if f = 4 then ((rbelow W 2 c).1, .swap (decide ((rbelow W 2 c).2 = 0)))
  else (c, .none)
omit B F X N T hk in
theorem fresh_nil {dx ls : Addr} {news : Led} (h1 : ls ≠ dx) (h2 : ∀ q ∈ news, q.1 ≠ ls) : FreshAns [] dx ls news := ⟨(fun _ h => nomatch h), (fun _ h => nomatch h), h1, h2, (fun _ h => nomatch h)⟩
omit N in
set_option maxHeartbeats 8000000 in
theorem taken1_C {x y dx ls : Addr} {D : Obj} {svs : List Value} {k3 g : Nat} {c : Src} {W : Nat} {tw u0 u1 : Tok} (hW : 0 < W) (hW2 : W ≤ 6) (hd1 : dp + 40 < recursionLimit) (hu : un + 200 < cLine)
    (hok : c.ok W) {n2 : Led} (hsub : ∀ p ∈ n2, p ∈ news) (hsrc : SrcIs w W n2 x dx D ls svs c) (hy : (y, tupO [.int 1 u0, .int (g : Int) u1]) ∈ news) (hg : g ≤ 12)
    (hdx : ∀ p ∈ news, p.1 ≠ dx) (hls : ∀ p ∈ news, p.1 ≠ ls) (hlx : ls ≠ dx)
    (N : News h₀ L s.heap ((dx, D) :: (ls, lst svs k3) :: news))
    (ret : ∀ v nw D' ls' svs' k3' h' tk', Fr h₀ L h' m → News h₀ L h' ((dx, D') :: (ls', lst svs' k3') :: (nw ++ news)) → SrcIs w W n2 x dx D' ls' svs' (taken W c 1 g).1 → AnsIs W nw v (taken W c 1 g).2 → FreshAns nw dx ls' news → Q v { s with heap := h', toks := tk' }) :
    wpAny (model Challenge.rw_sj0076_01.row.prog w) (ktrTop dp un gd cn cs L a ccd cl outer) (call (.ref 245) [.ref x, .ref y, .int W tw]) Q E s := by
  have hwi : (0 : Int) < (W : Int) := by omega
  have hwi2 : (W : Int) ≤ 6 := by omega
  have hg30 : (rbits W g c).2 < 2 ^ 30 := Nat.lt_of_lt_of_le (rbits_lt _ _ _) (Nat.pow_le_pow_right (by decide) (by omega))
  refine wpAny_call ?_
  k_dflt (first | (refine' code_defC ?k1 ?k2 ?k3 ?k4 ?k5 ?kA ?kF ?kK ?k6 ?k7 ?k8 ?k9 ?kB ?kD ?_ ?c2 ?c3 ?c4; (case kA => exact rfl); (case kF => exact rfl); (case kK => first | exact rfl | assumption); (case k1 => k_asm); (case k2 => k_asm); (case k3 => k_asm); (case k4 => k_asm); (case k5 => k_asm); (case k6 => k_is); (case k7 => k_is); (case k8 => ktr_room); (case k9 => first | exact BindsTo.of_eq rfl | exact binds_K (by k_in) rfl (by k_is) rfl rfl rfl); (case kB => exact rfl); (case kD => decide +kernel); (case c2 => exact rfl); (case c3 => exact rfl); (case c4 => exact rfl); k_whole; intro g' L' h' tk' cells' FG' F' N' Y' B' X' T' l1; (try k_lt l1); k_cells Y'; (try simp only [List.cons_append, List.nil_append] at N'); (try dsimp only); (try k_lift B'); (try k_fold)) | (refine' code_def ?k1 ?k2 ?k3 ?k4 ?k5 ?kA ?kF ?kK ?k6 ?k7 ?k8 ?k9 ?kB ?_ ?c2 ?c3 ?c4 ?c5; (case kA => exact rfl); (case kF => exact rfl); (case kK => first | exact rfl | assumption); (case k1 => k_asm); (case k2 => k_asm); (case k3 => k_asm); (case k4 => k_asm); (case k5 => k_asm); (case k6 => k_is); (case k7 => k_is); (case k8 => ktr_room); (case k9 => first | exact BindsTo.of_eq rfl | exact binds_K (by k_in) rfl (by k_is) rfl rfl rfl); (case c5 => decide); (case kB => exact locs rfl); (case c2 => exact rfl); (case c3 => exact rfl); (case c4 => exact rfl); k_whole; intro g' L' h' FG' F' N' B' X' T'; (try dsimp only); (try k_lift B'); (try k_fold)))
  repeat' ((fail_if_success (with_reducible show Hold _)); first | (with_reducible refine Cn.out (by assumption) ?_) | (first | (with_reducible refine Co.ret (by assumption) ?_) | (with_reducible refine Co.brk (by assumption) ?_) | (with_reducible refine Co.cont (by assumption) ?_) | (with_reducible refine Cnt.out (by assumption) ?_; (try dsimp only))) | (k_unfold; (try dsimp only)) | ((with_reducible show wpAny _ _ (execs _ _) _ _ _); (first | ((fail_if_success (with_reducible refine Cn.seen (by first | exact Or.inl (by assumption) | exact Or.inr (by assumption)) ?_)); refine Cnt.gen ?_; intro qk hqk) | (with_reducible refine execs_one ?_))) | (k_here; (with_reducible show wpAny _ _ (call (Value.ref 179) _ _) _ _ _); k_dflt (refine' random_below_C ?k1 ?k2 ?k3 ?k5 ?k6 ?k7 ?k71 ?k8 ?k9 ?o1 ?o2 ?o3 ?p0 ?p1 ?m1 ?i1 ?o5 ?o6 ?o7 ?N ?_; (case o3 => assumption); (case N => first | exact news_hot1 (by with_reducible assumption) | exact news_hot1 (news_tl1 (by with_reducible assumption)) | exact news_hot2 (by with_reducible assumption) | (with_reducible assumption) | exact news_hot1 (by assumption) | assumption); (case o2 => first | exact fun _ h => h | assumption | exact fun p hp => List.mem_cons_of_mem _ ((by assumption : ∀ p ∈ _, p ∈ _) p hp)); (case k1 => k_asm); (case k2 => k_asm); (case k3 => k_asm); (case k5 => k_asm); (case k6 => first | exact rfl | assumption); (case o1 => assumption); (case m1 => k_mem); (case i1 => l_ints); (case p0 => kst_p2); (case p1 => kst_p2); (case o5 => first | assumption | (refine all_cons (by first | k_ne | assumption | (dsimp only; omega)) ?_; first | assumption | (refine all_cons (by first | k_ne | assumption | (dsimp only; omega)) ?_; assumption))); (case o6 => first | assumption | (refine all_cons (by first | k_ne | assumption | (dsimp only; omega)) ?_; first | assumption | (refine all_cons (by first | k_ne | assumption | (dsimp only; omega)) ?_; assumption))); (case o7 => assumption); (case k7 => assumption); (case k71 => assumption); (case k8 => ktr_room); (case k9 => ktr_units); k_whole; intro r' vs' k' D' ls' svs' k3' h' tk' F' N' I' S' z1' z2' l1; (try k_sweep))) | (k_here; (with_reducible show wpAny _ _ (call (Value.ref 172) _ _) _ _ _); k_dflt (refine' random_bits_C ?k1 ?k2 ?k3 ?k5 ?k6 ?k7 ?k71 ?k8 ?k9 ?o1 ?o2 ?o3 ?o4 ?o5 ?o6 ?o7 ?N ?_; (case o3 => assumption); (case N => first | (with_reducible assumption) | exact news_tl1 (by with_reducible assumption) | exact news_tl2 (by with_reducible assumption) | exact news_tl3 (by with_reducible assumption) | exact news_tl4 (by with_reducible assumption) | exact news_tl5 (by with_reducible assumption) | assumption | exact news_tl1 (by assumption)); (case o2 => first | exact fun _ h => h | assumption); (case k1 => k_asm); (case k2 => k_asm); (case k3 => k_asm); (case k5 => k_asm); (case k6 => first | exact rfl | assumption); (case o1 => assumption); (case o4 => kst_p2); (case o5 => k_all); (case o6 => k_all); (case o7 => assumption); (case k7 => assumption); (case k71 => assumption); (case k8 => ktr_room); (case k9 => ktr_units); k_whole; intro r' vs' k' D' ls' svs' k3' h' tk' F' N' I' S' z1' z2' l1; (try k_sweep))) | (k_here; (with_reducible show wpAny _ _ (call (Value.ref 226) _ _) _ _ _); k_dflt (refine' law_number_C ?k1 ?k2 ?k3 ?k4 ?k5 ?k6 ?k7 ?k71 ?k8 ?k9 ?p1 ?m1 ?i1 ?_; (case k1 => k_asm); (case k2 => k_asm); (case k3 => k_asm); (case k4 => k_asm); (case k5 => k_asm); (case k6 => first | exact rfl | assumption); (case m1 => k_mem); (case i1 => l_ints); (case p1 => kst_p2); (case k7 => assumption); (case k71 => assumption); (case k8 => ktr_room); (case k9 => ktr_units); k_whole; intro t' h' tk' F' N'; (try k_sweep))) | (k_here; (with_reducible show wpAny _ _ (call (Value.ref 221) _ _) _ _ _); k_dflt (refine' law_limbs_C ?k1 ?k2 ?k3 ?k4 ?k5 ?k6 ?k7 ?k71 ?k8 ?k9 ?p1 ?_; (case k1 => k_asm); (case k2 => k_asm); (case k3 => k_asm); (case k4 => k_asm); (case k5 => k_asm); (case k6 => first | exact rfl | assumption); (case p1 => kst_p2); (case k7 => assumption); (case k71 => assumption); (case k8 => ktr_room); (case k9 => ktr_units); k_whole; intro r' h' tk' vs' k' F' N' I' l1; (try k_lt l1); (try k_sweep))) | (k_here; (with_reducible show wpAny _ _ (binaryOp Operator.FloorDiv (Value.int (Nat.cast _) _) (Value.int 2 _)) _ _ _); k_dflt (refine' floordiv_two ?_; k_whole)) | (k_here; (with_reducible show wpAny _ _ (binaryOp Operator.Mod (Value.int (Nat.cast _) _) (Value.int (Nat.cast _) _)) _ _ _); k_dflt (refine' mod_nat ?a ?_; (case a => omega); k_whole)) | (k_here; (with_reducible show wpAny _ _ (binaryOp Operator.FloorDiv (Value.int (Nat.cast _) _) (Value.int (Nat.cast _) _)) _ _ _); k_dflt (refine' floordiv_nat ?a ?b ?_; (case a => omega); (case b => omega); k_whole)) | (k_here; (with_reducible show wpAny _ _ (binaryOp Operator.Mult (Value.ref _) (Value.int _ _)) _ _ _); k_dflt (refine' zeros_C ?F ?N ?l ?a ?b ?_; (case F => k_asm); (case N => k_asm); (case l => k_mem); (case a => first | exact Int.natCast_nonneg _ | omega); (case b => omega); k_whole); intro r' h' vs' F' N' I' l1; (try k_lt l1); (try k_sweep)) | ((with_reducible show wpAny _ _ (call (Value.ref _) _ _) _ _ _); (k_here; k_dflt (first   | (refine' call_cls ?k1 ?k2 ?k3 ?k4 ?k5 ?k6 ?_; (case k1 => k_asm); (case k2 => k_asm); (case k3 => k_asm); (case k4 => k_is); (case k5 => k_is); (case k6 => k_is); k_whole; intro x' d' h' F' N' l1 l2; (try k_lt l1); (try k_lt2 l2); (try k_sweep); (first | (refine' code_defC ?k1 ?k2 ?k3 ?k4 ?k5 ?kA ?kF ?kK ?k6 ?k7 ?k8 ?k9 ?kB ?kD ?_ ?c2 ?c3 ?c4; (case kA => exact rfl); (case kF => exact rfl); (case kK => first | exact rfl | assumption); (case k1 => k_asm); (case k2 => k_asm); (case k3 => k_asm); (case k4 => k_asm); (case k5 => k_asm); (case k6 => k_is); (case k7 => k_is); (case k8 => ktr_room); (case k9 => first | exact BindsTo.of_eq rfl | exact binds_K (by k_in) rfl (by k_is) rfl rfl rfl); (case kB => exact rfl); (case kD => decide +kernel); (case c2 => exact rfl); (case c3 => exact rfl); (case c4 => exact rfl); k_whole; intro g' L' h' tk' cells' FG' F' N' Y' B' X' T' l1; (try k_lt l1); k_cells Y'; (try simp only [List.cons_append, List.nil_append] at N'); (try dsimp only); (try k_lift B'); (try k_fold)) | (refine' code_def ?k1 ?k2 ?k3 ?k4 ?k5 ?kA ?kF ?kK ?k6 ?k7 ?k8 ?k9 ?kB ?_ ?c2 ?c3 ?c4 ?c5; (case kA => exact rfl); (case kF => exact rfl); (case kK => first | exact rfl | assumption); (case k1 => k_asm); (case k2 => k_asm); (case k3 => k_asm); (case k4 => k_asm); (case k5 => k_asm); (case k6 => k_is); (case k7 => k_is); (case k8 => ktr_room); (case k9 => first | exact BindsTo.of_eq rfl | exact binds_K (by k_in) rfl (by k_is) rfl rfl rfl); (case c5 => decide); (case kB => exact locs rfl); (case c2 => exact rfl); (case c3 => exact rfl); (case c4 => exact rfl); k_whole; intro g' L' h' FG' F' N' B' X' T'; (try dsimp only); (try k_lift B'); (try k_fold))))   | (refine wpAny_call ?_; (first | (refine' code_defC ?k1 ?k2 ?k3 ?k4 ?k5 ?kA ?kF ?kK ?k6 ?k7 ?k8 ?k9 ?kB ?kD ?_ ?c2 ?c3 ?c4; (case kA => exact rfl); (case kF => exact rfl); (case kK => first | exact rfl | assumption); (case k1 => k_asm); (case k2 => k_asm); (case k3 => k_asm); (case k4 => k_asm); (case k5 => k_asm); (case k6 => k_is); (case k7 => k_is); (case k8 => ktr_room); (case k9 => first | exact BindsTo.of_eq rfl | exact binds_K (by k_in) rfl (by k_is) rfl rfl rfl); (case kB => exact rfl); (case kD => decide +kernel); (case c2 => exact rfl); (case c3 => exact rfl); (case c4 => exact rfl); k_whole; intro g' L' h' tk' cells' FG' F' N' Y' B' X' T' l1; (try k_lt l1); k_cells Y'; (try simp only [List.cons_append, List.nil_append] at N'); (try dsimp only); (try k_lift B'); (try k_fold)) | (refine' code_def ?k1 ?k2 ?k3 ?k4 ?k5 ?kA ?kF ?kK ?k6 ?k7 ?k8 ?k9 ?kB ?_ ?c2 ?c3 ?c4 ?c5; (case kA => exact rfl); (case kF => exact rfl); (case kK => first | exact rfl | assumption); (case k1 => k_asm); (case k2 => k_asm); (case k3 => k_asm); (case k4 => k_asm); (case k5 => k_asm); (case k6 => k_is); (case k7 => k_is); (case k8 => ktr_room); (case k9 => first | exact BindsTo.of_eq rfl | exact binds_K (by k_in) rfl (by k_is) rfl rfl rfl); (case c5 => decide); (case kB => exact locs rfl); (case c2 => exact rfl); (case c3 => exact rfl); (case c4 => exact rfl); k_whole; intro g' L' h' FG' F' N' B' X' T'; (try dsimp only); (try k_lift B'); (try k_fold))))))) | ((with_reducible show wpAny _ _ (exec (Stmt.While _ _ _ _) _) _ _ _); refine Hold.intro ?_) | (first | with_reducible refine TurnEnd.ret ?_ | with_reducible refine TurnEnd.brk ?_) | ((with_reducible show wpAny _ _ (pyIter _) _ _ _); refine Hold.intro ?_) | (k_end; wrow_close) | walk1 | (dsimp only; walk1) | (leave1; try dsimp only))
  rename Fr h₀ L _ m => F6
  rename News h₀ L _ _ => N6
  exact ret _ [] _ _ _ _ _ _ F6 (news_tl1 N6) (by assumption) .num (fresh_nil (by assumption) (by assumption))
omit N in
set_option maxHeartbeats 8000000 in
theorem taken2_C {x y dx ls : Addr} {D : Obj} {svs : List Value} {k3 g : Nat} {c : Src} {W : Nat} {tw u0 u1 : Tok} (hW : 0 < W) (hW2 : W ≤ 6) (hd1 : dp + 40 < recursionLimit) (hu : un + 200 < cLine)
    (hok : c.ok W) {n2 : Led} (hsub : ∀ p ∈ n2, p ∈ news) (hsrc : SrcIs w W n2 x dx D ls svs c) (hy : (y, tupO [.int 2 u0, .int (g : Int) u1]) ∈ news) (hg0 : 0 < g) (hg : g ≤ 16)
    (hdx : ∀ p ∈ news, p.1 ≠ dx) (hls : ∀ p ∈ news, p.1 ≠ ls) (hlx : ls ≠ dx)
    (N : News h₀ L s.heap ((dx, D) :: (ls, lst svs k3) :: news))
    (ret : ∀ v nw D' ls' svs' k3' h' tk', Fr h₀ L h' m → News h₀ L h' ((dx, D') :: (ls', lst svs' k3') :: (nw ++ news)) → SrcIs w W n2 x dx D' ls' svs' (taken W c 2 g).1 → AnsIs W nw v (taken W c 2 g).2 → FreshAns nw dx ls' news → Q v { s with heap := h', toks := tk' }) :
    wpAny (model Challenge.rw_sj0076_01.row.prog w) (ktrTop dp un gd cn cs L a ccd cl outer) (call (.ref 245) [.ref x, .ref y, .int W tw]) Q E s := by
  have hwi : (0 : Int) < (W : Int) := by omega
  have hwi2 : (W : Int) ≤ 6 := by omega
  have hg30 : (rbelow W g c).2 < 2 ^ 30 := Nat.lt_of_lt_of_le (rbelow_lt hg0 hg) (Nat.le_trans hg (by decide))
  have hgg : g < 2 ^ 30 := Nat.lt_of_le_of_lt hg (by decide)
  refine wpAny_call ?_
  k_dflt (first | (refine' code_defC ?k1 ?k2 ?k3 ?k4 ?k5 ?kA ?kF ?kK ?k6 ?k7 ?k8 ?k9 ?kB ?kD ?_ ?c2 ?c3 ?c4; (case kA => exact rfl); (case kF => exact rfl); (case kK => first | exact rfl | assumption); (case k1 => k_asm); (case k2 => k_asm); (case k3 => k_asm); (case k4 => k_asm); (case k5 => k_asm); (case k6 => k_is); (case k7 => k_is); (case k8 => ktr_room); (case k9 => first | exact BindsTo.of_eq rfl | exact binds_K (by k_in) rfl (by k_is) rfl rfl rfl); (case kB => exact rfl); (case kD => decide +kernel); (case c2 => exact rfl); (case c3 => exact rfl); (case c4 => exact rfl); k_whole; intro g' L' h' tk' cells' FG' F' N' Y' B' X' T' l1; (try k_lt l1); k_cells Y'; (try simp only [List.cons_append, List.nil_append] at N'); (try dsimp only); (try k_lift B'); (try k_fold)) | (refine' code_def ?k1 ?k2 ?k3 ?k4 ?k5 ?kA ?kF ?kK ?k6 ?k7 ?k8 ?k9 ?kB ?_ ?c2 ?c3 ?c4 ?c5; (case kA => exact rfl); (case kF => exact rfl); (case kK => first | exact rfl | assumption); (case k1 => k_asm); (case k2 => k_asm); (case k3 => k_asm); (case k4 => k_asm); (case k5 => k_asm); (case k6 => k_is); (case k7 => k_is); (case k8 => ktr_room); (case k9 => first | exact BindsTo.of_eq rfl | exact binds_K (by k_in) rfl (by k_is) rfl rfl rfl); (case c5 => decide); (case kB => exact locs rfl); (case c2 => exact rfl); (case c3 => exact rfl); (case c4 => exact rfl); k_whole; intro g' L' h' FG' F' N' B' X' T'; (try dsimp only); (try k_lift B'); (try k_fold)))
  repeat' ((fail_if_success (with_reducible show Hold _)); first | (with_reducible refine Cn.out (by assumption) ?_) | (first | (with_reducible refine Co.ret (by assumption) ?_) | (with_reducible refine Co.brk (by assumption) ?_) | (with_reducible refine Co.cont (by assumption) ?_) | (with_reducible refine Cnt.out (by assumption) ?_; (try dsimp only))) | (k_unfold; (try dsimp only)) | ((with_reducible show wpAny _ _ (execs _ _) _ _ _); (first | ((fail_if_success (with_reducible refine Cn.seen (by first | exact Or.inl (by assumption) | exact Or.inr (by assumption)) ?_)); refine Cnt.gen ?_; intro qk hqk) | (with_reducible refine execs_one ?_))) | (k_here; (with_reducible show wpAny _ _ (call (Value.ref 179) _ _) _ _ _); k_dflt (refine' random_below_C ?k1 ?k2 ?k3 ?k5 ?k6 ?k7 ?k71 ?k8 ?k9 ?o1 ?o2 ?o3 ?p0 ?p1 ?m1 ?i1 ?o5 ?o6 ?o7 ?N ?_; (case o3 => assumption); (case N => first | exact news_hot1 (by with_reducible assumption) | exact news_hot1 (news_tl1 (by with_reducible assumption)) | exact news_hot2 (by with_reducible assumption) | (with_reducible assumption) | exact news_hot1 (by assumption) | assumption); (case o2 => first | exact fun _ h => h | assumption | exact fun p hp => List.mem_cons_of_mem _ ((by assumption : ∀ p ∈ _, p ∈ _) p hp)); (case k1 => k_asm); (case k2 => k_asm); (case k3 => k_asm); (case k5 => k_asm); (case k6 => first | exact rfl | assumption); (case o1 => assumption); (case m1 => k_mem); (case i1 => l_ints); (case p0 => kst_p2); (case p1 => kst_p2); (case o5 => first | assumption | (refine all_cons (by first | k_ne | assumption | (dsimp only; omega)) ?_; first | assumption | (refine all_cons (by first | k_ne | assumption | (dsimp only; omega)) ?_; assumption))); (case o6 => first | assumption | (refine all_cons (by first | k_ne | assumption | (dsimp only; omega)) ?_; first | assumption | (refine all_cons (by first | k_ne | assumption | (dsimp only; omega)) ?_; assumption))); (case o7 => assumption); (case k7 => assumption); (case k71 => assumption); (case k8 => ktr_room); (case k9 => ktr_units); k_whole; intro r' vs' k' D' ls' svs' k3' h' tk' F' N' I' S' z1' z2' l1; (try k_sweep))) | (k_here; (with_reducible show wpAny _ _ (call (Value.ref 172) _ _) _ _ _); k_dflt (refine' random_bits_C ?k1 ?k2 ?k3 ?k5 ?k6 ?k7 ?k71 ?k8 ?k9 ?o1 ?o2 ?o3 ?o4 ?o5 ?o6 ?o7 ?N ?_; (case o3 => assumption); (case N => first | (with_reducible assumption) | exact news_tl1 (by with_reducible assumption) | exact news_tl2 (by with_reducible assumption) | exact news_tl3 (by with_reducible assumption) | exact news_tl4 (by with_reducible assumption) | exact news_tl5 (by with_reducible assumption) | assumption | exact news_tl1 (by assumption)); (case o2 => first | exact fun _ h => h | assumption); (case k1 => k_asm); (case k2 => k_asm); (case k3 => k_asm); (case k5 => k_asm); (case k6 => first | exact rfl | assumption); (case o1 => assumption); (case o4 => kst_p2); (case o5 => k_all); (case o6 => k_all); (case o7 => assumption); (case k7 => assumption); (case k71 => assumption); (case k8 => ktr_room); (case k9 => ktr_units); k_whole; intro r' vs' k' D' ls' svs' k3' h' tk' F' N' I' S' z1' z2' l1; (try k_sweep))) | (k_here; (with_reducible show wpAny _ _ (call (Value.ref 226) _ _) _ _ _); k_dflt (refine' law_number_C ?k1 ?k2 ?k3 ?k4 ?k5 ?k6 ?k7 ?k71 ?k8 ?k9 ?p1 ?m1 ?i1 ?_; (case k1 => k_asm); (case k2 => k_asm); (case k3 => k_asm); (case k4 => k_asm); (case k5 => k_asm); (case k6 => first | exact rfl | assumption); (case m1 => k_mem); (case i1 => l_ints); (case p1 => kst_p2); (case k7 => assumption); (case k71 => assumption); (case k8 => ktr_room); (case k9 => ktr_units); k_whole; intro t' h' tk' F' N'; (try k_sweep))) | (k_here; (with_reducible show wpAny _ _ (call (Value.ref 221) _ _) _ _ _); k_dflt (refine' law_limbs_C ?k1 ?k2 ?k3 ?k4 ?k5 ?k6 ?k7 ?k71 ?k8 ?k9 ?p1 ?_; (case k1 => k_asm); (case k2 => k_asm); (case k3 => k_asm); (case k4 => k_asm); (case k5 => k_asm); (case k6 => first | exact rfl | assumption); (case p1 => kst_p2); (case k7 => assumption); (case k71 => assumption); (case k8 => ktr_room); (case k9 => ktr_units); k_whole; intro r' h' tk' vs' k' F' N' I' l1; (try k_lt l1); (try k_sweep))) | (k_here; (with_reducible show wpAny _ _ (binaryOp Operator.FloorDiv (Value.int (Nat.cast _) _) (Value.int 2 _)) _ _ _); k_dflt (refine' floordiv_two ?_; k_whole)) | (k_here; (with_reducible show wpAny _ _ (binaryOp Operator.Mod (Value.int (Nat.cast _) _) (Value.int (Nat.cast _) _)) _ _ _); k_dflt (refine' mod_nat ?a ?_; (case a => omega); k_whole)) | (k_here; (with_reducible show wpAny _ _ (binaryOp Operator.FloorDiv (Value.int (Nat.cast _) _) (Value.int (Nat.cast _) _)) _ _ _); k_dflt (refine' floordiv_nat ?a ?b ?_; (case a => omega); (case b => omega); k_whole)) | (k_here; (with_reducible show wpAny _ _ (binaryOp Operator.Mult (Value.ref _) (Value.int _ _)) _ _ _); k_dflt (refine' zeros_C ?F ?N ?l ?a ?b ?_; (case F => k_asm); (case N => k_asm); (case l => k_mem); (case a => first | exact Int.natCast_nonneg _ | omega); (case b => omega); k_whole); intro r' h' vs' F' N' I' l1; (try k_lt l1); (try k_sweep)) | ((with_reducible show wpAny _ _ (call (Value.ref _) _ _) _ _ _); (k_here; k_dflt (first   | (refine' call_cls ?k1 ?k2 ?k3 ?k4 ?k5 ?k6 ?_; (case k1 => k_asm); (case k2 => k_asm); (case k3 => k_asm); (case k4 => k_is); (case k5 => k_is); (case k6 => k_is); k_whole; intro x' d' h' F' N' l1 l2; (try k_lt l1); (try k_lt2 l2); (try k_sweep); (first | (refine' code_defC ?k1 ?k2 ?k3 ?k4 ?k5 ?kA ?kF ?kK ?k6 ?k7 ?k8 ?k9 ?kB ?kD ?_ ?c2 ?c3 ?c4; (case kA => exact rfl); (case kF => exact rfl); (case kK => first | exact rfl | assumption); (case k1 => k_asm); (case k2 => k_asm); (case k3 => k_asm); (case k4 => k_asm); (case k5 => k_asm); (case k6 => k_is); (case k7 => k_is); (case k8 => ktr_room); (case k9 => first | exact BindsTo.of_eq rfl | exact binds_K (by k_in) rfl (by k_is) rfl rfl rfl); (case kB => exact rfl); (case kD => decide +kernel); (case c2 => exact rfl); (case c3 => exact rfl); (case c4 => exact rfl); k_whole; intro g' L' h' tk' cells' FG' F' N' Y' B' X' T' l1; (try k_lt l1); k_cells Y'; (try simp only [List.cons_append, List.nil_append] at N'); (try dsimp only); (try k_lift B'); (try k_fold)) | (refine' code_def ?k1 ?k2 ?k3 ?k4 ?k5 ?kA ?kF ?kK ?k6 ?k7 ?k8 ?k9 ?kB ?_ ?c2 ?c3 ?c4 ?c5; (case kA => exact rfl); (case kF => exact rfl); (case kK => first | exact rfl | assumption); (case k1 => k_asm); (case k2 => k_asm); (case k3 => k_asm); (case k4 => k_asm); (case k5 => k_asm); (case k6 => k_is); (case k7 => k_is); (case k8 => ktr_room); (case k9 => first | exact BindsTo.of_eq rfl | exact binds_K (by k_in) rfl (by k_is) rfl rfl rfl); (case c5 => decide); (case kB => exact locs rfl); (case c2 => exact rfl); (case c3 => exact rfl); (case c4 => exact rfl); k_whole; intro g' L' h' FG' F' N' B' X' T'; (try dsimp only); (try k_lift B'); (try k_fold))))   | (refine wpAny_call ?_; (first | (refine' code_defC ?k1 ?k2 ?k3 ?k4 ?k5 ?kA ?kF ?kK ?k6 ?k7 ?k8 ?k9 ?kB ?kD ?_ ?c2 ?c3 ?c4; (case kA => exact rfl); (case kF => exact rfl); (case kK => first | exact rfl | assumption); (case k1 => k_asm); (case k2 => k_asm); (case k3 => k_asm); (case k4 => k_asm); (case k5 => k_asm); (case k6 => k_is); (case k7 => k_is); (case k8 => ktr_room); (case k9 => first | exact BindsTo.of_eq rfl | exact binds_K (by k_in) rfl (by k_is) rfl rfl rfl); (case kB => exact rfl); (case kD => decide +kernel); (case c2 => exact rfl); (case c3 => exact rfl); (case c4 => exact rfl); k_whole; intro g' L' h' tk' cells' FG' F' N' Y' B' X' T' l1; (try k_lt l1); k_cells Y'; (try simp only [List.cons_append, List.nil_append] at N'); (try dsimp only); (try k_lift B'); (try k_fold)) | (refine' code_def ?k1 ?k2 ?k3 ?k4 ?k5 ?kA ?kF ?kK ?k6 ?k7 ?k8 ?k9 ?kB ?_ ?c2 ?c3 ?c4 ?c5; (case kA => exact rfl); (case kF => exact rfl); (case kK => first | exact rfl | assumption); (case k1 => k_asm); (case k2 => k_asm); (case k3 => k_asm); (case k4 => k_asm); (case k5 => k_asm); (case k6 => k_is); (case k7 => k_is); (case k8 => ktr_room); (case k9 => first | exact BindsTo.of_eq rfl | exact binds_K (by k_in) rfl (by k_is) rfl rfl rfl); (case c5 => decide); (case kB => exact locs rfl); (case c2 => exact rfl); (case c3 => exact rfl); (case c4 => exact rfl); k_whole; intro g' L' h' FG' F' N' B' X' T'; (try dsimp only); (try k_lift B'); (try k_fold))))))) | ((with_reducible show wpAny _ _ (exec (Stmt.While _ _ _ _) _) _ _ _); refine Hold.intro ?_) | (first | with_reducible refine TurnEnd.ret ?_ | with_reducible refine TurnEnd.brk ?_) | ((with_reducible show wpAny _ _ (pyIter _) _ _ _); refine Hold.intro ?_) | (k_end; wrow_close) | walk1 | (dsimp only; walk1) | (leave1; try dsimp only))
  rename Fr h₀ L _ m => F6
  rename News h₀ L _ _ => N6
  exact ret _ [] _ _ _ _ _ _ F6 (news_x2 N6) (by assumption) .num (fresh_nil (by assumption) (tl_all (by assumption)))
end
section
variable {w : World} {mean : ExcName → Option Value} {mg mb : Str → Option Value}
  {dp un : Nat} {gd : Option (List Code)} {cn : Str} {cs : Scope} {a : Addr} {ccd : Value} {cl : List (Str × Addr)} {outer : List Env} {A₀ : Around} {base h₀ : Heap} {L : Addr} {m : Str → Option Value} {news : Led} {s : Shared}
  {Q E : Value → Shared → Prop}
  (B : Below A₀ base outer h₀) (F : Fr h₀ L s.heap m) (X : (hd.heap_39 w.params).In h₀) (N : News h₀ L s.heap news) (T : Top hd.view_39 (looseW hd.view_39 []) mean mg mb h₀) (hk : cs.kind = .function)
include B F X N T hk
omit N in
set_option maxHeartbeats 8000000 in
theorem taken3_C {x y dx ls : Addr} {D : Obj} {svs : List Value} {k3 g : Nat} {c : Src} {W : Nat} {tw u0 u1 : Tok} (hW : 0 < W) (hW2 : W ≤ 6) (hd1 : dp + 40 < recursionLimit) (hu : un + 200 < cLine)
    (hok : c.ok W) {n2 : Led} (hsub : ∀ p ∈ n2, p ∈ news) (hsrc : SrcIs w W n2 x dx D ls svs c) (hy : (y, tupO [.int 3 u0, .int (g : Int) u1]) ∈ news) (hg0 : 0 < g) (hg : g ≤ 16)
    (hdx : ∀ p ∈ news, p.1 ≠ dx) (hls : ∀ p ∈ news, p.1 ≠ ls) (hlx : ls ≠ dx)
    (N : News h₀ L s.heap ((dx, D) :: (ls, lst svs k3) :: news))
    (ret : ∀ v nw D' ls' svs' k3' h' tk', Fr h₀ L h' m → News h₀ L h' ((dx, D') :: (ls', lst svs' k3') :: (nw ++ news)) → SrcIs w W n2 x dx D' ls' svs' (taken W c 3 g).1 → AnsIs W nw v (taken W c 3 g).2 → FreshAns nw dx ls' news → Q v { s with heap := h', toks := tk' }) :
    wpAny (model Challenge.rw_sj0076_01.row.prog w) (ktrTop dp un gd cn cs L a ccd cl outer) (call (.ref 245) [.ref x, .ref y, .int W tw]) Q E s := by
  have hwi : (0 : Int) < (W : Int) := by omega
  have hwi2 : (W : Int) ≤ 6 := by omega
  refine wpAny_call ?_
  k_dflt (first | (refine' code_defC ?k1 ?k2 ?k3 ?k4 ?k5 ?kA ?kF ?kK ?k6 ?k7 ?k8 ?k9 ?kB ?kD ?_ ?c2 ?c3 ?c4; (case kA => exact rfl); (case kF => exact rfl); (case kK => first | exact rfl | assumption); (case k1 => k_asm); (case k2 => k_asm); (case k3 => k_asm); (case k4 => k_asm); (case k5 => k_asm); (case k6 => k_is); (case k7 => k_is); (case k8 => ktr_room); (case k9 => first | exact BindsTo.of_eq rfl | exact binds_K (by k_in) rfl (by k_is) rfl rfl rfl); (case kB => exact rfl); (case kD => decide +kernel); (case c2 => exact rfl); (case c3 => exact rfl); (case c4 => exact rfl); k_whole; intro g' L' h' tk' cells' FG' F' N' Y' B' X' T' l1; (try k_lt l1); k_cells Y'; (try simp only [List.cons_append, List.nil_append] at N'); (try dsimp only); (try k_lift B'); (try k_fold)) | (refine' code_def ?k1 ?k2 ?k3 ?k4 ?k5 ?kA ?kF ?kK ?k6 ?k7 ?k8 ?k9 ?kB ?_ ?c2 ?c3 ?c4 ?c5; (case kA => exact rfl); (case kF => exact rfl); (case kK => first | exact rfl | assumption); (case k1 => k_asm); (case k2 => k_asm); (case k3 => k_asm); (case k4 => k_asm); (case k5 => k_asm); (case k6 => k_is); (case k7 => k_is); (case k8 => ktr_room); (case k9 => first | exact BindsTo.of_eq rfl | exact binds_K (by k_in) rfl (by k_is) rfl rfl rfl); (case c5 => decide); (case kB => exact locs rfl); (case c2 => exact rfl); (case c3 => exact rfl); (case c4 => exact rfl); k_whole; intro g' L' h' FG' F' N' B' X' T'; (try dsimp only); (try k_lift B'); (try k_fold)))
  repeat' ((fail_if_success (with_reducible show Hold _)); first | (with_reducible refine Cn.out (by assumption) ?_) | (first | (with_reducible refine Co.ret (by assumption) ?_) | (with_reducible refine Co.brk (by assumption) ?_) | (with_reducible refine Co.cont (by assumption) ?_) | (with_reducible refine Cnt.out (by assumption) ?_; (try dsimp only))) | (k_unfold; (try dsimp only)) | ((with_reducible show wpAny _ _ (execs _ _) _ _ _); (first | ((fail_if_success (with_reducible refine Cn.seen (by first | exact Or.inl (by assumption) | exact Or.inr (by assumption)) ?_)); refine Cnt.gen ?_; intro qk hqk) | (with_reducible refine execs_one ?_))) | (k_here; (with_reducible show wpAny _ _ (call (Value.ref 200) _ _) _ _ _); k_dflt (refine' shuffled_C ?k1 ?k2 ?k3 ?k5 ?k6 ?k7 ?k71 ?k8 ?k9 ?o1 ?o2 ?o3 ?m1 ?o5 ?o6 ?o7 ?N ?_; (case o3 => assumption); (case N => first | exact news_hot1 (by with_reducible assumption) | exact news_hot1 (news_tl1 (by with_reducible assumption)) | exact news_hot2 (by with_reducible assumption) | (with_reducible assumption) | exact news_hot1 (by assumption) | assumption); (case o2 => first | exact fun _ h => h | assumption | exact fun p hp => List.mem_cons_of_mem _ ((by assumption : ∀ p ∈ _, p ∈ _) p hp)); (case k1 => k_asm); (case k2 => k_asm); (case k3 => k_asm); (case k5 => k_asm); (case k6 => first | exact rfl | assumption); (case o1 => assumption); (case m1 => k_mem); (case o5 => first | assumption | (refine all_cons (by first | k_ne | assumption | (dsimp only; omega)) ?_; first | assumption | (refine all_cons (by first | k_ne | assumption | (dsimp only; omega)) ?_; assumption))); (case o6 => first | assumption | (refine all_cons (by first | k_ne | assumption | (dsimp only; omega)) ?_; first | assumption | (refine all_cons (by first | k_ne | assumption | (dsimp only; omega)) ?_; assumption))); (case o7 => assumption); (case k7 => assumption); (case k71 => assumption); (case k8 => ktr_room); (case k9 => ktr_units); k_whole; intro r' k' D' ls' svs' k3' h' tk' F' N' S' z1' z2' l1 l2; (try k_sweep))) | (k_here; (with_reducible show wpAny _ _ (call (Value.ref 186) _ _) _ _ _); k_dflt (refine' small_below_V ?k1 ?k2 ?k3 ?k5 ?k6 ?k7 ?k71 ?k8 ?k9 ?o1 ?o2 ?o3 ?p0 ?p1 ?o5 ?o6 ?o7 ?hz ?hzb ?N ?_; (case o3 => assumption); (try (case hz => assumption)); (case hzb => first | exact rfl | omega); (try (case hz => exact rfl)); (case N => first | exact news_hot1 (by with_reducible assumption) | exact news_hot1 (news_tl1 (by with_reducible assumption)) | exact news_hot2 (by with_reducible assumption) | (with_reducible assumption) | exact news_hot1 (by assumption) | assumption); (case o2 => first | exact fun _ h => h | assumption | exact fun p hp => List.mem_cons_of_mem _ ((by assumption : ∀ p ∈ _, p ∈ _) p hp)); (case k1 => k_asm); (case k2 => k_asm); (case k3 => k_asm); (case k5 => k_asm); (case k6 => first | exact rfl | assumption); (case o1 => assumption); (case p0 => kst_p2); (case p1 => kst_p2); (case o5 => first | assumption | (refine all_cons (by first | k_ne | assumption | (dsimp only; omega)) ?_; first | assumption | (refine all_cons (by first | k_ne | assumption | (dsimp only; omega)) ?_; assumption))); (case o6 => first | assumption | (refine all_cons (by first | k_ne | assumption | (dsimp only; omega)) ?_; first | assumption | (refine all_cons (by first | k_ne | assumption | (dsimp only; omega)) ?_; assumption))); (case o7 => assumption); (case k7 => assumption); (case k71 => assumption); (case k8 => ktr_room); (case k9 => ktr_units); k_whole; intro t' D' ls' svs' k3' h' tk' F' N' S' z1' z2'; (try (have zh := all_hd z2'; dsimp only at zh)); (try k_sweep))) | (k_here; (with_reducible show wpAny _ _ (call (Value.ref 151) _ _) _ _ _); k_dflt (refine' lag_take_C ?k1 ?k2 ?k3 ?k5 ?k6 ?k7 ?k71 ?k8 ?k9 ?x1 ?a2 ?a3 ?a4 ?a5 ?a6 ?e1 ?e2 ?N ?_; (case N => k_asm); (case k1 => k_asm); (case k2 => k_asm); (case k3 => k_asm); (case k5 => k_asm); (case k6 => first | exact rfl | assumption); (case x1 => k_mem); (case a2 => l_ints); (case a3 => assumption); (case a4 => assumption); (case a5 => assumption); (case a6 => assumption); (case e1 => k_all); (case e2 => assumption); (case k7 => assumption); (case k71 => assumption); (case k8 => ktr_room); (case k9 => ktr_units); k_whole; intro r' pr' pvs' pk' ls' svs' k' h' tk' t' F' N' I1' I2' l1 l2 l3; (try k_sweep))) | (k_here; (with_reducible show wpAny _ _ (call (Value.ref 123) _ _) _ _ _); k_dflt (refine' cong_take_C ?k1 ?k2 ?k3 ?k5 ?k6 ?k7 ?k71 ?k8 ?k9 ?x1 ?a1 ?a2 ?a3 ?c1 ?c2 ?c3 ?s1 ?s2 ?d1 ?d2 ?e1 ?e2 ?N ?_; (case N => k_asm); (case k1 => k_asm); (case k2 => k_asm); (case k3 => k_asm); (case k5 => k_asm); (case k6 => first | exact rfl | assumption); (case x1 => k_mem); (case a1 => k_mem); (case a2 => l_ints); (case a3 => kst_p2); (case c1 => k_mem); (case c2 => l_ints); (case c3 => kst_p2); (case s1 => l_ints); (case s2 => kst_p2); (case d1 => kst_p2); (case d2 => kst_p2); (case e1 => k_all); (case e2 => assumption); (case k7 => assumption); (case k71 => assumption); (case k8 => ktr_room); (case k9 => ktr_units); k_whole; intro r' pr' pvs' pk' ls' svs' k' h' tk' t' F' N' I1' I2' l1 l2 l3; (try k_sweep))) | (k_here; (with_reducible show wpAny _ _ (binaryOp Operator.FloorDiv (Value.int (Nat.cast _) _) (Value.int 2 _)) _ _ _); k_dflt (refine' floordiv_two ?_; k_whole)) | (k_here; (with_reducible show wpAny _ _ (binaryOp Operator.Mod (Value.int (Nat.cast _) _) (Value.int (Nat.cast _) _)) _ _ _); k_dflt (refine' mod_nat ?a ?_; (case a => omega); k_whole)) | (k_here; (with_reducible show wpAny _ _ (binaryOp Operator.FloorDiv (Value.int (Nat.cast _) _) (Value.int (Nat.cast _) _)) _ _ _); k_dflt (refine' floordiv_nat ?a ?b ?_; (case a => omega); (case b => omega); k_whole)) | (k_here; (with_reducible show wpAny _ _ (binaryOp Operator.Mult (Value.ref _) (Value.int _ _)) _ _ _); k_dflt (refine' zeros_C ?F ?N ?l ?a ?b ?_; (case F => k_asm); (case N => k_asm); (case l => k_mem); (case a => first | exact Int.natCast_nonneg _ | omega); (case b => omega); k_whole); intro r' h' vs' F' N' I' l1; (try k_lt l1); (try k_sweep)) | ((with_reducible show wpAny _ _ (call (Value.ref _) _ _) _ _ _); (k_here; k_dflt (first   | (refine' call_cls ?k1 ?k2 ?k3 ?k4 ?k5 ?k6 ?_; (case k1 => k_asm); (case k2 => k_asm); (case k3 => k_asm); (case k4 => k_is); (case k5 => k_is); (case k6 => k_is); k_whole; intro x' d' h' F' N' l1 l2; (try k_lt l1); (try k_lt2 l2); (try k_sweep); (first | (refine' code_defC ?k1 ?k2 ?k3 ?k4 ?k5 ?kA ?kF ?kK ?k6 ?k7 ?k8 ?k9 ?kB ?kD ?_ ?c2 ?c3 ?c4; (case kA => exact rfl); (case kF => exact rfl); (case kK => first | exact rfl | assumption); (case k1 => k_asm); (case k2 => k_asm); (case k3 => k_asm); (case k4 => k_asm); (case k5 => k_asm); (case k6 => k_is); (case k7 => k_is); (case k8 => ktr_room); (case k9 => first | exact BindsTo.of_eq rfl | exact binds_K (by k_in) rfl (by k_is) rfl rfl rfl); (case kB => exact rfl); (case kD => decide +kernel); (case c2 => exact rfl); (case c3 => exact rfl); (case c4 => exact rfl); k_whole; intro g' L' h' tk' cells' FG' F' N' Y' B' X' T' l1; (try k_lt l1); k_cells Y'; (try simp only [List.cons_append, List.nil_append] at N'); (try dsimp only); (try k_lift B'); (try k_fold)) | (refine' code_def ?k1 ?k2 ?k3 ?k4 ?k5 ?kA ?kF ?kK ?k6 ?k7 ?k8 ?k9 ?kB ?_ ?c2 ?c3 ?c4 ?c5; (case kA => exact rfl); (case kF => exact rfl); (case kK => first | exact rfl | assumption); (case k1 => k_asm); (case k2 => k_asm); (case k3 => k_asm); (case k4 => k_asm); (case k5 => k_asm); (case k6 => k_is); (case k7 => k_is); (case k8 => ktr_room); (case k9 => first | exact BindsTo.of_eq rfl | exact binds_K (by k_in) rfl (by k_is) rfl rfl rfl); (case c5 => decide); (case kB => exact locs rfl); (case c2 => exact rfl); (case c3 => exact rfl); (case c4 => exact rfl); k_whole; intro g' L' h' FG' F' N' B' X' T'; (try dsimp only); (try k_lift B'); (try k_fold))))   | (refine wpAny_call ?_; (first | (refine' code_defC ?k1 ?k2 ?k3 ?k4 ?k5 ?kA ?kF ?kK ?k6 ?k7 ?k8 ?k9 ?kB ?kD ?_ ?c2 ?c3 ?c4; (case kA => exact rfl); (case kF => exact rfl); (case kK => first | exact rfl | assumption); (case k1 => k_asm); (case k2 => k_asm); (case k3 => k_asm); (case k4 => k_asm); (case k5 => k_asm); (case k6 => k_is); (case k7 => k_is); (case k8 => ktr_room); (case k9 => first | exact BindsTo.of_eq rfl | exact binds_K (by k_in) rfl (by k_is) rfl rfl rfl); (case kB => exact rfl); (case kD => decide +kernel); (case c2 => exact rfl); (case c3 => exact rfl); (case c4 => exact rfl); k_whole; intro g' L' h' tk' cells' FG' F' N' Y' B' X' T' l1; (try k_lt l1); k_cells Y'; (try simp only [List.cons_append, List.nil_append] at N'); (try dsimp only); (try k_lift B'); (try k_fold)) | (refine' code_def ?k1 ?k2 ?k3 ?k4 ?k5 ?kA ?kF ?kK ?k6 ?k7 ?k8 ?k9 ?kB ?_ ?c2 ?c3 ?c4 ?c5; (case kA => exact rfl); (case kF => exact rfl); (case kK => first | exact rfl | assumption); (case k1 => k_asm); (case k2 => k_asm); (case k3 => k_asm); (case k4 => k_asm); (case k5 => k_asm); (case k6 => k_is); (case k7 => k_is); (case k8 => ktr_room); (case k9 => first | exact BindsTo.of_eq rfl | exact binds_K (by k_in) rfl (by k_is) rfl rfl rfl); (case c5 => decide); (case kB => exact locs rfl); (case c2 => exact rfl); (case c3 => exact rfl); (case c4 => exact rfl); k_whole; intro g' L' h' FG' F' N' B' X' T'; (try dsimp only); (try k_lift B'); (try k_fold))))))) | ((with_reducible show wpAny _ _ (exec (Stmt.While _ _ _ _) _) _ _ _); refine Hold.intro ?_) | (first | with_reducible refine TurnEnd.ret ?_ | with_reducible refine TurnEnd.brk ?_) | ((with_reducible show wpAny _ _ (pyIter _) _ _ _); refine Hold.intro ?_) | (k_end; wrow_close) | walk1 | (dsimp only; walk1) | (leave1; try dsimp only))
  rename Fr h₀ L _ m => F6
  rename News h₀ L _ _ => N6
  exact ret _ [] _ _ _ _ _ _ F6 N6 (by assumption) .num (fresh_nil (by assumption) (by assumption))
omit N in
set_option maxHeartbeats 8000000 in
theorem taken4_C {x y dx ls : Addr} {D : Obj} {svs : List Value} {k3 g : Nat} {c : Src} {W : Nat} {tw u0 u1 : Tok} (hW : 0 < W) (hW2 : W ≤ 6) (hd1 : dp + 40 < recursionLimit) (hu : un + 200 < cLine)
    (hok : c.ok W) {n2 : Led} (hsub : ∀ p ∈ n2, p ∈ news) (hsrc : SrcIs w W n2 x dx D ls svs c) (hy : (y, tupO [.int 4 u0, .int (g : Int) u1]) ∈ news)
    (hdx : ∀ p ∈ news, p.1 ≠ dx) (hls : ∀ p ∈ news, p.1 ≠ ls) (hlx : ls ≠ dx)
    (N : News h₀ L s.heap ((dx, D) :: (ls, lst svs k3) :: news))
    (ret : ∀ v nw D' ls' svs' k3' h' tk', Fr h₀ L h' m → News h₀ L h' ((dx, D') :: (ls', lst svs' k3') :: (nw ++ news)) → SrcIs w W n2 x dx D' ls' svs' (taken W c 4 g).1 → AnsIs W nw v (taken W c 4 g).2 → FreshAns nw dx ls' news → Q v { s with heap := h', toks := tk' }) :
    wpAny (model Challenge.rw_sj0076_01.row.prog w) (ktrTop dp un gd cn cs L a ccd cl outer) (call (.ref 245) [.ref x, .ref y, .int W tw]) Q E s := by
  have hwi : (0 : Int) < (W : Int) := by omega
  have hwi2 : (W : Int) ≤ 6 := by omega
  refine wpAny_call ?_
  k_dflt (first | (refine' code_defC ?k1 ?k2 ?k3 ?k4 ?k5 ?kA ?kF ?kK ?k6 ?k7 ?k8 ?k9 ?kB ?kD ?_ ?c2 ?c3 ?c4; (case kA => exact rfl); (case kF => exact rfl); (case kK => first | exact rfl | assumption); (case k1 => k_asm); (case k2 => k_asm); (case k3 => k_asm); (case k4 => k_asm); (case k5 => k_asm); (case k6 => k_is); (case k7 => k_is); (case k8 => ktr_room); (case k9 => first | exact BindsTo.of_eq rfl | exact binds_K (by k_in) rfl (by k_is) rfl rfl rfl); (case kB => exact rfl); (case kD => decide +kernel); (case c2 => exact rfl); (case c3 => exact rfl); (case c4 => exact rfl); k_whole; intro g' L' h' tk' cells' FG' F' N' Y' B' X' T' l1; (try k_lt l1); k_cells Y'; (try simp only [List.cons_append, List.nil_append] at N'); (try dsimp only); (try k_lift B'); (try k_fold)) | (refine' code_def ?k1 ?k2 ?k3 ?k4 ?k5 ?kA ?kF ?kK ?k6 ?k7 ?k8 ?k9 ?kB ?_ ?c2 ?c3 ?c4 ?c5; (case kA => exact rfl); (case kF => exact rfl); (case kK => first | exact rfl | assumption); (case k1 => k_asm); (case k2 => k_asm); (case k3 => k_asm); (case k4 => k_asm); (case k5 => k_asm); (case k6 => k_is); (case k7 => k_is); (case k8 => ktr_room); (case k9 => first | exact BindsTo.of_eq rfl | exact binds_K (by k_in) rfl (by k_is) rfl rfl rfl); (case c5 => decide); (case kB => exact locs rfl); (case c2 => exact rfl); (case c3 => exact rfl); (case c4 => exact rfl); k_whole; intro g' L' h' FG' F' N' B' X' T'; (try dsimp only); (try k_lift B'); (try k_fold)))
  repeat' ((fail_if_success (with_reducible show Hold _)); first | (with_reducible refine Cn.out (by assumption) ?_) | (first | (with_reducible refine Co.ret (by assumption) ?_) | (with_reducible refine Co.brk (by assumption) ?_) | (with_reducible refine Co.cont (by assumption) ?_) | (with_reducible refine Cnt.out (by assumption) ?_; (try dsimp only))) | (k_unfold; (try dsimp only)) | ((with_reducible show wpAny _ _ (execs _ _) _ _ _); (first | ((fail_if_success (with_reducible refine Cn.seen (by first | exact Or.inl (by assumption) | exact Or.inr (by assumption)) ?_)); refine Cnt.gen ?_; intro qk hqk) | (with_reducible refine execs_one ?_))) | (k_here; (with_reducible show wpAny _ _ (call (Value.ref 200) _ _) _ _ _); k_dflt (refine' shuffled_C ?k1 ?k2 ?k3 ?k5 ?k6 ?k7 ?k71 ?k8 ?k9 ?o1 ?o2 ?o3 ?m1 ?o5 ?o6 ?o7 ?N ?_; (case o3 => assumption); (case N => first | exact news_hot1 (by with_reducible assumption) | exact news_hot1 (news_tl1 (by with_reducible assumption)) | exact news_hot2 (by with_reducible assumption) | (with_reducible assumption) | exact news_hot1 (by assumption) | assumption); (case o2 => first | exact fun _ h => h | assumption | exact fun p hp => List.mem_cons_of_mem _ ((by assumption : ∀ p ∈ _, p ∈ _) p hp)); (case k1 => k_asm); (case k2 => k_asm); (case k3 => k_asm); (case k5 => k_asm); (case k6 => first | exact rfl | assumption); (case o1 => assumption); (case m1 => k_mem); (case o5 => first | assumption | (refine all_cons (by first | k_ne | assumption | (dsimp only; omega)) ?_; first | assumption | (refine all_cons (by first | k_ne | assumption | (dsimp only; omega)) ?_; assumption))); (case o6 => first | assumption | (refine all_cons (by first | k_ne | assumption | (dsimp only; omega)) ?_; first | assumption | (refine all_cons (by first | k_ne | assumption | (dsimp only; omega)) ?_; assumption))); (case o7 => assumption); (case k7 => assumption); (case k71 => assumption); (case k8 => ktr_room); (case k9 => ktr_units); k_whole; intro r' k' D' ls' svs' k3' h' tk' F' N' S' z1' z2' l1 l2; (try k_sweep))) | (k_here; (with_reducible show wpAny _ _ (call (Value.ref 186) _ _) _ _ _); k_dflt (refine' small_below_V ?k1 ?k2 ?k3 ?k5 ?k6 ?k7 ?k71 ?k8 ?k9 ?o1 ?o2 ?o3 ?p0 ?p1 ?o5 ?o6 ?o7 ?hz ?hzb ?N ?_; (case o3 => assumption); (try (case hz => assumption)); (case hzb => first | exact rfl | omega); (try (case hz => exact rfl)); (case N => first | exact news_hot1 (by with_reducible assumption) | exact news_hot1 (news_tl1 (by with_reducible assumption)) | exact news_hot2 (by with_reducible assumption) | (with_reducible assumption) | exact news_hot1 (by assumption) | assumption); (case o2 => first | exact fun _ h => h | assumption | exact fun p hp => List.mem_cons_of_mem _ ((by assumption : ∀ p ∈ _, p ∈ _) p hp)); (case k1 => k_asm); (case k2 => k_asm); (case k3 => k_asm); (case k5 => k_asm); (case k6 => first | exact rfl | assumption); (case o1 => assumption); (case p0 => kst_p2); (case p1 => kst_p2); (case o5 => first | assumption | (refine all_cons (by first | k_ne | assumption | (dsimp only; omega)) ?_; first | assumption | (refine all_cons (by first | k_ne | assumption | (dsimp only; omega)) ?_; assumption))); (case o6 => first | assumption | (refine all_cons (by first | k_ne | assumption | (dsimp only; omega)) ?_; first | assumption | (refine all_cons (by first | k_ne | assumption | (dsimp only; omega)) ?_; assumption))); (case o7 => assumption); (case k7 => assumption); (case k71 => assumption); (case k8 => ktr_room); (case k9 => ktr_units); k_whole; intro t' D' ls' svs' k3' h' tk' F' N' S' z1' z2'; (try (have zh := all_hd z2'; dsimp only at zh)); (try k_sweep))) | (k_here; (with_reducible show wpAny _ _ (call (Value.ref 151) _ _) _ _ _); k_dflt (refine' lag_take_C ?k1 ?k2 ?k3 ?k5 ?k6 ?k7 ?k71 ?k8 ?k9 ?x1 ?a2 ?a3 ?a4 ?a5 ?a6 ?e1 ?e2 ?N ?_; (case N => k_asm); (case k1 => k_asm); (case k2 => k_asm); (case k3 => k_asm); (case k5 => k_asm); (case k6 => first | exact rfl | assumption); (case x1 => k_mem); (case a2 => l_ints); (case a3 => assumption); (case a4 => assumption); (case a5 => assumption); (case a6 => assumption); (case e1 => k_all); (case e2 => assumption); (case k7 => assumption); (case k71 => assumption); (case k8 => ktr_room); (case k9 => ktr_units); k_whole; intro r' pr' pvs' pk' ls' svs' k' h' tk' t' F' N' I1' I2' l1 l2 l3; (try k_sweep))) | (k_here; (with_reducible show wpAny _ _ (call (Value.ref 123) _ _) _ _ _); k_dflt (refine' cong_take_C ?k1 ?k2 ?k3 ?k5 ?k6 ?k7 ?k71 ?k8 ?k9 ?x1 ?a1 ?a2 ?a3 ?c1 ?c2 ?c3 ?s1 ?s2 ?d1 ?d2 ?e1 ?e2 ?N ?_; (case N => k_asm); (case k1 => k_asm); (case k2 => k_asm); (case k3 => k_asm); (case k5 => k_asm); (case k6 => first | exact rfl | assumption); (case x1 => k_mem); (case a1 => k_mem); (case a2 => l_ints); (case a3 => kst_p2); (case c1 => k_mem); (case c2 => l_ints); (case c3 => kst_p2); (case s1 => l_ints); (case s2 => kst_p2); (case d1 => kst_p2); (case d2 => kst_p2); (case e1 => k_all); (case e2 => assumption); (case k7 => assumption); (case k71 => assumption); (case k8 => ktr_room); (case k9 => ktr_units); k_whole; intro r' pr' pvs' pk' ls' svs' k' h' tk' t' F' N' I1' I2' l1 l2 l3; (try k_sweep))) | (k_here; (with_reducible show wpAny _ _ (binaryOp Operator.FloorDiv (Value.int (Nat.cast _) _) (Value.int 2 _)) _ _ _); k_dflt (refine' floordiv_two ?_; k_whole)) | (k_here; (with_reducible show wpAny _ _ (binaryOp Operator.Mod (Value.int (Nat.cast _) _) (Value.int (Nat.cast _) _)) _ _ _); k_dflt (refine' mod_nat ?a ?_; (case a => omega); k_whole)) | (k_here; (with_reducible show wpAny _ _ (binaryOp Operator.FloorDiv (Value.int (Nat.cast _) _) (Value.int (Nat.cast _) _)) _ _ _); k_dflt (refine' floordiv_nat ?a ?b ?_; (case a => omega); (case b => omega); k_whole)) | (k_here; (with_reducible show wpAny _ _ (binaryOp Operator.Mult (Value.ref _) (Value.int _ _)) _ _ _); k_dflt (refine' zeros_C ?F ?N ?l ?a ?b ?_; (case F => k_asm); (case N => k_asm); (case l => k_mem); (case a => first | exact Int.natCast_nonneg _ | omega); (case b => omega); k_whole); intro r' h' vs' F' N' I' l1; (try k_lt l1); (try k_sweep)) | ((with_reducible show wpAny _ _ (call (Value.ref _) _ _) _ _ _); (k_here; k_dflt (first   | (refine' call_cls ?k1 ?k2 ?k3 ?k4 ?k5 ?k6 ?_; (case k1 => k_asm); (case k2 => k_asm); (case k3 => k_asm); (case k4 => k_is); (case k5 => k_is); (case k6 => k_is); k_whole; intro x' d' h' F' N' l1 l2; (try k_lt l1); (try k_lt2 l2); (try k_sweep); (first | (refine' code_defC ?k1 ?k2 ?k3 ?k4 ?k5 ?kA ?kF ?kK ?k6 ?k7 ?k8 ?k9 ?kB ?kD ?_ ?c2 ?c3 ?c4; (case kA => exact rfl); (case kF => exact rfl); (case kK => first | exact rfl | assumption); (case k1 => k_asm); (case k2 => k_asm); (case k3 => k_asm); (case k4 => k_asm); (case k5 => k_asm); (case k6 => k_is); (case k7 => k_is); (case k8 => ktr_room); (case k9 => first | exact BindsTo.of_eq rfl | exact binds_K (by k_in) rfl (by k_is) rfl rfl rfl); (case kB => exact rfl); (case kD => decide +kernel); (case c2 => exact rfl); (case c3 => exact rfl); (case c4 => exact rfl); k_whole; intro g' L' h' tk' cells' FG' F' N' Y' B' X' T' l1; (try k_lt l1); k_cells Y'; (try simp only [List.cons_append, List.nil_append] at N'); (try dsimp only); (try k_lift B'); (try k_fold)) | (refine' code_def ?k1 ?k2 ?k3 ?k4 ?k5 ?kA ?kF ?kK ?k6 ?k7 ?k8 ?k9 ?kB ?_ ?c2 ?c3 ?c4 ?c5; (case kA => exact rfl); (case kF => exact rfl); (case kK => first | exact rfl | assumption); (case k1 => k_asm); (case k2 => k_asm); (case k3 => k_asm); (case k4 => k_asm); (case k5 => k_asm); (case k6 => k_is); (case k7 => k_is); (case k8 => ktr_room); (case k9 => first | exact BindsTo.of_eq rfl | exact binds_K (by k_in) rfl (by k_is) rfl rfl rfl); (case c5 => decide); (case kB => exact locs rfl); (case c2 => exact rfl); (case c3 => exact rfl); (case c4 => exact rfl); k_whole; intro g' L' h' FG' F' N' B' X' T'; (try dsimp only); (try k_lift B'); (try k_fold))))   | (refine wpAny_call ?_; (first | (refine' code_defC ?k1 ?k2 ?k3 ?k4 ?k5 ?kA ?kF ?kK ?k6 ?k7 ?k8 ?k9 ?kB ?kD ?_ ?c2 ?c3 ?c4; (case kA => exact rfl); (case kF => exact rfl); (case kK => first | exact rfl | assumption); (case k1 => k_asm); (case k2 => k_asm); (case k3 => k_asm); (case k4 => k_asm); (case k5 => k_asm); (case k6 => k_is); (case k7 => k_is); (case k8 => ktr_room); (case k9 => first | exact BindsTo.of_eq rfl | exact binds_K (by k_in) rfl (by k_is) rfl rfl rfl); (case kB => exact rfl); (case kD => decide +kernel); (case c2 => exact rfl); (case c3 => exact rfl); (case c4 => exact rfl); k_whole; intro g' L' h' tk' cells' FG' F' N' Y' B' X' T' l1; (try k_lt l1); k_cells Y'; (try simp only [List.cons_append, List.nil_append] at N'); (try dsimp only); (try k_lift B'); (try k_fold)) | (refine' code_def ?k1 ?k2 ?k3 ?k4 ?k5 ?kA ?kF ?kK ?k6 ?k7 ?k8 ?k9 ?kB ?_ ?c2 ?c3 ?c4 ?c5; (case kA => exact rfl); (case kF => exact rfl); (case kK => first | exact rfl | assumption); (case k1 => k_asm); (case k2 => k_asm); (case k3 => k_asm); (case k4 => k_asm); (case k5 => k_asm); (case k6 => k_is); (case k7 => k_is); (case k8 => ktr_room); (case k9 => first | exact BindsTo.of_eq rfl | exact binds_K (by k_in) rfl (by k_is) rfl rfl rfl); (case c5 => decide); (case kB => exact locs rfl); (case c2 => exact rfl); (case c3 => exact rfl); (case c4 => exact rfl); k_whole; intro g' L' h' FG' F' N' B' X' T'; (try dsimp only); (try k_lift B'); (try k_fold))))))) | ((with_reducible show wpAny _ _ (exec (Stmt.While _ _ _ _) _) _ _ _); refine Hold.intro ?_) | (first | with_reducible refine TurnEnd.ret ?_ | with_reducible refine TurnEnd.brk ?_) | ((with_reducible show wpAny _ _ (pyIter _) _ _ _); refine Hold.intro ?_) | (k_end; wrow_close) | walk1 | (dsimp only; walk1) | (leave1; try dsimp only))
  rename Fr h₀ L _ m => F6
  rename News h₀ L _ _ => N6
  have l1 := ‹@LT.lt Nat _ dx _ ∧ AllLt _ (_ :: news)›
  have l2 := ‹∀ p ∈ (_ :: news), p.1 ≠ _›
  have z := ‹SrcIs w W n2 x dx _ _ _ (rbelow W 2 c).1›
  by_cases hz : (rbelow W 2 c).2 = 0
  · have hA : (taken W c 4 g).2 = .swap true := by
      show Ans.swap (decide _) = _
      rw [decide_eq_true hz]
    rw [hA] at ret
    rw [if_pos hz] at N6
    exact ret _ [_] _ _ _ _ _ _ F6 (news_x4 N6) z (.swap List.mem_cons_self) (fresh_one (by assumption) (tl_all l2) (Nat.ne_of_gt l1.1) (by assumption) (kst_ltOf l1.2.2))
  · have hA : (taken W c 4 g).2 = .swap false := by
      show Ans.swap (decide _) = _
      rw [decide_eq_false hz]
    rw [hA] at ret
    rw [if_neg hz] at N6
    exact ret _ [_] _ _ _ _ _ _ F6 (news_x4 N6) z (.swap List.mem_cons_self) (fresh_one (by assumption) (tl_all l2) (Nat.ne_of_gt l1.1) (by assumption) (kst_ltOf l1.2.2))
end
section
variable {w : World} {mean : ExcName → Option Value} {mg mb : Str → Option Value}
  {dp un : Nat} {gd : Option (List Code)} {cn : Str} {cs : Scope} {a : Addr} {ccd : Value} {cl : List (Str × Addr)} {outer : List Env} {A₀ : Around} {base h₀ : Heap} {L : Addr} {m : Str → Option Value} {news : Led} {s : Shared}
  {Q E : Value → Shared → Prop}
  (B : Below A₀ base outer h₀) (F : Fr h₀ L s.heap m) (X : (hd.heap_39 w.params).In h₀) (N : News h₀ L s.heap news) (T : Top hd.view_39 (looseW hd.view_39 []) mean mg mb h₀) (hk : cs.kind = .function)
include B F X N T hk
omit N in
set_option maxHeartbeats 8000000 in
theorem taken0_C {x y dx ls : Addr} {D : Obj} {svs : List Value} {k3 g : Nat} {c : Src} {W : Nat} {tw u0 u1 : Tok} (hW : 0 < W) (hW2 : W ≤ 6) (hd1 : dp + 40 < recursionLimit) (hu : un + 200 < cLine)
    (hok : c.ok W) {n2 : Led} (hsub : ∀ p ∈ n2, p ∈ news) (hsrc : SrcIs w W n2 x dx D ls svs c) (hy : (y, tupO [.int 0 u0, .int (g : Int) u1]) ∈ news)
    (hdx : ∀ p ∈ news, p.1 ≠ dx) (hls : ∀ p ∈ news, p.1 ≠ ls) (hlx : ls ≠ dx)
    (N : News h₀ L s.heap ((dx, D) :: (ls, lst svs k3) :: news))
    (ret : ∀ v nw D' ls' svs' k3' h' tk', Fr h₀ L h' m → News h₀ L h' ((dx, D') :: (ls', lst svs' k3') :: (nw ++ news)) → SrcIs w W n2 x dx D' ls' svs' (taken W c 0 g).1 → AnsIs W nw v (taken W c 0 g).2 → FreshAns nw dx ls' news → Q v { s with heap := h', toks := tk' }) :
    wpAny (model Challenge.rw_sj0076_01.row.prog w) (ktrTop dp un gd cn cs L a ccd cl outer) (call (.ref 245) [.ref x, .ref y, .int W tw]) Q E s := by
  have hwi : (0 : Int) < (W : Int) := by omega
  have hwi2 : (W : Int) ≤ 6 := by omega
  cases hsrc with
  | @cong la lc ls avs cvs svs n1 n2 p q d S t1 t2 t3 t4 t5 t6 td tw hx ha hai hc hci hsi =>
    refine hide fun G9 hG9 => ?_
    obtain ⟨o1, o2, o3, o4, o5⟩ := hok
    refine hG9 ?_
    clear hG9 G9
    have hx' := hsub _ hx
    have ha' := hsub _ ha
    have hc' := hsub _ hc
    have o6 := Nat.lt_of_lt_of_le o5 (Nat.pow_le_pow_right (by decide) o4 : _ ≤ 2 ^ 5)
    refine wpAny_call ?_
    k_dflt (first | (refine' code_defC ?k1 ?k2 ?k3 ?k4 ?k5 ?kA ?kF ?kK ?k6 ?k7 ?k8 ?k9 ?kB ?kD ?_ ?c2 ?c3 ?c4; (case kA => exact rfl); (case kF => exact rfl); (case kK => first | exact rfl | assumption); (case k1 => k_asm); (case k2 => k_asm); (case k3 => k_asm); (case k4 => k_asm); (case k5 => k_asm); (case k6 => k_is); (case k7 => k_is); (case k8 => ktr_room); (case k9 => first | exact BindsTo.of_eq rfl | exact binds_K (by k_in) rfl (by k_is) rfl rfl rfl); (case kB => exact rfl); (case kD => decide +kernel); (case c2 => exact rfl); (case c3 => exact rfl); (case c4 => exact rfl); k_whole; intro g' L' h' tk' cells' FG' F' N' Y' B' X' T' l1; (try k_lt l1); k_cells Y'; (try simp only [List.cons_append, List.nil_append] at N'); (try dsimp only); (try k_lift B'); (try k_fold)) | (refine' code_def ?k1 ?k2 ?k3 ?k4 ?k5 ?kA ?kF ?kK ?k6 ?k7 ?k8 ?k9 ?kB ?_ ?c2 ?c3 ?c4 ?c5; (case kA => exact rfl); (case kF => exact rfl); (case kK => first | exact rfl | assumption); (case k1 => k_asm); (case k2 => k_asm); (case k3 => k_asm); (case k4 => k_asm); (case k5 => k_asm); (case k6 => k_is); (case k7 => k_is); (case k8 => ktr_room); (case k9 => first | exact BindsTo.of_eq rfl | exact binds_K (by k_in) rfl (by k_is) rfl rfl rfl); (case c5 => decide); (case kB => exact locs rfl); (case c2 => exact rfl); (case c3 => exact rfl); (case c4 => exact rfl); k_whole; intro g' L' h' FG' F' N' B' X' T'; (try dsimp only); (try k_lift B'); (try k_fold)))
    repeat' ((fail_if_success (with_reducible show Hold _)); first | (with_reducible refine Cn.out (by assumption) ?_) | (first | (with_reducible refine Co.ret (by assumption) ?_) | (with_reducible refine Co.brk (by assumption) ?_) | (with_reducible refine Co.cont (by assumption) ?_) | (with_reducible refine Cnt.out (by assumption) ?_; (try dsimp only))) | (k_unfold; (try dsimp only)) | ((with_reducible show wpAny _ _ (execs _ _) _ _ _); (first | ((fail_if_success (with_reducible refine Cn.seen (by first | exact Or.inl (by assumption) | exact Or.inr (by assumption)) ?_)); refine Cnt.gen ?_; intro qk hqk) | (with_reducible refine execs_one ?_))) | (k_here; (with_reducible show wpAny _ _ (call (Value.ref 151) _ _) _ _ _); k_dflt (refine' lag_take_C ?k1 ?k2 ?k3 ?k5 ?k6 ?k7 ?k71 ?k8 ?k9 ?x1 ?a2 ?a3 ?a4 ?a5 ?a6 ?e1 ?e2 ?N ?_; (case N => k_asm); (case k1 => k_asm); (case k2 => k_asm); (case k3 => k_asm); (case k5 => k_asm); (case k6 => first | exact rfl | assumption); (case x1 => k_mem); (case a2 => l_ints); (case a3 => assumption); (case a4 => assumption); (case a5 => assumption); (case a6 => assumption); (case e1 => k_all); (case e2 => assumption); (case k7 => assumption); (case k71 => assumption); (case k8 => ktr_room); (case k9 => ktr_units); k_whole; intro r' pr' pvs' pk' ls' svs' k' h' tk' t' F' N' I1' I2' l1 l2 l3; (try k_sweep))) | (k_here; (with_reducible show wpAny _ _ (call (Value.ref 123) _ _) _ _ _); k_dflt (refine' cong_take_C ?k1 ?k2 ?k3 ?k5 ?k6 ?k7 ?k71 ?k8 ?k9 ?x1 ?a1 ?a2 ?a3 ?c1 ?c2 ?c3 ?s1 ?s2 ?d1 ?d2 ?e1 ?e2 ?N ?_; (case N => k_asm); (case k1 => k_asm); (case k2 => k_asm); (case k3 => k_asm); (case k5 => k_asm); (case k6 => first | exact rfl | assumption); (case x1 => k_mem); (case a1 => k_mem); (case a2 => l_ints); (case a3 => kst_p2); (case c1 => k_mem); (case c2 => l_ints); (case c3 => kst_p2); (case s1 => l_ints); (case s2 => kst_p2); (case d1 => kst_p2); (case d2 => kst_p2); (case e1 => k_all); (case e2 => assumption); (case k7 => assumption); (case k71 => assumption); (case k8 => ktr_room); (case k9 => ktr_units); k_whole; intro r' pr' pvs' pk' ls' svs' k' h' tk' t' F' N' I1' I2' l1 l2 l3; (try k_sweep))) | (k_here; (with_reducible show wpAny _ _ (binaryOp Operator.FloorDiv (Value.int (Nat.cast _) _) (Value.int 2 _)) _ _ _); k_dflt (refine' floordiv_two ?_; k_whole)) | (k_here; (with_reducible show wpAny _ _ (binaryOp Operator.Mod (Value.int (Nat.cast _) _) (Value.int (Nat.cast _) _)) _ _ _); k_dflt (refine' mod_nat ?a ?_; (case a => omega); k_whole)) | (k_here; (with_reducible show wpAny _ _ (binaryOp Operator.FloorDiv (Value.int (Nat.cast _) _) (Value.int (Nat.cast _) _)) _ _ _); k_dflt (refine' floordiv_nat ?a ?b ?_; (case a => omega); (case b => omega); k_whole)) | (k_here; (with_reducible show wpAny _ _ (binaryOp Operator.Mult (Value.ref _) (Value.int _ _)) _ _ _); k_dflt (refine' zeros_C ?F ?N ?l ?a ?b ?_; (case F => k_asm); (case N => k_asm); (case l => k_mem); (case a => first | exact Int.natCast_nonneg _ | omega); (case b => omega); k_whole); intro r' h' vs' F' N' I' l1; (try k_lt l1); (try k_sweep)) | ((with_reducible show wpAny _ _ (call (Value.ref _) _ _) _ _ _); (k_here; k_dflt (first   | (refine' call_cls ?k1 ?k2 ?k3 ?k4 ?k5 ?k6 ?_; (case k1 => k_asm); (case k2 => k_asm); (case k3 => k_asm); (case k4 => k_is); (case k5 => k_is); (case k6 => k_is); k_whole; intro x' d' h' F' N' l1 l2; (try k_lt l1); (try k_lt2 l2); (try k_sweep); (first | (refine' code_defC ?k1 ?k2 ?k3 ?k4 ?k5 ?kA ?kF ?kK ?k6 ?k7 ?k8 ?k9 ?kB ?kD ?_ ?c2 ?c3 ?c4; (case kA => exact rfl); (case kF => exact rfl); (case kK => first | exact rfl | assumption); (case k1 => k_asm); (case k2 => k_asm); (case k3 => k_asm); (case k4 => k_asm); (case k5 => k_asm); (case k6 => k_is); (case k7 => k_is); (case k8 => ktr_room); (case k9 => first | exact BindsTo.of_eq rfl | exact binds_K (by k_in) rfl (by k_is) rfl rfl rfl); (case kB => exact rfl); (case kD => decide +kernel); (case c2 => exact rfl); (case c3 => exact rfl); (case c4 => exact rfl); k_whole; intro g' L' h' tk' cells' FG' F' N' Y' B' X' T' l1; (try k_lt l1); k_cells Y'; (try simp only [List.cons_append, List.nil_append] at N'); (try dsimp only); (try k_lift B'); (try k_fold)) | (refine' code_def ?k1 ?k2 ?k3 ?k4 ?k5 ?kA ?kF ?kK ?k6 ?k7 ?k8 ?k9 ?kB ?_ ?c2 ?c3 ?c4 ?c5; (case kA => exact rfl); (case kF => exact rfl); (case kK => first | exact rfl | assumption); (case k1 => k_asm); (case k2 => k_asm); (case k3 => k_asm); (case k4 => k_asm); (case k5 => k_asm); (case k6 => k_is); (case k7 => k_is); (case k8 => ktr_room); (case k9 => first | exact BindsTo.of_eq rfl | exact binds_K (by k_in) rfl (by k_is) rfl rfl rfl); (case c5 => decide); (case kB => exact locs rfl); (case c2 => exact rfl); (case c3 => exact rfl); (case c4 => exact rfl); k_whole; intro g' L' h' FG' F' N' B' X' T'; (try dsimp only); (try k_lift B'); (try k_fold))))   | (refine wpAny_call ?_; (first | (refine' code_defC ?k1 ?k2 ?k3 ?k4 ?k5 ?kA ?kF ?kK ?k6 ?k7 ?k8 ?k9 ?kB ?kD ?_ ?c2 ?c3 ?c4; (case kA => exact rfl); (case kF => exact rfl); (case kK => first | exact rfl | assumption); (case k1 => k_asm); (case k2 => k_asm); (case k3 => k_asm); (case k4 => k_asm); (case k5 => k_asm); (case k6 => k_is); (case k7 => k_is); (case k8 => ktr_room); (case k9 => first | exact BindsTo.of_eq rfl | exact binds_K (by k_in) rfl (by k_is) rfl rfl rfl); (case kB => exact rfl); (case kD => decide +kernel); (case c2 => exact rfl); (case c3 => exact rfl); (case c4 => exact rfl); k_whole; intro g' L' h' tk' cells' FG' F' N' Y' B' X' T' l1; (try k_lt l1); k_cells Y'; (try simp only [List.cons_append, List.nil_append] at N'); (try dsimp only); (try k_lift B'); (try k_fold)) | (refine' code_def ?k1 ?k2 ?k3 ?k4 ?k5 ?kA ?kF ?kK ?k6 ?k7 ?k8 ?k9 ?kB ?_ ?c2 ?c3 ?c4 ?c5; (case kA => exact rfl); (case kF => exact rfl); (case kK => first | exact rfl | assumption); (case k1 => k_asm); (case k2 => k_asm); (case k3 => k_asm); (case k4 => k_asm); (case k5 => k_asm); (case k6 => k_is); (case k7 => k_is); (case k8 => ktr_room); (case k9 => first | exact BindsTo.of_eq rfl | exact binds_K (by k_in) rfl (by k_is) rfl rfl rfl); (case c5 => decide); (case kB => exact locs rfl); (case c2 => exact rfl); (case c3 => exact rfl); (case c4 => exact rfl); k_whole; intro g' L' h' FG' F' N' B' X' T'; (try dsimp only); (try k_lift B'); (try k_fold))))))) | ((with_reducible show wpAny _ _ (exec (Stmt.While _ _ _ _) _) _ _ _); refine Hold.intro ?_) | (first | with_reducible refine TurnEnd.ret ?_ | with_reducible refine TurnEnd.brk ?_) | ((with_reducible show wpAny _ _ (pyIter _) _ _ _); refine Hold.intro ?_) | (k_end; wrow_close) | walk1 | (dsimp only; walk1) | (leave1; try dsimp only))
    rename Fr h₀ L _ m => F6
    rename News h₀ L _ _ => N6
    exact ret _ [_, _] _ _ _ _ _ _ F6 (news_x0 N6) (.cong hx ha hai hc hci (by assumption)) (.part List.mem_cons_self mem1 (by assumption)) (fresh_two (by assumption) (by assumption) (by assumption))
  | @lag lr rvs row pl t1 t2 t3 td tw hx hri =>
    refine hide fun G9 hG9 => ?_
    obtain ⟨o1, o2, o3, o4⟩ := hok
    refine hG9 ?_
    clear hG9 G9
    have hx' := hsub _ hx
    refine wpAny_call ?_
    k_dflt (first | (refine' code_defC ?k1 ?k2 ?k3 ?k4 ?k5 ?kA ?kF ?kK ?k6 ?k7 ?k8 ?k9 ?kB ?kD ?_ ?c2 ?c3 ?c4; (case kA => exact rfl); (case kF => exact rfl); (case kK => first | exact rfl | assumption); (case k1 => k_asm); (case k2 => k_asm); (case k3 => k_asm); (case k4 => k_asm); (case k5 => k_asm); (case k6 => k_is); (case k7 => k_is); (case k8 => ktr_room); (case k9 => first | exact BindsTo.of_eq rfl | exact binds_K (by k_in) rfl (by k_is) rfl rfl rfl); (case kB => exact rfl); (case kD => decide +kernel); (case c2 => exact rfl); (case c3 => exact rfl); (case c4 => exact rfl); k_whole; intro g' L' h' tk' cells' FG' F' N' Y' B' X' T' l1; (try k_lt l1); k_cells Y'; (try simp only [List.cons_append, List.nil_append] at N'); (try dsimp only); (try k_lift B'); (try k_fold)) | (refine' code_def ?k1 ?k2 ?k3 ?k4 ?k5 ?kA ?kF ?kK ?k6 ?k7 ?k8 ?k9 ?kB ?_ ?c2 ?c3 ?c4 ?c5; (case kA => exact rfl); (case kF => exact rfl); (case kK => first | exact rfl | assumption); (case k1 => k_asm); (case k2 => k_asm); (case k3 => k_asm); (case k4 => k_asm); (case k5 => k_asm); (case k6 => k_is); (case k7 => k_is); (case k8 => ktr_room); (case k9 => first | exact BindsTo.of_eq rfl | exact binds_K (by k_in) rfl (by k_is) rfl rfl rfl); (case c5 => decide); (case kB => exact locs rfl); (case c2 => exact rfl); (case c3 => exact rfl); (case c4 => exact rfl); k_whole; intro g' L' h' FG' F' N' B' X' T'; (try dsimp only); (try k_lift B'); (try k_fold)))
    repeat' ((fail_if_success (with_reducible show Hold _)); first | (with_reducible refine Cn.out (by assumption) ?_) | (first | (with_reducible refine Co.ret (by assumption) ?_) | (with_reducible refine Co.brk (by assumption) ?_) | (with_reducible refine Co.cont (by assumption) ?_) | (with_reducible refine Cnt.out (by assumption) ?_; (try dsimp only))) | (k_unfold; (try dsimp only)) | ((with_reducible show wpAny _ _ (execs _ _) _ _ _); (first | ((fail_if_success (with_reducible refine Cn.seen (by first | exact Or.inl (by assumption) | exact Or.inr (by assumption)) ?_)); refine Cnt.gen ?_; intro qk hqk) | (with_reducible refine execs_one ?_))) | (k_here; (with_reducible show wpAny _ _ (call (Value.ref 151) _ _) _ _ _); k_dflt (refine' lag_take_C ?k1 ?k2 ?k3 ?k5 ?k6 ?k7 ?k71 ?k8 ?k9 ?x1 ?a2 ?a3 ?a4 ?a5 ?a6 ?e1 ?e2 ?N ?_; (case N => k_asm); (case k1 => k_asm); (case k2 => k_asm); (case k3 => k_asm); (case k5 => k_asm); (case k6 => first | exact rfl | assumption); (case x1 => k_mem); (case a2 => l_ints); (case a3 => assumption); (case a4 => assumption); (case a5 => assumption); (case a6 => assumption); (case e1 => k_all); (case e2 => assumption); (case k7 => assumption); (case k71 => assumption); (case k8 => ktr_room); (case k9 => ktr_units); k_whole; intro r' pr' pvs' pk' ls' svs' k' h' tk' t' F' N' I1' I2' l1 l2 l3; (try k_sweep))) | (k_here; (with_reducible show wpAny _ _ (call (Value.ref 123) _ _) _ _ _); k_dflt (refine' cong_take_C ?k1 ?k2 ?k3 ?k5 ?k6 ?k7 ?k71 ?k8 ?k9 ?x1 ?a1 ?a2 ?a3 ?c1 ?c2 ?c3 ?s1 ?s2 ?d1 ?d2 ?e1 ?e2 ?N ?_; (case N => k_asm); (case k1 => k_asm); (case k2 => k_asm); (case k3 => k_asm); (case k5 => k_asm); (case k6 => first | exact rfl | assumption); (case x1 => k_mem); (case a1 => k_mem); (case a2 => l_ints); (case a3 => kst_p2); (case c1 => k_mem); (case c2 => l_ints); (case c3 => kst_p2); (case s1 => l_ints); (case s2 => kst_p2); (case d1 => kst_p2); (case d2 => kst_p2); (case e1 => k_all); (case e2 => assumption); (case k7 => assumption); (case k71 => assumption); (case k8 => ktr_room); (case k9 => ktr_units); k_whole; intro r' pr' pvs' pk' ls' svs' k' h' tk' t' F' N' I1' I2' l1 l2 l3; (try k_sweep))) | (k_here; (with_reducible show wpAny _ _ (binaryOp Operator.FloorDiv (Value.int (Nat.cast _) _) (Value.int 2 _)) _ _ _); k_dflt (refine' floordiv_two ?_; k_whole)) | (k_here; (with_reducible show wpAny _ _ (binaryOp Operator.Mod (Value.int (Nat.cast _) _) (Value.int (Nat.cast _) _)) _ _ _); k_dflt (refine' mod_nat ?a ?_; (case a => omega); k_whole)) | (k_here; (with_reducible show wpAny _ _ (binaryOp Operator.FloorDiv (Value.int (Nat.cast _) _) (Value.int (Nat.cast _) _)) _ _ _); k_dflt (refine' floordiv_nat ?a ?b ?_; (case a => omega); (case b => omega); k_whole)) | (k_here; (with_reducible show wpAny _ _ (binaryOp Operator.Mult (Value.ref _) (Value.int _ _)) _ _ _); k_dflt (refine' zeros_C ?F ?N ?l ?a ?b ?_; (case F => k_asm); (case N => k_asm); (case l => k_mem); (case a => first | exact Int.natCast_nonneg _ | omega); (case b => omega); k_whole); intro r' h' vs' F' N' I' l1; (try k_lt l1); (try k_sweep)) | ((with_reducible show wpAny _ _ (call (Value.ref _) _ _) _ _ _); (k_here; k_dflt (first   | (refine' call_cls ?k1 ?k2 ?k3 ?k4 ?k5 ?k6 ?_; (case k1 => k_asm); (case k2 => k_asm); (case k3 => k_asm); (case k4 => k_is); (case k5 => k_is); (case k6 => k_is); k_whole; intro x' d' h' F' N' l1 l2; (try k_lt l1); (try k_lt2 l2); (try k_sweep); (first | (refine' code_defC ?k1 ?k2 ?k3 ?k4 ?k5 ?kA ?kF ?kK ?k6 ?k7 ?k8 ?k9 ?kB ?kD ?_ ?c2 ?c3 ?c4; (case kA => exact rfl); (case kF => exact rfl); (case kK => first | exact rfl | assumption); (case k1 => k_asm); (case k2 => k_asm); (case k3 => k_asm); (case k4 => k_asm); (case k5 => k_asm); (case k6 => k_is); (case k7 => k_is); (case k8 => ktr_room); (case k9 => first | exact BindsTo.of_eq rfl | exact binds_K (by k_in) rfl (by k_is) rfl rfl rfl); (case kB => exact rfl); (case kD => decide +kernel); (case c2 => exact rfl); (case c3 => exact rfl); (case c4 => exact rfl); k_whole; intro g' L' h' tk' cells' FG' F' N' Y' B' X' T' l1; (try k_lt l1); k_cells Y'; (try simp only [List.cons_append, List.nil_append] at N'); (try dsimp only); (try k_lift B'); (try k_fold)) | (refine' code_def ?k1 ?k2 ?k3 ?k4 ?k5 ?kA ?kF ?kK ?k6 ?k7 ?k8 ?k9 ?kB ?_ ?c2 ?c3 ?c4 ?c5; (case kA => exact rfl); (case kF => exact rfl); (case kK => first | exact rfl | assumption); (case k1 => k_asm); (case k2 => k_asm); (case k3 => k_asm); (case k4 => k_asm); (case k5 => k_asm); (case k6 => k_is); (case k7 => k_is); (case k8 => ktr_room); (case k9 => first | exact BindsTo.of_eq rfl | exact binds_K (by k_in) rfl (by k_is) rfl rfl rfl); (case c5 => decide); (case kB => exact locs rfl); (case c2 => exact rfl); (case c3 => exact rfl); (case c4 => exact rfl); k_whole; intro g' L' h' FG' F' N' B' X' T'; (try dsimp only); (try k_lift B'); (try k_fold))))   | (refine wpAny_call ?_; (first | (refine' code_defC ?k1 ?k2 ?k3 ?k4 ?k5 ?kA ?kF ?kK ?k6 ?k7 ?k8 ?k9 ?kB ?kD ?_ ?c2 ?c3 ?c4; (case kA => exact rfl); (case kF => exact rfl); (case kK => first | exact rfl | assumption); (case k1 => k_asm); (case k2 => k_asm); (case k3 => k_asm); (case k4 => k_asm); (case k5 => k_asm); (case k6 => k_is); (case k7 => k_is); (case k8 => ktr_room); (case k9 => first | exact BindsTo.of_eq rfl | exact binds_K (by k_in) rfl (by k_is) rfl rfl rfl); (case kB => exact rfl); (case kD => decide +kernel); (case c2 => exact rfl); (case c3 => exact rfl); (case c4 => exact rfl); k_whole; intro g' L' h' tk' cells' FG' F' N' Y' B' X' T' l1; (try k_lt l1); k_cells Y'; (try simp only [List.cons_append, List.nil_append] at N'); (try dsimp only); (try k_lift B'); (try k_fold)) | (refine' code_def ?k1 ?k2 ?k3 ?k4 ?k5 ?kA ?kF ?kK ?k6 ?k7 ?k8 ?k9 ?kB ?_ ?c2 ?c3 ?c4 ?c5; (case kA => exact rfl); (case kF => exact rfl); (case kK => first | exact rfl | assumption); (case k1 => k_asm); (case k2 => k_asm); (case k3 => k_asm); (case k4 => k_asm); (case k5 => k_asm); (case k6 => k_is); (case k7 => k_is); (case k8 => ktr_room); (case k9 => first | exact BindsTo.of_eq rfl | exact binds_K (by k_in) rfl (by k_is) rfl rfl rfl); (case c5 => decide); (case kB => exact locs rfl); (case c2 => exact rfl); (case c3 => exact rfl); (case c4 => exact rfl); k_whole; intro g' L' h' FG' F' N' B' X' T'; (try dsimp only); (try k_lift B'); (try k_fold))))))) | ((with_reducible show wpAny _ _ (exec (Stmt.While _ _ _ _) _) _ _ _); refine Hold.intro ?_) | (first | with_reducible refine TurnEnd.ret ?_ | with_reducible refine TurnEnd.brk ?_) | ((with_reducible show wpAny _ _ (pyIter _) _ _ _); refine Hold.intro ?_) | (k_end; wrow_close) | walk1 | (dsimp only; walk1) | (leave1; try dsimp only))
    rename Fr h₀ L _ m => F6
    rename News h₀ L _ _ => N6
    exact ret _ [_, _] _ _ _ _ _ _ F6 (news_x0 N6) (.lag hx (by assumption)) (.part List.mem_cons_self mem1 (by assumption)) (fresh_two (by assumption) (by assumption) (by assumption))
end
section
variable {w : World} {mean : ExcName → Option Value} {mg mb : Str → Option Value}
  {dp un : Nat} {gd : Option (List Code)} {cn : Str} {cs : Scope} {a : Addr} {ccd : Value} {cl : List (Str × Addr)} {outer : List Env} {A₀ : Around} {base h₀ : Heap} {L : Addr} {m : Str → Option Value} {news : Led} {s : Shared}
  {Q E : Value → Shared → Prop}
  (B : Below A₀ base outer h₀) (F : Fr h₀ L s.heap m) (X : (hd.heap_39 w.params).In h₀) (N : News h₀ L s.heap news) (T : Top hd.view_39 (looseW hd.view_39 []) mean mg mb h₀) (hk : cs.kind = .function)
include B F X N T hk
omit N B in
set_option maxHeartbeats 8000000 in
theorem taken5_C {x y dx ls : Addr} {D : Obj} {svs : List Value} {k3 g : Nat} {c : Src} {W : Nat} {tw u0 u1 : Tok} (B : Below A₀ h₀ [] h₀) (hW : 0 < W) (hW2 : W ≤ 6) (hd1 : dp + 40 < recursionLimit) (hu : un + 200 < cLine)
    (hok : c.ok W) {n2 : Led} (hsub : ∀ p ∈ n2, p ∈ news) (hsrc : SrcIs w W n2 x dx D ls svs c) (hy : (y, tupO [.int 5 u0, .int (g : Int) u1]) ∈ news) (hg : g ≤ 8)
    (hdx : ∀ p ∈ news, p.1 ≠ dx) (hls : ∀ p ∈ news, p.1 ≠ ls) (hlx : ls ≠ dx)
    (N : News h₀ L s.heap ((dx, D) :: (ls, lst svs k3) :: news))
    (ret : ∀ v nw D' ls' svs' k3' h' tk', Fr h₀ L h' m → News h₀ L h' ((dx, D') :: (ls', lst svs' k3') :: (nw ++ news)) → SrcIs w W n2 x dx D' ls' svs' (taken W c 5 g).1 → AnsIs W nw v (taken W c 5 g).2 → FreshAns nw dx ls' news → Q v { s with heap := h', toks := tk' }) :
    wpAny (model Challenge.rw_sj0076_01.row.prog w) (ktrTop dp un gd cn cs L a ccd cl []) (call (.ref 245) [.ref x, .ref y, .int W tw]) Q E s := by
  have hwi : (0 : Int) < (W : Int) := by omega
  have hwi2 : (W : Int) ≤ 6 := by omega
  refine wpAny_call ?_
  k_dflt (refine' code_defS0X ?k1 ?k2 ?k3 ?k4 ?k5 ?kA ?kf ?kK ?k6 ?k7 ?k8 ?k9 ?kB ?_ ?c2 ?c3 ?c4 ?c5; (case kA => exact rfl); (case kf => exact rfl); (case kK => first | exact rfl | assumption); (case k2 => k_asm); (case k1 => assumption); (case k3 => k_asm); (case k4 => k_asm); (case k5 => k_asm); (case k6 => k_is); (case k7 => k_is); (case k8 => ktr_room); (case k9 => first | exact binds_K (by k_in) rfl (by k_is) rfl rfl rfl | exact BindsTo.of_eq rfl); (case kB => exact locs rfl); (case c2 => exact rfl); (case c3 => exact rfl); (case c4 => exact rfl); (case c5 => decide); k_whole; intro g' L' h' FG' F' N' B' X' T' D'; (try dsimp only); (try k_lift B'); (try k_fold))
  repeat' ((fail_if_success (with_reducible show Hold _)); first | (with_reducible refine Cn.out (by assumption) ?_) | (first | (with_reducible refine Co.ret (by assumption) ?_) | (with_reducible refine Co.brk (by assumption) ?_) | (with_reducible refine Co.cont (by assumption) ?_) | (with_reducible refine Cnt.out (by assumption) ?_; (try dsimp only))) | (k_unfold; (try dsimp only)) | ((with_reducible show wpAny _ _ (execs _ _) _ _ _); (first | ((fail_if_success (with_reducible refine Cn.seen (by first | exact Or.inl (by assumption) | exact Or.inr (by assumption)) ?_)); refine Cnt.gen ?_; intro qk hqk) | (with_reducible refine execs_one ?_))) | (k_here; (with_reducible show wpAny _ _ (binaryOp Operator.FloorDiv (Value.int (Nat.cast _) _) (Value.int 2 _)) _ _ _); k_dflt (refine' floordiv_two ?_; k_whole)) | (k_here; (with_reducible show wpAny _ _ (binaryOp Operator.Mod (Value.int (Nat.cast _) _) (Value.int (Nat.cast _) _)) _ _ _); k_dflt (refine' mod_nat ?a ?_; (case a => omega); k_whole)) | (k_here; (with_reducible show wpAny _ _ (binaryOp Operator.FloorDiv (Value.int (Nat.cast _) _) (Value.int (Nat.cast _) _)) _ _ _); k_dflt (refine' floordiv_nat ?a ?b ?_; (case a => omega); (case b => omega); k_whole)) | (k_here; (with_reducible show wpAny _ _ (binaryOp Operator.Mult (Value.ref _) (Value.int _ _)) _ _ _); k_dflt (refine' zeros_C ?F ?N ?l ?a ?b ?_; (case F => k_asm); (case N => k_asm); (case l => k_mem); (case a => first | exact Int.natCast_nonneg _ | omega); (case b => omega); k_whole); intro r' h' vs' F' N' I' l1; (try k_lt l1); (try k_sweep)) | ((with_reducible show wpAny _ _ (call (Value.ref _) _ _) _ _ _); (k_here; k_dflt (first   | (refine' call_cls ?k1 ?k2 ?k3 ?k4 ?k5 ?k6 ?_; (case k1 => k_asm); (case k2 => k_asm); (case k3 => k_asm); (case k4 => k_is); (case k5 => k_is); (case k6 => k_is); k_whole; intro x' d' h' F' N' l1 l2; (try k_lt l1); (try k_lt2 l2); (try k_sweep); (first | (refine' code_defC ?k1 ?k2 ?k3 ?k4 ?k5 ?kA ?kF ?kK ?k6 ?k7 ?k8 ?k9 ?kB ?kD ?_ ?c2 ?c3 ?c4; (case kA => exact rfl); (case kF => exact rfl); (case kK => first | exact rfl | assumption); (case k1 => k_asm); (case k2 => k_asm); (case k3 => k_asm); (case k4 => k_asm); (case k5 => k_asm); (case k6 => k_is); (case k7 => k_is); (case k8 => ktr_room); (case k9 => first | exact BindsTo.of_eq rfl | exact binds_K (by k_in) rfl (by k_is) rfl rfl rfl); (case kB => exact rfl); (case kD => decide +kernel); (case c2 => exact rfl); (case c3 => exact rfl); (case c4 => exact rfl); k_whole; intro g' L' h' tk' cells' FG' F' N' Y' B' X' T' l1; (try k_lt l1); k_cells Y'; (try simp only [List.cons_append, List.nil_append] at N'); (try dsimp only); (try k_lift B'); (try k_fold)) | (refine' code_def ?k1 ?k2 ?k3 ?k4 ?k5 ?kA ?kF ?kK ?k6 ?k7 ?k8 ?k9 ?kB ?_ ?c2 ?c3 ?c4 ?c5; (case kA => exact rfl); (case kF => exact rfl); (case kK => first | exact rfl | assumption); (case k1 => k_asm); (case k2 => k_asm); (case k3 => k_asm); (case k4 => k_asm); (case k5 => k_asm); (case k6 => k_is); (case k7 => k_is); (case k8 => ktr_room); (case k9 => first | exact BindsTo.of_eq rfl | exact binds_K (by k_in) rfl (by k_is) rfl rfl rfl); (case c5 => decide); (case kB => exact locs rfl); (case c2 => exact rfl); (case c3 => exact rfl); (case c4 => exact rfl); k_whole; intro g' L' h' FG' F' N' B' X' T'; (try dsimp only); (try k_lift B'); (try k_fold))))   | (refine wpAny_call ?_; (first | (refine' code_defC ?k1 ?k2 ?k3 ?k4 ?k5 ?kA ?kF ?kK ?k6 ?k7 ?k8 ?k9 ?kB ?kD ?_ ?c2 ?c3 ?c4; (case kA => exact rfl); (case kF => exact rfl); (case kK => first | exact rfl | assumption); (case k1 => k_asm); (case k2 => k_asm); (case k3 => k_asm); (case k4 => k_asm); (case k5 => k_asm); (case k6 => k_is); (case k7 => k_is); (case k8 => ktr_room); (case k9 => first | exact BindsTo.of_eq rfl | exact binds_K (by k_in) rfl (by k_is) rfl rfl rfl); (case kB => exact rfl); (case kD => decide +kernel); (case c2 => exact rfl); (case c3 => exact rfl); (case c4 => exact rfl); k_whole; intro g' L' h' tk' cells' FG' F' N' Y' B' X' T' l1; (try k_lt l1); k_cells Y'; (try simp only [List.cons_append, List.nil_append] at N'); (try dsimp only); (try k_lift B'); (try k_fold)) | (refine' code_def ?k1 ?k2 ?k3 ?k4 ?k5 ?kA ?kF ?kK ?k6 ?k7 ?k8 ?k9 ?kB ?_ ?c2 ?c3 ?c4 ?c5; (case kA => exact rfl); (case kF => exact rfl); (case kK => first | exact rfl | assumption); (case k1 => k_asm); (case k2 => k_asm); (case k3 => k_asm); (case k4 => k_asm); (case k5 => k_asm); (case k6 => k_is); (case k7 => k_is); (case k8 => ktr_room); (case k9 => first | exact BindsTo.of_eq rfl | exact binds_K (by k_in) rfl (by k_is) rfl rfl rfl); (case c5 => decide); (case kB => exact locs rfl); (case c2 => exact rfl); (case c3 => exact rfl); (case c4 => exact rfl); k_whole; intro g' L' h' FG' F' N' B' X' T'; (try dsimp only); (try k_lift B'); (try k_fold))))))) | ((with_reducible show wpAny _ _ (exec (Stmt.While _ _ _ _) _) _ _ _); refine Hold.intro ?_) | (first | with_reducible refine TurnEnd.ret ?_ | with_reducible refine TurnEnd.brk ?_) | ((with_reducible show wpAny _ _ (pyIter _) _ _ _); refine Hold.intro ?_) | (k_end; wrow_close) | walk1 | (dsimp only; walk1) | (leave1; try dsimp only))
  · rename Fr h₀ L _ m => F6
    rename News h₀ L _ _ => N6
    exact ret _ [] _ _ _ _ _ _ F6 N6 hsrc .none (fresh_nil hlx hls)
  · rename Fr h₀ L _ m => F6
    rename News h₀ L _ _ => N6
    exact ret _ [] _ _ _ _ _ _ F6 (news_tl1 N6) hsrc .none (fresh_nil hlx hls)
noncomputable def DeedOk (f g : Nat) : Prop := f ≤ 5 ∧ g ≤ 8 ∧ (f = 2 ∨ f = 3 → 0 < g)
omit N B in
/-- a deed done: what it tells, and the source behind it -/
theorem taken_C {x y dx ls : Addr} {D : Obj} {svs : List Value} {k3 f g : Nat} {c : Src} {W : Nat} {tw u0 u1 : Tok} (B : Below A₀ h₀ [] h₀) (hW : 0 < W) (hW2 : W ≤ 6) (hd1 : dp + 40 < recursionLimit) (hu : un + 200 < cLine)
    (hok : c.ok W) {n2 : Led} (hsub : ∀ p ∈ n2, p ∈ news) (hsrc : SrcIs w W n2 x dx D ls svs c) (hy : (y, tupO [.int (f : Int) u0, .int (g : Int) u1]) ∈ news) (hdeed : DeedOk f g)
    (hdx : ∀ p ∈ news, p.1 ≠ dx) (hls : ∀ p ∈ news, p.1 ≠ ls) (hlx : ls ≠ dx)
    (N : News h₀ L s.heap ((dx, D) :: (ls, lst svs k3) :: news))
    (ret : ∀ v nw D' ls' svs' k3' h' tk', Fr h₀ L h' m → News h₀ L h' ((dx, D') :: (ls', lst svs' k3') :: (nw ++ news)) → SrcIs w W n2 x dx D' ls' svs' (taken W c f g).1 → AnsIs W nw v (taken W c f g).2 → FreshAns nw dx ls' news → Q v { s with heap := h', toks := tk' }) :
    wpAny (model Challenge.rw_sj0076_01.row.prog w) (ktrTop dp un gd cn cs L a ccd cl []) (call (.ref 245) [.ref x, .ref y, .int W tw]) Q E s := by
  refine hide fun G9 hG9 => ?_
  obtain ⟨d1, d2, d3⟩ := hdeed
  refine hG9 ?_
  clear hG9 G9
  have hf : f = 0 ∨ f = 1 ∨ f = 2 ∨ f = 3 ∨ f = 4 ∨ f = 5 := by omega
  rcases hf with rfl | rfl | rfl | rfl | rfl | rfl
  · exact taken0_C B F X T hk hW hW2 hd1 hu hok hsub hsrc hy hdx hls hlx N ret
  · exact taken1_C B F X T hk hW hW2 hd1 hu hok hsub hsrc hy (by omega) hdx hls hlx N ret
  · exact taken2_C B F X T hk hW hW2 hd1 hu hok hsub hsrc hy (d3 (.inl rfl)) (by omega) hdx hls hlx N ret
  · exact taken3_C B F X T hk hW hW2 hd1 hu hok hsub hsrc hy (d3 (.inr rfl)) (by omega) hdx hls hlx N ret
  · exact taken4_C B F X T hk hW hW2 hd1 hu hok hsub hsrc hy hdx hls hlx N ret
  · exact taken5_C F X T hk B hW hW2 hd1 hu hok hsub hsrc hy d2 hdx hls hlx N ret
end
section
variable {w : World} {mean : ExcName → Option Value} {mg mb : Str → Option Value}
  {dp un : Nat} {gd : Option (List Code)} {cn : Str} {cs : Scope} {a : Addr} {ccd : Value} {cl : List (Str × Addr)} {outer : List Env} {A₀ : Around} {base h₀ : Heap} {L : Addr} {m : Str → Option Value} {news : Led} {s : Shared}
  {Q E : Value → Shared → Prop}
  (B : Below A₀ base outer h₀) (F : Fr h₀ L s.heap m) (X : (hd.heap_39 w.params).In h₀) (N : News h₀ L s.heap news) (T : Top hd.view_39 (looseW hd.view_39 []) mean mg mb h₀) (hk : cs.kind = .function)
include B F X N T hk
omit B F X N T hk in
theorem deed1 {v : Nat} (h : (v : Int) < 8) : DeedOk 1 v := ⟨by decide, by omega, fun h => absurd h (by decide)⟩
omit B F X N T hk in
theorem any23 {f : Nat} (h : ([2, 3].any fun x => x == (f : Int)) = true) : f = 2 ∨ f = 3 := by
  simp only [List.any_cons, List.any_nil, Bool.or_false, Bool.or_eq_true, beq_iff_eq] at h
  omega
omit B F X N T hk in
theorem any23f {f : Nat} (h : ([2, 3].any fun x => x == (f : Int)) = false) : f ≠ 2 ∧ f ≠ 3 := by
  constructor <;> (rintro rfl; revert h; decide)
omit B F X N T hk in
theorem mod4 (v : Nat) : v % 4 = 0 ∨ v % 4 = 1 ∨ v % 4 = 2 ∨ v % 4 = 3 := by omega
omit B F X N T hk in
theorem deed_pow (v : Nat) : (2 : Int) ^ ((v : Int).fmod 4).toNat = ((2 ^ (v % 4) : Nat) : Int) := by
  have e : (v : Int).fmod 4 = ((v % 4 : Nat) : Int) := fmod_nat v 4
  rw [e, Int.toNat_natCast, cast_pow]
omit B F X N T hk in
theorem deed_add (v : Nat) : 1 + (v : Int).fmod 4 = ((1 + v % 4 : Nat) : Int) := by
  have e : (v : Int).fmod 4 = ((v % 4 : Nat) : Int) := fmod_nat v 4
  rw [e]; omega
omit B F X N T hk in
theorem deed2r (v : Nat) : 2 ^ (v % 4) = 1 ∨ 2 ^ (v % 4) = 2 ∨ 2 ^ (v % 4) = 4 ∨ 2 ^ (v % 4) = 8 := by
  rcases mod4 v with e | e | e | e <;> rw [e] <;> decide
omit B F X N T hk in
theorem deed2 {f v : Nat} (h : ([2, 3].any fun x => x == (f : Int)) = true) : DeedOk f (2 ^ (v % 4)) := by
  have := any23 h
  have := deed2r v
  exact ⟨by omega, by omega, fun _ => by omega⟩
omit B F X N T hk in
theorem deed3 {f v : Nat} (h : ([2, 3].any fun x => x == (f : Int)) = true) : DeedOk f (1 + v % 4) := by
  have := any23 h
  exact ⟨by omega, by omega, fun _ => by omega⟩
omit B F X N T hk in
theorem deed4 {f v : Nat} (h : ([2, 3].any fun x => x == (f : Int)) = false) (h6 : (f : Int) < 6) (h8 : (v : Int) < 8) : DeedOk f v := by
  have := any23f h
  exact ⟨by omega, by omega, fun h => by omega⟩
omit B F X N T hk in
theorem deed4r {f : Nat} (h : ([2, 3].any fun x => x == (f : Int)) = false) (h2 : f = 2 ∨ f = 3) : False := by
  have := any23f h
  omega
omit B F X N T hk in
theorem news_d1 {h₀ h : Heap} {L : Addr} {a b c : Addr × Obj} {r : Led} (N : News h₀ L h (a :: b :: c :: r)) : News h₀ L h (a :: c :: r) :=
  kst_newsOf N (fun x hx => by
    simp only [List.mem_cons] at hx ⊢
    rcases hx with h | h | h <;> simp [h])
omit B F X N T hk in
theorem news_d2 {h₀ h : Heap} {L : Addr} {a b c d : Addr × Obj} {r : Led} (N : News h₀ L h (a :: b :: c :: d :: r)) : News h₀ L h (a :: d :: r) :=
  kst_newsOf N (fun x hx => by
    simp only [List.mem_cons] at hx ⊢
    rcases hx with h | h | h <;> simp [h])
omit N in
set_option maxHeartbeats 8000000 in
theorem deed_C {x lc : Addr} {k : Int} {tk0 : Tok} {n1 n2 : Nat} {vs : List Value} {ns : List Int} {isrow : Bool} (hd1 : dp + 10 < recursionLimit) (hu : un + 60 < cLine)
    (hk0 : 0 ≤ k) (hk1 : k ≤ 990) (hlc : (lc, lst vs n2) ∈ news) (hi : IntsAre vs ns) (hx : ∀ p ∈ news, p.1 ≠ x) (hlen : ns.length ≤ 100)
    (N : News h₀ L s.heap ((x, lst [.int k tk0, .ref lc] n1) :: news)) 
    (ret : ∀ (f g : Nat) r t u t1 h' tk', DeedOk f g → (isrow = true → f = 2 ∨ f = 3 → g = 1 ∨ g = 2 ∨ g = 4 ∨ g = 8) → Fr h₀ L h' m → News h₀ L h' ((r, tupO [.int (f : Int) t, .int (g : Int) u]) :: (x, lst [.int (k + 2) t1, .ref lc] n1) :: news) → (∀ p ∈ news, p.1 < r) → r ≠ x → Q (.ref r) { s with heap := h', toks := tk' }) :
    wpAny (model Challenge.rw_sj0076_01.row.prog w) (ktrTop dp un gd cn cs L a ccd cl outer) (call (.ref 259) [.ref x, .bool isrow]) Q E s := by
  refine wpAny_call ?_
  k_dflt (first | (refine' code_defC ?k1 ?k2 ?k3 ?k4 ?k5 ?kA ?kF ?kK ?k6 ?k7 ?k8 ?k9 ?kB ?kD ?_ ?c2 ?c3 ?c4; (case kA => exact rfl); (case kF => exact rfl); (case kK => first | exact rfl | assumption); (case k1 => k_asm); (case k2 => k_asm); (case k3 => k_asm); (case k4 => k_asm); (case k5 => k_asm); (case k6 => k_is); (case k7 => k_is); (case k8 => ktr_room); (case k9 => first | exact BindsTo.of_eq rfl | exact binds_K (by k_in) rfl (by k_is) rfl rfl rfl); (case kB => exact rfl); (case kD => decide +kernel); (case c2 => exact rfl); (case c3 => exact rfl); (case c4 => exact rfl); k_whole; intro g' L' h' tk' cells' FG' F' N' Y' B' X' T' l1; (try k_lt l1); k_cells Y'; (try simp only [List.cons_append, List.nil_append] at N'); (try dsimp only); (try k_lift B'); (try k_fold)) | (refine' code_def ?k1 ?k2 ?k3 ?k4 ?k5 ?kA ?kF ?kK ?k6 ?k7 ?k8 ?k9 ?kB ?_ ?c2 ?c3 ?c4 ?c5; (case kA => exact rfl); (case kF => exact rfl); (case kK => first | exact rfl | assumption); (case k1 => k_asm); (case k2 => k_asm); (case k3 => k_asm); (case k4 => k_asm); (case k5 => k_asm); (case k6 => k_is); (case k7 => k_is); (case k8 => ktr_room); (case k9 => first | exact BindsTo.of_eq rfl | exact binds_K (by k_in) rfl (by k_is) rfl rfl rfl); (case c5 => decide); (case kB => exact locs rfl); (case c2 => exact rfl); (case c3 => exact rfl); (case c4 => exact rfl); k_whole; intro g' L' h' FG' F' N' B' X' T'; (try dsimp only); (try k_lift B'); (try k_fold)))
  repeat' ((fail_if_success (with_reducible show Hold _)); first | (with_reducible refine Cn.out (by assumption) ?_) | (first | (with_reducible refine Co.ret (by assumption) ?_) | (with_reducible refine Co.brk (by assumption) ?_) | (with_reducible refine Co.cont (by assumption) ?_) | (with_reducible refine Cnt.out (by assumption) ?_; (try dsimp only))) | (k_unfold; (try dsimp only)) | ((with_reducible show wpAny _ _ (execs _ _) _ _ _); (first | ((fail_if_success (with_reducible refine Cn.seen (by first | exact Or.inl (by assumption) | exact Or.inr (by assumption)) ?_)); refine Cnt.gen ?_; intro qk hqk) | (with_reducible refine execs_one ?_))) | (k_here; (with_reducible show wpAny _ _ (call (Value.ref 214) _ _) _ _ _); k_dflt (refine' poured_C ?k1 ?k2 ?k3 ?k5 ?k6 ?k8 ?k9 ?p1 ?p2 ?p3 ?p4 ?m1 ?i1 ?o1 ?o2 ?N ?_; (case N => first | (with_reducible assumption) | exact news_can1 (by with_reducible assumption) | exact news_can2 (by with_reducible assumption)); (case k1 => k_asm); (case k2 => k_asm); (case k3 => k_asm); (case k5 => k_asm); (case k6 => first | exact rfl | assumption); (case m1 => k_mem); (case i1 => l_ints); (case o1 => k_all); (case o2 => assumption); (case p1 => first | assumption | omega); (case p2 => first | assumption | omega); (case p3 => first | assumption | omega); (case p4 => first | assumption | omega); (case k8 => ktr_room); (case k9 => ktr_units); k_whole; intro v' t' t1' h' tk' b' F' N'; (try k_sweep))) | (k_here; (with_reducible show wpAny _ _ (binaryOp Operator.Mod (Value.int (Nat.cast _) _) (Value.int (Nat.cast _) _)) _ _ _); k_dflt (refine' mod_nat ?a ?_; (case a => omega); k_whole)) | (k_here; (with_reducible show wpAny _ _ (binaryOp Operator.FloorDiv (Value.int (Nat.cast _) _) (Value.int (Nat.cast _) _)) _ _ _); k_dflt (refine' floordiv_nat ?a ?b ?_; (case a => omega); (case b => omega); k_whole)) | (k_here; (with_reducible show wpAny _ _ (binaryOp Operator.Mult (Value.ref _) (Value.int _ _)) _ _ _); k_dflt (refine' zeros_C ?F ?N ?l ?a ?b ?_; (case F => k_asm); (case N => k_asm); (case l => k_mem); (case a => first | exact Int.natCast_nonneg _ | omega); (case b => omega); k_whole); intro r' h' vs' F' N' I' l1; (try k_lt l1); (try k_sweep)) | (k_here; (with_reducible show wpAny _ _ (call (Value.ref 53) _ _) _ _ _); k_dflt (refine' compare_C ?k1 ?k2 ?k3 ?k4 ?k5 ?k6 ?k7 ?k8 ?k9 ?m1 ?i1 ?p1 ?m2 ?i2 ?p2 ?_; (case k1 => k_asm); (case k2 => k_asm); (case k3 => k_asm); (case k4 => k_asm); (case k5 => k_asm); (case k6 => first | exact rfl | assumption); (case m1 => k_mem); (case i1 => l_ints); (case p1 => kst_p2); (case m2 => k_mem); (case i2 => l_ints); (case p2 => kst_p2); (case k7 => assumption); (case k8 => ktr_room); (case k9 => ktr_units); k_whole; intro t' h' tk' F' N'; (try k_sweep))) | (k_here; (with_reducible show wpAny _ _ (call (Value.ref 46) _ _) _ _ _); k_dflt (refine' normal_C ?k1 ?k2 ?k3 ?k4 ?k5 ?k6 ?k7 ?k8 ?k9 ?m1 ?i1 ?p1 ?p2 ?_; (case k1 => k_asm); (case k2 => k_asm); (case k3 => k_asm); (case k4 => k_asm); (case k5 => k_asm); (case k6 => first | exact rfl | assumption); (case m1 => k_mem); (case i1 => l_ints); (case p1 => assumption); (case p2 => kst_p2); (case k7 => assumption); (case k8 => ktr_room); (case k9 => ktr_units); k_whole; intro r' h' tk' vs' F' N' I' l1; (try k_lt l1); (try k_sweep))) | ((with_reducible show wpAny _ _ (exec (Stmt.While _ _ _ _) _) _ _ _); refine Hold.intro ?_) | (first | with_reducible refine TurnEnd.ret ?_ | with_reducible refine TurnEnd.brk ?_) | ((with_reducible show wpAny _ _ (pyIter _) _ _ _); refine Hold.intro ?_) | (k_end; wrow_close) | walk1 | (dsimp only; walk1) | (leave1; try dsimp only))
  · skip
    rename Fr h₀ L _ m => F6
    rename News h₀ L _ _ => N6
    rw [show k + 1 + 1 = k + 2 by omega] at N6
    exact ret 1 _ _ _ _ _ _ _ (deed1 ‹((_ : Nat) : Int) < 8›) (fun _ h => absurd h (by decide)) F6 (news_d1 N6) (by ktr_rel) (by k_ne)
  · have e1 := ‹isrow = true›
    have e2 := ‹([2, 3].any fun x => x == ((_ : Nat) : Int)) = true›
    have e3 := ‹((_ : Nat) : Int) < 8›
    rename Fr h₀ L _ m => F6
    rename News h₀ L _ _ => N6
    rw [show k + 1 + 1 = k + 2 by omega] at N6
    rw [deed_pow] at N6
    exact ret _ _ _ _ _ _ _ _ (deed2 e2) (fun _ h => deed2r _) F6 (news_d2 N6) (by ktr_rel) (by k_ne)
  · have e1 := ‹isrow = false›
    have e2 := ‹([2, 3].any fun x => x == ((_ : Nat) : Int)) = true›
    rename Fr h₀ L _ m => F6
    rename News h₀ L _ _ => N6
    rw [show k + 1 + 1 = k + 2 by omega] at N6
    rw [deed_add] at N6
    exact ret _ _ _ _ _ _ _ _ (deed3 e2) (fun h _ => by rw [e1] at h; cases h) F6 (news_d2 N6) (by ktr_rel) (by k_ne)
  · have e2 := ‹([2, 3].any fun x => x == ((_ : Nat) : Int)) = false›
    have e3 := ‹((_ : Nat) : Int) < 8›
    have e4 := ‹((_ : Nat) : Int) < 6›
    rename Fr h₀ L _ m => F6
    rename News h₀ L _ _ => N6
    rw [show k + 1 + 1 = k + 2 by omega] at N6
    exact ret _ _ _ _ _ _ _ _ (deed4 e2 e4 e3) (fun _ h => (deed4r e2 h).elim) F6 (news_d2 N6) (by ktr_rel) (by k_ne)
end
section
variable {w : World} {mean : ExcName → Option Value} {mg mb : Str → Option Value}
  {dp un : Nat} {gd : Option (List Code)} {cn : Str} {cs : Scope} {a : Addr} {ccd : Value} {cl : List (Str × Addr)} {outer : List Env} {A₀ : Around} {base h₀ : Heap} {L : Addr} {m : Str → Option Value} {news : Led} {s : Shared}
  {Q E : Value → Shared → Prop}
  (B : Below A₀ base outer h₀) (F : Fr h₀ L s.heap m) (X : (hd.heap_39 w.params).In h₀) (N : News h₀ L s.heap news) (T : Top hd.view_39 (looseW hd.view_39 []) mean mg mb h₀) (hk : cs.kind = .function)
include B F X N T hk
noncomputable def Within (W f g : Nat) : Ans → Prop
  | .part n many => f = 0 ∧ n < 2 ^ many ∧ n < 2 ^ W ∧ many ≤ 6
  | .num n => (f = 1 ∧ n < 2 ^ g) ∨ ((f = 2 ∨ f = 3) ∧ n < g)
  | .swap _ => f = 4
  | .none => f = 5
omit N in
set_option maxHeartbeats 8000000 in
theorem within_part {x r pr : Addr} {pvs : List Value} {k n many g : Nat} {W : Nat} {u0 u1 t : Tok} (hW : 0 < W) (hW2 : W ≤ 6) (hd1 : dp + 10 < recursionLimit) (hu : un + 100 < cLine)
    (hx : (x, tupO [.int 0 u0, .int (g : Int) u1]) ∈ news) (h1 : (r, tupO [.ref pr, .int (many : Int) t]) ∈ news) (h2 : (pr, lst pvs k) ∈ news) (hi : IntsAre pvs (up (digs W n))) (hn : n < 2 ^ many) (hn2 : n < 2 ^ W) (hm : many ≤ 6)
    (N : News h₀ L s.heap news)
    (ret : ∀ h' tk', Fr h₀ L h' m → News h₀ L h' news → Q (.bool true) { s with heap := h', toks := tk' }) :
    wpAny (model Challenge.rw_sj0076_01.row.prog w) (ktrTop dp un gd cn cs L a ccd cl outer) (call (.ref 252) [.ref r, .ref x]) Q E s := by
  have hl : (digs W n).length ≤ 1 := digs_len_le_mul hW (by rw [Nat.mul_one]; exact hn2)
  have hpl : pvs.length ≤ 1 := by rw [hi.length, up_length]; exact hl
  have hul : (up (digs W n)).length ≤ 1 := by rw [up_length]; exact hl
  have hul2 : ((up (digs W n)).length : Int) < 2 := by omega
  have hsum : (up (digs W n)).sum = (n : Int) := by
    rw [up_sum]
    congr 1
    have e := nval_digs hW n
    cases hq : digs W n with
    | nil => rw [hq] at e; rw [← e]; rfl
    | cons d l =>
      rw [hq] at hl e
      have : l = [] := List.eq_nil_of_length_eq_zero (by simpa using hl)
      subst this
      rw [← e]; simp [nval]
  have hmany : (0 : Int) ≤ (many : Int) ∧ (many : Int) ≤ 6 := ⟨by omega, by omega⟩
  have hnn : (n : Int) < 2 ^ (many : Int).toNat := by
    rw [Int.toNat_natCast, ← cast_pow]
    exact_mod_cast hn
  refine wpAny_call ?_
  k_dflt (first | (refine' code_defC ?k1 ?k2 ?k3 ?k4 ?k5 ?kA ?kF ?kK ?k6 ?k7 ?k8 ?k9 ?kB ?kD ?_ ?c2 ?c3 ?c4; (case kA => exact rfl); (case kF => exact rfl); (case kK => first | exact rfl | assumption); (case k1 => k_asm); (case k2 => k_asm); (case k3 => k_asm); (case k4 => k_asm); (case k5 => k_asm); (case k6 => k_is); (case k7 => k_is); (case k8 => ktr_room); (case k9 => first | exact BindsTo.of_eq rfl | exact binds_K (by k_in) rfl (by k_is) rfl rfl rfl); (case kB => exact rfl); (case kD => decide +kernel); (case c2 => exact rfl); (case c3 => exact rfl); (case c4 => exact rfl); k_whole; intro g' L' h' tk' cells' FG' F' N' Y' B' X' T' l1; (try k_lt l1); k_cells Y'; (try simp only [List.cons_append, List.nil_append] at N'); (try dsimp only); (try k_lift B'); (try k_fold)) | (refine' code_def ?k1 ?k2 ?k3 ?k4 ?k5 ?kA ?kF ?kK ?k6 ?k7 ?k8 ?k9 ?kB ?_ ?c2 ?c3 ?c4 ?c5; (case kA => exact rfl); (case kF => exact rfl); (case kK => first | exact rfl | assumption); (case k1 => k_asm); (case k2 => k_asm); (case k3 => k_asm); (case k4 => k_asm); (case k5 => k_asm); (case k6 => k_is); (case k7 => k_is); (case k8 => ktr_room); (case k9 => first | exact BindsTo.of_eq rfl | exact binds_K (by k_in) rfl (by k_is) rfl rfl rfl); (case c5 => decide); (case kB => exact locs rfl); (case c2 => exact rfl); (case c3 => exact rfl); (case c4 => exact rfl); k_whole; intro g' L' h' FG' F' N' B' X' T'; (try dsimp only); (try k_lift B'); (try k_fold)))
  repeat' ((fail_if_success (with_reducible show Hold _)); first | (with_reducible refine Cn.out (by assumption) ?_) | (first | (with_reducible refine Co.ret (by assumption) ?_) | (with_reducible refine Co.brk (by assumption) ?_) | (with_reducible refine Co.cont (by assumption) ?_) | (with_reducible refine Cnt.out (by assumption) ?_; (try dsimp only))) | (k_unfold; (try dsimp only)) | ((with_reducible show wpAny _ _ (execs _ _) _ _ _); (first | ((fail_if_success (with_reducible refine Cn.seen (by first | exact Or.inl (by assumption) | exact Or.inr (by assumption)) ?_)); refine Cnt.gen ?_; intro qk hqk) | (with_reducible refine execs_one ?_))) | (k_here; (with_reducible show wpAny _ _ (binaryOp Operator.Mod (Value.int (Nat.cast _) _) (Value.int (Nat.cast _) _)) _ _ _); k_dflt (refine' mod_nat ?a ?_; (case a => omega); k_whole)) | (k_here; (with_reducible show wpAny _ _ (binaryOp Operator.FloorDiv (Value.int (Nat.cast _) _) (Value.int (Nat.cast _) _)) _ _ _); k_dflt (refine' floordiv_nat ?a ?b ?_; (case a => omega); (case b => omega); k_whole)) | (k_here; (with_reducible show wpAny _ _ (binaryOp Operator.Mult (Value.ref _) (Value.int _ _)) _ _ _); k_dflt (refine' zeros_C ?F ?N ?l ?a ?b ?_; (case F => k_asm); (case N => k_asm); (case l => k_mem); (case a => first | exact Int.natCast_nonneg _ | omega); (case b => omega); k_whole); intro r' h' vs' F' N' I' l1; (try k_lt l1); (try k_sweep)) | ((with_reducible show wpAny _ _ (exec (Stmt.While _ _ _ _) _) _ _ _); refine Hold.intro ?_) | (first | with_reducible refine TurnEnd.ret ?_ | with_reducible refine TurnEnd.brk ?_) | ((with_reducible show wpAny _ _ (pyIter _) _ _ _); refine Hold.intro ?_) | (k_end; wrow_close) | walk1 | (dsimp only; walk1) | (leave1; try dsimp only))
  rw [hsum, decide_eq_true hnn]
  rename Fr h₀ L _ m => F6
  rename News h₀ L _ _ => N6
  first | exact ret _ _ F6 N6 | exact ret _ _ F6 (news_tl1 N6) | exact ret _ _ F6 (news_tl2 N6)
omit N in
set_option maxHeartbeats 8000000 in
theorem within_swap {x r : Addr} {k g : Nat} {b : Bool} {u0 u1 t1 t2 : Tok} (hd1 : dp + 10 < recursionLimit) (hu : un + 100 < cLine)
    (hx : (x, tupO [.int 4 u0, .int (g : Int) u1]) ∈ news) (h1 : (r, lst [.str (if b then sOther else sOne) t1, .str (if b then sOne else sOther) t2] k) ∈ news)
    (N : News h₀ L s.heap news)
    (ret : ∀ h' tk', Fr h₀ L h' m → News h₀ L h' news → Q (.bool true) { s with heap := h', toks := tk' }) :
    wpAny (model Challenge.rw_sj0076_01.row.prog w) (ktrTop dp un gd cn cs L a ccd cl outer) (call (.ref 252) [.ref r, .ref x]) Q E s := by
  cases b with
  | true =>
    replace h1 : (r, lst [.str (Str.ofString "other") t1, .str (Str.ofString "one") t2] k) ∈ news := h1
    refine wpAny_call ?_
    k_dflt (first | (refine' code_defC ?k1 ?k2 ?k3 ?k4 ?k5 ?kA ?kF ?kK ?k6 ?k7 ?k8 ?k9 ?kB ?kD ?_ ?c2 ?c3 ?c4; (case kA => exact rfl); (case kF => exact rfl); (case kK => first | exact rfl | assumption); (case k1 => k_asm); (case k2 => k_asm); (case k3 => k_asm); (case k4 => k_asm); (case k5 => k_asm); (case k6 => k_is); (case k7 => k_is); (case k8 => ktr_room); (case k9 => first | exact BindsTo.of_eq rfl | exact binds_K (by k_in) rfl (by k_is) rfl rfl rfl); (case kB => exact rfl); (case kD => decide +kernel); (case c2 => exact rfl); (case c3 => exact rfl); (case c4 => exact rfl); k_whole; intro g' L' h' tk' cells' FG' F' N' Y' B' X' T' l1; (try k_lt l1); k_cells Y'; (try simp only [List.cons_append, List.nil_append] at N'); (try dsimp only); (try k_lift B'); (try k_fold)) | (refine' code_def ?k1 ?k2 ?k3 ?k4 ?k5 ?kA ?kF ?kK ?k6 ?k7 ?k8 ?k9 ?kB ?_ ?c2 ?c3 ?c4 ?c5; (case kA => exact rfl); (case kF => exact rfl); (case kK => first | exact rfl | assumption); (case k1 => k_asm); (case k2 => k_asm); (case k3 => k_asm); (case k4 => k_asm); (case k5 => k_asm); (case k6 => k_is); (case k7 => k_is); (case k8 => ktr_room); (case k9 => first | exact BindsTo.of_eq rfl | exact binds_K (by k_in) rfl (by k_is) rfl rfl rfl); (case c5 => decide); (case kB => exact locs rfl); (case c2 => exact rfl); (case c3 => exact rfl); (case c4 => exact rfl); k_whole; intro g' L' h' FG' F' N' B' X' T'; (try dsimp only); (try k_lift B'); (try k_fold)))
    repeat' ((fail_if_success (with_reducible show Hold _)); first | (with_reducible refine Cn.out (by assumption) ?_) | (first | (with_reducible refine Co.ret (by assumption) ?_) | (with_reducible refine Co.brk (by assumption) ?_) | (with_reducible refine Co.cont (by assumption) ?_) | (with_reducible refine Cnt.out (by assumption) ?_; (try dsimp only))) | (k_unfold; (try dsimp only)) | ((with_reducible show wpAny _ _ (execs _ _) _ _ _); (first | ((fail_if_success (with_reducible refine Cn.seen (by first | exact Or.inl (by assumption) | exact Or.inr (by assumption)) ?_)); refine Cnt.gen ?_; intro qk hqk) | (with_reducible refine execs_one ?_))) | (k_here; (with_reducible show wpAny _ _ (binaryOp Operator.Mod (Value.int (Nat.cast _) _) (Value.int (Nat.cast _) _)) _ _ _); k_dflt (refine' mod_nat ?a ?_; (case a => omega); k_whole)) | (k_here; (with_reducible show wpAny _ _ (binaryOp Operator.FloorDiv (Value.int (Nat.cast _) _) (Value.int (Nat.cast _) _)) _ _ _); k_dflt (refine' floordiv_nat ?a ?b ?_; (case a => omega); (case b => omega); k_whole)) | (k_here; (with_reducible show wpAny _ _ (binaryOp Operator.Mult (Value.ref _) (Value.int _ _)) _ _ _); k_dflt (refine' zeros_C ?F ?N ?l ?a ?b ?_; (case F => k_asm); (case N => k_asm); (case l => k_mem); (case a => first | exact Int.natCast_nonneg _ | omega); (case b => omega); k_whole); intro r' h' vs' F' N' I' l1; (try k_lt l1); (try k_sweep)) | ((with_reducible show wpAny _ _ (exec (Stmt.While _ _ _ _) _) _ _ _); refine Hold.intro ?_) | (first | with_reducible refine TurnEnd.ret ?_ | with_reducible refine TurnEnd.brk ?_) | ((with_reducible show wpAny _ _ (pyIter _) _ _ _); refine Hold.intro ?_) | (k_end; wrow_close) | walk1 | (dsimp only; walk1) | (leave1; try dsimp only))
    rename Fr h₀ L _ m => F6
    rename News h₀ L _ _ => N6
    first | exact ret _ _ F6 N6 | exact ret _ _ F6 (news_tl1 N6) | exact ret _ _ F6 (news_tl2 N6)
  | false =>
    replace h1 : (r, lst [.str (Str.ofString "one") t1, .str (Str.ofString "other") t2] k) ∈ news := h1
    refine wpAny_call ?_
    k_dflt (first | (refine' code_defC ?k1 ?k2 ?k3 ?k4 ?k5 ?kA ?kF ?kK ?k6 ?k7 ?k8 ?k9 ?kB ?kD ?_ ?c2 ?c3 ?c4; (case kA => exact rfl); (case kF => exact rfl); (case kK => first | exact rfl | assumption); (case k1 => k_asm); (case k2 => k_asm); (case k3 => k_asm); (case k4 => k_asm); (case k5 => k_asm); (case k6 => k_is); (case k7 => k_is); (case k8 => ktr_room); (case k9 => first | exact BindsTo.of_eq rfl | exact binds_K (by k_in) rfl (by k_is) rfl rfl rfl); (case kB => exact rfl); (case kD => decide +kernel); (case c2 => exact rfl); (case c3 => exact rfl); (case c4 => exact rfl); k_whole; intro g' L' h' tk' cells' FG' F' N' Y' B' X' T' l1; (try k_lt l1); k_cells Y'; (try simp only [List.cons_append, List.nil_append] at N'); (try dsimp only); (try k_lift B'); (try k_fold)) | (refine' code_def ?k1 ?k2 ?k3 ?k4 ?k5 ?kA ?kF ?kK ?k6 ?k7 ?k8 ?k9 ?kB ?_ ?c2 ?c3 ?c4 ?c5; (case kA => exact rfl); (case kF => exact rfl); (case kK => first | exact rfl | assumption); (case k1 => k_asm); (case k2 => k_asm); (case k3 => k_asm); (case k4 => k_asm); (case k5 => k_asm); (case k6 => k_is); (case k7 => k_is); (case k8 => ktr_room); (case k9 => first | exact BindsTo.of_eq rfl | exact binds_K (by k_in) rfl (by k_is) rfl rfl rfl); (case c5 => decide); (case kB => exact locs rfl); (case c2 => exact rfl); (case c3 => exact rfl); (case c4 => exact rfl); k_whole; intro g' L' h' FG' F' N' B' X' T'; (try dsimp only); (try k_lift B'); (try k_fold)))
    repeat' ((fail_if_success (with_reducible show Hold _)); first | (with_reducible refine Cn.out (by assumption) ?_) | (first | (with_reducible refine Co.ret (by assumption) ?_) | (with_reducible refine Co.brk (by assumption) ?_) | (with_reducible refine Co.cont (by assumption) ?_) | (with_reducible refine Cnt.out (by assumption) ?_; (try dsimp only))) | (k_unfold; (try dsimp only)) | ((with_reducible show wpAny _ _ (execs _ _) _ _ _); (first | ((fail_if_success (with_reducible refine Cn.seen (by first | exact Or.inl (by assumption) | exact Or.inr (by assumption)) ?_)); refine Cnt.gen ?_; intro qk hqk) | (with_reducible refine execs_one ?_))) | (k_here; (with_reducible show wpAny _ _ (binaryOp Operator.Mod (Value.int (Nat.cast _) _) (Value.int (Nat.cast _) _)) _ _ _); k_dflt (refine' mod_nat ?a ?_; (case a => omega); k_whole)) | (k_here; (with_reducible show wpAny _ _ (binaryOp Operator.FloorDiv (Value.int (Nat.cast _) _) (Value.int (Nat.cast _) _)) _ _ _); k_dflt (refine' floordiv_nat ?a ?b ?_; (case a => omega); (case b => omega); k_whole)) | (k_here; (with_reducible show wpAny _ _ (binaryOp Operator.Mult (Value.ref _) (Value.int _ _)) _ _ _); k_dflt (refine' zeros_C ?F ?N ?l ?a ?b ?_; (case F => k_asm); (case N => k_asm); (case l => k_mem); (case a => first | exact Int.natCast_nonneg _ | omega); (case b => omega); k_whole); intro r' h' vs' F' N' I' l1; (try k_lt l1); (try k_sweep)) | ((with_reducible show wpAny _ _ (exec (Stmt.While _ _ _ _) _) _ _ _); refine Hold.intro ?_) | (first | with_reducible refine TurnEnd.ret ?_ | with_reducible refine TurnEnd.brk ?_) | ((with_reducible show wpAny _ _ (pyIter _) _ _ _); refine Hold.intro ?_) | (k_end; wrow_close) | walk1 | (dsimp only; walk1) | (leave1; try dsimp only))
    rename Fr h₀ L _ m => F6
    rename News h₀ L _ _ => N6
    first | exact ret _ _ F6 N6 | exact ret _ _ F6 (news_tl1 N6) | exact ret _ _ F6 (news_tl2 N6)
omit N in
set_option maxHeartbeats 8000000 in
theorem within_none {x : Addr} {g : Nat} {u0 u1 : Tok} (hd1 : dp + 10 < recursionLimit) (hu : un + 100 < cLine)
    (hx : (x, tupO [.int 5 u0, .int (g : Int) u1]) ∈ news)
    (N : News h₀ L s.heap news)
    (ret : ∀ h' tk', Fr h₀ L h' m → News h₀ L h' news → Q (.bool true) { s with heap := h', toks := tk' }) :
    wpAny (model Challenge.rw_sj0076_01.row.prog w) (ktrTop dp un gd cn cs L a ccd cl outer) (call (.ref 252) [.none, .ref x]) Q E s := by
  refine wpAny_call ?_
  k_dflt (first | (refine' code_defC ?k1 ?k2 ?k3 ?k4 ?k5 ?kA ?kF ?kK ?k6 ?k7 ?k8 ?k9 ?kB ?kD ?_ ?c2 ?c3 ?c4; (case kA => exact rfl); (case kF => exact rfl); (case kK => first | exact rfl | assumption); (case k1 => k_asm); (case k2 => k_asm); (case k3 => k_asm); (case k4 => k_asm); (case k5 => k_asm); (case k6 => k_is); (case k7 => k_is); (case k8 => ktr_room); (case k9 => first | exact BindsTo.of_eq rfl | exact binds_K (by k_in) rfl (by k_is) rfl rfl rfl); (case kB => exact rfl); (case kD => decide +kernel); (case c2 => exact rfl); (case c3 => exact rfl); (case c4 => exact rfl); k_whole; intro g' L' h' tk' cells' FG' F' N' Y' B' X' T' l1; (try k_lt l1); k_cells Y'; (try simp only [List.cons_append, List.nil_append] at N'); (try dsimp only); (try k_lift B'); (try k_fold)) | (refine' code_def ?k1 ?k2 ?k3 ?k4 ?k5 ?kA ?kF ?kK ?k6 ?k7 ?k8 ?k9 ?kB ?_ ?c2 ?c3 ?c4 ?c5; (case kA => exact rfl); (case kF => exact rfl); (case kK => first | exact rfl | assumption); (case k1 => k_asm); (case k2 => k_asm); (case k3 => k_asm); (case k4 => k_asm); (case k5 => k_asm); (case k6 => k_is); (case k7 => k_is); (case k8 => ktr_room); (case k9 => first | exact BindsTo.of_eq rfl | exact binds_K (by k_in) rfl (by k_is) rfl rfl rfl); (case c5 => decide); (case kB => exact locs rfl); (case c2 => exact rfl); (case c3 => exact rfl); (case c4 => exact rfl); k_whole; intro g' L' h' FG' F' N' B' X' T'; (try dsimp only); (try k_lift B'); (try k_fold)))
  repeat' ((fail_if_success (with_reducible show Hold _)); first | (with_reducible refine Cn.out (by assumption) ?_) | (first | (with_reducible refine Co.ret (by assumption) ?_) | (with_reducible refine Co.brk (by assumption) ?_) | (with_reducible refine Co.cont (by assumption) ?_) | (with_reducible refine Cnt.out (by assumption) ?_; (try dsimp only))) | (k_unfold; (try dsimp only)) | ((with_reducible show wpAny _ _ (execs _ _) _ _ _); (first | ((fail_if_success (with_reducible refine Cn.seen (by first | exact Or.inl (by assumption) | exact Or.inr (by assumption)) ?_)); refine Cnt.gen ?_; intro qk hqk) | (with_reducible refine execs_one ?_))) | (k_here; (with_reducible show wpAny _ _ (binaryOp Operator.Mod (Value.int (Nat.cast _) _) (Value.int (Nat.cast _) _)) _ _ _); k_dflt (refine' mod_nat ?a ?_; (case a => omega); k_whole)) | (k_here; (with_reducible show wpAny _ _ (binaryOp Operator.FloorDiv (Value.int (Nat.cast _) _) (Value.int (Nat.cast _) _)) _ _ _); k_dflt (refine' floordiv_nat ?a ?b ?_; (case a => omega); (case b => omega); k_whole)) | (k_here; (with_reducible show wpAny _ _ (binaryOp Operator.Mult (Value.ref _) (Value.int _ _)) _ _ _); k_dflt (refine' zeros_C ?F ?N ?l ?a ?b ?_; (case F => k_asm); (case N => k_asm); (case l => k_mem); (case a => first | exact Int.natCast_nonneg _ | omega); (case b => omega); k_whole); intro r' h' vs' F' N' I' l1; (try k_lt l1); (try k_sweep)) | ((with_reducible show wpAny _ _ (exec (Stmt.While _ _ _ _) _) _ _ _); refine Hold.intro ?_) | (first | with_reducible refine TurnEnd.ret ?_ | with_reducible refine TurnEnd.brk ?_) | ((with_reducible show wpAny _ _ (pyIter _) _ _ _); refine Hold.intro ?_) | (k_end; wrow_close) | walk1 | (dsimp only; walk1) | (leave1; try dsimp only))
  rename Fr h₀ L _ m => F6
  rename News h₀ L _ _ => N6
  first | exact ret _ _ F6 N6 | exact ret _ _ F6 (news_tl1 N6) | exact ret _ _ F6 (news_tl2 N6)
omit N in
set_option maxHeartbeats 8000000 in
theorem within_bits {x : Addr} {n g : Nat} {u0 u1 t : Tok} (hd1 : dp + 10 < recursionLimit) (hu : un + 100 < cLine)
    (hx : (x, tupO [.int 1 u0, .int (g : Int) u1]) ∈ news) (hg : g ≤ 8) (hn : n < 2 ^ g)
    (N : News h₀ L s.heap news)
    (ret : ∀ h' tk', Fr h₀ L h' m → News h₀ L h' news → Q (.bool true) { s with heap := h', toks := tk' }) :
    wpAny (model Challenge.rw_sj0076_01.row.prog w) (ktrTop dp un gd cn cs L a ccd cl outer) (call (.ref 252) [.int (n : Int) t, .ref x]) Q E s := by
  have hgi : (0 : Int) ≤ (g : Int) ∧ (g : Int) ≤ 8 := ⟨by omega, by omega⟩
  have hnn : (n : Int) < 2 ^ (g : Int).toNat := by
    rw [Int.toNat_natCast, ← cast_pow]
    exact_mod_cast hn
  refine wpAny_call ?_
  k_dflt (first | (refine' code_defC ?k1 ?k2 ?k3 ?k4 ?k5 ?kA ?kF ?kK ?k6 ?k7 ?k8 ?k9 ?kB ?kD ?_ ?c2 ?c3 ?c4; (case kA => exact rfl); (case kF => exact rfl); (case kK => first | exact rfl | assumption); (case k1 => k_asm); (case k2 => k_asm); (case k3 => k_asm); (case k4 => k_asm); (case k5 => k_asm); (case k6 => k_is); (case k7 => k_is); (case k8 => ktr_room); (case k9 => first | exact BindsTo.of_eq rfl | exact binds_K (by k_in) rfl (by k_is) rfl rfl rfl); (case kB => exact rfl); (case kD => decide +kernel); (case c2 => exact rfl); (case c3 => exact rfl); (case c4 => exact rfl); k_whole; intro g' L' h' tk' cells' FG' F' N' Y' B' X' T' l1; (try k_lt l1); k_cells Y'; (try simp only [List.cons_append, List.nil_append] at N'); (try dsimp only); (try k_lift B'); (try k_fold)) | (refine' code_def ?k1 ?k2 ?k3 ?k4 ?k5 ?kA ?kF ?kK ?k6 ?k7 ?k8 ?k9 ?kB ?_ ?c2 ?c3 ?c4 ?c5; (case kA => exact rfl); (case kF => exact rfl); (case kK => first | exact rfl | assumption); (case k1 => k_asm); (case k2 => k_asm); (case k3 => k_asm); (case k4 => k_asm); (case k5 => k_asm); (case k6 => k_is); (case k7 => k_is); (case k8 => ktr_room); (case k9 => first | exact BindsTo.of_eq rfl | exact binds_K (by k_in) rfl (by k_is) rfl rfl rfl); (case c5 => decide); (case kB => exact locs rfl); (case c2 => exact rfl); (case c3 => exact rfl); (case c4 => exact rfl); k_whole; intro g' L' h' FG' F' N' B' X' T'; (try dsimp only); (try k_lift B'); (try k_fold)))
  repeat' ((fail_if_success (with_reducible show Hold _)); first | (with_reducible refine Cn.out (by assumption) ?_) | (first | (with_reducible refine Co.ret (by assumption) ?_) | (with_reducible refine Co.brk (by assumption) ?_) | (with_reducible refine Co.cont (by assumption) ?_) | (with_reducible refine Cnt.out (by assumption) ?_; (try dsimp only))) | (k_unfold; (try dsimp only)) | ((with_reducible show wpAny _ _ (execs _ _) _ _ _); (first | ((fail_if_success (with_reducible refine Cn.seen (by first | exact Or.inl (by assumption) | exact Or.inr (by assumption)) ?_)); refine Cnt.gen ?_; intro qk hqk) | (with_reducible refine execs_one ?_))) | (k_here; (with_reducible show wpAny _ _ (binaryOp Operator.Mod (Value.int (Nat.cast _) _) (Value.int (Nat.cast _) _)) _ _ _); k_dflt (refine' mod_nat ?a ?_; (case a => omega); k_whole)) | (k_here; (with_reducible show wpAny _ _ (binaryOp Operator.FloorDiv (Value.int (Nat.cast _) _) (Value.int (Nat.cast _) _)) _ _ _); k_dflt (refine' floordiv_nat ?a ?b ?_; (case a => omega); (case b => omega); k_whole)) | (k_here; (with_reducible show wpAny _ _ (binaryOp Operator.Mult (Value.ref _) (Value.int _ _)) _ _ _); k_dflt (refine' zeros_C ?F ?N ?l ?a ?b ?_; (case F => k_asm); (case N => k_asm); (case l => k_mem); (case a => first | exact Int.natCast_nonneg _ | omega); (case b => omega); k_whole); intro r' h' vs' F' N' I' l1; (try k_lt l1); (try k_sweep)) | ((with_reducible show wpAny _ _ (exec (Stmt.While _ _ _ _) _) _ _ _); refine Hold.intro ?_) | (first | with_reducible refine TurnEnd.ret ?_ | with_reducible refine TurnEnd.brk ?_) | ((with_reducible show wpAny _ _ (pyIter _) _ _ _); refine Hold.intro ?_) | (k_end; wrow_close) | walk1 | (dsimp only; walk1) | (leave1; try dsimp only))
  rw [decide_eq_true hnn]
  rename Fr h₀ L _ m => F6
  rename News h₀ L _ _ => N6
  first | exact ret _ _ F6 N6 | exact ret _ _ F6 (news_tl1 N6) | exact ret _ _ F6 (news_tl2 N6)
omit N in
set_option maxHeartbeats 8000000 in
theorem within_below {x : Addr} {n g : Nat} {f : Int} {u0 u1 t : Tok} (hd1 : dp + 10 < recursionLimit) (hu : un + 100 < cLine)
    (hx : (x, tupO [.int f u0, .int (g : Int) u1]) ∈ news) (hf : f = 2 ∨ f = 3) (hn : n < g)
    (N : News h₀ L s.heap news)
    (ret : ∀ h' tk', Fr h₀ L h' m → News h₀ L h' news → Q (.bool true) { s with heap := h', toks := tk' }) :
    wpAny (model Challenge.rw_sj0076_01.row.prog w) (ktrTop dp un gd cn cs L a ccd cl outer) (call (.ref 252) [.int (n : Int) t, .ref x]) Q E s := by
  rcases hf with rfl | rfl
  all_goals
    refine wpAny_call ?_
    k_dflt (first | (refine' code_defC ?k1 ?k2 ?k3 ?k4 ?k5 ?kA ?kF ?kK ?k6 ?k7 ?k8 ?k9 ?kB ?kD ?_ ?c2 ?c3 ?c4; (case kA => exact rfl); (case kF => exact rfl); (case kK => first | exact rfl | assumption); (case k1 => k_asm); (case k2 => k_asm); (case k3 => k_asm); (case k4 => k_asm); (case k5 => k_asm); (case k6 => k_is); (case k7 => k_is); (case k8 => ktr_room); (case k9 => first | exact BindsTo.of_eq rfl | exact binds_K (by k_in) rfl (by k_is) rfl rfl rfl); (case kB => exact rfl); (case kD => decide +kernel); (case c2 => exact rfl); (case c3 => exact rfl); (case c4 => exact rfl); k_whole; intro g' L' h' tk' cells' FG' F' N' Y' B' X' T' l1; (try k_lt l1); k_cells Y'; (try simp only [List.cons_append, List.nil_append] at N'); (try dsimp only); (try k_lift B'); (try k_fold)) | (refine' code_def ?k1 ?k2 ?k3 ?k4 ?k5 ?kA ?kF ?kK ?k6 ?k7 ?k8 ?k9 ?kB ?_ ?c2 ?c3 ?c4 ?c5; (case kA => exact rfl); (case kF => exact rfl); (case kK => first | exact rfl | assumption); (case k1 => k_asm); (case k2 => k_asm); (case k3 => k_asm); (case k4 => k_asm); (case k5 => k_asm); (case k6 => k_is); (case k7 => k_is); (case k8 => ktr_room); (case k9 => first | exact BindsTo.of_eq rfl | exact binds_K (by k_in) rfl (by k_is) rfl rfl rfl); (case c5 => decide); (case kB => exact locs rfl); (case c2 => exact rfl); (case c3 => exact rfl); (case c4 => exact rfl); k_whole; intro g' L' h' FG' F' N' B' X' T'; (try dsimp only); (try k_lift B'); (try k_fold)))
    repeat' ((fail_if_success (with_reducible show Hold _)); first | (with_reducible refine Cn.out (by assumption) ?_) | (first | (with_reducible refine Co.ret (by assumption) ?_) | (with_reducible refine Co.brk (by assumption) ?_) | (with_reducible refine Co.cont (by assumption) ?_) | (with_reducible refine Cnt.out (by assumption) ?_; (try dsimp only))) | (k_unfold; (try dsimp only)) | ((with_reducible show wpAny _ _ (execs _ _) _ _ _); (first | ((fail_if_success (with_reducible refine Cn.seen (by first | exact Or.inl (by assumption) | exact Or.inr (by assumption)) ?_)); refine Cnt.gen ?_; intro qk hqk) | (with_reducible refine execs_one ?_))) | (k_here; (with_reducible show wpAny _ _ (binaryOp Operator.Mod (Value.int (Nat.cast _) _) (Value.int (Nat.cast _) _)) _ _ _); k_dflt (refine' mod_nat ?a ?_; (case a => omega); k_whole)) | (k_here; (with_reducible show wpAny _ _ (binaryOp Operator.FloorDiv (Value.int (Nat.cast _) _) (Value.int (Nat.cast _) _)) _ _ _); k_dflt (refine' floordiv_nat ?a ?b ?_; (case a => omega); (case b => omega); k_whole)) | (k_here; (with_reducible show wpAny _ _ (binaryOp Operator.Mult (Value.ref _) (Value.int _ _)) _ _ _); k_dflt (refine' zeros_C ?F ?N ?l ?a ?b ?_; (case F => k_asm); (case N => k_asm); (case l => k_mem); (case a => first | exact Int.natCast_nonneg _ | omega); (case b => omega); k_whole); intro r' h' vs' F' N' I' l1; (try k_lt l1); (try k_sweep)) | ((with_reducible show wpAny _ _ (exec (Stmt.While _ _ _ _) _) _ _ _); refine Hold.intro ?_) | (first | with_reducible refine TurnEnd.ret ?_ | with_reducible refine TurnEnd.brk ?_) | ((with_reducible show wpAny _ _ (pyIter _) _ _ _); refine Hold.intro ?_) | (k_end; wrow_close) | walk1 | (dsimp only; walk1) | (leave1; try dsimp only))
  all_goals
    rw [decide_eq_true (by exact_mod_cast hn)]
    rename Fr h₀ L _ m => F6
    rename News h₀ L _ _ => N6
    first | exact ret _ _ F6 N6 | exact ret _ _ F6 (news_tl1 N6) | exact ret _ _ F6 (news_tl2 N6)
omit N in
theorem within_C {x : Addr} {v : Value} {f g : Nat} {W : Nat} {A' : Ans} {u0 u1 : Tok} (hW : 0 < W) (hW2 : W ≤ 6) (hd1 : dp + 10 < recursionLimit) (hu : un + 100 < cLine)
    (hx : (x, tupO [.int (f : Int) u0, .int (g : Int) u1]) ∈ news) (hg : g ≤ 8) (hv : AnsIs W news v A') (hw : Within W f g A')
    (N : News h₀ L s.heap news)
    (ret : ∀ h' tk', Fr h₀ L h' m → News h₀ L h' news → Q (.bool true) { s with heap := h', toks := tk' }) :
    wpAny (model Challenge.rw_sj0076_01.row.prog w) (ktrTop dp un gd cn cs L a ccd cl outer) (call (.ref 252) [v, .ref x]) Q E s := by
  cases hv with
  | part h1 h2 hi =>
    obtain ⟨rfl, w1, w2, w3⟩ := hw
    exact within_part B F X T hk hW hW2 hd1 hu hx h1 h2 hi w1 w2 w3 N ret
  | num =>
    rcases hw with ⟨rfl, w1⟩ | ⟨hf, w1⟩
    · exact within_bits B F X T hk hd1 hu hx hg w1 N ret
    · exact within_below B F X T hk hd1 hu hx (by omega) w1 N ret
  | swap h1 =>
    obtain rfl := hw
    exact within_swap B F X T hk hd1 hu hx h1 N ret
  | none =>
    obtain rfl := hw
    exact within_none B F X T hk hd1 hu hx N ret
end
section
variable {w : World} {mean : ExcName → Option Value} {mg mb : Str → Option Value}
  {dp un : Nat} {gd : Option (List Code)} {cn : Str} {cs : Scope} {a : Addr} {ccd : Value} {cl : List (Str × Addr)} {outer : List Env} {A₀ : Around} {base h₀ : Heap} {L : Addr} {m : Str → Option Value} {news : Led} {s : Shared}
  {Q E : Value → Shared → Prop}
  (B : Below A₀ base outer h₀) (F : Fr h₀ L s.heap m) (X : (hd.heap_39 w.params).In h₀) (N : News h₀ L s.heap news) (T : Top hd.view_39 (looseW hd.view_39 []) mean mg mb h₀) (hk : cs.kind = .function)
include B F X N T hk
noncomputable def rowNext (W pl : Nat) (row : List Nat) : List Nat := row.drop 1 ++ [(row.getD 0 0 + row.getD pl 0) % 2 ^ W]
noncomputable def rowAt (W pl : Nat) (row : List Nat) : Nat → List Nat
  | 0 => row
  | n + 1 => rowNext W pl (rowAt W pl row n)
omit B F X N T hk in
theorem rowAt_len {W pl : Nat} {row : List Nat} (h : 0 < row.length) : ∀ n, (rowAt W pl row n).length = row.length
  | 0 => rfl
  | n + 1 => by
    have ih := rowAt_len (W := W) (pl := pl) h n
    show (rowNext W pl (rowAt W pl row n)).length = _
    unfold rowNext
    rw [List.length_append, List.length_drop, ih]
    simp; omega
omit B F X N T hk in
theorem rowAt_lim {W pl : Nat} {row : List Nat} (h : Lim W row) : ∀ n, Lim W (rowAt W pl row n)
  | 0 => h
  | n + 1 => by
    have ih := rowAt_lim (pl := pl) h n
    exact Lim.push (a := (rowAt W pl row n).drop 1) (fun x hx => ih x (List.mem_of_mem_drop hx)) (Nat.mod_lt _ (Nat.two_pow_pos _))
structure SLed where
  l : Addr
  vs : List Value
  k : Nat
  kept : Led
omit N in
set_option maxHeartbeats 8000000 in
theorem led_C {x y dx lr lr0 : Addr} {rvs rvs0 : List Value} {k k0 pl n : Nat} {row row0 : List Nat} {W : Nat} {tw t0 t1 u1 u2 u3 ud uw : Tok} (hW : 0 < W) (hW2 : W ≤ 6) (hd1 : dp + 10 < recursionLimit) (hu : un + 100 < cLine)
    (hx : (x, instObj 154 dx) ∈ news) (hD : (dx, lagD w W lr pl u1 u2 u3 ud uw) ∈ news) (hls : (lr, lst rvs k) ∈ news) (hri : IntsAre rvs (up row))
    (hy : (y, tupO [.str (Str.ofString "row") t0, .ref lr0, .int (pl : Int) t1]) ∈ news) (hl0 : (lr0, lst rvs0 k0) ∈ news) (hi0 : IntsAre rvs0 (up row0))
    (hlim : Lim W row0) (hpl : 0 < pl) (hpl2 : pl < row0.length) (hlen : row0.length ≤ 6) (hn : n < 40) (hrow : row = rowAt W pl row0 n)
    (N : News h₀ L s.heap news)
    (ret : ∀ h' tk', Fr h₀ L h' m → News h₀ L h' news → Q (.bool true) { s with heap := h', toks := tk' }) :
    wpAny (model Challenge.rw_sj0076_01.row.prog w) (ktrTop dp un gd cn cs L a ccd cl outer) (call (.ref 266) [.ref x, .ref y, .int W tw]) Q E s := by
  have hwi : (0 : Int) < (W : Int) := by omega
  have hwi2 : (W : Int) ≤ 6 := by omega
  refine wpAny_call ?_
  k_dflt (first | (refine' code_defC ?k1 ?k2 ?k3 ?k4 ?k5 ?kA ?kF ?kK ?k6 ?k7 ?k8 ?k9 ?kB ?kD ?_ ?c2 ?c3 ?c4; (case kA => exact rfl); (case kF => exact rfl); (case kK => first | exact rfl | assumption); (case k1 => k_asm); (case k2 => k_asm); (case k3 => k_asm); (case k4 => k_asm); (case k5 => k_asm); (case k6 => k_is); (case k7 => k_is); (case k8 => ktr_room); (case k9 => first | exact BindsTo.of_eq rfl | exact binds_K (by k_in) rfl (by k_is) rfl rfl rfl); (case kB => exact rfl); (case kD => decide +kernel); (case c2 => exact rfl); (case c3 => exact rfl); (case c4 => exact rfl); k_whole; intro g' L' h' tk' cells' FG' F' N' Y' B' X' T' l1; (try k_lt l1); k_cells Y'; (try simp only [List.cons_append, List.nil_append] at N'); (try dsimp only); (try k_lift B'); (try k_fold)) | (refine' code_def ?k1 ?k2 ?k3 ?k4 ?k5 ?kA ?kF ?kK ?k6 ?k7 ?k8 ?k9 ?kB ?_ ?c2 ?c3 ?c4 ?c5; (case kA => exact rfl); (case kF => exact rfl); (case kK => first | exact rfl | assumption); (case k1 => k_asm); (case k2 => k_asm); (case k3 => k_asm); (case k4 => k_asm); (case k5 => k_asm); (case k6 => k_is); (case k7 => k_is); (case k8 => ktr_room); (case k9 => first | exact BindsTo.of_eq rfl | exact binds_K (by k_in) rfl (by k_is) rfl rfl rfl); (case c5 => decide); (case kB => exact locs rfl); (case c2 => exact rfl); (case c3 => exact rfl); (case c4 => exact rfl); k_whole; intro g' L' h' FG' F' N' B' X' T'; (try dsimp only); (try k_lift B'); (try k_fold)))
  repeat' ((fail_if_success (with_reducible show Hold _)); first | (with_reducible refine Cn.out (by assumption) ?_) | (first | (with_reducible refine Co.ret (by assumption) ?_) | (with_reducible refine Co.brk (by assumption) ?_) | (with_reducible refine Co.cont (by assumption) ?_) | (with_reducible refine Cnt.out (by assumption) ?_; (try dsimp only))) | (k_unfold; (try dsimp only)) | ((with_reducible show wpAny _ _ (execs _ _) _ _ _); (first | ((fail_if_success (with_reducible refine Cn.seen (by first | exact Or.inl (by assumption) | exact Or.inr (by assumption)) ?_)); refine Cnt.gen ?_; intro qk hqk) | (with_reducible refine execs_one ?_) | (with_reducible refine execs_cnt ?_; intro qk hqn hqo))) | (k_here; (with_reducible show wpAny _ _ (binaryOp Operator.Mod (Value.int (Nat.cast _) _) (Value.int (Nat.cast _) _)) _ _ _); k_dflt (refine' mod_nat ?a ?_; (case a => omega); k_whole)) | (k_here; (with_reducible show wpAny _ _ (binaryOp Operator.FloorDiv (Value.int (Nat.cast _) _) (Value.int (Nat.cast _) _)) _ _ _); k_dflt (refine' floordiv_nat ?a ?b ?_; (case a => omega); (case b => omega); k_whole)) | (k_here; (with_reducible show wpAny _ _ (binaryOp Operator.Mult (Value.ref _) (Value.int _ _)) _ _ _); k_dflt (refine' zeros_C ?F ?N ?l ?a ?b ?_; (case F => k_asm); (case N => k_asm); (case l => k_mem); (case a => first | exact Int.natCast_nonneg _ | omega); (case b => omega); k_whole); intro r' h' vs' F' N' I' l1; (try k_lt l1); (try k_sweep)) | ((with_reducible show wpAny _ _ (exec (Stmt.While _ _ _ _) _) _ _ _); refine Hold.intro ?_) | (first | with_reducible refine TurnEnd.ret ?_ | with_reducible refine TurnEnd.brk ?_) | ((with_reducible show wpAny _ _ (pyIter _) _ _ _); refine Hold.intro ?_) | (k_end; wrow_close) | walk1 | (dsimp only; walk1) | (leave1; try dsimp only))
  rename IsRange _ _ _ _ _ _ _ _ => R1
  rename News _ _ _ _ => N1
  rename Fr _ _ _ _ => F1
  refine Hold.out ?_
  refine' for_range (σ := SLed) 40 [Str.ofString "source", Str.ofString "w", Str.ofString "place"] (fun st => [(Str.ofString "row", .ref st.l)]) (fun st => st.kept)
    (fun i st => i ≤ n ∧ (st.l, lst st.vs st.k) ∈ st.kept ++ news ∧ IntsAre st.vs (up (rowAt W pl row0 i))) ⟨lr0, rvs0, k0, []⟩ news rfl R1 (by decide) (by decide) F1 (news_tl1 N1) ?hb ?hin ?hcold ?hsep ?hP ?turn ?done
  case hb => exact ⟨rfl, trivial⟩
  case hin => exact trivial
  case hcold => exact fun p hp => hp
  case hsep => exact trivial
  case hP => exact ⟨Nat.zero_le _, hl0, hi0⟩
  case turn =>
    intro i t z90 u h tk rest hi z91 hcr hsep F2 N2
    refine hide fun G9 hG9 => ?_
    obtain ⟨q1, q2, q3⟩ := z91
    obtain ⟨l, vs, kk, kept⟩ := z90
    refine hG9 ?_
    clear hG9 G9
    dsimp only at q1 q2 q3 hsep F2 N2
    have q2' : (l, lst vs kk) ∈ kept ++ rest := (List.mem_append.mp q2).elim (fun h => List.mem_append_left _ h) (fun h => List.mem_append_right _ (hcr _ h))
    have hx' : (x, instObj 154 dx) ∈ kept ++ rest := List.mem_append_right _ (hcr _ hx)
    have hD' : (dx, lagD w W lr pl u1 u2 u3 ud uw) ∈ kept ++ rest := List.mem_append_right _ (hcr _ hD)
    have hls' : (lr, lst rvs k) ∈ kept ++ rest := List.mem_append_right _ (hcr _ hls)
    have hrs : ∀ p ∈ rest, p ∈ kept ++ rest := fun p hp => List.mem_append_right _ hp
    clear N1 F1 R1 N hsep q2 hx hD hls
    generalize kept ++ rest = news2 at *
    have hl1 : (rowAt W pl row0 i).length = row0.length := rowAt_len (by omega) i
    have hul : (up (rowAt W pl row0 i)).length = row0.length := by rw [up_length]; exact hl1
    generalize hcur : rowAt W pl row0 i = cur at *
    try k_fold
    repeat' ((fail_if_success (with_reducible show Hold _)); first | (with_reducible refine Cn.out (by assumption) ?_) | (first | (with_reducible refine Co.ret (by assumption) ?_) | (with_reducible refine Co.brk (by assumption) ?_) | (with_reducible refine Co.cont (by assumption) ?_) | (with_reducible refine Cnt.out (by assumption) ?_; (try dsimp only))) | (k_unfold; (try dsimp only)) | ((with_reducible show wpAny _ _ (execs _ _) _ _ _); (first | ((fail_if_success (with_reducible refine Cn.seen (by first | exact Or.inl (by assumption) | exact Or.inr (by assumption)) ?_)); refine Cnt.gen ?_; intro qk hqk) | (with_reducible refine execs_one ?_) | (with_reducible refine execs_cnt ?_; intro qk hqn hqo))) | (k_here; (with_reducible show wpAny _ _ (binaryOp Operator.Mod (Value.int (Nat.cast _) _) (Value.int (Nat.cast _) _)) _ _ _); k_dflt (refine' mod_nat ?a ?_; (case a => omega); k_whole)) | (k_here; (with_reducible show wpAny _ _ (binaryOp Operator.FloorDiv (Value.int (Nat.cast _) _) (Value.int (Nat.cast _) _)) _ _ _); k_dflt (refine' floordiv_nat ?a ?b ?_; (case a => omega); (case b => omega); k_whole)) | (k_here; (with_reducible show wpAny _ _ (binaryOp Operator.Mult (Value.ref _) (Value.int _ _)) _ _ _); k_dflt (refine' zeros_C ?F ?N ?l ?a ?b ?_; (case F => k_asm); (case N => k_asm); (case l => k_mem); (case a => first | exact Int.natCast_nonneg _ | omega); (case b => omega); k_whole); intro r' h' vs' F' N' I' l1; (try k_lt l1); (try k_sweep)) | ((with_reducible show wpAny _ _ (exec (Stmt.While _ _ _ _) _) _ _ _); refine Hold.intro ?_) | (first | with_reducible refine TurnEnd.ret ?_ | with_reducible refine TurnEnd.brk ?_) | ((with_reducible show wpAny _ _ (pyIter _) _ _ _); refine Hold.intro ?_) | (k_end; wrow_close) | walk1 | (dsimp only; walk1) | (leave1; try dsimp only))
    · rename Fr h₀ L _ m => F6
      rename News h₀ L _ _ => N6
      exact ret _ _ F6 fun p hp => N6 p (hrs _ (hcr _ hp))
    · rename News _ _ _ _ => N3
      rename Fr _ _ _ _ => F3
      have hne := ‹¬ up row = up cur›
      have I3 := ‹IntsAre _ (List.drop 1 (up cur) ++ _)›
      have L3 := ‹@LT.lt Nat _ _ _ ∧ @LT.lt Nat _ _ _ ∧ AllLt _ news2›
      have eX : ((up cur).getD (Int.toNat 0) 0 + (up cur).getD (pl : Int).toNat 0).fmod (2 ^ (W : Int).toNat) = (((cur.getD 0 0 + cur.getD pl 0) % 2 ^ W : Nat) : Int) := by
        rw [up_getD, up_getD, ← Int.natCast_add, fmod_pow]
        rfl
      rw [eX] at I3
      rw [← up_drop, ← up_one, ← up_append] at I3
      have hin : i ≠ n := by
        rintro rfl
        exact hne (by rw [hrow, hcur])
      refine TurnEnd.mk ⟨_, _, _, [(_, _)]⟩ F3 N3 ⟨rfl, trivial⟩ ⟨rfl, rfl, rfl, trivial⟩ ⟨List.mem_cons_self, trivial⟩ (fun p hp => List.mem_cons_of_mem _ (List.mem_cons_of_mem _ (List.mem_cons_of_mem _ (hrs _ hp)))) ⟨?_, trivial⟩ ⟨?_, List.mem_cons_self, ?_⟩
      · exact fun q hq => Nat.ne_of_lt (kst_ltOf L3.2.2 q (hrs q hq))
      · omega
      · show IntsAre _ (up (rowNext W pl (rowAt W pl row0 i)))
        rw [hcur]
        exact I3
  case done =>
    intro z90 u h tk z91 hsep F2 N2
    refine hide fun G9 hG9 => ?_
    obtain ⟨q1, q2, q3⟩ := z91
    obtain ⟨l, vs, kk, kept⟩ := z90
    refine hG9 ?_
    clear hG9 G9
    exact absurd q1 (by omega)
end
end
section
open PySem PySem.W PyProof.Rows PySem.Calls
theorem taken_0 (W : Nat) (c : Src) (g : Nat) : taken W c 0 g = (c.next W, .part (c.part W) (c.many W)) := rfl
theorem taken_1 (W : Nat) (c : Src) (g : Nat) : taken W c 1 g = ((rbits W g c).1, .num (rbits W g c).2) := rfl
theorem taken_2 (W : Nat) (c : Src) (g : Nat) : taken W c 2 g = ((rbelow W g c).1, .num (rbelow W g c).2) := rfl
theorem taken_3 (W : Nat) (c : Src) (g : Nat) : taken W c 3 g = ((rbelow W g c).1, .num (rbelow W g c).2) := rfl
theorem taken_4 (W : Nat) (c : Src) (g : Nat) : taken W c 4 g = ((rbelow W 2 c).1, .swap (decide ((rbelow W 2 c).2 = 0))) := rfl
theorem taken_5 (W : Nat) (c : Src) (g : Nat) : taken W c 5 g = (c, .none) := rfl
theorem six {f : Nat} (h : f ≤ 5) : f = 0 ∨ f = 1 ∨ f = 2 ∨ f = 3 ∨ f = 4 ∨ f = 5 := by omega
theorem Src.ok.part_lt {W : Nat} {c : Src} (h : c.ok W) (hW : 2 ≤ W) : c.part W < 2 ^ W := by
  cases c with
  | cong p q d S =>
    have h1 := Src.ok.part h
    simp only [Src.many] at h1
    obtain ⟨_, _, h3, h4, _⟩ := h
    exact Nat.lt_of_lt_of_le h1 (Nat.pow_le_pow_right (by decide) (by omega))
  | lag row pl => exact Nat.mod_lt _ (Nat.two_pow_pos _)
theorem taken_within {W f g : Nat} {c : Src} (hW : 2 ≤ W) (hW2 : W ≤ 6) (hok : c.ok W) (hd : DeedOk f g) : Within W f g (taken W c f g).2 := by
  obtain ⟨d1, d2, d3⟩ := hd
  rcases six d1 with rfl | rfl | rfl | rfl | rfl | rfl
  · exact ⟨rfl, hok.part, hok.part_lt hW, (hok.many (by omega) hW2).2⟩
  · exact .inl ⟨rfl, rbits_lt _ _ _⟩
  · exact .inr ⟨.inl rfl, rbelow_lt (d3 (.inl rfl)) (by omega)⟩
  · exact .inr ⟨.inr rfl, rbelow_lt (d3 (.inr rfl)) (by omega)⟩
  · exact (rfl : 4 = 4)
  · exact (rfl : 5 = 5)
theorem taken_ok {W f g : Nat} {c : Src} (hok : c.ok W) (hd : DeedOk f g) : (taken W c f g).1.ok W := by
  rcases six hd.1 with rfl | rfl | rfl | rfl | rfl | rfl
  · exact hok.next
  · exact rbits_ok hok
  · exact rbelow_ok hok
  · exact rbelow_ok hok
  · exact rbelow_ok hok
  · exact hok
theorem taken_none {W f g : Nat} {c : Src} (hd : DeedOk f g) (h : (taken W c f g).2 = .none) : (taken W c f g).1 = c := by
  rcases six hd.1 with rfl | rfl | rfl | rfl | rfl | rfl
  · cases h
  · cases h
  · cases h
  · cases h
  · cases h
  · rfl
/-- of one kind, with the same rule -/
noncomputable def Src.like : Src → Src → Prop
  | .cong p q d _, .cong p' q' d' _ => p = p' ∧ q = q' ∧ d = d'
  | .lag r pl, .lag r' pl' => pl = pl' ∧ r.length = r'.length
  | _, _ => False
theorem Src.like.refl : ∀ c : Src, c.like c
  | .cong _ _ _ _ => ⟨rfl, rfl, rfl⟩
  | .lag _ _ => ⟨rfl, rfl⟩
theorem Src.like.trans : ∀ {a b c : Src}, a.like b → b.like c → a.like c
  | .cong _ _ _ _, .cong _ _ _ _, .cong _ _ _ _, ⟨h1, h2, h3⟩, ⟨k1, k2, k3⟩ => ⟨h1.trans k1, h2.trans k2, h3.trans k3⟩
  | .lag _ _, .lag _ _, .lag _ _, ⟨h1, h2⟩, ⟨k1, k2⟩ => ⟨h1.trans k1, h2.trans k2⟩
theorem Src.like.kin : ∀ {a b : Src}, a.like b → a.kin b
  | .cong _ _ _ _, .cong _ _ _ _, h => h
  | .lag _ _, .lag _ _, _ => trivial
theorem next_like {W : Nat} {c : Src} (h : c.ok W) : c.like (c.next W) := by
  cases c with
  | cong p q d S => exact ⟨rfl, rfl, rfl⟩
  | lag row pl =>
    obtain ⟨h1, h2, h3, h4⟩ := h
    refine ⟨rfl, ?_⟩
    simp; omega
theorem rbGo_like {W n : Nat} : ∀ k c f h, Src.ok W c → c.like (rbGo W n k c f h).1
  | 0, c, f, h, q => Src.like.refl c
  | k + 1, c, f, h, q => by
    unfold rbGo
    split
    · exact (next_like q).trans (rbGo_like k _ _ _ q.next)
    · exact Src.like.refl c
theorem rbits_like {W n : Nat} {c : Src} (q : c.ok W) : c.like (rbits W n c).1 := rbGo_like _ _ _ _ q
theorem rbelGo_like {W b n : Nat} : ∀ k c f, Src.ok W c → c.like (rbelGo W b n k c f).1
  | 0, c, f, q => Src.like.refl c
  | k + 1, c, f, q => by
    unfold rbelGo
    split
    · exact Src.like.refl c
    · exact (rbits_like q).trans (rbelGo_like k _ _ (rbits_ok q))
theorem rbelow_like {W b : Nat} {c : Src} (q : c.ok W) : c.like (rbelow W b c).1 := (rbits_like q).trans (rbelGo_like _ _ _ (rbits_ok q))
theorem taken_like {W f g : Nat} {c : Src} (hok : c.ok W) (hd : DeedOk f g) : c.like (taken W c f g).1 := by
  rcases six hd.1 with rfl | rfl | rfl | rfl | rfl | rfl
  · exact next_like hok
  · exact rbits_like hok
  · exact rbelow_like hok
  · exact rbelow_like hok
  · exact rbelow_like hok
  · exact Src.like.refl c
/-- the source after n draws -/
noncomputable def Src.nth (W : Nat) (c : Src) : Nat → Src
  | 0 => c
  | n + 1 => (c.nth W n).next W
theorem nth_next (W : Nat) (c : Src) : ∀ n, (c.next W).nth W n = c.nth W (n + 1)
  | 0 => rfl
  | n + 1 => by show ((c.next W).nth W n).next W = _; rw [nth_next W c n]; rfl
theorem nth_lag (W pl : Nat) (row : List Nat) : ∀ n, (Src.lag row pl).nth W n = .lag (rowAt W pl row n) pl
  | 0 => rfl
  | n + 1 => by show ((Src.lag row pl).nth W n).next W = _; rw [nth_lag W pl row n]; rfl
theorem rbGo_nth {W n : Nat} : ∀ k c f h, ∃ j, j ≤ k ∧ (rbGo W n k c f h).1 = c.nth W j
  | 0, c, f, h => ⟨0, Nat.le_refl _, rfl⟩
  | k + 1, c, f, h => by
    unfold rbGo
    split
    · obtain ⟨j, hj, e⟩ := rbGo_nth (W := W) (n := n) k (c.next W) (f + c.part W * 2 ^ h) (h + c.many W)
      exact ⟨j + 1, by omega, by rw [e, nth_next]⟩
    · exact ⟨0, by omega, rfl⟩
theorem rbits_nth (W n : Nat) (c : Src) : ∃ j, j ≤ n ∧ (rbits W n c).1 = c.nth W j := rbGo_nth _ _ _ _
theorem rbelow_nth {W b : Nat} (c : Src) (hb : b = 1 ∨ b = 2 ∨ b = 4 ∨ b = 8) : ∃ j, j ≤ 4 ∧ (rbelow W b c).1 = c.nth W j := by
  have h1 : 2 ^ blen (b - 1) = b ∧ blen (b - 1) ≤ 4 := by rcases hb with rfl | rfl | rfl | rfl <;> decide
  have h2 : (rbits W (blen (b - 1)) c).2 < b := Nat.lt_of_lt_of_le (rbits_lt _ _ _) (Nat.le_of_eq h1.1)
  have e : rbelow W b c = ((rbits W (blen (b - 1)) c).1, (rbits W (blen (b - 1)) c).2) := rbelGo_hit h2
  rw [e]
  obtain ⟨j, hj, e2⟩ := rbits_nth W (blen (b - 1)) c
  exact ⟨j, by omega, e2⟩
theorem taken_nth {W f g : Nat} {c : Src} (hd : DeedOk f g) (hr : f = 2 ∨ f = 3 → g = 1 ∨ g = 2 ∨ g = 4 ∨ g = 8) : ∃ j, j < 40 ∧ (taken W c f g).1 = c.nth W j := by
  obtain ⟨d1, d2, d3⟩ := hd
  rcases six d1 with rfl | rfl | rfl | rfl | rfl | rfl
  · exact ⟨1, by decide, rfl⟩
  · obtain ⟨j, h, e⟩ := rbits_nth W g c
    exact ⟨j, by omega, e⟩
  · obtain ⟨j, h, e⟩ := rbelow_nth (W := W) c (hr (.inl rfl))
    exact ⟨j, by omega, e⟩
  · obtain ⟨j, h, e⟩ := rbelow_nth (W := W) c (hr (.inr rfl))
    exact ⟨j, by omega, e⟩
  · obtain ⟨j, h, e⟩ := rbelow_nth (W := W) (b := 2) c (.inr (.inl rfl))
    exact ⟨j, by omega, e⟩
  · exact ⟨0, by decide, rfl⟩
/-- the source behind a row of deeds, and what they told -/
noncomputable def after (W : Nat) (c : Src) : List (Nat × Nat) → Src
  | [] => c
  | d :: r => after W (taken W c d.1 d.2).1 r
noncomputable def told (W : Nat) (c : Src) : List (Nat × Nat) → List Ans
  | [] => []
  | d :: r => (taken W c d.1 d.2).2 :: told W (taken W c d.1 d.2).1 r
theorem after_snoc (W : Nat) (d : Nat × Nat) : ∀ c ds, after W c (ds ++ [d]) = (taken W (after W c ds) d.1 d.2).1
  | c, [] => rfl
  | c, e :: r => after_snoc W d _ r
theorem told_snoc (W : Nat) (d : Nat × Nat) : ∀ c ds, told W c (ds ++ [d]) = told W c ds ++ [(taken W (after W c ds) d.1 d.2).2]
  | c, [] => rfl
  | c, e :: r => by show _ :: told W _ (r ++ [d]) = _; rw [told_snoc W d _ r]; rfl
theorem after_take (W : Nat) (c : Src) (ds : List (Nat × Nat)) {i : Nat} (h : i < ds.length) : after W c (ds.take (i + 1)) = (taken W (after W c (ds.take i)) ds[i].1 ds[i].2).1 := by
  rw [List.take_succ_eq_append_getElem h]
  exact after_snoc W _ c _
theorem told_take (W : Nat) (c : Src) (ds : List (Nat × Nat)) {i : Nat} (h : i < ds.length) : told W c (ds.take (i + 1)) = told W c (ds.take i) ++ [(taken W (after W c (ds.take i)) ds[i].1 ds[i].2).2] := by
  rw [List.take_succ_eq_append_getElem h]
  exact told_snoc W _ c _
inductive DeedsAre (news : Led) : List Value → List (Nat × Nat) → Prop
  | nil : DeedsAre news [] []
  | cons {t : Addr} {f g : Nat} {t0 t1 : Tok} {vs : List Value} {ds : List (Nat × Nat)} (h : (t, tupO [.int (f : Int) t0, .int (g : Int) t1]) ∈ news) (hd : DeedOk f g) (r : DeedsAre news vs ds) : DeedsAre news (.ref t :: vs) ((f, g) :: ds)
theorem DeedsAre.mono {n n' : Led} {vs : List Value} {ds : List (Nat × Nat)} (r : DeedsAre n vs ds) (hs : ∀ p ∈ n, p ∈ n') : DeedsAre n' vs ds := by
  induction r with
  | nil => exact .nil
  | cons h hd _ ih => exact .cons (hs _ h) hd ih
theorem DeedsAre.snoc {n : Led} {t : Addr} {f g : Nat} {t0 t1 : Tok} {vs : List Value} {ds : List (Nat × Nat)} (r : DeedsAre n vs ds) (h : (t, tupO [.int (f : Int) t0, .int (g : Int) t1]) ∈ n) (hd : DeedOk f g) : DeedsAre n (vs ++ [.ref t]) (ds ++ [(f, g)]) := by
  induction r with
  | nil => exact .cons h hd .nil
  | cons h' hd' _ ih => exact .cons h' hd' ih
theorem DeedsAre.length {n : Led} {vs : List Value} {ds : List (Nat × Nat)} (r : DeedsAre n vs ds) : vs.length = ds.length := by
  induction r with
  | nil => rfl
  | cons _ _ _ ih => simp [ih]
theorem DeedsAre.get {n : Led} {vs : List Value} {ds : List (Nat × Nat)} (r : DeedsAre n vs ds) : ∀ {i : Nat} {v : Value}, vs[i]? = some v → ∃ (h : i < ds.length) (t : Addr) (t0 t1 : Tok), v = .ref t ∧ (t, tupO [.int (ds[i].1 : Int) t0, .int (ds[i].2 : Int) t1]) ∈ n ∧ DeedOk ds[i].1 ds[i].2 := by
  induction r with
  | nil => intro i v h; simp at h
  | @cons t f g t0 t1 vs ds h hd r ih =>
    intro i v hv
    cases i with
    | zero =>
      simp only [List.getElem?_cons_zero, Option.some.injEq] at hv
      exact ⟨by simp, t, t0, t1, hv.symm, h, hd⟩
    | succ i =>
      obtain ⟨h1, t', a0, a1, e, h2, h3⟩ := ih (by simpa using hv)
      exact ⟨by simpa using h1, t', a0, a1, e, h2, h3⟩
theorem ansN_isNone {W : Nat} {news : Led} {v : Value} {a : Ans} (h : AnsIs W news v a) : (v = .none ∧ a = .none) ∨ ((∃ r, v = .ref r) ∧ a ≠ .none) ∨ ((∃ i t, v = .int i t) ∧ a ≠ .none) := by
  cases h with
  | part h1 h2 hi => exact .inr (.inl ⟨⟨_, rfl⟩, fun e => by cases e⟩)
  | num => exact .inr (.inr ⟨⟨_, _, rfl⟩, fun e => by cases e⟩)
  | swap h1 => exact .inr (.inl ⟨⟨_, rfl⟩, fun e => by cases e⟩)
  | none => exact .inl ⟨rfl, rfl⟩
end
section
open PySem PySem.W PyProof.Rows PySem.Calls
/-- one source's fixed part: the object, its dict, what it was begun from, its lists of answers and deeds -/
structure Fix where
  x : Addr
  dx : Addr
  t : Addr
  an : Addr
  so : Addr
  n2 : Led
  c0 : Src
/-- and what turns -/
structure Side where
  c : Src
  D : Obj
  ls : Addr
  svs : List Value
  k : Nat
  avs : List Value
  ak : Nat
  dvs : List Value
  dk : Nat
  ds : List (Nat × Nat)
noncomputable abbrev Side.hot (f : Fix) (a : Side) : Led := [(f.dx, a.D), (a.ls, lst a.svs a.k), (f.an, lst a.avs a.ak), (f.so, lst a.dvs a.dk)]
structure SideOk (w : World) (W : Nat) (f : Fix) (a : Side) (kept : Led) (i : Nat) : Prop where
  ok : a.c.ok W
  src : SrcIs w W f.n2 f.x f.dx a.D a.ls a.svs a.c
  like : f.c0.like a.c
  aft : a.c = after W f.c0 a.ds
  deeds : DeedsAre kept a.dvs a.ds
  ans : RdAll kept a.avs ((told W f.c0 a.ds).map (ansD W))
  len : a.ds.length ≤ i
  alen : a.avs.length ≤ i
theorem SideOk.mono {w : World} {W : Nat} {f : Fix} {a : Side} {kept kept' : Led} {i j : Nat} (h : SideOk w W f a kept i) (hs : ∀ p ∈ kept, p ∈ kept') (hi : i ≤ j) : SideOk w W f a kept' j :=
  ⟨h.ok, h.src, h.like, h.aft, h.deeds.mono hs, h.ans.mono hs, Nat.le_trans h.len hi, Nat.le_trans h.alen hi⟩
/-- the turning cells lie apart, and off the rest -/
structure HotOK (c dx ls an so : Addr) (news : Led) : Prop where
  c1 : ∀ p ∈ news, p.1 ≠ c
  d1 : ∀ p ∈ news, p.1 ≠ dx
  l1 : ∀ p ∈ news, p.1 ≠ ls
  a1 : ∀ p ∈ news, p.1 ≠ an
  s1 : ∀ p ∈ news, p.1 ≠ so
  cd : @Ne Nat c dx
  cl : @Ne Nat c ls
  ca : @Ne Nat c an
  cs : @Ne Nat c so
  ld : @Ne Nat ls dx
  ad : @Ne Nat an dx
  sd : @Ne Nat so dx
  al : @Ne Nat an ls
  sl : @Ne Nat so ls
  sa : @Ne Nat so an
section
variable {c dx ls an so : Addr} {news nw : Led} {o1 o2 o3 o4 o5 : Obj}
theorem app_ne {d : Addr} {a b : Led} (h1 : ∀ p ∈ a, p.1 ≠ d) (h2 : ∀ p ∈ b, p.1 ≠ d) : ∀ p ∈ a ++ b, p.1 ≠ d := fun p hp => (List.mem_append.mp hp).elim (h1 p) (h2 p)
theorem HotOK.fresh (h : HotOK c dx ls an so news) (f : ∀ p ∈ nw, ∀ q ∈ (c, o1) :: (dx, o2) :: (ls, o3) :: (an, o4) :: (so, o5) :: news, q.1 < p.1) : HotOK c dx ls an so (nw ++ news) :=
  ⟨app_ne (fun p hp => Nat.ne_of_gt (f p hp (c, o1) (by simp))) h.c1, app_ne (fun p hp => Nat.ne_of_gt (f p hp (dx, o2) (by simp))) h.d1, app_ne (fun p hp => Nat.ne_of_gt (f p hp (ls, o3) (by simp))) h.l1,
   app_ne (fun p hp => Nat.ne_of_gt (f p hp (an, o4) (by simp))) h.a1, app_ne (fun p hp => Nat.ne_of_gt (f p hp (so, o5) (by simp))) h.s1, h.cd, h.cl, h.ca, h.cs, h.ld, h.ad, h.sd, h.al, h.sl, h.sa⟩
theorem HotOK.one {r : Addr} {o : Obj} (h : HotOK c dx ls an so news) (hr : r ≠ c) (f : ∀ q ∈ (dx, o2) :: (ls, o3) :: (an, o4) :: (so, o5) :: news, q.1 < r) : HotOK c dx ls an so ((r, o) :: news) :=
  ⟨all_cons hr h.c1, all_cons (Nat.ne_of_gt (f (dx, o2) (by simp))) h.d1, all_cons (Nat.ne_of_gt (f (ls, o3) (by simp))) h.l1, all_cons (Nat.ne_of_gt (f (an, o4) (by simp))) h.a1, all_cons (Nat.ne_of_gt (f (so, o5) (by simp))) h.s1,
   h.cd, h.cl, h.ca, h.cs, h.ld, h.ad, h.sd, h.al, h.sl, h.sa⟩
theorem HotOK.offc (h : HotOK c dx ls an so news) : ∀ p ∈ (dx, o2) :: (ls, o3) :: (an, o4) :: (so, o5) :: news, p.1 ≠ c :=
  all_cons (Ne.symm h.cd) (all_cons (Ne.symm h.cl) (all_cons (Ne.symm h.ca) (all_cons (Ne.symm h.cs) h.c1)))
theorem HotOK.offd (h : HotOK c dx ls an so news) : ∀ p ∈ (c, o1) :: (an, o4) :: (so, o5) :: news, p.1 ≠ dx := all_cons h.cd (all_cons h.ad (all_cons h.sd h.d1))
theorem HotOK.offl (h : HotOK c dx ls an so news) : ∀ p ∈ (c, o1) :: (an, o4) :: (so, o5) :: news, p.1 ≠ ls := all_cons h.cl (all_cons h.al (all_cons h.sl h.l1))
theorem HotOK.taken {ls' : Addr} (h : HotOK c dx ls an so news) (f : FreshAns nw dx ls' ((c, o1) :: (an, o4) :: (so, o5) :: news)) : HotOK c dx ls' an so (nw ++ news) :=
  ⟨app_ne (fun p hp => Nat.ne_of_gt (f.f3 p hp (c, o1) (by simp))) h.c1, app_ne f.n1 h.d1, app_ne f.n2 (fun p hp => f.f2 p (by simp [hp])), app_ne (fun p hp => Nat.ne_of_gt (f.f3 p hp (an, o4) (by simp))) h.a1,
   app_ne (fun p hp => Nat.ne_of_gt (f.f3 p hp (so, o5) (by simp))) h.s1, h.cd, (f.f2 (c, o1) (by simp)), h.ca, h.cs, f.n3, h.ad, h.sd, (f.f2 (an, o4) (by simp)), (f.f2 (so, o5) (by simp)), h.sa⟩
end
section
variable {h₀ h : Heap} {L : Addr} {a b c d e f : Addr × Obj} {nw r : Led}
/-- what is newly made goes behind the turning cells -/
theorem news_back (N : News h₀ L h (nw ++ (a :: b :: c :: d :: e :: r))) : News h₀ L h (a :: b :: c :: d :: e :: (nw ++ r)) :=
  kst_newsOf N (fun x hx => by
    simp only [List.mem_cons, List.mem_append] at hx ⊢
    rcases hx with h | h | h | h | h | h | h <;> simp [h])
theorem news_one (N : News h₀ L h (f :: (a :: b :: c :: d :: e :: r))) : News h₀ L h (a :: b :: c :: d :: e :: (f :: r)) := news_back (nw := [f]) N
theorem news_src (N : News h₀ L h (a :: b :: c :: d :: e :: r)) : News h₀ L h (b :: c :: a :: d :: e :: r) :=
  kst_newsOf N (fun x hx => by
    simp only [List.mem_cons] at hx ⊢
    rcases hx with h | h | h | h | h | h <;> simp [h])
theorem news_took (N : News h₀ L h (b :: c :: (nw ++ (a :: d :: e :: r)))) : News h₀ L h (a :: b :: c :: d :: e :: (nw ++ r)) :=
  kst_newsOf N (fun x hx => by
    simp only [List.mem_cons, List.mem_append] at hx ⊢
    rcases hx with h | h | h | h | h | h | h <;> simp [h])
theorem news_sub {l l' : Led} (N : News h₀ L h l) (hs : ∀ p ∈ l', p ∈ l) : News h₀ L h l' := fun p hp => N p (hs p hp)
theorem news_drops (N : News h₀ L h (nw ++ r)) : News h₀ L h r := fun p hp => N p (List.mem_append_right _ hp)
end
end
section
open PySem PySem.W PyProof.Rows PySem.Calls
theorem sub_mem {α : Type} {T r : List α} {p : α} (h : ∀ p ∈ r, p ∈ T) (m : p ∈ r) : p ∈ T := h p m
section
variable {c dx ls an so : Addr} {news T : Led}
theorem HotOK.sub (h : HotOK c dx ls an so news) (hs : ∀ p ∈ T, p ∈ news) : HotOK c dx ls an so T :=
  ⟨fun p hp => h.c1 p (hs p hp), fun p hp => h.d1 p (hs p hp), fun p hp => h.l1 p (hs p hp), fun p hp => h.a1 p (hs p hp), fun p hp => h.s1 p (hs p hp), h.cd, h.cl, h.ca, h.cs, h.ld, h.ad, h.sd, h.al, h.sl, h.sa⟩
theorem HotOK.app (h : HotOK c dx ls an so news) (a1 : ∀ p ∈ T, p.1 ≠ c) (a2 : ∀ p ∈ T, p.1 ≠ dx) (a3 : ∀ p ∈ T, p.1 ≠ ls) (a4 : ∀ p ∈ T, p.1 ≠ an) (a5 : ∀ p ∈ T, p.1 ≠ so) : HotOK c dx ls an so (news ++ T) :=
  ⟨app_ne h.c1 a1, app_ne h.d1 a2, app_ne h.l1 a3, app_ne h.a1 a4, app_ne h.s1 a5, h.cd, h.cl, h.ca, h.cs, h.ld, h.ad, h.sd, h.al, h.sl, h.sa⟩
end
theorem TurnEnd.mk2 {σ : Type} {h₀ : Heap} {L : Addr} {keep : List Str} {m₀ : Str → Option Value} {bs : σ → Bs} {hot : σ → Led} {P : σ → Prop} {rest : Led} {s : Shared} {Q : Flow → Shared → Prop} {h' : Heap} {tk : Nat} {m' : Str → Option Value} (st : σ)
    (F : Fr h₀ L h' m') (N : News h₀ L h' (hot st ++ rest)) (hb : Binds m' (bs st)) (hk : Kept m' m₀ keep) (hs : Sep (hot st) rest) (hP : P st) :
    TurnEnd h₀ L keep m₀ bs hot P rest s Q .next { s with heap := h', toks := tk } := ⟨st, h', tk, m', rfl, F, N, hs, hb.all, hk.all, hP⟩
theorem name_lt {v : Nat} {z : Int} (h : (v : Int) < z) {G : Prop} (k : ∀ x : Nat, x = v → (x : Int) < z → G) : G := k v rfl h
structure SLaw where
  k : Int
  tk : Tok
  n : Nat
  a : Side
  b : Side
  kept : Led
noncomputable abbrev canO (lc : Addr) (k : Int) (tk : Tok) (n : Nat) : Obj := lst [.int k tk, .ref lc] n
noncomputable abbrev SLaw.hot (can lc : Addr) (f0 f1 : Fix) (st : SLaw) : Led := (can, canO lc st.k st.tk st.n) :: (st.a.hot f0 ++ (st.b.hot f1 ++ st.kept))
structure LawInv (w : World) (W : Nat) (can : Addr) (f0 f1 : Fix) (i : Nat) (st : SLaw) : Prop where
  k0 : 0 ≤ st.k
  k1 : st.k ≤ 101 + 4 * (i : Int)
  a : SideOk w W f0 st.a st.kept i
  b : SideOk w W f1 st.b st.kept i
  h0 : HotOK can f0.dx st.a.ls f0.an f0.so (st.b.hot f1 ++ st.kept)
  h1 : HotOK can f1.dx st.b.ls f1.an f1.so (st.a.hot f0 ++ st.kept)
noncomputable abbrev shape (can lc : Addr) (k : Int) (tk : Tok) (n : Nat) (f : Fix) (u : Side) (T : Led) : Led := (can, canO lc k tk n) :: (f.dx, u.D) :: (u.ls, lst u.svs u.k) :: (f.an, lst u.avs u.ak) :: (f.so, lst u.dvs u.dk) :: T
/-- off the other side's turning cells -/
noncomputable def OffSide (f : Fix) (u : Side) (l : Led) : Prop := ∀ p ∈ l, p.1 ≠ f.dx ∧ p.1 ≠ u.ls ∧ p.1 ≠ f.an ∧ p.1 ≠ f.so
theorem side_swap {can : Addr} {f fo : Fix} {u uo u' : Side} {kept kept' : Led} (h : HotOK can fo.dx uo.ls fo.an fo.so (u.hot f ++ kept)) (h' : HotOK can f.dx u'.ls f.an f.so (uo.hot fo ++ kept')) (ho : OffSide fo uo kept') : HotOK can fo.dx uo.ls fo.an fo.so (u'.hot f ++ kept') where
  c1 := app_ne (all_cons (Ne.symm h'.cd) (all_cons (Ne.symm h'.cl) (all_cons (Ne.symm h'.ca) (all_cons (Ne.symm h'.cs) (fun _ h => nomatch h))))) fun p hp => h'.c1 p (List.mem_append_right _ hp)
  d1 := app_ne (all_cons (Ne.symm (h'.d1 (fo.dx, uo.D) (by simp))) (all_cons (Ne.symm (h'.l1 (fo.dx, uo.D) (by simp))) (all_cons (Ne.symm (h'.a1 (fo.dx, uo.D) (by simp))) (all_cons (Ne.symm (h'.s1 (fo.dx, uo.D) (by simp))) (fun _ h => nomatch h))))) fun p hp => (ho p hp).1
  l1 := app_ne (all_cons (Ne.symm (h'.d1 (uo.ls, lst uo.svs uo.k) (by simp))) (all_cons (Ne.symm (h'.l1 (uo.ls, lst uo.svs uo.k) (by simp))) (all_cons (Ne.symm (h'.a1 (uo.ls, lst uo.svs uo.k) (by simp))) (all_cons (Ne.symm (h'.s1 (uo.ls, lst uo.svs uo.k) (by simp))) (fun _ h => nomatch h))))) fun p hp => (ho p hp).2.1
  a1 := app_ne (all_cons (Ne.symm (h'.d1 (fo.an, lst uo.avs uo.ak) (by simp))) (all_cons (Ne.symm (h'.l1 (fo.an, lst uo.avs uo.ak) (by simp))) (all_cons (Ne.symm (h'.a1 (fo.an, lst uo.avs uo.ak) (by simp))) (all_cons (Ne.symm (h'.s1 (fo.an, lst uo.avs uo.ak) (by simp))) (fun _ h => nomatch h))))) fun p hp => (ho p hp).2.2.1
  s1 := app_ne (all_cons (Ne.symm (h'.d1 (fo.so, lst uo.dvs uo.dk) (by simp))) (all_cons (Ne.symm (h'.l1 (fo.so, lst uo.dvs uo.dk) (by simp))) (all_cons (Ne.symm (h'.a1 (fo.so, lst uo.dvs uo.dk) (by simp))) (all_cons (Ne.symm (h'.s1 (fo.so, lst uo.dvs uo.dk) (by simp))) (fun _ h => nomatch h))))) fun p hp => (ho p hp).2.2.2
  cd := h.cd
  cl := h.cl
  ca := h.ca
  cs := h.cs
  ld := h.ld
  ad := h.ad
  sd := h.sd
  al := h.al
  sl := h.sl
  sa := h.sa
theorem HotOK.seps {can lc : Addr} {k : Int} {tk : Tok} {n : Nat} {f : Fix} {u : Side} {T rest : Led} (h : HotOK can f.dx u.ls f.an f.so T) (hr : ∀ p ∈ rest, p ∈ T) : (∀ q ∈ rest, q.1 ≠ can) ∧ (∀ p ∈ u.hot f, ∀ q ∈ rest, q.1 ≠ p.1) :=
  ⟨fun q hq => h.c1 q (hr q hq), fun p hp q hq => by
    simp only [Side.hot, List.mem_cons, List.not_mem_nil, or_false] at hp
    rcases hp with rfl | rfl | rfl | rfl
    · exact h.d1 q (hr q hq)
    · exact h.l1 q (hr q hq)
    · exact h.a1 q (hr q hq)
    · exact h.s1 q (hr q hq)⟩
theorem news_mid {h₀ h : Heap} {L : Addr} {a b c d : Led} {p : Addr × Obj} (N : News h₀ L h (p :: (a ++ (b ++ c)) ++ d)) : News h₀ L h (p :: (a ++ (b ++ (c ++ d)))) := by
  simpa only [List.cons_append, List.append_assoc] using N
theorem news_mid' {h₀ h : Heap} {L : Addr} {a b c d : Led} {p : Addr × Obj} (N : News h₀ L h (p :: (a ++ (b ++ (c ++ d))))) : News h₀ L h (p :: (a ++ (b ++ c)) ++ d) := by
  simpa only [List.cons_append, List.append_assoc] using N
theorem news_flip {h₀ h : Heap} {L : Addr} {a b d : Led} {p : Addr × Obj} (N : News h₀ L h (p :: (a ++ (b ++ d)))) : News h₀ L h (p :: (b ++ (a ++ d))) :=
  kst_newsOf N (fun x hx => by
    simp only [List.mem_cons, List.mem_append] at hx ⊢
    rcases hx with h | h | h | h <;> simp [h])
theorem sep_hot {can lc : Addr} {k : Int} {tk : Tok} {n : Nat} {a b c : Led} {rest : Led} (h1 : ∀ q ∈ rest, q.1 ≠ can) (h2 : ∀ p ∈ a, ∀ q ∈ rest, q.1 ≠ p.1) (h3 : ∀ p ∈ b, ∀ q ∈ rest, q.1 ≠ p.1) (h4 : ∀ p ∈ c, ∀ q ∈ rest, q.1 ≠ p.1) : Sep ((can, canO lc k tk n) :: (a ++ (b ++ c))) rest := fun p hp => by
  rcases List.mem_cons.mp hp with rfl | hp
  · exact h1
  · rcases List.mem_append.mp hp with hp | hp
    · exact h2 p hp
    · rcases List.mem_append.mp hp with hp | hp
      · exact h3 p hp
      · exact h4 p hp
/-- the side that is drawn, the other side, and how the state is laid together again -/
theorem law_side {w : World} {W : Nat} {can lc : Addr} {f0 f1 : Fix} {i : Nat} {st : SLaw} {h₀ h : Heap} {L : Addr} {rest : Led} (wh : Nat) (hw : (wh : Int) < 2) (inv : LawInv w W can f0 f1 i st) (hsep : Sep (st.hot can lc f0 f1) rest) {k1 : Int} {tk1 : Tok} {n1 : Nat} (N : News h₀ L h ((can, canO lc k1 tk1 n1) :: (st.a.hot f0 ++ (st.b.hot f1 ++ (st.kept ++ rest))))) :
    ∃ (f fo : Fix) (u uo : Side), ((wh = 0 ∧ f = f0 ∧ fo = f1) ∨ (wh = 1 ∧ f = f1 ∧ fo = f0)) ∧ SideOk w W f u st.kept i ∧ SideOk w W fo uo st.kept i ∧ News h₀ L h (shape can lc k1 tk1 n1 f u (uo.hot fo ++ (st.kept ++ rest))) ∧ HotOK can f.dx u.ls f.an f.so (uo.hot fo ++ (st.kept ++ rest)) ∧ OffSide fo uo st.kept ∧ (∀ p ∈ st.kept, ∀ q ∈ rest, q.1 ≠ p.1) ∧
      ∀ (k' : Int) (tk' : Tok) (n' : Nat) (u' : Side) (kept' : Led) (h' : Heap), News h₀ L h' (shape can lc k' tk' n' f u' (uo.hot fo ++ (kept' ++ rest))) → SideOk w W f u' kept' (i + 1) → HotOK can f.dx u'.ls f.an f.so (uo.hot fo ++ (kept' ++ rest)) → (∀ p ∈ st.kept, p ∈ kept') → OffSide fo uo kept' → (∀ p ∈ kept', ∀ q ∈ rest, q.1 ≠ p.1) → 0 ≤ k' → k' ≤ 101 + 4 * ((i + 1 : Nat) : Int) →
        ∃ st' : SLaw, News h₀ L h' (st'.hot can lc f0 f1 ++ rest) ∧ Sep (st'.hot can lc f0 f1) rest ∧ LawInv w W can f0 f1 (i + 1) st' := by
  obtain ⟨k, tk, n, ua, ub, kept⟩ := st
  obtain ⟨i1, i2, i3, i4, i5, i6⟩ := inv
  dsimp only at *
  have sc : ∀ q ∈ rest, q.1 ≠ can := hsep _ List.mem_cons_self
  have sa : ∀ p ∈ ua.hot f0, ∀ q ∈ rest, q.1 ≠ p.1 := fun p hp => hsep p (List.mem_cons_of_mem _ (List.mem_append_left _ hp))
  have sb : ∀ p ∈ ub.hot f1, ∀ q ∈ rest, q.1 ≠ p.1 := fun p hp => hsep p (List.mem_cons_of_mem _ (List.mem_append_right _ (List.mem_append_left _ hp)))
  have sk : ∀ p ∈ kept, ∀ q ∈ rest, q.1 ≠ p.1 := fun p hp => hsep p (List.mem_cons_of_mem _ (List.mem_append_right _ (List.mem_append_right _ hp)))
  have a1 := sa (f0.dx, ua.D) (.head _)
  have a2 := sa (ua.ls, lst ua.svs ua.k) (.tail _ (.head _))
  have a3 := sa (f0.an, lst ua.avs ua.ak) (.tail _ (.tail _ (.head _)))
  have a4 := sa (f0.so, lst ua.dvs ua.dk) (.tail _ (.tail _ (.tail _ (.head _))))
  have b1 := sb (f1.dx, ub.D) (.head _)
  have b2 := sb (ub.ls, lst ub.svs ub.k) (.tail _ (.head _))
  have b3 := sb (f1.an, lst ub.avs ub.ak) (.tail _ (.tail _ (.head _)))
  have b4 := sb (f1.so, lst ub.dvs ub.dk) (.tail _ (.tail _ (.tail _ (.head _))))
  have h2 : wh = 0 ∨ wh = 1 := by omega
  rcases h2 with rfl | rfl
  · refine ⟨f0, f1, ua, ub, .inl ⟨rfl, rfl, rfl⟩, i3, i4, N, ?_, ?_, sk, ?_⟩
    · rw [← List.append_assoc]; exact i5.app sc a1 a2 a3 a4
    · exact fun p hp => ⟨i6.d1 p (List.mem_append_right _ hp), i6.l1 p (List.mem_append_right _ hp), i6.a1 p (List.mem_append_right _ hp), i6.s1 p (List.mem_append_right _ hp)⟩
    · intro k' tk' n' u' kept' h' N' s' H' hk' ho' hs' c0 c1
      have H2 : HotOK can f0.dx u'.ls f0.an f0.so (ub.hot f1 ++ kept') := H'.sub fun p hp => by
        rcases List.mem_append.mp hp with hp | hp
        · exact List.mem_append_left _ hp
        · exact List.mem_append_right _ (List.mem_append_left _ hp)
      have z := H'.seps (lc := lc) (k := k') (tk := tk') (n := n') (u := u') (rest := rest) fun p hp => List.mem_append_right _ (List.mem_append_right _ hp)
      exact ⟨⟨k', tk', n', u', ub, kept'⟩, news_mid' N', sep_hot z.1 z.2 sb hs', ⟨c0, c1, s', i4.mono hk' (Nat.le_succ _), H2, side_swap i6 H2 ho'⟩⟩
  · refine ⟨f1, f0, ub, ua, .inr ⟨rfl, rfl, rfl⟩, i4, i3, news_flip N, ?_, ?_, sk, ?_⟩
    · rw [← List.append_assoc]; exact i6.app sc b1 b2 b3 b4
    · exact fun p hp => ⟨i5.d1 p (List.mem_append_right _ hp), i5.l1 p (List.mem_append_right _ hp), i5.a1 p (List.mem_append_right _ hp), i5.s1 p (List.mem_append_right _ hp)⟩
    · intro k' tk' n' u' kept' h' N' s' H' hk' ho' hs' c0 c1
      have H2 : HotOK can f1.dx u'.ls f1.an f1.so (ua.hot f0 ++ kept') := H'.sub fun p hp => by
        rcases List.mem_append.mp hp with hp | hp
        · exact List.mem_append_left _ hp
        · exact List.mem_append_right _ (List.mem_append_left _ hp)
      have z := H'.seps (lc := lc) (k := k') (tk := tk') (n := n') (u := u') (rest := rest) fun p hp => List.mem_append_right _ (List.mem_append_right _ hp)
      exact ⟨⟨k', tk', n', ua, u', kept'⟩, news_mid' (news_flip N'), sep_hot z.1 sa z.2 hs', ⟨c0, c1, i3.mono hk' (Nat.le_succ _), s', side_swap i5 H2 ho', H2⟩⟩
end
section
open PySem PySem.W PyProof.Rows PySem.Calls
theorem item_at {prog : Program} {w : World} {A : Around} {E : Value → Shared → Prop} {s : Shared} {value slice : PySem.Expr} {l : Addr} {vs : List Value} {k : Int} {u : Tok} {v : Value} {Q : Value → Shared → Prop}
    (hl : s.heap.IsList l vs.toArray) (h0 : 0 ≤ k) (hhi : k < 1000) (hx : vs[k.toNat]? = some v) (h : Q v s)
    (hs : subscripted slice false (.ref l) (.int k u) = operate [.ref l, .int k u] (getItem (.ref l) (.int k u)) := by with_unfolding_all rfl) :
    wpAny (model prog w) A (subscriptTail value slice (.ref l) (.int k u)) Q E s :=
  tail_any hl.typeIs slot_list_getitem.lookup (wpAny_getItem_list hl h0 (by omega) (by simpa using hx) h) hs
noncomputable def JoinAt (h₀ : Heap) (L : Addr) (m : Str → Option Value) (l : Led) (s : Shared) (fl : Flow) (s' : Shared) : Prop := fl = .next ∧ ∃ h' tk', s' = { s with heap := h', toks := tk' } ∧ Fr h₀ L h' m ∧ News h₀ L h' l
theorem JoinAt.mk {h₀ : Heap} {L : Addr} {m : Str → Option Value} {l l' : Led} {s : Shared} {h' : Heap} {tk' : Nat} (F : Fr h₀ L h' m) (N : News h₀ L h' l') (hs : ∀ p ∈ l, p ∈ l') : JoinAt h₀ L m l s .next { s with heap := h', toks := tk' } := ⟨rfl, h', tk', rfl, F, fun p hp => N p (hs p hp)⟩
theorem if_join {M : Model} {A : Around} {E : Value → Shared → Prop} {s : Shared} {test : Expr} {b o : List Stmt} {pos : Pos} {env : Env} {Q : Flow → Shared → Prop} {h₀ : Heap} {L : Addr} {m : Str → Option Value} {l : Led} (_ : Fr h₀ L s.heap m) (_ : News h₀ L s.heap l)
    (h1 : wpAny M A (exec (.If test b o pos) env) (JoinAt h₀ L m l s) E s) (h2 : ∀ h' tk', Fr h₀ L h' m → News h₀ L h' l → Q .next { s with heap := h', toks := tk' }) : wpAny M A (exec (.If test b o pos) env) Q E s :=
  wpAny_mono h1 (fun fl s' q => by obtain ⟨rfl, h', tk', rfl, F, N⟩ := q; exact h2 h' tk' F N) fun _ _ e => e
theorem fr_same {h₀ h : Heap} {L : Addr} {m : Str → Option Value} (F : Fr h₀ L h m) (G : (Str → Option Value) → Prop) (k : ∀ m', m' = m → Fr h₀ L h m' → G m') : G m := k m rfl F

theorem sub_mem2 {α : Type} {T r : List α} {p : α} (m : p ∈ r) (h : ∀ p ∈ r, p ∈ T) : p ∈ T := h p m
theorem in5 {α : Type} {p a b c d e : α} {T : List α} (h : p ∈ T) : p ∈ a :: b :: c :: d :: e :: T := .tail _ (.tail _ (.tail _ (.tail _ (.tail _ h))))
theorem in3 {α : Type} {p a b c : α} {T : List α} (h : p ∈ T) : p ∈ a :: b :: c :: T := .tail _ (.tail _ (.tail _ h))
theorem FreshSrc.offd {nw : Led} {dx ls : Addr} {news : Led} (f : FreshSrc nw dx ls news) : ∀ p ∈ nw ++ news, p.1 ≠ dx := app_ne f.n1 fun p hp => Nat.ne_of_lt (f.f1 p hp)
theorem FreshSrc.offl {nw : Led} {dx ls : Addr} {news : Led} (f : FreshSrc nw dx ls news) : ∀ p ∈ nw ++ news, p.1 ≠ ls := app_ne f.n2 fun p hp => Nat.ne_of_lt (f.f2 p hp)
theorem off_of {fo : Fix} {uo : Side} {T : Led} {p : Addr × Obj} (s : ∀ q ∈ uo.hot fo, q ∈ T) (h : ∀ q ∈ T, q.1 < p.1) : p.1 ≠ fo.dx ∧ p.1 ≠ uo.ls ∧ p.1 ≠ fo.an ∧ p.1 ≠ fo.so :=
  ⟨Nat.ne_of_gt (h _ (s _ (.head _))), Nat.ne_of_gt (h _ (s _ (.tail _ (.head _)))), Nat.ne_of_gt (h _ (s _ (.tail _ (.tail _ (.head _))))), Nat.ne_of_gt (h _ (s _ (.tail _ (.tail _ (.tail _ (.head _))))))⟩
theorem offside {fo : Fix} {uo : Side} {a : Addr × Obj} {nw kept : Led} (h1 : a.1 ≠ fo.dx ∧ a.1 ≠ uo.ls ∧ a.1 ≠ fo.an ∧ a.1 ≠ fo.so) (h2 : OffSide fo uo nw) (h3 : OffSide fo uo kept) : OffSide fo uo (a :: (nw ++ kept)) := fun p hp => by
  rcases List.mem_cons.mp hp with rfl | hp
  · exact h1
  · exact (List.mem_append.mp hp).elim (h2 p) (h3 p)
theorem sepkept {a : Addr × Obj} {nw kept rest : Led} (h1 : ∀ q ∈ rest, q.1 ≠ a.1) (h2 : ∀ p ∈ nw, ∀ q ∈ rest, q.1 ≠ p.1) (h3 : ∀ p ∈ kept, ∀ q ∈ rest, q.1 ≠ p.1) : ∀ p ∈ a :: (nw ++ kept), ∀ q ∈ rest, q.1 ≠ p.1 := fun p hp => by
  rcases List.mem_cons.mp hp with rfl | hp
  · exact h1
  · exact (List.mem_append.mp hp).elim (h2 p) (h3 p)
theorem tail_sub {o : Led} {x : Addr × Obj} {nw kept rest T : Led} (h1 : ∀ p ∈ o, p ∈ T) (h2 : x ∈ T) (h3 : ∀ p ∈ nw, p ∈ T) (h4 : ∀ p ∈ kept, p ∈ T) (h5 : ∀ p ∈ rest, p ∈ T) : ∀ p ∈ o ++ ((x :: (nw ++ kept)) ++ rest), p ∈ T := fun p hp => by
  rcases List.mem_append.mp hp with hp | hp
  · exact h1 p hp
  · rcases List.mem_append.mp hp with hp | hp
    · rcases List.mem_cons.mp hp with rfl | hp
      · exact h2
      · exact (List.mem_append.mp hp).elim (h3 p) (h4 p)
    · exact h5 p hp
/-- the side behind the deed -/
theorem SideOk.step {w : World} {W : Nat} {f : Fix} {u : Side} {kept nwT : Led} {i fD gD : Nat} {rD : Addr} {tD uD : Tok} {D' : Obj} {ls' : Addr} {svs' : List Value} {k3' ak' dk' : Nat} {v : Value} (h : SideOk w W f u kept i) (d : DeedOk fD gD)
    (S' : SrcIs w W f.n2 f.x f.dx D' ls' svs' (taken W u.c fD gD).1) (A' : AnsIs W nwT v (taken W u.c fD gD).2) :
    SideOk w W f ⟨(taken W u.c fD gD).1, D', ls', svs', k3', u.avs ++ [v], ak', u.dvs ++ [.ref rD], dk', u.ds ++ [(fD, gD)]⟩ ((rD, tupO [.int (fD : Int) tD, .int (gD : Int) uD]) :: (nwT ++ kept)) (i + 1) where
  ok := taken_ok h.ok d
  src := S'
  like := h.like.trans (taken_like h.ok d)
  aft := by
    show _ = after W f.c0 (u.ds ++ [(fD, gD)])
    rw [after_snoc, ← h.aft]
  deeds := (h.deeds.mono fun p hp => List.mem_cons_of_mem _ (List.mem_append_right _ hp)).snoc (t0 := tD) (t1 := uD) List.mem_cons_self d
  ans := by
    show RdAll _ (u.avs ++ [v]) ((told W f.c0 (u.ds ++ [(fD, gD)])).map (ansD W))
    rw [told_snoc, ← h.aft, List.map_append]
    exact (h.ans.mono fun p hp => List.mem_cons_of_mem _ (List.mem_append_right _ hp)).snoc ((A'.mono fun p hp => List.mem_cons_of_mem _ (List.mem_append_left _ hp)).rd)
  len := by
    show (u.ds ++ [(fD, gD)]).length ≤ _
    have := h.len
    simp; omega
  alen := by
    show (u.avs ++ [v]).length ≤ _
    have := h.alen
    simp; omega
/-- where the row was drawn, it went on by its rule -/
theorem led_of {w : World} {W : Nat} {f : Fix} {u : Side} {kept : Led} {i fD gD wh : Nat} (hu : SideOk w W f u kept i) (dOk : DeedOk fD gD) (dRow : ((wh : Int) == 1) = true → fD = 2 ∨ fD = 3 → gD = 1 ∨ gD = 2 ∨ gD = 4 ∨ gD = 8) (hlag : wh = 1 → ∃ r pl, f.c0 = .lag r pl) (h : wh = 1) :
    ∃ row0 row pl n, u.c = .lag row0 pl ∧ (taken W u.c fD gD).1 = .lag row pl ∧ n < 40 ∧ row = rowAt W pl row0 n := by
  obtain ⟨r, pl, e⟩ := hlag h
  have hl := hu.like
  rw [e] at hl
  subst h
  obtain ⟨j, hj, ej⟩ := taken_nth (W := W) (c := u.c) dOk (dRow (by decide))
  cases hc : u.c with
  | cong p q d S => rw [hc] at hl; exact hl.elim
  | lag row0 pl' =>
    rw [hc, nth_lag] at ej
    exact ⟨row0, _, pl', j, rfl, ej, hj, rfl⟩
theorem sub5 {α : Type} {a b c d e : α} {T T' : List α} (h : ∀ p ∈ T', p ∈ T) : ∀ p ∈ a :: b :: c :: d :: e :: T', p ∈ a :: b :: c :: d :: e :: T := fun p hp => by
  simp only [List.mem_cons] at hp ⊢
  rcases hp with h' | h' | h' | h' | h' | h'
  · exact .inl h'
  · exact .inr (.inl h')
  · exact .inr (.inr (.inl h'))
  · exact .inr (.inr (.inr (.inl h')))
  · exact .inr (.inr (.inr (.inr (.inl h'))))
  · exact .inr (.inr (.inr (.inr (.inr (h p h')))))
theorem lst_push (vs : List Value) (v : Value) (k : Nat) : PySem.W.listOf (vs.toArray.push v) k = lst (vs ++ [v]) k := by
  have e : vs.toArray.push v = (vs ++ [v]).toArray := by simp
  rw [e]
theorem offcan {can : Addr} {f0 f1 : Fix} {ua ub : Side} {kept rest : Led} (h : HotOK can f0.dx ua.ls f0.an f0.so (ub.hot f1 ++ kept)) (hr : ∀ q ∈ rest, q.1 ≠ can) : ∀ p ∈ ua.hot f0 ++ (ub.hot f1 ++ (kept ++ rest)), p.1 ≠ can :=
  app_ne (all_cons (Ne.symm h.cd) (all_cons (Ne.symm h.cl) (all_cons (Ne.symm h.ca) (all_cons (Ne.symm h.cs) (fun _ h => nomatch h))))) (app_ne (fun p hp => h.c1 p (List.mem_append_left _ hp)) (app_ne (fun p hp => h.c1 p (List.mem_append_right _ hp)) hr))
theorem in4 {α : Type} {p a b c d : α} {T : List α} (h : p ∈ T) : p ∈ a :: b :: c :: d :: T := .tail _ (.tail _ (.tail _ (.tail _ h)))
theorem sep_start {can lc : Addr} {k : Int} {tk : Tok} {n : Nat} {f0 f1 : Fix} {u0 u1 : Side} {rest : Led} (h0 : HotOK can f0.dx u0.ls f0.an f0.so (u1.hot f1 ++ rest)) (h1 : HotOK can f1.dx u1.ls f1.an f1.so (u0.hot f0 ++ rest)) : SepL rest (SLaw.hot can lc f0 f1 ⟨k, tk, n, u0, u1, []⟩) :=
  ⟨fun p hp => h0.c1 p (in4 hp), fun p hp => h0.d1 p (in4 hp), fun p hp => h0.l1 p (in4 hp), fun p hp => h0.a1 p (in4 hp), fun p hp => h0.s1 p (in4 hp), fun p hp => h1.d1 p (in4 hp), fun p hp => h1.l1 p (in4 hp), fun p hp => h1.a1 p (in4 hp), fun p hp => h1.s1 p (in4 hp), trivial⟩
theorem inv_start {w : World} {W : Nat} {can : Addr} {k : Int} {tk : Tok} {n : Nat} {f0 f1 : Fix} {u0 u1 : Side} {rest : Led} (hk0 : 0 ≤ k) (hk1 : k ≤ 101) (s0 : SideOk w W f0 u0 [] 0) (s1 : SideOk w W f1 u1 [] 0) (h0 : HotOK can f0.dx u0.ls f0.an f0.so (u1.hot f1 ++ rest)) (h1 : HotOK can f1.dx u1.ls f1.an f1.so (u0.hot f0 ++ rest)) : LawInv w W can f0 f1 0 ⟨k, tk, n, u0, u1, []⟩ :=
  ⟨hk0, by simpa using hk1, s0, s1, h0.sub fun p hp => List.mem_append_left _ (by simpa using hp), h1.sub fun p hp => List.mem_append_left _ (by simpa using hp)⟩
end
section
open PySem PySem.W PyProof.Rows PySem.Calls
section
variable {h₀ h : Heap} {L : Addr} {p1 p2 p3 p4 p5 p6 p7 p8 q : Addr × Obj} {r : Led}
theorem news_can3 (N : News h₀ L h (p1 :: p2 :: p3 :: q :: r)) : News h₀ L h (q :: p1 :: p2 :: p3 :: r) := fun x hx => N x (by
  simp only [List.mem_cons] at hx ⊢
  rcases hx with h | h | h | h | h <;> simp [h])
theorem news_can7 (N : News h₀ L h (p1 :: p2 :: p3 :: p4 :: p5 :: p6 :: p7 :: q :: r)) : News h₀ L h (q :: p1 :: p2 :: p3 :: p4 :: p5 :: p6 :: p7 :: r) := fun x hx => N x (by
  simp only [List.mem_cons] at hx ⊢
  rcases hx with h | h | h | h | h | h | h | h | h <;> simp [h])
end
theorem split_can {h₀ h : Heap} {L can lc : Addr} {k : Int} {tk : Tok} {n : Nat} {r : Led} (N : News h₀ L h ((can, lst [.int k tk, .ref lc] n) :: r)) {G : Prop} (K : ∀ rest tk', rest = r → News h₀ L h ((can, canO lc k tk' n) :: rest) → G) : G := K r tk rfl N
theorem mem_eq0 {a : Addr × Obj} {rest r : Led} (e : rest = a :: r) : a ∈ rest := e ▸ .head _
theorem mem_eq1 {a b : Addr × Obj} {rest r : Led} (e : rest = a :: b :: r) : b ∈ rest := e ▸ .tail _ (.head _)
theorem mem_eq2 {a b c : Addr × Obj} {rest r : Led} (e : rest = a :: b :: c :: r) : c ∈ rest := e ▸ .tail _ (.tail _ (.head _))
theorem mem_eq3 {a b c d : Addr × Obj} {rest r : Led} (e : rest = a :: b :: c :: d :: r) : d ∈ rest := e ▸ .tail _ (.tail _ (.tail _ (.head _)))
theorem mem_eq4 {a b c d f : Addr × Obj} {rest r : Led} (e : rest = a :: b :: c :: d :: f :: r) : f ∈ rest := e ▸ .tail _ (.tail _ (.tail _ (.tail _ (.head _))))
theorem mem_eq5 {a b c d f g : Addr × Obj} {rest r : Led} (e : rest = a :: b :: c :: d :: f :: g :: r) : g ∈ rest := e ▸ .tail _ (.tail _ (.tail _ (.tail _ (.tail _ (.head _)))))
theorem mem_eq6 {a b c d f g i : Addr × Obj} {rest r : Led} (e : rest = a :: b :: c :: d :: f :: g :: i :: r) : i ∈ rest := e ▸ .tail _ (.tail _ (.tail _ (.tail _ (.tail _ (.tail _ (.head _))))))
theorem comp_sub3 {I C D x : Addr × Obj} {r : Led} : ∀ p ∈ I :: C :: D :: x :: r, p ∈ x :: I :: C :: D :: r := fun p hp => by
  simp only [List.mem_cons] at hp ⊢
  rcases hp with h | h | h | h | h <;> simp [h]
/-- the row that is poured -/
noncomputable def RowInv (can lc : Addr) (rest : Led) (W : Nat) (i : Nat) (ys : List Value) (nw : Led) : Prop := ∃ (k : Int) (tk : Tok) (ls : List Nat), 0 ≤ k ∧ k ≤ 10 + (i : Int) ∧ nw = (can, canO lc k tk 0) :: rest ∧ IntsAre ys (up ls) ∧ ls.length = i ∧ Lim W ls
open PyProof.Rows.LCg in
/-- a source begun within a comprehension: what lies behind it -/
theorem comp_begun {h₀ h : Heap} {L : Addr} {I C D dx ls : Addr} {oI oC oD D0 o1 : Obj} {nw news : Led} (N : News h₀ L h ((dx, D0) :: (ls, o1) :: (nw ++ ((I, oI) :: (C, oC) :: (D, oD) :: news)))) (FS : FreshSrc nw dx ls ((I, oI) :: (C, oC) :: (D, oD) :: news)) (off : Off3 I C D news) :
    (∀ p ∈ (I, oI) :: (C, oC) :: (D, oD) :: ((dx, D0) :: (ls, o1) :: (nw ++ news)), p ∈ (dx, D0) :: (ls, o1) :: (nw ++ ((I, oI) :: (C, oC) :: (D, oD) :: news))) ∧ Off3 I C D ((dx, D0) :: (ls, o1) :: (nw ++ news)) := by
  refine ⟨fun p hp => ?_, Off3.of fun p hp => ?_⟩
  · simp only [List.mem_cons, List.mem_append] at hp ⊢
    rcases hp with h | h | h | h | h | h | h <;> simp [h]
  · have fi := fun (a : Addr) (o : Obj) (h : (a, o) ∈ (I, oI) :: (C, oC) :: (D, oD) :: news) => FS.f1 _ h
    rcases List.mem_cons.mp hp with rfl | hp
    · exact ⟨Nat.ne_of_gt (FS.f1 _ (.head _)), Nat.ne_of_gt (FS.f1 _ (.tail _ (.head _))), Nat.ne_of_gt (FS.f1 _ (.tail _ (.tail _ (.head _))))⟩
    · rcases List.mem_cons.mp hp with rfl | hp
      · exact ⟨Nat.ne_of_gt (FS.f2 _ (.head _)), Nat.ne_of_gt (FS.f2 _ (.tail _ (.head _))), Nat.ne_of_gt (FS.f2 _ (.tail _ (.tail _ (.head _))))⟩
      · rcases List.mem_append.mp hp with hp | hp
        · exact ⟨Nat.ne_of_gt (FS.f3 p hp _ (.head _)), Nat.ne_of_gt (FS.f3 p hp _ (.tail _ (.head _))), Nat.ne_of_gt (FS.f3 p hp _ (.tail _ (.tail _ (.head _))))⟩
        · exact off.mem p hp
end
section
open PySem PySem.W PyProof.Rows PySem.Calls PyProof.Rows.LCg
theorem off1_mem {D : Addr} : ∀ {l : Led}, Off1 D l → ∀ p ∈ l, p.1 ≠ D
  | [], _, _, h => nomatch h
  | _ :: _, x, p, h => by
    rcases List.mem_cons.mp h with rfl | h
    · exact x.1
    · exact off1_mem x.2 p h
/-- the two sources and the vessel, side by side, off all the rest -/
structure Start (can dx0 ls0 dx1 ls1 : Addr) (T : Led) : Prop where
  tc : ∀ p ∈ T, p.1 ≠ can
  td0 : ∀ p ∈ T, p.1 ≠ dx0
  tl0 : ∀ p ∈ T, p.1 ≠ ls0
  td1 : ∀ p ∈ T, p.1 ≠ dx1
  tl1 : ∀ p ∈ T, p.1 ≠ ls1
  a1 : @Ne Nat dx0 can
  a2 : @Ne Nat ls0 can
  a3 : @Ne Nat dx1 can
  a4 : @Ne Nat ls1 can
  a5 : @Ne Nat ls0 dx0
  a6 : @Ne Nat dx1 dx0
  a7 : @Ne Nat ls1 dx0
  a8 : @Ne Nat dx1 ls0
  a9 : @Ne Nat ls1 ls0
  a10 : @Ne Nat ls1 dx1
theorem law_regroup {h₀ h : Heap} {L : Addr} {pr dx0 ls0 dx1 ls1 bg r1 can lr I0 C0 D00 I1 C1 D01 : Addr} {op D0 D1 o0 o1 ob or1 oc olr oI0 oC0 oD0 oI1 oC1 oD1 : Obj} {nw0 nw1 rest1 : Led}
    (N : News h₀ L h ((pr, op) :: (dx1, D1) :: (ls1, o1) :: (nw1 ++ ((dx0, D0) :: (ls0, o0) :: (nw0 ++ ((bg, ob) :: (r1, or1) :: (can, oc) :: (lr, olr) :: rest1))))))
    (FS0 : FreshSrc nw0 dx0 ls0 ((I0, oI0) :: (C0, oC0) :: (D00, oD0) :: (bg, ob) :: (r1, or1) :: (can, oc) :: (lr, olr) :: rest1))
    (FS1 : FreshSrc nw1 dx1 ls1 ((I1, oI1) :: (C1, oC1) :: (D01, oD1) :: (dx0, D0) :: (ls0, o0) :: (nw0 ++ ((bg, ob) :: (r1, or1) :: (can, oc) :: (lr, olr) :: rest1))))
    (hc1 : @Ne Nat bg can) (hc2 : @Ne Nat r1 can) (hc3 : @Ne Nat lr can) (hc4 : ∀ p ∈ rest1, p.1 ≠ can)
    (o8 : Off1 pr ((dx1, D1) :: (ls1, o1) :: (nw1 ++ ((dx0, D0) :: (ls0, o0) :: (nw0 ++ ((bg, ob) :: (r1, or1) :: (can, oc) :: (lr, olr) :: rest1)))))) :
    ∃ T, (pr, op) ∈ T ∧ (bg, ob) ∈ T ∧ (r1, or1) ∈ T ∧ (lr, olr) ∈ T ∧ (∀ p ∈ rest1, p ∈ T) ∧ (∀ p ∈ nw0, p ∈ T) ∧ (∀ p ∈ nw1, p ∈ T) ∧ News h₀ L h ((can, oc) :: (dx0, D0) :: (ls0, o0) :: (dx1, D1) :: (ls1, o1) :: T) ∧ Start can dx0 ls0 dx1 ls1 T := by
  have o := off1_mem o8
  have hc : ∀ p ∈ (bg, ob) :: (r1, or1) :: (lr, olr) :: rest1, p.1 ≠ can := all_cons hc1 (all_cons hc2 (all_cons hc3 hc4))
  have b1 : ∀ p ∈ (bg, ob) :: (r1, or1) :: (lr, olr) :: rest1, p ∈ (I0, oI0) :: (C0, oC0) :: (D00, oD0) :: (bg, ob) :: (r1, or1) :: (can, oc) :: (lr, olr) :: rest1 := fun p hp => by
    simp only [List.mem_cons] at hp ⊢
    rcases hp with h | h | h | h <;> simp [h]
  have b2 : ∀ p ∈ nw0 ++ ((bg, ob) :: (r1, or1) :: (lr, olr) :: rest1), p ∈ (I1, oI1) :: (C1, oC1) :: (D01, oD1) :: (dx0, D0) :: (ls0, o0) :: (nw0 ++ ((bg, ob) :: (r1, or1) :: (can, oc) :: (lr, olr) :: rest1)) := fun p hp => by
    simp only [List.mem_cons, List.mem_append] at hp ⊢
    rcases hp with h | h | h | h | h <;> simp [h]
  have c0 : (can, oc) ∈ (I0, oI0) :: (C0, oC0) :: (D00, oD0) :: (bg, ob) :: (r1, or1) :: (can, oc) :: (lr, olr) :: rest1 := by simp
  have c1 : (can, oc) ∈ (I1, oI1) :: (C1, oC1) :: (D01, oD1) :: (dx0, D0) :: (ls0, o0) :: (nw0 ++ ((bg, ob) :: (r1, or1) :: (can, oc) :: (lr, olr) :: rest1)) := by simp
  have d1 : (dx0, D0) ∈ (I1, oI1) :: (C1, oC1) :: (D01, oD1) :: (dx0, D0) :: (ls0, o0) :: (nw0 ++ ((bg, ob) :: (r1, or1) :: (can, oc) :: (lr, olr) :: rest1)) := by simp
  have l1 : (ls0, o0) ∈ (I1, oI1) :: (C1, oC1) :: (D01, oD1) :: (dx0, D0) :: (ls0, o0) :: (nw0 ++ ((bg, ob) :: (r1, or1) :: (can, oc) :: (lr, olr) :: rest1)) := by simp
  refine ⟨(pr, op) :: (nw1 ++ (nw0 ++ ((bg, ob) :: (r1, or1) :: (lr, olr) :: rest1))), ?_, ?_, ?_, ?_, ?_, ?_, ?_, ?_, ?_⟩
  · simp
  · simp
  · simp
  · simp
  · exact fun p hp => by simp [hp]
  · exact fun p hp => by simp [hp]
  · exact fun p hp => by simp [hp]
  · exact kst_newsOf N (fun x hx => by
      simp only [List.mem_cons, List.mem_append] at hx ⊢
      rcases hx with h | h | h | h | h | h | h | h | h | h | h | h <;> simp [h])
  · refine ⟨?_, ?_, ?_, ?_, ?_, Nat.ne_of_gt (FS0.f1 _ c0), Nat.ne_of_gt (FS0.f2 _ c0), Nat.ne_of_gt (FS1.f1 _ c1), Nat.ne_of_gt (FS1.f2 _ c1), FS0.n3, Nat.ne_of_gt (FS1.f1 _ d1), Nat.ne_of_gt (FS1.f2 _ d1), Nat.ne_of_gt (FS1.f1 _ l1), Nat.ne_of_gt (FS1.f2 _ l1), FS1.n3⟩
    · exact all_cons (Ne.symm (o (can, oc) (by simp))) (app_ne (fun p hp => Nat.ne_of_gt (FS1.f3 p hp _ c1)) (app_ne (fun p hp => Nat.ne_of_gt (FS0.f3 p hp _ c0)) hc))
    · exact all_cons (Ne.symm (o (dx0, D0) (by simp))) (app_ne (fun p hp => Nat.ne_of_gt (FS1.f3 p hp _ d1)) (app_ne FS0.n1 fun p hp => Nat.ne_of_lt (FS0.f1 p (b1 p hp))))
    · exact all_cons (Ne.symm (o (ls0, o0) (by simp))) (app_ne (fun p hp => Nat.ne_of_gt (FS1.f3 p hp _ l1)) (app_ne FS0.n2 fun p hp => Nat.ne_of_lt (FS0.f2 p (b1 p hp))))
    · exact all_cons (Ne.symm (o (dx1, D1) (by simp))) (app_ne FS1.n1 fun p hp => Nat.ne_of_lt (FS1.f1 p (b2 p hp)))
    · exact all_cons (Ne.symm (o (ls1, o1) (by simp))) (app_ne FS1.n2 fun p hp => Nat.ne_of_lt (FS1.f2 p (b2 p hp)))
theorem name_st {h₀ h : Heap} {L c a1 a2 a3 a4 a5 a6 a7 : Addr} {oc o1 o2 o3 o4 o5 o6 o7 : Obj} {r : Led} (_N : News h₀ L h ((c, oc) :: (a1, o1) :: (a2, o2) :: (a3, o3) :: (a4, o4) :: (a5, o5) :: (a6, o6) :: (a7, o7) :: r)) {G : Prop}
    (K : ∀ b1 b2 b3 b4 b5 b6 b7, b1 = a1 → b2 = a2 → b3 = a3 → b4 = a4 → b5 = a5 → b6 = a6 → b7 = a7 → G) : G := K _ _ _ _ _ _ _ rfl rfl rfl rfl rfl rfl rfl
theorem law_ready {w : World} {W : Nat} {h₀ h : Heap} {L can lc : Addr} {k : Int} {tk : Tok} {x0 dx0 ls0 x1 dx1 ls1 an an0 an1 so so0 so1 tp r0 r1 pr bg : Addr} {D0 D1 otp : Obj} {svs0 svs1 : List Value} {k0 k1 : Nat} {nw0 nw1 T : Led} {c0 c1 : Src}
    (N : News h₀ L h ((can, lst [.int k tk, .ref lc] 0) :: (tp, otp) :: (so, PySem.W.listOf #[.ref so0, .ref so1] 0) :: (so1, PySem.W.listOf #[] 0) :: (so0, PySem.W.listOf #[] 0) :: (an, PySem.W.listOf #[.ref an0, .ref an1] 0) :: (an1, PySem.W.listOf #[] 0) :: (an0, PySem.W.listOf #[] 0) :: (dx0, D0) :: (ls0, lst svs0 k0) :: (dx1, D1) :: (ls1, lst svs1 k1) :: T))
    (hSt : Start can dx0 ls0 dx1 ls1 T) (hb : @LT.lt Nat _ can an0 ∧ @LT.lt Nat _ dx0 an0 ∧ @LT.lt Nat _ ls0 an0 ∧ @LT.lt Nat _ dx1 an0 ∧ @LT.lt Nat _ ls1 an0 ∧ AllLt an0 T)
    (h1 : @LT.lt Nat _ an0 an1) (h2 : @LT.lt Nat _ an1 an) (h3 : @LT.lt Nat _ an so0) (h4 : @LT.lt Nat _ so0 so1) (h5 : @LT.lt Nat _ so1 so)
    (S0 : SrcIs w W nw0 x0 dx0 D0 ls0 svs0 c0) (S1 : SrcIs w W nw1 x1 dx1 D1 ls1 svs1 c1) (ok0 : c0.ok W) (ok1 : c1.ok W) (n0 : ∀ p ∈ nw0, p ∈ T) (n1 : ∀ p ∈ nw1, p ∈ T) (t0 : TellIs T r0 c0) (t1 : TellIs T r1 c1)
    (mp : (pr, lst [.ref x0, .ref x1] 2) ∈ T) (mb : (bg, lst [.ref r0, .ref r1] 0) ∈ T) :
    ∃ (f0 f1 : Fix) (u0 u1 : Side) (rest : Led) (tkc : Tok), News h₀ L h ((can, canO lc k tkc 0) :: (f0.dx, u0.D) :: (u0.ls, lst u0.svs u0.k) :: (f0.an, lst u0.avs u0.ak) :: (f0.so, lst u0.dvs u0.dk) :: (f1.dx, u1.D) :: (u1.ls, lst u1.svs u1.k) :: (f1.an, lst u1.avs u1.ak) :: (f1.so, lst u1.dvs u1.dk) :: rest) ∧
      ((pr, lst [.ref f0.x, .ref f1.x] 2) ∈ rest ∧ (bg, lst [.ref f0.t, .ref f1.t] 0) ∈ rest ∧ (an, lst [.ref f0.an, .ref f1.an] 0) ∈ rest ∧ (so, lst [.ref f0.so, .ref f1.so] 0) ∈ rest) ∧ (∀ p ∈ T, p ∈ rest) ∧ (SideOk w W f0 u0 [] 0 ∧ SideOk w W f1 u1 [] 0) ∧ (TellIs rest f0.t f0.c0 ∧ TellIs rest f1.t f1.c0) ∧ (f0.c0 = c0 ∧ f1.c0 = c1) ∧
      ((∀ p ∈ f0.n2, p ∈ rest) ∧ ∀ p ∈ f1.n2, p ∈ rest) ∧
      HotOK can f0.dx u0.ls f0.an f0.so ((f1.dx, u1.D) :: (u1.ls, lst u1.svs u1.k) :: (f1.an, lst u1.avs u1.ak) :: (f1.so, lst u1.dvs u1.dk) :: rest) ∧ HotOK can f1.dx u1.ls f1.an f1.so ((f0.dx, u0.D) :: (u0.ls, lst u0.svs u0.k) :: (f0.an, lst u0.avs u0.ak) :: (f0.so, lst u0.dvs u0.dk) :: rest) := by
  obtain ⟨b1, b2, b3, b4, b5, b6⟩ := hb
  have bT := kst_ltOf b6
  have hT : ∀ p ∈ T, p ∈ (so, lst [.ref so0, .ref so1] 0) :: (an, lst [.ref an0, .ref an1] 0) :: T := fun p hp => .tail _ (.tail _ hp)
  have up : ∀ {d : Addr}, @LT.lt Nat _ an0 d → ∀ p ∈ T, p.1 ≠ d := fun hd p hp => Nat.ne_of_lt (Nat.lt_trans (bT p hp) hd)
  refine ⟨⟨x0, dx0, r0, an0, so0, nw0, c0⟩, ⟨x1, dx1, r1, an1, so1, nw1, c1⟩, ⟨c0, D0, ls0, svs0, k0, [], 0, [], 0, []⟩, ⟨c1, D1, ls1, svs1, k1, [], 0, [], 0, []⟩, (so, lst [.ref so0, .ref so1] 0) :: (an, lst [.ref an0, .ref an1] 0) :: T, tk, ?_, ⟨hT _ mp, hT _ mb, .tail _ (.head _), .head _⟩, hT, ⟨?_, ?_⟩, ⟨t0.mono hT, t1.mono hT⟩, ⟨rfl, rfl⟩, ⟨fun p hp => hT p (n0 p hp), fun p hp => hT p (n1 p hp)⟩, ?_, ?_⟩
  · exact kst_newsOf N (fun x hx => by
      simp only [List.mem_cons] at hx ⊢
      rcases hx with h | h | h | h | h | h | h | h | h | h | h | h <;> simp [h])
  · exact ⟨ok0, S0, Src.like.refl _, rfl, .nil, .nil _, Nat.le_refl _, Nat.le_refl _⟩
  · exact ⟨ok1, S1, Src.like.refl _, rfl, .nil, .nil _, Nat.le_refl _, Nat.le_refl _⟩
  · exact ⟨all_cons hSt.a3 (all_cons hSt.a4 (all_cons (by (try dsimp only); omega) (all_cons (by (try dsimp only); omega) (all_cons (by (try dsimp only); omega) (all_cons (by (try dsimp only); omega) hSt.tc))))),
      all_cons hSt.a6 (all_cons hSt.a7 (all_cons (by (try dsimp only); omega) (all_cons (by (try dsimp only); omega) (all_cons (by (try dsimp only); omega) (all_cons (by (try dsimp only); omega) hSt.td0))))),
      all_cons hSt.a8 (all_cons hSt.a9 (all_cons (by (try dsimp only); omega) (all_cons (by (try dsimp only); omega) (all_cons (by (try dsimp only); omega) (all_cons (by (try dsimp only); omega) hSt.tl0))))),
      all_cons (by (try dsimp only); omega) (all_cons (by (try dsimp only); omega) (all_cons (by (try dsimp only); omega) (all_cons (by (try dsimp only); omega) (all_cons (by (try dsimp only); omega) (all_cons (by (try dsimp only); omega) (fun p hp => Nat.ne_of_lt (bT p hp))))))),
      all_cons (by (try dsimp only); omega) (all_cons (by (try dsimp only); omega) (all_cons (by (try dsimp only); omega) (all_cons (by (try dsimp only); omega) (all_cons (by (try dsimp only); omega) (all_cons (by (try dsimp only); omega) (up (by (try dsimp only); omega))))))),
      Ne.symm hSt.a1, Ne.symm hSt.a2, by (try dsimp only); omega, by (try dsimp only); omega, hSt.a5, by (try dsimp only); omega, by (try dsimp only); omega, by (try dsimp only); omega, by (try dsimp only); omega, by (try dsimp only); omega⟩
  · exact ⟨all_cons hSt.a1 (all_cons hSt.a2 (all_cons (by (try dsimp only); omega) (all_cons (by (try dsimp only); omega) (all_cons (by (try dsimp only); omega) (all_cons (by (try dsimp only); omega) hSt.tc))))),
      all_cons (Ne.symm hSt.a6) (all_cons (Ne.symm hSt.a8) (all_cons (by (try dsimp only); omega) (all_cons (by (try dsimp only); omega) (all_cons (by (try dsimp only); omega) (all_cons (by (try dsimp only); omega) hSt.td1))))),
      all_cons (Ne.symm hSt.a7) (all_cons (Ne.symm hSt.a9) (all_cons (by (try dsimp only); omega) (all_cons (by (try dsimp only); omega) (all_cons (by (try dsimp only); omega) (all_cons (by (try dsimp only); omega) hSt.tl1))))),
      all_cons (by (try dsimp only); omega) (all_cons (by (try dsimp only); omega) (all_cons (by (try dsimp only); omega) (all_cons (by (try dsimp only); omega) (all_cons (by (try dsimp only); omega) (all_cons (by (try dsimp only); omega) (up (by (try dsimp only); omega))))))),
      all_cons (by (try dsimp only); omega) (all_cons (by (try dsimp only); omega) (all_cons (by (try dsimp only); omega) (all_cons (by (try dsimp only); omega) (all_cons (by (try dsimp only); omega) (all_cons (by (try dsimp only); omega) (up (by (try dsimp only); omega))))))),
      Ne.symm hSt.a3, Ne.symm hSt.a4, by (try dsimp only); omega, by (try dsimp only); omega, hSt.a10, by (try dsimp only); omega, by (try dsimp only); omega, by (try dsimp only); omega, by (try dsimp only); omega, by (try dsimp only); omega⟩
end
section
open PySem PySem.W PyProof.Rows PySem.Calls PyProof.Rows.LCg
/-- what the last loop reads of one side -/
structure LastOk (W : Nat) (f : Fix) (u : Side) (T : Led) : Prop where
  tell : TellIs T f.t f.c0
  ok : f.c0.ok W
  an : (f.an, lst u.avs u.ak) ∈ T
  so : (f.so, lst u.dvs u.dk) ∈ T
  deeds : DeedsAre T u.dvs u.ds
  ans : RdAll T u.avs ((told W f.c0 u.ds).map (ansD W))
  len : u.ds.length ≤ 10
theorem last_side {W : Nat} {f0 f1 : Fix} {ua ub : Side} {T : Led} (h0 : LastOk W f0 ua T) (h1 : LastOk W f1 ub T) {i : Nat} (hi : i < 2) :
    ∃ f u, LastOk W f u T ∧ ([Value.ref f0.t, Value.ref f1.t] : List Value)[((i : Int)).toNat]? = some (.ref f.t) ∧ ([Value.ref f0.an, Value.ref f1.an] : List Value)[((i : Int)).toNat]? = some (.ref f.an) ∧ ([Value.ref f0.so, Value.ref f1.so] : List Value)[((i : Int)).toNat]? = some (.ref f.so) := by
  have h2 : i = 0 ∨ i = 1 := by omega
  rcases h2 with rfl | rfl
  · exact ⟨f0, ua, h0, rfl, rfl, rfl⟩
  · exact ⟨f1, ub, h1, rfl, rfl, rfl⟩
theorem two_at {t0 t1 : Tok} {i : Nat} {v : Value} (hi : i < 2) (hv : ([Value.int 0 t0, Value.int 1 t1] : List Value)[i]? = some v) : ∃ t, v = .int (i : Int) t := by
  have h2 : i = 0 ∨ i = 1 := by omega
  rcases h2 with rfl | rfl
  · exact ⟨t0, (Option.some.inj hv).symm⟩
  · exact ⟨t1, (Option.some.inj hv).symm⟩
theorem after_ok {W : Nat} : ∀ {ds : List (Nat × Nat)} {c : Src} {n : Led} {vs : List Value}, c.ok W → DeedsAre n vs ds → (after W c ds).ok W
  | [], c, n, vs, h, _ => h
  | _ :: r, c, n, _, h, .cons _ hd hr => by
    show (after W (taken W c _ _).1 r).ok W
    exact after_ok (taken_ok h hd) hr
theorem DeedsAre.take {n : Led} {vs : List Value} {ds : List (Nat × Nat)} (r : DeedsAre n vs ds) : ∀ i, DeedsAre n (vs.take i) (ds.take i) := by
  induction r with
  | nil => intro i; simp; exact .nil
  | cons h hd r ih =>
    intro i
    cases i with
    | zero => exact .nil
    | succ i => exact .cons h hd (ih i)
/-- ahead of each turn of the last comprehension -/
noncomputable def LastInv (w : World) (W : Nat) (f : Fix) (u : Side) (n2 : Led) (x dx : Addr) (T : Led) (j : Nat) (ys : List Value) (nw : Led) : Prop :=
  ∃ (D : Obj) (ls : Addr) (svs : List Value) (k : Nat) (T' : Led), nw = (dx, D) :: (ls, lst svs k) :: T' ∧ SrcIs w W n2 x dx D ls svs (after W f.c0 (u.ds.take j)) ∧ (∀ p ∈ T, p ∈ T') ∧ (∀ p ∈ T', p.1 ≠ dx) ∧ (∀ p ∈ T', p.1 ≠ ls) ∧ ls ≠ dx ∧ RdAll T' ys ((told W f.c0 (u.ds.take j)).map (ansD W))
theorem news_icd {h₀ h : Heap} {L : Addr} {a b I C D : Addr × Obj} {r : Led} (N : News h₀ L h (I :: C :: D :: a :: b :: r)) : News h₀ L h (a :: b :: (I :: C :: D :: r)) := fun x hx => N x (by
  simp only [List.mem_cons] at hx ⊢
  rcases hx with h | h | h | h | h | h <;> simp [h])
theorem off_hot {I C D dx ls : Addr} {oI oC oD o1 o2 : Obj} {T' : Led} (off : Off3 I C D ((dx, o1) :: (ls, o2) :: T')) (h1 : ∀ p ∈ T', p.1 ≠ dx) (h2 : ∀ p ∈ T', p.1 ≠ ls) : (∀ p ∈ (I, oI) :: (C, oC) :: (D, oD) :: T', p.1 ≠ dx) ∧ (∀ p ∈ (I, oI) :: (C, oC) :: (D, oD) :: T', p.1 ≠ ls) := by
  have o := off.mem
  have a := o (dx, o1) (.head _)
  have b := o (ls, o2) (.tail _ (.head _))
  exact ⟨all_cons (Ne.symm a.1) (all_cons (Ne.symm a.2.1) (all_cons (Ne.symm a.2.2) h1)), all_cons (Ne.symm b.1) (all_cons (Ne.symm b.2.1) (all_cons (Ne.symm b.2.2) h2))⟩
theorem comp_took {h₀ h : Heap} {L : Addr} {I C D dx ls ls' : Addr} {oI oC oD D' o1 o2 o3 : Obj} {nw T' : Led} (off : Off3 I C D ((dx, o1) :: (ls, o2) :: T')) (N : News h₀ L h ((dx, D') :: (ls', o3) :: (nw ++ ((I, oI) :: (C, oC) :: (D, oD) :: T')))) (FA : FreshAns nw dx ls' ((I, oI) :: (C, oC) :: (D, oD) :: T')) :
    (∀ p ∈ (I, oI) :: (C, oC) :: (D, oD) :: ((dx, D') :: (ls', o3) :: (nw ++ T')), p ∈ (dx, D') :: (ls', o3) :: (nw ++ ((I, oI) :: (C, oC) :: (D, oD) :: T'))) ∧ Off3 I C D ((dx, D') :: (ls', o3) :: (nw ++ T')) := by
  have o := off.mem
  refine ⟨fun p hp => ?_, Off3.of fun p hp => ?_⟩
  · simp only [List.mem_cons, List.mem_append] at hp ⊢
    rcases hp with h | h | h | h | h | h | h <;> simp [h]
  · rcases List.mem_cons.mp hp with rfl | hp
    · exact o (dx, o1) (.head _)
    · rcases List.mem_cons.mp hp with rfl | hp
      · exact ⟨Ne.symm (FA.f2 _ (.head _)), Ne.symm (FA.f2 _ (.tail _ (.head _))), Ne.symm (FA.f2 _ (.tail _ (.tail _ (.head _))))⟩
      · rcases List.mem_append.mp hp with hp | hp
        · exact ⟨Nat.ne_of_gt (FA.f3 p hp _ (.head _)), Nat.ne_of_gt (FA.f3 p hp _ (.tail _ (.head _))), Nat.ne_of_gt (FA.f3 p hp _ (.tail _ (.tail _ (.head _))))⟩
        · exact o p (.tail _ (.tail _ hp))
theorem LastInv.step {w : World} {W : Nat} {f : Fix} {u : Side} {n2 : Led} {x dx : Addr} {T T' nw : Led} {j : Nat} {ys : List Value} {v : Value} {D' : Obj} {ls' : Addr} {svs' : List Value} {k' : Nat} {I C D : Addr} {oI oC oD : Obj} (hj : j < u.ds.length) (hs : ∀ p ∈ T, p ∈ T') (h1 : ∀ p ∈ T', p.1 ≠ dx) (hr : RdAll T' ys ((told W f.c0 (u.ds.take j)).map (ansD W)))
    (S' : SrcIs w W n2 x dx D' ls' svs' (taken W (after W f.c0 (u.ds.take j)) u.ds[j].1 u.ds[j].2).1) (A' : AnsIs W nw v (taken W (after W f.c0 (u.ds.take j)) u.ds[j].1 u.ds[j].2).2) (FA : FreshAns nw dx ls' ((I, oI) :: (C, oC) :: (D, oD) :: T')) :
    LastInv w W f u n2 x dx T (j + 1) (ys ++ [v]) ((dx, D') :: (ls', lst svs' k') :: (nw ++ T')) := by
  refine ⟨D', ls', svs', k', nw ++ T', rfl, ?_, fun p hp => List.mem_append_right _ (hs p hp), app_ne FA.n1 h1, app_ne FA.n2 fun p hp => FA.f2 p (.tail _ (.tail _ (.tail _ hp))), FA.n3, ?_⟩
  · rw [after_take W f.c0 u.ds hj]; exact S'
  · rw [told_take W f.c0 u.ds hj, List.map_append]
    exact (hr.mono fun p hp => List.mem_append_right _ hp).snoc (A'.mono fun p hp => List.mem_append_left _ hp).rd
theorem eqv_list {l : List PyData} (h : PyData.eqvAll l l = true) : PyData.eqv (.list l) (.list l) = true := by simpa [PyData.eqv] using h
theorem news_alone {h₀ h : Heap} {L : Addr} {a b c : Addr × Obj} {nw r : Led} (N : News h₀ L h (a :: b :: (nw ++ (c :: r)))) : News h₀ L h (c :: a :: b :: (nw ++ r)) := fun x hx => N x (by
  simp only [List.mem_cons, List.mem_append] at hx ⊢
  rcases hx with h | h | h | h | h <;> simp [h])
theorem news_alone2 {h₀ h : Heap} {L : Addr} {a b c : Addr × Obj} {r : Led} (N : News h₀ L h (c :: a :: b :: r)) : News h₀ L h (a :: b :: c :: r) := fun x hx => N x (by
  simp only [List.mem_cons] at hx ⊢
  rcases hx with h | h | h | h <;> simp [h])
theorem name_cell {h₀ h : Heap} {L a : Addr} {o : Obj} {r : Led} (_N : News h₀ L h ((a, o) :: r)) {G : Prop} (k : ∀ x, x = o → G) : G := k o rfl
theorem law_last_ready {w : World} {W : Nat} {h₀ h : Heap} {L can lc c c2 bg an so : Addr} {oa ow : Obj} {f0 f1 : Fix} {st : SLaw} {rest : Led} {i kb ka ks : Nat} (N : News h₀ L h (st.hot can lc f0 f1 ++ rest)) (inv : LawInv w W can f0 f1 i st) (hsep : Sep (st.hot can lc f0 f1) rest)
    (mc : (c, oa) ∈ rest) (hd : oa.data = .cell none) (mw : (c2, ow) ∈ rest) (hc2 : c2 ≠ c) (mb : (bg, lst [.ref f0.t, .ref f1.t] kb) ∈ rest) (ma : (an, lst [.ref f0.an, .ref f1.an] ka) ∈ rest) (ms : (so, lst [.ref f0.so, .ref f1.so] ks) ∈ rest)
    (t0 : TellIs rest f0.t f0.c0) (t1 : TellIs rest f1.t f1.c0) (ok0 : f0.c0.ok W) (ok1 : f1.c0.ok W) (hi : i ≤ 10) :
    ∃ T, News h₀ L h ((c, oa) :: T) ∧ (∀ p ∈ T, p.1 ≠ c) ∧ ((c2, ow) ∈ T ∧ (bg, lst [.ref f0.t, .ref f1.t] kb) ∈ T ∧ (an, lst [.ref f0.an, .ref f1.an] ka) ∈ T ∧ (so, lst [.ref f0.so, .ref f1.so] ks) ∈ T) ∧ LastOk W f0 st.a T ∧ LastOk W f1 st.b T := by
  obtain ⟨T, eT⟩ : ∃ T, T = (st.hot can lc f0 f1 ++ rest).filter (fun p => decide (p.1 ≠ c)) := ⟨_, rfl⟩
  have memT : ∀ p ∈ st.hot can lc f0 f1 ++ rest, p.1 ≠ c → p ∈ T := fun p hp hn => by
    rw [eT]; exact List.mem_filter.mpr ⟨hp, decide_eq_true hn⟩
  have hcell := N _ (List.mem_append_right _ mc)
  have hot : ∀ p ∈ st.hot can lc f0 f1, p ∈ T := fun p hp => memT p (List.mem_append_left _ hp) (Ne.symm (hsep p hp _ mc))
  have seqT : ∀ a vs k cl di sl, (a, (⟨cl, di, .seq vs k, sl⟩ : Obj)) ∈ rest → (a, (⟨cl, di, .seq vs k, sl⟩ : Obj)) ∈ T := fun a vs k cl di sl hp => memT _ (List.mem_append_right _ hp) fun e => by
    have h1 := (N _ (List.mem_append_right _ hp)).1
    dsimp only at h1 e
    rw [e, hcell.1] at h1
    have h2 := congrArg Obj.data (Option.some.inj h1)
    rw [hd] at h2
    cases h2
  have tell : ∀ {t : Addr} {s : Src}, TellIs rest t s → TellIs T t s := fun {t s} q => by
    cases q with
    | cong h => exact .cong (seqT _ _ _ _ _ _ h)
    | lag h h2 hi => exact .lag (seqT _ _ _ _ _ _ h) (seqT _ _ _ _ _ _ h2) hi
  have ha : ∀ p ∈ st.a.hot f0, p ∈ T := fun p hp => hot p (.tail _ (List.mem_append_left _ hp))
  have hb : ∀ p ∈ st.b.hot f1, p ∈ T := fun p hp => hot p (.tail _ (List.mem_append_right _ (List.mem_append_left _ hp)))
  have hk : ∀ p ∈ st.kept, p ∈ T := fun p hp => hot p (.tail _ (List.mem_append_right _ (List.mem_append_right _ hp)))
  refine ⟨T, fun p hp => ?_, fun p hp => ?_, ⟨memT _ (List.mem_append_right _ mw) hc2, seqT _ _ _ _ _ _ mb, seqT _ _ _ _ _ _ ma, seqT _ _ _ _ _ _ ms⟩, ?_, ?_⟩
  · rcases List.mem_cons.mp hp with rfl | hp
    · exact hcell
    · rw [eT] at hp
      exact N p (List.mem_filter.mp hp).1
  · rw [eT] at hp
    exact of_decide_eq_true (List.mem_filter.mp hp).2
  · exact ⟨tell t0, ok0, ha _ (.tail _ (.tail _ (.head _))), ha _ (.tail _ (.tail _ (.tail _ (.head _)))), inv.a.deeds.mono hk, inv.a.ans.mono hk, Nat.le_trans inv.a.len hi⟩
  · exact ⟨tell t1, ok1, hb _ (.tail _ (.tail _ (.head _))), hb _ (.tail _ (.tail _ (.tail _ (.head _)))), inv.b.deeds.mono hk, inv.b.ans.mono hk, Nat.le_trans inv.b.len hi⟩
end
section
open PySem PySem.W PyProof.Rows PySem.Calls
/-- what is so of the side that is drawn and of the other -/
theorem side_facts {f0 f1 f fo : Fix} {wh pl : Nat} {rest : Led} {ls : List Nat} (hc : (wh = 0 ∧ f = f0 ∧ fo = f1) ∨ (wh = 1 ∧ f = f1 ∧ fo = f0)) (t0 : TellIs rest f0.t f0.c0) (t1 : TellIs rest f1.t f1.c0) (n0 : ∀ p ∈ f0.n2, p ∈ rest) (n1 : ∀ p ∈ f1.n2, p ∈ rest) (e1 : f1.c0 = .lag ls pl) :
    ([Value.ref f0.x, Value.ref f1.x] : List Value)[((wh : Int)).toNat]? = some (.ref f.x) ∧ ([Value.ref f0.t, Value.ref f1.t] : List Value)[((wh : Int)).toNat]? = some (.ref f.t) ∧
    ([Value.ref f0.x, Value.ref f1.x] : List Value)[(1 - (wh : Int)).toNat]? = some (.ref fo.x) ∧ ([Value.ref f0.t, Value.ref f1.t] : List Value)[(1 - (wh : Int)).toNat]? = some (.ref fo.t) ∧
    ([Value.ref f0.an, Value.ref f1.an] : List Value)[((wh : Int)).toNat]? = some (.ref f.an) ∧ ([Value.ref f0.so, Value.ref f1.so] : List Value)[((wh : Int)).toNat]? = some (.ref f.so) ∧
    TellIs rest f.t f.c0 ∧ TellIs rest fo.t fo.c0 ∧ (∀ p ∈ f.n2, p ∈ rest) ∧ (∀ p ∈ fo.n2, p ∈ rest) ∧ (wh = 1 → ∃ r pl, f.c0 = .lag r pl) ∧ (wh = 1 → f.x = f1.x) := by
  rcases hc with ⟨rfl, rfl, rfl⟩ | ⟨rfl, rfl, rfl⟩
  · exact ⟨rfl, rfl, rfl, rfl, rfl, rfl, t0, t1, n0, n1, fun h => absurd h (by decide), fun h => absurd h (by decide)⟩
  · exact ⟨rfl, rfl, rfl, rfl, rfl, rfl, t1, t0, n1, n0, fun _ => ⟨_, _, e1⟩, fun _ => rfl⟩
/-- a test that is false whichever way it is walked -/
noncomputable def BoolAt (h₀ : Heap) (L : Addr) (m : Str → Option Value) (l : Led) (s : Shared) (b : Bool) (s' : Shared) : Prop := b = false ∧ ∃ h' tk', s' = { s with heap := h', toks := tk' } ∧ Fr h₀ L h' m ∧ News h₀ L h' l
theorem BoolAt.mk {h₀ : Heap} {L : Addr} {m : Str → Option Value} {l l' : Led} {s : Shared} {h' : Heap} {tk' : Nat} (F : Fr h₀ L h' m) (N : News h₀ L h' l') (hs : ∀ p ∈ l, p ∈ l') : BoolAt h₀ L m l s false { s with heap := h', toks := tk' } :=
  ⟨rfl, h', tk', rfl, F, fun p hp => N p (hs p hp)⟩
theorem bool_join {M : Model} {A : Around} {E : Value → Shared → Prop} {s : Shared} {t : Sem Bool} {Q : Bool → Shared → Prop} {h₀ : Heap} {L : Addr} {m : Str → Option Value} {l : Led} (_ : Fr h₀ L s.heap m) (_ : News h₀ L s.heap l)
    (h1 : wpAny M A t (BoolAt h₀ L m l s) E s) (h2 : ∀ h' tk', Fr h₀ L h' m → News h₀ L h' l → Q false { s with heap := h', toks := tk' }) : wpAny M A t Q E s :=
  wpAny_mono h1 (fun b s' q => by obtain ⟨rfl, h', tk', rfl, F, N⟩ := q; exact h2 h' tk' F N) fun _ _ e => e
end
end
section
local macro_rules | `(tactic| walk_at "TurnEnd") => `(tactic| first | refine TurnEnd.ret ?_ | refine TurnEnd.brk ?_)
local macro_rules | `(tactic| walk_at $k:str) => if ["call ref", "pyIter ref", "eval ListComp", "exec Assign cons ListComp", "CompSrc", "exec If", "compareOp NotEq", "compareOp NotEq ref ref", "exec For Name Tuple cons nil"].contains k.getString then `(tactic| refine Hold.intro ?_) else Lean.Macro.throwUnsupported
local macro_rules | `(tactic| walk_at $k:str) => if ["subscriptTail Name Name ref int", "subscriptTail Name Constant ref int", "subscriptTail Name BinOp ref int"].contains k.getString then `(tactic| (k_here; (with_reducible show wpAny _ _ (subscriptTail _ _ (Value.ref _) (Value.int _ _)) _ _ _); (with_unfolding_all refine' item_at ?k1 ?k2 ?k3 ?k4 ?_ ?k6; (case k1 => is_list); (case k2 => omega); (case k3 => omega); (case k4 => first | with_reducible assumption | exact rfl); (case k6 => with_unfolding_all rfl); k_whole))) else Lean.Macro.throwUnsupported
local macro_rules | `(tactic| walk_at "call ref") => `(tactic| (k_here; (with_reducible show wpAny _ _ (call (Value.ref 214) _ _) _ _ _); k_dflt (refine' poured_C ?k1 ?k2 ?k3 ?k5 ?k6 ?k8 ?k9 ?p1 ?p2 ?p3 ?p4 ?m1 ?i1 ?o1 ?o2 ?N ?_; (case N => first | (with_reducible assumption) | exact news_can1 (by with_reducible assumption) | exact news_can3 (by with_reducible assumption) | exact news_can7 (by with_reducible assumption)); (case k1 | k2 | k3 | k5 => k_asm); (case k6 => first | exact rfl | assumption); (case m1 => k_mem); (case i1 => l_ints); (case o1 => k_all); (case o2 => assumption); (case p1 | p2 | p3 | p4 => first | assumption | omega); (case k8 => ktr_room); (case k9 => ktr_units); k_whole; intro v' t' t1' h' tk' b' F' N'; (try k_sweep))))
local macro_rules | `(tactic| k_qdec) => `(tactic| decide +kernel)
local macro_rules | `(tactic| k_mem) => `(tactic| first | exact List.mem_cons_self | ktr_member | (exact sub_mem2 (by with_reducible assumption) (by with_reducible assumption)) | (refine' List.mem_cons_of_mem _ ?_; k_mem))
set_option maxHeartbeats 16000000 in
theorem law_holds : PySem.Challenge.rw_sj0076_01.Holds := by
  refine hd (by with_unfolding_all rfl) (by kernel_rfl) (by kernel_rfl) ?_
  k_go0
  all_goals try k_fold
  rename (_ = Data.cell _) => had
  replace had : _ = Data.cell none := had
  rename World => w
  rename Shared => s1
  k_steps
  refine Hold.out ?_
  k_dflt (refine LCg.ListComp_U (F₀ := by k_asm) (by rfl) (by decide) (by rfl) (by decide) (by rfl) ?_)
  k_steps
  refine Hold.out ?_
  rename IntsAre _ (List.take 40 _) => hI0
  rename (List.length (List.take 40 _) = _) => hC0
  refine LCg.CompSrc.ledger (by rfl) (by k_asm) (by k_asm) (by k_mem) ?_ ?_
  · rw [List.size_toArray, hI0.length, hC0]; exact Nat.le_trans (Nat.min_le_left _ _) (by decide)
  intro g
  refine compRest_inv (fun i ys nw => nw = _ ∧ ∃ ns, IntsAre ys ns ∧ ns.length = i) ?turn ?fin _ 0 [] _ (Nat.zero_add _) ⟨rfl, [], .nil, rfl⟩
  case turn =>
    rintro i ys nw v I oI C oC D m₂ h tk E' hi ⟨rfl, ns, q1, q2⟩ hv hC hx F N off ne
    obtain ⟨z, t, rfl⟩ := ints_at hI0 hv
    k_steps
    rename News _ _ _ _ => N3
    rename Fr _ _ _ _ => F3
    exact LCg.CompEnd.intro F3 N3 _ (fun p hp => hp) off (.inr ⟨_, by k_mem, rfl, _, rfl⟩) ⟨rfl, ns ++ [_], q1.append (.cons _ _ .nil), by simp [q2]⟩
  case fin =>
    rintro ys nw ⟨rfl, ns, q1, q2⟩
    unfold LCg.FinE
    intro lc h tk F N o1
    simp only [LCg.Off1, and_true] at o1
    have hlen : ns.length ≤ 100 := by
      rw [q2, List.size_toArray, hI0.length, hC0]
      exact Nat.le_trans (Nat.min_le_left _ _) (by decide)
    k_steps
    rename News _ _ _ _ => N3
    rename Fr _ _ _ _ => F3
    rename ((_ : Int) < 5) => hv5
    rename ((_ : Int) < 2) => hv2
    rename ((_ : Int) < 4) => hv4
    rename ((_ : Int) < 8) => hv8
    rename (_ = Data.cell (some (Value.int (2 + _) _))) => hwd
    refine name_lt hv5 (fun vw ew hvw => ?_)
    refine name_lt hv2 (fun vd ed hvd => ?_)
    refine name_lt hv4 (fun vp ep hvp => ?_)
    refine name_lt hv8 (fun vq eq hvq => ?_)
    subst ew ed ep eq
    obtain ⟨W, hW⟩ : ∃ W : Nat, 2 + (vw : Int) = (W : Int) := ⟨2 + vw, by lia⟩
    obtain ⟨d, hd⟩ : ∃ d : Nat, 4 + (vd : Int) = (d : Int) := ⟨4 + vd, by lia⟩
    have hWl : 2 ≤ W := by lia
    have hWh : W ≤ 6 := by lia
    have hdl : 4 ≤ d := by lia
    have hdh : d ≤ 5 := by lia
    have hpd : (2 : Int) ^ (d : Int).toNat = ((2 ^ d : Nat) : Int) := by rw [Int.toNat_natCast, cast_pow]
    have hpd1 : (0 : Int) < ((2 ^ d : Nat) : Int) := by exact_mod_cast Nat.two_pow_pos d
    have hpd2 : ((2 ^ d : Nat) : Int) ≤ 1000 := by exact_mod_cast Nat.le_trans (Nat.pow_le_pow_right (by decide) hdh) (by decide : 2 ^ 5 ≤ 1000)
    have hpw : (2 : Int) ^ (W : Int).toNat = ((2 ^ W : Nat) : Int) := by rw [Int.toNat_natCast, cast_pow]
    have hpw1 : (0 : Int) < ((2 ^ W : Nat) : Int) := by exact_mod_cast Nat.two_pow_pos W
    have hpw2 : ((2 ^ W : Nat) : Int) ≤ 1000 := by exact_mod_cast Nat.le_trans (Nat.pow_le_pow_right (by decide) hWh) (by decide : 2 ^ 6 ≤ 1000)
    rw [hW] at hwd
    rw [hd] at F3
    rw [hd, hpd]
    refine Hold.out ?_
    k_steps
    refine Hold.out ?_
    k_dflt (refine LCg.Assign_ListComp_U (F₀ := by k_asm) (by rfl) (by with_unfolding_all rfl) (by rfl) (by decide) (by rfl) (by decide) (by rfl) (by rfl) (by rfl) ?_)
    k_steps
    rename News _ _ _ _ => N4
    rename Fr _ _ _ _ => F4
    refine name2 N4 (fun can r0 ecan er0 => ?_)
    subst ecan er0
    rename IsRange _ _ _ _ _ _ _ _ => R1
    rename (_ = Data.cell (some (Value.ref can))) => hcd
    rename ((_ : Int) < ((2 ^ d : Nat) : Int)) => hvS
    rename ((_ : Int) < 4) => hvn
    refine name_lt hvS (fun S eS hS => ?_)
    refine name_lt hvn (fun vn en hvn' => ?_)
    subst eS en
    have ep1 : 1 + 4 * (vp : Int) = ((1 + 4 * vp : Nat) : Int) := by lia
    have eq1 : 1 + 2 * (vq : Int) = ((1 + 2 * vq : Nat) : Int) := by lia
    rw [ep1, eq1] at N4
    refine split_can N4 (fun rest1 tkc erest N5 => ?_)
    have m1 := mem_eq0 erest
    have m2 := mem_eq2 erest
    have m3 := mem_eq6 erest
    have m4 := mem_eq5 erest
    have m5 := mem_eq4 erest
    have hxc : ∀ p ∈ rest1, p.1 ≠ can := by
      rw [erest]
      refine all_cons ?_ (all_cons ?_ (all_cons ?_ (all_cons ?_ (all_cons ?_ (all_cons ?_ (all_cons ?_ (fun _ h => nomatch h)))))))
      · omega
      · omega
      · omega
      · omega
      · omega
      · omega
      · omega
    try clear N4
    try clear erest
    refine Hold.out ?_
    refine LCg.CompSrc.range (n := 2 + vn) (by rfl) F4 N5 R1 (by exact small_one (by lia) (by lia) (by lia) (by lia)) (by rw [rangeSize_nat]; omega) (by show 2 + vn ≤ sizeLine; rw [sizeLine_eq]; omega) ?_
    intro g2
    refine compRest_inv (fun i ys nw => RowInv can lc rest1 W i ys nw) ?turn2 ?fin2 _ 0 [] _ (Nat.zero_add _) ⟨_, tkc, [], by decide, by decide, rfl, .nil, rfl, .nil⟩
    case turn2 =>
      rintro i ys2 nw v I oI C oC D m₂ h3 tk3 E' hi ⟨k, tkr, ls, q3, q4, rfl, q5, q6, q7⟩ hv hC hx F9 N9 off ne
      have off2 := off
      simp only [LCg.Off3] at off2
      obtain ⟨o1, o2⟩ := off2
      have hIC := ne.1
      k_steps
      rename News _ _ _ _ => N10
      rename Fr _ _ _ _ => F10
      rename ((_ : Int) < 2 ^ _) => hvr
      rw [hpw] at hvr
      refine LCg.CompEnd.intro F10 N10 _ comp_sub3 ⟨o1, o2⟩ trivial ⟨k + 1, _, ls ++ [_], by lia, by lia, rfl, Intsup.push q5 rfl, by simp [q6], Lim.push q7 (by exact_mod_cast hvr)⟩
    case fin2 =>
      rintro ys2 nw ⟨k, tkr, ls, q3, q4, rfl, q5, q6, q7⟩
      unfold LCg.FinA
      intro lr h3 tk3 F9 N9 o2
      have hul : (up ls).length = 2 + vn := by rw [up_length]; exact q6
      have hyl : ys2.length = 2 + vn := by rw [q5.length]; exact hul
      have hyl2 : ys2.toArray.size = 2 + vn := hyl
      simp only [LCg.Off1] at o2
      obtain ⟨o3, o4⟩ := o2
      repeat (first | (k_unfold; (try dsimp only)) | walk1 | (dsimp only; walk1))
      rename News _ _ _ _ => N10
      rename Fr _ _ _ _ => F10
      rename ((_ : Int) < ((2 + vn : Nat) : Int) - 1) => hvpl
      refine name_lt hvpl (fun vl el hvl => ?_)
      subst el
      refine name2 N10 (fun bg r1 ebg er1 => ?_)
      subst ebg er1
      have el1 : 1 + (vl : Int) = ((1 + vl : Nat) : Int) := by lia
      rw [el1] at N10
      have ok0 : (Src.cong (1 + 4 * vp) (1 + 2 * vq) d S).ok W := ⟨by lia, by lia, hdl, hdh, by exact_mod_cast hS⟩
      have ok1 : (Src.lag ls (1 + vl)).ok W := ⟨q7, by lia, by lia, by lia⟩
      have ht0 : TellIs rest1 r0 (.cong (1 + 4 * vp) (1 + 2 * vq) d S) := .cong m1
      refine Hold.out ?_
      k_dflt (refine LCg.ListComp_U (F₀ := by k_asm) (by rfl) (by decide) (by rfl) (by decide) (by rfl) ?_)
      repeat (first | (k_unfold; (try dsimp only)) | walk1 | (dsimp only; walk1))
      rename News _ _ _ _ => N11
      rename Fr _ _ _ _ => F11
      refine Hold.out ?_
      refine LCg.CompSrc.ledger (by rfl) F11 N11 (.head _) (by show 2 ≤ sizeLine; rw [sizeLine_eq]; omega) ?_
      intro g3
      k_dflt (refine LCg.CompRest.succ ?_)
      intro va I0 oI0 C0 oC0 D00 m20 h4 tk4 E4 hv4 hC4 hx4 F4' N4' off4 ne4
      obtain rfl : Value.ref r0 = va := Option.some.inj hv4
      repeat (first | (k_unfold; (try dsimp only)) | walk1 | (dsimp only; walk1))
      rename News _ _ _ _ => N11
      rename Fr _ _ _ _ => F11
      refine Hold.out ?_
      refine begun_C (by k_asm) F11 (by k_asm) N11 (by k_asm) (by first | exact rfl | assumption) (by lia) hWh (by ktr_room) (by ktr_units) ok0 (ht0.mono fun p hp => .tail _ (.tail _ (.tail _ (.tail _ (.tail _ (.tail _ (.tail _ hp))))))) ?_
      intro x0 dx0 D0 ls0 svs0 k0 nw0 h5 tk5 F5 N5' S0 FS0
      (k_unfold; (try dsimp only))
      refine LCg.CompEnd.intro F5 N5' _ (comp_begun N5' FS0 off4).1 (comp_begun N5' FS0 off4).2 (.inr ⟨_, .tail _ (.tail _ (List.mem_append_right _ (.head _))), rfl, _, rfl⟩) ?_
      try clear N11
      try clear N5'
      k_dflt (refine LCg.CompRest.succ ?_)
      intro vb I1 oI1 C1 oC1 D01 m21 h6 tk6 E6 hv6 hC6 hx6 F6' N6' off6 ne6
      obtain rfl : Value.ref r1 = vb := Option.some.inj hv6
      repeat (first | (k_unfold; (try dsimp only)) | walk1 | (dsimp only; walk1))
      rename News _ _ _ _ => N11
      rename Fr _ _ _ _ => F11
      refine Hold.out ?_
      refine begun_C (by k_asm) F11 (by k_asm) N11 (by k_asm) (by first | exact rfl | assumption) (by lia) hWh (by ktr_room) (by ktr_units) ok1 (TellIs.lag (.tail _ (.tail _ (.tail _ (.tail _ (.tail _ (List.mem_append_right _ (.tail _ (.head _)))))))) (.tail _ (.tail _ (.tail _ (.tail _ (.tail _ (List.mem_append_right _ (.tail _ (.tail _ (.tail _ (.head _))))))))))  q5) ?_
      intro x1 dx1 D1 ls1 svs1 k1 nw1 h7 tk7 F7 N7' S1 FS1
      (k_unfold; (try dsimp only))
      refine LCg.CompEnd.intro F7 N7' _ (comp_begun N7' FS1 off6).1 (comp_begun N7' FS1 off6).2 (.inr ⟨_, .tail _ (.tail _ (List.mem_append_right _ (.tail _ (.tail _ (List.mem_append_right _ (.head _)))))), rfl, _, rfl⟩) ?_
      try clear N11
      try clear N6'
      try clear N7'
      k_dflt (refine LCg.CompRest.zero ?_)
      unfold LCg.FinE
      intro pr h8 tk8 F8 N8 o8
      refine hide fun G9 hG9 => ?_
      obtain ⟨T, mpr, mbg, mr1, mlr, mrest, mnw0, mnw1, N12, hSt⟩ := law_regroup N8 FS0 FS1 (by k_ne) (by k_ne) (by k_ne) hxc o8
      refine hG9 ?_
      clear hG9 G9
      try clear N8
      refine hide fun G9 hG9 => ?_
      obtain ⟨t1, t2, t3, t4, t5, a1, a2, a3, a4, a5, a6, a7, a8, a9, a10⟩ := id hSt
      refine hG9 ?_
      clear hG9 G9
      have mcs := mrest _ m2
      have mc1 := mrest _ m3
      have mc2 := mrest _ m4
      have mc3 := mrest _ m5
      have hkk : 0 ≤ k + 1 := by lia
      have hkk2 : k + 1 ≤ 50 := by lia
      repeat (first | (k_unfold; (try dsimp only)) | walk1 | (dsimp only; walk1))
      rename News _ _ _ _ => N13
      rename Fr _ _ _ _ => F13
      rename IsRange _ _ _ _ _ _ _ _ => R2
      refine name_st N13 (fun tp so so1 so0 an an1 an0 ez1 ez2 ez3 ez4 ez5 ez6 ez7 => ?_)
      subst ez1 ez2 ez3 ez4 ez5 ez6 ez7
      have hbb := ‹@LT.lt Nat _ can an0 ∧ @LT.lt Nat _ dx0 an0 ∧ @LT.lt Nat _ ls0 an0 ∧ @LT.lt Nat _ dx1 an0 ∧ @LT.lt Nat _ ls1 an0 ∧ AllLt an0 T›
      refine hide fun G9 hG9 => ?_
      obtain ⟨f0, f1, u0, u1, rest, tkc, N1, ⟨mm1, mm2, mm3, mm4⟩, hTr, ⟨hS0, hS1⟩, ⟨hT0, hT1⟩, ⟨e0, e1⟩, ⟨hnn0, hnn1⟩, hH0, hH1⟩ := law_ready N13 hSt hbb (by lia) (by lia) (by lia) (by lia) (by lia) S0 S1 ok0 ok1 mnw0 mnw1 (ht0.mono mrest) (TellIs.lag mr1 mlr q5) mpr mbg
      refine hG9 ?_
      clear hG9 G9
      have mm5 := hTr _ mcs
      have mm6 := hTr _ mc1
      have mm7 := hTr _ mc2
      have mm8 := hTr _ mc3
      have hi0 := q1
      have hl100 : ns.length ≤ 100 := hlen
      obtain ⟨nn, hnn, hnn2⟩ : ∃ nn : Nat, nn = nn ∧ nn = nn := ⟨0, rfl, rfl⟩
      have R1 := R2
      have F1 := F13
      try clear N13
      try clear R2
      refine Hold.out ?_
      rename ((_ : Int) < 10) => hv10
      refine' for_range (σ := SLaw) _ [Str.ofString "pair", Str.ofString "begun", Str.ofString "answers", Str.ofString "some"] (fun st => []) (fun st => st.hot can lc f0 f1)
        (fun i st => LawInv w W can f0 f1 i st) ⟨k + 1 + 1, tkc, 0, u0, u1, []⟩ rest rfl R1 (by exact small_one (by lia) (by lia) (by lia) (by lia)) rfl F1 N1 ?hb ?hin ?hcold ?hsep ?hP ?turn ?done
      case hb => exact trivial
      case hin => exact ⟨.head _, .tail _ (.head _), .tail _ (.tail _ (.head _)), .tail _ (.tail _ (.tail _ (.head _))), .tail _ (.tail _ (.tail _ (.tail _ (.head _)))), .tail _ (.tail _ (.tail _ (.tail _ (.tail _ (.head _))))), .tail _ (.tail _ (.tail _ (.tail _ (.tail _ (.tail _ (.head _)))))), .tail _ (.tail _ (.tail _ (.tail _ (.tail _ (.tail _ (.tail _ (.head _))))))), .tail _ (.tail _ (.tail _ (.tail _ (.tail _ (.tail _ (.tail _ (.tail _ (.head _)))))))), trivial⟩
      case hcold => exact fun p hp => by simp only [List.mem_cons, hp, or_true]
      case hsep => exact sep_start hH0 hH1
      case hP => exact inv_start (by lia) (by lia) hS0 hS1 hH0 hH1
      case turn =>
        rintro i t ⟨k, tk, n, ua, ub, kept⟩ m1' h tk' rest2 hi inv hcr hsep F2 N2
        have hT : ∀ p ∈ rest, p ∈ ua.hot f0 ++ (ub.hot f1 ++ (kept ++ rest2)) := fun p hp => List.mem_append_right _ (List.mem_append_right _ (List.mem_append_right _ (hcr p hp)))
        have hxc2 : ∀ p ∈ ua.hot f0 ++ (ub.hot f1 ++ (kept ++ rest2)), p.1 ≠ can := offcan inv.h0 (hsep _ List.mem_cons_self)
        replace N2 : News s1.heap s1.heap.objs.size h ((can, canO lc k tk n) :: (ua.hot f0 ++ (ub.hot f1 ++ (kept ++ rest2)))) := news_mid N2
        replace F2 : Fr s1.heap s1.heap.objs.size h _ := F2
        have hlc2 := hT _ mm5
        have k0 := inv.k0
        have k1 := inv.k1
        dsimp only at k0 k1
        try clear N1
        try clear F1
        try clear R1
        try clear hxc
        try k_fold
        k_steps
        rename News _ _ _ _ => N3
        rename Fr _ _ _ _ => F3
        rename ((_ : Int) < 2) => hv2
        refine name_lt hv2 (fun wh ewh hwh => ?_)
        subst ewh
        refine hide fun G9 hG9 => ?_
        obtain ⟨f, fo, u, uo, hcase, hu, huo, N4, H4, hOff, hSep, hfin⟩ := law_side wh hwh inv hsep N3
        refine hG9 ?_
        clear hG9 G9
        try clear N3
        try clear hv2
        have hZ := side_facts hcase hT0 hT1 hnn0 hnn1 e1
        have hp := hZ.1
        have hb := hZ.2.1
        have hpo := hZ.2.2.1
        have hbo := hZ.2.2.2.1
        have han := hZ.2.2.2.2.1
        have hso := hZ.2.2.2.2.2.1
        have ht := hZ.2.2.2.2.2.2.1
        have hto := hZ.2.2.2.2.2.2.2.1
        have hn2 := hZ.2.2.2.2.2.2.2.2.1
        have hn2o := hZ.2.2.2.2.2.2.2.2.2.1
        have hlag : Hold (wh = 1 → ∃ r pl, f.c0 = .lag r pl) := hZ.2.2.2.2.2.2.2.2.2.2.1
        have hfx1 : Hold (wh = 1 → f.x = f1.x) := hZ.2.2.2.2.2.2.2.2.2.2.2
        clear hZ hcase
        refine nm (uo.hot fo ++ (kept ++ rest2)) (fun T0 eT0 => ?_)
        have s0 : ∀ p ∈ rest, p ∈ T0 := fun p hp => eT0 ▸ List.mem_append_right _ (List.mem_append_right _ (hcr p hp))
        have sK : ∀ p ∈ kept, p ∈ T0 := fun p hp => eT0 ▸ List.mem_append_right _ (List.mem_append_left _ hp)
        have sO1 : (fo.dx, uo.D) ∈ T0 := eT0 ▸ .head _
        have sO2 : (uo.ls, lst uo.svs uo.k) ∈ T0 := eT0 ▸ .tail _ (.head _)
        have sO : ∀ p ∈ uo.hot fo, p ∈ T0 := fun p hp => eT0 ▸ List.mem_append_left _ hp
        have sR : ∀ p ∈ rest2, p ∈ T0 := fun p hp => eT0 ▸ List.mem_append_right _ (List.mem_append_right _ hp)
        rw [← eT0] at N4 H4
        have hlc0 := s0 _ mm5
        refine Hold.out ?_
        refine deed_C (by k_asm) F3 (by k_asm) (by k_asm) (by first | exact rfl | assumption) (by ktr_room) (by ktr_units) (by lia) (by lia) (.tail _ (.tail _ (.tail _ (.tail _ hlc0)))) hi0 H4.offc (by lia) N4 ?_
        intro fD gD rD tD uD t1D hD tkD dOk dRow F5 N5 l1 l2
        have N6 := news_one N5
        have H6 := H4.one (o := tupO [.int (fD : Int) tD, .int (gD : Int) uD]) l2 l1
        try clear N5
        refine nm ((rD, tupO [.int (fD : Int) tD, .int (gD : Int) uD]) :: T0) (fun T1 eT1 => ?_)
        have hrD : (rD, tupO [.int (fD : Int) tD, .int (gD : Int) uD]) ∈ T1 := eT1 ▸ .head _
        have hrDl : ∀ q ∈ T0, q.1 < rD := fun q hq => l1 q (by simp [hq])
        have s1' : ∀ p ∈ T0, p ∈ T1 := fun p hp => eT1 ▸ .tail _ hp
        rw [← eT1] at N6 H6
        have sr1 : ∀ p ∈ rest, p ∈ T1 := fun p hp => s1' p (s0 p hp)
        try clear l1
        try clear l2
        k_steps
        rename News _ _ _ _ => N3
        rename Fr _ _ _ _ => F3
        refine Hold.out ?_
        refine kept_C (by k_asm) F3 (by k_asm) N3 (by k_asm) (by first | exact rfl | assumption) (by lia) hWh (by ktr_room) (by ktr_units) hu.ok (fun p hp => in5 (sr1 p (hn2 p hp))) hu.src (.tail _ (.head _)) (.tail _ (.tail _ (.head _))) (ht.mono fun p hp => in5 (sr1 p hp)) hu.like.kin ?_
        intro rA nwA hA tkA F4 N4 tA frA
        have N5 := news_back N4
        have H7 := H6.fresh frA
        refine nm (nwA ++ T1) (fun T2 eT2 => ?_)
        have s2 : ∀ p ∈ T1, p ∈ T2 := fun p hp => eT2 ▸ List.mem_append_right _ hp
        have tA2 : TellIs T2 rA u.c := tA.mono fun p hp => eT2 ▸ List.mem_append_left _ hp
        rw [← eT2] at N5 H7
        have sr2 : ∀ p ∈ rest, p ∈ T2 := fun p hp => s2 p (sr1 p hp)
        try clear N4
        try clear N3
        k_steps
        rename News _ _ _ _ => N3
        rename Fr _ _ _ _ => F3
        have N8 := news_tl1 N3
        refine Hold.out ?_
        refine kept_C (by k_asm) F3 (by k_asm) N8 (by k_asm) (by first | exact rfl | assumption) (by lia) hWh (by ktr_room) (by ktr_units) huo.ok (fun p hp => in5 (sr2 p (hn2o p hp))) huo.src (in5 (s2 _ (s1' _ sO1))) (in5 (s2 _ (s1' _ sO2))) (hto.mono fun p hp => in5 (sr2 p hp)) huo.like.kin ?_
        intro rB nwB hB tkB F5 N9 tB frB
        have N10 := news_back N9
        have H8 := H7.fresh frB
        refine nm (nwB ++ T2) (fun T3 eT3 => ?_)
        have s3 : ∀ p ∈ T2, p ∈ T3 := fun p hp => eT3 ▸ List.mem_append_right _ hp
        have tB3 : TellIs T3 rB uo.c := tB.mono fun p hp => eT3 ▸ List.mem_append_left _ hp
        rw [← eT3] at N10 H8
        have sr3 : ∀ p ∈ rest, p ∈ T3 := fun p hp => s3 p (sr2 p hp)
        have hrD3 := s3 _ (s2 _ hrD)
        try clear N9
        try clear N8
        try clear N3
        k_steps
        rename News _ _ _ _ => N3
        rename Fr _ _ _ _ => F3
        refine Hold.out ?_
        refine taken_C F3 (by k_asm) (by k_asm) (by first | exact rfl | assumption) (by k_asm) (by lia) hWh (by ktr_room) (by ktr_units) hu.ok (fun p hp => in3 (sr3 p (hn2 p hp))) hu.src (in3 hrD3) dOk H8.offd H8.offl H8.ld (news_src N3) ?_
        intro v nwT D' ls' svs' k3' hT' tkT F6 N11 S' A' FA
        have N12 := news_took N11
        have H9 := H8.taken FA
        refine nm (nwT ++ T3) (fun T4 eT4 => ?_)
        have s4 : ∀ p ∈ T3, p ∈ T4 := fun p hp => eT4 ▸ List.mem_append_right _ hp
        have sT4 : ∀ p ∈ nwT, p ∈ T4 := fun p hp => eT4 ▸ List.mem_append_left _ hp
        have A4 : AnsIs W T4 v (taken W u.c fD gD).2 := A'.mono sT4
        rw [← eT4] at N12 H9
        have sr4 : ∀ p ∈ rest, p ∈ T4 := fun p hp => s4 p (sr3 p hp)
        have hrD4 := s4 _ hrD3
        have hok' : (taken W u.c fD gD).1.ok W := taken_ok hu.ok dOk
        have hlk' : u.c.like (taken W u.c fD gD).1 := taken_like hu.ok dOk
        refine nm ((taken W u.c fD gD).1) (fun c' ec' => ?_)
        refine nm ((taken W u.c fD gD).2) (fun a' ea' => ?_)
        have hwi := taken_within (f := fD) (g := gD) hWl hWh hu.ok dOk
        rw [← ec'] at S' hok' hlk'
        rw [← ea'] at A4 hwi A'
        try clear N11
        try clear N3
        try clear N10
        k_steps
        rename News _ _ _ _ => N3
        rename Fr _ _ _ _ => F3
        refine Hold.out ?_
        refine kept_C (by k_asm) F3 (by k_asm) N3 (by k_asm) (by first | exact rfl | assumption) (by lia) hWh (by ktr_room) (by ktr_units) hok' (fun p hp => in5 (sr4 p (hn2 p hp))) S' (.tail _ (.head _)) (.tail _ (.tail _ (.head _))) (ht.mono fun p hp => in5 (sr4 p hp)) (hu.like.trans hlk').kin ?_
        intro rN nwN hN tkN F7 N13 tN frN
        have N14 := news_back N13
        have H10 := H9.fresh frN
        refine nm (nwN ++ T4) (fun T5 eT5 => ?_)
        have s5 : ∀ p ∈ T4, p ∈ T5 := fun p hp => eT5 ▸ List.mem_append_right _ hp
        have tN5 : TellIs T5 rN c' := tN.mono fun p hp => eT5 ▸ List.mem_append_left _ hp
        rw [← eT5] at N14 H10
        have sr5 : ∀ p ∈ rest, p ∈ T5 := fun p hp => s5 p (sr4 p hp)
        have hrD5 := s5 _ hrD4
        have A5 := A4.mono s5
        have s35 : ∀ p ∈ T3, p ∈ T5 := fun p hp => s5 p (s4 p hp)
        have s05 : ∀ p ∈ T0, p ∈ T5 := fun p hp => s35 p (s3 p (s2 p (s1' p hp)))
        have tA5 : TellIs T5 rA u.c := tA2.mono fun p hp => s35 p (s3 p hp)
        have tB5 : TellIs T5 rB uo.c := tB3.mono s35
        try clear N13
        try clear N12
        try clear N3
        k_steps
        rename News _ _ _ _ => N3
        rename Fr _ _ _ _ => F3
        refine Hold.out ?_
        refine if_join F3 N3 ?_ (fun hI tkI F7 N15 => ?_)
        · refine wpAny_If ?_
          k_steps
          rename News _ _ _ _ => N3
          rename Fr _ _ _ _ => F3
          refine Hold.out ?_
          refine within_C (by k_asm) F3 (by k_asm) (by k_asm) (by first | exact rfl | assumption) (by lia) hWh (by ktr_room) (by ktr_units) (in5 hrD5) dOk.2.1 (A5.mono fun p hp => in5 hp) hwi N3 ?_
          intro hJ tkJ F8 N16
          k_steps
          rename News _ _ _ _ => N3
          rename Fr _ _ _ _ => F3
          refine Hold.out ?_
          refine kept_C (by k_asm) F3 (by k_asm) N3 (by k_asm) (by first | exact rfl | assumption) (by lia) hWh (by ktr_room) (by ktr_units) huo.ok (fun p hp => in5 (sr5 p (hn2o p hp))) huo.src (in5 (s05 _ sO1)) (in5 (s05 _ sO2)) (hto.mono fun p hp => in5 (sr5 p hp)) huo.like.kin ?_
          intro rX nwX hX tkX F9 N17 tX frX
          k_steps
          rename News _ _ _ _ => N3
          rename Fr _ _ _ _ => F3
          refine Hold.out ?_
          refine ne_rd N3 (tX.mono fun p hp => List.mem_append_left _ hp).rd (tB5.mono fun p hp => List.mem_append_right _ (in5 hp)).rd (shaped_tellD _) (eqv_tellD _) (by ktr_units) ?_
          k_steps
          rename News _ _ _ _ => N3
          rename Fr _ _ _ _ => F3
          exact JoinAt.mk F3 N3 fun p hp => List.mem_append_right _ hp
        try clear N14
        try clear N3
        k_steps
        rename News _ _ _ _ => N3
        rename Fr _ _ _ _ => F3
        refine Hold.out ?_
        refine if_join F3 N3 ?_ (fun hI2 tkI2 F8 N16 => ?_)
        · refine wpAny_If ?_
          refine isTrue_or ?_
          refine bool_join F3 N3 ?_ (fun hJ0 tkJ0 F30 N30 => ?_)
          · rcases ansN_isNone A5 with ⟨rfl, hN⟩ | ⟨⟨r', rfl⟩, hN⟩ | ⟨⟨i', t', rfl⟩, hN⟩
            · k_steps
              rename News _ _ _ _ => N3
              rename Fr _ _ _ _ => F3
              refine Hold.out ?_
              have hcc := taken_none (W := W) (c := u.c) dOk (ea'.symm.trans hN)
              have tN6 := tN5
              rw [ec', hcc] at tN6
              refine ne_rd N3 (tN6.mono fun p hp => in5 hp).rd (tA5.mono fun p hp => in5 hp).rd (shaped_tellD _) (eqv_tellD _) (by ktr_units) ?_
              k_steps
              rename News _ _ _ _ => N3
              rename Fr _ _ _ _ => F3
              exact BoolAt.mk F3 N3 fun p hp => hp
            · k_steps
              rename News _ _ _ _ => N3
              rename Fr _ _ _ _ => F3
              exact BoolAt.mk F3 N3 fun p hp => hp
            · k_steps
              rename News _ _ _ _ => N3
              rename Fr _ _ _ _ => F3
              exact BoolAt.mk F3 N3 fun p hp => hp
          try clear N3
          try clear F3
          have hw01 : wh = 1 ∨ wh = 0 := by lia
          rcases hw01 with hw1 | hw1
          · have hfx := hfx1 hw1
            obtain ⟨row0, row, pl, n', ec0, ecr, hn', hrow⟩ := led_of hu dOk dRow hlag hw1
            have S6 := S'
            have tA6 := tA5
            rw [ec', ecr] at S6
            rw [ec0] at tA6
            obtain ⟨zlim, zp, zp2, zlen⟩ : (Src.lag row0 pl).ok W := ec0 ▸ hu.ok
            cases S6 with
            | lag zx zri =>
              cases tA6 with
              | lag zt zl zi =>
                rw [hfx] at zx
                subst hw1
                k_steps
                rename News _ _ _ _ => N3
                rename Fr _ _ _ _ => F3
                refine Hold.out ?_
                refine led_C (by k_asm) F3 (by k_asm) (by k_asm) (by first | exact rfl | assumption) (by lia) hWh (by ktr_room) (by ktr_units) (in5 (sr5 _ (hn2 _ zx))) (.tail _ (.head _)) (.tail _ (.tail _ (.head _))) zri (in5 zt) (in5 zl) zi zlim zp zp2 zlen hn' hrow N3 ?_
                intro hJ tkJ F8 N16
                k_steps
                rename News _ _ _ _ => N3
                rename Fr _ _ _ _ => F3
                exact JoinAt.mk F3 N3 fun p hp => hp
          · subst hw1
            k_steps
            rename News _ _ _ _ => N3
            rename Fr _ _ _ _ => F3
            exact JoinAt.mk F3 N3 fun p hp => hp
        try clear N15
        try clear N3
        k_steps
        rename News _ _ _ _ => N3
        rename Fr _ _ _ _ => F3
        refine Hold.out ?_
        refine begun_C (by k_asm) F3 (by k_asm) N3 (by k_asm) (by first | exact rfl | assumption) (by lia) hWh (by ktr_room) (by ktr_units) hu.ok (tA5.mono fun p hp => in5 hp) ?_
        intro x2 dx2 D2 ls2 svs2 k2 nw2 hb2 tkb Fb Nb S2 FS2
        try clear N3
        k_steps
        rename News _ _ _ _ => N3
        rename Fr _ _ _ _ => F3
        refine Hold.out ?_
        refine if_join F3 (news_drops (news_tl2 N3)) ?_ (fun hI3 tkI3 F9 N17 => ?_)
        · refine wpAny_If ?_
          k_steps
          rename News _ _ _ _ => N3
          rename Fr _ _ _ _ => F3
          refine Hold.out ?_
          refine taken_C F3 (by k_asm) (by k_asm) (by first | exact rfl | assumption) (by k_asm) (by lia) hWh (by ktr_room) (by ktr_units) hu.ok (n2 := nw2) (fun p hp => List.mem_append_left _ hp) S2 (List.mem_append_right _ (in5 hrD5)) dOk FS2.offd FS2.offl FS2.n3 N3 ?_
          intro v2 nw3 D3 ls3 svs3 k3 hc2 tkc Fc Nc S3 A3 FA3
          rw [← ec'] at S3
          rw [← ea'] at A3
          k_steps
          rename News _ _ _ _ => N3
          rename Fr _ _ _ _ => F3
          refine Hold.out ?_
          refine ne_rd N3 (A3.mono fun p hp => .tail _ (.tail _ (List.mem_append_left _ hp))).rd (A5.mono fun p hp => .tail _ (.tail _ (List.mem_append_right _ (List.mem_append_right _ (in5 hp))))).rd (shaped_ansD _ _) (eqv_ansD _ _) (by ktr_units) ?_
          k_steps
          rename News _ _ _ _ => N3
          rename Fr _ _ _ _ => F3
          refine Hold.out ?_
          refine kept_C (by k_asm) F3 (by k_asm) N3 (by k_asm) (by first | exact rfl | assumption) (by lia) hWh (by ktr_room) (by ktr_units) hok' (fun p hp => .tail _ (.tail _ (List.mem_append_right _ (List.mem_append_left _ hp)))) S3 (.head _) (.tail _ (.head _)) (tA5.mono fun p hp => .tail _ (.tail _ (List.mem_append_right _ (List.mem_append_right _ (in5 hp))))) hlk'.kin ?_
          intro rZ nwZ hZ tkZ FZ NZ tZ frZ
          k_steps
          rename News _ _ _ _ => N3
          rename Fr _ _ _ _ => F3
          refine Hold.out ?_
          refine ne_rd N3 (tZ.mono fun p hp => List.mem_append_left _ hp).rd (tN5.mono fun p hp => List.mem_append_right _ (.tail _ (.tail _ (List.mem_append_right _ (List.mem_append_right _ (in5 hp)))))).rd (shaped_tellD _) (eqv_tellD _) (by ktr_units) ?_
          k_steps
          rename News _ _ _ _ => N3
          rename Fr _ _ _ _ => F3
          exact JoinAt.mk F3 N3 fun p hp => List.mem_append_right _ (.tail _ (.tail _ (List.mem_append_right _ (List.mem_append_right _ hp))))
        try clear N3
        try clear Nb
        try clear N16
        have hal : u.avs.length ≤ 20 := by have := hu.alen; omega
        have hal2 : u.avs.toArray.size ≤ 20 := by simpa using hal
        have hdl : u.dvs.length ≤ 20 := by have := hu.len; rw [hu.deeds.length]; omega
        have hdl2 : u.dvs.toArray.size ≤ 20 := by simpa using hdl
        refine hide fun G9 hG9 => ?_
        obtain ⟨g1, g2, g3, g4, g5, g6, g7, g8, g9, g10, g11, g12, g13, g14, g15⟩ := id H10
        refine hG9 ?_
        clear hG9 G9
        k_steps
        rename News _ _ _ _ => N3
        rename Fr _ _ _ _ => F3
        subst ec' ea'
        rw [lst_push, lst_push] at N3
        refine hide fun G9 hG9 => ?_
        obtain ⟨st', Ne, Se, Ie⟩ := hfin (k + 1 + 2) t1D n ⟨(taken W u.c fD gD).1, D', ls', svs', k3', u.avs ++ [v], u.ak + 1, u.dvs ++ [.ref rD], u.dk + 1, u.ds ++ [(fD, gD)]⟩ ((rD, tupO [.int (fD : Int) tD, .int (gD : Int) uD]) :: (nwT ++ kept)) _
          (news_sub N3 (sub5 (tail_sub (fun p hp => s05 p (sO p hp)) hrD5 (fun p hp => s5 p (sT4 p hp)) (fun p hp => s05 p (sK p hp)) (fun p hp => s05 p (sR p hp))))) (hu.step dOk S' A')
          (H10.sub (tail_sub (fun p hp => s05 p (sO p hp)) hrD5 (fun p hp => s5 p (sT4 p hp)) (fun p hp => s05 p (sK p hp)) (fun p hp => s05 p (sR p hp))))
          (fun p hp => .tail _ (List.mem_append_right _ hp))
          (offside (off_of sO hrDl) (fun p hp => off_of (T := T3) (fun q hq => s3 _ (s2 _ (s1' _ (sO q hq)))) (fun q hq => FA.f3 p hp q (in3 hq))) hOff)
          (sepkept (fun q hq => Nat.ne_of_lt (hrDl q (sR q hq))) (fun p hp q hq => Nat.ne_of_lt (FA.f3 p hp q (in3 (s3 _ (s2 _ (s1' _ (sR q hq))))))) hSep) (by lia) (by lia)
        refine hG9 ?_
        clear hG9 G9
        exact TurnEnd.mk2 st' F3 Ne trivial ⟨rfl, rfl, rfl, rfl, trivial⟩ Se Ie
      case done =>
        rintro ⟨k, tk, n, ua, ub, kept⟩ m9' h9 tk9' inv9 hsep9 F9' N9'
        replace F9' : Fr s1.heap s1.heap.objs.size h9 _ := F9'
        refine hide fun G9 hG9 => ?_
        obtain ⟨T, N0, hT3, ⟨m1, m2, m3, m4⟩, hL0, hL1⟩ := law_last_ready N9' inv9 hsep9 mm8 (by assumption) mm7 (show @Ne Nat (s1.heap.objs.size + 1 + 1) (s1.heap.objs.size + 1 + 1 + 1) by lia) mm2 mm3 mm4 hT0 hT1 (e0 ▸ ok0) (e1 ▸ ok1) (by lia)
        refine hG9 ?_
        clear hG9 G9
        dsimp only at hL0 hL1
        refine name_cell N0 (fun oa eoa => ?_)
        subst eoa
        have had9 : oa.data = Data.cell none := by assumption
        try clear N9'
        try clear N1
        try clear F1
        try clear hsep9
        try k_fold
        repeat (first | (k_unfold; (try dsimp only)) | walk1 | (dsimp only; walk1))
        refine Hold.out ?_
        refine For_invV s1.heap (by rfl) (by rfl) ?_
        repeat (first | (k_unfold; (try dsimp only)) | walk1 | (dsimp only; walk1))
        rename News _ _ _ _ => N11
        rename Fr _ _ _ _ => F11
        refine name1 N11 (fun tp etp => ?_)
        subst etp
        have ltp := ‹@LT.lt Nat _ (s1.heap.objs.size + 1 + 1 + 1) tp ∧ AllLt tp T›
        refine Hold.out ?_
        obtain ⟨ta, tb, N11⟩ : ∃ ta tb, News s1.heap s1.heap.objs.size _ ((tp, ({ cls := .type "tuple", data := .seq #[.int 0 ta, .int 1 tb] } : Obj)) :: (s1.heap.objs.size + 1 + 1 + 1, oa) :: T) := ⟨_, _, N11⟩
        refine' for_tuple (σ := Obj) (l := tp) (vs := [.int 0 ta, .int 1 tb]) [Str.ofString "begun", Str.ofString "answers", Str.ofString "some"] (fun st => []) (fun st => [(s1.heap.objs.size + 1 + 1 + 1, st)]) (fun i st => ∃ v, st.data = Data.cell v) oa ((tp, ({ cls := .type "tuple", data := .seq #[.int 0 ta, .int 1 tb] } : Obj)) :: T) rfl (.head _) F11 N11 ?hb5 ?hin5 ?hcold5 ?hsep5 ?hP5 ?turn5 ?done5
        case hb5 => exact trivial
        case hin5 => exact ⟨.tail _ (.head _), trivial⟩
        case hcold5 => exact fun p hp => (List.mem_cons.mp hp).elim (fun h => h ▸ .head _) (fun h => .tail _ (.tail _ h))
        case hsep5 => exact ⟨all_cons (Nat.ne_of_gt ltp.1) hT3, trivial⟩
        case hP5 => exact ⟨_, had9⟩
        case turn5 =>
          rintro i v st m5 h tk rest5 hi hv ⟨cv, hcv⟩ hcr hsep F2 N2
          obtain ⟨tv, rfl⟩ := two_at hi hv
          obtain ⟨f, u, hL, hb, ha, hs⟩ := last_side hL0 hL1 hi
          replace N2 : News s1.heap s1.heap.objs.size h ((s1.heap.objs.size + 1 + 1 + 1, st) :: rest5) := N2
          replace F2 : Fr s1.heap s1.heap.objs.size h _ := F2
          have hTr : ∀ p ∈ T, p ∈ rest5 := fun p hp => hcr p (.tail _ hp)
          have hs3 : ∀ p ∈ rest5, p.1 ≠ s1.heap.objs.size + 1 + 1 + 1 := hsep _ (.head _)
          have hi2 : i < 2 := hi
          try clear N11
          try clear F11
          try k_fold
          repeat (first | (k_unfold; (try dsimp only)) | walk1 | (dsimp only; walk1))
          rename News _ _ _ _ => N11
          rename Fr _ _ _ _ => F11
          refine Hold.out ?_
          refine begun_C (by k_asm) F11 (by k_asm) N11 (by k_asm) (by first | exact rfl | assumption) (by lia) hWh (by ktr_room) (by ktr_units) hL.ok (hL.tell.mono fun p hp => .tail _ (hTr p hp)) ?_
          intro x2 dx2 D2 ls2 svs2 k2 nw2 hb2 tkb Fb Nb S2 FS2
          refine nm (nw2 ++ rest5) (fun T2 eT2 => ?_)
          have N13 : News s1.heap s1.heap.objs.size hb2 ((s1.heap.objs.size + 1 + 1 + 1, st) :: (dx2, D2) :: (ls2, lst svs2 k2) :: T2) := eT2 ▸ news_alone Nb
          have hT2 : ∀ p ∈ T2, p.1 ≠ s1.heap.objs.size + 1 + 1 + 1 := eT2 ▸ app_ne (fun p hp => Nat.ne_of_gt (FS2.f3 p hp _ (.head _))) hs3
          have hd2 : @Ne Nat dx2 (s1.heap.objs.size + 1 + 1 + 1) := Nat.ne_of_gt (FS2.f1 _ (.head _))
          have hl2 : @Ne Nat ls2 (s1.heap.objs.size + 1 + 1 + 1) := Nat.ne_of_gt (FS2.f2 _ (.head _))
          have hn22 : ∀ p ∈ nw2, p ∈ T2 := fun p hp => eT2 ▸ List.mem_append_left _ hp
          have hr52 : ∀ p ∈ rest5, p ∈ T2 := fun p hp => eT2 ▸ List.mem_append_right _ hp
          have o2d : ∀ p ∈ T2, p.1 ≠ dx2 := eT2 ▸ app_ne FS2.n1 fun p hp => Nat.ne_of_lt (FS2.f1 p (.tail _ hp))
          have o2l : ∀ p ∈ T2, p.1 ≠ ls2 := eT2 ▸ app_ne FS2.n2 fun p hp => Nat.ne_of_lt (FS2.f2 p (.tail _ hp))
          have o2n := FS2.n3
          have hT52 : ∀ p ∈ T, p ∈ T2 := fun p hp => hr52 p (hTr p hp)
          try clear Nb
          try clear N11
          repeat (first | (k_unfold; (try dsimp only)) | walk1 | (dsimp only; walk1))
          rename (_ = Data.cell (some (Value.ref x2))) => hal
          rename News _ _ _ _ => N11
          rename Fr _ _ _ _ => F11
          refine name_cell N11 (fun o' eo' => ?_)
          subst eo'
          refine Hold.out ?_
          refine wpAny_If ?_
          repeat (first | (k_unfold; (try dsimp only)) | walk1 | (dsimp only; walk1))
          rename News _ _ _ _ => N11
          rename Fr _ _ _ _ => F11
          refine Hold.out ?_
          k_dflt (refine LCg.ListComp_U (F₀ := by k_asm) (by rfl) (by decide) (by rfl) (by decide) (by rfl) ?_)
          repeat (first | (k_unfold; (try dsimp only)) | walk1 | (dsimp only; walk1))
          rename News _ _ _ _ => N11
          rename Fr _ _ _ _ => F11
          refine Hold.out ?_
          refine nm ((s1.heap.objs.size + 1 + 1 + 1, o') :: T2) (fun T3 eT3 => ?_)
          have N14 : News s1.heap s1.heap.objs.size _ ((dx2, D2) :: (ls2, lst svs2 k2) :: T3) := eT3 ▸ news_alone2 N11
          have hT53 : ∀ p ∈ T, p ∈ T3 := fun p hp => eT3 ▸ .tail _ (hT52 p hp)
          have hal3 : (s1.heap.objs.size + 1 + 1 + 1, o') ∈ T3 := eT3 ▸ .head _
          have hr53 : ∀ p ∈ rest5, p ∈ T3 := fun p hp => eT3 ▸ .tail _ (hr52 p hp)
          refine LCg.CompSrc.ledger (by rfl) F11 N14 (.tail _ (.tail _ (hT53 _ hL.so))) (by rw [List.size_toArray, hL.deeds.length]; exact Nat.le_trans hL.len (by rw [sizeLine_eq]; decide)) ?_
          intro g5
          refine compRest_inv (fun j ys nw => LastInv w W f u nw2 x2 dx2 T3 j ys nw) ?turn6 ?fin6 _ 0 [] _ (Nat.zero_add _) ⟨D2, ls2, svs2, k2, T3, rfl, S2, fun p hp => hp, eT3 ▸ all_cons (Ne.symm hd2) o2d, eT3 ▸ all_cons (Ne.symm hl2) o2l, o2n, .nil _⟩
          case turn6 =>
            rintro j ys nw v I oI C oC D m6 h6 tk6 E6 hj ⟨D3, ls3, svs3, k3, T', rfl, S3, hs', o1, o2, o3, hr⟩ hv hC hx F6 N6 off ne
            have hv' : u.dvs[j]? = some v := by simpa using hv
            obtain ⟨hjd, td, t0, t1, rfl, md, dok⟩ := hL.deeds.get hv'
            have mw := hs' _ (hT53 _ m1)
            have mal := hs' _ hal3
            have hsub2 : ∀ p ∈ nw2, p ∈ T' := fun p hp => hs' p (eT3 ▸ .tail _ (hn22 p hp))
            try clear N14
            try clear N11
            repeat (first | (k_unfold; (try dsimp only)) | walk1 | (dsimp only; walk1))
            rename News _ _ _ _ => N11
            rename Fr _ _ _ _ => F11
            refine Hold.out ?_
            refine taken_C F11 (by k_asm) (by k_asm) (by first | exact rfl | assumption) (by k_asm) (by lia) hWh (by ktr_room) (by ktr_units) (after_ok hL.ok (hL.deeds.take j)) (n2 := nw2) (fun p hp => in3 (hsub2 p hp)) S3 (in3 (hs' _ (hT53 _ md))) dok (off_hot off o1 o2).1 (off_hot off o1 o2).2 o3 (news_icd N11) ?_
            intro v9 nwA D9 ls9 svs9 k9 h9 tk9 F9 N9 S9 A9 FA9
            (k_unfold; (try dsimp only))
            refine LCg.CompEnd.intro F9 N9 _ (comp_took off N9 FA9).1 (comp_took off N9 FA9).2 (.inr ⟨_, .tail _ (.tail _ (List.mem_append_right _ (hs' _ (hT53 _ hL.so)))), rfl, _, rfl⟩) (LastInv.step hjd hs' o1 hr S9 A9 FA9)
          case fin6 =>
            rintro ys nw ⟨D3, ls3, svs3, k3, T', rfl, S3, hs', o1, o2, o3, hr⟩
            unfold LCg.FinE
            intro Dl h9 tk9 F9 N9 o9
            have man := hs' _ (hT53 _ m3)
            try clear N14
            try clear N11
            repeat (first | (k_unfold; (try dsimp only)) | walk1 | (dsimp only; walk1))
            rename News _ _ _ _ => N11
            rename Fr _ _ _ _ => F11
            refine Hold.out ?_
            have etk : u.ds.take u.dvs.toArray.size = u.ds := by rw [List.size_toArray, hL.deeds.length, List.take_length]
            rw [etk] at hr
            refine ne_rd N11 (Rd.list (.head _) (hr.mono fun p hp => .tail _ (.tail _ (.tail _ hp)))) (Rd.list (.tail _ (.tail _ (.tail _ (hs' _ (hT53 _ hL.an))))) (hL.ans.mono fun p hp => .tail _ (.tail _ (.tail _ (hs' _ (hT53 p hp)))))) (shaped_anss W _) (eqv_list (eqvAll_ans W _)) (by ktr_units) ?_
            repeat (first | (k_unfold; (try dsimp only)) | walk1 | (dsimp only; walk1))
            rename News _ _ _ _ => N11
            rename Fr _ _ _ _ => F11
            exact TurnEnd.mk2 o' F11 (news_sub N11 fun p hp => (List.mem_cons.mp hp).elim (fun h => h ▸ .tail _ (.tail _ (.tail _ (hs' _ hal3)))) (fun h => .tail _ (.tail _ (.tail _ (hs' _ (hr53 p h)))))) trivial ⟨rfl, rfl, rfl, trivial⟩ (fun p hp q hq => by
              rw [List.mem_singleton.mp hp]
              exact hs3 q hq) ⟨_, hal⟩
        case done5 =>
          rintro st m5 h tk hP hsep F2 N2
          replace F2 : Fr s1.heap s1.heap.objs.size h _ := F2
          try clear N11
          try clear F11
          try k_fold
          k_steps
end
end
end Mine
end
theorem PySem.Challenge.cw_sj0076_01_holds : PySem.Challenge.rw_sj0076_01.Holds :=
  Mine.law_holds
