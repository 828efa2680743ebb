import PyProof.Rows.All
import Wide.All
import OpenK.AllK
import Wide.FinOn
import Lean
import PySem.Challenge.RW_qd0140_01
open PySem PySem.W PyProof.Rows
set_option Elab.async false
set_option linter.all false
set_option maxRecDepth 100000
set_option maxHeartbeats 8000000
open PySem.Spec PySem.Calls
namespace hd
noncomputable def heap_39 : Params → Frag := by
  refine (?f : (PySem.Challenge.pw_qd0140_01.main.body = (_ ::
 .ClassDef _ _ _ [.FunctionDef _ ?a1_0 ?b1_0 _ _ _ ?s1_0 _ _ _] _ _ _ _ _ _ _ ::
 .ClassDef _ _ _ [.FunctionDef _ ?a2_0 ?b2_0 _ _ _ ?s2_0 _ _ _] _ _ _ _ _ _ _ ::
 .ClassDef _ _ _ [.FunctionDef _ ?a3_0 ?b3_0 _ _ _ ?s3_0 _ _ _] _ _ _ _ _ _ _ ::
 _ ::
 _ ::
 _ ::
 _ ::
 .FunctionDef _ ?a8 ?b8 _ _ _ ?s8 _ _ _ ::
 .FunctionDef _ ?a9 ?b9 _ _ _ ?s9 _ _ _ ::
 .FunctionDef _ ?a10 ?b10 _ _ _ ?s10 _ _ _ ::
 .FunctionDef _ ?a11 ?b11 _ _ _ ?s11 _ _ _ ::
 .FunctionDef _ ?a12 ?b12 _ _ _ ?s12 _ _ _ ::
 _ ::
 _ ::
 _ ::
 .ClassDef _ _ _ [.FunctionDef _ ?a16_0 ?b16_0 _ _ _ ?s16_0 _ _ _] _ _ _ _ _ _ _ ::
 .FunctionDef _ ?a17 ?b17 _ _ _ ?s17 _ _ _ ::
 .FunctionDef _ ?a18 ?b18 _ _ _ ?s18 _ _ _ ::
 .FunctionDef _ ?a19 ?b19 _ _ _ ?s19 _ _ _ ::
 .FunctionDef _ ?a20 ?b20 _ _ _ ?s20 _ _ _ ::
 .FunctionDef _ ?a21 ?b21 _ _ _ ?s21 _ _ _ ::
 .FunctionDef _ ?a22 ?b22 _ _ _ ?s22 _ _ _ ::
 .FunctionDef _ ?a23 ?b23 _ _ _ ?s23 _ _ _ ::
 .FunctionDef _ ?a24 ?b24 _ _ _ ?s24 _ _ _ ::
 .FunctionDef _ ?a25 ?b25 _ _ _ ?s25 _ _ _ ::
 _ ::
 _ ::
 .FunctionDef _ ?a28 ?b28 _ _ _ ?s28 _ _ _ ::
 .FunctionDef _ ?a29 ?b29 _ _ _ ?s29 _ _ _ ::
 .FunctionDef _ ?a30 ?b30 _ _ _ ?s30 _ _ _ ::
 .FunctionDef _ ?a31 ?b31 _ _ _ ?s31 _ _ _ ::
 .FunctionDef _ ?a32 ?b32 _ _ _ ?s32 _ _ _ ::
 .FunctionDef _ ?a33 ?b33 _ _ _ ?s33 _ _ _ ::
 .FunctionDef _ ?a34 ?b34 _ _ _ ?s34 _ _ _ ::
 .FunctionDef _ ?a35 ?b35 _ _ _ ?s35 _ _ _ :: [])) → (Params → Frag)) ?h
  case h => exact rfl
  case f =>
    exact fun _ => fun P => (((nat_lit 2, { cls := PySem.Value.none, data := PySem.Data.dict #[{ hash := PySem.PyData.keyHash P (PySem.Str.ofString "type.__subclasses__.Exception.0"), key := PySem.Value.str (PySem.Str.ofString "type.__subclasses__.Exception.0") (214 : Nat), val := PySem.Value.int 31 (0 : Nat) }, { hash := PySem.PyData.keyHash P (PySem.Str.ofString "type.__subclasses__.Exception.n"), key := PySem.Value.str (PySem.Str.ofString "type.__subclasses__.Exception.n") (215 : Nat), val := PySem.Value.int 1 (0 : Nat) }] 2 }) ::
 (nat_lit 3, { cls := PySem.Value.type "dict", data := PySem.Data.dict (List.toArray ({ hash := PySem.PyData.keyHash P (PySem.Str.ofString "__name__"), key := PySem.Value.str (PySem.Str.ofString "__name__") (165 : Nat), val := PySem.Value.str (PySem.Str.ofString "law_qd0140_01") (489 : Nat) } :: { hash := PySem.PyData.keyHash P (PySem.Str.ofString "__doc__"), key := PySem.Value.str (PySem.Str.ofString "__doc__") (166 : Nat), val := PySem.Value.none } :: { hash := PySem.PyData.keyHash P (PySem.Str.ofString "__package__"), key := PySem.Value.str (PySem.Str.ofString "__package__") (167 : Nat), val := PySem.Value.none } :: { hash := PySem.PyData.keyHash P (PySem.Str.ofString "__loader__"), key := PySem.Value.str (PySem.Str.ofString "__loader__") (168 : Nat), val := PySem.Value.builtin "__main__.__loader__#\x6fpaque" } :: { hash := PySem.PyData.keyHash P (PySem.Str.ofString "__spec__"), key := PySem.Value.str (PySem.Str.ofString "__spec__") (169 : Nat), val := PySem.Value.none } :: { hash := PySem.PyData.keyHash P (PySem.Str.ofString "__anno\x74ations__"), key := PySem.Value.str (PySem.Str.ofString "__anno\x74ations__") (170 : Nat), val := PySem.Value.ref (6 : Nat) } :: { hash := PySem.PyData.keyHash P (PySem.Str.ofString "__builtins__"), key := PySem.Value.str (PySem.Str.ofString "__builtins__") (171 : Nat), val := PySem.Value.ref (4 : Nat) } :: { hash := PySem.PyData.keyHash P (PySem.Str.ofString "__file__"), key := PySem.Value.str (PySem.Str.ofString "__file__") (173 : Nat), val := PySem.Value.str (PySem.Str.ofString "/claim/cut.py") (172 : Nat) } :: { hash := PySem.PyData.keyHash P (PySem.Str.ofString "__cached__"), key := PySem.Value.str (PySem.Str.ofString "__cached__") (174 : Nat), val := PySem.Value.none } :: { hash := PySem.PyData.keyHash P (PySem.Str.ofString "PerlError"), key := PySem.Value.str (PySem.Str.ofString "PerlError") (217 : Nat), val := PySem.Value.ref (31 : Nat) } :: { hash := PySem.PyData.keyHash P (PySem.Str.ofString "Die"), key := PySem.Value.str (PySem.Str.ofString "Die") (242 : Nat), val := PySem.Value.ref (51 : Nat) } :: { hash := PySem.PyData.keyHash P (PySem.Str.ofString "SyntaxDie"), key := PySem.Value.str (PySem.Str.ofString "SyntaxDie") (268 : Nat), val := PySem.Value.ref (70 : Nat) } :: { hash := PySem.PyData.keyHash P (PySem.Str.ofString "SHORT_ESCAPES"), key := PySem.Value.str (PySem.Str.ofString "SHORT_ESCAPES") (292 : Nat), val := PySem.Value.ref (73 : Nat) } :: { hash := PySem.PyData.keyHash P (PySem.Str.ofString "CODE_FIGURES"), key := PySem.Value.str (PySem.Str.ofString "CODE_FIGURES") (294 : Nat), val := PySem.Value.str (PySem.Str.ofString "0123456789abcdef") (293 : Nat) } :: { hash := PySem.PyData.keyHash P (PySem.Str.ofString "TOP_CODE"), key := PySem.Value.str (PySem.Str.ofString "TOP_CODE") (296 : Nat), val := PySem.Value.int 1114111 (295 : Nat) } :: { hash := PySem.PyData.keyHash P (PySem.Str.ofString "digits_value"), key := PySem.Value.str (PySem.Str.ofString "digits_value") (309 : Nat), val := PySem.Value.ref (80 : Nat) } :: { hash := PySem.PyData.keyHash P (PySem.Str.ofString "coded_sign"), key := PySem.Value.str (PySem.Str.ofString "coded_sign") (316 : Nat), val := PySem.Value.ref (87 : Nat) } :: { hash := PySem.PyData.keyHash P (PySem.Str.ofString "braced_code"), key := PySem.Value.str (PySem.Str.ofString "braced_code") (328 : Nat), val := PySem.Value.ref (94 : Nat) } :: { hash := PySem.PyData.keyHash P (PySem.Str.ofString "escape_at"), key := PySem.Value.str (PySem.Str.ofString "escape_at") (339 : Nat), val := PySem.Value.ref (101 : Nat) } :: { hash := PySem.PyData.keyHash P (PySem.Str.ofString "great_letter"), key := PySem.Value.str (PySem.Str.ofString "great_letter") (346 : Nat), val := PySem.Value.ref (108 : Nat) } :: { hash := PySem.PyData.keyHash P (PySem.Str.ofString "KEPT_SIGN"), key := PySem.Value.str (PySem.Str.ofString "KEPT_SIGN") (351 : Nat), val := PySem.Value.int (-1) (350 : Nat) } :: { hash := PySem.PyData.keyHash P (PySem.Str.ofString "DROPPED_SIGN"), key := PySem.Value.str (PySem.Str.ofString "DROPPED_SIGN") (354 : Nat), val := PySem.Value.int (-2) (353 : Nat) } :: { hash := PySem.PyData.keyHash P (PySem.Str.ofString "TransTable"), key := PySem.Value.str (PySem.Str.ofString "TransTable") (393 : Nat), val := PySem.Value.ref (125 : Nat) } :: { hash := PySem.PyData.keyHash P (PySem.Str.ofString "guarded_at"), key := PySem.Value.str (PySem.Str.ofString "guarded_at") (402 : Nat), val := PySem.Value.ref (136 : Nat) } :: { hash := PySem.PyData.keyHash P (PySem.Str.ofString "trans_signs"), key := PySem.Value.str (PySem.Str.ofString "trans_signs") (412 : Nat), val := PySem.Value.ref (143 : Nat) } :: { hash := PySem.PyData.keyHash P (PySem.Str.ofString "trans_codes"), key := PySem.Value.str (PySem.Str.ofString "trans_codes") (426 : Nat), val := PySem.Value.ref (150 : Nat) } :: { hash := PySem.PyData.keyHash P (PySem.Str.ofString "plain_table"), key := PySem.Value.str (PySem.Str.ofString "plain_table") (438 : Nat), val := PySem.Value.ref (157 : Nat) } :: { hash := PySem.PyData.keyHash P (PySem.Str.ofString "sorted_once"), key := PySem.Value.str (PySem.Str.ofString "sorted_once") (447 : Nat), val := PySem.Value.ref (164 : Nat) } :: { hash := PySem.PyData.keyHash P (PySem.Str.ofString "make_trans"), key := PySem.Value.str (PySem.Str.ofString "make_trans") (460 : Nat), val := PySem.Value.ref (171 : Nat) } :: { hash := PySem.PyData.keyHash P (PySem.Str.ofString "rank_outside"), key := PySem.Value.str (PySem.Str.ofString "rank_outside") (471 : Nat), val := PySem.Value.ref (178 : Nat) } :: { hash := PySem.PyData.keyHash P (PySem.Str.ofString "turned_code"), key := PySem.Value.str (PySem.Str.ofString "turned_code") (480 : Nat), val := PySem.Value.ref (185 : Nat) } :: { hash := PySem.PyData.keyHash P (PySem.Str.ofString "trans_code"), key := PySem.Value.str (PySem.Str.ofString "trans_code") (488 : Nat), val := PySem.Value.ref (192 : Nat) } :: { hash := PySem.PyData.keyHash P (PySem.Str.ofString "_law_parts"), key := PySem.Value.str (PySem.Str.ofString "_law_parts") (538 : Nat), val := PySem.Value.ref (260 : Nat) } :: { hash := PySem.PyData.keyHash P (PySem.Str.ofString "_law_feed"), key := PySem.Value.str (PySem.Str.ofString "_law_feed") (547 : Nat), val := PySem.Value.ref (267 : Nat) } :: { hash := PySem.PyData.keyHash P (PySem.Str.ofString "_law_list"), key := PySem.Value.str (PySem.Str.ofString "_law_list") (559 : Nat), val := PySem.Value.ref (274 : Nat) } :: { hash := PySem.PyData.keyHash P (PySem.Str.ofString "_law_codes"), key := PySem.Value.str (PySem.Str.ofString "_law_codes") (571 : Nat), val := PySem.Value.ref (281 : Nat) } :: { hash := PySem.PyData.keyHash P (PySem.Str.ofString "_law_laid"), key := PySem.Value.str (PySem.Str.ofString "_law_laid") (579 : Nat), val := PySem.Value.ref (288 : Nat) } :: { hash := PySem.PyData.keyHash P (PySem.Str.ofString "_law_table"), key := PySem.Value.str (PySem.Str.ofString "_law_table") (589 : Nat), val := PySem.Value.ref (295 : Nat) } :: { hash := PySem.PyData.keyHash P (PySem.Str.ofString "_law_end"), key := PySem.Value.str (PySem.Str.ofString "_law_end") (599 : Nat), val := PySem.Value.ref (302 : Nat) } :: { hash := PySem.PyData.keyHash P (PySem.Str.ofString "_law_rank"), key := PySem.Value.str (PySem.Str.ofString "_law_rank") (609 : Nat), val := PySem.Value.ref (309 : Nat) } :: { hash := PySem.PyData.keyHash P (PySem.Str.ofString "law"), key := PySem.Value.str (PySem.Str.ofString "law") (615 : Nat), val := PySem.Value.ref (314 : Nat) } :: [])) 41 }) ::
 (nat_lit 15, { cls := PySem.Value.type "tuple", data := PySem.Data.seq #[PySem.Value.type "Exception"] }) ::
 (nat_lit 22, { cls := PySem.Value.type "tuple", data := PySem.Data.seq #[] }) ::
 (nat_lit 24, { cls := PySem.Value.type "tuple", data := PySem.Data.seq #[PySem.Value.str (PySem.Str.ofString "self") (204 : Nat), PySem.Value.str (PySem.Str.ofString "text") (205 : Nat)] }) ::
 (nat_lit 25, { cls := PySem.Value.type "tuple", data := PySem.Data.seq #[] }) ::
 (nat_lit 27, { cls := PySem.Value.type "code", data := PySem.Data.fields (List.toArray (PySem.Value.str (PySem.Str.ofString "__init__") (201 : Nat) :: PySem.Value.str (PySem.Str.ofString "PerlError.__init__") (202 : Nat) :: PySem.Value.str (PySem.Str.ofString "/claim/cut.py") (203 : Nat) :: PySem.Value.int 4 (0 : Nat) :: PySem.Value.int 2 (0 : Nat) :: PySem.Value.int 0 (0 : Nat) :: PySem.Value.int 0 (0 : Nat) :: PySem.Value.int 3 (0 : Nat) :: PySem.Value.ref (22 : Nat) :: PySem.Value.bool Bool.true :: PySem.Value.int 181 (0 : Nat) :: PySem.Value.ref (23 : Nat) :: PySem.Value.none :: PySem.Value.ref (24 : Nat) :: PySem.Value.ref (25 : Nat) :: PySem.Value.ref (26 : Nat) :: PySem.Value.int 206 (0 : Nat) :: PySem.Value.int 4 (0 : Nat) :: PySem.Value.str (PySem.Str.ofString "/claim/cut.py") (207 : Nat) :: [])) }) ::
 (nat_lit 28, { cls := PySem.Value.type "function", data := PySem.Data.func { name := PySem.Str.ofString "__init__", qualname := PySem.Str.ofString "PerlError.__init__", params := ?a1_0, body := PySem.FuncBody.stmts ?b1_0, scope := ?s1_0, globals := 3, closure := [], defaults := PySem.Value.none, kwdefaults := PySem.Value.none, pyModule := PySem.Value.str (PySem.Str.ofString "perlcore.errors") (187 : Nat), code := PySem.Value.ref (27 : Nat) } }) ::
 (nat_lit 29, { cls := PySem.Value.type "tuple", data := PySem.Data.seq #[PySem.Value.str (PySem.Str.ofString "text") (209 : Nat)] }) ::
 (nat_lit 30, { cls := PySem.Value.type "dict", data := PySem.Data.dict #[{ hash := PySem.PyData.keyHash P (PySem.Str.ofString "__module__"), key := PySem.Value.str (PySem.Str.ofString "__module__") (196 : Nat), val := PySem.Value.str (PySem.Str.ofString "perlcore.errors") (187 : Nat) }, { hash := PySem.PyData.keyHash P (PySem.Str.ofString "__firstlineno__"), key := PySem.Value.str (PySem.Str.ofString "__firstlineno__") (200 : Nat), val := PySem.Value.int 2 (199 : Nat) }, { hash := PySem.PyData.keyHash P (PySem.Str.ofString "__init__"), key := PySem.Value.str (PySem.Str.ofString "__init__") (208 : Nat), val := PySem.Value.ref (28 : Nat) }, { hash := PySem.PyData.keyHash P (PySem.Str.ofString "__static_attri\x62utes__"), key := PySem.Value.str (PySem.Str.ofString "__static_attri\x62utes__") (210 : Nat), val := PySem.Value.ref (29 : Nat) }, { hash := PySem.PyData.keyHash P (PySem.Str.ofString "__weakref__"), key := PySem.Value.str (PySem.Str.ofString "__weakref__") (212 : Nat), val := PySem.Value.ref (32 : Nat) }, { hash := PySem.PyData.keyHash P (PySem.Str.ofString "__doc__"), key := PySem.Value.str (PySem.Str.ofString "__doc__") (213 : Nat), val := PySem.Value.none }] 3 }) ::
 (nat_lit 31, { cls := PySem.Value.type "type", data := PySem.Data.cls { name := PySem.Str.ofString "PerlError", bases := [PySem.Value.type "Exception"], mro := [PySem.Value.ref (31 : Nat), PySem.Value.type "Exception", PySem.Value.type "BaseException", PySem.Value.type "object"], ns := (30 : Nat), qualname := PySem.Str.ofString "PerlError", subclasses := [PySem.Value.ref (51 : Nat), PySem.Value.ref (70 : Nat)] }, slots := #[Option.some (PySem.Value.ref (15 : Nat)), Option.none, Option.some (PySem.Value.str (PySem.Str.ofString "PerlError") (189 : Nat)), Option.some (PySem.Value.str (PySem.Str.ofString "PerlError") (197 : Nat)), Option.some (PySem.Value.builtin "Exception.__new__"), Option.some (PySem.Value.bool Bool.true)] }) ::
 (nat_lit 32, { cls := PySem.Value.type "getset_descriptor", data := PySem.Data.fields #[PySem.Value.str (PySem.Str.ofString "__weakref__") (211 : Nat), PySem.Value.ref (31 : Nat), PySem.Value.builtin "ExceptionGroup.__weakref__", PySem.Value.none] }) ::
 (nat_lit 35, { cls := PySem.Value.type "tuple", data := PySem.Data.seq #[PySem.Value.ref (31 : Nat)] }) ::
 (nat_lit 42, { cls := PySem.Value.type "tuple", data := PySem.Data.seq #[] }) ::
 (nat_lit 44, { cls := PySem.Value.type "tuple", data := PySem.Data.seq #[PySem.Value.str (PySem.Str.ofString "self") (233 : Nat), PySem.Value.str (PySem.Str.ofString "value") (234 : Nat)] }) ::
 (nat_lit 45, { cls := PySem.Value.type "tuple", data := PySem.Data.seq #[] }) ::
 (nat_lit 47, { cls := PySem.Value.type "code", data := PySem.Data.fields (List.toArray (PySem.Value.str (PySem.Str.ofString "__init__") (230 : Nat) :: PySem.Value.str (PySem.Str.ofString "Die.__init__") (231 : Nat) :: PySem.Value.str (PySem.Str.ofString "/claim/cut.py") (232 : Nat) :: PySem.Value.int 9 (0 : Nat) :: PySem.Value.int 2 (0 : Nat) :: PySem.Value.int 0 (0 : Nat) :: PySem.Value.int 0 (0 : Nat) :: PySem.Value.int 3 (0 : Nat) :: PySem.Value.ref (42 : Nat) :: PySem.Value.bool Bool.true :: PySem.Value.int 181 (0 : Nat) :: PySem.Value.ref (43 : Nat) :: PySem.Value.none :: PySem.Value.ref (44 : Nat) :: PySem.Value.ref (45 : Nat) :: PySem.Value.ref (46 : Nat) :: PySem.Value.int 235 (0 : Nat) :: PySem.Value.int 9 (0 : Nat) :: PySem.Value.str (PySem.Str.ofString "/claim/cut.py") (236 : Nat) :: [])) }) ::
 (nat_lit 48, { cls := PySem.Value.type "function", data := PySem.Data.func { name := PySem.Str.ofString "__init__", qualname := PySem.Str.ofString "Die.__init__", params := ?a2_0, body := PySem.FuncBody.stmts ?b2_0, scope := ?s2_0, globals := 3, closure := [], defaults := PySem.Value.none, kwdefaults := PySem.Value.none, pyModule := PySem.Value.str (PySem.Str.ofString "perlcore.errors") (187 : Nat), code := PySem.Value.ref (47 : Nat) } }) ::
 (nat_lit 49, { cls := PySem.Value.type "tuple", data := PySem.Data.seq #[PySem.Value.str (PySem.Str.ofString "value") (238 : Nat)] }) ::
 (nat_lit 50, { cls := PySem.Value.type "dict", data := PySem.Data.dict #[{ hash := PySem.PyData.keyHash P (PySem.Str.ofString "__module__"), key := PySem.Value.str (PySem.Str.ofString "__module__") (225 : Nat), val := PySem.Value.str (PySem.Str.ofString "perlcore.errors") (187 : Nat) }, { hash := PySem.PyData.keyHash P (PySem.Str.ofString "__firstlineno__"), key := PySem.Value.str (PySem.Str.ofString "__firstlineno__") (229 : Nat), val := PySem.Value.int 7 (228 : Nat) }, { hash := PySem.PyData.keyHash P (PySem.Str.ofString "__init__"), key := PySem.Value.str (PySem.Str.ofString "__init__") (237 : Nat), val := PySem.Value.ref (48 : Nat) }, { hash := PySem.PyData.keyHash P (PySem.Str.ofString "__static_attri\x62utes__"), key := PySem.Value.str (PySem.Str.ofString "__static_attri\x62utes__") (239 : Nat), val := PySem.Value.ref (49 : Nat) }, { hash := PySem.PyData.keyHash P (PySem.Str.ofString "__doc__"), key := PySem.Value.str (PySem.Str.ofString "__doc__") (240 : Nat), val := PySem.Value.none }] 2 }) ::
 (nat_lit 51, { cls := PySem.Value.type "type", data := PySem.Data.cls { name := PySem.Str.ofString "Die", bases := [PySem.Value.ref (31 : Nat)], mro := [PySem.Value.ref (51 : Nat), PySem.Value.ref (31 : Nat), PySem.Value.type "Exception", PySem.Value.type "BaseException", PySem.Value.type "object"], ns := (50 : Nat), qualname := PySem.Str.ofString "Die" }, slots := #[Option.some (PySem.Value.ref (35 : Nat)), Option.none, Option.some (PySem.Value.str (PySem.Str.ofString "Die") (218 : Nat)), Option.some (PySem.Value.str (PySem.Str.ofString "Die") (226 : Nat)), Option.some (PySem.Value.builtin "Exception.__new__"), Option.some (PySem.Value.bool Bool.true)] }) ::
 (nat_lit 54, { cls := PySem.Value.type "tuple", data := PySem.Data.seq #[PySem.Value.ref (31 : Nat)] }) ::
 (nat_lit 61, { cls := PySem.Value.type "tuple", data := PySem.Data.seq #[] }) ::
 (nat_lit 63, { cls := PySem.Value.type "tuple", data := PySem.Data.seq #[PySem.Value.str (PySem.Str.ofString "self") (258 : Nat), PySem.Value.str (PySem.Str.ofString "text") (259 : Nat), PySem.Value.str (PySem.Str.ofString "line") (260 : Nat)] }) ::
 (nat_lit 64, { cls := PySem.Value.type "tuple", data := PySem.Data.seq #[] }) ::
 (nat_lit 66, { cls := PySem.Value.type "code", data := PySem.Data.fields (List.toArray (PySem.Value.str (PySem.Str.ofString "__init__") (255 : Nat) :: PySem.Value.str (PySem.Str.ofString "SyntaxDie.__init__") (256 : Nat) :: PySem.Value.str (PySem.Str.ofString "/claim/cut.py") (257 : Nat) :: PySem.Value.int 14 (0 : Nat) :: PySem.Value.int 3 (0 : Nat) :: PySem.Value.int 0 (0 : Nat) :: PySem.Value.int 0 (0 : Nat) :: PySem.Value.int 3 (0 : Nat) :: PySem.Value.ref (61 : Nat) :: PySem.Value.bool Bool.true :: PySem.Value.int 181 (0 : Nat) :: PySem.Value.ref (62 : Nat) :: PySem.Value.none :: PySem.Value.ref (63 : Nat) :: PySem.Value.ref (64 : Nat) :: PySem.Value.ref (65 : Nat) :: PySem.Value.int 261 (0 : Nat) :: PySem.Value.int 14 (0 : Nat) :: PySem.Value.str (PySem.Str.ofString "/claim/cut.py") (262 : Nat) :: [])) }) ::
 (nat_lit 67, { cls := PySem.Value.type "function", data := PySem.Data.func { name := PySem.Str.ofString "__init__", qualname := PySem.Str.ofString "SyntaxDie.__init__", params := ?a3_0, body := PySem.FuncBody.stmts ?b3_0, scope := ?s3_0, globals := 3, closure := [], defaults := PySem.Value.none, kwdefaults := PySem.Value.none, pyModule := PySem.Value.str (PySem.Str.ofString "perlcore.errors") (187 : Nat), code := PySem.Value.ref (66 : Nat) } }) ::
 (nat_lit 68, { cls := PySem.Value.type "tuple", data := PySem.Data.seq #[PySem.Value.str (PySem.Str.ofString "line") (264 : Nat)] }) ::
 (nat_lit 69, { cls := PySem.Value.type "dict", data := PySem.Data.dict #[{ hash := PySem.PyData.keyHash P (PySem.Str.ofString "__module__"), key := PySem.Value.str (PySem.Str.ofString "__module__") (250 : Nat), val := PySem.Value.str (PySem.Str.ofString "perlcore.errors") (187 : Nat) }, { hash := PySem.PyData.keyHash P (PySem.Str.ofString "__firstlineno__"), key := PySem.Value.str (PySem.Str.ofString "__firstlineno__") (254 : Nat), val := PySem.Value.int 12 (253 : Nat) }, { hash := PySem.PyData.keyHash P (PySem.Str.ofString "__init__"), key := PySem.Value.str (PySem.Str.ofString "__init__") (263 : Nat), val := PySem.Value.ref (67 : Nat) }, { hash := PySem.PyData.keyHash P (PySem.Str.ofString "__static_attri\x62utes__"), key := PySem.Value.str (PySem.Str.ofString "__static_attri\x62utes__") (265 : Nat), val := PySem.Value.ref (68 : Nat) }, { hash := PySem.PyData.keyHash P (PySem.Str.ofString "__doc__"), key := PySem.Value.str (PySem.Str.ofString "__doc__") (266 : Nat), val := PySem.Value.none }] 2 }) ::
 (nat_lit 70, { cls := PySem.Value.type "type", data := PySem.Data.cls { name := PySem.Str.ofString "SyntaxDie", bases := [PySem.Value.ref (31 : Nat)], mro := [PySem.Value.ref (70 : Nat), PySem.Value.ref (31 : Nat), PySem.Value.type "Exception", PySem.Value.type "BaseException", PySem.Value.type "object"], ns := (69 : Nat), qualname := PySem.Str.ofString "SyntaxDie" }, slots := #[Option.some (PySem.Value.ref (54 : Nat)), Option.none, Option.some (PySem.Value.str (PySem.Str.ofString "SyntaxDie") (243 : Nat)), Option.some (PySem.Value.str (PySem.Str.ofString "SyntaxDie") (251 : Nat)), Option.some (PySem.Value.builtin "Exception.__new__"), Option.some (PySem.Value.bool Bool.true)] }) ::
 (nat_lit 73, { cls := PySem.Value.type "dict", data := PySem.Data.dict #[{ hash := PySem.PyData.keyHash P (PySem.Str.ofString "n"), key := PySem.Value.str (PySem.Str.ofString "n") (271 : Nat), val := PySem.Value.str (PySem.Str.ofString "\n") (272 : Nat) }, { hash := PySem.PyData.keyHash P (PySem.Str.ofString "t"), key := PySem.Value.str (PySem.Str.ofString "t") (273 : Nat), val := PySem.Value.str (PySem.Str.ofString "\t") (274 : Nat) }, { hash := PySem.PyData.keyHash P (PySem.Str.ofString "r"), key := PySem.Value.str (PySem.Str.ofString "r") (275 : Nat), val := PySem.Value.str (PySem.Str.ofString "\x0d") (276 : Nat) }, { hash := PySem.PyData.keyHash P (PySem.Str.ofString "f"), key := PySem.Value.str (PySem.Str.ofString "f") (277 : Nat), val := PySem.Value.str (PySem.Str.ofString "\x0c") (278 : Nat) }, { hash := PySem.PyData.keyHash P (PySem.Str.ofString "b"), key := PySem.Value.str (PySem.Str.ofString "b") (279 : Nat), val := PySem.Value.str (PySem.Str.ofString "\x08") (280 : Nat) }, { hash := PySem.PyData.keyHash P (PySem.Str.ofString "a"), key := PySem.Value.str (PySem.Str.ofString "a") (281 : Nat), val := PySem.Value.str (PySem.Str.ofString "\x07") (282 : Nat) }, { hash := PySem.PyData.keyHash P (PySem.Str.ofString "e"), key := PySem.Value.str (PySem.Str.ofString "e") (283 : Nat), val := PySem.Value.str (PySem.Str.ofString "\x1b") (284 : Nat) }] 7 }) ::
 (nat_lit 74, { cls := PySem.Value.type "tuple", data := PySem.Data.seq #[] }) ::
 (nat_lit 76, { cls := PySem.Value.type "tuple", data := PySem.Data.seq #[PySem.Value.str (PySem.Str.ofString "text") (300 : Nat), PySem.Value.str (PySem.Str.ofString "at") (301 : Nat), PySem.Value.str (PySem.Str.ofString "most") (302 : Nat), PySem.Value.str (PySem.Str.ofString "base") (303 : Nat), PySem.Value.str (PySem.Str.ofString "value") (304 : Nat), PySem.Value.str (PySem.Str.ofString "end") (305 : Nat), PySem.Value.str (PySem.Str.ofString "digit") (306 : Nat)] }) ::
 (nat_lit 77, { cls := PySem.Value.type "tuple", data := PySem.Data.seq #[] }) ::
 (nat_lit 79, { cls := PySem.Value.type "code", data := PySem.Data.fields (List.toArray (PySem.Value.str (PySem.Str.ofString "digits_value") (297 : Nat) :: PySem.Value.str (PySem.Str.ofString "digits_value") (298 : Nat) :: PySem.Value.str (PySem.Str.ofString "/claim/cut.py") (299 : Nat) :: PySem.Value.int 21 (0 : Nat) :: PySem.Value.int 4 (0 : Nat) :: PySem.Value.int 0 (0 : Nat) :: PySem.Value.int 0 (0 : Nat) :: PySem.Value.int 3 (0 : Nat) :: PySem.Value.ref (74 : Nat) :: PySem.Value.bool Bool.true :: PySem.Value.int 181 (0 : Nat) :: PySem.Value.ref (75 : Nat) :: PySem.Value.none :: PySem.Value.ref (76 : Nat) :: PySem.Value.ref (77 : Nat) :: PySem.Value.ref (78 : Nat) :: PySem.Value.int 307 (0 : Nat) :: PySem.Value.int 21 (0 : Nat) :: PySem.Value.str (PySem.Str.ofString "/claim/cut.py") (308 : Nat) :: [])) }) ::
 (nat_lit 80, { cls := PySem.Value.type "function", data := PySem.Data.func { name := PySem.Str.ofString "digits_value", qualname := PySem.Str.ofString "digits_value", params := ?a8, body := PySem.FuncBody.stmts ?b8, scope := ?s8, globals := 3, closure := [], defaults := PySem.Value.none, kwdefaults := PySem.Value.none, pyModule := PySem.Value.str (PySem.Str.ofString "perlcore.quotes") (269 : Nat), code := PySem.Value.ref (79 : Nat) } }) ::
 (nat_lit 81, { cls := PySem.Value.type "tuple", data := PySem.Data.seq #[] }) ::
 (nat_lit 83, { cls := PySem.Value.type "tuple", data := PySem.Data.seq #[PySem.Value.str (PySem.Str.ofString "code") (313 : Nat)] }) ::
 (nat_lit 84, { cls := PySem.Value.type "tuple", data := PySem.Data.seq #[] }) ::
 (nat_lit 86, { cls := PySem.Value.type "code", data := PySem.Data.fields (List.toArray (PySem.Value.str (PySem.Str.ofString "coded_sign") (310 : Nat) :: PySem.Value.str (PySem.Str.ofString "coded_sign") (311 : Nat) :: PySem.Value.str (PySem.Str.ofString "/claim/cut.py") (312 : Nat) :: PySem.Value.int 31 (0 : Nat) :: PySem.Value.int 1 (0 : Nat) :: PySem.Value.int 0 (0 : Nat) :: PySem.Value.int 0 (0 : Nat) :: PySem.Value.int 3 (0 : Nat) :: PySem.Value.ref (81 : Nat) :: PySem.Value.bool Bool.true :: PySem.Value.int 181 (0 : Nat) :: PySem.Value.ref (82 : Nat) :: PySem.Value.none :: PySem.Value.ref (83 : Nat) :: PySem.Value.ref (84 : Nat) :: PySem.Value.ref (85 : Nat) :: PySem.Value.int 314 (0 : Nat) :: PySem.Value.int 31 (0 : Nat) :: PySem.Value.str (PySem.Str.ofString "/claim/cut.py") (315 : Nat) :: [])) }) ::
 (nat_lit 87, { cls := PySem.Value.type "function", data := PySem.Data.func { name := PySem.Str.ofString "coded_sign", qualname := PySem.Str.ofString "coded_sign", params := ?a9, body := PySem.FuncBody.stmts ?b9, scope := ?s9, globals := 3, closure := [], defaults := PySem.Value.none, kwdefaults := PySem.Value.none, pyModule := PySem.Value.str (PySem.Str.ofString "perlcore.quotes") (269 : Nat), code := PySem.Value.ref (86 : Nat) } }) ::
 (nat_lit 88, { cls := PySem.Value.type "tuple", data := PySem.Data.seq #[] }) ::
 (nat_lit 90, { cls := PySem.Value.type "tuple", data := PySem.Data.seq #[PySem.Value.str (PySem.Str.ofString "text") (320 : Nat), PySem.Value.str (PySem.Str.ofString "at") (321 : Nat), PySem.Value.str (PySem.Str.ofString "base") (322 : Nat), PySem.Value.str (PySem.Str.ofString "end") (323 : Nat), PySem.Value.str (PySem.Str.ofString "value") (324 : Nat), PySem.Value.str (PySem.Str.ofString "behind") (325 : Nat)] }) ::
 (nat_lit 91, { cls := PySem.Value.type "tuple", data := PySem.Data.seq #[] }) ::
 (nat_lit 93, { cls := PySem.Value.type "code", data := PySem.Data.fields (List.toArray (PySem.Value.str (PySem.Str.ofString "braced_code") (317 : Nat) :: PySem.Value.str (PySem.Str.ofString "braced_code") (318 : Nat) :: PySem.Value.str (PySem.Str.ofString "/claim/cut.py") (319 : Nat) :: PySem.Value.int 35 (0 : Nat) :: PySem.Value.int 3 (0 : Nat) :: PySem.Value.int 0 (0 : Nat) :: PySem.Value.int 0 (0 : Nat) :: PySem.Value.int 3 (0 : Nat) :: PySem.Value.ref (88 : Nat) :: PySem.Value.bool Bool.true :: PySem.Value.int 181 (0 : Nat) :: PySem.Value.ref (89 : Nat) :: PySem.Value.none :: PySem.Value.ref (90 : Nat) :: PySem.Value.ref (91 : Nat) :: PySem.Value.ref (92 : Nat) :: PySem.Value.int 326 (0 : Nat) :: PySem.Value.int 35 (0 : Nat) :: PySem.Value.str (PySem.Str.ofString "/claim/cut.py") (327 : Nat) :: [])) }) ::
 (nat_lit 94, { cls := PySem.Value.type "function", data := PySem.Data.func { name := PySem.Str.ofString "braced_code", qualname := PySem.Str.ofString "braced_code", params := ?a10, body := PySem.FuncBody.stmts ?b10, scope := ?s10, globals := 3, closure := [], defaults := PySem.Value.none, kwdefaults := PySem.Value.none, pyModule := PySem.Value.str (PySem.Str.ofString "perlcore.quotes") (269 : Nat), code := PySem.Value.ref (93 : Nat) } }) ::
 (nat_lit 95, { cls := PySem.Value.type "tuple", data := PySem.Data.seq #[] }) ::
 (nat_lit 97, { cls := PySem.Value.type "tuple", data := PySem.Data.seq #[PySem.Value.str (PySem.Str.ofString "text") (332 : Nat), PySem.Value.str (PySem.Str.ofString "at") (333 : Nat), PySem.Value.str (PySem.Str.ofString "sign") (334 : Nat), PySem.Value.str (PySem.Str.ofString "value") (335 : Nat), PySem.Value.str (PySem.Str.ofString "end") (336 : Nat)] }) ::
 (nat_lit 98, { cls := PySem.Value.type "tuple", data := PySem.Data.seq #[] }) ::
 (nat_lit 100, { cls := PySem.Value.type "code", data := PySem.Data.fields (List.toArray (PySem.Value.str (PySem.Str.ofString "escape_at") (329 : Nat) :: PySem.Value.str (PySem.Str.ofString "escape_at") (330 : Nat) :: PySem.Value.str (PySem.Str.ofString "/claim/cut.py") (331 : Nat) :: PySem.Value.int 41 (0 : Nat) :: PySem.Value.int 2 (0 : Nat) :: PySem.Value.int 0 (0 : Nat) :: PySem.Value.int 0 (0 : Nat) :: PySem.Value.int 3 (0 : Nat) :: PySem.Value.ref (95 : Nat) :: PySem.Value.bool Bool.true :: PySem.Value.int 181 (0 : Nat) :: PySem.Value.ref (96 : Nat) :: PySem.Value.none :: PySem.Value.ref (97 : Nat) :: PySem.Value.ref (98 : Nat) :: PySem.Value.ref (99 : Nat) :: PySem.Value.int 337 (0 : Nat) :: PySem.Value.int 41 (0 : Nat) :: PySem.Value.str (PySem.Str.ofString "/claim/cut.py") (338 : Nat) :: [])) }) ::
 (nat_lit 101, { cls := PySem.Value.type "function", data := PySem.Data.func { name := PySem.Str.ofString "escape_at", qualname := PySem.Str.ofString "escape_at", params := ?a11, body := PySem.FuncBody.stmts ?b11, scope := ?s11, globals := 3, closure := [], defaults := PySem.Value.none, kwdefaults := PySem.Value.none, pyModule := PySem.Value.str (PySem.Str.ofString "perlcore.quotes") (269 : Nat), code := PySem.Value.ref (100 : Nat) } }) ::
 (nat_lit 102, { cls := PySem.Value.type "tuple", data := PySem.Data.seq #[] }) ::
 (nat_lit 104, { cls := PySem.Value.type "tuple", data := PySem.Data.seq #[PySem.Value.str (PySem.Str.ofString "sign") (343 : Nat)] }) ::
 (nat_lit 105, { cls := PySem.Value.type "tuple", data := PySem.Data.seq #[] }) ::
 (nat_lit 107, { cls := PySem.Value.type "code", data := PySem.Data.fields (List.toArray (PySem.Value.str (PySem.Str.ofString "great_letter") (340 : Nat) :: PySem.Value.str (PySem.Str.ofString "great_letter") (341 : Nat) :: PySem.Value.str (PySem.Str.ofString "/claim/cut.py") (342 : Nat) :: PySem.Value.int 64 (0 : Nat) :: PySem.Value.int 1 (0 : Nat) :: PySem.Value.int 0 (0 : Nat) :: PySem.Value.int 0 (0 : Nat) :: PySem.Value.int 3 (0 : Nat) :: PySem.Value.ref (102 : Nat) :: PySem.Value.bool Bool.true :: PySem.Value.int 181 (0 : Nat) :: PySem.Value.ref (103 : Nat) :: PySem.Value.none :: PySem.Value.ref (104 : Nat) :: PySem.Value.ref (105 : Nat) :: PySem.Value.ref (106 : Nat) :: PySem.Value.int 344 (0 : Nat) :: PySem.Value.int 64 (0 : Nat) :: PySem.Value.str (PySem.Str.ofString "/claim/cut.py") (345 : Nat) :: [])) }) ::
 (nat_lit 108, { cls := PySem.Value.type "function", data := PySem.Data.func { name := PySem.Str.ofString "great_letter", qualname := PySem.Str.ofString "great_letter", params := ?a12, body := PySem.FuncBody.stmts ?b12, scope := ?s12, globals := 3, closure := [], defaults := PySem.Value.none, kwdefaults := PySem.Value.none, pyModule := PySem.Value.str (PySem.Str.ofString "perlcore.quotes") (269 : Nat), code := PySem.Value.ref (107 : Nat) } }) ::
 (nat_lit 116, { cls := PySem.Value.type "tuple", data := PySem.Data.seq #[] }) ::
 (nat_lit 118, { cls := PySem.Value.type "tuple", data := PySem.Data.seq #[PySem.Value.str (PySem.Str.ofString "self") (370 : Nat), PySem.Value.str (PySem.Str.ofString "codes") (371 : Nat), PySem.Value.str (PySem.Str.ofString "is_turned") (372 : Nat), PySem.Value.str (PySem.Str.ofString "barred") (373 : Nat), PySem.Value.str (PySem.Str.ofString "becomes") (374 : Nat), PySem.Value.str (PySem.Str.ofString "is_deleting") (375 : Nat), PySem.Value.str (PySem.Str.ofString "is_squeezing") (376 : Nat)] }) ::
 (nat_lit 119, { cls := PySem.Value.type "tuple", data := PySem.Data.seq #[] }) ::
 (nat_lit 121, { cls := PySem.Value.type "code", data := PySem.Data.fields (List.toArray (PySem.Value.str (PySem.Str.ofString "__init__") (367 : Nat) :: PySem.Value.str (PySem.Str.ofString "TransTable.__init__") (368 : Nat) :: PySem.Value.str (PySem.Str.ofString "/claim/cut.py") (369 : Nat) :: PySem.Value.int 73 (0 : Nat) :: PySem.Value.int 7 (0 : Nat) :: PySem.Value.int 0 (0 : Nat) :: PySem.Value.int 0 (0 : Nat) :: PySem.Value.int 3 (0 : Nat) :: PySem.Value.ref (116 : Nat) :: PySem.Value.bool Bool.true :: PySem.Value.int 181 (0 : Nat) :: PySem.Value.ref (117 : Nat) :: PySem.Value.none :: PySem.Value.ref (118 : Nat) :: PySem.Value.ref (119 : Nat) :: PySem.Value.ref (120 : Nat) :: PySem.Value.int 377 (0 : Nat) :: PySem.Value.int 73 (0 : Nat) :: PySem.Value.str (PySem.Str.ofString "/claim/cut.py") (378 : Nat) :: [])) }) ::
 (nat_lit 122, { cls := PySem.Value.type "function", data := PySem.Data.func { name := PySem.Str.ofString "__init__", qualname := PySem.Str.ofString "TransTable.__init__", params := ?a16_0, body := PySem.FuncBody.stmts ?b16_0, scope := ?s16_0, globals := 3, closure := [], defaults := PySem.Value.none, kwdefaults := PySem.Value.none, pyModule := PySem.Value.str (PySem.Str.ofString "perlcore.trans") (347 : Nat), code := PySem.Value.ref (121 : Nat) } }) ::
 (nat_lit 123, { cls := PySem.Value.type "tuple", data := PySem.Data.seq #[PySem.Value.str (PySem.Str.ofString "barred") (380 : Nat), PySem.Value.str (PySem.Str.ofString "becomes") (381 : Nat), PySem.Value.str (PySem.Str.ofString "codes") (382 : Nat), PySem.Value.str (PySem.Str.ofString "is_deleting") (383 : Nat), PySem.Value.str (PySem.Str.ofString "is_squeezing") (384 : Nat), PySem.Value.str (PySem.Str.ofString "is_turned") (385 : Nat)] }) ::
 (nat_lit 124, { cls := PySem.Value.type "dict", data := PySem.Data.dict #[{ hash := PySem.PyData.keyHash P (PySem.Str.ofString "__module__"), key := PySem.Value.str (PySem.Str.ofString "__module__") (362 : Nat), val := PySem.Value.str (PySem.Str.ofString "perlcore.trans") (347 : Nat) }, { hash := PySem.PyData.keyHash P (PySem.Str.ofString "__firstlineno__"), key := PySem.Value.str (PySem.Str.ofString "__firstlineno__") (366 : Nat), val := PySem.Value.int 71 (365 : Nat) }, { hash := PySem.PyData.keyHash P (PySem.Str.ofString "__init__"), key := PySem.Value.str (PySem.Str.ofString "__init__") (379 : Nat), val := PySem.Value.ref (122 : Nat) }, { hash := PySem.PyData.keyHash P (PySem.Str.ofString "__static_attri\x62utes__"), key := PySem.Value.str (PySem.Str.ofString "__static_attri\x62utes__") (386 : Nat), val := PySem.Value.ref (123 : Nat) }, { hash := PySem.PyData.keyHash P (PySem.Str.ofString "__dict__"), key := PySem.Value.str (PySem.Str.ofString "__dict__") (388 : Nat), val := PySem.Value.ref (126 : Nat) }, { hash := PySem.PyData.keyHash P (PySem.Str.ofString "__weakref__"), key := PySem.Value.str (PySem.Str.ofString "__weakref__") (390 : Nat), val := PySem.Value.ref (127 : Nat) }, { hash := PySem.PyData.keyHash P (PySem.Str.ofString "__doc__"), key := PySem.Value.str (PySem.Str.ofString "__doc__") (391 : Nat), val := PySem.Value.none }] 4 }) ::
 (nat_lit 125, { cls := PySem.Value.type "type", data := PySem.Data.cls { name := PySem.Str.ofString "TransTable", bases := [PySem.Value.type "object"], mro := [PySem.Value.ref (125 : Nat), PySem.Value.type "object"], ns := (124 : Nat), qualname := PySem.Str.ofString "TransTable" }, slots := #[Option.none, Option.none, Option.some (PySem.Value.str (PySem.Str.ofString "TransTable") (355 : Nat)), Option.some (PySem.Value.str (PySem.Str.ofString "TransTable") (363 : Nat)), Option.some (PySem.Value.builtin "object.__new__"), Option.some (PySem.Value.bool Bool.true)] }) ::
 (nat_lit 126, { cls := PySem.Value.type "getset_descriptor", data := PySem.Data.fields #[PySem.Value.str (PySem.Str.ofString "__dict__") (387 : Nat), PySem.Value.ref (125 : Nat), PySem.Value.builtin "function.__dict__", PySem.Value.builtin "function.__dict__#set"] }) ::
 (nat_lit 127, { cls := PySem.Value.type "getset_descriptor", data := PySem.Data.fields #[PySem.Value.str (PySem.Str.ofString "__weakref__") (389 : Nat), PySem.Value.ref (125 : Nat), PySem.Value.builtin "ExceptionGroup.__weakref__", PySem.Value.none] }) ::
 (nat_lit 130, { cls := PySem.Value.type "tuple", data := PySem.Data.seq #[] }) ::
 (nat_lit 132, { cls := PySem.Value.type "tuple", data := PySem.Data.seq #[PySem.Value.str (PySem.Str.ofString "text") (397 : Nat), PySem.Value.str (PySem.Str.ofString "at") (398 : Nat), PySem.Value.str (PySem.Str.ofString "fault") (399 : Nat)] }) ::
 (nat_lit 133, { cls := PySem.Value.type "tuple", data := PySem.Data.seq #[] }) ::
 (nat_lit 135, { cls := PySem.Value.type "code", data := PySem.Data.fields (List.toArray (PySem.Value.str (PySem.Str.ofString "guarded_at") (394 : Nat) :: PySem.Value.str (PySem.Str.ofString "guarded_at") (395 : Nat) :: PySem.Value.str (PySem.Str.ofString "/claim/cut.py") (396 : Nat) :: PySem.Value.int 80 (0 : Nat) :: PySem.Value.int 2 (0 : Nat) :: PySem.Value.int 0 (0 : Nat) :: PySem.Value.int 0 (0 : Nat) :: PySem.Value.int 3 (0 : Nat) :: PySem.Value.ref (130 : Nat) :: PySem.Value.bool Bool.true :: PySem.Value.int 181 (0 : Nat) :: PySem.Value.ref (131 : Nat) :: PySem.Value.none :: PySem.Value.ref (132 : Nat) :: PySem.Value.ref (133 : Nat) :: PySem.Value.ref (134 : Nat) :: PySem.Value.int 400 (0 : Nat) :: PySem.Value.int 80 (0 : Nat) :: PySem.Value.str (PySem.Str.ofString "/claim/cut.py") (401 : Nat) :: [])) }) ::
 (nat_lit 136, { cls := PySem.Value.type "function", data := PySem.Data.func { name := PySem.Str.ofString "guarded_at", qualname := PySem.Str.ofString "guarded_at", params := ?a17, body := PySem.FuncBody.stmts ?b17, scope := ?s17, globals := 3, closure := [], defaults := PySem.Value.none, kwdefaults := PySem.Value.none, pyModule := PySem.Value.str (PySem.Str.ofString "perlcore.trans") (347 : Nat), code := PySem.Value.ref (135 : Nat) } }) ::
 (nat_lit 137, { cls := PySem.Value.type "tuple", data := PySem.Data.seq #[] }) ::
 (nat_lit 139, { cls := PySem.Value.type "tuple", data := PySem.Data.seq #[PySem.Value.str (PySem.Str.ofString "text") (406 : Nat), PySem.Value.str (PySem.Str.ofString "found") (407 : Nat), PySem.Value.str (PySem.Str.ofString "at") (408 : Nat), PySem.Value.str (PySem.Str.ofString "sign") (409 : Nat)] }) ::
 (nat_lit 140, { cls := PySem.Value.type "tuple", data := PySem.Data.seq #[] }) ::
 (nat_lit 142, { cls := PySem.Value.type "code", data := PySem.Data.fields (List.toArray (PySem.Value.str (PySem.Str.ofString "trans_signs") (403 : Nat) :: PySem.Value.str (PySem.Str.ofString "trans_signs") (404 : Nat) :: PySem.Value.str (PySem.Str.ofString "/claim/cut.py") (405 : Nat) :: PySem.Value.int 85 (0 : Nat) :: PySem.Value.int 1 (0 : Nat) :: PySem.Value.int 0 (0 : Nat) :: PySem.Value.int 0 (0 : Nat) :: PySem.Value.int 3 (0 : Nat) :: PySem.Value.ref (137 : Nat) :: PySem.Value.bool Bool.true :: PySem.Value.int 181 (0 : Nat) :: PySem.Value.ref (138 : Nat) :: PySem.Value.none :: PySem.Value.ref (139 : Nat) :: PySem.Value.ref (140 : Nat) :: PySem.Value.ref (141 : Nat) :: PySem.Value.int 410 (0 : Nat) :: PySem.Value.int 85 (0 : Nat) :: PySem.Value.str (PySem.Str.ofString "/claim/cut.py") (411 : Nat) :: [])) }) ::
 (nat_lit 143, { cls := PySem.Value.type "function", data := PySem.Data.func { name := PySem.Str.ofString "trans_signs", qualname := PySem.Str.ofString "trans_signs", params := ?a18, body := PySem.FuncBody.stmts ?b18, scope := ?s18, globals := 3, closure := [], defaults := PySem.Value.none, kwdefaults := PySem.Value.none, pyModule := PySem.Value.str (PySem.Str.ofString "perlcore.trans") (347 : Nat), code := PySem.Value.ref (142 : Nat) } }) ::
 (nat_lit 144, { cls := PySem.Value.type "tuple", data := PySem.Data.seq #[] }) ::
 (nat_lit 146, { cls := PySem.Value.type "tuple", data := PySem.Data.seq #[PySem.Value.str (PySem.Str.ofString "text") (416 : Nat), PySem.Value.str (PySem.Str.ofString "most") (417 : Nat), PySem.Value.str (PySem.Str.ofString "signs") (418 : Nat), PySem.Value.str (PySem.Str.ofString "found") (419 : Nat), PySem.Value.str (PySem.Str.ofString "at") (420 : Nat), PySem.Value.str (PySem.Str.ofString "code") (421 : Nat), PySem.Value.str (PySem.Str.ofString "last") (422 : Nat), PySem.Value.str (PySem.Str.ofString "one") (423 : Nat)] }) ::
 (nat_lit 147, { cls := PySem.Value.type "tuple", data := PySem.Data.seq #[] }) ::
 (nat_lit 149, { cls := PySem.Value.type "code", data := PySem.Data.fields (List.toArray (PySem.Value.str (PySem.Str.ofString "trans_codes") (413 : Nat) :: PySem.Value.str (PySem.Str.ofString "trans_codes") (414 : Nat) :: PySem.Value.str (PySem.Str.ofString "/claim/cut.py") (415 : Nat) :: PySem.Value.int 96 (0 : Nat) :: PySem.Value.int 2 (0 : Nat) :: PySem.Value.int 0 (0 : Nat) :: PySem.Value.int 0 (0 : Nat) :: PySem.Value.int 3 (0 : Nat) :: PySem.Value.ref (144 : Nat) :: PySem.Value.bool Bool.true :: PySem.Value.int 181 (0 : Nat) :: PySem.Value.ref (145 : Nat) :: PySem.Value.none :: PySem.Value.ref (146 : Nat) :: PySem.Value.ref (147 : Nat) :: PySem.Value.ref (148 : Nat) :: PySem.Value.int 424 (0 : Nat) :: PySem.Value.int 96 (0 : Nat) :: PySem.Value.str (PySem.Str.ofString "/claim/cut.py") (425 : Nat) :: [])) }) ::
 (nat_lit 150, { cls := PySem.Value.type "function", data := PySem.Data.func { name := PySem.Str.ofString "trans_codes", qualname := PySem.Str.ofString "trans_codes", params := ?a19, body := PySem.FuncBody.stmts ?b19, scope := ?s19, globals := 3, closure := [], defaults := PySem.Value.none, kwdefaults := PySem.Value.none, pyModule := PySem.Value.str (PySem.Str.ofString "perlcore.trans") (347 : Nat), code := PySem.Value.ref (149 : Nat) } }) ::
 (nat_lit 151, { cls := PySem.Value.type "tuple", data := PySem.Data.seq #[] }) ::
 (nat_lit 153, { cls := PySem.Value.type "tuple", data := PySem.Data.seq #[PySem.Value.str (PySem.Str.ofString "sources") (430 : Nat), PySem.Value.str (PySem.Str.ofString "becomes") (431 : Nat), PySem.Value.str (PySem.Str.ofString "is_deleting") (432 : Nat), PySem.Value.str (PySem.Str.ofString "codes") (433 : Nat), PySem.Value.str (PySem.Str.ofString "place") (434 : Nat), PySem.Value.str (PySem.Str.ofString "code") (435 : Nat)] }) ::
 (nat_lit 154, { cls := PySem.Value.type "tuple", data := PySem.Data.seq #[] }) ::
 (nat_lit 156, { cls := PySem.Value.type "code", data := PySem.Data.fields (List.toArray (PySem.Value.str (PySem.Str.ofString "plain_table") (427 : Nat) :: PySem.Value.str (PySem.Str.ofString "plain_table") (428 : Nat) :: PySem.Value.str (PySem.Str.ofString "/claim/cut.py") (429 : Nat) :: PySem.Value.int 114 (0 : Nat) :: PySem.Value.int 3 (0 : Nat) :: PySem.Value.int 0 (0 : Nat) :: PySem.Value.int 0 (0 : Nat) :: PySem.Value.int 3 (0 : Nat) :: PySem.Value.ref (151 : Nat) :: PySem.Value.bool Bool.true :: PySem.Value.int 181 (0 : Nat) :: PySem.Value.ref (152 : Nat) :: PySem.Value.none :: PySem.Value.ref (153 : Nat) :: PySem.Value.ref (154 : Nat) :: PySem.Value.ref (155 : Nat) :: PySem.Value.int 436 (0 : Nat) :: PySem.Value.int 114 (0 : Nat) :: PySem.Value.str (PySem.Str.ofString "/claim/cut.py") (437 : Nat) :: [])) }) ::
 (nat_lit 157, { cls := PySem.Value.type "function", data := PySem.Data.func { name := PySem.Str.ofString "plain_table", qualname := PySem.Str.ofString "plain_table", params := ?a20, body := PySem.FuncBody.stmts ?b20, scope := ?s20, globals := 3, closure := [], defaults := PySem.Value.none, kwdefaults := PySem.Value.none, pyModule := PySem.Value.str (PySem.Str.ofString "perlcore.trans") (347 : Nat), code := PySem.Value.ref (156 : Nat) } }) ::
 (nat_lit 158, { cls := PySem.Value.type "tuple", data := PySem.Data.seq #[] }) ::
 (nat_lit 160, { cls := PySem.Value.type "tuple", data := PySem.Data.seq #[PySem.Value.str (PySem.Str.ofString "codes") (442 : Nat), PySem.Value.str (PySem.Str.ofString "found") (443 : Nat), PySem.Value.str (PySem.Str.ofString "code") (444 : Nat)] }) ::
 (nat_lit 161, { cls := PySem.Value.type "tuple", data := PySem.Data.seq #[] }) ::
 (nat_lit 163, { cls := PySem.Value.type "code", data := PySem.Data.fields (List.toArray (PySem.Value.str (PySem.Str.ofString "sorted_once") (439 : Nat) :: PySem.Value.str (PySem.Str.ofString "sorted_once") (440 : Nat) :: PySem.Value.str (PySem.Str.ofString "/claim/cut.py") (441 : Nat) :: PySem.Value.int 129 (0 : Nat) :: PySem.Value.int 1 (0 : Nat) :: PySem.Value.int 0 (0 : Nat) :: PySem.Value.int 0 (0 : Nat) :: PySem.Value.int 3 (0 : Nat) :: PySem.Value.ref (158 : Nat) :: PySem.Value.bool Bool.true :: PySem.Value.int 181 (0 : Nat) :: PySem.Value.ref (159 : Nat) :: PySem.Value.none :: PySem.Value.ref (160 : Nat) :: PySem.Value.ref (161 : Nat) :: PySem.Value.ref (162 : Nat) :: PySem.Value.int 445 (0 : Nat) :: PySem.Value.int 129 (0 : Nat) :: PySem.Value.str (PySem.Str.ofString "/claim/cut.py") (446 : Nat) :: [])) }) ::
 (nat_lit 164, { cls := PySem.Value.type "function", data := PySem.Data.func { name := PySem.Str.ofString "sorted_once", qualname := PySem.Str.ofString "sorted_once", params := ?a21, body := PySem.FuncBody.stmts ?b21, scope := ?s21, globals := 3, closure := [], defaults := PySem.Value.none, kwdefaults := PySem.Value.none, pyModule := PySem.Value.str (PySem.Str.ofString "perlcore.trans") (347 : Nat), code := PySem.Value.ref (163 : Nat) } }) ::
 (nat_lit 165, { cls := PySem.Value.type "tuple", data := PySem.Data.seq #[] }) ::
 (nat_lit 167, { cls := PySem.Value.type "tuple", data := PySem.Data.seq #[PySem.Value.str (PySem.Str.ofString "source") (451 : Nat), PySem.Value.str (PySem.Str.ofString "target") (452 : Nat), PySem.Value.str (PySem.Str.ofString "flags") (453 : Nat), PySem.Value.str (PySem.Str.ofString "most") (454 : Nat), PySem.Value.str (PySem.Str.ofString "sources") (455 : Nat), PySem.Value.str (PySem.Str.ofString "becomes") (456 : Nat), PySem.Value.str (PySem.Str.ofString "is_deleting") (457 : Nat)] }) ::
 (nat_lit 168, { cls := PySem.Value.type "tuple", data := PySem.Data.seq #[] }) ::
 (nat_lit 170, { cls := PySem.Value.type "code", data := PySem.Data.fields (List.toArray (PySem.Value.str (PySem.Str.ofString "make_trans") (448 : Nat) :: PySem.Value.str (PySem.Str.ofString "make_trans") (449 : Nat) :: PySem.Value.str (PySem.Str.ofString "/claim/cut.py") (450 : Nat) :: PySem.Value.int 135 (0 : Nat) :: PySem.Value.int 4 (0 : Nat) :: PySem.Value.int 0 (0 : Nat) :: PySem.Value.int 0 (0 : Nat) :: PySem.Value.int 3 (0 : Nat) :: PySem.Value.ref (165 : Nat) :: PySem.Value.bool Bool.true :: PySem.Value.int 181 (0 : Nat) :: PySem.Value.ref (166 : Nat) :: PySem.Value.none :: PySem.Value.ref (167 : Nat) :: PySem.Value.ref (168 : Nat) :: PySem.Value.ref (169 : Nat) :: PySem.Value.int 458 (0 : Nat) :: PySem.Value.int 135 (0 : Nat) :: PySem.Value.str (PySem.Str.ofString "/claim/cut.py") (459 : Nat) :: [])) }) ::
 (nat_lit 171, { cls := PySem.Value.type "function", data := PySem.Data.func { name := PySem.Str.ofString "make_trans", qualname := PySem.Str.ofString "make_trans", params := ?a22, body := PySem.FuncBody.stmts ?b22, scope := ?s22, globals := 3, closure := [], defaults := PySem.Value.none, kwdefaults := PySem.Value.none, pyModule := PySem.Value.str (PySem.Str.ofString "perlcore.trans") (347 : Nat), code := PySem.Value.ref (170 : Nat) } }) ::
 (nat_lit 172, { cls := PySem.Value.type "tuple", data := PySem.Data.seq #[] }) ::
 (nat_lit 174, { cls := PySem.Value.type "tuple", data := PySem.Data.seq #[PySem.Value.str (PySem.Str.ofString "barred") (464 : Nat), PySem.Value.str (PySem.Str.ofString "code") (465 : Nat), PySem.Value.str (PySem.Str.ofString "below") (466 : Nat), PySem.Value.str (PySem.Str.ofString "beyond") (467 : Nat), PySem.Value.str (PySem.Str.ofString "middle") (468 : Nat)] }) ::
 (nat_lit 175, { cls := PySem.Value.type "tuple", data := PySem.Data.seq #[] }) ::
 (nat_lit 177, { cls := PySem.Value.type "code", data := PySem.Data.fields (List.toArray (PySem.Value.str (PySem.Str.ofString "rank_outside") (461 : Nat) :: PySem.Value.str (PySem.Str.ofString "rank_outside") (462 : Nat) :: PySem.Value.str (PySem.Str.ofString "/claim/cut.py") (463 : Nat) :: PySem.Value.int 142 (0 : Nat) :: PySem.Value.int 2 (0 : Nat) :: PySem.Value.int 0 (0 : Nat) :: PySem.Value.int 0 (0 : Nat) :: PySem.Value.int 3 (0 : Nat) :: PySem.Value.ref (172 : Nat) :: PySem.Value.bool Bool.true :: PySem.Value.int 181 (0 : Nat) :: PySem.Value.ref (173 : Nat) :: PySem.Value.none :: PySem.Value.ref (174 : Nat) :: PySem.Value.ref (175 : Nat) :: PySem.Value.ref (176 : Nat) :: PySem.Value.int 469 (0 : Nat) :: PySem.Value.int 142 (0 : Nat) :: PySem.Value.str (PySem.Str.ofString "/claim/cut.py") (470 : Nat) :: [])) }) ::
 (nat_lit 178, { cls := PySem.Value.type "function", data := PySem.Data.func { name := PySem.Str.ofString "rank_outside", qualname := PySem.Str.ofString "rank_outside", params := ?a23, body := PySem.FuncBody.stmts ?b23, scope := ?s23, globals := 3, closure := [], defaults := PySem.Value.none, kwdefaults := PySem.Value.none, pyModule := PySem.Value.str (PySem.Str.ofString "perlcore.trans") (347 : Nat), code := PySem.Value.ref (177 : Nat) } }) ::
 (nat_lit 179, { cls := PySem.Value.type "tuple", data := PySem.Data.seq #[] }) ::
 (nat_lit 181, { cls := PySem.Value.type "tuple", data := PySem.Data.seq #[PySem.Value.str (PySem.Str.ofString "table") (475 : Nat), PySem.Value.str (PySem.Str.ofString "code") (476 : Nat), PySem.Value.str (PySem.Str.ofString "rank") (477 : Nat)] }) ::
 (nat_lit 182, { cls := PySem.Value.type "tuple", data := PySem.Data.seq #[] }) ::
 (nat_lit 184, { cls := PySem.Value.type "code", data := PySem.Data.fields (List.toArray (PySem.Value.str (PySem.Str.ofString "turned_code") (472 : Nat) :: PySem.Value.str (PySem.Str.ofString "turned_code") (473 : Nat) :: PySem.Value.str (PySem.Str.ofString "/claim/cut.py") (474 : Nat) :: PySem.Value.int 153 (0 : Nat) :: PySem.Value.int 2 (0 : Nat) :: PySem.Value.int 0 (0 : Nat) :: PySem.Value.int 0 (0 : Nat) :: PySem.Value.int 3 (0 : Nat) :: PySem.Value.ref (179 : Nat) :: PySem.Value.bool Bool.true :: PySem.Value.int 181 (0 : Nat) :: PySem.Value.ref (180 : Nat) :: PySem.Value.none :: PySem.Value.ref (181 : Nat) :: PySem.Value.ref (182 : Nat) :: PySem.Value.ref (183 : Nat) :: PySem.Value.int 478 (0 : Nat) :: PySem.Value.int 153 (0 : Nat) :: PySem.Value.str (PySem.Str.ofString "/claim/cut.py") (479 : Nat) :: [])) }) ::
 (nat_lit 185, { cls := PySem.Value.type "function", data := PySem.Data.func { name := PySem.Str.ofString "turned_code", qualname := PySem.Str.ofString "turned_code", params := ?a24, body := PySem.FuncBody.stmts ?b24, scope := ?s24, globals := 3, closure := [], defaults := PySem.Value.none, kwdefaults := PySem.Value.none, pyModule := PySem.Value.str (PySem.Str.ofString "perlcore.trans") (347 : Nat), code := PySem.Value.ref (184 : Nat) } }) ::
 (nat_lit 186, { cls := PySem.Value.type "tuple", data := PySem.Data.seq #[] }) ::
 (nat_lit 188, { cls := PySem.Value.type "tuple", data := PySem.Data.seq #[PySem.Value.str (PySem.Str.ofString "table") (484 : Nat), PySem.Value.str (PySem.Str.ofString "code") (485 : Nat)] }) ::
 (nat_lit 189, { cls := PySem.Value.type "tuple", data := PySem.Data.seq #[] }) ::
 (nat_lit 191, { cls := PySem.Value.type "code", data := PySem.Data.fields (List.toArray (PySem.Value.str (PySem.Str.ofString "trans_code") (481 : Nat) :: PySem.Value.str (PySem.Str.ofString "trans_code") (482 : Nat) :: PySem.Value.str (PySem.Str.ofString "/claim/cut.py") (483 : Nat) :: PySem.Value.int 164 (0 : Nat) :: PySem.Value.int 2 (0 : Nat) :: PySem.Value.int 0 (0 : Nat) :: PySem.Value.int 0 (0 : Nat) :: PySem.Value.int 3 (0 : Nat) :: PySem.Value.ref (186 : Nat) :: PySem.Value.bool Bool.true :: PySem.Value.int 181 (0 : Nat) :: PySem.Value.ref (187 : Nat) :: PySem.Value.none :: PySem.Value.ref (188 : Nat) :: PySem.Value.ref (189 : Nat) :: PySem.Value.ref (190 : Nat) :: PySem.Value.int 486 (0 : Nat) :: PySem.Value.int 164 (0 : Nat) :: PySem.Value.str (PySem.Str.ofString "/claim/cut.py") (487 : Nat) :: [])) }) ::
 (nat_lit 192, { cls := PySem.Value.type "function", data := PySem.Data.func { name := PySem.Str.ofString "trans_code", qualname := PySem.Str.ofString "trans_code", params := ?a25, body := PySem.FuncBody.stmts ?b25, scope := ?s25, globals := 3, closure := [], defaults := PySem.Value.none, kwdefaults := PySem.Value.none, pyModule := PySem.Value.str (PySem.Str.ofString "perlcore.trans") (347 : Nat), code := PySem.Value.ref (191 : Nat) } }) ::
 (nat_lit 193, { cls := PySem.Value.type "tuple", data := PySem.Data.seq #[PySem.Value.int 97 (492 : Nat), PySem.Value.bool Bool.false] }) ::
 (nat_lit 194, { cls := PySem.Value.type "list", data := PySem.Data.seq #[PySem.Value.ref (193 : Nat)] }) ::
 (nat_lit 195, { cls := PySem.Value.type "tuple", data := PySem.Data.seq #[PySem.Value.str (PySem.Str.ofString "a") (491 : Nat), PySem.Value.ref (194 : Nat)] }) ::
 (nat_lit 196, { cls := PySem.Value.type "tuple", data := PySem.Data.seq #[PySem.Value.int 45 (494 : Nat), PySem.Value.bool Bool.false] }) ::
 (nat_lit 197, { cls := PySem.Value.type "list", data := PySem.Data.seq #[PySem.Value.ref (196 : Nat)] }) ::
 (nat_lit 198, { cls := PySem.Value.type "tuple", data := PySem.Data.seq #[PySem.Value.str (PySem.Str.ofString "-") (493 : Nat), PySem.Value.ref (197 : Nat)] }) ::
 (nat_lit 199, { cls := PySem.Value.type "tuple", data := PySem.Data.seq #[PySem.Value.int 10 (496 : Nat), PySem.Value.bool Bool.true] }) ::
 (nat_lit 200, { cls := PySem.Value.type "list", data := PySem.Data.seq #[PySem.Value.ref (199 : Nat)] }) ::
 (nat_lit 201, { cls := PySem.Value.type "tuple", data := PySem.Data.seq #[PySem.Value.str (PySem.Str.ofString "\\n") (495 : Nat), PySem.Value.ref (200 : Nat)] }) ::
 (nat_lit 202, { cls := PySem.Value.type "tuple", data := PySem.Data.seq #[PySem.Value.int 13 (498 : Nat), PySem.Value.bool Bool.true] }) ::
 (nat_lit 203, { cls := PySem.Value.type "list", data := PySem.Data.seq #[PySem.Value.ref (202 : Nat)] }) ::
 (nat_lit 204, { cls := PySem.Value.type "tuple", data := PySem.Data.seq #[PySem.Value.str (PySem.Str.ofString "\\r") (497 : Nat), PySem.Value.ref (203 : Nat)] }) ::
 (nat_lit 205, { cls := PySem.Value.type "tuple", data := PySem.Data.seq #[PySem.Value.int 9 (500 : Nat), PySem.Value.bool Bool.true] }) ::
 (nat_lit 206, { cls := PySem.Value.type "list", data := PySem.Data.seq #[PySem.Value.ref (205 : Nat)] }) ::
 (nat_lit 207, { cls := PySem.Value.type "tuple", data := PySem.Data.seq #[PySem.Value.str (PySem.Str.ofString "\\t") (499 : Nat), PySem.Value.ref (206 : Nat)] }) ::
 (nat_lit 208, { cls := PySem.Value.type "tuple", data := PySem.Data.seq #[PySem.Value.int 12 (502 : Nat), PySem.Value.bool Bool.true] }) ::
 (nat_lit 209, { cls := PySem.Value.type "list", data := PySem.Data.seq #[PySem.Value.ref (208 : Nat)] }) ::
 (nat_lit 210, { cls := PySem.Value.type "tuple", data := PySem.Data.seq #[PySem.Value.str (PySem.Str.ofString "\\f") (501 : Nat), PySem.Value.ref (209 : Nat)] }) ::
 (nat_lit 211, { cls := PySem.Value.type "tuple", data := PySem.Data.seq #[PySem.Value.int 27 (504 : Nat), PySem.Value.bool Bool.true] }) ::
 (nat_lit 212, { cls := PySem.Value.type "list", data := PySem.Data.seq #[PySem.Value.ref (211 : Nat)] }) ::
 (nat_lit 213, { cls := PySem.Value.type "tuple", data := PySem.Data.seq #[PySem.Value.str (PySem.Str.ofString "\\e") (503 : Nat), PySem.Value.ref (212 : Nat)] }) ::
 (nat_lit 214, { cls := PySem.Value.type "tuple", data := PySem.Data.seq #[PySem.Value.int 7 (506 : Nat), PySem.Value.bool Bool.true] }) ::
 (nat_lit 215, { cls := PySem.Value.type "list", data := PySem.Data.seq #[PySem.Value.ref (214 : Nat)] }) ::
 (nat_lit 216, { cls := PySem.Value.type "tuple", data := PySem.Data.seq #[PySem.Value.str (PySem.Str.ofString "\\a") (505 : Nat), PySem.Value.ref (215 : Nat)] }) ::
 (nat_lit 217, { cls := PySem.Value.type "tuple", data := PySem.Data.seq #[PySem.Value.int 8 (508 : Nat), PySem.Value.bool Bool.true] }) ::
 (nat_lit 218, { cls := PySem.Value.type "list", data := PySem.Data.seq #[PySem.Value.ref (217 : Nat)] }) ::
 (nat_lit 219, { cls := PySem.Value.type "tuple", data := PySem.Data.seq #[PySem.Value.str (PySem.Str.ofString "\\b") (507 : Nat), PySem.Value.ref (218 : Nat)] }) ::
 (nat_lit 220, { cls := PySem.Value.type "tuple", data := PySem.Data.seq #[PySem.Value.int 0 (510 : Nat), PySem.Value.bool Bool.true] }) ::
 (nat_lit 221, { cls := PySem.Value.type "list", data := PySem.Data.seq #[PySem.Value.ref (220 : Nat)] }) ::
 (nat_lit 222, { cls := PySem.Value.type "tuple", data := PySem.Data.seq #[PySem.Value.str (PySem.Str.ofString "\\000") (509 : Nat), PySem.Value.ref (221 : Nat)] }) ::
 (nat_lit 223, { cls := PySem.Value.type "tuple", data := PySem.Data.seq #[PySem.Value.int 45 (512 : Nat), PySem.Value.bool Bool.true] }) ::
 (nat_lit 224, { cls := PySem.Value.type "list", data := PySem.Data.seq #[PySem.Value.ref (223 : Nat)] }) ::
 (nat_lit 225, { cls := PySem.Value.type "tuple", data := PySem.Data.seq #[PySem.Value.str (PySem.Str.ofString "\\-") (511 : Nat), PySem.Value.ref (224 : Nat)] }) ::
 (nat_lit 226, { cls := PySem.Value.type "tuple", data := PySem.Data.seq #[PySem.Value.int 92 (514 : Nat), PySem.Value.bool Bool.true] }) ::
 (nat_lit 227, { cls := PySem.Value.type "list", data := PySem.Data.seq #[PySem.Value.ref (226 : Nat)] }) ::
 (nat_lit 228, { cls := PySem.Value.type "tuple", data := PySem.Data.seq #[PySem.Value.str (PySem.Str.ofString "\\\\") (513 : Nat), PySem.Value.ref (227 : Nat)] }) ::
 (nat_lit 229, { cls := PySem.Value.type "tuple", data := PySem.Data.seq #[PySem.Value.int 122 (516 : Nat), PySem.Value.bool Bool.true] }) ::
 (nat_lit 230, { cls := PySem.Value.type "list", data := PySem.Data.seq #[PySem.Value.ref (229 : Nat)] }) ::
 (nat_lit 231, { cls := PySem.Value.type "tuple", data := PySem.Data.seq #[PySem.Value.str (PySem.Str.ofString "\\z") (515 : Nat), PySem.Value.ref (230 : Nat)] }) ::
 (nat_lit 232, { cls := PySem.Value.type "tuple", data := PySem.Data.seq #[PySem.Value.int 100 (518 : Nat), PySem.Value.bool Bool.false] }) ::
 (nat_lit 233, { cls := PySem.Value.type "list", data := PySem.Data.seq #[PySem.Value.ref (232 : Nat)] }) ::
 (nat_lit 234, { cls := PySem.Value.type "tuple", data := PySem.Data.seq #[PySem.Value.str (PySem.Str.ofString "d") (517 : Nat), PySem.Value.ref (233 : Nat)] }) ::
 (nat_lit 235, { cls := PySem.Value.type "tuple", data := PySem.Data.seq #[PySem.Value.int 99 (520 : Nat), PySem.Value.bool Bool.false] }) ::
 (nat_lit 236, { cls := PySem.Value.type "tuple", data := PySem.Data.seq #[PySem.Value.int 45 (521 : Nat), PySem.Value.bool Bool.false] }) ::
 (nat_lit 237, { cls := PySem.Value.type "tuple", data := PySem.Data.seq #[PySem.Value.int 102 (522 : Nat), PySem.Value.bool Bool.false] }) ::
 (nat_lit 238, { cls := PySem.Value.type "list", data := PySem.Data.seq #[PySem.Value.ref (235 : Nat), PySem.Value.ref (236 : Nat), PySem.Value.ref (237 : Nat)] }) ::
 (nat_lit 239, { cls := PySem.Value.type "tuple", data := PySem.Data.seq #[PySem.Value.str (PySem.Str.ofString "c-f") (519 : Nat), PySem.Value.ref (238 : Nat)] }) ::
 (nat_lit 240, { cls := PySem.Value.type "tuple", data := PySem.Data.seq #[PySem.Value.int 9 (524 : Nat), PySem.Value.bool Bool.true] }) ::
 (nat_lit 241, { cls := PySem.Value.type "tuple", data := PySem.Data.seq #[PySem.Value.int 45 (525 : Nat), PySem.Value.bool Bool.false] }) ::
 (nat_lit 242, { cls := PySem.Value.type "tuple", data := PySem.Data.seq #[PySem.Value.int 13 (526 : Nat), PySem.Value.bool Bool.true] }) ::
 (nat_lit 243, { cls := PySem.Value.type "list", data := PySem.Data.seq #[PySem.Value.ref (240 : Nat), PySem.Value.ref (241 : Nat), PySem.Value.ref (242 : Nat)] }) ::
 (nat_lit 244, { cls := PySem.Value.type "tuple", data := PySem.Data.seq #[PySem.Value.str (PySem.Str.ofString "\\t-\\r") (523 : Nat), PySem.Value.ref (243 : Nat)] }) ::
 (nat_lit 245, { cls := PySem.Value.type "tuple", data := PySem.Data.seq #[PySem.Value.int 102 (528 : Nat), PySem.Value.bool Bool.false] }) ::
 (nat_lit 246, { cls := PySem.Value.type "tuple", data := PySem.Data.seq #[PySem.Value.int 45 (529 : Nat), PySem.Value.bool Bool.false] }) ::
 (nat_lit 247, { cls := PySem.Value.type "tuple", data := PySem.Data.seq #[PySem.Value.int 99 (530 : Nat), PySem.Value.bool Bool.false] }) ::
 (nat_lit 248, { cls := PySem.Value.type "list", data := PySem.Data.seq #[PySem.Value.ref (245 : Nat), PySem.Value.ref (246 : Nat), PySem.Value.ref (247 : Nat)] }) ::
 (nat_lit 249, { cls := PySem.Value.type "tuple", data := PySem.Data.seq #[PySem.Value.str (PySem.Str.ofString "f-c") (527 : Nat), PySem.Value.ref (248 : Nat)] }) ::
 (nat_lit 250, { cls := PySem.Value.type "tuple", data := PySem.Data.seq #[PySem.Value.int 53 (532 : Nat), PySem.Value.bool Bool.false] }) ::
 (nat_lit 251, { cls := PySem.Value.type "list", data := PySem.Data.seq #[PySem.Value.ref (250 : Nat)] }) ::
 (nat_lit 252, { cls := PySem.Value.type "tuple", data := PySem.Data.seq #[PySem.Value.str (PySem.Str.ofString "5") (531 : Nat), PySem.Value.ref (251 : Nat)] }) ::
 (nat_lit 253, { cls := PySem.Value.type "list", data := PySem.Data.seq #[] }) ::
 (nat_lit 254, { cls := PySem.Value.type "tuple", data := PySem.Data.seq #[PySem.Value.str (PySem.Str.ofString "") (533 : Nat), PySem.Value.ref (253 : Nat)] }) ::
 (nat_lit 255, { cls := PySem.Value.type "tuple", data := PySem.Data.seq #[PySem.Value.int 98 (535 : Nat), PySem.Value.bool Bool.false] }) ::
 (nat_lit 256, { cls := PySem.Value.type "tuple", data := PySem.Data.seq #[PySem.Value.int 45 (536 : Nat), PySem.Value.bool Bool.true] }) ::
 (nat_lit 257, { cls := PySem.Value.type "tuple", data := PySem.Data.seq #[PySem.Value.int 100 (537 : Nat), PySem.Value.bool Bool.false] }) ::
 (nat_lit 258, { cls := PySem.Value.type "list", data := PySem.Data.seq #[PySem.Value.ref (255 : Nat), PySem.Value.ref (256 : Nat), PySem.Value.ref (257 : Nat)] }) ::
 (nat_lit 259, { cls := PySem.Value.type "tuple", data := PySem.Data.seq #[PySem.Value.str (PySem.Str.ofString "b\\-d") (534 : Nat), PySem.Value.ref (258 : Nat)] }) ::
 (nat_lit 260, { cls := PySem.Value.type "tuple", data := PySem.Data.seq (List.toArray (PySem.Value.ref (195 : Nat) :: PySem.Value.ref (198 : Nat) :: PySem.Value.ref (201 : Nat) :: PySem.Value.ref (204 : Nat) :: PySem.Value.ref (207 : Nat) :: PySem.Value.ref (210 : Nat) :: PySem.Value.ref (213 : Nat) :: PySem.Value.ref (216 : Nat) :: PySem.Value.ref (219 : Nat) :: PySem.Value.ref (222 : Nat) :: PySem.Value.ref (225 : Nat) :: PySem.Value.ref (228 : Nat) :: PySem.Value.ref (231 : Nat) :: PySem.Value.ref (234 : Nat) :: PySem.Value.ref (239 : Nat) :: PySem.Value.ref (244 : Nat) :: PySem.Value.ref (249 : Nat) :: PySem.Value.ref (252 : Nat) :: PySem.Value.ref (254 : Nat) :: PySem.Value.ref (259 : Nat) :: [])) }) ::
 (nat_lit 261, { cls := PySem.Value.type "tuple", data := PySem.Data.seq #[] }) ::
 (nat_lit 263, { cls := PySem.Value.type "tuple", data := PySem.Data.seq #[PySem.Value.str (PySem.Str.ofString "trough") (542 : Nat), PySem.Value.str (PySem.Str.ofString "many") (543 : Nat), PySem.Value.str (PySem.Str.ofString "spot") (544 : Nat)] }) ::
 (nat_lit 264, { cls := PySem.Value.type "tuple", data := PySem.Data.seq #[] }) ::
 (nat_lit 266, { cls := PySem.Value.type "code", data := PySem.Data.fields (List.toArray (PySem.Value.str (PySem.Str.ofString "_law_feed") (539 : Nat) :: PySem.Value.str (PySem.Str.ofString "_law_feed") (540 : Nat) :: PySem.Value.str (PySem.Str.ofString "/claim/cut.py") (541 : Nat) :: PySem.Value.int 170 (0 : Nat) :: PySem.Value.int 2 (0 : Nat) :: PySem.Value.int 0 (0 : Nat) :: PySem.Value.int 0 (0 : Nat) :: PySem.Value.int 3 (0 : Nat) :: PySem.Value.ref (261 : Nat) :: PySem.Value.bool Bool.true :: PySem.Value.int 181 (0 : Nat) :: PySem.Value.ref (262 : Nat) :: PySem.Value.none :: PySem.Value.ref (263 : Nat) :: PySem.Value.ref (264 : Nat) :: PySem.Value.ref (265 : Nat) :: PySem.Value.int 545 (0 : Nat) :: PySem.Value.int 170 (0 : Nat) :: PySem.Value.str (PySem.Str.ofString "/claim/cut.py") (546 : Nat) :: [])) }) ::
 (nat_lit 267, { cls := PySem.Value.type "function", data := PySem.Data.func { name := PySem.Str.ofString "_law_feed", qualname := PySem.Str.ofString "_law_feed", params := ?a28, body := PySem.FuncBody.stmts ?b28, scope := ?s28, globals := 3, closure := [], defaults := PySem.Value.none, kwdefaults := PySem.Value.none, pyModule := PySem.Value.str (PySem.Str.ofString "law_qd0140_01") (489 : Nat), code := PySem.Value.ref (266 : Nat) } }) ::
 (nat_lit 268, { cls := PySem.Value.type "tuple", data := PySem.Data.seq #[] }) ::
 (nat_lit 270, { cls := PySem.Value.type "tuple", data := PySem.Data.seq #[PySem.Value.str (PySem.Str.ofString "trough") (551 : Nat), PySem.Value.str (PySem.Str.ofString "text") (552 : Nat), PySem.Value.str (PySem.Str.ofString "signs") (553 : Nat), PySem.Value.str (PySem.Str.ofString "turn") (554 : Nat), PySem.Value.str (PySem.Str.ofString "part") (555 : Nat), PySem.Value.str (PySem.Str.ofString "pairs") (556 : Nat)] }) ::
 (nat_lit 271, { cls := PySem.Value.type "tuple", data := PySem.Data.seq #[] }) ::
 (nat_lit 273, { cls := PySem.Value.type "code", data := PySem.Data.fields (List.toArray (PySem.Value.str (PySem.Str.ofString "_law_list") (548 : Nat) :: PySem.Value.str (PySem.Str.ofString "_law_list") (549 : Nat) :: PySem.Value.str (PySem.Str.ofString "/claim/cut.py") (550 : Nat) :: PySem.Value.int 176 (0 : Nat) :: PySem.Value.int 1 (0 : Nat) :: PySem.Value.int 0 (0 : Nat) :: PySem.Value.int 0 (0 : Nat) :: PySem.Value.int 3 (0 : Nat) :: PySem.Value.ref (268 : Nat) :: PySem.Value.bool Bool.true :: PySem.Value.int 181 (0 : Nat) :: PySem.Value.ref (269 : Nat) :: PySem.Value.none :: PySem.Value.ref (270 : Nat) :: PySem.Value.ref (271 : Nat) :: PySem.Value.ref (272 : Nat) :: PySem.Value.int 557 (0 : Nat) :: PySem.Value.int 176 (0 : Nat) :: PySem.Value.str (PySem.Str.ofString "/claim/cut.py") (558 : Nat) :: [])) }) ::
 (nat_lit 274, { cls := PySem.Value.type "function", data := PySem.Data.func { name := PySem.Str.ofString "_law_list", qualname := PySem.Str.ofString "_law_list", params := ?a29, body := PySem.FuncBody.stmts ?b29, scope := ?s29, globals := 3, closure := [], defaults := PySem.Value.none, kwdefaults := PySem.Value.none, pyModule := PySem.Value.str (PySem.Str.ofString "law_qd0140_01") (489 : Nat), code := PySem.Value.ref (273 : Nat) } }) ::
 (nat_lit 275, { cls := PySem.Value.type "tuple", data := PySem.Data.seq #[] }) ::
 (nat_lit 277, { cls := PySem.Value.type "tuple", data := PySem.Data.seq #[PySem.Value.str (PySem.Str.ofString "signs") (563 : Nat), PySem.Value.str (PySem.Str.ofString "most") (564 : Nat), PySem.Value.str (PySem.Str.ofString "found") (565 : Nat), PySem.Value.str (PySem.Str.ofString "left") (566 : Nat), PySem.Value.str (PySem.Str.ofString "first") (567 : Nat), PySem.Value.str (PySem.Str.ofString "last") (568 : Nat)] }) ::
 (nat_lit 278, { cls := PySem.Value.type "tuple", data := PySem.Data.seq #[] }) ::
 (nat_lit 280, { cls := PySem.Value.type "code", data := PySem.Data.fields (List.toArray (PySem.Value.str (PySem.Str.ofString "_law_codes") (560 : Nat) :: PySem.Value.str (PySem.Str.ofString "_law_codes") (561 : Nat) :: PySem.Value.str (PySem.Str.ofString "/claim/cut.py") (562 : Nat) :: PySem.Value.int 184 (0 : Nat) :: PySem.Value.int 2 (0 : Nat) :: PySem.Value.int 0 (0 : Nat) :: PySem.Value.int 0 (0 : Nat) :: PySem.Value.int 3 (0 : Nat) :: PySem.Value.ref (275 : Nat) :: PySem.Value.bool Bool.true :: PySem.Value.int 181 (0 : Nat) :: PySem.Value.ref (276 : Nat) :: PySem.Value.none :: PySem.Value.ref (277 : Nat) :: PySem.Value.ref (278 : Nat) :: PySem.Value.ref (279 : Nat) :: PySem.Value.int 569 (0 : Nat) :: PySem.Value.int 184 (0 : Nat) :: PySem.Value.str (PySem.Str.ofString "/claim/cut.py") (570 : Nat) :: [])) }) ::
 (nat_lit 281, { cls := PySem.Value.type "function", data := PySem.Data.func { name := PySem.Str.ofString "_law_codes", qualname := PySem.Str.ofString "_law_codes", params := ?a30, body := PySem.FuncBody.stmts ?b30, scope := ?s30, globals := 3, closure := [], defaults := PySem.Value.none, kwdefaults := PySem.Value.none, pyModule := PySem.Value.str (PySem.Str.ofString "law_qd0140_01") (489 : Nat), code := PySem.Value.ref (280 : Nat) } }) ::
 (nat_lit 282, { cls := PySem.Value.type "tuple", data := PySem.Data.seq #[] }) ::
 (nat_lit 284, { cls := PySem.Value.type "tuple", data := PySem.Data.seq #[PySem.Value.str (PySem.Str.ofString "text") (575 : Nat), PySem.Value.str (PySem.Str.ofString "most") (576 : Nat)] }) ::
 (nat_lit 285, { cls := PySem.Value.type "tuple", data := PySem.Data.seq #[] }) ::
 (nat_lit 287, { cls := PySem.Value.type "code", data := PySem.Data.fields (List.toArray (PySem.Value.str (PySem.Str.ofString "_law_laid") (572 : Nat) :: PySem.Value.str (PySem.Str.ofString "_law_laid") (573 : Nat) :: PySem.Value.str (PySem.Str.ofString "/claim/cut.py") (574 : Nat) :: PySem.Value.int 198 (0 : Nat) :: PySem.Value.int 2 (0 : Nat) :: PySem.Value.int 0 (0 : Nat) :: PySem.Value.int 0 (0 : Nat) :: PySem.Value.int 3 (0 : Nat) :: PySem.Value.ref (282 : Nat) :: PySem.Value.bool Bool.true :: PySem.Value.int 181 (0 : Nat) :: PySem.Value.ref (283 : Nat) :: PySem.Value.none :: PySem.Value.ref (284 : Nat) :: PySem.Value.ref (285 : Nat) :: PySem.Value.ref (286 : Nat) :: PySem.Value.int 577 (0 : Nat) :: PySem.Value.int 198 (0 : Nat) :: PySem.Value.str (PySem.Str.ofString "/claim/cut.py") (578 : Nat) :: [])) }) ::
 (nat_lit 288, { cls := PySem.Value.type "function", data := PySem.Data.func { name := PySem.Str.ofString "_law_laid", qualname := PySem.Str.ofString "_law_laid", params := ?a31, body := PySem.FuncBody.stmts ?b31, scope := ?s31, globals := 3, closure := [], defaults := PySem.Value.none, kwdefaults := PySem.Value.none, pyModule := PySem.Value.str (PySem.Str.ofString "law_qd0140_01") (489 : Nat), code := PySem.Value.ref (287 : Nat) } }) ::
 (nat_lit 289, { cls := PySem.Value.type "tuple", data := PySem.Data.seq #[] }) ::
 (nat_lit 291, { cls := PySem.Value.type "tuple", data := PySem.Data.seq #[PySem.Value.str (PySem.Str.ofString "source") (583 : Nat), PySem.Value.str (PySem.Str.ofString "target") (584 : Nat), PySem.Value.str (PySem.Str.ofString "flags") (585 : Nat), PySem.Value.str (PySem.Str.ofString "most") (586 : Nat)] }) ::
 (nat_lit 292, { cls := PySem.Value.type "tuple", data := PySem.Data.seq #[] }) ::
 (nat_lit 294, { cls := PySem.Value.type "code", data := PySem.Data.fields (List.toArray (PySem.Value.str (PySem.Str.ofString "_law_table") (580 : Nat) :: PySem.Value.str (PySem.Str.ofString "_law_table") (581 : Nat) :: PySem.Value.str (PySem.Str.ofString "/claim/cut.py") (582 : Nat) :: PySem.Value.int 203 (0 : Nat) :: PySem.Value.int 4 (0 : Nat) :: PySem.Value.int 0 (0 : Nat) :: PySem.Value.int 0 (0 : Nat) :: PySem.Value.int 3 (0 : Nat) :: PySem.Value.ref (289 : Nat) :: PySem.Value.bool Bool.true :: PySem.Value.int 181 (0 : Nat) :: PySem.Value.ref (290 : Nat) :: PySem.Value.none :: PySem.Value.ref (291 : Nat) :: PySem.Value.ref (292 : Nat) :: PySem.Value.ref (293 : Nat) :: PySem.Value.int 587 (0 : Nat) :: PySem.Value.int 203 (0 : Nat) :: PySem.Value.str (PySem.Str.ofString "/claim/cut.py") (588 : Nat) :: [])) }) ::
 (nat_lit 295, { cls := PySem.Value.type "function", data := PySem.Data.func { name := PySem.Str.ofString "_law_table", qualname := PySem.Str.ofString "_law_table", params := ?a32, body := PySem.FuncBody.stmts ?b32, scope := ?s32, globals := 3, closure := [], defaults := PySem.Value.none, kwdefaults := PySem.Value.none, pyModule := PySem.Value.str (PySem.Str.ofString "law_qd0140_01") (489 : Nat), code := PySem.Value.ref (294 : Nat) } }) ::
 (nat_lit 296, { cls := PySem.Value.type "tuple", data := PySem.Data.seq #[] }) ::
 (nat_lit 298, { cls := PySem.Value.type "tuple", data := PySem.Data.seq #[PySem.Value.str (PySem.Str.ofString "place") (593 : Nat), PySem.Value.str (PySem.Str.ofString "becomes") (594 : Nat), PySem.Value.str (PySem.Str.ofString "is_deleting") (595 : Nat), PySem.Value.str (PySem.Str.ofString "code") (596 : Nat)] }) ::
 (nat_lit 299, { cls := PySem.Value.type "tuple", data := PySem.Data.seq #[] }) ::
 (nat_lit 301, { cls := PySem.Value.type "code", data := PySem.Data.fields (List.toArray (PySem.Value.str (PySem.Str.ofString "_law_end") (590 : Nat) :: PySem.Value.str (PySem.Str.ofString "_law_end") (591 : Nat) :: PySem.Value.str (PySem.Str.ofString "/claim/cut.py") (592 : Nat) :: PySem.Value.int 208 (0 : Nat) :: PySem.Value.int 4 (0 : Nat) :: PySem.Value.int 0 (0 : Nat) :: PySem.Value.int 0 (0 : Nat) :: PySem.Value.int 3 (0 : Nat) :: PySem.Value.ref (296 : Nat) :: PySem.Value.bool Bool.true :: PySem.Value.int 181 (0 : Nat) :: PySem.Value.ref (297 : Nat) :: PySem.Value.none :: PySem.Value.ref (298 : Nat) :: PySem.Value.ref (299 : Nat) :: PySem.Value.ref (300 : Nat) :: PySem.Value.int 597 (0 : Nat) :: PySem.Value.int 208 (0 : Nat) :: PySem.Value.str (PySem.Str.ofString "/claim/cut.py") (598 : Nat) :: [])) }) ::
 (nat_lit 302, { cls := PySem.Value.type "function", data := PySem.Data.func { name := PySem.Str.ofString "_law_end", qualname := PySem.Str.ofString "_law_end", params := ?a33, body := PySem.FuncBody.stmts ?b33, scope := ?s33, globals := 3, closure := [], defaults := PySem.Value.none, kwdefaults := PySem.Value.none, pyModule := PySem.Value.str (PySem.Str.ofString "law_qd0140_01") (489 : Nat), code := PySem.Value.ref (301 : Nat) } }) ::
 (nat_lit 303, { cls := PySem.Value.type "tuple", data := PySem.Data.seq #[] }) ::
 (nat_lit 305, { cls := PySem.Value.type "tuple", data := PySem.Data.seq #[PySem.Value.str (PySem.Str.ofString "barred") (603 : Nat), PySem.Value.str (PySem.Str.ofString "code") (604 : Nat), PySem.Value.str (PySem.Str.ofString "count") (605 : Nat), PySem.Value.str (PySem.Str.ofString "one") (606 : Nat)] }) ::
 (nat_lit 306, { cls := PySem.Value.type "tuple", data := PySem.Data.seq #[] }) ::
 (nat_lit 308, { cls := PySem.Value.type "code", data := PySem.Data.fields (List.toArray (PySem.Value.str (PySem.Str.ofString "_law_rank") (600 : Nat) :: PySem.Value.str (PySem.Str.ofString "_law_rank") (601 : Nat) :: PySem.Value.str (PySem.Str.ofString "/claim/cut.py") (602 : Nat) :: PySem.Value.int 214 (0 : Nat) :: PySem.Value.int 2 (0 : Nat) :: PySem.Value.int 0 (0 : Nat) :: PySem.Value.int 0 (0 : Nat) :: PySem.Value.int 3 (0 : Nat) :: PySem.Value.ref (303 : Nat) :: PySem.Value.bool Bool.true :: PySem.Value.int 181 (0 : Nat) :: PySem.Value.ref (304 : Nat) :: PySem.Value.none :: PySem.Value.ref (305 : Nat) :: PySem.Value.ref (306 : Nat) :: PySem.Value.ref (307 : Nat) :: PySem.Value.int 607 (0 : Nat) :: PySem.Value.int 214 (0 : Nat) :: PySem.Value.str (PySem.Str.ofString "/claim/cut.py") (608 : Nat) :: [])) }) ::
 (nat_lit 309, { cls := PySem.Value.type "function", data := PySem.Data.func { name := PySem.Str.ofString "_law_rank", qualname := PySem.Str.ofString "_law_rank", params := ?a34, body := PySem.FuncBody.stmts ?b34, scope := ?s34, globals := 3, closure := [], defaults := PySem.Value.none, kwdefaults := PySem.Value.none, pyModule := PySem.Value.str (PySem.Str.ofString "law_qd0140_01") (489 : Nat), code := PySem.Value.ref (308 : Nat) } }) ::
 (nat_lit 310, { cls := PySem.Value.type "tuple", data := PySem.Data.seq #[] }) ::
 (nat_lit 313, { cls := PySem.Value.type "code", data := PySem.Data.fields (List.toArray (PySem.Value.str (PySem.Str.ofString "law") (610 : Nat) :: PySem.Value.str (PySem.Str.ofString "law") (611 : Nat) :: PySem.Value.str (PySem.Str.ofString "/claim/cut.py") (612 : Nat) :: PySem.Value.int 220 (0 : Nat) :: PySem.Value.int 1 (0 : Nat) :: PySem.Value.int 0 (0 : Nat) :: PySem.Value.int 0 (0 : Nat) :: PySem.Value.int 3 (0 : Nat) :: PySem.Value.ref (310 : Nat) :: PySem.Value.bool Bool.true :: PySem.Value.int 181 (0 : Nat) :: PySem.Value.ref (311 : Nat) :: PySem.Value.none :: PySem.Value.none :: PySem.Value.none :: PySem.Value.ref (312 : Nat) :: PySem.Value.int 613 (0 : Nat) :: PySem.Value.int 220 (0 : Nat) :: PySem.Value.str (PySem.Str.ofString "/claim/cut.py") (614 : Nat) :: [])) }) ::
 (nat_lit 314, { cls := PySem.Value.type "function", data := PySem.Data.func { name := PySem.Str.ofString "law", qualname := PySem.Str.ofString "law", params := ?a35, body := PySem.FuncBody.stmts ?b35, scope := ?s35, globals := 3, closure := [], defaults := PySem.Value.none, kwdefaults := PySem.Value.none, pyModule := PySem.Value.str (PySem.Str.ofString "law_qd0140_01") (489 : Nat), code := PySem.Value.ref (313 : Nat) } }) :: []) : List (Nat × Obj))
noncomputable def view_39 : Program := by
  refine (?f : (PySem.Challenge.pw_qd0140_01.main.body = (?t0 ::
 ?t1 ::
 ?t2 ::
 ?t3 ::
 ?t4 ::
 ?t5 ::
 ?t6 ::
 ?t7 ::
 ?t8 ::
 ?t9 ::
 ?t10 ::
 ?t11 ::
 ?t12 ::
 ?t13 ::
 ?t14 ::
 ?t15 ::
 ?t16 ::
 ?t17 ::
 ?t18 ::
 ?t19 ::
 ?t20 ::
 ?t21 ::
 ?t22 ::
 ?t23 ::
 ?t24 ::
 ?t25 ::
 ?t26 ::
 ?t27 ::
 ?t28 ::
 ?t29 ::
 ?t30 ::
 ?t31 ::
 ?t32 ::
 ?t33 ::
 ?t34 ::
 ?t35 :: [])) → Program) ?h
  case h => exact rfl
  case f =>
    exact fun _ => { PySem.Challenge.pw_qd0140_01 with main := { PySem.Challenge.pw_qd0140_01.main with body := (?t1 ::
 ?t2 ::
 ?t3 ::
 ?t5 ::
 ?t6 ::
 ?t7 ::
 ?t8 ::
 ?t9 ::
 ?t10 ::
 ?t11 ::
 ?t12 ::
 ?t14 ::
 ?t15 ::
 ?t16 ::
 ?t17 ::
 ?t18 ::
 ?t19 ::
 ?t20 ::
 ?t21 ::
 ?t22 ::
 ?t23 ::
 ?t24 ::
 ?t25 ::
 ?t27 ::
 ?t28 ::
 ?t29 ::
 ?t30 ::
 ?t31 ::
 ?t32 ::
 ?t33 ::
 ?t34 ::
 ?t35 :: []) } }
end hd
namespace Mine
noncomputable def hAs : List Nat := [2, 3, 15, 22, 24, 25, 27, 28, 29, 30, 31, 32, 35, 42, 44, 45, 47, 48, 49, 50, 51, 54, 61, 63, 64, 66, 67, 68, 69, 70, 73, 74, 76, 77, 79, 80, 81, 83, 84, 86, 87, 88, 90, 91, 93, 94, 95, 97, 98, 100, 101, 102, 104, 105, 107, 108, 116, 118, 119, 121, 122, 123, 124, 125, 126, 127, 130, 132, 133, 135, 136, 137, 139, 140, 142, 143, 144, 146, 147, 149, 150, 151, 153, 154, 156, 157, 158, 160, 161, 163, 164, 165, 167, 168, 170, 171, 172, 174, 175, 177, 178, 179, 181, 182, 184, 185, 186, 188, 189, 191, 192, 193, 194, 195, 196, 197, 198, 199, 200, 201, 202, 203, 204, 205, 206, 207, 208, 209, 210, 211, 212, 213, 214, 215, 216, 217, 218, 219, 220, 221, 222, 223, 224, 225, 226, 227, 228, 229, 230, 231, 232, 233, 234, 235, 236, 237, 238, 239, 240, 241, 242, 243, 244, 245, 246, 247, 248, 249, 250, 251, 252, 253, 254, 255, 256, 257, 258, 259, 260, 261, 263, 264, 266, 267, 268, 270, 271, 273, 274, 275, 277, 278, 280, 281, 282, 284, 285, 287, 288, 289, 291, 292, 294, 295, 296, 298, 299, 301, 302, 303, 305, 306, 308, 309, 310, 313, 314]
theorem hAs_of : ∀ P : Params, hAs = (hd.heap_39 P).map (·.1) := fun P => Eq.refl _
noncomputable def hHook : Hook := kHook hd.heap_39 hAs hAs_of
noncomputable def hLoose : List Str := [Str.ofString "SHORT_ESCAPES", Str.ofString "_law_parts"]
noncomputable def hRow : RowW := OpenRow.toRowW PySem.Challenge.rw_qd0140_01.row
noncomputable def hXt (s : Shared) : Bool := xlAt hd.view_39 [] s && recOk (RowW.records hRow) s
noncomputable def hYf (s : Shared) : List (Option Obj) := hAs.map s.heap.get?
noncomputable def hYa (w : World) : List (Option Obj) := (hd.heap_39 w.params).map fun p => some p.2
end Mine
namespace Mine.Hp
noncomputable def sv (s : String) (t : Nat) : Value := .str (Str.ofString s) t
noncomputable def de (P : Params) (k : String) (t : Nat) (v : Value) : DictEntry := ⟨PyData.keyHash P (Str.ofString k), .str (Str.ofString k) t, v⟩
noncomputable def pick (P : Params) (n : Nat) : Obj := ((hd.heap_39 P).lookup n).getD default
noncomputable def bare (o : Obj) : Obj := match o.data with
  | .func f => { cls := .none, data := .func { name := f.name, qualname := f.qualname, params := f.params, body := f.body, scope := f.scope, globals := 0, closure := [], defaults := .none, kwdefaults := .none } }
  | _ => default
noncomputable def subs (o : Obj) (l : List Value) : Obj := match o.data with
  | .cls c => { o with data := .cls { c with subclasses := l } }
  | _ => o
noncomputable def o0 (P : Params) : Obj := boot_o_0 P
noncomputable def o1 (P : Params) : Obj := boot_o_1 P
noncomputable def o2 (P : Params) : Obj := pick P 2
noncomputable def o3 (P : Params) : Obj := pick P 3
noncomputable def o4 (P : Params) : Obj := boot_o_4 P
noncomputable def o5 (P : Params) : Obj := boot_o_5 P
noncomputable def o6 (P : Params) : Obj := boot_o_6 P
noncomputable def o7 (P : Params) : Obj := boot_o_7 P
noncomputable def o8 (P : Params) : Obj := boot_o_8 P
noncomputable def o9 (P : Params) : Obj := boot_o_9 P
noncomputable def o10 (P : Params) : Obj := boot_o_10 P
noncomputable def o11 (P : Params) : Obj := ⟨.type "tuple", none, (.seq (List.toArray ([])) 0), List.toArray ([])⟩
noncomputable def o12 (P : Params) : Obj := ⟨.none, none, (.fields (List.toArray (.int 2 0 :: .int 0 0 :: .ref 20 :: .int 7 0 :: .int 0 0 :: .ref 40 :: .int 12 0 :: .int 0 0 :: .ref 59 :: .int 21 0 :: .int 0 0 :: .ref 79 :: .int 31 0 :: .int 0 0 :: .ref 86 :: .int 35 0 :: .int 0 0 :: .ref 93 :: .int 41 0 :: .int 0 0 :: .ref 100 :: .int 64 0 :: .int 0 0 :: .ref 107 :: .int 71 0 :: .int 0 0 :: .ref 114 :: .int 80 0 :: .int 0 0 :: .ref 135 :: .int 85 0 :: .int 0 0 :: .ref 142 :: .int 96 0 :: .int 0 0 :: .ref 149 :: .int 114 0 :: .int 0 0 :: .ref 156 :: .int 129 0 :: .int 0 0 :: .ref 163 :: .int 135 0 :: .int 0 0 :: .ref 170 :: .int 142 0 :: .int 0 0 :: .ref 177 :: .int 153 0 :: .int 0 0 :: .ref 184 :: .int 164 0 :: .int 0 0 :: .ref 191 :: .int 170 0 :: .int 0 0 :: .ref 266 :: .int 176 0 :: .int 0 0 :: .ref 273 :: .int 184 0 :: .int 0 0 :: .ref 280 :: .int 198 0 :: .int 0 0 :: .ref 287 :: .int 203 0 :: .int 0 0 :: .ref 294 :: .int 208 0 :: .int 0 0 :: .ref 301 :: .int 214 0 :: .int 0 0 :: .ref 308 :: .int 220 0 :: .int 0 0 :: .ref 313 :: []))), List.toArray ([])⟩
noncomputable def o13 (P : Params) : Obj := ⟨.type "code", none, (.fields (List.toArray (sv "<module>" 182 :: sv "<module>" 183 :: sv "/claim/cut.py" 184 :: .int 1 0 :: .int 0 0 :: .int 0 0 :: .int 0 0 :: .int 0 0 :: .ref 11 :: .bool false :: .int 181 0 :: .ref 12 :: .none :: .none :: .none :: .none :: .int 185 0 :: .int 1 0 :: sv "/claim/cut.py" 186 :: []))), List.toArray ([])⟩
noncomputable def o14 (P : Params) : Obj := ⟨.type "frame", none, .plain, List.toArray (some (.ref 13) :: some (.ref 3) :: some (.ref 3) :: none :: some (sv "__main__" 164) :: none :: some (.ref 0) :: [])⟩
noncomputable def o15 (P : Params) : Obj := pick P 15
noncomputable def o16 (P : Params) : Obj := ⟨.type "builtin_function_or_method", none, (.fields (List.toArray (.builtin "type.__prepare__" :: .type "type" :: []))), List.toArray ([])⟩
noncomputable def o17 (P : Params) : Obj := ⟨.type "dict", none, (.dict (List.toArray (de P "__module__" 196 (sv "perlcore.errors" 187) :: de P "__qualname__" 198 (sv "PerlError" 197) :: de P "__firstlineno__" 200 (.int 2 199) :: de P "__init__" 208 (.ref 28) :: de P "__static_attri\x62utes__" 210 (.ref 29) :: [])) 5), List.toArray ([])⟩
noncomputable def o18 (P : Params) : Obj := ⟨.type "tuple", none, (.seq (List.toArray ([])) 0), List.toArray ([])⟩
noncomputable def o19 (P : Params) : Obj := ⟨.none, none, (.fields (List.toArray (.int 4 0 :: .int 4 0 :: .ref 27 :: []))), List.toArray ([])⟩
noncomputable def o20 (P : Params) : Obj := ⟨.type "code", none, (.fields (List.toArray (sv "PerlError" 191 :: sv "PerlError" 192 :: sv "/claim/cut.py" 193 :: .int 2 0 :: .int 0 0 :: .int 0 0 :: .int 0 0 :: .int 0 0 :: .ref 18 :: .bool false :: .int 181 0 :: .ref 19 :: .none :: .none :: .none :: .none :: .int 194 0 :: .int 2 0 :: sv "/claim/cut.py" 195 :: []))), List.toArray ([])⟩
noncomputable def o21 (P : Params) : Obj := ⟨.type "frame", none, .plain, List.toArray (some (.ref 20) :: some (.ref 3) :: some (.ref 17) :: none :: some (sv "perlcore.errors" 187) :: none :: some (.ref 0) :: [])⟩
noncomputable def o22 (P : Params) : Obj := pick P 22
noncomputable def o23 (P : Params) : Obj := ⟨.none, none, (.fields (List.toArray ([]))), List.toArray ([])⟩
noncomputable def o24 (P : Params) : Obj := pick P 24
noncomputable def o25 (P : Params) : Obj := pick P 25
noncomputable def o26 (P : Params) : Obj := bare (pick P 28)
noncomputable def o27 (P : Params) : Obj := pick P 27
noncomputable def o28 (P : Params) : Obj := pick P 28
noncomputable def o29 (P : Params) : Obj := pick P 29
noncomputable def o30 (P : Params) : Obj := pick P 30
noncomputable def o31 (P : Params) : Obj := pick P 31
noncomputable def o32 (P : Params) : Obj := pick P 32
noncomputable def o33 (P : Params) : Obj := ⟨.type "super", none, (.fields (List.toArray (.ref 31 :: .ref 31 :: .ref 31 :: []))), List.toArray ([])⟩
noncomputable def o34 (P : Params) : Obj := ⟨.type "builtin_function_or_method", none, (.fields (List.toArray (.builtin "object.__init_subclass__" :: .ref 31 :: []))), List.toArray ([])⟩
noncomputable def o35 (P : Params) : Obj := pick P 35
noncomputable def o36 (P : Params) : Obj := ⟨.type "builtin_function_or_method", none, (.fields (List.toArray (.builtin "type.__prepare__" :: .type "type" :: []))), List.toArray ([])⟩
noncomputable def o37 (P : Params) : Obj := ⟨.type "dict", none, (.dict (List.toArray (de P "__module__" 225 (sv "perlcore.errors" 187) :: de P "__qualname__" 227 (sv "Die" 226) :: de P "__firstlineno__" 229 (.int 7 228) :: de P "__init__" 237 (.ref 48) :: de P "__static_attri\x62utes__" 239 (.ref 49) :: [])) 5), List.toArray ([])⟩
noncomputable def o38 (P : Params) : Obj := ⟨.type "tuple", none, (.seq (List.toArray ([])) 0), List.toArray ([])⟩
noncomputable def o39 (P : Params) : Obj := ⟨.none, none, (.fields (List.toArray (.int 9 0 :: .int 4 0 :: .ref 47 :: []))), List.toArray ([])⟩
noncomputable def o40 (P : Params) : Obj := ⟨.type "code", none, (.fields (List.toArray (sv "Die" 220 :: sv "Die" 221 :: sv "/claim/cut.py" 222 :: .int 7 0 :: .int 0 0 :: .int 0 0 :: .int 0 0 :: .int 0 0 :: .ref 38 :: .bool false :: .int 181 0 :: .ref 39 :: .none :: .none :: .none :: .none :: .int 223 0 :: .int 7 0 :: sv "/claim/cut.py" 224 :: []))), List.toArray ([])⟩
noncomputable def o41 (P : Params) : Obj := ⟨.type "frame", none, .plain, List.toArray (some (.ref 40) :: some (.ref 3) :: some (.ref 37) :: none :: some (sv "perlcore.errors" 187) :: none :: some (.ref 0) :: [])⟩
noncomputable def o42 (P : Params) : Obj := pick P 42
noncomputable def o43 (P : Params) : Obj := ⟨.none, none, (.fields (List.toArray ([]))), List.toArray ([])⟩
noncomputable def o44 (P : Params) : Obj := pick P 44
noncomputable def o45 (P : Params) : Obj := pick P 45
noncomputable def o46 (P : Params) : Obj := bare (pick P 48)
noncomputable def o47 (P : Params) : Obj := pick P 47
noncomputable def o48 (P : Params) : Obj := pick P 48
noncomputable def o49 (P : Params) : Obj := pick P 49
noncomputable def o50 (P : Params) : Obj := pick P 50
noncomputable def o51 (P : Params) : Obj := pick P 51
noncomputable def o52 (P : Params) : Obj := ⟨.type "super", none, (.fields (List.toArray (.ref 51 :: .ref 51 :: .ref 51 :: []))), List.toArray ([])⟩
noncomputable def o53 (P : Params) : Obj := ⟨.type "builtin_function_or_method", none, (.fields (List.toArray (.builtin "object.__init_subclass__" :: .ref 51 :: []))), List.toArray ([])⟩
noncomputable def o54 (P : Params) : Obj := pick P 54
noncomputable def o55 (P : Params) : Obj := ⟨.type "builtin_function_or_method", none, (.fields (List.toArray (.builtin "type.__prepare__" :: .type "type" :: []))), List.toArray ([])⟩
noncomputable def o56 (P : Params) : Obj := ⟨.type "dict", none, (.dict (List.toArray (de P "__module__" 250 (sv "perlcore.errors" 187) :: de P "__qualname__" 252 (sv "SyntaxDie" 251) :: de P "__firstlineno__" 254 (.int 12 253) :: de P "__init__" 263 (.ref 67) :: de P "__static_attri\x62utes__" 265 (.ref 68) :: [])) 5), List.toArray ([])⟩
noncomputable def o57 (P : Params) : Obj := ⟨.type "tuple", none, (.seq (List.toArray ([])) 0), List.toArray ([])⟩
noncomputable def o58 (P : Params) : Obj := ⟨.none, none, (.fields (List.toArray (.int 14 0 :: .int 4 0 :: .ref 66 :: []))), List.toArray ([])⟩
noncomputable def o59 (P : Params) : Obj := ⟨.type "code", none, (.fields (List.toArray (sv "SyntaxDie" 245 :: sv "SyntaxDie" 246 :: sv "/claim/cut.py" 247 :: .int 12 0 :: .int 0 0 :: .int 0 0 :: .int 0 0 :: .int 0 0 :: .ref 57 :: .bool false :: .int 181 0 :: .ref 58 :: .none :: .none :: .none :: .none :: .int 248 0 :: .int 12 0 :: sv "/claim/cut.py" 249 :: []))), List.toArray ([])⟩
noncomputable def o60 (P : Params) : Obj := ⟨.type "frame", none, .plain, List.toArray (some (.ref 59) :: some (.ref 3) :: some (.ref 56) :: none :: some (sv "perlcore.errors" 187) :: none :: some (.ref 0) :: [])⟩
noncomputable def o61 (P : Params) : Obj := pick P 61
noncomputable def o62 (P : Params) : Obj := ⟨.none, none, (.fields (List.toArray ([]))), List.toArray ([])⟩
noncomputable def o63 (P : Params) : Obj := pick P 63
noncomputable def o64 (P : Params) : Obj := pick P 64
noncomputable def o65 (P : Params) : Obj := bare (pick P 67)
noncomputable def o66 (P : Params) : Obj := pick P 66
noncomputable def o67 (P : Params) : Obj := pick P 67
noncomputable def o68 (P : Params) : Obj := pick P 68
noncomputable def o69 (P : Params) : Obj := pick P 69
noncomputable def o70 (P : Params) : Obj := pick P 70
noncomputable def o71 (P : Params) : Obj := ⟨.type "super", none, (.fields (List.toArray (.ref 70 :: .ref 70 :: .ref 70 :: []))), List.toArray ([])⟩
noncomputable def o72 (P : Params) : Obj := ⟨.type "builtin_function_or_method", none, (.fields (List.toArray (.builtin "object.__init_subclass__" :: .ref 70 :: []))), List.toArray ([])⟩
noncomputable def o73 (P : Params) : Obj := pick P 73
noncomputable def o74 (P : Params) : Obj := pick P 74
noncomputable def o75 (P : Params) : Obj := ⟨.none, none, (.fields (List.toArray ([]))), List.toArray ([])⟩
noncomputable def o76 (P : Params) : Obj := pick P 76
noncomputable def o77 (P : Params) : Obj := pick P 77
noncomputable def o78 (P : Params) : Obj := bare (pick P 80)
noncomputable def o79 (P : Params) : Obj := pick P 79
noncomputable def o80 (P : Params) : Obj := pick P 80
noncomputable def o81 (P : Params) : Obj := pick P 81
noncomputable def o82 (P : Params) : Obj := ⟨.none, none, (.fields (List.toArray ([]))), List.toArray ([])⟩
noncomputable def o83 (P : Params) : Obj := pick P 83
noncomputable def o84 (P : Params) : Obj := pick P 84
noncomputable def o85 (P : Params) : Obj := bare (pick P 87)
noncomputable def o86 (P : Params) : Obj := pick P 86
noncomputable def o87 (P : Params) : Obj := pick P 87
noncomputable def o88 (P : Params) : Obj := pick P 88
noncomputable def o89 (P : Params) : Obj := ⟨.none, none, (.fields (List.toArray ([]))), List.toArray ([])⟩
noncomputable def o90 (P : Params) : Obj := pick P 90
noncomputable def o91 (P : Params) : Obj := pick P 91
noncomputable def o92 (P : Params) : Obj := bare (pick P 94)
noncomputable def o93 (P : Params) : Obj := pick P 93
noncomputable def o94 (P : Params) : Obj := pick P 94
noncomputable def o95 (P : Params) : Obj := pick P 95
noncomputable def o96 (P : Params) : Obj := ⟨.none, none, (.fields (List.toArray ([]))), List.toArray ([])⟩
noncomputable def o97 (P : Params) : Obj := pick P 97
noncomputable def o98 (P : Params) : Obj := pick P 98
noncomputable def o99 (P : Params) : Obj := bare (pick P 101)
noncomputable def o100 (P : Params) : Obj := pick P 100
noncomputable def o101 (P : Params) : Obj := pick P 101
noncomputable def o102 (P : Params) : Obj := pick P 102
noncomputable def o103 (P : Params) : Obj := ⟨.none, none, (.fields (List.toArray ([]))), List.toArray ([])⟩
noncomputable def o104 (P : Params) : Obj := pick P 104
noncomputable def o105 (P : Params) : Obj := pick P 105
noncomputable def o106 (P : Params) : Obj := bare (pick P 108)
noncomputable def o107 (P : Params) : Obj := pick P 107
noncomputable def o108 (P : Params) : Obj := pick P 108
noncomputable def o109 (P : Params) : Obj := ⟨.type "tuple", none, (.seq (List.toArray ([])) 0), List.toArray ([])⟩
noncomputable def o110 (P : Params) : Obj := ⟨.type "builtin_function_or_method", none, (.fields (List.toArray (.builtin "type.__prepare__" :: .type "type" :: []))), List.toArray ([])⟩
noncomputable def o111 (P : Params) : Obj := ⟨.type "dict", none, (.dict (List.toArray (de P "__module__" 362 (sv "perlcore.trans" 347) :: de P "__qualname__" 364 (sv "TransTable" 363) :: de P "__firstlineno__" 366 (.int 71 365) :: de P "__init__" 379 (.ref 122) :: de P "__static_attri\x62utes__" 386 (.ref 123) :: [])) 5), List.toArray ([])⟩
noncomputable def o112 (P : Params) : Obj := ⟨.type "tuple", none, (.seq (List.toArray ([])) 0), List.toArray ([])⟩
noncomputable def o113 (P : Params) : Obj := ⟨.none, none, (.fields (List.toArray (.int 73 0 :: .int 4 0 :: .ref 121 :: []))), List.toArray ([])⟩
noncomputable def o114 (P : Params) : Obj := ⟨.type "code", none, (.fields (List.toArray (sv "TransTable" 357 :: sv "TransTable" 358 :: sv "/claim/cut.py" 359 :: .int 71 0 :: .int 0 0 :: .int 0 0 :: .int 0 0 :: .int 0 0 :: .ref 112 :: .bool false :: .int 181 0 :: .ref 113 :: .none :: .none :: .none :: .none :: .int 360 0 :: .int 71 0 :: sv "/claim/cut.py" 361 :: []))), List.toArray ([])⟩
noncomputable def o115 (P : Params) : Obj := ⟨.type "frame", none, .plain, List.toArray (some (.ref 114) :: some (.ref 3) :: some (.ref 111) :: none :: some (sv "perlcore.trans" 347) :: none :: some (.ref 0) :: [])⟩
noncomputable def o116 (P : Params) : Obj := pick P 116
noncomputable def o117 (P : Params) : Obj := ⟨.none, none, (.fields (List.toArray ([]))), List.toArray ([])⟩
noncomputable def o118 (P : Params) : Obj := pick P 118
noncomputable def o119 (P : Params) : Obj := pick P 119
noncomputable def o120 (P : Params) : Obj := bare (pick P 122)
noncomputable def o121 (P : Params) : Obj := pick P 121
noncomputable def o122 (P : Params) : Obj := pick P 122
noncomputable def o123 (P : Params) : Obj := pick P 123
noncomputable def o124 (P : Params) : Obj := pick P 124
noncomputable def o125 (P : Params) : Obj := pick P 125
noncomputable def o126 (P : Params) : Obj := pick P 126
noncomputable def o127 (P : Params) : Obj := pick P 127
noncomputable def o128 (P : Params) : Obj := ⟨.type "super", none, (.fields (List.toArray (.ref 125 :: .ref 125 :: .ref 125 :: []))), List.toArray ([])⟩
noncomputable def o129 (P : Params) : Obj := ⟨.type "builtin_function_or_method", none, (.fields (List.toArray (.builtin "object.__init_subclass__" :: .ref 125 :: []))), List.toArray ([])⟩
noncomputable def o130 (P : Params) : Obj := pick P 130
noncomputable def o131 (P : Params) : Obj := ⟨.none, none, (.fields (List.toArray ([]))), List.toArray ([])⟩
noncomputable def o132 (P : Params) : Obj := pick P 132
noncomputable def o133 (P : Params) : Obj := pick P 133
noncomputable def o134 (P : Params) : Obj := bare (pick P 136)
noncomputable def o135 (P : Params) : Obj := pick P 135
noncomputable def o136 (P : Params) : Obj := pick P 136
noncomputable def o137 (P : Params) : Obj := pick P 137
noncomputable def o138 (P : Params) : Obj := ⟨.none, none, (.fields (List.toArray ([]))), List.toArray ([])⟩
noncomputable def o139 (P : Params) : Obj := pick P 139
noncomputable def o140 (P : Params) : Obj := pick P 140
noncomputable def o141 (P : Params) : Obj := bare (pick P 143)
noncomputable def o142 (P : Params) : Obj := pick P 142
noncomputable def o143 (P : Params) : Obj := pick P 143
noncomputable def o144 (P : Params) : Obj := pick P 144
noncomputable def o145 (P : Params) : Obj := ⟨.none, none, (.fields (List.toArray ([]))), List.toArray ([])⟩
noncomputable def o146 (P : Params) : Obj := pick P 146
noncomputable def o147 (P : Params) : Obj := pick P 147
noncomputable def o148 (P : Params) : Obj := bare (pick P 150)
noncomputable def o149 (P : Params) : Obj := pick P 149
noncomputable def o150 (P : Params) : Obj := pick P 150
noncomputable def o151 (P : Params) : Obj := pick P 151
noncomputable def o152 (P : Params) : Obj := ⟨.none, none, (.fields (List.toArray ([]))), List.toArray ([])⟩
noncomputable def o153 (P : Params) : Obj := pick P 153
noncomputable def o154 (P : Params) : Obj := pick P 154
noncomputable def o155 (P : Params) : Obj := bare (pick P 157)
noncomputable def o156 (P : Params) : Obj := pick P 156
noncomputable def o157 (P : Params) : Obj := pick P 157
noncomputable def o158 (P : Params) : Obj := pick P 158
noncomputable def o159 (P : Params) : Obj := ⟨.none, none, (.fields (List.toArray ([]))), List.toArray ([])⟩
noncomputable def o160 (P : Params) : Obj := pick P 160
noncomputable def o161 (P : Params) : Obj := pick P 161
noncomputable def o162 (P : Params) : Obj := bare (pick P 164)
noncomputable def o163 (P : Params) : Obj := pick P 163
noncomputable def o164 (P : Params) : Obj := pick P 164
noncomputable def o165 (P : Params) : Obj := pick P 165
noncomputable def o166 (P : Params) : Obj := ⟨.none, none, (.fields (List.toArray ([]))), List.toArray ([])⟩
noncomputable def o167 (P : Params) : Obj := pick P 167
noncomputable def o168 (P : Params) : Obj := pick P 168
noncomputable def o169 (P : Params) : Obj := bare (pick P 171)
noncomputable def o170 (P : Params) : Obj := pick P 170
noncomputable def o171 (P : Params) : Obj := pick P 171
noncomputable def o172 (P : Params) : Obj := pick P 172
noncomputable def o173 (P : Params) : Obj := ⟨.none, none, (.fields (List.toArray ([]))), List.toArray ([])⟩
noncomputable def o174 (P : Params) : Obj := pick P 174
noncomputable def o175 (P : Params) : Obj := pick P 175
noncomputable def o176 (P : Params) : Obj := bare (pick P 178)
noncomputable def o177 (P : Params) : Obj := pick P 177
noncomputable def o178 (P : Params) : Obj := pick P 178
noncomputable def o179 (P : Params) : Obj := pick P 179
noncomputable def o180 (P : Params) : Obj := ⟨.none, none, (.fields (List.toArray ([]))), List.toArray ([])⟩
noncomputable def o181 (P : Params) : Obj := pick P 181
noncomputable def o182 (P : Params) : Obj := pick P 182
noncomputable def o183 (P : Params) : Obj := bare (pick P 185)
noncomputable def o184 (P : Params) : Obj := pick P 184
noncomputable def o185 (P : Params) : Obj := pick P 185
noncomputable def o186 (P : Params) : Obj := pick P 186
noncomputable def o187 (P : Params) : Obj := ⟨.none, none, (.fields (List.toArray ([]))), List.toArray ([])⟩
noncomputable def o188 (P : Params) : Obj := pick P 188
noncomputable def o189 (P : Params) : Obj := pick P 189
noncomputable def o190 (P : Params) : Obj := bare (pick P 192)
noncomputable def o191 (P : Params) : Obj := pick P 191
noncomputable def o192 (P : Params) : Obj := pick P 192
noncomputable def o193 (P : Params) : Obj := pick P 193
noncomputable def o194 (P : Params) : Obj := pick P 194
noncomputable def o195 (P : Params) : Obj := pick P 195
noncomputable def o196 (P : Params) : Obj := pick P 196
noncomputable def o197 (P : Params) : Obj := pick P 197
noncomputable def o198 (P : Params) : Obj := pick P 198
noncomputable def o199 (P : Params) : Obj := pick P 199
noncomputable def o200 (P : Params) : Obj := pick P 200
noncomputable def o201 (P : Params) : Obj := pick P 201
noncomputable def o202 (P : Params) : Obj := pick P 202
noncomputable def o203 (P : Params) : Obj := pick P 203
noncomputable def o204 (P : Params) : Obj := pick P 204
noncomputable def o205 (P : Params) : Obj := pick P 205
noncomputable def o206 (P : Params) : Obj := pick P 206
noncomputable def o207 (P : Params) : Obj := pick P 207
noncomputable def o208 (P : Params) : Obj := pick P 208
noncomputable def o209 (P : Params) : Obj := pick P 209
noncomputable def o210 (P : Params) : Obj := pick P 210
noncomputable def o211 (P : Params) : Obj := pick P 211
noncomputable def o212 (P : Params) : Obj := pick P 212
noncomputable def o213 (P : Params) : Obj := pick P 213
noncomputable def o214 (P : Params) : Obj := pick P 214
noncomputable def o215 (P : Params) : Obj := pick P 215
noncomputable def o216 (P : Params) : Obj := pick P 216
noncomputable def o217 (P : Params) : Obj := pick P 217
noncomputable def o218 (P : Params) : Obj := pick P 218
noncomputable def o219 (P : Params) : Obj := pick P 219
noncomputable def o220 (P : Params) : Obj := pick P 220
noncomputable def o221 (P : Params) : Obj := pick P 221
noncomputable def o222 (P : Params) : Obj := pick P 222
noncomputable def o223 (P : Params) : Obj := pick P 223
noncomputable def o224 (P : Params) : Obj := pick P 224
noncomputable def o225 (P : Params) : Obj := pick P 225
noncomputable def o226 (P : Params) : Obj := pick P 226
noncomputable def o227 (P : Params) : Obj := pick P 227
noncomputable def o228 (P : Params) : Obj := pick P 228
noncomputable def o229 (P : Params) : Obj := pick P 229
noncomputable def o230 (P : Params) : Obj := pick P 230
noncomputable def o231 (P : Params) : Obj := pick P 231
noncomputable def o232 (P : Params) : Obj := pick P 232
noncomputable def o233 (P : Params) : Obj := pick P 233
noncomputable def o234 (P : Params) : Obj := pick P 234
noncomputable def o235 (P : Params) : Obj := pick P 235
noncomputable def o236 (P : Params) : Obj := pick P 236
noncomputable def o237 (P : Params) : Obj := pick P 237
noncomputable def o238 (P : Params) : Obj := pick P 238
noncomputable def o239 (P : Params) : Obj := pick P 239
noncomputable def o240 (P : Params) : Obj := pick P 240
noncomputable def o241 (P : Params) : Obj := pick P 241
noncomputable def o242 (P : Params) : Obj := pick P 242
noncomputable def o243 (P : Params) : Obj := pick P 243
noncomputable def o244 (P : Params) : Obj := pick P 244
noncomputable def o245 (P : Params) : Obj := pick P 245
noncomputable def o246 (P : Params) : Obj := pick P 246
noncomputable def o247 (P : Params) : Obj := pick P 247
noncomputable def o248 (P : Params) : Obj := pick P 248
noncomputable def o249 (P : Params) : Obj := pick P 249
noncomputable def o250 (P : Params) : Obj := pick P 250
noncomputable def o251 (P : Params) : Obj := pick P 251
noncomputable def o252 (P : Params) : Obj := pick P 252
noncomputable def o253 (P : Params) : Obj := pick P 253
noncomputable def o254 (P : Params) : Obj := pick P 254
noncomputable def o255 (P : Params) : Obj := pick P 255
noncomputable def o256 (P : Params) : Obj := pick P 256
noncomputable def o257 (P : Params) : Obj := pick P 257
noncomputable def o258 (P : Params) : Obj := pick P 258
noncomputable def o259 (P : Params) : Obj := pick P 259
noncomputable def o260 (P : Params) : Obj := pick P 260
noncomputable def o261 (P : Params) : Obj := pick P 261
noncomputable def o262 (P : Params) : Obj := ⟨.none, none, (.fields (List.toArray ([]))), List.toArray ([])⟩
noncomputable def o263 (P : Params) : Obj := pick P 263
noncomputable def o264 (P : Params) : Obj := pick P 264
noncomputable def o265 (P : Params) : Obj := bare (pick P 267)
noncomputable def o266 (P : Params) : Obj := pick P 266
noncomputable def o267 (P : Params) : Obj := pick P 267
noncomputable def o268 (P : Params) : Obj := pick P 268
noncomputable def o269 (P : Params) : Obj := ⟨.none, none, (.fields (List.toArray ([]))), List.toArray ([])⟩
noncomputable def o270 (P : Params) : Obj := pick P 270
noncomputable def o271 (P : Params) : Obj := pick P 271
noncomputable def o272 (P : Params) : Obj := bare (pick P 274)
noncomputable def o273 (P : Params) : Obj := pick P 273
noncomputable def o274 (P : Params) : Obj := pick P 274
noncomputable def o275 (P : Params) : Obj := pick P 275
noncomputable def o276 (P : Params) : Obj := ⟨.none, none, (.fields (List.toArray ([]))), List.toArray ([])⟩
noncomputable def o277 (P : Params) : Obj := pick P 277
noncomputable def o278 (P : Params) : Obj := pick P 278
noncomputable def o279 (P : Params) : Obj := bare (pick P 281)
noncomputable def o280 (P : Params) : Obj := pick P 280
noncomputable def o281 (P : Params) : Obj := pick P 281
noncomputable def o282 (P : Params) : Obj := pick P 282
noncomputable def o283 (P : Params) : Obj := ⟨.none, none, (.fields (List.toArray ([]))), List.toArray ([])⟩
noncomputable def o284 (P : Params) : Obj := pick P 284
noncomputable def o285 (P : Params) : Obj := pick P 285
noncomputable def o286 (P : Params) : Obj := bare (pick P 288)
noncomputable def o287 (P : Params) : Obj := pick P 287
noncomputable def o288 (P : Params) : Obj := pick P 288
noncomputable def o289 (P : Params) : Obj := pick P 289
noncomputable def o290 (P : Params) : Obj := ⟨.none, none, (.fields (List.toArray ([]))), List.toArray ([])⟩
noncomputable def o291 (P : Params) : Obj := pick P 291
noncomputable def o292 (P : Params) : Obj := pick P 292
noncomputable def o293 (P : Params) : Obj := bare (pick P 295)
noncomputable def o294 (P : Params) : Obj := pick P 294
noncomputable def o295 (P : Params) : Obj := pick P 295
noncomputable def o296 (P : Params) : Obj := pick P 296
noncomputable def o297 (P : Params) : Obj := ⟨.none, none, (.fields (List.toArray ([]))), List.toArray ([])⟩
noncomputable def o298 (P : Params) : Obj := pick P 298
noncomputable def o299 (P : Params) : Obj := pick P 299
noncomputable def o300 (P : Params) : Obj := bare (pick P 302)
noncomputable def o301 (P : Params) : Obj := pick P 301
noncomputable def o302 (P : Params) : Obj := pick P 302
noncomputable def o303 (P : Params) : Obj := pick P 303
noncomputable def o304 (P : Params) : Obj := ⟨.none, none, (.fields (List.toArray ([]))), List.toArray ([])⟩
noncomputable def o305 (P : Params) : Obj := pick P 305
noncomputable def o306 (P : Params) : Obj := pick P 306
noncomputable def o307 (P : Params) : Obj := bare (pick P 309)
noncomputable def o308 (P : Params) : Obj := pick P 308
noncomputable def o309 (P : Params) : Obj := pick P 309
noncomputable def o310 (P : Params) : Obj := pick P 310
noncomputable def o311 (P : Params) : Obj := ⟨.none, none, (.fields (List.toArray ([]))), List.toArray ([])⟩
noncomputable def o312 (P : Params) : Obj := bare (pick P 314)
noncomputable def o313 (P : Params) : Obj := pick P 313
noncomputable def o314 (P : Params) : Obj := pick P 314
noncomputable def vpre_2 (P : Params) : Obj := ⟨.none, none, (.dict (List.toArray ([])) 0), List.toArray ([])⟩
noncomputable def vpre_3 (P : Params) : Obj := ⟨.type "dict", none, (.dict (List.toArray (de P "__name__" 165 (sv "__main__" 164) :: de P "__doc__" 166 (.none) :: de P "__package__" 167 (.none) :: de P "__loader__" 168 (.builtin "__main__.__loader__#\x6fpaque") :: de P "__spec__" 169 (.none) :: de P "__anno\x74ations__" 170 (.ref 6) :: de P "__builtins__" 171 (.ref 4) :: de P "__file__" 173 (sv "/claim/cut.py" 172) :: de P "__cached__" 174 (.none) :: [])) 9), List.toArray ([])⟩
noncomputable def vpre_12 (P : Params) : Obj := ⟨.none, none, (.fields (List.toArray ([]))), List.toArray ([])⟩
noncomputable def v4_3 (P : Params) : Obj := ⟨.type "dict", none, (.dict (List.toArray (de P "__name__" 165 (sv "perlcore.quotes" 269) :: de P "__doc__" 166 (.none) :: de P "__package__" 167 (.none) :: de P "__loader__" 168 (.builtin "__main__.__loader__#\x6fpaque") :: de P "__spec__" 169 (.none) :: de P "__anno\x74ations__" 170 (.ref 6) :: de P "__builtins__" 171 (.ref 4) :: de P "__file__" 173 (sv "/claim/cut.py" 172) :: de P "__cached__" 174 (.none) :: de P "PerlError" 217 (.ref 31) :: de P "Die" 242 (.ref 51) :: de P "SyntaxDie" 268 (.ref 70) :: [])) 12), List.toArray ([])⟩
noncomputable def v4_12 (P : Params) : Obj := ⟨.none, none, (.fields (List.toArray (.int 2 0 :: .int 0 0 :: .ref 20 :: .int 7 0 :: .int 0 0 :: .ref 40 :: .int 12 0 :: .int 0 0 :: .ref 59 :: []))), List.toArray ([])⟩
noncomputable def v5_3 (P : Params) : Obj := ⟨.type "dict", none, (.dict (List.toArray (de P "__name__" 165 (sv "perlcore.quotes" 269) :: de P "__doc__" 166 (.none) :: de P "__package__" 167 (.none) :: de P "__loader__" 168 (.builtin "__main__.__loader__#\x6fpaque") :: de P "__spec__" 169 (.none) :: de P "__anno\x74ations__" 170 (.ref 6) :: de P "__builtins__" 171 (.ref 4) :: de P "__file__" 173 (sv "/claim/cut.py" 172) :: de P "__cached__" 174 (.none) :: de P "PerlError" 217 (.ref 31) :: de P "Die" 242 (.ref 51) :: de P "SyntaxDie" 268 (.ref 70) :: de P "SHORT_ESCAPES" 292 (.ref 73) :: [])) 13), List.toArray ([])⟩
noncomputable def v5_12 (P : Params) : Obj := ⟨.none, none, (.fields (List.toArray (.int 2 0 :: .int 0 0 :: .ref 20 :: .int 7 0 :: .int 0 0 :: .ref 40 :: .int 12 0 :: .int 0 0 :: .ref 59 :: []))), List.toArray ([])⟩
noncomputable def v16_3 (P : Params) : Obj := ⟨.type "dict", none, (.dict (List.toArray (de P "__name__" 165 (sv "perlcore.trans" 347) :: de P "__doc__" 166 (.none) :: de P "__package__" 167 (.none) :: de P "__loader__" 168 (.builtin "__main__.__loader__#\x6fpaque") :: de P "__spec__" 169 (.none) :: de P "__anno\x74ations__" 170 (.ref 6) :: de P "__builtins__" 171 (.ref 4) :: de P "__file__" 173 (sv "/claim/cut.py" 172) :: de P "__cached__" 174 (.none) :: de P "PerlError" 217 (.ref 31) :: de P "Die" 242 (.ref 51) :: de P "SyntaxDie" 268 (.ref 70) :: de P "SHORT_ESCAPES" 292 (.ref 73) :: de P "CODE_FIGURES" 294 (sv "0123456789abcdef" 293) :: de P "TOP_CODE" 296 (.int 1114111 295) :: de P "digits_value" 309 (.ref 80) :: de P "coded_sign" 316 (.ref 87) :: de P "braced_code" 328 (.ref 94) :: de P "escape_at" 339 (.ref 101) :: de P "great_letter" 346 (.ref 108) :: de P "KEPT_SIGN" 351 (.int (-1) 350) :: de P "DROPPED_SIGN" 354 (.int (-2) 353) :: de P "TransTable" 393 (.ref 125) :: [])) 23), List.toArray ([])⟩
noncomputable def v16_12 (P : Params) : Obj := ⟨.none, none, (.fields (List.toArray (.int 2 0 :: .int 0 0 :: .ref 20 :: .int 7 0 :: .int 0 0 :: .ref 40 :: .int 12 0 :: .int 0 0 :: .ref 59 :: .int 21 0 :: .int 0 0 :: .ref 79 :: .int 31 0 :: .int 0 0 :: .ref 86 :: .int 35 0 :: .int 0 0 :: .ref 93 :: .int 41 0 :: .int 0 0 :: .ref 100 :: .int 64 0 :: .int 0 0 :: .ref 107 :: .int 71 0 :: .int 0 0 :: .ref 114 :: []))), List.toArray ([])⟩
noncomputable def v27_3 (P : Params) : Obj := ⟨.type "dict", none, (.dict (List.toArray (de P "__name__" 165 (sv "law_qd0140_01" 489) :: de P "__doc__" 166 (.none) :: de P "__package__" 167 (.none) :: de P "__loader__" 168 (.builtin "__main__.__loader__#\x6fpaque") :: de P "__spec__" 169 (.none) :: de P "__anno\x74ations__" 170 (.ref 6) :: de P "__builtins__" 171 (.ref 4) :: de P "__file__" 173 (sv "/claim/cut.py" 172) :: de P "__cached__" 174 (.none) :: de P "PerlError" 217 (.ref 31) :: de P "Die" 242 (.ref 51) :: de P "SyntaxDie" 268 (.ref 70) :: de P "SHORT_ESCAPES" 292 (.ref 73) :: de P "CODE_FIGURES" 294 (sv "0123456789abcdef" 293) :: de P "TOP_CODE" 296 (.int 1114111 295) :: de P "digits_value" 309 (.ref 80) :: de P "coded_sign" 316 (.ref 87) :: de P "braced_code" 328 (.ref 94) :: de P "escape_at" 339 (.ref 101) :: de P "great_letter" 346 (.ref 108) :: de P "KEPT_SIGN" 351 (.int (-1) 350) :: de P "DROPPED_SIGN" 354 (.int (-2) 353) :: de P "TransTable" 393 (.ref 125) :: de P "guarded_at" 402 (.ref 136) :: de P "trans_signs" 412 (.ref 143) :: de P "trans_codes" 426 (.ref 150) :: de P "plain_table" 438 (.ref 157) :: de P "sorted_once" 447 (.ref 164) :: de P "make_trans" 460 (.ref 171) :: de P "rank_outside" 471 (.ref 178) :: de P "turned_code" 480 (.ref 185) :: de P "trans_code" 488 (.ref 192) :: de P "_law_parts" 538 (.ref 260) :: [])) 33), List.toArray ([])⟩
noncomputable def v27_12 (P : Params) : Obj := ⟨.none, none, (.fields (List.toArray (.int 2 0 :: .int 0 0 :: .ref 20 :: .int 7 0 :: .int 0 0 :: .ref 40 :: .int 12 0 :: .int 0 0 :: .ref 59 :: .int 21 0 :: .int 0 0 :: .ref 79 :: .int 31 0 :: .int 0 0 :: .ref 86 :: .int 35 0 :: .int 0 0 :: .ref 93 :: .int 41 0 :: .int 0 0 :: .ref 100 :: .int 64 0 :: .int 0 0 :: .ref 107 :: .int 71 0 :: .int 0 0 :: .ref 114 :: .int 80 0 :: .int 0 0 :: .ref 135 :: .int 85 0 :: .int 0 0 :: .ref 142 :: .int 96 0 :: .int 0 0 :: .ref 149 :: .int 114 0 :: .int 0 0 :: .ref 156 :: .int 129 0 :: .int 0 0 :: .ref 163 :: .int 135 0 :: .int 0 0 :: .ref 170 :: .int 142 0 :: .int 0 0 :: .ref 177 :: .int 153 0 :: .int 0 0 :: .ref 184 :: .int 164 0 :: .int 0 0 :: .ref 191 :: []))), List.toArray ([])⟩
noncomputable def trpre (P : Params) : BT := (.node (o0 P) (.node (o1 P) (.node (vpre_3 P) (.node (o7 P) .nil .nil) (.node (o11 P) .nil .nil)) (.node (o5 P) (.node (o9 P) .nil .nil) (.node (o13 P) .nil .nil))) (.node (vpre_2 P) (.node (o4 P) (.node (o8 P) .nil .nil) (.node (vpre_12 P) .nil .nil)) (.node (o6 P) (.node (o10 P) .nil .nil) (.node (o14 P) .nil .nil))))
noncomputable def Spre (w : World) (os : OsState) : SharedT := ⟨trpre w.params, 15, {}, Array.mk [], {}, 187, os⟩
noncomputable def tr4 (P : Params) : BT := (.node (o0 P) (.node (o1 P) (.node (v4_3 P) (.node (o7 P) (.node (o15 P) (.node (o31 P) (.node (o63 P) .nil .nil) .nil) (.node (o47 P) .nil .nil)) (.node (o23 P) (.node (o39 P) (.node (o71 P) .nil .nil) .nil) (.node (o55 P) .nil .nil))) (.node (o11 P) (.node (o19 P) (.node (o35 P) (.node (o67 P) .nil .nil) .nil) (.node (o51 P) .nil .nil)) (.node (o27 P) (.node (o43 P) .nil .nil) (.node (o59 P) .nil .nil)))) (.node (o5 P) (.node (o9 P) (.node (o17 P) (.node (o33 P) (.node (o65 P) .nil .nil) .nil) (.node (o49 P) .nil .nil)) (.node (o25 P) (.node (o41 P) .nil .nil) (.node (o57 P) .nil .nil))) (.node (o13 P) (.node (o21 P) (.node (o37 P) (.node (o69 P) .nil .nil) .nil) (.node (o53 P) .nil .nil)) (.node (o29 P) (.node (o45 P) .nil .nil) (.node (o61 P) .nil .nil))))) (.node (o2 P) (.node (o4 P) (.node (o8 P) (.node (o16 P) (.node (o32 P) (.node (o64 P) .nil .nil) .nil) (.node (o48 P) .nil .nil)) (.node (o24 P) (.node (o40 P) (.node (o72 P) .nil .nil) .nil) (.node (o56 P) .nil .nil))) (.node (v4_12 P) (.node (o20 P) (.node (o36 P) (.node (o68 P) .nil .nil) .nil) (.node (o52 P) .nil .nil)) (.node (o28 P) (.node (o44 P) .nil .nil) (.node (o60 P) .nil .nil)))) (.node (o6 P) (.node (o10 P) (.node (o18 P) (.node (o34 P) (.node (o66 P) .nil .nil) .nil) (.node (o50 P) .nil .nil)) (.node (o26 P) (.node (o42 P) .nil .nil) (.node (o58 P) .nil .nil))) (.node (o14 P) (.node (o22 P) (.node (o38 P) (.node (o70 P) .nil .nil) .nil) (.node (o54 P) .nil .nil)) (.node (o30 P) (.node (o46 P) .nil .nil) (.node (o62 P) .nil .nil))))))
noncomputable def S4 (w : World) (os : OsState) : SharedT := ⟨tr4 w.params, 73, {}, Array.mk [], {}, 271, os⟩
noncomputable def tr5 (P : Params) : BT := (.node (o0 P) (.node (o1 P) (.node (v5_3 P) (.node (o7 P) (.node (o15 P) (.node (o31 P) (.node (o63 P) .nil .nil) .nil) (.node (o47 P) .nil .nil)) (.node (o23 P) (.node (o39 P) (.node (o71 P) .nil .nil) .nil) (.node (o55 P) .nil .nil))) (.node (o11 P) (.node (o19 P) (.node (o35 P) (.node (o67 P) .nil .nil) .nil) (.node (o51 P) .nil .nil)) (.node (o27 P) (.node (o43 P) .nil .nil) (.node (o59 P) .nil .nil)))) (.node (o5 P) (.node (o9 P) (.node (o17 P) (.node (o33 P) (.node (o65 P) .nil .nil) .nil) (.node (o49 P) .nil .nil)) (.node (o25 P) (.node (o41 P) (.node (o73 P) .nil .nil) .nil) (.node (o57 P) .nil .nil))) (.node (o13 P) (.node (o21 P) (.node (o37 P) (.node (o69 P) .nil .nil) .nil) (.node (o53 P) .nil .nil)) (.node (o29 P) (.node (o45 P) .nil .nil) (.node (o61 P) .nil .nil))))) (.node (o2 P) (.node (o4 P) (.node (o8 P) (.node (o16 P) (.node (o32 P) (.node (o64 P) .nil .nil) .nil) (.node (o48 P) .nil .nil)) (.node (o24 P) (.node (o40 P) (.node (o72 P) .nil .nil) .nil) (.node (o56 P) .nil .nil))) (.node (v5_12 P) (.node (o20 P) (.node (o36 P) (.node (o68 P) .nil .nil) .nil) (.node (o52 P) .nil .nil)) (.node (o28 P) (.node (o44 P) .nil .nil) (.node (o60 P) .nil .nil)))) (.node (o6 P) (.node (o10 P) (.node (o18 P) (.node (o34 P) (.node (o66 P) .nil .nil) .nil) (.node (o50 P) .nil .nil)) (.node (o26 P) (.node (o42 P) .nil .nil) (.node (o58 P) .nil .nil))) (.node (o14 P) (.node (o22 P) (.node (o38 P) (.node (o70 P) .nil .nil) .nil) (.node (o54 P) .nil .nil)) (.node (o30 P) (.node (o46 P) .nil .nil) (.node (o62 P) .nil .nil))))))
noncomputable def S5 (w : World) (os : OsState) : SharedT := ⟨tr5 w.params, 74, {}, Array.mk [], {}, 293, os⟩
noncomputable def tr16 (P : Params) : BT := (.node (o0 P) (.node (o1 P) (.node (v16_3 P) (.node (o7 P) (.node (o15 P) (.node (o31 P) (.node (o63 P) (.node (o127 P) .nil .nil) .nil) (.node (o95 P) .nil .nil)) (.node (o47 P) (.node (o79 P) .nil .nil) (.node (o111 P) .nil .nil))) (.node (o23 P) (.node (o39 P) (.node (o71 P) .nil .nil) (.node (o103 P) .nil .nil)) (.node (o55 P) (.node (o87 P) .nil .nil) (.node (o119 P) .nil .nil)))) (.node (o11 P) (.node (o19 P) (.node (o35 P) (.node (o67 P) .nil .nil) (.node (o99 P) .nil .nil)) (.node (o51 P) (.node (o83 P) .nil .nil) (.node (o115 P) .nil .nil))) (.node (o27 P) (.node (o43 P) (.node (o75 P) .nil .nil) (.node (o107 P) .nil .nil)) (.node (o59 P) (.node (o91 P) .nil .nil) (.node (o123 P) .nil .nil))))) (.node (o5 P) (.node (o9 P) (.node (o17 P) (.node (o33 P) (.node (o65 P) (.node (o129 P) .nil .nil) .nil) (.node (o97 P) .nil .nil)) (.node (o49 P) (.node (o81 P) .nil .nil) (.node (o113 P) .nil .nil))) (.node (o25 P) (.node (o41 P) (.node (o73 P) .nil .nil) (.node (o105 P) .nil .nil)) (.node (o57 P) (.node (o89 P) .nil .nil) (.node (o121 P) .nil .nil)))) (.node (o13 P) (.node (o21 P) (.node (o37 P) (.node (o69 P) .nil .nil) (.node (o101 P) .nil .nil)) (.node (o53 P) (.node (o85 P) .nil .nil) (.node (o117 P) .nil .nil))) (.node (o29 P) (.node (o45 P) (.node (o77 P) .nil .nil) (.node (o109 P) .nil .nil)) (.node (o61 P) (.node (o93 P) .nil .nil) (.node (o125 P) .nil .nil)))))) (.node (o2 P) (.node (o4 P) (.node (o8 P) (.node (o16 P) (.node (o32 P) (.node (o64 P) (.node (o128 P) .nil .nil) .nil) (.node (o96 P) .nil .nil)) (.node (o48 P) (.node (o80 P) .nil .nil) (.node (o112 P) .nil .nil))) (.node (o24 P) (.node (o40 P) (.node (o72 P) .nil .nil) (.node (o104 P) .nil .nil)) (.node (o56 P) (.node (o88 P) .nil .nil) (.node (o120 P) .nil .nil)))) (.node (v16_12 P) (.node (o20 P) (.node (o36 P) (.node (o68 P) .nil .nil) (.node (o100 P) .nil .nil)) (.node (o52 P) (.node (o84 P) .nil .nil) (.node (o116 P) .nil .nil))) (.node (o28 P) (.node (o44 P) (.node (o76 P) .nil .nil) (.node (o108 P) .nil .nil)) (.node (o60 P) (.node (o92 P) .nil .nil) (.node (o124 P) .nil .nil))))) (.node (o6 P) (.node (o10 P) (.node (o18 P) (.node (o34 P) (.node (o66 P) .nil .nil) (.node (o98 P) .nil .nil)) (.node (o50 P) (.node (o82 P) .nil .nil) (.node (o114 P) .nil .nil))) (.node (o26 P) (.node (o42 P) (.node (o74 P) .nil .nil) (.node (o106 P) .nil .nil)) (.node (o58 P) (.node (o90 P) .nil .nil) (.node (o122 P) .nil .nil)))) (.node (o14 P) (.node (o22 P) (.node (o38 P) (.node (o70 P) .nil .nil) (.node (o102 P) .nil .nil)) (.node (o54 P) (.node (o86 P) .nil .nil) (.node (o118 P) .nil .nil))) (.node (o30 P) (.node (o46 P) (.node (o78 P) .nil .nil) (.node (o110 P) .nil .nil)) (.node (o62 P) (.node (o94 P) .nil .nil) (.node (o126 P) .nil .nil)))))))
noncomputable def S16 (w : World) (os : OsState) : SharedT := ⟨tr16 w.params, 130, {}, Array.mk [], {}, 394, os⟩
noncomputable def tr27 (P : Params) : BT := (.node (o0 P) (.node (o1 P) (.node (v27_3 P) (.node (o7 P) (.node (o15 P) (.node (o31 P) (.node (o63 P) (.node (o127 P) (.node (o255 P) .nil .nil) .nil) (.node (o191 P) .nil .nil)) (.node (o95 P) (.node (o159 P) .nil .nil) (.node (o223 P) .nil .nil))) (.node (o47 P) (.node (o79 P) (.node (o143 P) .nil .nil) (.node (o207 P) .nil .nil)) (.node (o111 P) (.node (o175 P) .nil .nil) (.node (o239 P) .nil .nil)))) (.node (o23 P) (.node (o39 P) (.node (o71 P) (.node (o135 P) .nil .nil) (.node (o199 P) .nil .nil)) (.node (o103 P) (.node (o167 P) .nil .nil) (.node (o231 P) .nil .nil))) (.node (o55 P) (.node (o87 P) (.node (o151 P) .nil .nil) (.node (o215 P) .nil .nil)) (.node (o119 P) (.node (o183 P) .nil .nil) (.node (o247 P) .nil .nil))))) (.node (o11 P) (.node (o19 P) (.node (o35 P) (.node (o67 P) (.node (o131 P) (.node (o259 P) .nil .nil) .nil) (.node (o195 P) .nil .nil)) (.node (o99 P) (.node (o163 P) .nil .nil) (.node (o227 P) .nil .nil))) (.node (o51 P) (.node (o83 P) (.node (o147 P) .nil .nil) (.node (o211 P) .nil .nil)) (.node (o115 P) (.node (o179 P) .nil .nil) (.node (o243 P) .nil .nil)))) (.node (o27 P) (.node (o43 P) (.node (o75 P) (.node (o139 P) .nil .nil) (.node (o203 P) .nil .nil)) (.node (o107 P) (.node (o171 P) .nil .nil) (.node (o235 P) .nil .nil))) (.node (o59 P) (.node (o91 P) (.node (o155 P) .nil .nil) (.node (o219 P) .nil .nil)) (.node (o123 P) (.node (o187 P) .nil .nil) (.node (o251 P) .nil .nil)))))) (.node (o5 P) (.node (o9 P) (.node (o17 P) (.node (o33 P) (.node (o65 P) (.node (o129 P) (.node (o257 P) .nil .nil) .nil) (.node (o193 P) .nil .nil)) (.node (o97 P) (.node (o161 P) .nil .nil) (.node (o225 P) .nil .nil))) (.node (o49 P) (.node (o81 P) (.node (o145 P) .nil .nil) (.node (o209 P) .nil .nil)) (.node (o113 P) (.node (o177 P) .nil .nil) (.node (o241 P) .nil .nil)))) (.node (o25 P) (.node (o41 P) (.node (o73 P) (.node (o137 P) .nil .nil) (.node (o201 P) .nil .nil)) (.node (o105 P) (.node (o169 P) .nil .nil) (.node (o233 P) .nil .nil))) (.node (o57 P) (.node (o89 P) (.node (o153 P) .nil .nil) (.node (o217 P) .nil .nil)) (.node (o121 P) (.node (o185 P) .nil .nil) (.node (o249 P) .nil .nil))))) (.node (o13 P) (.node (o21 P) (.node (o37 P) (.node (o69 P) (.node (o133 P) .nil .nil) (.node (o197 P) .nil .nil)) (.node (o101 P) (.node (o165 P) .nil .nil) (.node (o229 P) .nil .nil))) (.node (o53 P) (.node (o85 P) (.node (o149 P) .nil .nil) (.node (o213 P) .nil .nil)) (.node (o117 P) (.node (o181 P) .nil .nil) (.node (o245 P) .nil .nil)))) (.node (o29 P) (.node (o45 P) (.node (o77 P) (.node (o141 P) .nil .nil) (.node (o205 P) .nil .nil)) (.node (o109 P) (.node (o173 P) .nil .nil) (.node (o237 P) .nil .nil))) (.node (o61 P) (.node (o93 P) (.node (o157 P) .nil .nil) (.node (o221 P) .nil .nil)) (.node (o125 P) (.node (o189 P) .nil .nil) (.node (o253 P) .nil .nil))))))) (.node (o2 P) (.node (o4 P) (.node (o8 P) (.node (o16 P) (.node (o32 P) (.node (o64 P) (.node (o128 P) (.node (o256 P) .nil .nil) .nil) (.node (o192 P) .nil .nil)) (.node (o96 P) (.node (o160 P) .nil .nil) (.node (o224 P) .nil .nil))) (.node (o48 P) (.node (o80 P) (.node (o144 P) .nil .nil) (.node (o208 P) .nil .nil)) (.node (o112 P) (.node (o176 P) .nil .nil) (.node (o240 P) .nil .nil)))) (.node (o24 P) (.node (o40 P) (.node (o72 P) (.node (o136 P) .nil .nil) (.node (o200 P) .nil .nil)) (.node (o104 P) (.node (o168 P) .nil .nil) (.node (o232 P) .nil .nil))) (.node (o56 P) (.node (o88 P) (.node (o152 P) .nil .nil) (.node (o216 P) .nil .nil)) (.node (o120 P) (.node (o184 P) .nil .nil) (.node (o248 P) .nil .nil))))) (.node (v27_12 P) (.node (o20 P) (.node (o36 P) (.node (o68 P) (.node (o132 P) (.node (o260 P) .nil .nil) .nil) (.node (o196 P) .nil .nil)) (.node (o100 P) (.node (o164 P) .nil .nil) (.node (o228 P) .nil .nil))) (.node (o52 P) (.node (o84 P) (.node (o148 P) .nil .nil) (.node (o212 P) .nil .nil)) (.node (o116 P) (.node (o180 P) .nil .nil) (.node (o244 P) .nil .nil)))) (.node (o28 P) (.node (o44 P) (.node (o76 P) (.node (o140 P) .nil .nil) (.node (o204 P) .nil .nil)) (.node (o108 P) (.node (o172 P) .nil .nil) (.node (o236 P) .nil .nil))) (.node (o60 P) (.node (o92 P) (.node (o156 P) .nil .nil) (.node (o220 P) .nil .nil)) (.node (o124 P) (.node (o188 P) .nil .nil) (.node (o252 P) .nil .nil)))))) (.node (o6 P) (.node (o10 P) (.node (o18 P) (.node (o34 P) (.node (o66 P) (.node (o130 P) (.node (o258 P) .nil .nil) .nil) (.node (o194 P) .nil .nil)) (.node (o98 P) (.node (o162 P) .nil .nil) (.node (o226 P) .nil .nil))) (.node (o50 P) (.node (o82 P) (.node (o146 P) .nil .nil) (.node (o210 P) .nil .nil)) (.node (o114 P) (.node (o178 P) .nil .nil) (.node (o242 P) .nil .nil)))) (.node (o26 P) (.node (o42 P) (.node (o74 P) (.node (o138 P) .nil .nil) (.node (o202 P) .nil .nil)) (.node (o106 P) (.node (o170 P) .nil .nil) (.node (o234 P) .nil .nil))) (.node (o58 P) (.node (o90 P) (.node (o154 P) .nil .nil) (.node (o218 P) .nil .nil)) (.node (o122 P) (.node (o186 P) .nil .nil) (.node (o250 P) .nil .nil))))) (.node (o14 P) (.node (o22 P) (.node (o38 P) (.node (o70 P) (.node (o134 P) .nil .nil) (.node (o198 P) .nil .nil)) (.node (o102 P) (.node (o166 P) .nil .nil) (.node (o230 P) .nil .nil))) (.node (o54 P) (.node (o86 P) (.node (o150 P) .nil .nil) (.node (o214 P) .nil .nil)) (.node (o118 P) (.node (o182 P) .nil .nil) (.node (o246 P) .nil .nil)))) (.node (o30 P) (.node (o46 P) (.node (o78 P) (.node (o142 P) .nil .nil) (.node (o206 P) .nil .nil)) (.node (o110 P) (.node (o174 P) .nil .nil) (.node (o238 P) .nil .nil))) (.node (o62 P) (.node (o94 P) (.node (o158 P) .nil .nil) (.node (o222 P) .nil .nil)) (.node (o126 P) (.node (o190 P) .nil .nil) (.node (o254 P) .nil .nil))))))))
noncomputable def S27 (w : World) (os : OsState) : SharedT := ⟨tr27 w.params, 261, {}, Array.mk [], {}, 539, os⟩
noncomputable def trfin (P : Params) : BT := (.node (o0 P) (.node (o1 P) (.node (o3 P) (.node (o7 P) (.node (o15 P) (.node (o31 P) (.node (o63 P) (.node (o127 P) (.node (o255 P) .nil .nil) .nil) (.node (o191 P) .nil .nil)) (.node (o95 P) (.node (o159 P) (.node (o287 P) .nil .nil) .nil) (.node (o223 P) .nil .nil))) (.node (o47 P) (.node (o79 P) (.node (o143 P) (.node (o271 P) .nil .nil) .nil) (.node (o207 P) .nil .nil)) (.node (o111 P) (.node (o175 P) (.node (o303 P) .nil .nil) .nil) (.node (o239 P) .nil .nil)))) (.node (o23 P) (.node (o39 P) (.node (o71 P) (.node (o135 P) (.node (o263 P) .nil .nil) .nil) (.node (o199 P) .nil .nil)) (.node (o103 P) (.node (o167 P) (.node (o295 P) .nil .nil) .nil) (.node (o231 P) .nil .nil))) (.node (o55 P) (.node (o87 P) (.node (o151 P) (.node (o279 P) .nil .nil) .nil) (.node (o215 P) .nil .nil)) (.node (o119 P) (.node (o183 P) (.node (o311 P) .nil .nil) .nil) (.node (o247 P) .nil .nil))))) (.node (o11 P) (.node (o19 P) (.node (o35 P) (.node (o67 P) (.node (o131 P) (.node (o259 P) .nil .nil) .nil) (.node (o195 P) .nil .nil)) (.node (o99 P) (.node (o163 P) (.node (o291 P) .nil .nil) .nil) (.node (o227 P) .nil .nil))) (.node (o51 P) (.node (o83 P) (.node (o147 P) (.node (o275 P) .nil .nil) .nil) (.node (o211 P) .nil .nil)) (.node (o115 P) (.node (o179 P) (.node (o307 P) .nil .nil) .nil) (.node (o243 P) .nil .nil)))) (.node (o27 P) (.node (o43 P) (.node (o75 P) (.node (o139 P) (.node (o267 P) .nil .nil) .nil) (.node (o203 P) .nil .nil)) (.node (o107 P) (.node (o171 P) (.node (o299 P) .nil .nil) .nil) (.node (o235 P) .nil .nil))) (.node (o59 P) (.node (o91 P) (.node (o155 P) (.node (o283 P) .nil .nil) .nil) (.node (o219 P) .nil .nil)) (.node (o123 P) (.node (o187 P) .nil .nil) (.node (o251 P) .nil .nil)))))) (.node (o5 P) (.node (o9 P) (.node (o17 P) (.node (o33 P) (.node (o65 P) (.node (o129 P) (.node (o257 P) .nil .nil) .nil) (.node (o193 P) .nil .nil)) (.node (o97 P) (.node (o161 P) (.node (o289 P) .nil .nil) .nil) (.node (o225 P) .nil .nil))) (.node (o49 P) (.node (o81 P) (.node (o145 P) (.node (o273 P) .nil .nil) .nil) (.node (o209 P) .nil .nil)) (.node (o113 P) (.node (o177 P) (.node (o305 P) .nil .nil) .nil) (.node (o241 P) .nil .nil)))) (.node (o25 P) (.node (o41 P) (.node (o73 P) (.node (o137 P) (.node (o265 P) .nil .nil) .nil) (.node (o201 P) .nil .nil)) (.node (o105 P) (.node (o169 P) (.node (o297 P) .nil .nil) .nil) (.node (o233 P) .nil .nil))) (.node (o57 P) (.node (o89 P) (.node (o153 P) (.node (o281 P) .nil .nil) .nil) (.node (o217 P) .nil .nil)) (.node (o121 P) (.node (o185 P) (.node (o313 P) .nil .nil) .nil) (.node (o249 P) .nil .nil))))) (.node (o13 P) (.node (o21 P) (.node (o37 P) (.node (o69 P) (.node (o133 P) (.node (o261 P) .nil .nil) .nil) (.node (o197 P) .nil .nil)) (.node (o101 P) (.node (o165 P) (.node (o293 P) .nil .nil) .nil) (.node (o229 P) .nil .nil))) (.node (o53 P) (.node (o85 P) (.node (o149 P) (.node (o277 P) .nil .nil) .nil) (.node (o213 P) .nil .nil)) (.node (o117 P) (.node (o181 P) (.node (o309 P) .nil .nil) .nil) (.node (o245 P) .nil .nil)))) (.node (o29 P) (.node (o45 P) (.node (o77 P) (.node (o141 P) (.node (o269 P) .nil .nil) .nil) (.node (o205 P) .nil .nil)) (.node (o109 P) (.node (o173 P) (.node (o301 P) .nil .nil) .nil) (.node (o237 P) .nil .nil))) (.node (o61 P) (.node (o93 P) (.node (o157 P) (.node (o285 P) .nil .nil) .nil) (.node (o221 P) .nil .nil)) (.node (o125 P) (.node (o189 P) .nil .nil) (.node (o253 P) .nil .nil))))))) (.node (o2 P) (.node (o4 P) (.node (o8 P) (.node (o16 P) (.node (o32 P) (.node (o64 P) (.node (o128 P) (.node (o256 P) .nil .nil) .nil) (.node (o192 P) .nil .nil)) (.node (o96 P) (.node (o160 P) (.node (o288 P) .nil .nil) .nil) (.node (o224 P) .nil .nil))) (.node (o48 P) (.node (o80 P) (.node (o144 P) (.node (o272 P) .nil .nil) .nil) (.node (o208 P) .nil .nil)) (.node (o112 P) (.node (o176 P) (.node (o304 P) .nil .nil) .nil) (.node (o240 P) .nil .nil)))) (.node (o24 P) (.node (o40 P) (.node (o72 P) (.node (o136 P) (.node (o264 P) .nil .nil) .nil) (.node (o200 P) .nil .nil)) (.node (o104 P) (.node (o168 P) (.node (o296 P) .nil .nil) .nil) (.node (o232 P) .nil .nil))) (.node (o56 P) (.node (o88 P) (.node (o152 P) (.node (o280 P) .nil .nil) .nil) (.node (o216 P) .nil .nil)) (.node (o120 P) (.node (o184 P) (.node (o312 P) .nil .nil) .nil) (.node (o248 P) .nil .nil))))) (.node (o12 P) (.node (o20 P) (.node (o36 P) (.node (o68 P) (.node (o132 P) (.node (o260 P) .nil .nil) .nil) (.node (o196 P) .nil .nil)) (.node (o100 P) (.node (o164 P) (.node (o292 P) .nil .nil) .nil) (.node (o228 P) .nil .nil))) (.node (o52 P) (.node (o84 P) (.node (o148 P) (.node (o276 P) .nil .nil) .nil) (.node (o212 P) .nil .nil)) (.node (o116 P) (.node (o180 P) (.node (o308 P) .nil .nil) .nil) (.node (o244 P) .nil .nil)))) (.node (o28 P) (.node (o44 P) (.node (o76 P) (.node (o140 P) (.node (o268 P) .nil .nil) .nil) (.node (o204 P) .nil .nil)) (.node (o108 P) (.node (o172 P) (.node (o300 P) .nil .nil) .nil) (.node (o236 P) .nil .nil))) (.node (o60 P) (.node (o92 P) (.node (o156 P) (.node (o284 P) .nil .nil) .nil) (.node (o220 P) .nil .nil)) (.node (o124 P) (.node (o188 P) .nil .nil) (.node (o252 P) .nil .nil)))))) (.node (o6 P) (.node (o10 P) (.node (o18 P) (.node (o34 P) (.node (o66 P) (.node (o130 P) (.node (o258 P) .nil .nil) .nil) (.node (o194 P) .nil .nil)) (.node (o98 P) (.node (o162 P) (.node (o290 P) .nil .nil) .nil) (.node (o226 P) .nil .nil))) (.node (o50 P) (.node (o82 P) (.node (o146 P) (.node (o274 P) .nil .nil) .nil) (.node (o210 P) .nil .nil)) (.node (o114 P) (.node (o178 P) (.node (o306 P) .nil .nil) .nil) (.node (o242 P) .nil .nil)))) (.node (o26 P) (.node (o42 P) (.node (o74 P) (.node (o138 P) (.node (o266 P) .nil .nil) .nil) (.node (o202 P) .nil .nil)) (.node (o106 P) (.node (o170 P) (.node (o298 P) .nil .nil) .nil) (.node (o234 P) .nil .nil))) (.node (o58 P) (.node (o90 P) (.node (o154 P) (.node (o282 P) .nil .nil) .nil) (.node (o218 P) .nil .nil)) (.node (o122 P) (.node (o186 P) (.node (o314 P) .nil .nil) .nil) (.node (o250 P) .nil .nil))))) (.node (o14 P) (.node (o22 P) (.node (o38 P) (.node (o70 P) (.node (o134 P) (.node (o262 P) .nil .nil) .nil) (.node (o198 P) .nil .nil)) (.node (o102 P) (.node (o166 P) (.node (o294 P) .nil .nil) .nil) (.node (o230 P) .nil .nil))) (.node (o54 P) (.node (o86 P) (.node (o150 P) (.node (o278 P) .nil .nil) .nil) (.node (o214 P) .nil .nil)) (.node (o118 P) (.node (o182 P) (.node (o310 P) .nil .nil) .nil) (.node (o246 P) .nil .nil)))) (.node (o30 P) (.node (o46 P) (.node (o78 P) (.node (o142 P) (.node (o270 P) .nil .nil) .nil) (.node (o206 P) .nil .nil)) (.node (o110 P) (.node (o174 P) (.node (o302 P) .nil .nil) .nil) (.node (o238 P) .nil .nil))) (.node (o62 P) (.node (o94 P) (.node (o158 P) (.node (o286 P) .nil .nil) .nil) (.node (o222 P) .nil .nil)) (.node (o126 P) (.node (o190 P) .nil .nil) (.node (o254 P) .nil .nil))))))))
noncomputable def Sfin (w : World) (os : OsState) : SharedT := ⟨trfin w.params, 315, {}, Array.mk [], {}, 616, os⟩
noncomputable def hP : Program := hRow.prog
noncomputable def hBd : List Stmt := behindTheImports hP
noncomputable def hEnv : Env := { scope := hP.main.scope, locals := mainNs, globals := mainNs, cells := [], code := .ref 13, frame := some 14 }
noncomputable def hC : Code := .body hBd hEnv
noncomputable def q0 : Pos := ⟨0, 0, 0, 0⟩
noncomputable def sts4 : List Stmt := (hBd.drop 0).take 5
theorem run4 (w : World) (os : OsState) : segRunT treeTable hP w 11 (some (.ref 6)) 1 738 (Spre w os) (piecesOf sts4 hEnv hC q0 [topFrame q0]) = some (.next, S4 w os, hC, ⟨17, 0, 17, 8⟩) := by kernel_rfl
noncomputable def sts5 : List Stmt := (hBd.drop 5).take 1
theorem run5_false (w : World) (os : OsState) : segRunT treeTable hP (w.withFollow "special-get-raises" false) 11 (some (.ref 6)) 1 116 (S4 (w.withFollow "special-get-raises" false) os) (piecesOf sts5 hEnv hC (⟨17, 0, 17, 8⟩ : Pos) [topFrame q0]) = some (.next, S5 (w.withFollow "special-get-raises" false) os, hC, ⟨18, 0, 18, 13⟩) := by kernel_rfl
theorem run5_true (w : World) (os : OsState) : segRunT treeTable hP (w.withFollow "special-get-raises" true) 11 (some (.ref 6)) 1 116 (S4 (w.withFollow "special-get-raises" true) os) (piecesOf sts5 hEnv hC (⟨17, 0, 17, 8⟩ : Pos) [topFrame q0]) = some (.next, S5 (w.withFollow "special-get-raises" true) os, hC, ⟨18, 0, 18, 13⟩) := by kernel_rfl
theorem run5 (w : World) (os : OsState) : segRunT treeTable hP w 11 (some (.ref 6)) 1 116 (S4 w os) (piecesOf sts5 hEnv hC (⟨17, 0, 17, 8⟩ : Pos) [topFrame q0]) = some (.next, S5 w os, hC, ⟨18, 0, 18, 13⟩) :=
  byRow2 "special-get-raises" (P := fun w => segRunT treeTable hP w 11 (some (.ref 6)) 1 116 (S4 w os) (piecesOf sts5 hEnv hC (⟨17, 0, 17, 8⟩ : Pos) [topFrame q0]) = some (.next, S5 w os, hC, ⟨18, 0, 18, 13⟩)) (fun w => run5_false w os) (fun w => run5_true w os) w
noncomputable def sts16 : List Stmt := (hBd.drop 6).take 11
theorem run16 (w : World) (os : OsState) : segRunT treeTable hP w 11 (some (.ref 6)) 1 448 (S5 w os) (piecesOf sts16 hEnv hC (⟨18, 0, 18, 13⟩ : Pos) [topFrame q0]) = some (.next, S16 w os, hC, ⟨71, 0, 79, 40⟩) := by kernel_rfl
noncomputable def sts27 : List Stmt := (hBd.drop 17).take 11
theorem run27 (w : World) (os : OsState) : segRunT treeTable hP w 11 (some (.ref 6)) 1 494 (S16 w os) (piecesOf sts27 hEnv hC (⟨71, 0, 79, 40⟩ : Pos) [topFrame q0]) = some (.next, S27 w os, hC, ⟨169, 0, 169, 10⟩) := by kernel_rfl
noncomputable def stsfin : List Stmt := (hBd.drop 28).take 8
theorem runfin (w : World) (os : OsState) : segRunT treeTable hP w 11 (some (.ref 6)) 1 252 (S27 w os) (piecesOf stsfin hEnv hC (⟨169, 0, 169, 10⟩ : Pos) [topFrame q0]) = some (.next, Sfin w os, hC, ⟨220, 0, 251, 15⟩) := by kernel_rfl
theorem hBd_eq : hBd = sts4 ++ (sts5 ++ (sts16 ++ (sts27 ++ (stsfin ++ [])))) := by kernel_rfl
theorem runPre (w : World) (os : OsState) : topGo treeTable hP w 11 (some (.ref 6)) 12 ⟨boot_heap w.params, Array.mk [], boot_drawn, boot_toks, os⟩ (topStub hP) = some ((Spre w os).abs, ⟨denote treeTable hC, hC, q0, [topFrame q0]⟩) := by kernel_rfl
theorem runBlock (w : World) (os : OsState) : segRun treeTable hP w 11 (some (.ref 6)) 1 1 (Spre w os).abs (blockOf hBd hEnv hC q0 [topFrame q0]) = some (.next, (Spre w os).abs, hC, q0) := by kernel_rfl
theorem runEnd (w : World) (os : OsState) : topRun treeTable hP w 11 (some (.ref 6)) 2 (Sfin w os).abs ⟨doneF .next, hC, ⟨220, 0, 251, 15⟩, [topFrame q0]⟩ = some (Sfin w os).abs := by kernel_rfl
theorem runBody (w : World) (os : OsState) : topRun treeTable hP w 11 (some (.ref 6)) (Nat.add 738 (Nat.add 116 (Nat.add 448 (Nat.add 494 (Nat.add 252 (2)))))) (Spre w os).abs (restOf (sts4 ++ (sts5 ++ (sts16 ++ (sts27 ++ (stsfin ++ []))))) hEnv hC q0 [topFrame q0]) = some (Sfin w os).abs :=
  piece_app (segRun_of (run4 w os)) (piece_app (segRun_of (run5 w os)) (piece_app (segRun_of (run16 w os)) (piece_app (segRun_of (run27 w os)) (piece_app (segRun_of (runfin w os)) (piece_nil (runEnd w os))))))
theorem runAll (w : World) (os : OsState) : topRun treeTable hP w 11 (some (.ref 6)) (Nat.add 12 (Nat.add 1 (Nat.add 738 (Nat.add 116 (Nat.add 448 (Nat.add 494 (Nat.add 252 (2)))))))) ⟨boot_heap w.params, Array.mk [], boot_drawn, boot_toks, os⟩ (topStub hP) = some (Sfin w os).abs := by
  have k := runBody w os
  rw [← hBd_eq] at k
  exact go_top (runPre w os) (piece_block (runBlock w os) k)
theorem openH : ∀ w : World, (fencedOpening treeTable hP w 4212).map (fun s => (s.heap, s.gens, s.drawn, s.toks)) = some (boot_heap w.params, Array.mk [], boot_drawn, boot_toks) :=
  boot_open (by kernel_rfl) (by kernel_rfl) (by intro s; kernel_rfl)
theorem sizeH : ∀ w : World, ((boot_heap w.params).isNs mainGlobals && (Array.mk [] : Array GenState).size == 0, (boot_heap w.params).objs.size, (boot_heap w.params).nsMap mainGlobals "__anno\x74ations__") = (true, 11, some (.ref 6)) := by intro w; kernel_rfl
theorem looksA (w : World) (os : OsState) : (staticsOk (importedModules hP.main.body) (boot_heap w.params) (Sfin w os).abs.heap && namesBound hP (Sfin w os).abs.heap && gensDone (Sfin w os).abs && laidKept (boot_heap w.params) (Sfin w os).abs.heap) = true := by kernel_rfl
theorem looksB (w : World) (os : OsState) : openSeen hd.view_39 hLoose (importedModules hP.main.body) hXt true (Sfin w os).abs = openGood hd.view_39 hLoose := by kernel_rfl
theorem looksC (w : World) (os : OsState) : hYf (Sfin w os).abs = hYa w := by kernel_rfl
theorem hlAll : LeftO hRow.prog hd.view_39 hLoose hXt hYf hYa 4212 := LeftO.of_pieces (p := hP) (H₀ := boot_heap) (H₁ := fun P => absHeap (trfin P) 315 {}) (gs₀ := Array.mk []) (gs₁ := Array.mk []) (d₀ := boot_drawn) (d₁ := {}) (k₀ := boot_toks) (k₁ := 616) (m₀ := 11) (ann := some (.ref 6)) (M := Nat.add 12 (Nat.add 1 (Nat.add 738 (Nat.add 116 (Nat.add 448 (Nat.add 494 (Nat.add 252 (2))))))))
  openH sizeH (fun w os => runAll w os) (by kernel_rfl) (fun w => funext fun os => looks_pair (looksA w os) (looks_pair (looksB w os) (looksC w os)))
end Mine.Hp
theorem Mine.hlAll : LeftO Mine.hRow.prog hd.view_39 Mine.hLoose Mine.hXt Mine.hYf Mine.hYa 4212 := Mine.Hp.hlAll
namespace Mine
theorem wellH : PySem.Challenge.rw_qd0140_01.wellSaid = true := by
  unfold OpenLaw.wellSaid OpenRow.wellSaid OpenRow.partSaid looksOpen
  repeat' with_reducible refine look_both ?_ ?_
  all_goals decide +kernel
end Mine
open PyProof.V (FlatPairs Flat)
namespace Mine
set_option compiler.extract_closed false
section
local macro_rules | `(tactic| walk_at $k:str) => match k.getString with
  | "#k" => `(tactic| (k_asm))
  | "#a" => `(tactic| (assumption))
  | "#o" => `(tactic| (omega))
  | "#m" => `(tactic| (first | k_mem | kst_mem))
  | "#r" => `(tactic| (exact rfl))
  | "#i" => `(tactic| (k_is))
  | "#M" => `(tactic| (k_mem))
  | "#t" => `(tactic| (ktr_units))
  | "#R" => `(tactic| (rfl))
  | "#n" => `(tactic| (exact List.forall_mem_nil _))
  | "#U" => `(tactic| (k_updF))
  | "#s" => `(tactic| (exact $(Lean.mkIdent `sz2000) (by assumption)))
  | "#p" => `(tactic| ((intro p9 h9; kst_mem)))
  | "#v" => `(tactic| (first | omega | (have := $(Lean.mkIdent `nz_of) (by with_reducible assumption); omega)))
  | "#T" => `(tactic| (exact TabAt.ofNews (by k_asm) (by first | k_mem | kst_mem) (by assumption) (by assumption) (by assumption)))
  | "#D" => `(tactic| (decide +kernel))
  | "#q" => `(tactic| (exact $(Lean.mkIdent `die_refuse) _))
  | "#x" => `(tactic| ((intro dx9; k_upd)))
  | "#h" => `(tactic| (exact Upd.head (by assumption)))
  | "#l" => `(tactic| (first | exact .tail _ (by assumption)))
  | "#e" => `(tactic| (k_ne))
  | "#y" => `(tactic| ((intro t9; k_upd)))
  | "#S" => `(tactic| (size_fits))
  | "#X" => `(tactic| (exact $(Lean.mkIdent `meta_exc)))
  | "#H" => `(tactic| (k_handed))
  | "#N" => `(tactic| (exact ⟨_, News.get (by k_asm) (by first | k_mem | kst_mem), rfl, _, rfl⟩))
  | "#z" => `(tactic| (walk_at "zk"))
  | "#d" => `(tactic| (walk_at "zd"))
  | "#u" => `(tactic| (walk_at "zu"))
  | "#E" => `(tactic| (k_dflt k_is))
  | "#f" => `(tactic| ((try dsimp only); (try k_fold)))
  | "#P" => `(tactic| (exact fun p hp => Nat.ne_of_lt ($(Lean.mkIdent `allLt_all) (by assumption) p hp)))
  | "#j" => `(tactic| ((rw [sizeLine_eq]; simp only [List.length_nil, List.length_cons]; omega)))
  | "#Q" => `(tactic| (first | assumption | k_ne))
  | "#w" => `(tactic| (first | exact rfl | assumption))
  | _ => Lean.Macro.throwUnsupported
local macro_rules | `(tactic| walk_at $k:str) => do
  match k.getString.splitOn " " with
  | ["#", f, sp] =>
    let ts ← sp.toList.mapM fun c => if c == '_' then `(?_) else `((by walk_at $(Lean.Syntax.mkStrLit ("#" ++ c.toString))))
    let ts := ts.toArray
    `(tactic| refine' $(Lean.mkIdent f.toName) $ts*)
  | _ => Lean.Macro.throwUnsupported
-- part Bs
section
noncomputable def Stop (p : Prop) : Prop := p
theorem Stop.out {p : Prop} (h : Stop p) : p := h
theorem Stop.in {p : Prop} (h : p) : Stop p := h
noncomputable abbrev tupO (vs : List Value) : Obj := { cls := .type "tuple", data := .seq vs.toArray }
theorem allLt_all {d : Addr} : ∀ {l : List (Addr × Obj)}, AllLt d l → ∀ p ∈ l, p.1 < d
  | [], _ => fun _ h => nomatch h
  | _ :: _, ⟨a, b⟩ => List.forall_mem_cons.mpr ⟨a, allLt_all b⟩
theorem drop2 {h₀ h : Heap} {L : Addr} {p q : Addr × Obj} {news : List (Addr × Obj)} (N : News h₀ L h (p :: q :: news)) : News h₀ L h (p :: news) := by
  refine cb_drop N ?_
  intro y hy
  rcases List.mem_cons.mp hy with rfl | hy
  · exact List.mem_cons_self
  · exact List.mem_cons_of_mem _ (List.mem_cons_of_mem _ hy)
theorem fr_kst {h₀ h : Heap} {L : Addr} {m : Str → Option Value} {ps : List (Str × Value)} (F : Fr h₀ L h m) (hk : ∀ p ∈ ps, m p.1 = some p.2) : Fr h₀ L h (kstB m ps) := by
  have : kstB m ps = m := funext fun z => kstB_eq hk (fun _ => rfl)
  rw [this]; exact F
theorem fr_abs {h₀ h : Heap} {L : Addr} {m : Str → Option Value} {C : Prop} (ps : List (Str × Value)) (F : Fr h₀ L h m) (hk : ∀ p ∈ ps, m p.1 = some p.2) (k : ∀ u, Fr h₀ L h (kstB u ps) → C) : C := k m (fr_kst F hk)
theorem fr_to {h₀ h : Heap} {L : Addr} {m m0 : Str → Option Value} {ps : List (Str × Value)} (F : Fr h₀ L h m) (hk : ∀ p ∈ ps, m p.1 = some p.2) (ho : ∀ z, (∀ p ∈ ps, z ≠ p.1) → [].contains z = false → m z = m0 z) : Fr h₀ L h (kstB m0 ps) := by
  have : kstB m0 ps = m := funext fun z => kstB_eq hk (fun h => (ho z h rfl).symm)
  rw [this]; exact F
theorem cut_execs {M : Model} {A : Around} {st : Stmt} {rest : List Stmt} {env : Env} {Q : Flow → Shared → Prop} {E : Value → Shared → Prop} {s : Shared} (P : Shared → Prop) (tail : ∀ s', P s' → wpAny M A (execs rest env) Q E s') (head : (∀ s', P s' → wpAny M A (execs rest env) Q E s') → wpAny M A (execs (st :: rest) env) Q E s) : wpAny M A (execs (st :: rest) env) Q E s := head tail
theorem use_tail {M : Model} {A : Around} {α : Type} {c : Sem α} {Q : α → Shared → Prop} {E : Value → Shared → Prop} {s : Shared} {P : Shared → Prop} (h : ∀ s', P s' → wpAny M A c Q E s') (hp : Stop (P s)) : wpAny M A c Q E s := h s hp
theorem absQ {M : Model} {A : Around} {α : Type} {c : Sem α} {Q0 : α → Shared → Prop} {E : Value → Shared → Prop} {s : Shared} (h : ∀ Q9 : α → Shared → Prop, (∀ f s2, Q0 f s2 → Q9 f s2) → wpAny M A c Q9 E s) : wpAny M A c Q0 E s := h Q0 fun _ _ q => q
theorem absB {M : Model} {A : Around} {α : Type} {c : Sem Bool} {d : Sem α} {Q0 : α → Shared → Prop} {Qn : Shared → Prop} {E : Value → Shared → Prop} {s : Shared} (h : ∀ Q9 : α → Shared → Prop, (∀ f s2, Q0 f s2 → Q9 f s2) → wpAny M A c (fun b s₂ => if b = true then wpAny M A d Q9 E s₂ else Qn s₂) E s) :
    wpAny M A c (fun b s₂ => if b = true then wpAny M A d Q0 E s₂ else Qn s₂) E s := h Q0 fun _ _ q => q
end
local macro_rules | `(tactic| walk_at $k:str) => if ["InvPostG", "exec While BoolOp cons nil", "exec While Compare cons nil"].contains k.getString then `(tactic| refine Stop.out ?_) else Lean.Macro.throwUnsupported
local macro_rules | `(tactic| walk_at "zk") => `(tactic| first | exact rfl | assumption)
local macro_rules | `(tactic| walk_at "zd") => `(tactic| first | ((try simp only [depth_under_make, depth_under_kw, depth_in1, depth_deeper, depth_caller]); (try dsimp only [ktrTop]); omega) | ktr_room)
local macro_rules | `(tactic| walk_at "zu") => `(tactic| first | ((try simp only [units_in1, units_deeper, Around.mark_units, units_caller]); (try dsimp only [ktrTop]); omega) | ktr_units)
section
local macro_rules | `(tactic| k_all) => `(tactic| assumption)
-- part D1
section
theorem fresh_D1 : True := by
  w_top off
  trivial
theorem digits_call {w : World} {mean : ExcName → Option Value} {mg mb : Str → Option Value}
    {dp un : Nat} {gd : Option (List Code)} {cn : Str} {cs : Scope} {a : Addr} {ccd : Value} {cl : List (Str × Addr)} {outer : List Env} {A₀ : Around} {base h₀ : Heap} {L : Addr} {m : Str → Option Value} {s : Shared} {Q E : Value → Shared → Prop} {news : List (Addr × Obj)}
    (B : Below A₀ base outer h₀) (F : Fr h₀ L s.heap m) (X : (hd.heap_39 w.params).In h₀) (N : News h₀ L s.heap news)
    (T : Top hd.view_39 (looseW hd.view_39 [Str.ofString "SHORT_ESCAPES", Str.ofString "_law_parts"]) mean mg mb h₀) (hkf : cs.kind = .function)
    {text : Str} {tk1 tk2 tk3 tk4 : Tok} {at_ : Int}
    (h0 : 0 ≤ at_) (h1 : at_ + 3 ≤ text.length) (h2 : text.length < 1000)
    (h3 : ∀ k : Int, at_ ≤ k → k < at_ + 3 → Txt.item text k = ⟨#[48]⟩)
    (hdp : dp + 2 < recursionLimit) (hun : un + 16 < cLine)
    (hret : ∀ r t1 t2 h' tk', (∀ p ∈ news, p.1 < r) → Fr h₀ L h' m → News h₀ L h' ((r, tupO [.int 0 t1, .int (at_ + 3) t2]) :: news) → Q (.ref r) { s with heap := h', toks := tk' }) :
    wpAny (model Challenge.rw_qd0140_01.row.prog w) (ktrTop dp un gd cn cs L a ccd cl outer) (call (.ref 80) [.str text tk1, .int at_ tk2, .int 3 tk3, .int 8 tk4]) Q E s := by
  revert X; k_fill; intro X
  have hz : ∀ k : Int, at_ ≤ k → k < at_ + 3 → Txt.find (Str.ofString "0123456789abcdef") (Txt.lower (Txt.item text k)) = 0 := by
    intro k a b; rw [h3 k a b]; decide +kernel
  refine wpAny_call ?_
  k_dflt ktr_enter
  k_steps
  refine Stop.in ?_
  rename Fr _ _ _ _ => lF'
  rename News _ _ _ _ => lN'
  with_unfolding_all refine' ksw_while (σ := Int × Tok × Tok) (fun c => news) (fun c => [(Str.ofString "value", .int 0 c.2.1), (Str.ofString "end", .int c.1 c.2.2)]) (fun c => True) [Str.ofString "digit"] (fun c => at_ ≤ c.1 ∧ c.1 ≤ at_ + 3) (fun c => (at_ + 3 - c.1).toNat) (_, _, _) lF' lN' ?kf ?kk ?kp ?_
  case kk => kst_all
  case kf => trivial
  case kp => constructor <;> omega
  clear lF' lN'
  rintro ⟨e, t1, t2⟩ u h tk hf ⟨hp1, hp2⟩ F1 N1
  (try dsimp only [kstB] at *)
  refine absB fun Q9 hQ9 => ?_
  try k_fold
  k_steps
  · exfalso; have := hz e hp1 (by omega); omega
  · exfalso; have := hz e hp1 (by omega); omega
  · have hq := hz e hp1 (by omega)
    rename Fr _ _ _ _ => F9
    rw [hq] at F9
    refine hQ9 _ _ ?_
    dsimp only [KswPost]
    refine ksw_end (e + 1, _, _) (by assumption) (by assumption) (by kst_in) trivial (by kst_all) (by ksw_same) ⟨by dsimp only; omega, by dsimp only; omega⟩ (by dsimp only; omega)
  · obtain rfl : e = at_ + 3 := by omega
    refine hret _ _ _ _ _ (by assumption) (by assumption) (by assumption)
  · obtain rfl : e = at_ + 3 := by omega
    refine hret _ _ _ _ _ (by assumption) (by assumption) (by assumption)
end
-- part E1
section
theorem fresh_E1 : True := by
  w_top off
  trivial
noncomputable def shorts : List (Nat × Nat) := [(110, 10), (116, 9), (114, 13), (102, 12), (98, 8), (97, 7), (101, 27)]
theorem short_at {e : Nat} {x : Str} {k : Nat} (hs : x = ⟨#[e]⟩) (q : x = ⟨#[k]⟩) : e = k := by
  rw [hs] at q; simpa using q
theorem slice_ne {x : Str} {e : Nat} (hs : x = ⟨#[e]⟩) (q : (x == Str.ofString "") = true) : False := by
  subst hs
  rw [show Str.ofString "" = ⟨#[]⟩ from by decide +kernel] at q
  have := beq_iff_eq.mp q
  simp at this
theorem short_lits : Str.ofString "\n" = ⟨#[10]⟩ ∧ Str.ofString "\t" = ⟨#[9]⟩ ∧ Str.ofString "\r" = ⟨#[13]⟩ ∧ Str.ofString "\x0c" = ⟨#[12]⟩ ∧ Str.ofString "\x08" = ⟨#[8]⟩ ∧ Str.ofString "\x07" = ⟨#[7]⟩ ∧ Str.ofString "\x1b" = ⟨#[27]⟩ := by decide +kernel
local macro_rules | `(tactic| walk_at "compareOp In str str") => `(tactic| (exfalso; simp_all [shorts]; done))

theorem escape_short {w : World} {mean : ExcName → Option Value} {mg mb : Str → Option Value}
    {dp un : Nat} {gd : Option (List Code)} {cn : Str} {cs : Scope} {a : Addr} {ccd : Value} {cl : List (Str × Addr)} {outer : List Env} {A₀ : Around} {base h₀ : Heap} {L : Addr} {m : Str → Option Value} {s : Shared} {Q E : Value → Shared → Prop} {news : List (Addr × Obj)}
    (B : Below A₀ base outer h₀) (F : Fr h₀ L s.heap m) (X : (hd.heap_39 w.params).In h₀) (N : News h₀ L s.heap news)
    (T : Top hd.view_39 (looseW hd.view_39 [Str.ofString "SHORT_ESCAPES", Str.ofString "_law_parts"]) mean mg mb h₀) (hkf : cs.kind = .function)
    {text : Str} {tk1 tk2 : Tok} {at_ : Int} {e o : Nat}
    (h0 : 0 ≤ at_) (h1 : at_ + 1 < text.length) (h2 : text.length < 1000)
    (hs : Txt.slice text (some (at_ + 1)) (some (at_ + 2)) = ⟨#[e]⟩) (hmem : (e, o) ∈ shorts)
    (hdp : dp + 1 < recursionLimit) (hun : un + 8 < cLine)
    (hret : ∀ r t1 t2 h' tk', (∀ p ∈ news, p.1 < r) → Fr h₀ L h' m → News h₀ L h' ((r, tupO [.str ⟨#[o]⟩ t1, .int (at_ + 2) t2]) :: news) → Q (.ref r) { s with heap := h', toks := tk' }) :
    wpAny (model Challenge.rw_qd0140_01.row.prog w) (ktrTop dp un gd cn cs L a ccd cl outer) (call (.ref 101) [.str text tk1, .int at_ tk2]) Q E s := by
  revert X; k_fill; intro X
  obtain ⟨l1, l2, l3, l4, l5, l6, l7⟩ := short_lits
  refine wpAny_call ?_
  k_dflt ktr_enter
  k_steps
  all_goals (first
    | exact (slice_ne hs (by assumption)).elim
    | (have he := short_at hs (by assumption)
       subst he
       simp [shorts] at hmem
       subst hmem
       rename News h₀ _ _ _ => N9
       simp only [l1, l2, l3, l4, l5, l6, l7] at N9
       exact hret _ _ _ _ _ (by assumption) (by assumption) N9))
end
-- part E2
section
theorem fresh_E2 : True := by
  w_top off
  trivial
local macro_rules | `(tactic| walk_at "storeName") => `(tactic| rw [‹Txt.slice _ _ _ = _›])
local macro_rules | `(tactic| walk_at "call ref") => `(tactic| (k_here; k_dflt (walk_at "# digits_call kkkkkzooaadu_"; k_whole; intro r9 t8 t9 h9 tk9 l9 F9 N9; (try k_lt l9); walk_at "#f")))

theorem escape_self {w : World} {mean : ExcName → Option Value} {mg mb : Str → Option Value}
    {dp un : Nat} {gd : Option (List Code)} {cn : Str} {cs : Scope} {a : Addr} {ccd : Value} {cl : List (Str × Addr)} {outer : List Env} {A₀ : Around} {base h₀ : Heap} {L : Addr} {m : Str → Option Value} {s : Shared} {Q E : Value → Shared → Prop} {news : List (Addr × Obj)}
    (B : Below A₀ base outer h₀) (F : Fr h₀ L s.heap m) (X : (hd.heap_39 w.params).In h₀) (N : News h₀ L s.heap news)
    (T : Top hd.view_39 (looseW hd.view_39 [Str.ofString "SHORT_ESCAPES", Str.ofString "_law_parts"]) mean mg mb h₀) (hkf : cs.kind = .function)
    {text : Str} {tk1 tk2 : Tok} {at_ : Int} {c : Nat}
    (h0 : 0 ≤ at_) (h1 : at_ + 1 < text.length) (h2 : text.length < 1000)
    (hs : Txt.slice text (some (at_ + 1)) (some (at_ + 2)) = ⟨#[c]⟩) (hmem : c = 45 ∨ c = 92 ∨ c = 122)
    (hdp : dp + 1 < recursionLimit) (hun : un + 8 < cLine)
    (hret : ∀ r t1 t2 h' tk', (∀ p ∈ news, p.1 < r) → Fr h₀ L h' m → News h₀ L h' ((r, tupO [.str ⟨#[c]⟩ t1, .int (at_ + 2) t2]) :: news) → Q (.ref r) { s with heap := h', toks := tk' }) :
    wpAny (model Challenge.rw_qd0140_01.row.prog w) (ktrTop dp un gd cn cs L a ccd cl outer) (call (.ref 101) [.str text tk1, .int at_ tk2]) Q E s := by
  revert X; k_fill; intro X
  obtain ⟨l1, l2, l3⟩ : Str.ofString "-" = ⟨#[45]⟩ ∧ Str.ofString "\\" = ⟨#[92]⟩ ∧ Str.ofString "z" = ⟨#[122]⟩ := by decide +kernel
  rcases hmem with rfl | rfl | rfl
  all_goals (
    refine wpAny_call ?_
    k_dflt ktr_enter
    k_steps)
  all_goals (first
    | (exfalso; rename List.isEmpty _ = false => q9; revert q9; decide +kernel)
    | (rename News h₀ _ _ _ => N9
       simp only [l1, l2, l3] at N9
       exact hret _ _ _ _ _ (by assumption) (by assumption) N9))

theorem escape_zero {w : World} {mean : ExcName → Option Value} {mg mb : Str → Option Value}
    {dp un : Nat} {gd : Option (List Code)} {cn : Str} {cs : Scope} {a : Addr} {ccd : Value} {cl : List (Str × Addr)} {outer : List Env} {A₀ : Around} {base h₀ : Heap} {L : Addr} {m : Str → Option Value} {s : Shared} {Q E : Value → Shared → Prop} {news : List (Addr × Obj)}
    (B : Below A₀ base outer h₀) (F : Fr h₀ L s.heap m) (X : (hd.heap_39 w.params).In h₀) (N : News h₀ L s.heap news)
    (T : Top hd.view_39 (looseW hd.view_39 [Str.ofString "SHORT_ESCAPES", Str.ofString "_law_parts"]) mean mg mb h₀) (hkf : cs.kind = .function)
    {text : Str} {tk1 tk2 : Tok} {at_ : Int}
    (h0 : 0 ≤ at_) (h1 : at_ + 4 ≤ text.length) (h2 : text.length < 1000)
    (hs : Txt.slice text (some (at_ + 1)) (some (at_ + 2)) = ⟨#[48]⟩)
    (h3 : ∀ k : Int, at_ + 1 ≤ k → k < at_ + 1 + 3 → Txt.item text k = ⟨#[48]⟩)
    (hdp : dp + 4 < recursionLimit) (hun : un + 30 < cLine)
    (hret : ∀ r t1 t2 h' tk', (∀ p ∈ news, p.1 < r) → Fr h₀ L h' m → News h₀ L h' ((r, tupO [.str ⟨#[0]⟩ t1, .int (at_ + 4) t2]) :: news) → Q (.ref r) { s with heap := h', toks := tk' }) :
    wpAny (model Challenge.rw_qd0140_01.row.prog w) (ktrTop dp un gd cn cs L a ccd cl outer) (call (.ref 101) [.str text tk1, .int at_ tk2]) Q E s := by
  revert X; k_fill; intro X
  refine wpAny_call ?_
  k_dflt ktr_enter
  k_steps
  all_goals (first
    | (exfalso; rename List.isEmpty _ = true => q9; revert q9; decide +kernel)
    | (rename News h₀ _ _ _ => N9
       simp only [show Str.ofString "\x00" = ⟨#[0]⟩ from by decide +kernel, show at_ + 1 + 3 = at_ + 4 from by omega] at N9
       exact hret _ _ _ _ _ (allLt_all (And.right (by assumption))) (by assumption) (drop2 N9)))
end
-- part E3
section
theorem fresh_E3 : True := by
  w_top off
  trivial
inductive Atom where
  | plain (c : Nat) | short (e o : Nat) | zero | self (c : Nat)
noncomputable def Atom.cps : Atom → List Nat
  | .plain c => [c] | .short e _ => [92, e] | .zero => [92, 48, 48, 48] | .self c => [92, c]
noncomputable def Atom.code : Atom → Nat
  | .plain c => c | .short _ o => o | .zero => 0 | .self c => c
noncomputable def Atom.grd : Atom → Bool
  | .plain _ => false | _ => true
noncomputable def Atom.ok : Atom → Prop
  | .plain c => c ≠ 92 ∧ c < 128
  | .short e o => (e, o) ∈ shorts
  | .zero => True
  | .self c => c = 45 ∨ c = 92 ∨ c = 122
noncomputable def Atom.len (x : Atom) : Int := (x.cps.length : Int)
noncomputable def EscAt (text : Str) (at_ : Int) : Atom → Prop
  | .plain _ => False
  | .short e o => (e, o) ∈ shorts ∧ at_ + 1 < text.length ∧ Txt.slice text (some (at_ + 1)) (some (at_ + 2)) = ⟨#[e]⟩
  | .self c => (c = 45 ∨ c = 92 ∨ c = 122) ∧ at_ + 1 < text.length ∧ Txt.slice text (some (at_ + 1)) (some (at_ + 2)) = ⟨#[c]⟩
  | .zero => at_ + 4 ≤ text.length ∧ Txt.slice text (some (at_ + 1)) (some (at_ + 2)) = ⟨#[48]⟩ ∧ ∀ k : Int, at_ + 1 ≤ k → k < at_ + 1 + 3 → Txt.item text k = ⟨#[48]⟩

theorem escape_call {w : World} {mean : ExcName → Option Value} {mg mb : Str → Option Value}
    {dp un : Nat} {gd : Option (List Code)} {cn : Str} {cs : Scope} {a : Addr} {ccd : Value} {cl : List (Str × Addr)} {outer : List Env} {A₀ : Around} {base h₀ : Heap} {L : Addr} {m : Str → Option Value} {s : Shared} {Q E : Value → Shared → Prop} {news : List (Addr × Obj)}
    (B : Below A₀ base outer h₀) (F : Fr h₀ L s.heap m) (X : (hd.heap_39 w.params).In h₀) (N : News h₀ L s.heap news)
    (T : Top hd.view_39 (looseW hd.view_39 [Str.ofString "SHORT_ESCAPES", Str.ofString "_law_parts"]) mean mg mb h₀) (hkf : cs.kind = .function)
    {text : Str} {tk1 tk2 : Tok} {at_ : Int} {x : Atom}
    (h0 : 0 ≤ at_) (h2 : text.length < 1000) (hx : EscAt text at_ x)
    (hdp : dp + 4 < recursionLimit) (hun : un + 30 < cLine)
    (hret : ∀ r t1 t2 h' tk', (∀ p ∈ news, p.1 < r) → Fr h₀ L h' m → News h₀ L h' ((r, tupO [.str ⟨#[x.code]⟩ t1, .int (at_ + x.len) t2]) :: news) → Q (.ref r) { s with heap := h', toks := tk' }) :
    wpAny (model Challenge.rw_qd0140_01.row.prog w) (ktrTop dp un gd cn cs L a ccd cl outer) (call (.ref 101) [.str text tk1, .int at_ tk2]) Q E s := by
  cases x with
  | plain c => exact hx.elim
  | short e o => obtain ⟨a1, a2, a3⟩ := hx; exact escape_short B F X N T hkf h0 a2 h2 a3 a1 (by omega) (by omega) hret
  | self c => obtain ⟨a1, a2, a3⟩ := hx; exact escape_self B F X N T hkf h0 a2 h2 a3 a1 (by omega) (by omega) hret
  | zero => obtain ⟨a1, a2, a3⟩ := hx; exact escape_zero B F X N T hkf h0 a1 h2 a2 a3 (by omega) (by omega) hret

local macro_rules | `(tactic| walk_at "call ref") => `(tactic| (k_here; k_dflt (walk_at "# escape_call kkkkkzaaadu_"; k_whole; intro r9 t8 t9 h9 tk9 l9 F9 N9; (try k_lt l9); walk_at "#f")))
theorem guarded_call {w : World} {mean : ExcName → Option Value} {mg mb : Str → Option Value}
    {dp un : Nat} {gd : Option (List Code)} {cn : Str} {cs : Scope} {a : Addr} {ccd : Value} {cl : List (Str × Addr)} {outer : List Env} {A₀ : Around} {base h₀ : Heap} {L : Addr} {m : Str → Option Value} {s : Shared} {Q E : Value → Shared → Prop} {news : List (Addr × Obj)}
    (B : Below A₀ base outer h₀) (F : Fr h₀ L s.heap m) (X : (hd.heap_39 w.params).In h₀) (N : News h₀ L s.heap news)
    (T : Top hd.view_39 (looseW hd.view_39 [Str.ofString "SHORT_ESCAPES", Str.ofString "_law_parts"]) mean mg mb h₀) (hkf : cs.kind = .function)
    {text : Str} {tk1 tk2 : Tok} {at_ : Int} {x : Atom}
    (h0 : 0 ≤ at_) (h2 : text.length < 1000) (hx : EscAt text at_ x)
    (hdp : dp + 5 < recursionLimit) (hun : un + 40 < cLine)
    (hret : ∀ r t1 t2 h' tk', (∀ p ∈ news, p.1 < r) → Fr h₀ L h' m → News h₀ L h' ((r, tupO [.str ⟨#[x.code]⟩ t1, .int (at_ + x.len) t2]) :: news) → Q (.ref r) { s with heap := h', toks := tk' }) :
    wpAny (model Challenge.rw_qd0140_01.row.prog w) (ktrTop dp un gd cn cs L a ccd cl outer) (call (.ref 136) [.str text tk1, .int at_ tk2]) Q E s := by
  revert X; k_fill; intro X
  refine wpAny_call ?_
  k_dflt ktr_enter
  k_steps
  exact hret _ _ _ _ _ (by assumption) (by assumption) (by assumption)
end
-- part T0
section
theorem item_get {x : Str} {i : Int} (h0 : 0 ≤ i) (h1 : i < x.length) : Txt.item x i = ⟨#[x.cps.getD i.toNat 0]⟩ := by
  have h2 : i.toNat < x.cps.size := by show i.toNat < x.length; omega
  unfold Txt.item Txt.charAt seqIndex?
  have e : (if i < 0 then i + (x.length : Int) else i) = i := by rw [if_neg (by omega)]
  simp only [e]
  rw [if_pos (by simp; exact ⟨h0, h1⟩)]
  simp [Array.getD, h2]
theorem slice_get {x : Str} {i : Int} (h0 : 0 ≤ i) (h1 : i + 1 < x.length) : Txt.slice x (some (i + 1)) (some (i + 2)) = ⟨#[x.cps.getD (i + 1).toNat 0]⟩ := by
  have := slice_one_closes (x := x) (n := i + 1) (by omega) h1
  rw [show i + 2 = i + 1 + 1 by omega]
  exact beq_iff_eq.mp this
noncomputable def cpsOf (as : List Atom) : List Nat := as.flatMap Atom.cps
noncomputable def strOf (as : List Atom) : Str := ⟨(cpsOf as).toArray⟩
theorem strOf_len (as : List Atom) : (strOf as).length = (cpsOf as).length := by simp [strOf, Str.length]
theorem cpsOf_app (as bs : List Atom) : cpsOf (as ++ bs) = cpsOf as ++ cpsOf bs := by simp [cpsOf]
theorem cps_at (d r : List Atom) (y : Atom) (j : Nat) (hj : j < y.cps.length) : (strOf (d ++ y :: r)).cps.getD ((cpsOf d).length + j) 0 = y.cps.getD j 0 := by
  simp only [strOf, cpsOf, List.flatMap_append, List.flatMap_cons, Array.getD_eq_getD_getElem?, List.getElem?_toArray]
  rw [List.getElem?_append_right (by omega), List.getElem?_append_left (by omega)]
  simp
theorem len_split (d r : List Atom) (y : Atom) : (strOf (d ++ y :: r)).length = (cpsOf d).length + (y.cps.length + (cpsOf r).length) := by
  rw [strOf_len, cpsOf_app]
  simp [cpsOf]
theorem cps_pos (y : Atom) : 1 ≤ y.cps.length := by cases y <;> simp [Atom.cps]
theorem item_at (d r : List Atom) (y : Atom) : Txt.item (strOf (d ++ y :: r)) ((cpsOf d).length : Int) = ⟨#[y.cps.getD 0 0]⟩ := by
  have h := cps_pos y
  rw [item_get (by omega) (by rw [len_split]; omega), ← cps_at d r y 0 (by omega)]
  simp
theorem esc_at (d r : List Atom) (y : Atom) (ok : y.ok) (hg : y.grd = true) : EscAt (strOf (d ++ y :: r)) ((cpsOf d).length : Int) y := by
  have hl := len_split d r y
  have hc := cps_at d r y
  cases y with
  | plain c => cases hg
  | short e o =>
    refine ⟨ok, by rw [hl]; simp [Atom.cps]; omega, ?_⟩
    rw [slice_get (by omega) (by rw [hl]; simp [Atom.cps]; omega), show ((((cpsOf d).length : Int)) + 1).toNat = (cpsOf d).length + 1 by omega, hc 1 (by simp [Atom.cps])]
    simp [Atom.cps]
  | self c =>
    refine ⟨ok, by rw [hl]; simp [Atom.cps]; omega, ?_⟩
    rw [slice_get (by omega) (by rw [hl]; simp [Atom.cps]; omega), show ((((cpsOf d).length : Int)) + 1).toNat = (cpsOf d).length + 1 by omega, hc 1 (by simp [Atom.cps])]
    simp [Atom.cps]
  | zero =>
    refine ⟨by rw [hl]; simp [Atom.cps]; omega, ?_, ?_⟩
    · rw [slice_get (by omega) (by rw [hl]; simp [Atom.cps]; omega), show ((((cpsOf d).length : Int)) + 1).toNat = (cpsOf d).length + 1 by omega, hc 1 (by simp [Atom.cps])]
      simp [Atom.cps]
    · intro k h1 h2
      obtain ⟨j, rfl⟩ : ∃ j : Nat, k = ((cpsOf d).length : Int) + j := ⟨(k - (cpsOf d).length).toNat, by omega⟩
      have h3 : 1 ≤ j ∧ j < 4 := by omega
      rw [item_get (by omega) (by rw [hl]; simp [Atom.cps]; omega), show ((((cpsOf d).length : Int)) + (j : Int)).toNat = (cpsOf d).length + j by omega, hc j (by simp [Atom.cps]; omega)]
      obtain ⟨a, b⟩ := h3
      have : j = 1 ∨ j = 2 ∨ j = 3 := by omega
      rcases this with rfl | rfl | rfl <;> simp [Atom.cps]
theorem bar_no {c : Nat} (h : c ≠ 92) : ((⟨#[c]⟩ : Str) == Str.ofString "\\") = false := by
  rw [show Str.ofString "\\" = ⟨#[92]⟩ from by decide +kernel]
  simp [h]
theorem bar_yes : ((⟨#[92]⟩ : Str) == Str.ofString "\\") = true := by decide +kernel
theorem esc_first (y : Atom) (hg : y.grd = true) : y.cps.getD 0 0 = 92 := by cases y <;> first | (cases hg; done) | simp [Atom.cps]
end
-- part P0
section
inductive All2 {α β : Type} (R : α → β → Prop) : List α → List β → Prop
  | nil : All2 R [] []
  | cons {a b as bs} : R a b → All2 R as bs → All2 R (a :: as) (b :: bs)
theorem All2.snoc {α β : Type} {R : α → β → Prop} {as : List α} {bs : List β} {a : α} {b : β} (h : All2 R as bs) (h2 : R a b) : All2 R (as ++ [a]) (bs ++ [b]) := by
  induction h with
  | nil => exact .cons h2 .nil
  | cons r _ ih => exact .cons r ih
theorem All2.mono {α β : Type} {R S : α → β → Prop} (hs : ∀ a b, R a b → S a b) {as : List α} {bs : List β} (h : All2 R as bs) : All2 S as bs := by
  induction h with
  | nil => exact .nil
  | cons r _ ih => exact .cons (hs _ _ r) ih
theorem All2.length {α β : Type} {R : α → β → Prop} {as : List α} {bs : List β} (h : All2 R as bs) : as.length = bs.length := by
  induction h with
  | nil => rfl
  | cons r _ ih => simp [ih]
noncomputable abbrev Sgn := Int × Bool
noncomputable def Atom.sgn (x : Atom) : Sgn := ((x.code : Int), x.grd)
noncomputable def SgIn (P : Params) (news : List (Addr × Obj)) (v : Value) (s : Sgn) : Prop :=
  ∃ a t, v = .ref a ∧ ((hd.heap_39 P).lookup a = some (tupO [.int s.1 t, .bool s.2]) ∨ (a, tupO [.int s.1 t, .bool s.2]) ∈ news)
theorem SgIn.mono {P : Params} {n n' : List (Addr × Obj)} (hs : ∀ p ∈ n, p ∈ n') {v : Value} {s : Sgn} (h : SgIn P n v s) : SgIn P n' v s := by
  obtain ⟨a, t, e, h⟩ := h
  exact ⟨a, t, e, h.imp id (hs _)⟩
theorem SgIn.at {P : Params} {n : List (Addr × Obj)} {v : Value} {s : Sgn} {h₀ h : Heap} {L : Addr} {m : Str → Option Value} (h9 : SgIn P n v s) (X : (hd.heap_39 P).In h₀) (F : Fr h₀ L h m) (N : News h₀ L h n) :
    ∃ a t, v = .ref a ∧ h.get? a = some (tupO [.int s.1 t, .bool s.2]) := by
  obtain ⟨a, t, e, q | q⟩ := h9
  · exact ⟨a, t, e, F.keep _ _ (X _ _ q)⟩
  · exact ⟨a, t, e, N.get q⟩
theorem All2.get {α β : Type} {R : α → β → Prop} {as : List α} {bs : List β} (h : All2 R as bs) {i : Nat} {b : β} (hi : bs[i]? = some b) : ∃ a, as[i]? = some a ∧ R a b := by
  induction h generalizing i with
  | nil => simp at hi
  | cons r _ ih =>
    cases i with
    | zero => simp at hi; subst hi; exact ⟨_, rfl, r⟩
    | succ i => simpa using ih (by simpa using hi)
theorem All2.app {α β : Type} {R : α → β → Prop} {as cs : List α} {bs ds : List β} (h : All2 R as bs) (k : All2 R cs ds) : All2 R (as ++ cs) (bs ++ ds) := by
  induction h with
  | nil => exact k
  | cons r _ ih => exact .cons r ih
noncomputable def cutS (a : Int) (r : List Sgn) : Int × List Sgn := match r with
  | x :: y :: r2 => if x = (45, false) then (y.1, r2) else (a, r)
  | _ => (a, r)
theorem cutS_len (a : Int) (r : List Sgn) : (cutS a r).2.length ≤ r.length := by
  unfold cutS
  split
  · split <;> simp <;> omega
  · simp
noncomputable def rangeL (a b : Int) : List Int := rangeKs a (b + 1 - a).toNat
noncomputable def laidF (most : Int) : Nat → List Sgn → List Int → Option (List Int)
  | _, [], f => some f
  | 0, _ :: _, _ => none
  | n + 1, s :: r, f => if (cutS s.1 r).1 < s.1 ∨ (f.length : Int) + (cutS s.1 r).1 - s.1 ≥ most then none else laidF most n (cutS s.1 r).2 (f ++ rangeL s.1 (cutS s.1 r).1)
noncomputable def laid (most : Int) (l : List Sgn) (f : List Int) : Option (List Int) := laidF most l.length l f
theorem laidF_any (most : Int) : ∀ (n m : Nat) (l : List Sgn) (f : List Int), l.length ≤ n → l.length ≤ m → laidF most n l f = laidF most m l f
  | 0, 0, [], _, _, _ => rfl
  | 0, _ + 1, [], _, _, _ => rfl
  | _ + 1, 0, [], _, _, _ => rfl
  | _ + 1, _ + 1, [], _, _, _ => rfl
  | 0, _, _ :: _, _, h, _ => absurd h (Nat.not_succ_le_zero _)
  | _ + 1, 0, _ :: _, _, _, k => absurd k (Nat.not_succ_le_zero _)
  | n + 1, m + 1, s :: r, f, h, k => by
    have c := cutS_len s.1 r
    show ite _ _ _ = ite _ _ _
    rw [laidF_any most n m _ _ (Nat.le_trans c (Nat.le_of_succ_le_succ h)) (Nat.le_trans c (Nat.le_of_succ_le_succ k))]
theorem laid_nil (most : Int) (f : List Int) : laid most [] f = some f := rfl
theorem laid_cons (most : Int) (s : Sgn) (r : List Sgn) (f : List Int) : laid most (s :: r) f = if (cutS s.1 r).1 < s.1 ∨ (f.length : Int) + (cutS s.1 r).1 - s.1 ≥ most then none else laid most (cutS s.1 r).2 (f ++ rangeL s.1 (cutS s.1 r).1) := by
  show ite _ _ (laidF most r.length _ _) = ite _ _ (laidF most _ _ _)
  rw [laidF_any most r.length _ _ _ (cutS_len s.1 r) (Nat.le_refl _)]
end
-- part S1
section
theorem fresh_S1 : True := by
  w_top off
  trivial
theorem len_le (d : List Atom) : d.length ≤ (cpsOf d).length := by
  induction d with
  | nil => exact Nat.zero_le _
  | cons y r ih =>
    have := cps_pos y
    have e : cpsOf (y :: r) = y.cps ++ cpsOf r := by simp [cpsOf]
    rw [e, List.length_append, List.length_cons]; omega
theorem memA {α : Type} {a b : α} {l1 l2 : List α} : ∀ p ∈ a :: ((b :: l1) ++ l2), p ∈ b :: a :: (l1 ++ l2) := by
  intro p hp; simp only [List.mem_cons, List.mem_append, List.cons_append] at hp ⊢; rcases hp with h | h | h | h <;> simp [h]
theorem memB {α : Type} {a b c : α} {l1 l2 : List α} : ∀ p ∈ a :: ((b :: l1) ++ l2), p ∈ b :: c :: a :: (l1 ++ l2) := by
  intro p hp; simp only [List.mem_cons, List.mem_append, List.cons_append] at hp ⊢; rcases hp with h | h | h | h <;> simp [h]
theorem eq_str_known {prog : Program} {w : World} {A : Around} {E : Value → Shared → Prop} {s : Shared} {x y : Str} {t u : Tok} {b : Bool} {Q : Value → Shared → Prop} (hb : (x == y) = b) (h : Q (.bool b) s) : wpAny (model prog w) A (compareOp .Eq (.str x t) (.str y u)) Q E s :=
  PyProof.Rows.eq_str (by rw [hb]; exact h)
local macro_rules | `(tactic| walk_at "compareOp Eq str str") => `(tactic| (k_here; walk_at "# eq_str_known a_"))
local macro_rules | `(tactic| walk_at "call builtin:ord") => `(tactic| (k_here; rw [‹Txt.item _ _ = _›]))
local macro_rules | `(tactic| walk_at "call ref") => `(tactic| (k_here; k_dflt (walk_at "# guarded_call kkkkkzoaadu_"; k_whole; intro r9 t8 t9 h9 tk9 l9 F9 N9; (try k_lt l9); walk_at "#f")))

theorem signs_call {w : World} {mean : ExcName → Option Value} {mg mb : Str → Option Value}
    {dp un : Nat} {gd : Option (List Code)} {cn : Str} {cs : Scope} {a : Addr} {ccd : Value} {cl : List (Str × Addr)} {outer : List Env} {A₀ : Around} {base h₀ : Heap} {L : Addr} {m : Str → Option Value} {s : Shared} {Q E : Value → Shared → Prop} {news : List (Addr × Obj)}
    (B : Below A₀ base outer h₀) (F : Fr h₀ L s.heap m) (X : (hd.heap_39 w.params).In h₀) (N : News h₀ L s.heap news)
    (T : Top hd.view_39 (looseW hd.view_39 [Str.ofString "SHORT_ESCAPES", Str.ofString "_law_parts"]) mean mg mb h₀) (hkf : cs.kind = .function)
    {atoms : List Atom} {tk1 : Tok} (hok : ∀ x ∈ atoms, x.ok) (hlen : (strOf atoms).length < 1000)
    (hdp : dp + 8 < recursionLimit) (hun : un + 80 < cLine)
    (hret : ∀ l vs n tups h' tk', (∀ p ∈ news, p.1 < l) → (∀ q ∈ tups, ∀ p ∈ news, p.1 < q.1) → (∀ q ∈ tups, q.1 ≠ l) → Fr h₀ L h' m → News h₀ L h' ((l, listOf vs.toArray n) :: (tups ++ news)) → All2 (SgIn w.params tups) vs (atoms.map Atom.sgn) → Q (.ref l) { s with heap := h', toks := tk' }) :
    wpAny (model Challenge.rw_qd0140_01.row.prog w) (ktrTop dp un gd cn cs L a ccd cl outer) (call (.ref 143) [.str (strOf atoms) tk1]) Q E s := by
  revert X; k_fill; intro X
  refine wpAny_call ?_
  k_dflt ktr_enter
  k_steps
  refine Stop.in ?_
  rename Fr _ _ _ _ => lF'
  rename News _ _ _ _ => lN'
  rename_i lq _ hl1 _ _
  with_unfolding_all refine' ksw_while (σ := List Atom × List Atom × Int × Tok × List Value × Nat × List (Addr × Obj)) (fun c => (lq, listOf c.2.2.2.2.1.toArray c.2.2.2.2.2.1) :: (c.2.2.2.2.2.2 ++ news)) (fun c => [(Str.ofString "found", .ref lq), (Str.ofString "at", .int c.2.2.1 c.2.2.2.1)]) (fun c => True) [Str.ofString "sign"] (fun c => c.1 ++ c.2.1 = atoms ∧ c.2.2.1 = (cpsOf c.1).length ∧ All2 (SgIn w.params c.2.2.2.2.2.2) c.2.2.2.2.1 (c.1.map Atom.sgn) ∧ (∀ q ∈ c.2.2.2.2.2.2, ∀ p ∈ news, p.1 < q.1) ∧ (∀ q ∈ c.2.2.2.2.2.2, q.1 ≠ lq)) (fun c => c.2.1.length) ([], atoms, _, _, [], _, []) lF' lN' ?kf ?kk ?kp ?_
  case kk => kst_all
  case kf => trivial
  case kp => exact ⟨rfl, rfl, .nil, List.forall_mem_nil _, List.forall_mem_nil _⟩
  clear lF' lN'
  rintro ⟨d, r, at_, t1, vs, n, tups⟩ u h tk hf ⟨hp1, hp2, hp3, hp4, hp5⟩ F1 N1
  (try dsimp only [kstB] at *)
  have hL := strOf_len atoms
  have hA : 0 ≤ at_ := by omega
  have hoff : ∀ p ∈ tups ++ news, p.1 ≠ lq := fun p hp => (List.mem_append.mp hp).elim (hp5 p) fun h => Nat.ne_of_lt (hl1 p h)
  have hvs : vs.length < 1000 := by
    have h1 := hp3.length
    rw [List.length_map] at h1
    have h2 : d.length ≤ (cpsOf d).length := len_le d
    have h3 : (cpsOf d).length ≤ (cpsOf atoms).length := by rw [← hp1, cpsOf_app]; simp
    omega
  cases r with
  | nil =>
    have hend : ¬ at_ < ((strOf atoms).length : Int) := by rw [hL, ← hp1, hp2]; simp
    try k_unmd
    k_fold
    k_steps
    exact hret _ _ _ _ _ _ hl1 hp4 hp5 (by assumption) (by assumption) (by rw [← hp1, List.append_nil]; exact hp3)
  | cons y r =>
    have hlt : at_ < ((strOf atoms).length : Int) := by rw [← hp1, len_split]; have := cps_pos y; omega
    have hit : Txt.item (strOf atoms) at_ = ⟨#[y.cps.getD 0 0]⟩ := by rw [← hp1, hp2]; exact item_at d r y
    have hy := hok y (by rw [← hp1]; simp)
    cases hg : y.grd with
    | false =>
      have hbar : (Txt.item (strOf atoms) at_ == Str.ofString "\\") = false := by
        rw [hit]; cases y <;> first | (cases hg; done) | exact bar_no hy.1
      obtain ⟨c, rfl⟩ : ∃ c, y = .plain c := by cases y <;> first | (cases hg; done) | exact ⟨_, rfl⟩
      replace hit : Txt.item (strOf atoms) at_ = ⟨#[c]⟩ := hit
      refine absB fun Q9 hQ9 => ?_
      try k_unmd
      try k_fold
      k_steps
      refine hQ9 _ _ ?_
      dsimp only [KswPost]
      rename News _ _ _ _ => N9
      simp only [List.push_toArray] at N9
      rename_i l1 _ _ _
      exact ksw_end (d ++ [.plain c], r, at_ + 1, _, vs ++ [_], n + 1, _ :: tups) (by assumption) N9 memA trivial (by kst_all) (by ksw_same)
        ⟨by rw [← hp1, List.append_assoc]; rfl, by dsimp only; rw [hp2, cpsOf_app, List.length_append]; rfl,
         by dsimp only; rw [List.map_append]; exact (hp3.mono fun _ _ => SgIn.mono fun _ => List.mem_cons_of_mem _).snoc ⟨_, _, rfl, .inr List.mem_cons_self⟩,
         List.forall_mem_cons.mpr ⟨fun p hp => allLt_all l1.2 p (List.mem_append.mpr (.inr hp)), hp4⟩, List.forall_mem_cons.mpr ⟨Nat.ne_of_gt l1.1, hp5⟩⟩ (by dsimp only; simp)
    | true =>
      have hbar : (Txt.item (strOf atoms) at_ == Str.ofString "\\") = true := by
        rw [hit, esc_first y hg]; exact bar_yes
      have hesc : EscAt (strOf atoms) at_ y := by rw [← hp1, hp2]; exact esc_at d r y hy hg
      have hlt2 : at_ + 1 < ((strOf atoms).length : Int) := by
        revert hesc; cases y <;> simp only [EscAt] <;> intro q <;> first | exact q.elim | omega
      refine absB fun Q9 hQ9 => ?_
      try k_unmd
      try k_fold
      k_steps
      refine hQ9 _ _ ?_
      dsimp only [KswPost]
      rename News _ _ _ _ => N9
      simp only [List.push_toArray] at N9
      rename_i l1 _ _
      exact ksw_end (d ++ [y], r, at_ + y.len, _, vs ++ [_], n + 1, _ :: tups) (by assumption) N9 memB trivial (by kst_all) (by ksw_same)
        ⟨by rw [← hp1, List.append_assoc]; rfl, by dsimp only; rw [hp2, cpsOf_app, List.length_append]; simp [cpsOf, Atom.len],
         by dsimp only; rw [List.map_append]; exact (hp3.mono fun _ _ => SgIn.mono fun _ => List.mem_cons_of_mem _).snoc ⟨_, _, rfl, .inr (by rw [show y.sgn.2 = true from hg]; exact List.mem_cons_self)⟩,
         List.forall_mem_cons.mpr ⟨fun p hp => allLt_all l1.2.2 p (List.mem_append.mpr (.inr hp)), hp4⟩, List.forall_mem_cons.mpr ⟨Nat.ne_of_gt l1.2.1, hp5⟩⟩ (by dsimp only; simp)
end
-- part X1
section
section
variable {prog : Program} {w : World} {A : Around} {h : Heap} {g : Array GenState} {d : Drawn} {t : Nat} {os : OsState}
variable {nm q : Str} {C N : Addr} {bs bm : List Value} {hdct : Bool} {sn : List Str} {sub : List Value} {ab : Bool} {col : Option Bool} {dd : Option Addr} {k0 k1 k2 k3 k5 : Option Value} {K : Frag}

structure BmOk (C : Addr) (bm : List Value) : Prop where
  exc : (Value.ref C :: bm).contains (.type "Exception") = true
  noAttr : (Value.ref C :: bm).contains (.type "AttributeError") = false
  noName : (Value.ref C :: bm).contains (.type "NameError") = false

theorem own_check_new {M : Model} {E : Value → Shared → Prop} (Z : BmOk C bm) {rest : List Value} {Q : Unit → Shared → Prop} (hC : h.get? C = some (excClassObj nm q C N bs bm hdct sn sub ab col dd k0 k1 k2 k3 k5 "Exception.__new__"))
    (hq : Q () ⟨h, g, d, t, os⟩) : wpAny M A (checkBuiltinCall "Exception.__new__" ⟨.ref C :: rest, []⟩) Q E ⟨h, g, d, t, os⟩ := by
  have hcont := Z.exc
  have F := PySem.F.excBase_Exception
  have hstar := F.noStar
  simp only [checkBuiltinCall, F.newKind, F.newSplit, F.newRow]
  repeat (first | refine wpAny_loadPart_at hC ?_ | (refine wpAny_isSubtype_exc hC ?_; rw [hcont]) | refine wpAny_staticBase_exc hC ?_ | refine wpAny_madeBy_exc hC ?_ | simp only [bne_self_eq_false, Bool.false_eq_true, if_false] | wp_step)
  exact hq
theorem own_new {R : Result → Shared → Prop} (Z : BmOk C bm) {rest : List Value} (hC : h.get? C = some (excClassObj nm q C N bs bm hdct sn sub ab col dd k0 k1 k2 k3 k5 "Exception.__new__"))
    (hq : R (.ok (.ret (.ref (h.objs.size + 1)))) ⟨(h.push { cls := .type "tuple", data := .seq rest.toArray }).push
      { cls := .ref C, data := .fields #[.ref h.objs.size, .none, .none, .none, .bool false, .none] }, g, d, t, os⟩) (hrest : rest.length ≤ sizeLine := by size_fits) :
    codeAny (model prog w) A (.builtin "Exception.__new__" ⟨.ref C :: rest, []⟩) R ⟨h, g, d, t, os⟩ := by
  have F := PySem.F.excBase_Exception
  have hends := F.ends
  have hcB := Z.exc
  have hcA := Z.noAttr
  have hcN := Z.noName
  refine codeAny_builtinAt F.entry ?_
  unfold Builtin.«BaseException.__new__»
  refine PySem.wpAt_bind ?_
  show PySem.wpAt _ _ _ (stack >>= _) _ _ _
  refine PySem.wpAt_bind (PySem.wpAt_stack fun p below => PySem.wpAt_of_wpAny ?_)
  wp_walk
  refine PySem.wpAt_of_wpAny ?_
  rw [F.owner]
  repeat (first | with_reducible refine wpAny_madeHere_exc F.canon hC ?_ | with_reducible refine wpAny_loadPart_at hC ?_ | (with_reducible refine wpAny_isSubtype_exc hC ?_; first | rw [hcB] | rw [hcA] | rw [hcN]) | wp_step)
  show R _ _
  rw [Heap.size_push]
  exact hq

theorem own_call {E : Value → Shared → Prop} (Z : BmOk C bm) {rest : List Value} {fI : Addr} {Q : Value → Shared → Prop} (X : K.In h)
    (hC : h.get? C = some (excClassObj nm q C N bs bm hdct sn sub ab col dd k0 k1 k2 k3 k5 "Exception.__new__"))
    (hi : findIn K (.ref C) "__init__" = some (some (.ref fI))) (hf : typeIn K (.ref fI) = some (.type "function"))
    (hq : wpAny (model prog w) (A.under (.builtin "type.__call__" ⟨.ref C :: rest, []⟩)) (call (.ref fI) (.ref (h.objs.size + 1) :: rest)) (fun r s' => r = .none ∧ Q (.ref (h.objs.size + 1)) s') E
      ⟨(h.push { cls := .type "tuple", data := .seq rest.toArray }).push { cls := .ref C, data := .fields #[.ref h.objs.size, .none, .none, .none, .bool false, .none] }, g, d, t, os⟩) (hrest : rest.length ≤ sizeLine := by size_fits) :
    wpAny (model prog w) A (call (.ref C) rest) Q E ⟨h, g, d, t, os⟩ := by
  have f1 := tc_lookup
  have f2 := tc_bind (.ref C)
  have F := PySem.F.excBase_Exception
  have hT : (⟨h, g, d, t, os⟩ : Shared).TypeIs (.ref C) "type" := ⟨_, hC, rfl⟩
  refine wpAny_call (codeAny_of_tree ?_)
  show wpAny _ _ (callAny (.ref C) _) _ _ _
  repeat (any_goals (first | assumption | with_reducible refine wpAny_loadPart_at hC ?_ | wp_step))
  refine ⟨rfl, ?_⟩
  refine codeAny_call_builtin_at (Code.quiet_builtin _ (by decide +kernel)) entry_typeCall (wpAny_check_type_call_sub hC ?_)
  repeat (first | with_reducible refine wpAny_loadPart_at hC ?_ | with_reducible refine wpAny_madeBy_exc hC ?_ | wp_step)
  refine codeAny_call_builtin_code (Code.quiet_builtin _ F.quiet) (own_check_new Z hC ?_)
  refine own_new Z hC ?_ hrest
  show wpAny _ _ _ _ _ _
  have k : ∀ b o, h.get? b = some o → ((h.push { cls := .type "tuple", data := .seq rest.toArray }).push { cls := .ref C, data := .fields #[.ref h.objs.size, .none, .none, .none, .bool false, .none] }).get? b = some o := fun b o e => Heap.get?_push_of_some _ (Heap.get?_push_of_some _ e)
  have hC₁ := k _ _ hC
  have X₁ := X.keeps k
  have hget : ((h.push { cls := .type "tuple", data := .seq rest.toArray }).push
      { cls := .ref C, data := .fields #[.ref h.objs.size, .none, .none, .none, .bool false, .none] }).get? (h.objs.size + 1) = some
      { cls := .ref C, data := .fields #[.ref h.objs.size, .none, .none, .none, .bool false, .none] } := by heap_get
  have hcC : (Value.ref C :: bm).contains (.ref C) = true := by simp
  unfold isInstance
  repeat (first | with_reducible refine wpAny_loadPart_at hget ?_ | (with_reducible refine wpAny_isSubtype_exc hC₁ ?_; rw [hcC]) | wp_step)
  dsimp only
  refine wpAny_isSubtype_exc hC₁ ?_
  rw [hcC]
  repeat (first | with_reducible refine wpAny_loadPart_at hget ?_ | wp_step)
  show wpAny _ _ (typeLookup (.ref C) _) _ _ _
  refine (looks_findIn X₁ hi).here ?_
  refine wpAny_holding (wpAny_bind ?_)
  refine (bind_fn X₁ _ hf).here ?_
  refine wpAny_bind (wpAny_mono hq (fun r s' hr => ?_) fun _ _ x => x)
  obtain ⟨rfl, hQ⟩ := hr
  wp_walk
  exact hQ
end
end
-- part X2
section
theorem upd_led {d : Addr} {o o' : Obj} {l l' : List (Addr × Obj)} {h₀ h : Heap} {L : Addr} {m : Str → Option Value} {f : Obj → Obj} (U : Upd d o o' l l') (F : Fr h₀ L h m) (N : News h₀ L h l) (e : f o = o') (hf : o'.isFreed = false) :
    Fr h₀ L (h.update d f) m ∧ News h₀ L (h.update d f) l' := by
  obtain ⟨pre, post, rfl, rfl, h1, h2⟩ := U.split
  exact news_upd F N h1 h2 e hf
section
open PySem.Builtin PySem.Builtin.ObjectAttr
variable {prog : Program} {w : World} {A : Around} {E : Value → Shared → Prop} {K : Frag} {C x L : Addr} {s : Shared} {h₀ : Heap} {m : Str → Option Value} {news : List (Addr × Obj)} {R : Result → Shared → Prop} {Q : Unit → Shared → Prop} {name : Str} {v : Value} {cd : ClassData}

theorem own_osa {ox : Obj} {od : Option Obj} {tk : Tok} (X : K.In s.heap) (I : InstAt s.heap x ox C od) (hc : clsIn K C = some cd) (hp : refuseLoop (.ref x) "__setattr__" cd.mro = pure ()) (ho : cd.mro.contains (.type "object") = true) (ht : findIn K (.ref C) name = some none)
    (h : ∀ b, wpAny (model prog w) A.in1 (storeInOwnDict (.ref x) (.ref C) (.str name tk) name v b)
      (fun fin s' => match fin with | .done f => R (.ok f) s' | .again c' => c'.quiet = true ∧ codeAny (model prog w) A c' R s') (fun e s' => R (.error e) s') s) :
    codeAny (model prog w) A (.call (.builtin "object.__setattr__") ⟨[.ref x, .str name tk, v], []⟩) R s := by
  have SF := PySem.F.store_object
  have ne : cd.mro.isEmpty = false := by cases q : cd.mro with | nil => rw [q] at ho; cases ho | cons _ _ => rfl
  have sub : Looks (model prog w) s.heap (isInstance (.ref x) (.type "object")) true := I.type.andThen (looks_mroIn X (by unfold mroIn; rw [hc, Option.bind_some, if_neg (by rw [ne]; decide), ho]))
  refine codeAny_call_builtin SF.slot.plain SF.entry (@check_slot (model prog w) _ _ s "object.__setattr__" "object" "__setattr__" (.ref x) [.str name tk, v] [] _ SF.kind SF.split sub (SF.args (.ref x) (.str name tk) v) ?_)
  have hm : Looks (model prog w) s.heap (mroOf (.ref C)) cd.mro := (looks_clsIn X hc).andThen .now
  rw [osa_eq, refuse_eq]
  refine wpAny_bind (wpAny_bind (I.type.here (wpAny_bind (hm.here ?_))))
  rw [hp]
  refine wpAny_pure (wpAny_bind (I.type.here (wpAny_bind ((looks_findIn X ht).here (wpAny_bind (wpAny_pure ?_))))))
  exact h _

theorem own_put {dx : Addr} {es : List DictEntry} {n : Nat} {tk : Tok} {Q : Fin → Shared → Prop} (F : Fr h₀ L s.heap m) {news' : List (Addr × Obj)} (N : News h₀ L s.heap news)
    (U : Upd dx (dictOf es n) (dictOf (putL name (PyData.keyHash w.params name) (.str name s.toks) v es) (putN name es n)) news news') (hl : (getL name es).isSome = true) (hz : es.length < 1000)
    (h : ∀ h', Fr h₀ L h' m → News h₀ L h' news' → Q (.done (.ret .none)) { s with heap := h', toks := s.toks + 1 }) :
    wpAny (model prog w) A (storeInDict dx (.str name tk) name v) Q E s := by
  obtain ⟨pre, post, rfl, rfl, h1, h2⟩ := U.split
  obtain ⟨U1, U2⟩ := news_upd (f := Obj.putName name (PyData.keyHash w.params name) (.str name s.toks) v) F N h1 h2 (putName_dict ..) rfl
  have D := (N (dx, dictOf es n) (by simp)).1
  have D' := U2.get (List.mem_append_right _ List.mem_cons_self)
  unfold storeInDict newKeyGuard
  refine wpAny_bind (wpAny_pure (wpAny_bind ?_))
  unfold nsSet
  refine wpAny_bind (wpAny_bind (wpAny_askSetting (wpAny_pure (wpAny_bind (wpAny_mkText (wpAny_bind (wpAny_loadPart D ?_)))))))
  have c : (!es.toArray.any (·.key.isStr name) && es.toArray.any (·.refKey)) = false := by
    rw [← Array.any_toList, ← Array.any_toList]
    unfold getL at hl
    split at hl
    · rename_i en he
      rw [List.any_eq_true.mpr ⟨en, List.mem_of_find?_eq_some he, List.find?_some he⟩]; rfl
    · split at hl
      · cases hl
      · rename_i z; rw [Bool.not_eq_true] at z; rw [z, Bool.and_false]
  dsimp only
  rw [aRefKeyMayBeTheName_at, c]
  refine wpAny_updatePart D ?_
  refine wpAny_bind (wpAny_lookBehind D' (pastItsLine_dict (by
    rw [List.size_toArray, sizeLine_eq]
    have : ∀ es : List DictEntry, (putL name (PyData.keyHash w.params name) (.str name s.toks) v es).length ≤ es.length + 1 := by
      intro es
      induction es with
      | nil => simp [putL]
      | cons e r ih => unfold putL; split <;> simp; omega
    have := this es
    omega)) ?_)
  exact wpAny_pure (h _ U1 U2)

theorem own_set_new {eo : Obj} {news' : Addr → List (Addr × Obj)} (F : Fr h₀ L s.heap m) (X₀ : K.In h₀) (N : News h₀ L s.heap news) (hm : (x, eo) ∈ news) (hcls : eo.cls = .ref C) (hno : notCls eo = true) (hd : eo.dict = none)
    (hc : clsIn K C = some cd) (hp : refuseLoop (.ref x) "__setattr__" cd.mro = pure ()) (ho : cd.mro.contains (.type "object") = true) (hD : cd.hasDict = true) (ht : findIn K (.ref C) name = some none)
    (hs : findIn K (.ref C) "__setattr__" = some (some (.builtin "object.__setattr__")))
    (U : ∀ dx, Upd x eo { eo with dict := some dx } news (news' dx))
    (h : ∀ dx hs h' tk t, (∀ p ∈ news, p.1 < dx) → Fr h₀ L h' m → News h₀ L h' ((dx, dictOf [⟨hs, .str name t, v⟩] 1) :: news' dx) → Q () { s with heap := h', toks := tk }) :
    wpAny (model prog w) A (setAttr (.ref x) name v) Q E s := by
  have X := X₀.keeps F.keep
  have I : InstAt s.heap x eo C none := ⟨(N _ hm).1, hcls, hno, by rw [hd]; trivial⟩
  refine set_plain X I hs (own_osa X I hc hp ho ht fun b => ?_)
  have hx := (N _ hm).1
  have lt : ∀ p ∈ news, p.1 < s.heap.objs.size := fun p hp => Heap.lt_size (N p hp).1
  refine wpAny_bind (wpAny_pure (wpAny_bind (wpAny_bind (wpAny_loadPart hx ?_))))
  rw [hcls]
  refine wpAny_bind (looks_clsIn X hc _ _ _ _ (fun _ _ e => e) ?_)
  rw [hD, hd]
  have hx₁ : (s.heap.push emptyDict).get? x = some eo := Heap.get?_push_of_some _ hx
  have hfr := (Heap.get?_some_iff.mp hx).2
  have N1 := N.push F emptyDict
  have F1 := F.push emptyDict
  have U' := U s.heap.objs.size
  obtain ⟨U1, U2⟩ := upd_led (f := fun o => { o with dict := some s.heap.objs.size }) (Upd.tail (p := (s.heap.objs.size, emptyDict)) (Nat.ne_of_gt (lt _ hm)) U') F1 N1 rfl (by
    obtain ⟨oc, od, odt, osl⟩ := eo
    cases odt <;> first | rfl | exact hfr)
  obtain ⟨hp', g, d, tt, os⟩ := s
  have hne : hp'.objs.size ≠ x := Nat.ne_of_gt (lt _ hm)
  have lt' : ∀ p ∈ news' hp'.objs.size, p.1 ≠ hp'.objs.size := fun p hp => by
    obtain ⟨pre, post, e1, e2, _, _⟩ := U'.split
    rw [e2] at hp
    rcases List.mem_append.mp hp with q | q
    · exact Nat.ne_of_lt (lt p (by rw [e1]; exact List.mem_append_left _ q))
    · rcases List.mem_cons.mp q with rfl | q
      · exact hne.symm
      · exact Nat.ne_of_lt (lt p (by rw [e1]; exact List.mem_append_right _ (.tail _ q)))
  dsimp only at *
  rw [if_neg (by decide), if_neg (by simp [typeHasDict])]
  split
  · rename_i c hcd
    exfalso
    obtain ⟨oc, od, odt, osl⟩ := eo
    dsimp only at hcd
    subst hcd
    cases hno
  · refine wpAny_bind (wpAny_alloc' ?_)
    refine wpAny_bind (wpAny_update' hx₁ ?_)
    refine wpAny_pure ?_
    dsimp only
    refine own_put (es := []) (n := 0) (news' := (hp'.objs.size, dictOf [⟨PyData.keyHash w.params name, .str name (tt + 1), v⟩] 1) :: news' hp'.objs.size) U1 U2 (Upd.head lt') rfl (by decide) fun h' F' N' => ?_
    exact h _ _ _ _ _ lt F' N'
theorem own_set_old {eo : Obj} {dx : Addr} {es : List DictEntry} {n : Nat} {news' : Tok → List (Addr × Obj)} (F : Fr h₀ L s.heap m) (X₀ : K.In h₀) (N : News h₀ L s.heap news) (hm : (x, eo) ∈ news) (hcls : eo.cls = .ref C) (hno : notCls eo = true) (hd : eo.dict = some dx) (hdm : (dx, dictOf es n) ∈ news)
    (hc : clsIn K C = some cd) (hp : refuseLoop (.ref x) "__setattr__" cd.mro = pure ()) (ho : cd.mro.contains (.type "object") = true) (hD : cd.hasDict = true) (ht : findIn K (.ref C) name = some none)
    (hs : findIn K (.ref C) "__setattr__" = some (some (.builtin "object.__setattr__")))
    (U : ∀ t, Upd dx (dictOf es n) (dictOf (putL name (PyData.keyHash w.params name) (.str name t) v es) (putN name es n)) news (news' t)) (hl : (getL name es).isSome = true) (hz : es.length < 1000)
    (h : ∀ h' tk t, Fr h₀ L h' m → News h₀ L h' (news' t) → Q () { s with heap := h', toks := tk }) :
    wpAny (model prog w) A (setAttr (.ref x) name v) Q E s := by
  have X := X₀.keeps F.keep
  have I : InstAt s.heap x eo C (some (dictOf es n)) := ⟨(N _ hm).1, hcls, hno, by rw [hd]; exact (N _ hdm).1⟩
  refine set_plain X I hs (own_osa X I hc hp ho ht fun b => ?_)
  have hx := (N _ hm).1
  refine wpAny_bind (wpAny_pure (wpAny_bind (wpAny_bind (wpAny_loadPart hx ?_))))
  rw [hcls]
  refine wpAny_bind (looks_clsIn X hc _ _ _ _ (fun _ _ e => e) ?_)
  rw [hD, hd]
  rw [if_neg (by decide)]
  refine wpAny_pure (a := some dx) ?_
  exact own_put F N (U _) hl hz fun h' F' N' => h _ _ _ F' N'
end
section
variable {prog : Program} {w : World} {A : Around} {E : Value → Shared → Prop} {K : Frag} {x L : Addr} {s : Shared} {h₀ : Heap} {m : Str → Option Value} {news : List (Addr × Obj)}
variable {nm q : Str} {C N₀ : Addr} {bs bm : List Value} {hdct : Bool} {sn : List Str} {sub : List Value} {ab : Bool} {col : Option Bool} {dd : Option Addr} {k0 k1 k2 k3 k5 : Option Value}
theorem own_check_init {M : Model} {h : Heap} {g : Array GenState} {d : Drawn} {t : Nat} {os : OsState} (Z : BmOk C bm) {e : Addr} {oe : Obj} {rest : List Value} {Q : Unit → Shared → Prop}
    (hC : h.get? C = some (excClassObj nm q C N₀ bs bm hdct sn sub ab col dd k0 k1 k2 k3 k5 "Exception.__new__")) (he : h.get? e = some oe) (hcls : oe.cls = .ref C) (hq : Q () ⟨h, g, d, t, os⟩) :
    wpAny M A (checkBuiltinCall "Exception.__init__" ⟨.ref e :: rest, []⟩) Q E ⟨h, g, d, t, os⟩ := by
  have F := PySem.F.excBase_Exception
  have hcB := Z.exc
  have hshort := F.noStar
  simp only [checkBuiltinCall, F.initKind, F.initSplit, F.initRow]
  repeat (first | (with_reducible refine wpAny_loadPart_at he ?_; rw [hcls]) | with_reducible refine wpAny_loadPart_at hC ?_ | (with_reducible refine wpAny_isSubtype_exc hC ?_; rw [hcB]) | wp_step)
  refine wpAny_onRaise ?_
  rw [show ∀ (a b : String) (n : Nat), Bind.check ⟨.positional, "*", "Exception", .self, [⟨"args", .varPos, false⟩]⟩ a b n (List.map (fun x => x.fst) ({ pos := Value.ref e :: rest } : Args).kw) = pure () from
    fun a b n => check_star_args _ _ _ _ _ _]
  exact wpAny_pure hq
theorem own_init {Q : Value → Shared → Prop} {t₀ : Addr} {rest : List Value} {news' : Addr → List (Addr × Obj)} (Z : BmOk C bm) (X₀ : K.In h₀) (F : Fr h₀ L s.heap m) (N : News h₀ L s.heap news)
    (hC : K.lookup C = some (excClassObj nm q C N₀ bs bm hdct sn sub ab col dd k0 k1 k2 k3 k5 "Exception.__new__"))
    (hm : (x, ({ cls := .ref C, data := .fields #[.ref t₀, .none, .none, .none, .bool false, .none] } : Obj)) ∈ news)
    (U : ∀ t₁, Upd x { cls := .ref C, data := .fields #[.ref t₀, .none, .none, .none, .bool false, .none] } { cls := .ref C, data := .fields #[.ref t₁, .none, .none, .none, .bool false, .none] } news (news' t₁)) (hrest : rest.length ≤ sizeLine)
    (h : ∀ t₁ h', Fr h₀ L h' m → News h₀ L h' (news' t₁) → Q .none { s with heap := h' }) :
    wpAny (model prog w) A (call (.builtin "Exception.__init__") (.ref x :: rest)) Q E s := by
  have FE := PySem.F.excBase_Exception
  obtain ⟨hp, g, d, tt, os⟩ := s
  have hx := (N _ hm).1
  refine wpAny_call (codeAny_call_builtin FE.init.plain FE.initEntry (own_check_init Z (X₀.keeps F.keep _ _ hC) hx rfl ?_))
  have N1 := N.push F { cls := .type "tuple", data := .seq rest.toArray }
  have F1 := F.push { cls := .type "tuple", data := .seq rest.toArray }
  have lt : ∀ p ∈ news, p.1 < hp.objs.size := fun p hp => Heap.lt_size (N p hp).1
  wp_walk
  obtain ⟨U1, U2⟩ := upd_led (f := Obj.mapFields fun x => x.setIfInBounds 0 (Value.ref hp.objs.size)) (Upd.tail (Nat.ne_of_gt (lt _ hm)) (U hp.objs.size)) F1 N1 rfl rfl
  exact h _ _ U1 fun p hp => U2 p (.tail _ hp)
end
end
-- part X3
section
theorem fresh_X3 : True := by
  w_top off
  trivial
theorem die_bm : BmOk 51 [.ref 31, .type "Exception", .type "BaseException", .type "object"] := ⟨by decide +kernel, by decide +kernel, by decide +kernel⟩
theorem die_refuse (x : Value) : refuseLoop x "__setattr__" [.ref 51, .ref 31, .type "Exception", .type "BaseException", .type "object"] = pure () := by
  rw [refuseLoop_ref, refuseLoop_ref]; exact PySem.F.store_Exception.passes x
noncomputable abbrev excO (t : Addr) : Obj := { cls := .ref 51, data := .fields #[.ref t, .none, .none, .none, .bool false, .none] }
noncomputable abbrev excD (t dx : Addr) : Obj := { cls := .ref 51, dict := some dx, data := .fields #[.ref t, .none, .none, .none, .bool false, .none] }
local macro_rules | `(tactic| walk_at "call builtin:Exception.__init__") => `(tactic| (k_here; k_dflt (refine' own_init die_bm ?kX ?kF ?kN ?kC ?km ?kU ?ks ?_; (case kX => k_asm); (case kF => k_asm); (case kN => k_asm); (case kC => k_is); (case km => k_mem); (case kU => (intro t9; k_upd)); (case ks => size_fits); k_whole; intro t1' h' F' N')))
local macro_rules | `(tactic| walk_at "call ref") => `(tactic| (k_here; refine wpAny_call ?_; k_dflt (refine' code_def ?k1 ?k2 ?k3 ?k4 ?k5 ?kA ?kF ?kK ?k6 ?k7 ?k8 ?k9 ?kB ?_ ?c2 ?c3 ?c4 ?c5; (case kA => exact rfl); (case kF => exact rfl); (case kK => first | exact rfl | assumption); (case k1 => k_asm); (case k2 => k_asm); (case k3 => k_asm); (case k4 => k_asm); (case k5 => k_asm); (case k6 => k_is); (case k7 => k_is); (case k8 => first | ((try simp only [depth_under_make, depth_under_kw, depth_in1, depth_deeper, depth_caller]); (try dsimp only [ktrTop]); omega) | ktr_room); (case k9 => exact BindsTo.of_eq rfl); (case c5 => decide); (case kB => exact locs rfl); (case c2 => exact rfl); (case c3 => exact rfl); (case c4 => exact rfl); k_whole; intro g' L' h' FG' F' N' B' X' T'; walk_at "#f")))
theorem meta_exc : typeOf (.type "Exception") = pure (.type "type") := by kernel_rfl
local macro_rules | `(tactic| walk_at "getMethod type:Exception") => `(tactic| (k_here; walk_at "# method_type kkXDEH_"))
local macro_rules | `(tactic| walk_at "setAttr ref") => `(tactic| (k_here; k_dflt (first
  | (walk_at "# own_set_new kkkMrrriqDriix_"; k_whole; intro dx' hs' h' tk' t' l' F' N'; (try k_lt l'))
  | (refine' own_set_old ?F ?X ?N ?m ?cl ?no ?d ?dm ?c ?p ?o ?D ?t ?s ?U ?l ?z ?_; (case F => k_asm); (case X => k_asm); (case N => k_asm); (case m => k_mem); (case cl => exact rfl); (case no => exact rfl); (case d => exact rfl); (case dm => k_mem); (case c => k_is); (case p => exact die_refuse _); (case o => decide +kernel); (case D => exact rfl); (case t => k_is); (case s => k_is); (case U => (intro dx9; k_upd)); (case l => rfl); (case z => (simp only [List.length_cons, List.length_nil]; omega)); k_whole; intro h' tk' t' F' N'))))
theorem die_call {w : World} {mean : ExcName → Option Value} {mg mb : Str → Option Value}
    {dp un : Nat} {gd : Option (List Code)} {cn : Str} {cs : Scope} {a : Addr} {ccd : Value} {cl : List (Str × Addr)} {outer : List Env} {A₀ : Around} {base h₀ : Heap} {L : Addr} {m : Str → Option Value} {s : Shared} {Q E : Value → Shared → Prop} {news : List (Addr × Obj)}
    (B : Below A₀ base outer h₀) (F : Fr h₀ L s.heap m) (X : (hd.heap_39 w.params).In h₀) (N : News h₀ L s.heap news)
    (T : Top hd.view_39 (looseW hd.view_39 [Str.ofString "SHORT_ESCAPES", Str.ofString "_law_parts"]) mean mg mb h₀) (hkf : cs.kind = .function) {x : Str} {t : Tok} (hdp : dp + 6 < recursionLimit) (hun : un + 60 < cLine)
    (hret : ∀ e t1 dx h' tk', (∀ p ∈ news, p.1 < e) → Fr h₀ L h' m → News h₀ L h' ((e, excD t1 dx) :: news) → Q (.ref e) { s with heap := h', toks := tk' }) :
    wpAny (model Challenge.rw_qd0140_01.row.prog w) (ktrTop dp un gd cn cs L a ccd cl outer) (call (.ref 51) [.str x t]) Q E s := by
  revert X; k_fill; intro X
  obtain ⟨hp, g, d, tt, os⟩ := s
  have hC := (X.keeps F.keep) 51 _ (by k_is)
  refine own_call die_bm (X.keeps F.keep) hC (fI := 48) (by k_is) (by k_is) ?_
  have F1 := (F.push { cls := .type "tuple", data := .seq [Value.str x t].toArray }).push (excO hp.objs.size)
  have N1 := News.push (F.push { cls := .type "tuple", data := .seq [Value.str x t].toArray }) (N.push F { cls := .type "tuple", data := .seq [Value.str x t].toArray }) (excO hp.objs.size)
  have lt : ∀ p ∈ news, p.1 < hp.objs.size := fun p hp => Heap.lt_size (N p hp).1
  rw [Heap.size_push] at N1
  replace N1 : News h₀ L _ ((hp.objs.size + 1, excO hp.objs.size) :: news) := fun p hp => N1 p (by rcases List.mem_cons.mp hp with rfl | hp; exact .head _; exact .tail _ (.tail _ hp))
  replace lt : ∀ p ∈ news, p.1 < hp.objs.size + 1 := fun p hp => Nat.lt_succ_of_lt (lt p hp)
  clear F N hC
  change Fr h₀ L ((hp.push { cls := .type "tuple", data := .seq [Value.str x t].toArray }).push (excO hp.objs.size)) m at F1
  revert F1 N1
  generalize (hp.push { cls := .type "tuple", data := .seq [Value.str x t].toArray }).push (excO hp.objs.size) = hq
  revert lt
  generalize hp.objs.size + 1 = e
  generalize hp.objs.size = t0
  intro lt F1 N1
  refine wpAny_call ?_
  k_dflt (refine' code_def ?k1 ?k2 ?k3 ?k4 ?k5 ?kA ?kF ?kK ?k6 ?k7 ?k8 ?k9 ?kB ?_ ?c2 ?c3 ?c4 ?c5; (case kA => exact rfl); (case kF => exact rfl); (case kK => first | exact rfl | assumption); (case k1 => k_asm); (case k2 => k_asm); (case k3 => k_asm); (case k4 => k_asm); (case k5 => k_asm); (case k6 => k_is); (case k7 => k_is); (case k8 => first | ((try simp only [depth_under_make, depth_under_kw, depth_in1, depth_deeper, depth_caller]); (try dsimp only [ktrTop]); omega) | ktr_room); (case k9 => exact BindsTo.of_eq rfl); (case c5 => decide); (case kB => exact locs rfl); (case c2 => exact rfl); (case c3 => exact rfl); (case c4 => exact rfl); k_whole; intro g' L' h' FG' F' N' B' X' T'; (try dsimp only); (try k_fold))
  k_steps
  rename News h₀ L _ _ => N9
  exact hret _ _ _ _ _ lt (by assumption) fun p hp => N9 p (.tail _ hp)
end
-- part Q4
section
theorem fresh_Q4 : True := by
  w_top off
  trivial
noncomputable abbrev tabObj (P : Params) (d lb lc : Addr) (tu del sq : Bool) (t1 t2 t3 t4 t5 t6 : Tok) : Obj := dictOf [⟨PyData.keyHash P (Str.ofString "codes"), .str (Str.ofString "codes") t1, .ref d⟩, ⟨PyData.keyHash P (Str.ofString "is_turned"), .str (Str.ofString "is_turned") t2, .bool tu⟩, ⟨PyData.keyHash P (Str.ofString "barred"), .str (Str.ofString "barred") t3, .ref lb⟩, ⟨PyData.keyHash P (Str.ofString "becomes"), .str (Str.ofString "becomes") t4, .ref lc⟩, ⟨PyData.keyHash P (Str.ofString "is_deleting"), .str (Str.ofString "is_deleting") t5, .bool del⟩, ⟨PyData.keyHash P (Str.ofString "is_squeezing"), .str (Str.ofString "is_squeezing") t6, .bool sq⟩] 6
theorem new_call {w : World} {mean : ExcName → Option Value} {mg mb : Str → Option Value}
    {dp un : Nat} {gd : Option (List Code)} {cn : Str} {cs : Scope} {a : Addr} {ccd : Value} {cl : List (Str × Addr)} {outer : List Env} {A₀ : Around} {base h₀ : Heap} {L : Addr} {m : Str → Option Value} {s : Shared} {Q E : Value → Shared → Prop} {news : List (Addr × Obj)}
    (B : Below A₀ base outer h₀) (F : Fr h₀ L s.heap m) (X : (hd.heap_39 w.params).In h₀) (N : News h₀ L s.heap news)
    (T : Top hd.view_39 (looseW hd.view_39 [Str.ofString "SHORT_ESCAPES", Str.ofString "_law_parts"]) mean mg mb h₀) (hkf : cs.kind = .function)
    {d lb lc : Addr} {tu del sq : Bool}
    (hdp : dp + 4 < recursionLimit) (hun : un + 100 < cLine)
    (hret : ∀ x dx t1 t2 t3 t4 t5 t6 h' tk', (∀ p ∈ news, p.1 < dx) → (∀ p ∈ news, p.1 < x) → dx < x → Fr h₀ L h' m → News h₀ L h' ((x, instObj 125 dx) :: (dx, tabObj w.params d lb lc tu del sq t1 t2 t3 t4 t5 t6) :: news) → Q (.ref x) { s with heap := h', toks := tk' }) :
    wpAny (model Challenge.rw_qd0140_01.row.prog w) (ktrTop dp un gd cn cs L a ccd cl outer) (call (.ref 125) [.ref d, .bool tu, .ref lb, .ref lc, .bool del, .bool sq]) Q E s := by
  revert X; k_fill; intro X
  k_dflt (refine' call_cls ?k1 ?k2 ?k3 ?k4 ?k5 ?k6 ?_; (case k1 => k_asm); (case k2 => k_asm); (case k3 => k_asm); (case k4 => k_is); (case k5 => k_is); (case k6 => k_is); k_whole; intro x' d' h' F' N' l1 l2; (try k_lt l1); (try k_lt2 l2))
  k_dflt (refine' code_def ?k1 ?k2 ?k3 ?k4 ?k5 ?kA ?kF ?kK ?k6 ?k7 ?k8 ?k9 ?kB ?_ ?c2 ?c3 ?c4 ?c5; (case kA => exact rfl); (case kF => exact rfl); (case kK => first | exact rfl | assumption); (case k1 => k_asm); (case k2 => k_asm); (case k3 => k_asm); (case k4 => k_asm); (case k5 => k_asm); (case k6 => k_is); (case k7 => k_is); (case k8 => first | ((try simp only [depth_under_make, depth_under_kw, depth_in1, depth_deeper, depth_caller]); (try dsimp only [ktrTop]); omega) | ktr_room); (case k9 => exact BindsTo.of_eq rfl); (case c5 => decide); (case kB => exact locs rfl); (case c2 => exact rfl); (case c3 => exact rfl); (case c4 => exact rfl); k_whole; intro g' L' h' FG' F' N' B' X' T'; (try dsimp only); (try k_fold))
  k_steps
  exact hret _ _ _ _ _ _ _ _ _ _ l1 (fun p hp => Nat.lt_trans (l1 p hp) l2) l2 (by assumption) (by assumption)
end
end
section
local macro_rules | `(tactic| walk_at "newList") => `(tactic| (k_here; k_dflt (walk_at "# newList_K kk_j"; k_whole); intro l' h' F' N' l1; (try k_lt l1)))
local macro_rules | `(tactic| walk_at "KswEnd") => `(tactic| refine Stop.out ?_)
local macro_rules | `(tactic| walk_at "call builtin:len") => `(tactic| (k_here; (with_reducible show wpAny _ _ (call (Value.builtin "len") [Value.ref _]) _ _ _); k_dflt (walk_at "# kst_len kmro_"); k_whole))
section
local macro_rules | `(tactic| k_all) => `(tactic| assumption)
-- part Lp
section
section
variable {prog : Program} {w : World} {A : Around} {E : Value → Shared → Prop} {s : Shared} {env : Env} {h₀ : Heap} {x : Str} {body : List Stmt} {Q : Flow → Shared → Prop}
noncomputable def FrJ {σ : Type} (Led : Nat → σ → List (Addr × Obj)) (ps : Nat → σ → List (Str × Value)) (x : Str) (stored : List Str) (m₀ : Str → Option Value) (P : Nat → σ → Prop) (i : Nat) (m : Str → Option Value) (nx : List (Addr × Obj)) : Prop :=
  ∃ c : σ, nx = Led i c ∧ (∀ p ∈ ps i c, m p.1 = some p.2) ∧ (∀ z, z ≠ x → (∀ p ∈ ps i c, z ≠ p.1) → stored.contains z = false → m z = m₀ z) ∧ P i c
theorem fr_range {σ : Type} {r : Addr} {a₀ b₀ : Int} {t₀ u₀ v₀ : Tok} {n : Nat} {m₀ : Str → Option Value} (Led : Nat → σ → List (Addr × Obj)) (ps : Nat → σ → List (Str × Value)) (stored : List Str) (P : Nat → σ → Prop) (c₀ : σ)
    (hh : A.handled = none) (hr : IsRange s.heap r a₀ b₀ 1 t₀ u₀ v₀) (hsmall : Builtin.Range.small a₀ b₀ 1 = true) (hsz : Builtin.Range.rangeSize a₀ b₀ 1 = (n : Int)) (F : Fr h₀ env.locals s.heap m₀) (N : News h₀ env.locals s.heap (Led 0 c₀)) (hk : ∀ p ∈ ps 0 c₀, m₀ p.1 = some p.2) (hp : P 0 c₀)
    (turn : ∀ i (c : σ) (u : Str → Option Value) t h tk own, i < n → OwnOff own ((Led i c).map (·.1)) → P i c →
      Fr h₀ env.locals h (fun y => if y = x then some (.int (a₀ + (i : Int)) t) else kstB (fun z => if stored.contains z then u z else m₀ z) (ps i c) y) → News h₀ env.locals h (Led i c ++ own) →
      wpAny (model prog w) A (execs body env) (InvPostG h₀ env.locals (FrJ Led ps x stored m₀ P (i + 1)) own { s with heap := h, toks := tk } Q) E { s with heap := h, toks := tk })
    (done : ∀ (c : σ) (u : Str → Option Value) h tk, P n c → Fr h₀ env.locals h (fun y => if y = x then u y else kstB (fun z => if stored.contains z then u z else m₀ z) (ps n c) y) → News h₀ env.locals h (Led n c) → Q .next { s with heap := h, toks := tk }) :
    wpAny (model prog w) A (pyIter (.ref r)) (fun it s₂ => LoopAtV prog w A h₀ env x body Q E it s₂) E s := by
  refine wpAny_pyIter_range hr hsmall ?_
  have W : Walks prog w A s.heap.objs.size [s.heap.objs.size] [s.heap.objs.size] n (fun i v => i < n ∧ ∃ t, v = .int (a₀ + i * 1) t)
      (fun i h => IsRangeIter h s.heap.objs.size (a₀ + (i : Nat) * 1) ((n : Int) - (i : Nat)) 1) := (Walks.range hh _ a₀ 1 n).bound
  refine kdr_loop (FrJ Led ps x stored m₀ P) W (fun _ h => h) (fun _ h => h) ?_ ?_ ?_ ?_ (by show IsRangeIter _ _ _ _ _; rw [hsz]; simpa using Heap.get?_push_size _ rfl) (F.push _) (fun p hp => ⟨Heap.get?_push_of_some _ (N p hp).1, (N p hp).2⟩) ⟨c₀, rfl, hk, fun _ _ _ _ => rfl, hp⟩ ?_ ?_
  · intro i h hi b hb
    rw [List.mem_singleton.mp hb]
    exact ⟨_, hi⟩
  · intro hm
    exact absurd F.ns.lt ((List.mem_singleton.mp hm) ▸ Nat.lt_irrefl _)
  · intro b hb
    rw [List.mem_singleton.mp hb]
    exact next_is_new F
  · intro p hp hI
    exact absurd (Heap.lt_size (N p hp).1) ((List.mem_singleton.mp hI) ▸ Nat.lt_irrefl _)
  · rintro i v m₁ nx h tk own hi ⟨_, t, rfl⟩ hoff ⟨c, rfl, h1, h2, hp'⟩ F₁ N₁
    rw [show a₀ + (i : Int) * 1 = a₀ + (i : Int) by omega] at F₁
    exact turn i c m₁ t h tk own hi hoff hp' (kst_fr h1 h2 F₁) N₁
  · rintro m₁ nx h tk ⟨c, rfl, h1, h2, hp'⟩ F₁ N₁
    exact done c m₁ h tk hp' (kst_frOut h1 h2 F₁) N₁
theorem fr_end {σ : Type} {Led : Nat → σ → List (Addr × Obj)} {ps : Nat → σ → List (Str × Value)} {stored : List Str} {m₀ m' : Str → Option Value} {P : Nat → σ → Prop} {i : Nat} {L : Addr} {own news' : List (Addr × Obj)} {s₁ : Shared} {h' : Heap} {tk : Nat} (c : σ)
    (F : Fr h₀ L h' m') (N : News h₀ L h' news') (hn : ∀ p ∈ Led i c, p ∈ news') (ho : ∀ p ∈ own, p ∈ news') (ha : OwnOff own ((Led i c).map (·.1))) (hk : ∀ p ∈ ps i c, m' p.1 = some p.2) (hr : ∀ z, z ≠ x → (∀ p ∈ ps i c, z ≠ p.1) → stored.contains z = false → m' z = m₀ z) (hp : P i c) :
    InvEndG h₀ L (FrJ Led ps x stored m₀ P i) own s₁ { s₁ with heap := h', toks := tk } :=
  InvEndG.intro F N ⟨c, rfl, hk, hr, hp⟩ ha hn ho
theorem fr_list {σ : Type} {l : Addr} {vs : List Value} {nn : Nat} {m₀ : Str → Option Value} (Led : Nat → σ → List (Addr × Obj)) (ps : Nat → σ → List (Str × Value)) (stored : List Str) (P : Nat → σ → Prop) (c₀ : σ)
    (hh : A.handled = none) (hl : ∀ i c, (l, listOf vs.toArray nn) ∈ Led i c) (F : Fr h₀ env.locals s.heap m₀) (N : News h₀ env.locals s.heap (Led 0 c₀)) (hk : ∀ p ∈ ps 0 c₀, m₀ p.1 = some p.2) (hp : P 0 c₀)
    (turn : ∀ i v (c : σ) (u : Str → Option Value) h tk own, vs[i]? = some v → OwnOff own ((Led i c).map (·.1)) → P i c →
      Fr h₀ env.locals h (fun y => if y = x then some v else kstB (fun z => if stored.contains z then u z else m₀ z) (ps i c) y) → News h₀ env.locals h (Led i c ++ own) →
      wpAny (model prog w) A (execs body env) (InvPostG h₀ env.locals (FrJ Led ps x stored m₀ P (i + 1)) own { s with heap := h, toks := tk } Q) E { s with heap := h, toks := tk })
    (done : ∀ (c : σ) (u : Str → Option Value) h tk, P vs.length c → Fr h₀ env.locals h (fun y => if y = x then u y else kstB (fun z => if stored.contains z then u z else m₀ z) (ps vs.length c) y) → News h₀ env.locals h (Led vs.length c) → Q .next { s with heap := h, toks := tk }) :
    wpAny (model prog w) A (pyIter (.ref l)) (fun it s₂ => LoopAtV prog w A h₀ env x body Q E it s₂) E s := by
  refine kdl_iter (FrJ Led ps x stored m₀ P) hh (hl 0 c₀) F N ⟨c₀, rfl, hk, fun _ _ _ _ => rfl, hp⟩ ?_ ?_
  · rintro i v m₁ nx h tk own hi hoff _ ⟨c, rfl, h1, h2, hp'⟩ F₁ N₁
    refine wpAny_mono (turn i v c m₁ h tk own hi hoff hp' (kst_fr h1 h2 F₁) N₁) (fun f s₂ q => ?_) fun _ _ e => e
    cases f with
    | ret v => exact q
    | brk => exact q
    | next =>
      obtain ⟨h', tk, m', news', nx, e, F', N', a, b, c, d, f1, f2, f3, f4⟩ := q
      exact ⟨h', tk, m', news', nx, e, F', N', a, b, c, f1 ▸ hl _ _, d, f1, f2, f3, f4⟩
    | cont =>
      obtain ⟨h', tk, m', news', nx, e, F', N', a, b, c, d, f1, f2, f3, f4⟩ := q
      exact ⟨h', tk, m', news', nx, e, F', N', a, b, c, f1 ▸ hl _ _, d, f1, f2, f3, f4⟩
  · rintro m₁ nx h tk ⟨c, rfl, h1, h2, hp'⟩ F₁ N₁
    exact done c m₁ h tk hp' (kst_frOut h1 h2 F₁) N₁
theorem range_size (a b : Int) : Builtin.Range.rangeSize a b 1 = ((b - a).toNat : Int) := by
  unfold Builtin.Range.rangeSize
  rw [if_pos (by decide)]
  split
  · rw [Int.ediv_one]; omega
  · omega
theorem range_small {a b : Int} (h1 : -1000000 ≤ a) (h2 : a ≤ 1000000) (h3 : -1000000 ≤ b) (h4 : b ≤ 1000000) : Builtin.Range.small a b 1 = true := by
  unfold Builtin.Range.small
  rw [range_size]
  unfold Builtin.Range.rangeFitsLong
  rw [if_pos (by decide)]
  simp only [Bool.and_eq_true, Bool.or_eq_true, decide_eq_true_eq]
  refine ⟨⟨⟨⟨?_, ?_⟩, ?_⟩, ?_⟩, .inr ?_⟩ <;> omega
end
end
-- part C0
section
section
variable {prog : Program} {w : World} {A : Around} {E : Value → Shared → Prop} {s : Shared} {h₀ : Heap} {L l : Addr} {m : Str → Option Value} {news ns : List (Addr × Obj)} {vs : List Value} {sg : List Sgn} {n : Nat} {k : Int} {u : Tok} {P : Params} {Q : Value → Shared → Prop}
theorem sz2000 {vs : List Value} (h : vs.length < 2000) : vs.toArray.size ≤ sizeLine := by rw [List.size_toArray, sizeLine_eq]; omega
theorem ints_next {vs : List Value} {codes : List Int} {a : Int} {k : Nat} {t : Tok} (h : IntsAre vs (codes ++ rangeKs a k)) : IntsAre (vs ++ [.int (a + (k : Int)) t]) (codes ++ rangeKs a (k + 1)) := by
  have e : rangeKs a (k + 1) = rangeKs a k ++ [a + (k : Int)] := by simp [rangeKs, List.range_succ]
  rw [e, ← List.append_assoc]
  exact IntsAre.append h (.cons _ _ .nil)
theorem memC {α : Type} {a b : α} {l own : List α} : ∀ p ∈ a :: b :: l, p ∈ a :: b :: (l ++ own) := by
  intro p hp; simp only [List.mem_cons, List.mem_append] at hp ⊢; rcases hp with h | h | h <;> simp [h]
theorem memD {α : Type} {a b : α} {l own : List α} : ∀ p ∈ own, p ∈ a :: b :: (l ++ own) := by
  intro p hp; simp [hp]
noncomputable def PairAt (P : Params) (ns : List (Addr × Obj)) (a : Addr) (c : Int) (t : Tok) (b : Bool) : Prop := (hd.heap_39 P).lookup a = some (tupO [.int c t, .bool b]) ∨ (a, tupO [.int c t, .bool b]) ∈ ns
theorem PairAt.tup {a : Addr} {c : Int} {t : Tok} {b : Bool} {h : Heap} (p : PairAt P ns a c t b) (X : (hd.heap_39 P).In h₀) (F : Fr h₀ L h m) (N : News h₀ L h news) (hsub : ∀ p ∈ ns, p ∈ news) : IsTup h a #[.int c t, .bool b] := by
  rcases p with q | q
  · exact ⟨_, F.keep _ _ (X _ _ q), rfl, 0, rfl⟩
  · exact ⟨_, N.get (hsub _ q), rfl, 0, rfl⟩
theorem sg_item {value slice : PySem.Expr} (X : (hd.heap_39 P).In h₀) (F : Fr h₀ L s.heap m) (N : News h₀ L s.heap news) (hm : (l, listOf vs.toArray n) ∈ news) (A9 : All2 (SgIn P ns) vs sg) (hsub : ∀ p ∈ ns, p ∈ news) (h0 : 0 ≤ k) (h1 : k < (vs.length : Int)) (h2 : vs.length < 2000)
    (h : ∀ a t, PairAt P ns a (sg.getD k.toNat (0, false)).1 t (sg.getD k.toNat (0, false)).2 → Q (.ref a) s)
    (hs : subscripted slice false (.ref l) (.int k u) = operate [.ref l, .int k u] (getItem (.ref l) (.int k u)) := by with_unfolding_all rfl) :
    wpAny (model prog w) A (subscriptTail value slice (.ref l) (.int k u)) Q E s := by
  have hl : s.heap.IsList l vs.toArray := ⟨_, (N _ hm).1, rfl, n, rfl⟩
  have hk : k.toNat < sg.length := by have := A9.length; omega
  have hg : sg[k.toNat]? = some (sg.getD k.toNat (0, false)) := by rw [List.getD_eq_getElem?_getD, List.getElem?_eq_getElem hk]; rfl
  obtain ⟨v, hv, hD⟩ := A9.get hg
  obtain ⟨a, t, rfl, ha⟩ := hD
  refine tail_any hl.typeIs slot_list_getitem.lookup (wpAny_getItem_list hl h0 (by omega) (by simpa using hv) (h a t ha)) hs
theorem sgp_first {value slice : PySem.Expr} {a : Addr} {c : Int} {t : Tok} {b : Bool} (ht : PairAt P ns a c t b) (X : (hd.heap_39 P).In h₀) (F : Fr h₀ L s.heap m) (N : News h₀ L s.heap news) (hsub : ∀ p ∈ ns, p ∈ news) (h : Q (.int c t) s)
    (hs : subscripted slice false (.ref a) (.int 0 u) = operate [.ref a, .int 0 u] (getItem (.ref a) (.int 0 u)) := by with_unfolding_all rfl) :
    wpAny (model prog w) A (subscriptTail value slice (.ref a) (.int 0 u)) Q E s :=
  item_tupleT (l := [.int c t, .bool b]) (ht.tup X F N hsub) (by decide) (by decide) (j := 0) rfl rfl h hs
open Classical in
theorem sgp_eq {a b : Addr} {c : Int} {t t' : Tok} {g : Bool} (ha : PairAt P ns a c t g) (X : (hd.heap_39 P).In h₀) (F : Fr h₀ L s.heap m) (N : News h₀ L s.heap news) (hsub : ∀ p ∈ ns, p ∈ news) (hb : (b, tupO [.int 45 t', .bool false]) ∈ news) (hu : A.units + 64 < cLine) (h : Q (.bool (decide (((c, g) : Sgn) = (45, false)))) s) :
    wpAny (model prog w) A (compareOp .Eq (.ref a) (.ref b)) Q E s := by
  obtain ⟨o, ho, hc, n, hd⟩ := ha.tup X F N hsub
  have r1 := reads_tuple_at ho hc hd (.cons (.int c t) (.cons (.bool g) .nil))
  have r2 := reads_tuple_at (N.get hb) rfl rfl (.cons (.int 45 t') (.cons (.bool false) .nil))
  have e : PyData.eqv (.tuple [.int c, .bool g]) (.tuple [.int 45, .bool false]) = decide (((c, g) : Sgn) = (45, false)) := by
    simp only [PyData.eqv, PyData.eqvAll]
    cases g <;> by_cases h : c = 45 <;> simp [h]
  refine eq_dataH r1 r2 rfl rfl hu (by rw [e]; exact h)
end
section
variable {sg : List Sgn} {i v : Nat} {codes : List Int} {most : Int}
noncomputable abbrev sd (sg : List Sgn) (k : Int) : Sgn := sg.getD k.toNat (0, false)
theorem drop_sd (hi : i < sg.length) : sg.drop i = sd sg i :: sg.drop (i + 1) := by
  have e : sd sg i = sg[i] := by simp [sd, List.getD_eq_getElem?_getD, hi]
  rw [e]; exact List.drop_eq_getElem_cons hi
theorem cut_short (hv : v = sg.length) (hi : (i : Int) < v) (h : ¬ ((i : Int) + 2 < (v : Int))) (a : Int) : cutS a (sg.drop (i + 1)) = (a, sg.drop (i + 1)) := by
  unfold cutS
  have : (sg.drop (i + 1)).length ≤ 1 := by rw [List.length_drop]; omega
  split
  · rename_i q; rw [q] at this; simp at this
  · rfl
theorem cut_long (hv : v = sg.length) (h : (i : Int) + 2 < (v : Int)) (a : Int) : cutS a (sg.drop (i + 1)) = if sd sg (i + 1) = (45, false) then ((sd sg (i + 2)).1, sg.drop (i + 3)) else (a, sg.drop (i + 1)) := by
  have e1 := drop_sd (sg := sg) (i := i + 1) (by omega)
  have e2 := drop_sd (sg := sg) (i := i + 1 + 1) (by omega)
  unfold cutS
  rw [e1, e2]
  rfl
theorem laid_at (hi : (i : Int) < sg.length) {b : Int} {j : Nat} (hc : cutS (sd sg i).1 (sg.drop (i + 1)) = (b, sg.drop j)) :
    laid most (sg.drop i) codes = if b < (sd sg i).1 ∨ (codes.length : Int) + b - (sd sg i).1 ≥ most then none else laid most (sg.drop j) (codes ++ rangeL (sd sg i).1 b) := by
  rw [drop_sd (by omega), laid_cons, hc]
end
theorem code_lt {x : Atom} (h : x.ok) : x.code < 128 := by
  cases x with
  | plain c => exact h.2
  | short e o => simp [Atom.ok, shorts] at h; simp only [Atom.code]; omega
  | zero => simp [Atom.code]
  | self c => simp [Atom.ok] at h; simp only [Atom.code]; omega
theorem sgn_b {atoms : List Atom} (hok : ∀ x ∈ atoms, x.ok) (k : Nat) : 0 ≤ ((atoms.map Atom.sgn).getD k (0, false)).1 ∧ ((atoms.map Atom.sgn).getD k (0, false)).1 < 128 := by
  rw [List.getD_eq_getElem?_getD, List.getElem?_map]
  cases h : atoms[k]? with
  | none => exact ⟨by decide, by decide⟩
  | some x =>
    have := code_lt (hok x (List.mem_of_getElem? h))
    exact ⟨by simp [Atom.sgn], by simp [Atom.sgn]; omega⟩
noncomputable def stepL (most a b : Int) (r : List Sgn) (codes : List Int) : Option (List Int) := if b < a ∨ most ≤ (codes.length : Int) + b - a then none else laid most r (codes ++ rangeKs a (b + 1 - a).toNat)
section
variable {sg : List Sgn} {i v c : Nat} {codes : List Int} {most : Int} {R : Option (List Int)}
theorem bad_short (hp : laid most (sg.drop i) codes = R) (hv : v = sg.length) (hc : c = codes.length) (hi : (i : Int) < v) (h : ¬ ((i : Int) + 2 < (v : Int))) (hb : most ≤ (c : Int) + (sg.getD (i : Int).toNat (0, false)).1 - (sg.getD (i : Int).toNat (0, false)).1) : R = none := by
  rw [← hp, laid_at (by omega) (cut_short hv hi h _), if_pos (.inr (by dsimp only [sd]; omega))]
theorem bad_neq (hp : laid most (sg.drop i) codes = R) (hv : v = sg.length) (hc : c = codes.length) (hi : (i : Int) < v) (h : (i : Int) + 2 < (v : Int)) (hn : ¬ ((sg.getD ((i : Int) + 1).toNat (0, false)).1, (sg.getD ((i : Int) + 1).toNat (0, false)).2) = ((45, false) : Sgn)) (hb : most ≤ (c : Int) + (sg.getD (i : Int).toNat (0, false)).1 - (sg.getD (i : Int).toNat (0, false)).1) : R = none := by
  have hk := cut_long hv h (sd sg i).1
  rw [if_neg hn] at hk
  rw [← hp, laid_at (by omega) hk, if_pos (.inr (by dsimp only [sd]; omega))]
theorem bad_lt (hp : laid most (sg.drop i) codes = R) (hv : v = sg.length) (hi : (i : Int) < v) (h : (i : Int) + 2 < (v : Int)) (hn : ((sg.getD ((i : Int) + 1).toNat (0, false)).1, (sg.getD ((i : Int) + 1).toNat (0, false)).2) = ((45, false) : Sgn)) (hb : (sg.getD ((i : Int) + 2).toNat (0, false)).1 < (sg.getD (i : Int).toNat (0, false)).1) : R = none := by
  have hk := cut_long hv h (sd sg i).1
  rw [if_pos hn] at hk
  rw [← hp, laid_at (by omega) hk, if_pos (.inl hb)]
theorem bad_eq (hp : laid most (sg.drop i) codes = R) (hv : v = sg.length) (hc : c = codes.length) (hi : (i : Int) < v) (h : (i : Int) + 2 < (v : Int)) (hn : ((sg.getD ((i : Int) + 1).toNat (0, false)).1, (sg.getD ((i : Int) + 1).toNat (0, false)).2) = ((45, false) : Sgn)) (hb : most ≤ (c : Int) + (sg.getD ((i : Int) + 2).toNat (0, false)).1 - (sg.getD (i : Int).toNat (0, false)).1) : R = none := by
  have hk := cut_long hv h (sd sg i).1
  rw [if_pos hn] at hk
  rw [← hp, laid_at (by omega) hk, if_pos (.inr (by dsimp only [sd]; omega))]
theorem end_laid (hp : laid most (sg.drop i) codes = R) (hv : v = sg.length) (h : ¬ ((i : Int) < (v : Int))) : R = some codes := by
  rw [← hp, List.drop_of_length_le (by omega), laid_nil]
theorem go_short (hp : laid most (sg.drop i) codes = R) (hv : v = sg.length) (hc : c = codes.length) (hi : (i : Int) < v) (h : ¬ ((i : Int) + 2 < (v : Int))) (hb : ¬ most ≤ (c : Int) + (sg.getD (i : Int).toNat (0, false)).1 - (sg.getD (i : Int).toNat (0, false)).1) :
    laid most (sg.drop (i + 1)) (codes ++ rangeKs (sg.getD (i : Int).toNat (0, false)).1 ((sg.getD (i : Int).toNat (0, false)).1 + 1 - (sg.getD (i : Int).toNat (0, false)).1).toNat) = R := by
  rw [← hp, laid_at (by omega) (cut_short hv hi h _), if_neg (by dsimp only [sd]; omega)]; rfl
theorem go_neq (hp : laid most (sg.drop i) codes = R) (hv : v = sg.length) (hc : c = codes.length) (hi : (i : Int) < v) (h : (i : Int) + 2 < (v : Int)) (hn : ¬ ((sg.getD ((i : Int) + 1).toNat (0, false)).1, (sg.getD ((i : Int) + 1).toNat (0, false)).2) = ((45, false) : Sgn)) (hb : ¬ most ≤ (c : Int) + (sg.getD (i : Int).toNat (0, false)).1 - (sg.getD (i : Int).toNat (0, false)).1) :
    laid most (sg.drop (i + 1)) (codes ++ rangeKs (sg.getD (i : Int).toNat (0, false)).1 ((sg.getD (i : Int).toNat (0, false)).1 + 1 - (sg.getD (i : Int).toNat (0, false)).1).toNat) = R := by
  have hk := cut_long hv h (sd sg i).1
  rw [if_neg hn] at hk
  rw [← hp, laid_at (by omega) hk, if_neg (by dsimp only [sd]; omega)]; rfl
theorem go_eq (hp : laid most (sg.drop i) codes = R) (hv : v = sg.length) (hc : c = codes.length) (hi : (i : Int) < v) (h : (i : Int) + 2 < (v : Int)) (hn : ((sg.getD ((i : Int) + 1).toNat (0, false)).1, (sg.getD ((i : Int) + 1).toNat (0, false)).2) = ((45, false) : Sgn)) (hl : ¬ (sg.getD ((i : Int) + 2).toNat (0, false)).1 < (sg.getD (i : Int).toNat (0, false)).1) (hb : ¬ most ≤ (c : Int) + (sg.getD ((i : Int) + 2).toNat (0, false)).1 - (sg.getD (i : Int).toNat (0, false)).1) :
    laid most (sg.drop (i + 3)) (codes ++ rangeKs (sg.getD (i : Int).toNat (0, false)).1 ((sg.getD ((i : Int) + 2).toNat (0, false)).1 + 1 - (sg.getD (i : Int).toNat (0, false)).1).toNat) = R := by
  have hk := cut_long hv h (sd sg i).1
  rw [if_pos hn] at hk
  rw [← hp, laid_at (by omega) hk, if_neg (by dsimp only [sd]; omega)]; rfl
theorem st_short (hp : laid most (sg.drop i) codes = R) (hv : v = sg.length) (hi : (i : Int) < v) (h : ¬ ((i : Int) + 2 < (v : Int))) :
    R = stepL most (sg.getD (i : Int).toNat (0, false)).1 (sg.getD (i : Int).toNat (0, false)).1 (sg.drop (i + 1)) codes := by
  rw [← hp, laid_at (by omega) (cut_short hv hi h _)]; rfl
theorem st_neq (hp : laid most (sg.drop i) codes = R) (hv : v = sg.length) (hi : (i : Int) < v) (h : (i : Int) + 2 < (v : Int)) (hn : ¬ ((sg.getD ((i : Int) + 1).toNat (0, false)).1, (sg.getD ((i : Int) + 1).toNat (0, false)).2) = ((45, false) : Sgn)) :
    R = stepL most (sg.getD (i : Int).toNat (0, false)).1 (sg.getD (i : Int).toNat (0, false)).1 (sg.drop (i + 1)) codes := by
  have hk := cut_long hv h (sd sg i).1
  rw [if_neg hn] at hk
  rw [← hp, laid_at (by omega) hk]; rfl
theorem st_eq (hp : laid most (sg.drop i) codes = R) (hv : v = sg.length) (hi : (i : Int) < v) (h : (i : Int) + 2 < (v : Int)) (hn : ((sg.getD ((i : Int) + 1).toNat (0, false)).1, (sg.getD ((i : Int) + 1).toNat (0, false)).2) = ((45, false) : Sgn)) :
    R = stepL most (sg.getD (i : Int).toNat (0, false)).1 (sg.getD ((i : Int) + 2).toNat (0, false)).1 (sg.drop (i + 3)) codes := by
  have hk := cut_long hv h (sd sg i).1
  rw [if_pos hn] at hk
  rw [← hp, laid_at (by omega) hk]; rfl
theorem step_none {a b : Int} {r : List Sgn} (hp : R = stepL most a b r codes) (h : b < a ∨ most ≤ (codes.length : Int) + b - a) : R = none := by rw [hp, stepL, if_pos h]
theorem step_go {a b : Int} {r : List Sgn} (hp : R = stepL most a b r codes) (h1 : ¬ b < a) (h2 : ¬ most ≤ (codes.length : Int) + b - a) : laid most r (codes ++ rangeKs a (b + 1 - a).toNat) = R := by rw [hp, stepL, if_neg (not_or.mpr ⟨h1, h2⟩)]
end
end
-- part Q0
section
theorem ints_getD {vs : List Value} {ns : List Int} (I : IntsAre vs ns) {i : Nat} (h : i < vs.length) : ∃ t, vs[i]? = some (.int (ns.getD i 0) t) := by
  induction I generalizing i with
  | nil => simp at h
  | cons x t _ ih =>
    cases i with
    | zero => exact ⟨t, rfl⟩
    | succ i => simpa using ih (by simpa using h)
section
variable {prog : Program} {w : World} {A : Around} {E : Value → Shared → Prop} {s : Shared} {h₀ : Heap} {L l a b : Addr} {news : List (Addr × Obj)} {vs us : List Value} {ns ms : List Int} {n n' : Nat} {k : Int} {u : Tok} {Q : Value → Shared → Prop}
theorem int_item {value slice : PySem.Expr} (N : News h₀ L s.heap news) (hm : (l, listOf vs.toArray n) ∈ news) (I : IntsAre vs ns) (h0 : 0 ≤ k) (h1 : k < (vs.length : Int)) (h2 : vs.length < 2000)
    (h : ∀ t, Q (.int (ns.getD k.toNat 0) t) s)
    (hs : subscripted slice false (.ref l) (.int k u) = operate [.ref l, .int k u] (getItem (.ref l) (.int k u)) := by with_unfolding_all rfl) :
    wpAny (model prog w) A (subscriptTail value slice (.ref l) (.int k u)) Q E s := by
  have hl : s.heap.IsList l vs.toArray := ⟨_, (N _ hm).1, rfl, n, rfl⟩
  have hk : k.toNat < vs.length := by omega
  obtain ⟨t, ht⟩ := ints_getD I hk
  exact tail_any hl.typeIs slot_list_getitem.lookup (wpAny_getItem_list hl h0 (by omega) (by simpa using ht) (h t)) hs
theorem ints_eqv (ns ms : List Int) : PyData.eqv (.list (ns.map PyData.int)) (.list (ms.map PyData.int)) = decide (ns = ms) := by
  rw [← SeqAt.same_eq_eqv _ _ (by simp only [SeqAt.noMix]; exact noMix_ints ns ms)]
  simp only [PySem.Spec.same]
  exact same_ints ns ms
theorem ints_eqL (N : News h₀ L s.heap news) (ma : (a, listOf vs.toArray n) ∈ news) (I : IntsAre vs ns) (mb : (b, listOf us.toArray n') ∈ news) (J : IntsAre us ms) (hu : A.units + 64 < cLine) (h : Q (.bool (decide (ns = ms))) s) :
    wpAny (model prog w) A (compareOp .Eq (.ref a) (.ref b)) Q E s :=
  eq_dataH (reads_of_ints ⟨_, (N _ ma).1, rfl, n, rfl⟩ I) (reads_of_ints ⟨_, (N _ mb).1, rfl, n', rfl⟩ J) (shaped_ints ns) (shaped_ints ms) hu (by rw [ints_eqv]; exact h)
theorem ints_eq_nil (N : News h₀ L s.heap news) (ma : (a, listOf vs.toArray n) ∈ news) (I : IntsAre vs ns) (mb : (b, listOf #[] n') ∈ news) (hu : A.units + 64 < cLine) (h : Q (.bool (decide (ns.length = 0))) s) :
    wpAny (model prog w) A (compareOp .Eq (.ref a) (.ref b)) Q E s :=
  ints_eqL N ma I (us := []) mb .nil hu (by
    have e : decide (ns = []) = decide (ns.length = 0) := by cases ns <;> simp
    rw [e]; exact h)
theorem ints_neL (N : News h₀ L s.heap news) (ma : (a, listOf vs.toArray n) ∈ news) (I : IntsAre vs ns) (mb : (b, listOf us.toArray n') ∈ news) (J : IntsAre us ms) (hu : A.units + 64 < cLine) (h : Q (.bool (!decide (ns = ms))) s) :
    wpAny (model prog w) A (compareOp .NotEq (.ref a) (.ref b)) Q E s :=
  ne_dataH (reads_of_ints ⟨_, (N _ ma).1, rfl, n, rfl⟩ I) (reads_of_ints ⟨_, (N _ mb).1, rfl, n', rfl⟩ J) (shaped_ints ns) (shaped_ints ms) hu (by rw [ints_eqv]; exact h)
end
noncomputable def endOf (bec : List Int) (del : Bool) (place : Nat) (code : Int) : Int := if place < bec.length then bec.getD place 0 else if del = true then -2 else if bec = [] then code else bec.getD (bec.length - 1) 0
noncomputable def tableOf (src bec : List Int) (del : Bool) : Nat → List (Int × Int)
  | 0 => []
  | k + 1 => if kdfHas (tableOf src bec del k) (src.getD k 0) = true then tableOf src bec del k else kdfPut (tableOf src bec del k) (src.getD k 0) (endOf bec del k (src.getD k 0))
theorem table_len (src bec : List Int) (del : Bool) (k : Nat) : (tableOf src bec del k).length ≤ k := by
  induction k with
  | zero => simp [tableOf]
  | succ k ih =>
    unfold tableOf
    split
    · omega
    · have := kdfPut_len (tableOf src bec del k) (src.getD k 0) (endOf bec del k (src.getD k 0)); omega
theorem table_has {src bec : List Int} {del : Bool} {k : Nat} (h : kdfHas (tableOf src bec del k) (src.getD k 0) = true) : tableOf src bec del (k + 1) = tableOf src bec del k := by
  rw [tableOf, if_pos h]
theorem table_put {src bec : List Int} {del : Bool} {k : Nat} {v : Int} (h : kdfHas (tableOf src bec del k) (src.getD k 0) = false) (hv : v = endOf bec del k (src.getD k 0)) : tableOf src bec del (k + 1) = kdfPut (tableOf src bec del k) (src.getD k 0) v := by
  rw [tableOf, if_neg (by rw [h]; exact Bool.false_ne_true), hv]
theorem table_has2 {src bec : List Int} {del : Bool} {k : Nat} {kk : Int} (e : kk.toNat = k) (h : kdfHas (tableOf src bec del k) (src.getD kk.toNat 0) = true) : tableOf src bec del (k + 1) = tableOf src bec del k := by
  subst e; exact table_has h
theorem table_put2 {src bec : List Int} {del : Bool} {k : Nat} {v kk : Int} (e : kk.toNat = k) (h : kdfHas (tableOf src bec del k) (src.getD kk.toNat 0) = false) (hv : v = endOf bec del k (src.getD kk.toNat 0)) : tableOf src bec del (k + 1) = kdfPut (tableOf src bec del k) (src.getD kk.toNat 0) v := by
  subst e; exact table_put h hv
theorem end_in {bec : List Int} {del : Bool} {k : Nat} {kk c : Int} {u : Nat} (e : kk.toNat = k) (h0 : 0 ≤ kk) (hu : u = bec.length) (h : kk < (u : Int)) : bec.getD kk.toNat 0 = endOf bec del k c := by
  subst e; unfold endOf; rw [if_pos (by omega)]
theorem end_del {bec : List Int} {del : Bool} {k : Nat} {kk c : Int} {u : Nat} (e : kk.toNat = k) (h0 : 0 ≤ kk) (hu : u = bec.length) (h : ¬ kk < (u : Int)) (hd : del = true) : -2 = endOf bec del k c := by
  subst e; unfold endOf; rw [if_neg (by omega), if_pos hd]
theorem end_nil {bec : List Int} {del : Bool} {k : Nat} {kk c : Int} {u : Nat} {inst : Decidable (bec = [])} (e : kk.toNat = k) (h0 : 0 ≤ kk) (hu : u = bec.length) (h : ¬ kk < (u : Int)) (hd : del = false) (hb : @decide (bec = []) inst = true) : c = endOf bec del k c := by
  subst e; unfold endOf; rw [if_neg (by omega), if_neg (by simp [hd]), if_pos (@of_decide_eq_true _ inst hb)]
theorem nz_of {bec : List Int} {inst : Decidable (bec = [])} (h : @decide (bec = []) inst = false) : 0 < bec.length := by
  have := @of_decide_eq_false _ inst h
  cases bec with
  | nil => exact absurd rfl this
  | cons a l => simp
theorem end_last {bec : List Int} {del : Bool} {k : Nat} {kk c : Int} {u : Nat} {inst : Decidable (bec = [])} (e : kk.toNat = k) (h0 : 0 ≤ kk) (hu : u = bec.length) (h : ¬ kk < (u : Int)) (hd : del = false) (hb : @decide (bec = []) inst = false) : bec.getD ((u : Int) - 1).toNat 0 = endOf bec del k c := by
  have := @of_decide_eq_false _ inst hb
  subst e; unfold endOf; rw [if_neg (by omega), if_neg (by simp [hd]), if_neg this, show ((u : Int) - 1).toNat = bec.length - 1 by omega]
end
-- part G0
section
noncomputable def pd (s : Sgn) : PyData := .tuple [.int s.1, .bool s.2]
section
variable {prog : Program} {w : World} {A : Around} {E : Value → Shared → Prop} {s : Shared} {h₀ : Heap} {L l a b : Addr} {m : Str → Option Value} {news ns1 ns2 : List (Addr × Obj)} {vs us ws : List Value} {sg sg2 : List Sgn} {ns ms : List Int} {n n' k : Nat} {u : Tok} {P : Params} {Q : Value → Shared → Prop}
theorem sg_reads {h : Heap} (X : (hd.heap_39 P).In h₀) (F : Fr h₀ L h m) (N : News h₀ L h news) (A9 : All2 (SgIn P ns1) us sg) (hs : ∀ p ∈ ns1, p ∈ news) : ∃ as, ReadsAll h us (sg.map pd) as := by
  induction A9 with
  | nil => exact ⟨_, .nil⟩
  | cons r _ ih =>
    obtain ⟨a, t, rfl, ha⟩ := r.at X F (fun p hp => N p (hs p hp))
    obtain ⟨as, ih⟩ := ih
    exact ⟨_, .cons (reads_tuple_at ha rfl rfl (.cons (.int _ t) (.cons (.bool _) .nil))) ih⟩
theorem sg_eqv : ∀ (sg sg2 : List Sgn), PyData.eqvAll (sg.map pd) (sg2.map pd) = decide (sg = sg2)
  | [], [] => rfl
  | [], _ :: _ => rfl
  | _ :: _, [] => rfl
  | (c, g) :: r, (c2, g2) :: r2 => by
    have ih := sg_eqv r r2
    simp only [List.map_cons, PyData.eqvAll, ih, pd, PyData.eqv]
    by_cases h1 : c = c2 <;> by_cases h2 : g = g2 <;> by_cases h3 : r = r2 <;> simp [h1, h2, h3]
theorem sg_lay : ∀ (sg : List Sgn), PyData.canLayAll0 (sg.map pd) = true ∧ PyData.depthAll (sg.map pd) ≤ 2
  | [] => by simp [PyData.canLayAll0, PyData.depthAll]
  | (c, g) :: r => by
    have ih := sg_lay r
    simp only [List.map_cons, PyData.canLayAll0, PyData.depthAll, pd, PyData.canLay0, PyData.depth, ih.1]
    refine ⟨rfl, ?_⟩
    have := ih.2
    omega
theorem sg_shaped (sg : List Sgn) : SeqAt.shaped (.list (sg.map pd)) = true := by
  have h := sg_lay sg
  unfold SeqAt.shaped
  simp only [PyData.canLay0, PyData.depth, h.1, Bool.true_and]
  exact decide_eq_true (by omega)
theorem sg_ne (X : (hd.heap_39 P).In h₀) (F : Fr h₀ L s.heap m) (N : News h₀ L s.heap news) (ma : (a, listOf us.toArray n) ∈ news) (A1 : All2 (SgIn P ns1) us sg) (s1 : ∀ p ∈ ns1, p ∈ news) (mb : (b, listOf ws.toArray n') ∈ news) (A2 : All2 (SgIn P ns2) ws sg2) (s2 : ∀ p ∈ ns2, p ∈ news)
    (hu : A.units + 64 < cLine) (h : Q (.bool (!decide (sg = sg2))) s) : wpAny (model prog w) A (compareOp .NotEq (.ref a) (.ref b)) Q E s := by
  obtain ⟨as, r1⟩ := sg_reads X F N A1 s1
  obtain ⟨bs, r2⟩ := sg_reads X F N A2 s2
  exact ne_dataH (reads_list_at (N.get ma) rfl rfl (by simpa using r1)) (reads_list_at (N.get mb) rfl rfl (by simpa using r2)) (sg_shaped sg) (sg_shaped sg2) hu (by
    rw [show PyData.eqv (.list (sg.map pd)) (.list (sg2.map pd)) = decide (sg = sg2) from by rw [PyData.eqv]; exact sg_eqv sg sg2]; exact h)
theorem sg_ne_nil (X : (hd.heap_39 P).In h₀) (F : Fr h₀ L s.heap m) (N : News h₀ L s.heap news) (ma : (a, listOf us.toArray n) ∈ news) (A1 : All2 (SgIn P ns1) us sg) (s1 : ∀ p ∈ ns1, p ∈ news) (mb : (b, listOf #[] n') ∈ news)
    (hu : A.units + 64 < cLine) (h : Q (.bool (!decide (us.length = 0))) s) : wpAny (model prog w) A (compareOp .NotEq (.ref a) (.ref b)) Q E s :=
  sg_ne X F N ma A1 s1 (ws := []) mb .nil (ns2 := []) (List.forall_mem_nil _) hu (by
    rw [show decide (sg = []) = decide (us.length = 0) from by rw [A1.length]; cases sg <;> simp]; exact h)
theorem sl_drop {value slice : Expr} {t : Tok} {k : Int} (F : Fr h₀ L s.heap m) (N : News h₀ L s.heap news) (hm : (l, listOf vs.toArray n) ∈ news) (hz : vs.length < 2000) (hk : 0 ≤ k)
    (h : ∀ D h', (∀ p ∈ news, p.1 < D) → Fr h₀ L h' m → News h₀ L h' ((D, listOf (vs.drop k.toNat).toArray 0) :: news) → Q (.ref D) { s with heap := h' })
    (hs : subscripted slice false (.ref l) (.ref s.heap.objs.size) = operate [.ref s.heap.objs.size, .ref l] (getItem (.ref l) (.ref s.heap.objs.size))) (ht : ∀ r, letTemporaryGo value (.ref l) r = pure ()) :
    wpAny (model prog w) A (subscriptTail value slice (.ref l) (.ref s.heap.objs.size)) Q E { s with heap := s.heap.push { cls := .type "slice", data := .fields #[.int k t, .none, .none] } } :=
  kmk_slice_lit F N ⟨_, N.get hm, rfl, n, rfl⟩ (.int _ _) .none (zs := vs.drop k.toNat) (by rw [show k = (k.toNat : Int) by omega, slicePick_from']; rfl) (fun D h' F' N' l1 => h D h' l1 F' N') hs ht (by rw [List.size_toArray, sizeLine_eq]; omega)
theorem list_range9 {r : Addr} {a b : Int} {t u v : Tok} (hh : A.handled = none) (F : Fr h₀ L s.heap m) (N : News h₀ L s.heap news) (hr : IsRange s.heap r a b 1 t u v) (h1 : -1000000 ≤ a) (h2 : a ≤ 1000000) (h3 : -1000000 ≤ b) (h4 : b ≤ 1000000)
    (h : ∀ D ws c h' tk, (∀ p ∈ news, p.1 < D) → IntsAre ws (rangeKs a (b - a).toNat) → Fr h₀ L h' m → News h₀ L h' ((D, listOf ws.toArray c) :: news) → Q (.ref D) { s with heap := h', toks := tk }) :
    wpAny (model prog w) A (call (.type "list") [.ref r]) Q E s :=
  call_list_range hh hr (range_small h1 h2 h3 h4) (range_size a b) (by omega) fun h' tk acc' c' hk hS' hacc => by
    have hI : IntsAre acc'.toList (rangeKs a (b - a).toNat) := kll_ints _ _ _ (by simpa using hacc.1) fun j v hv => hacc.2 j v (by simpa using hv)
    refine h _ acc'.toList c' h' tk (fun p hp => Heap.lt_size (N p hp).1) hI (F.keeps hk) ?_
    exact news_pushed F N hk (by simpa using hS') rfl
theorem add_ints9 (F : Fr h₀ L s.heap m) (N : News h₀ L s.heap news) (ma : (a, listOf us.toArray n) ∈ news) (mb : (b, listOf ws.toArray n') ∈ news) (hz : us.length + ws.length < 4000)
    (h : ∀ l h', (∀ p ∈ news, p.1 < l) → Fr h₀ L h' m → News h₀ L h' ((l, listOf (us ++ ws).toArray 0) :: news) → Q (.ref l) { s with heap := h' }) : wpAny (model prog w) A (binaryOp .Add (.ref a) (.ref b)) Q E s :=
  add_lists (vs := us) (ws := ws) F N ⟨_, N.get ma, rfl, n, rfl⟩ ⟨_, N.get mb, rfl, n', rfl⟩ (fun h' F' N' => h _ h' (fun p hp => Heap.lt_size (N p hp).1) F' N') (by rw [sizeLine_eq]; omega)
end
theorem All2.drop {α β : Type} {R : α → β → Prop} {as : List α} {bs : List β} (h : All2 R as bs) (k : Nat) : All2 R (as.drop k) (bs.drop k) := by
  induction h generalizing k with
  | nil => simpa using .nil
  | cons r h ih =>
    cases k with
    | zero => exact .cons r h
    | succ k => simpa using ih k
end
-- part H0
section
theorem kf_ints_of {vs : List Value} {ns : List Int} (I : IntsAre vs ns) : kf_ints vs = true := by
  induction I with
  | nil => rfl
  | cons x t _ ih => exact ih
theorem any_ints {vs : List Value} {ns : List Int} (I : IntsAre vs ns) (k : Int) : vs.any (isInt k) = decide (k ∈ ns) := by
  induction I with
  | nil => simp
  | cons x t _ ih =>
    rw [List.any_cons, ih]
    have e : isInt k (.int x t) = decide (k = x) := by
      simp only [isInt]
      by_cases q : k = x
      · subst q; simp
      · have : ¬ x = k := fun h => q h.symm
        simp [q, this]
    rw [e]
    by_cases q : k = x <;> simp [q]
section
variable {prog : Program} {w : World} {A : Around} {E : Value → Shared → Prop} {s : Shared} {h₀ : Heap} {L l a b : Addr} {news : List (Addr × Obj)} {vs us : List Value} {ns ms : List Int} {n n' : Nat} {k : Int} {u t : Tok} {Q : Value → Shared → Prop}
theorem ints_in9 (N : News h₀ L s.heap news) (ma : (a, listOf vs.toArray n) ∈ news) (I : IntsAre vs ns) (h : Q (.bool (decide (k ∈ ns))) s) :
    wpAny (model prog w) A (compareOp .In (.int k t) (.ref a)) Q E s :=
  kf_in N ma (kf_ints_of I) (any_ints I k) h
theorem ints_notin9 (N : News h₀ L s.heap news) (ma : (a, listOf vs.toArray n) ∈ news) (I : IntsAre vs ns) (h : Q (.bool (!decide (k ∈ ns))) s) :
    wpAny (model prog w) A (compareOp .NotIn (.int k t) (.ref a)) Q E s :=
  kf_notin N ma (kf_ints_of I) (by rw [any_ints I k]) h
theorem int_neg {value slice : PySem.Expr} (N : News h₀ L s.heap news) (hm : (l, listOf vs.toArray n) ∈ news) (I : IntsAre vs ns) (h1 : 0 < (vs.length : Int)) (h2 : vs.length < 2000)
    (h : ∀ t, Q (.int (ns.getD (vs.length - 1) 0) t) s)
    (hs : subscripted slice false (.ref l) (.int (-1) u) = operate [.ref l, .int (-1) u] (getItem (.ref l) (.int (-1) u)) := by with_unfolding_all rfl) :
    wpAny (model prog w) A (subscriptTail value slice (.ref l) (.int (-1) u)) Q E s := by
  have hl : s.heap.IsList l vs.toArray := ⟨_, (N _ hm).1, rfl, n, rfl⟩
  obtain ⟨t, ht⟩ := ints_getD I (i := vs.length - 1) (by omega)
  exact tail_any hl.typeIs slot_list_getitem.lookup (wpAny_getItem_list_neg hl (by decide) (by simp; omega) (by decide) (by
    have e : ((-1 : Int) + (vs.toArray.size : Int)).toNat = vs.length - 1 := by simp; omega
    rw [e]; simpa using ht) (h t)) hs
end
noncomputable def outs (ns : List Int) : Nat → Nat
  | 0 => 0
  | k + 1 => if (k : Int) ∈ ns then outs ns k else outs ns k + 1
theorem outs_le (ns : List Int) (k : Nat) : outs ns k ≤ k := by
  induction k with
  | zero => simp [outs]
  | succ k ih => unfold outs; split <;> omega
theorem outs_in {ns : List Int} {k : Nat} {j : Int} (e : j.toNat = k) (h0 : 0 ≤ j) {inst : Decidable (j ∈ ns)} (h : @decide (j ∈ ns) inst = true) : outs ns (k + 1) = outs ns k := by
  have : (k : Int) = j := by omega
  rw [outs, if_pos (by rw [this]; exact @of_decide_eq_true _ inst h)]
theorem outs_not {ns : List Int} {k : Nat} {j : Int} (e : j.toNat = k) (h0 : 0 ≤ j) {inst : Decidable (j ∈ ns)} (h : @decide (j ∈ ns) inst = false) : outs ns (k + 1) = outs ns k + 1 := by
  have : (k : Int) = j := by omega
  rw [outs, if_neg (by rw [this]; exact @of_decide_eq_false _ inst h)]
/-- rank by the law -/
noncomputable def rankOf (ns : List Int) (code : Int) : Int := if code ∈ ns then -1 else (outs ns code.toNat : Int)
/-- lower bound facts of a strictly ascending list -/
noncomputable def LowB (ns : List Int) (code : Int) (b : Nat) : Prop := b ≤ ns.length ∧ (∀ i, i < b → ns.getD i 0 < code) ∧ ∀ i, b ≤ i → i < ns.length → code ≤ ns.getD i 0
theorem low_mem {ns : List Int} {code : Int} {b : Nat} (P : ns.Pairwise (· < ·)) (h : LowB ns code b) : code ∈ ns ↔ b < ns.length ∧ ns.getD b 0 = code := by
  obtain ⟨h1, h2, h3⟩ := h
  constructor
  · intro hm
    obtain ⟨i, hi, e⟩ := List.getElem_of_mem hm
    have ed : ns.getD i 0 = code := by rw [List.getD_eq_getElem?_getD, List.getElem?_eq_getElem hi]; exact e
    have hbi : b ≤ i := by
      rcases Nat.lt_or_ge i b with q | q
      · have := h2 i q; omega
      · exact q
    refine ⟨by omega, ?_⟩
    rcases Nat.lt_or_ge b i with q | q
    · have p := List.pairwise_iff_getElem.mp P b i (by omega) hi q
      have hb : ns.getD b 0 = ns[b] := by rw [List.getD_eq_getElem?_getD, List.getElem?_eq_getElem (by omega)]; rfl
      have := h3 b (Nat.le_refl _) (by omega)
      omega
    · have : b = i := by omega
      subst this; exact ed
  · rintro ⟨h4, h5⟩
    rw [← h5, List.getD_eq_getElem?_getD, List.getElem?_eq_getElem h4]
    exact List.getElem_mem h4
theorem outs_eq {ns : List Int} (P : ns.Pairwise (· < ·)) (hn : ∀ x ∈ ns, 0 ≤ x) (k : Nat) : outs ns k + (ns.filter (fun x => decide (x < (k : Int)))).length = k := by
  induction k with
  | zero =>
    have : ns.filter (fun x => decide (x < ((0 : Nat) : Int))) = [] := by
      rw [List.filter_eq_nil_iff]; intro x hx; have := hn x hx; simp; omega
    rw [this]; rfl
  | succ k ih =>
    have key : (ns.filter (fun x => decide (x < ((k + 1 : Nat) : Int)))).length = (ns.filter (fun x => decide (x < (k : Int)))).length + (if (k : Int) ∈ ns then 1 else 0) := by
      clear ih
      induction ns with
      | nil => simp
      | cons x r ih =>
        rw [List.pairwise_cons] at P
        have ih := ih P.2 (fun y hy => hn y (.tail _ hy))
        rw [List.filter_cons, List.filter_cons]
        by_cases q : x = (k : Int)
        · subst q
          have hk : ¬ (k : Int) ∈ r := fun hk => by have := P.1 _ hk; omega
          rw [if_neg hk] at ih
          have e1 : decide ((k : Int) < ((k + 1 : Nat) : Int)) = true := by simp; omega
          have e2 : decide ((k : Int) < (k : Int)) = false := by simp
          rw [e1, e2]
          simp only [if_true, List.length_cons, ih, List.mem_cons, true_or, Bool.false_eq_true, if_false]
        · have e : decide (x < ((k + 1 : Nat) : Int)) = decide (x < (k : Int)) := by
            by_cases q2 : x < (k : Int)
            · have : x < ((k + 1 : Nat) : Int) := by omega
              simp only [q2, this]
            · have : ¬ x < ((k + 1 : Nat) : Int) := by omega
              simp only [q2, this]
          rw [e]
          have m : ((k : Int) ∈ x :: r) ↔ (k : Int) ∈ r := by simp [Ne.symm q]
          simp only [m]
          split
          · rw [List.length_cons, List.length_cons, ih]; omega
          · exact ih
    rw [key]; unfold outs; split <;> omega
theorem low_count {ns : List Int} {code : Int} {b : Nat} (P : ns.Pairwise (· < ·)) (h : LowB ns code b) : (ns.filter (fun x => decide (x < code))).length = b := by
  obtain ⟨h1, h2, h3⟩ := h
  clear P
  induction ns generalizing b with
  | nil => simp at h1; simp [h1]
  | cons x r ih =>
    cases b with
    | zero =>
      have hx : ¬ x < code := by have := h3 0 (Nat.le_refl _) (by simp); simp at this; omega
      rw [List.filter_cons, if_neg (by simpa using hx)]
      exact ih (b := 0) (Nat.zero_le _) (fun i hi => absurd hi (Nat.not_lt_zero _)) (fun i _ hi => by simpa using h3 (i + 1) (Nat.zero_le _) (by simpa using hi))
    | succ b =>
      have hx : x < code := by simpa using h2 0 (Nat.succ_pos _)
      rw [List.filter_cons, if_pos (by simpa using hx), List.length_cons]
      rw [ih (b := b) (by simpa using h1) (fun i hi => by simpa using h2 (i + 1) (Nat.succ_lt_succ hi)) (fun i hb hi => by simpa using h3 (i + 1) (Nat.succ_le_succ hb) (by simpa using hi))]
theorem rank_low {ns : List Int} {code : Int} {b : Nat} (P : ns.Pairwise (· < ·)) (hn : ∀ x ∈ ns, 0 ≤ x) (h0 : 0 ≤ code) (h : LowB ns code b) : rankOf ns code = if b < ns.length ∧ ns.getD b 0 = code then -1 else code - (b : Int) := by
  unfold rankOf
  by_cases q : code ∈ ns
  · rw [if_pos q, if_pos ((low_mem P h).mp q)]
  · rw [if_neg q, if_neg (fun z => q ((low_mem P h).mpr z))]
    have e := outs_eq P hn code.toNat
    rw [show ((code.toNat : Nat) : Int) = code by omega, low_count P h] at e
    omega
theorem getD_mono {ns : List Int} (P : ns.Pairwise (· < ·)) {i j : Nat} (h : i ≤ j) (hj : j < ns.length) : ns.getD i 0 ≤ ns.getD j 0 := by
  rcases Nat.eq_or_lt_of_le h with rfl | q
  · exact Int.le_refl _
  · have p := List.pairwise_iff_getElem.mp P i j (by omega) hj q
    have a : ns.getD i 0 = ns[i] := by rw [List.getD_eq_getElem?_getD, List.getElem?_eq_getElem (by omega)]; rfl
    have b : ns.getD j 0 = ns[j] := by rw [List.getD_eq_getElem?_getD, List.getElem?_eq_getElem hj]; rfl
    omega
theorem rank_lo {ns : List Int} {code : Int} (h0 : 0 ≤ code) : -1 ≤ rankOf ns code ∧ rankOf ns code ≤ code := by
  unfold rankOf
  have := outs_le ns code.toNat
  split <;> omega
/-- what the turned table tells -/
noncomputable def turnOf (ns bec : List Int) (del : Bool) (code : Int) : Int := if rankOf ns code < 0 then -1 else endOf bec del (rankOf ns code).toNat code
end
-- part F4
section
theorem fresh_F4 : True := by
  w_top off
  trivial
local macro_rules | `(tactic| walk_at "subscriptTail Name Slice ref ref") => `(tactic| (k_here; ((with_reducible show wpAny _ _ (subscriptTail _ (PySem.Expr.Slice _ _ none _) (Value.ref _) (Value.ref _)) _ _ _); k_dflt (refine' sl_drop ?F ?N ?m ?z ?k ?_ ?s ?t; (case k => decide); (case F => k_asm); (case N => k_asm); (case m => first | k_mem | kst_mem); (case z => first | (simp only [List.length_drop]; omega) | omega); (case s => with_unfolding_all rfl); (case t => kmk_pure); k_whole; intro D9 h9 l9 F9 N9; (try k_lt l9)))))
local macro_rules | `(tactic| walk_at "subscriptTail") => `(tactic| (k_here; first
  | (walk_at "# sgp_first akkkn_"; k_whole)
  | (k_dflt (walk_at "# sg_item kkkmanooo_"; k_whole; intro a9 t9 i9))))
local macro_rules | `(tactic| walk_at "compareOp Eq ref ref") => `(tactic| (k_here; k_dflt (walk_at "# sgp_eq akkknMt_"; k_whole)))
local macro_rules | `(tactic| walk_at "compareOp NotEq ref ref") => `(tactic| (k_here; k_dflt (walk_at "# sg_ne_nil kkkmanMt_"; k_whole)))
local macro_rules | `(tactic| walk_at "call type:list") => `(tactic| (k_here; k_dflt (first
  | (walk_at "# list_range9 rkkaoooo_"; k_whole; intro D9 w9 c9 h9 tk9 l9 i9 F9 N9; (try k_lt l9))
  | (walk_at "# list_copyK kkN_s"; k_whole; intro D9 c9 h9 F9 N9 l9; (try k_lt l9)))))
local macro_rules | `(tactic| walk_at "binaryOp Add ref ref") => `(tactic| (k_here; k_dflt (walk_at "# add_ints9 kkmmo_"; k_whole; intro l9 h9 lt9 F9 N9; (try k_lt lt9))))
theorem hb_drop {l : List Sgn} {P : Sgn → Prop} (h : ∀ k, P (l.getD k (0, false))) (j : Nat) : ∀ k, P ((l.drop j).getD k (0, false)) := by
  intro k
  have := h (j + k)
  rwa [List.getD_eq_getElem?_getD, List.getElem?_drop, ← List.getD_eq_getElem?_getD]
local macro_rules | `(tactic| walk_at "execs cons If cons") => `(tactic| refine Stop.out ?_)
local macro_rules | `(tactic| walk_at "execs cons Assign cons") => `(tactic| (k_here; walk_at "# use_tail a_"))
theorem lcodes_call {w : World} {mean : ExcName → Option Value} {mg mb : Str → Option Value}
    {dp un : Nat} {gd : Option (List Code)} {cn : Str} {cs : Scope} {a : Addr} {ccd : Value} {cl : List (Str × Addr)} {outer : List Env} {A₀ : Around} {base h₀ : Heap} {L : Addr} {m : Str → Option Value} {s : Shared} {Q E : Value → Shared → Prop} {news : List (Addr × Obj)}
    (B : Below A₀ base outer h₀) (F : Fr h₀ L s.heap m) (X : (hd.heap_39 w.params).In h₀) (N : News h₀ L s.heap news)
    (T : Top hd.view_39 (looseW hd.view_39 [Str.ofString "SHORT_ESCAPES", Str.ofString "_law_parts"]) mean mg mb h₀) (hkf : cs.kind = .function)
    {ls : Addr} {us : List Value} {nl : Nat} {sg : List Sgn} {most : Int} {tk1 : Tok} (hl : (ls, listOf us.toArray nl) ∈ news) (A0 : All2 (SgIn w.params []) us sg) (hus : us.length < 2000) (hb : ∀ k, 0 ≤ (sg.getD k (0, false)).1 ∧ (sg.getD k (0, false)).1 < 128) (hm0 : 0 ≤ most) (hm1 : most ≤ 1000)
    (hdp : dp + 4 < recursionLimit) (hun : un + 100 < cLine)
    (hsome : ∀ codes l vs n h' tk', laid most sg [] = some codes → IntsAre vs codes → vs.length < 2000 → (∀ p ∈ news, p.1 < l) → Fr h₀ L h' m → News h₀ L h' ((l, listOf vs.toArray n) :: news) → Q (.ref l) { s with heap := h', toks := tk' })
    (hnone : ∀ h' tk', laid most sg [] = none → Fr h₀ L h' m → News h₀ L h' news → Q .none { s with heap := h', toks := tk' }) :
    wpAny (model Challenge.rw_qd0140_01.row.prog w) (ktrTop dp un gd cn cs L a ccd cl outer) (call (.ref 281) [.ref ls, .int most tk1]) Q E s := by
  revert X; k_fill; intro X
  refine wpAny_call ?_
  k_dflt (refine' code_def ?k1 ?k2 ?k3 ?k4 ?k5 ?kA ?kF ?kK ?k6 ?k7 ?k8 ?k9 ?kB ?_ ?c2 ?c3 ?c4 ?c5; (case kA => exact rfl); (case kF => exact rfl); (case kK => first | exact rfl | assumption); (case k1 => k_asm); (case k2 => k_asm); (case k3 => k_asm); (case k4 => k_asm); (case k5 => k_asm); (case k6 => k_is); (case k7 => k_is); (case k8 => first | ((try simp only [depth_under_make, depth_under_kw, depth_in1, depth_deeper, depth_caller]); (try dsimp only [ktrTop]); omega) | ktr_room); (case k9 => exact BindsTo.of_eq rfl); (case c5 => decide); (case kB => exact locs rfl); (case c2 => exact rfl); (case c3 => exact rfl); (case c4 => exact rfl); k_whole; intro g' L' h' FG' F' N' B' X' T'; (try dsimp only); (try k_fold))
  k_steps
  refine Stop.in ?_
  rename_i fl0 _ lf _ _ ll0 c0 _ lll _ _ _
  rename Fr _ _ _ _ => lF'
  rename News _ _ _ _ => lN'
  refine fr_abs [(Str.ofString "signs", .ref ls), (Str.ofString "most", .int most tk1), (Str.ofString "found", .ref fl0), (Str.ofString "left", .ref ll0)] lF' (by kst_all) ?_
  clear lF'
  intro uu lF'
  with_unfolding_all refine' ksw_while (σ := List Sgn × List Value × Addr × Nat × List Value × Addr × Nat × List Int) (fun c => (c.2.2.1, listOf c.2.1.toArray c.2.2.2.1) :: (c.2.2.2.2.2.1, listOf c.2.2.2.2.1.toArray c.2.2.2.2.2.2.1) :: news) (fun c => [(Str.ofString "found", .ref c.2.2.2.2.2.1), (Str.ofString "left", .ref c.2.2.1)]) (fun c => True) [Str.ofString "first", Str.ofString "last"] (fun c => laid most c.1 c.2.2.2.2.2.2.2 = laid most sg [] ∧ All2 (SgIn w.params []) c.2.1 c.1 ∧ IntsAre c.2.2.2.2.1 c.2.2.2.2.2.2.2 ∧ (c.2.2.2.2.2.2.2.length : Int) ≤ 1000 ∧ (∀ p ∈ news, p.1 < c.2.2.2.2.2.1) ∧ (∀ k, 0 ≤ (c.1.getD k (0, false)).1 ∧ (c.1.getD k (0, false)).1 < 128) ∧ c.2.1.length < 2000) (fun c => c.1.length) (sg, us, ll0, c0, [], fl0, 0, []) lF' lN' ?kf ?kk ?kp ?_
  case kk => kst_all
  case kf => trivial
  case kp => exact ⟨rfl, A0, .nil, by simp, lf, hb, hus⟩
  clear lF' lN'
  rintro ⟨rest, lv, ll, nn, vs, fl, nf, codes⟩ u h tk hf ⟨hp1, hp2, hp3, hp4, hp5, hp6, hp7⟩ F1 N1
  (try dsimp only at *)
  have hvl := hp2.length
  have hvs0 := hp3.length
  have b0 := hp6 (0 : Int).toNat
  have b2 := hp6 (2 : Int).toNat
  refine absB fun Q9 hQ9 => ?_
  try k_unmd
  try k_fold
  k_steps
  · refine hsome codes fl vs nf _ _ (end_laid (sg := rest) (i := 0) hp1 hvl (by omega)) hp3 (by omega) hp5 (by assumption) ?_
    rename News h₀ L _ _ => N9
    exact kst_newsOf N9 (by repeat (first | exact List.forall_mem_nil _ | (refine List.forall_mem_cons.mpr ⟨by repeat (first | exact List.Mem.head _ | apply List.Mem.tail), ?_⟩) | (intro p hp; repeat (first | exact hp | apply List.Mem.tail))))
  refine Stop.in ?_
  (try dsimp only)
  rename Fr _ _ _ _ => F2
  rename News _ _ _ _ => N2
  rename PairAt _ _ _ _ _ _ => i9
  rename ¬ (List.length _ = 0) => hne

  refine cut_execs (fun s2 => ∃ (ll2 : Addr) (nn2 : Nat) (lv2 : List Value) (rest2 : List Sgn) (b : Int) (t1 t2 : Tok) (h2 : Heap) (k2 : Nat), s2 = { s with heap := h2, toks := k2 } ∧ Fr g' L' h2 (kstB (kstB uu [(Str.ofString "signs", .ref ls), (Str.ofString "most", .int most tk1), (Str.ofString "found", .ref fl0), (Str.ofString "left", .ref ll0)]) [(Str.ofString "found", .ref fl), (Str.ofString "left", .ref ll2), (Str.ofString "first", .int (rest.getD (Int.toNat 0) (0, false)).1 t1), (Str.ofString "last", .int b t2)]) ∧ News g' L' h2 ((ll2, listOf lv2.toArray nn2) :: (fl, listOf vs.toArray nf) :: news) ∧ All2 (SgIn w.params []) lv2 rest2 ∧ rest2.length ≤ rest.length ∧ lv2.length < 2000 ∧ 0 ≤ b ∧ b < 128 ∧ (∀ k, 0 ≤ (rest2.getD k (0, false)).1 ∧ (rest2.getD k (0, false)).1 < 128) ∧ laid most sg [] = stepL most (rest.getD (Int.toNat 0) (0, false)).1 b (rest2.drop 1) codes) (fun s2 hs2 => ?_) (fun ht => ?_)
  rotate_left
  · refine wpAny_execs_cons ?_
    k_steps
    all_goals refine Stop.in ?_
    · exact ⟨_, 0, lv.drop 2, rest.drop 2, _, _, _, _, _, rfl, fr_to (by assumption) (by kst_all) (by first | ksw_same | (dsimp only [kstB]; ksw_same)), kst_newsOf (by assumption) (by repeat (first | exact List.forall_mem_nil _ | (refine List.forall_mem_cons.mpr ⟨by repeat (first | exact List.Mem.head _ | apply List.Mem.tail), ?_⟩) | (intro p hp; repeat (first | exact hp | apply List.Mem.tail)))), hp2.drop 2, by rw [List.length_drop]; exact Nat.sub_le _ _, by rw [List.length_drop]; exact Nat.lt_of_le_of_lt (Nat.sub_le _ _) hp7, b2.1, b2.2, hb_drop (P := fun c => 0 ≤ c.1 ∧ c.1 < 128) hp6 2, by rw [List.drop_drop]; exact st_eq (sg := rest) (i := 0) hp1 hvl (by omega) (by assumption) (by assumption)⟩
    · exact ⟨ll, nn, lv, rest, _, _, _, _, _, rfl, fr_to (by assumption) (by kst_all) (by first | ksw_same | (dsimp only [kstB]; ksw_same)), kst_newsOf (by assumption) (by repeat (first | exact List.forall_mem_nil _ | (refine List.forall_mem_cons.mpr ⟨by repeat (first | exact List.Mem.head _ | apply List.Mem.tail), ?_⟩) | (intro p hp; repeat (first | exact hp | apply List.Mem.tail)))), hp2, Nat.le_refl _, hp7, b0.1, b0.2, hp6, st_neq (sg := rest) (i := 0) hp1 hvl (by omega) (by assumption) (by assumption)⟩
    · exact ⟨ll, nn, lv, rest, _, _, _, _, _, rfl, fr_to (by assumption) (by kst_all) (by first | ksw_same | (dsimp only [kstB]; ksw_same)), kst_newsOf (by assumption) (by repeat (first | exact List.forall_mem_nil _ | (refine List.forall_mem_cons.mpr ⟨by repeat (first | exact List.Mem.head _ | apply List.Mem.tail), ?_⟩) | (intro p hp; repeat (first | exact hp | apply List.Mem.tail)))), hp2, Nat.le_refl _, hp7, b0.1, b0.2, hp6, st_short (sg := rest) (i := 0) hp1 hvl (by omega) (by assumption)⟩
  · obtain ⟨ll2, nn2, lv2, rest2, b, t1, t2, h2, k2, rfl, F3, N3, A3, l3, z3, b3, b4, q3, e3⟩ := hs2
    clear F2 N2 i9 hp1
    generalize (rest.getD (Int.toNat 0) (0, false)).1 = a0 at *
    k_steps
    refine Stop.in ?_
    refine wpAny_execs_cons ?_
    k_steps
    all_goals (refine hQ9 _ _ ?_; k_steps)
    all_goals (try (
      refine hnone _ _ ?_ (by assumption) (kst_newsOf (by assumption) (by repeat (first | exact List.forall_mem_nil _ | (refine List.forall_mem_cons.mpr ⟨by repeat (first | exact List.Mem.head _ | apply List.Mem.tail), ?_⟩) | (intro p hp; repeat (first | exact hp | apply List.Mem.tail)))))
      exact step_none e3 (by first | exact .inl (by assumption) | exact .inr (by omega))))
    refine Stop.in ?_
    rename IntsAre _ (codes ++ _) => hI
    exact ksw_end (rest2.drop 1, lv2.drop 1, _, 0, _, _, 0, _) (by assumption) (by assumption) (by repeat (first | exact List.forall_mem_nil _ | (refine List.forall_mem_cons.mpr ⟨by repeat (first | exact List.Mem.head _ | apply List.Mem.tail), ?_⟩) | (intro p hp; repeat (first | exact hp | apply List.Mem.tail)))) trivial (by kst_all) (by first | ksw_same | (dsimp only [kstB]; ksw_same))
      ⟨(step_go e3 (by assumption) (by omega)).trans (by rfl), A3.drop 1, hI, by dsimp only; rw [List.length_append, rangeKs_length]; omega, by (rename _ ∧ _ ∧ _ ∧ _ ∧ AllLt _ _ => q; exact allLt_all q.2.2.2.2), hb_drop (P := fun c => 0 ≤ c.1 ∧ c.1 < 128) q3 1, Nat.lt_of_le_of_lt (Nat.le_of_eq (List.length_drop ..)) (Nat.lt_of_le_of_lt (Nat.sub_le _ _) z3)⟩ (by simp only [List.length_drop]; omega)
end
-- part F1
section
theorem fresh_F1 : True := by
  w_top off
  trivial
local macro_rules | `(tactic| walk_at "subscriptTail") => `(tactic| (k_here; k_dflt (walk_at "# int_item kmaooo_"; k_whole; intro t9)))
theorem feed_call {w : World} {mean : ExcName → Option Value} {mg mb : Str → Option Value}
    {dp un : Nat} {gd : Option (List Code)} {cn : Str} {cs : Scope} {a : Addr} {ccd : Value} {cl : List (Str × Addr)} {outer : List Env} {A₀ : Around} {base h₀ : Heap} {L : Addr} {m : Str → Option Value} {s : Shared} {Q E : Value → Shared → Prop} {news : List (Addr × Obj)}
    (B : Below A₀ base outer h₀) (F : Fr h₀ L s.heap m) (X : (hd.heap_39 w.params).In h₀) (N : News h₀ L s.heap news)
    (T : Top hd.view_39 (looseW hd.view_39 [Str.ofString "SHORT_ESCAPES", Str.ofString "_law_parts"]) mean mg mb h₀) (hkf : cs.kind = .function)
    {tr c : Addr} {vs : List Value} {cells : List Int} {nc n : Nat} {spot many : Int} {t0 tk1 : Tok} {g : Obj → List (Addr × Obj)} (U : UpdF tr (listOf [.ref c, .int spot t0].toArray n) news g) (hc : (c, listOf vs.toArray nc) ∈ news) (Ic : IntsAre vs cells) (hvs : vs.length < 1000) (hct : c ≠ tr)
    (hs0 : 0 ≤ spot) (hs1 : spot < 1000) (hm0 : 1 ≤ many) (hm1 : many ≤ 1000)
    (hdp : dp + 2 < recursionLimit) (hun : un + 100 < cLine)
    (hret : ∀ r t' t'' n' h' tk', 0 ≤ r → r < many → Fr h₀ L h' m → News h₀ L h' (g (listOf [.ref c, .int (spot + 1) t''].toArray n')) → Q (.int r t') { s with heap := h', toks := tk' }) :
    wpAny (model Challenge.rw_qd0140_01.row.prog w) (ktrTop dp un gd cn cs L a ccd cl outer) (call (.ref 267) [.ref tr, .int many tk1]) Q E s := by
  revert X; k_fill; intro X
  obtain ⟨pre, post, rfl, hg, hp1, hp2⟩ := U.split
  have hne : ∀ p ∈ pre ++ post, p.1 ≠ tr := fun p hp => (List.mem_append.mp hp).elim (hp1 p) (hp2 p)
  have hc2 : (c, listOf vs.toArray nc) ∈ pre ++ post := by
    rcases List.mem_append.mp hc with h | h
    · exact List.mem_append_left _ h
    · rcases List.mem_cons.mp h with h | h
      · exact absurd (congrArg Prod.fst h) hct
      · exact List.mem_append_right _ h
  replace N : News h₀ L s.heap ((tr, listOf [.ref c, .int spot t0].toArray n) :: (pre ++ post)) := kst_newsOf N (by intro p hp; simp only [List.mem_cons, List.mem_append] at hp ⊢; rcases hp with h | h | h <;> simp [h])
  have hret2 : ∀ r t' t'' n' h' tk', 0 ≤ r → r < many → Fr h₀ L h' m → News h₀ L h' ((tr, listOf [.ref c, .int (spot + 1) t''].toArray n') :: (pre ++ post)) → Q (.int r t') { s with heap := h', toks := tk' } := fun r t' t'' n' h' tk' a1 a2 a3 a4 => hret r t' t'' n' h' tk' a1 a2 a3 (by rw [hg]; exact kst_newsOf a4 (by intro p hp; simp only [List.mem_cons, List.mem_append] at hp ⊢; rcases hp with h | h | h <;> simp [h]))
  clear hret hg U hc
  generalize pre ++ post = nw at *
  refine wpAny_call ?_
  k_dflt (refine' code_def ?k1 ?k2 ?k3 ?k4 ?k5 ?kA ?kF ?kK ?k6 ?k7 ?k8 ?k9 ?kB ?_ ?c2 ?c3 ?c4 ?c5; (case kA => exact rfl); (case kF => exact rfl); (case kK => first | exact rfl | assumption); (case k1 => k_asm); (case k2 => k_asm); (case k3 => k_asm); (case k4 => k_asm); (case k5 => k_asm); (case k6 => k_is); (case k7 => k_is); (case k8 => first | ((try simp only [depth_under_make, depth_under_kw, depth_in1, depth_deeper, depth_caller]); (try dsimp only [ktrTop]); omega) | ktr_room); (case k9 => exact BindsTo.of_eq rfl); (case c5 => decide); (case kB => exact locs rfl); (case c2 => exact rfl); (case c3 => exact rfl); (case c4 => exact rfl); k_whole; intro g' L' h' FG' F' N' B' X' T'; (try dsimp only); (try k_fold))
  k_steps
  all_goals exact hret2 _ _ _ _ _ _ (Int.fmod_nonneg_of_pos _ (by omega)) (Int.fmod_lt_of_pos _ (by omega)) (by assumption) (by assumption)
end
-- part F2
section
noncomputable def PartAt (P : Params) (v : Value) (as : List Atom) : Prop := ∃ q t l vs, v = .ref q ∧ (hd.heap_39 P).lookup q = some (tupO [.str (strOf as) t, .ref l]) ∧ (hd.heap_39 P).lookup l = some (listOf vs.toArray 0) ∧ All2 (SgIn P []) vs (as.map Atom.sgn)
noncomputable def partAtoms : Nat → List Atom
  | 0 => [.plain 97]
  | 1 => [.plain 45]
  | 2 => [.short 110 10]
  | 3 => [.short 114 13]
  | 4 => [.short 116 9]
  | 5 => [.short 102 12]
  | 6 => [.short 101 27]
  | 7 => [.short 97 7]
  | 8 => [.short 98 8]
  | 9 => [.zero]
  | 10 => [.self 45]
  | 11 => [.self 92]
  | 12 => [.self 122]
  | 13 => [.plain 100]
  | 14 => [.plain 99, .plain 45, .plain 102]
  | 15 => [.short 116 9, .plain 45, .short 114 13]
  | 16 => [.plain 102, .plain 45, .plain 99]
  | 17 => [.plain 53]
  | 18 => []
  | 19 => [.plain 98, .self 45, .plain 100]
  | _ => []
section
variable {P : Params}
theorem part_0 : PartAt P (.ref 195) (partAtoms 0) :=
  ⟨195, 491, 194, [.ref 193], rfl, by kernel_rfl, by kernel_rfl, .cons ⟨193, 492, rfl, .inl (by kernel_rfl)⟩ (.nil)⟩
theorem part_1 : PartAt P (.ref 198) (partAtoms 1) :=
  ⟨198, 493, 197, [.ref 196], rfl, by kernel_rfl, by kernel_rfl, .cons ⟨196, 494, rfl, .inl (by kernel_rfl)⟩ (.nil)⟩
theorem part_2 : PartAt P (.ref 201) (partAtoms 2) :=
  ⟨201, 495, 200, [.ref 199], rfl, by kernel_rfl, by kernel_rfl, .cons ⟨199, 496, rfl, .inl (by kernel_rfl)⟩ (.nil)⟩
theorem part_3 : PartAt P (.ref 204) (partAtoms 3) :=
  ⟨204, 497, 203, [.ref 202], rfl, by kernel_rfl, by kernel_rfl, .cons ⟨202, 498, rfl, .inl (by kernel_rfl)⟩ (.nil)⟩
theorem part_4 : PartAt P (.ref 207) (partAtoms 4) :=
  ⟨207, 499, 206, [.ref 205], rfl, by kernel_rfl, by kernel_rfl, .cons ⟨205, 500, rfl, .inl (by kernel_rfl)⟩ (.nil)⟩
theorem part_5 : PartAt P (.ref 210) (partAtoms 5) :=
  ⟨210, 501, 209, [.ref 208], rfl, by kernel_rfl, by kernel_rfl, .cons ⟨208, 502, rfl, .inl (by kernel_rfl)⟩ (.nil)⟩
theorem part_6 : PartAt P (.ref 213) (partAtoms 6) :=
  ⟨213, 503, 212, [.ref 211], rfl, by kernel_rfl, by kernel_rfl, .cons ⟨211, 504, rfl, .inl (by kernel_rfl)⟩ (.nil)⟩
theorem part_7 : PartAt P (.ref 216) (partAtoms 7) :=
  ⟨216, 505, 215, [.ref 214], rfl, by kernel_rfl, by kernel_rfl, .cons ⟨214, 506, rfl, .inl (by kernel_rfl)⟩ (.nil)⟩
theorem part_8 : PartAt P (.ref 219) (partAtoms 8) :=
  ⟨219, 507, 218, [.ref 217], rfl, by kernel_rfl, by kernel_rfl, .cons ⟨217, 508, rfl, .inl (by kernel_rfl)⟩ (.nil)⟩
theorem part_9 : PartAt P (.ref 222) (partAtoms 9) :=
  ⟨222, 509, 221, [.ref 220], rfl, by kernel_rfl, by kernel_rfl, .cons ⟨220, 510, rfl, .inl (by kernel_rfl)⟩ (.nil)⟩
theorem part_10 : PartAt P (.ref 225) (partAtoms 10) :=
  ⟨225, 511, 224, [.ref 223], rfl, by kernel_rfl, by kernel_rfl, .cons ⟨223, 512, rfl, .inl (by kernel_rfl)⟩ (.nil)⟩
theorem part_11 : PartAt P (.ref 228) (partAtoms 11) :=
  ⟨228, 513, 227, [.ref 226], rfl, by kernel_rfl, by kernel_rfl, .cons ⟨226, 514, rfl, .inl (by kernel_rfl)⟩ (.nil)⟩
theorem part_12 : PartAt P (.ref 231) (partAtoms 12) :=
  ⟨231, 515, 230, [.ref 229], rfl, by kernel_rfl, by kernel_rfl, .cons ⟨229, 516, rfl, .inl (by kernel_rfl)⟩ (.nil)⟩
theorem part_13 : PartAt P (.ref 234) (partAtoms 13) :=
  ⟨234, 517, 233, [.ref 232], rfl, by kernel_rfl, by kernel_rfl, .cons ⟨232, 518, rfl, .inl (by kernel_rfl)⟩ (.nil)⟩
theorem part_14 : PartAt P (.ref 239) (partAtoms 14) :=
  ⟨239, 519, 238, [.ref 235, .ref 236, .ref 237], rfl, by kernel_rfl, by kernel_rfl, .cons ⟨235, 520, rfl, .inl (by kernel_rfl)⟩ (.cons ⟨236, 521, rfl, .inl (by kernel_rfl)⟩ (.cons ⟨237, 522, rfl, .inl (by kernel_rfl)⟩ (.nil)))⟩
theorem part_15 : PartAt P (.ref 244) (partAtoms 15) :=
  ⟨244, 523, 243, [.ref 240, .ref 241, .ref 242], rfl, by kernel_rfl, by kernel_rfl, .cons ⟨240, 524, rfl, .inl (by kernel_rfl)⟩ (.cons ⟨241, 525, rfl, .inl (by kernel_rfl)⟩ (.cons ⟨242, 526, rfl, .inl (by kernel_rfl)⟩ (.nil)))⟩
theorem part_16 : PartAt P (.ref 249) (partAtoms 16) :=
  ⟨249, 527, 248, [.ref 245, .ref 246, .ref 247], rfl, by kernel_rfl, by kernel_rfl, .cons ⟨245, 528, rfl, .inl (by kernel_rfl)⟩ (.cons ⟨246, 529, rfl, .inl (by kernel_rfl)⟩ (.cons ⟨247, 530, rfl, .inl (by kernel_rfl)⟩ (.nil)))⟩
theorem part_17 : PartAt P (.ref 252) (partAtoms 17) :=
  ⟨252, 531, 251, [.ref 250], rfl, by kernel_rfl, by kernel_rfl, .cons ⟨250, 532, rfl, .inl (by kernel_rfl)⟩ (.nil)⟩
theorem part_18 : PartAt P (.ref 254) (partAtoms 18) :=
  ⟨254, 533, 253, [], rfl, by kernel_rfl, by kernel_rfl, .nil⟩
theorem part_19 : PartAt P (.ref 259) (partAtoms 19) :=
  ⟨259, 534, 258, [.ref 255, .ref 256, .ref 257], rfl, by kernel_rfl, by kernel_rfl, .cons ⟨255, 535, rfl, .inl (by kernel_rfl)⟩ (.cons ⟨256, 536, rfl, .inl (by kernel_rfl)⟩ (.cons ⟨257, 537, rfl, .inl (by kernel_rfl)⟩ (.nil)))⟩
noncomputable def partItems : List Value := [.ref 195, .ref 198, .ref 201, .ref 204, .ref 207, .ref 210, .ref 213, .ref 216, .ref 219, .ref 222, .ref 225, .ref 228, .ref 231, .ref 234, .ref 239, .ref 244, .ref 249, .ref 252, .ref 254, .ref 259]
theorem parts_tup : (hd.heap_39 P).lookup 260 = some (tupO partItems) := by kernel_rfl
theorem parts_at (i : Nat) (hi : i < 20) : ∃ v, partItems[i]? = some v ∧ PartAt P v (partAtoms i) := by
  match i, hi with
  | 0, _ => exact ⟨_, rfl, part_0⟩
  | 1, _ => exact ⟨_, rfl, part_1⟩
  | 2, _ => exact ⟨_, rfl, part_2⟩
  | 3, _ => exact ⟨_, rfl, part_3⟩
  | 4, _ => exact ⟨_, rfl, part_4⟩
  | 5, _ => exact ⟨_, rfl, part_5⟩
  | 6, _ => exact ⟨_, rfl, part_6⟩
  | 7, _ => exact ⟨_, rfl, part_7⟩
  | 8, _ => exact ⟨_, rfl, part_8⟩
  | 9, _ => exact ⟨_, rfl, part_9⟩
  | 10, _ => exact ⟨_, rfl, part_10⟩
  | 11, _ => exact ⟨_, rfl, part_11⟩
  | 12, _ => exact ⟨_, rfl, part_12⟩
  | 13, _ => exact ⟨_, rfl, part_13⟩
  | 14, _ => exact ⟨_, rfl, part_14⟩
  | 15, _ => exact ⟨_, rfl, part_15⟩
  | 16, _ => exact ⟨_, rfl, part_16⟩
  | 17, _ => exact ⟨_, rfl, part_17⟩
  | 18, _ => exact ⟨_, rfl, part_18⟩
  | 19, _ => exact ⟨_, rfl, part_19⟩
  | n + 20, h => exact absurd h (by omega)
end
noncomputable def okB : Atom → Bool
  | .plain c => c != 92 && decide (c < 128)
  | .short e o => shorts.contains (e, o)
  | .zero => true
  | .self c => c == 45 || c == 92 || c == 122
theorem ok_of {x : Atom} (h : okB x = true) : x.ok := by
  cases x <;> simp_all [okB, Atom.ok, or_assoc]
theorem parts_ok (i : Nat) (hi : i < 20) : (∀ x ∈ partAtoms i, x.ok) ∧ (cpsOf (partAtoms i)).length ≤ 5 ∧ (partAtoms i).length ≤ 3 := by
  have h : ∀ i < 20, (partAtoms i).all okB = true ∧ (cpsOf (partAtoms i)).length ≤ 5 ∧ (partAtoms i).length ≤ 3 := by decide
  exact ⟨fun x hx => ok_of (List.all_eq_true.mp (h i hi).1 x hx), (h i hi).2⟩
end
-- part F3
section
theorem fresh_F3 : True := by
  w_top off
  trivial
theorem strOf_app (as bs : List Atom) : strOf (as ++ bs) = strOf as ++ strOf bs := by
  simp only [strOf, cpsOf_app]
  apply Str.ext'
  simp [Str.cps_append]
section
variable {prog : Program} {w : World} {A : Around} {E : Value → Shared → Prop} {s : Shared} {h₀ : Heap} {L : Addr} {m : Str → Option Value} {k : Int} {u : Tok} {P : Params} {Q : Value → Shared → Prop}
theorem part_item {value slice : PySem.Expr} (X : (hd.heap_39 P).In h₀) (F : Fr h₀ L s.heap m) (h0 : 0 ≤ k) (h1 : k < 20)
    (h : ∀ q t l vs, (hd.heap_39 P).lookup l = some (listOf vs.toArray 0) → All2 (SgIn P []) vs ((partAtoms k.toNat).map Atom.sgn) → (strOf (partAtoms k.toNat)).length ≤ 5 → vs.length ≤ 3 → IsTup s.heap q [.str (strOf (partAtoms k.toNat)) t, .ref l].toArray → Q (.ref q) s)
    (hs : subscripted slice false (.ref 260) (.int k u) = operate [.ref 260, .int k u] (getItem (.ref 260) (.int k u)) := by with_unfolding_all rfl) :
    wpAny (model prog w) A (subscriptTail value slice (.ref 260) (.int k u)) Q E s := by
  obtain ⟨v, hv, q, t, l, vs, rfl, h2, h3, h4⟩ := parts_at (P := P) k.toNat (by omega)
  have hj : seqIndex? k partItems.length = some k.toNat := by
    unfold seqIndex?
    have e : (if k < 0 then k + ((partItems.length : Nat) : Int) else k) = k := if_neg (by omega)
    simp only [e]
    rw [if_pos (by simp [partItems]; omega)]
  exact item_tupleT (l := partItems) ⟨_, F.keep _ _ (X _ _ parts_tup), rfl, 0, rfl⟩ (by omega) (by omega) hj hv (h q t l vs h3 h4 (by rw [strOf_len]; exact (parts_ok _ (by omega)).2.1) (by have e9 := h4.length; rw [List.length_map] at e9; rw [e9]; exact (parts_ok _ (by omega)).2.2) ⟨_, F.keep _ _ (X _ _ h2), rfl, 0, rfl⟩) hs
theorem add_sg {a b : Addr} {us ws : List Value} {n : Nat} {news : List (Addr × Obj)} (X : (hd.heap_39 P).In h₀) (F : Fr h₀ L s.heap m) (N : News h₀ L s.heap news) (hm : (a, listOf us.toArray n) ∈ news) (hb : (hd.heap_39 P).lookup b = some (listOf ws.toArray 0)) (hz : us.length + ws.length < 2000)
    (h : ∀ l h', (∀ p ∈ news, p.1 < l) → Fr h₀ L h' m → News h₀ L h' ((l, listOf (us ++ ws).toArray 0) :: news) → Q (.ref l) { s with heap := h' }) : wpAny (model prog w) A (binaryOp .Add (.ref a) (.ref b)) Q E s :=
  add_lists (vs := us) (ws := ws) F N ⟨_, N.get hm, rfl, n, rfl⟩ ⟨_, F.keep _ _ (X _ _ hb), rfl, 0, rfl⟩ (fun h' F' N' => h _ h' (fun p hp => Heap.lt_size (N p hp).1) F' N') (by rw [sizeLine_eq]; omega)
end
local macro_rules | `(tactic| walk_at "subscriptTail") => `(tactic| (k_here; k_dflt (walk_at "# part_item kkoo_"; k_whole; intro q9 t9 l9 vs9 k9 a9 z9 y9 i9)))
local macro_rules | `(tactic| walk_at "binaryOp Add ref ref") => `(tactic| (k_here; k_dflt (walk_at "# add_sg kkkmao_"; k_whole; intro l9 h9 lt9 F9 N9; (try k_lt lt9))))
local macro_rules | `(tactic| walk_at "call ref") => `(tactic| (k_here; k_dflt (refine' feed_call (by k_asm) (by k_asm) (by k_asm) (by k_asm) (by k_asm) (by walk_at "zk") ?U ?c ?i ?v ?n ?s0 ?s1 ?m0 ?m1 (by walk_at "zd") (by walk_at "zu") ?_; (case U => first | exact UpdF.tail (by with_reducible assumption) (UpdF.head (by with_reducible assumption)) | k_updF); (case c => first | k_mem | kst_mem); (case i => assumption); (case v => assumption); (case n => assumption); (case s0 => omega); (case s1 => omega); (case m0 => omega); (case m1 => omega); k_whole; intro r9 t8 t9 n9 h9 tk9 r0 r1 F9 N9; (try dsimp only at N9); walk_at "#f")))
local macro_rules | `(tactic| walk_at "pyIter ref") => `(tactic| refine Stop.out ?_)
theorem list_call {w : World} {mean : ExcName → Option Value} {mg mb : Str → Option Value}
    {dp un : Nat} {gd : Option (List Code)} {cn : Str} {cs : Scope} {a : Addr} {ccd : Value} {cl : List (Str × Addr)} {outer : List Env} {A₀ : Around} {base h₀ : Heap} {L : Addr} {m : Str → Option Value} {s : Shared} {Q E : Value → Shared → Prop} {news : List (Addr × Obj)}
    (B : Below A₀ base outer h₀) (F : Fr h₀ L s.heap m) (X : (hd.heap_39 w.params).In h₀) (N : News h₀ L s.heap news)
    (T : Top hd.view_39 (looseW hd.view_39 [Str.ofString "SHORT_ESCAPES", Str.ofString "_law_parts"]) mean mg mb h₀) (hkf : cs.kind = .function)
    {tr c : Addr} {vs : List Value} {cells : List Int} {nc n : Nat} {spot : Int} {t0 : Tok} {g : Obj → List (Addr × Obj)} (U : UpdF tr (listOf [.ref c, .int spot t0].toArray n) news g) (hc : (c, listOf vs.toArray nc) ∈ news) (Ic : IntsAre vs cells) (hvs : vs.length < 1000) (hct : c ≠ tr)
    (hs0 : 0 ≤ spot) (hs1 : spot < 100)
    (hdp : dp + 6 < recursionLimit) (hun : un + 150 < cLine)
    (hret : ∀ atoms ls us nl q t1 spot' t'' n' h' tk', (∀ x ∈ atoms, Atom.ok x) → atoms.length ≤ 18 → (strOf atoms).length < 100 → All2 (SgIn w.params []) us (atoms.map Atom.sgn) → spot ≤ spot' → spot' ≤ spot + 7 → (∀ p ∈ news, p.1 < ls ∧ p.1 < q) →
      Fr h₀ L h' m → News h₀ L h' ((q, tupO [.str (strOf atoms) t1, .ref ls]) :: (ls, listOf us.toArray nl) :: g (listOf [.ref c, .int spot' t''].toArray n')) → Q (.ref q) { s with heap := h', toks := tk' }) :
    wpAny (model Challenge.rw_qd0140_01.row.prog w) (ktrTop dp un gd cn cs L a ccd cl outer) (call (.ref 274) [.ref tr]) Q E s := by
  revert X; k_fill; intro X
  obtain ⟨pre, post, rfl, hg, hp1, hp2⟩ := U.split
  have hne : ∀ p ∈ pre ++ post, p.1 ≠ tr := fun p hp => (List.mem_append.mp hp).elim (hp1 p) (hp2 p)
  have hc2 : (c, listOf vs.toArray nc) ∈ pre ++ post := by
    rcases List.mem_append.mp hc with h | h
    · exact List.mem_append_left _ h
    · rcases List.mem_cons.mp h with h | h
      · exact absurd (congrArg Prod.fst h) hct
      · exact List.mem_append_right _ h
  replace N : News h₀ L s.heap ((tr, listOf [.ref c, .int spot t0].toArray n) :: (pre ++ post)) := kst_newsOf N (by intro p hp; simp only [List.mem_cons, List.mem_append] at hp ⊢; rcases hp with h | h | h <;> simp [h])
  clear U hc
  refine wpAny_call ?_
  k_dflt (refine' code_def ?k1 ?k2 ?k3 ?k4 ?k5 ?kA ?kF ?kK ?k6 ?k7 ?k8 ?k9 ?kB ?_ ?c2 ?c3 ?c4 ?c5; (case kA => exact rfl); (case kF => exact rfl); (case kK => first | exact rfl | assumption); (case k1 => k_asm); (case k2 => k_asm); (case k3 => k_asm); (case k4 => k_asm); (case k5 => k_asm); (case k6 => k_is); (case k7 => k_is); (case k8 => first | ((try simp only [depth_under_make, depth_under_kw, depth_in1, depth_deeper, depth_caller]); (try dsimp only [ktrTop]); omega) | ktr_room); (case k9 => exact BindsTo.of_eq rfl); (case c5 => decide); (case kB => exact locs rfl); (case c2 => exact rfl); (case c3 => exact rfl); (case c4 => exact rfl); k_whole; intro g' L' h' FG' F' N' B' X' T'; (try dsimp only); (try k_fold))
  k_steps
  refine Stop.in ?_
  rename_i ls0 _ ll _ _ _ r9 _ tt nn _ _ r0 r1 _ _ _ _ _ _ _ hr _ _ _
  rename Fr _ _ _ _ => lF'
  rename News _ _ _ _ => lN'
  generalize hnw : pre ++ post = nw at *
  have hs9 := range_small (a := 0) (b := 1 + r9) (by omega) (by omega) (by omega) (by omega)
  with_unfolding_all refine fr_range (σ := List Atom × Addr × List Value × Nat × Int × Tok × Nat × Tok) (fun k e => (e.2.1, listOf e.2.2.1.toArray e.2.2.2.1) :: (tr, listOf [.ref c, .int e.2.2.2.2.1 e.2.2.2.2.2.1].toArray e.2.2.2.2.2.2.1) :: nw) (fun k e => [(Str.ofString "text", .str (strOf e.1) e.2.2.2.2.2.2.2), (Str.ofString "signs", .ref e.2.1)]) [Str.ofString "part", Str.ofString "pairs"] (fun k e => (∀ x ∈ e.1, x.ok) ∧ e.1.length ≤ 3 * k ∧ (strOf e.1).length ≤ 5 * k ∧ All2 (SgIn w.params []) e.2.2.1 (e.1.map Atom.sgn) ∧ e.2.2.2.2.1 = spot + 1 + k ∧ (tr < e.2.1 ∧ ∀ p ∈ nw, p.1 < e.2.1)) ([], ls0, [], 0, spot + 1, tt, nn, _) rfl hr hs9 (range_size _ _) lF' lN' (by kst_all) ⟨by simp, by simp, Nat.zero_le _, .nil, by simp, ll.1, allLt_all ll.2⟩ ?_ ?_
  · clear lF' lN'
    rintro k ⟨as, ls, us, nl, sp, t2, n2, tt2⟩ u2 t3 h2 tk2 own hk hoff ⟨hq1, hq2, hq3, hq4, hq5, hq6⟩ F2 N2
    (try dsimp only [kstB] at *)
    simp only [List.cons_append] at N2
    have hne2 : ∀ p ∈ nw ++ own, p.1 ≠ tr := by
      intro p hp
      rcases List.mem_append.mp hp with hp | hp
      · exact hne p hp
      · exact hoff p hp tr (.tail _ (.head _))
    have hlt : ls ≠ tr := Nat.ne_of_gt hq6.1
    have hul := hq4.length
    rw [List.length_map] at hul
    try k_unmd
    try k_fold
    k_steps
    refine Stop.in ?_
    dsimp only [InvPostG]
    rename_i rr _ tn nn2 _ _ rr0 rr1 _ _ _ ws _ wa wz wy _ _ _ _ tnew _ _ _ lw _ lw2 _ _ N9
    obtain ⟨o1, o2, o3⟩ := parts_ok rr.toNat (by omega)
    refine fr_end (as ++ partAtoms rr.toNat, lw, us ++ ws, 0, sp + 1, tn, nn2, tnew) (by assumption) N9 ?_ ?_ ?_ ?_ (by kst_same) ⟨?_, ?_, ?_, by rw [List.map_append]; exact hq4.app wa, ?_, ?_⟩
    · intro p hp; simp only [List.mem_cons, List.mem_append] at hp ⊢; rcases hp with h | h | h <;> simp [h]
    · intro p hp; simp [hp]
    · intro p hp b hb
      rcases List.mem_cons.mp hb with rfl | hb
      · exact Nat.ne_of_lt (allLt_all lw2.2.2 p (List.mem_append_right _ hp))
      · rcases List.mem_cons.mp hb with rfl | hb
        · exact hne2 p (List.mem_append_right _ hp)
        · exact hoff p hp b (.tail _ (.tail _ hb))
    · refine List.forall_mem_cons.mpr ⟨by rw [strOf_app]; with_unfolding_all rfl, List.forall_mem_cons.mpr ⟨by with_unfolding_all rfl, List.forall_mem_nil _⟩⟩
    · intro x hx
      rcases List.mem_append.mp hx with h | h
      · exact hq1 x h
      · exact o1 x h
    · dsimp only; rw [List.length_append]; omega
    · dsimp only; rw [strOf_app, Str.length_append]; omega
    · dsimp only; omega
    · exact ⟨lw2.2.1, fun p hp => allLt_all lw2.2.2 p (List.mem_append_left _ hp)⟩
  · clear lF' lN'
    rintro ⟨as, ls, us, nl, sp, t2, n2, tt2⟩ u2 h2 tk2 ⟨hq1, hq2, hq3, hq4, hq5, hq6⟩ F2 N2
    (try dsimp only [kstB] at *)
    try k_unmd
    try k_fold
    k_steps
    rename_i D _ _ _ lD _ kN _ _
    subst hnw
    refine hret as ls us nl D tt2 sp t2 n2 _ _ hq1 (by omega) (by omega) hq4 (by omega) (by omega) (fun p hp => ?_) (by assumption) ?_
    · rcases List.mem_append.mp hp with h | h
      · exact ⟨hq6.2 p (List.mem_append_left _ h), allLt_all lD.2.2 p (List.mem_append_left _ h)⟩
      · rcases List.mem_cons.mp h with rfl | h
        · exact ⟨hq6.1, lD.2.1⟩
        · exact ⟨hq6.2 p (List.mem_append_right _ h), allLt_all lD.2.2 p (List.mem_append_right _ h)⟩
    · rw [hg]
      exact kst_newsOf kN (by intro p hp; simp only [List.mem_cons, List.mem_append] at hp ⊢; rcases hp with h | h | h | h | h <;> simp [h])
end
-- part Ph
section
noncomputable def bodyLaw : List Stmt := by
  refine (?f : (PySem.Challenge.pw_qd0140_01.main.body = (_ ::
 _ ::
 _ ::
 _ ::
 _ ::
 _ ::
 _ ::
 _ ::
 _ ::
 _ ::
 _ ::
 _ ::
 _ ::
 _ ::
 _ ::
 _ ::
 _ ::
 _ ::
 _ ::
 _ ::
 _ ::
 _ ::
 _ ::
 _ ::
 _ ::
 _ ::
 _ ::
 _ ::
 _ ::
 _ ::
 _ ::
 _ ::
 _ ::
 _ ::
 _ ::
 .FunctionDef _ _ ?b _ _ _ ?s _ _ _ :: [])) → List Stmt) ?h
  case h => exact rfl
  case f => exact fun _ => ?b
noncomputable def scopeLaw : Scope := by
  refine (?f : (PySem.Challenge.pw_qd0140_01.main.body = (_ ::
 _ ::
 _ ::
 _ ::
 _ ::
 _ ::
 _ ::
 _ ::
 _ ::
 _ ::
 _ ::
 _ ::
 _ ::
 _ ::
 _ ::
 _ ::
 _ ::
 _ ::
 _ ::
 _ ::
 _ ::
 _ ::
 _ ::
 _ ::
 _ ::
 _ ::
 _ ::
 _ ::
 _ ::
 _ ::
 _ ::
 _ ::
 _ ::
 _ ::
 _ ::
 .FunctionDef _ _ ?b _ _ _ ?s _ _ _ :: [])) → Scope) ?h
  case h => exact rfl
  case f => exact fun _ => ?s
noncomputable def lawS : Scope := scopeLaw
noncomputable def lawB (k : Nat) : List Stmt := bodyLaw.drop k
noncomputable def lawD : List Stmt := match lawB 12 with
  | .If _ b _ _ :: _ => b
  | _ => []
structure LaidV (news : List (Addr × Obj)) (v : Value) (r : Option (List Int)) : Prop where
  out : (v = .none ∧ r = none) ∨ ∃ l vs n codes, v = .ref l ∧ (l, listOf vs.toArray n) ∈ news ∧ IntsAre vs codes ∧ vs.length < 2000 ∧ r = some codes
end
-- part K0
section
open PyProof.Rows.LCg PyProof.Rows.LCt
section
variable {prog : Program} {w : World} {A : Around} {E : Value → Shared → Prop} {s : Shared} {h₀ : Heap} {L : Addr} {m : Str → Option Value} {env : Env}
theorem compEnd_mono {s₁ : Shared} {I C D : Addr} {oI oC oD : Obj} {S : List (Addr × Obj) → Prop} {rest rest' : Value → List (Addr × Obj) → Prop} {y : Value} {s₂ : Shared}
    (h : CompEnd h₀ L m s₁ I oI C oC D oD S rest y s₂) (k : ∀ nw, rest y nw → rest' y nw) : CompEnd h₀ L m s₁ I oI C oC D oD S rest' y s₂ := by
  obtain ⟨h', tk, nw, a, b, c, d, e, f⟩ := h
  exact ⟨h', tk, nw, a, b, c, d, e, k _ f⟩
/-- turns of a comprehension with a test, by an invariant -/
theorem restT_inv {ct elt : PySem.Expr} {x : Str} {scope : Scope} {cl : List (Str × Addr)} {S : List (Addr × Obj) → Prop} {P : Nat → Value → Prop} {Fin : List Value → List (Addr × Obj) → Prop} (J : Nat → List Value → List (Addr × Obj) → Prop) (n : Nat)
    (step : ∀ i ys news, i < n → J i ys news → ∀ v I oI C oC D m₂ h tk (E' : Value → Shared → Prop), P i v → NsObj oC m₂ → m₂ x = some v → Fr h₀ L h m → News h₀ L h ((I, oI) :: (C, oC) :: (D, lst ys) :: news) → Off3 I C D news → ((@Ne Nat I C) ∧ (@Ne Nat I D) ∧ (@Ne Nat C D)) →
      wpAny (model prog w) A (isTrue ct (compEnvC scope cl C env) (eval ct (compEnvC scope cl C env))) (fun ok s' => if ok = true then
        wpAny (model prog w) A (eval elt (compEnvC scope cl C env)) (CompEnd h₀ L m { s with heap := h, toks := tk } I oI C oC D (lst ys) S (fun y news' => J (i + 1) (ys ++ [y]) news')) E' s'
        else CompEnd h₀ L m { s with heap := h, toks := tk } I oI C oC D (lst ys) S (fun _ news' => J (i + 1) ys news') Value.none s') E' { s with heap := h, toks := tk })
    (fin : ∀ ys news, J n ys news → Fin ys news) : ∀ k i ys news, i + k = n → J i ys news → CompRestT prog w A h₀ L m env ct elt x scope cl s S P Fin k i ys news
  | 0, i, ys, news, e, j => CompRestT.zero (fin ys news (by rw [← e]; exact j))
  | k + 1, i, ys, news, e, j => CompRestT.succ fun v I oI C oC D m₂ h tk E' a b c d f g o =>
    wpAny_mono (step i ys news (by omega) j v I oI C oC D m₂ h tk E' a b c d f g o) (fun ok s' q => by
      cases ok with
      | true =>
        rw [if_pos rfl] at q ⊢
        exact wpAny_mono q (fun y s₂ r => compEnd_mono r fun nw z => restT_inv J n step fin k (i + 1) _ _ (by omega) z) fun _ _ z => z
      | false =>
        rw [if_neg Bool.false_ne_true] at q ⊢
        exact compEnd_mono q fun nw z => restT_inv J n step fin k (i + 1) _ _ (by omega) z) fun _ _ z => z
/-- turns of a comprehension without a test, by an invariant -/
theorem restU_inv {elt : PySem.Expr} {x : Str} {scope : Scope} {cl : List (Str × Addr)} {S : List (Addr × Obj) → Prop} {P : Nat → Value → Prop} {Fin : List Value → List (Addr × Obj) → Prop} (J : Nat → List Value → List (Addr × Obj) → Prop) (n : Nat)
    (step : ∀ i ys news, i < n → J i ys news → ∀ v I oI C oC D m₂ h tk (E' : Value → Shared → Prop), P i v → NsObj oC m₂ → m₂ x = some v → Fr h₀ L h m → News h₀ L h ((I, oI) :: (C, oC) :: (D, lst ys) :: news) → Off3 I C D news → ((@Ne Nat I C) ∧ (@Ne Nat I D) ∧ (@Ne Nat C D)) →
      wpAny (model prog w) A (eval elt (compEnvC scope cl C env)) (CompEnd h₀ L m { s with heap := h, toks := tk } I oI C oC D (lst ys) S (fun y news' => J (i + 1) (ys ++ [y]) news')) E' { s with heap := h, toks := tk })
    (fin : ∀ ys news, J n ys news → Fin ys news) : ∀ k i ys news, i + k = n → J i ys news → CompRest prog w A h₀ L m env elt x scope cl s S P Fin k i ys news
  | 0, i, ys, news, e, j => CompRest.zero (fin ys news (by rw [← e]; exact j))
  | k + 1, i, ys, news, e, j => CompRest.succ fun v I oI C oC D m₂ h tk E' a b c d f g o =>
    wpAny_mono (step i ys news (by omega) j v I oI C oC D m₂ h tk E' a b c d f g o) (fun y s₂ r => compEnd_mono r fun nw z => restU_inv J n step fin k (i + 1) _ _ (by omega) z) fun _ _ z => z
noncomputable def TupSrcT (prog : Program) (w : World) (A : Around) (h₀ : Heap) (L : Addr) (m : Str → Option Value) (env : Env) (ct elt : PySem.Expr) (x : Str) (scope : Scope) (cl : List (Str × Addr)) (Fin : Shared → List Value → List (Addr × Obj) → Prop) (xv : Value) (s₁ : Shared) : Prop :=
  ∃ ax its k news, xv = .ref ax ∧ A.handled = none ∧ Fr h₀ L s₁.heap m ∧ News h₀ L s₁.heap news ∧ (ax, ({ cls := .type "tuple", data := .seq its k } : Obj)) ∈ news ∧ its.size ≤ sizeLine ∧
      ∀ g, CompRestT prog w A h₀ L m env ct elt x scope cl { s₁ with heap := g } (fun nw => (ax, ({ cls := .type "tuple", data := .seq its k } : Obj)) ∈ nw) (fun i v => its[i]? = some v) (Fin { s₁ with heap := g }) its.size 0 [] news
/-- a comprehension with a test over a tuple of the ledger -/
theorem comp_tupT {ct elt iter : PySem.Expr} {x : Str} {px : Pos} {scope : Scope} {cl : List (Str × Addr)} {pos : Pos} {Q : Value → Shared → Prop} (F₀ : Fr h₀ L s.heap m)
    (hclos : closureFor scope env = pure cl) (hcell : ∀ y ∈ scope.names, y.2 ≠ .cell) (hkind : scope.kind = .function)
    (hnames : ∀ y ∈ scope.names, y.2 = .local → scope.names.lookup y.1 = some .local) (hx : scope.names.lookup x = some .local)
    (h : wpAny (model prog w) A (eval iter env) (TupSrcT prog w A h₀ L m env ct elt x scope cl (fun s₂ => FinE h₀ L m s₂ Q)) E s)
    (hs : ∀ x, foldedSetIterable iter env x = pure x := by intro _; rfl) :
    wpAny (model prog w) A (eval (.ListComp elt [⟨.Name x px, iter, [ct], 0⟩] scope pos) env) Q E s := by
  rw [eval_ListComp]
  refine wpAny_comprehension_free (use := none) rfl hs hclos hkind hnames (wpAny_mono h (fun xv s₁ h₁ => ?_) fun _ _ e => e)
  obtain ⟨ax, its, k, news, rfl, hh, F, N, hm, hsz, R⟩ := h₁
  have hl : s₁.heap.IsTuple ax its := ⟨_, (N _ hm).1, rfl, k, rfl⟩
  have hlt : ax < s₁.heap.objs.size := Heap.lt_size (N _ hm).1
  refine wpAny_pyIter_tuple hl ?_
  have up : ∀ b o, s₁.heap.get? b = some o → (s₁.heap.push { cls := .type "tuple_iterator", data := .fields #[.ref ax, .int 0 0] }).get? b = some o := fun b o e => Heap.get?_push_of_some _ e
  refine block_T (Walks.tuple hh s₁.heap.objs.size ax (Nat.ne_of_lt hlt) its) hsz (fun i h st => by obtain ⟨o, e, _⟩ := st.1; exact ⟨o, e⟩)
    (fun i h h' o nw st e e' kk N' S => ⟨by obtain ⟨o', q, r⟩ := st.1; rw [e] at q; cases q; exact ⟨o, e', r⟩, ⟨_, (N' _ S).1, rfl, k, rfl⟩⟩) hcell hkind hx ⟨⟨_, Heap.get?_push_size _ rfl, rfl, rfl⟩, hl.push _⟩ (fun b hb => ?_)
    (F.keeps up) (N.grown up) (Nat.ne_of_lt F.ns.lt) (next_is_new F) (fun p hp => Nat.ne_of_lt (Heap.lt_size (N p hp).1)) hm (R _) ?_
  · show b < (s₁.heap.push _).objs.size
    rw [Heap.size_push]
    rcases List.mem_cons.mp hb with rfl | hb
    · exact Nat.lt_succ_self _
    · rw [List.mem_singleton.mp hb]; exact Nat.lt_succ_of_lt hlt
  · intro D C h tk m' ys news' F' N' o1 hn hC₀ hD₀ hCL hDL hCD offC fin
    refine ⟨m', hn, fun h'' hs'' => fin D h'' tk (F'.change hs'' hCL hC₀) (fun p hp => ?_) o1⟩
    refine ⟨hs''.extBut _ _ ?_ (N' p hp).1, (N' p hp).2⟩
    rcases List.mem_cons.mp hp with rfl | hp
    · exact Ne.symm hCD
    · exact offC p hp
end
end
-- part T1
section
section
variable {prog : Program} {w : World} {A₀ A : Around} {s : Shared} {base h₀ : Heap} {L : Addr} {m : Str → Option Value} {env : Env} {news : List (Addr × Obj)} {K : Frag} {p : Program} {loose : List Str} {mean : ExcName → Option Value} {mg mb : Str → Option Value}
    {R : Result → Shared → Prop} {name qual : Str} {params : Arguments} {body : List Stmt} {scope : Scope} {dV kV doc pm cdv ct oc : Value} {an od : Option Addr} {osl : Array (Option Value)} {f : Addr} {args : Args} {binds : List (Str × Value)}
/-- a call out of a frame with cells of its own into a frame with a try -/
theorem defS0X (B : Below A₀ base [] h₀) (F : Fr h₀ L s.heap m) (X₀ : K.In h₀) (N : News h₀ L s.heap news) (T : Top p loose mean mg mb h₀) (hA : A.frames = some [env]) (hf : env.frame = some L) (hke : env.scope.kind = .function)
    (ho : K.lookup f = some ⟨oc, od, .func (fnOf name qual params body scope dV kV doc pm an cdv ct), osl⟩) (hcd : codeIn K cdv qual = true) (hroom : A.depth < recursionLimit)
    (hbind : BindsTo s (fnOf name qual params body scope dV kV doc pm an cdv ct) args binds) (hloc : ∀ y ∈ binds, scope.names.lookup y.1 = some .local)
    (h : ∀ g L' h₁, Fr h₀ L g m → Fr g L' h₁ (fun y => binds.reverse.lookup y) → News g L' h₁ news → Below A base [env] g → K.In g → Top p loose mean mg mb g → KtsDicts ([env].filterMap (·.frame)) g →
      wpAny (model prog w) (A.deeper (envOf qual scope L' f cdv)) (execs body (envOf qual scope L' f cdv))
        (fun fl s' => LeaveS0 ([env].filterMap (·.frame)) h₀ L m g R (match fl with | .ret v => v | _ => .none) s')
        (fun e s' => wpAny (model prog w) (A.deeper (envOf qual scope L' f cdv)) (leaving (envOf qual scope L' f cdv) e) (fun _ s'' => R (.error e) s'') (fun e' s'' => R (.error e') s'') s')
        { s with heap := h₁, toks := s.toks + binds.length })
    (hco : scope.isCoroutine = false) (hgen : scope.isGenerator = false) (hk : scope.kind = .function)
    (hcell : ∀ x ∈ scope.names, x.2 ≠ .cell) : codeAny (model prog w) A (.call (.ref f) args) R s := by
  have X := X₀.keeps F.keep
  have hfs : ∀ b, b ∈ [env].filterMap (·.frame) ↔ b = L := by
    intro b
    simp only [List.filterMap_cons, hf, List.filterMap_nil, List.mem_singleton]
  obtain ⟨FG, BG, st, -⟩ := groundX (R := R) B F N hA hf hke
  refine codeAny_call_def (fd := fnOf name qual params body scope dV kV doc pm an cdv ct) (body := body) (binds := binds) hroom (X _ _ ho) rfl (T.nolimit.keeps F.keep) (codeRec_of X hcd) rfl hbind hcell hloc (fun h₁ hns hk₁ => ?_) hco hgen hk
  obtain ⟨oL, es, ep, hLg, hLd, hLk, hLf⟩ := id FG.ns
  refine wpAny_mono (h _ s.heap.objs.size h₁ FG ⟨hns, fun b o e => hk₁ b o (of_hideAll _ e), Nat.le_of_eq (hideAll_size _ _)⟩
    (fun p hp => ⟨hk₁ _ _ (N p hp).1, Nat.ne_of_lt (Heap.lt_size (N p hp).1), hideAll_none _ (List.mem_map_of_mem hp)⟩) BG (X₀.keeps st) (T.keeps st) (fun b hb => by
      have hb' := (hfs b).mp hb
      subst hb'
      exact ⟨oL, es, ep, hLg, hLd⟩)) (fun fl s' hl => ?_) fun _ _ y => y
  obtain ⟨g', L', m', news', T', F', N', k⟩ := hl
  have nL₀ : h₀.get? L = none := kts_self F
  obtain ⟨sl, hs⟩ := T'.up hLg
  refine k ⟨⟨_, es, ep, F'.keep _ _ hs, hLd, hLk, hLf⟩, fun b o e => F'.keep b o (T'.other b o (st b o e) (fun q => ?_)), F.above⟩ fun p hp => ⟨(N' p hp).1, fun q => ?_, ?_⟩
  · have := (hfs b).mp q
    rw [this, nL₀] at e; cases e
  · have := (N' p hp).2.2; rw [q, hs] at this; cases this
  · cases q : h₀.get? p.1 with
    | none => rfl
    | some o =>
      obtain ⟨sl', hs'⟩ := T'.up (st _ _ q)
      have := (N' p hp).2.2
      rw [hs'] at this; cases this
end
end
-- part X4
section
section
variable {M : Model} {A : Around} {E : Value → Shared → Prop} {s' : Shared} {base g g₂ h : Heap} {outer : List Env} {L a e t dx : Addr} {m : Str → Option Value} {name : Str} {scope : Scope} {cd : Value} {Q : Unit → Shared → Prop} {news : List (Addr × Obj)}
structure DieUp (base G : Heap) (l : List Env) (e : Addr) (news : List (Addr × Obj)) (h : Heap) : Prop where
  up : RaisedSN base G l e (.ref 51) news h
  slots : G.UpToSlots h
theorem DieUp.sub {base G : Heap} {l : List Env} {e : Addr} {n n' : List (Addr × Obj)} {h : Heap} (R : DieUp base G l e n h) (hs : ∀ p ∈ n', p ∈ n) : DieUp base G l e n' h := by
  obtain ⟨⟨B, a0, h1, h2, h3, h4⟩, h5⟩ := R
  exact ⟨⟨B, a0, h1, h2, fun q hq => h3 q (hs q hq), h4⟩, h5⟩
theorem leave_die (K : Below A base outer g) (F : Fr g L s'.heap m) (N : News g L s'.heap ((e, excD t dx) :: news)) (hne : ∀ p ∈ news, p.1 ≠ e)
    (hQ : ∀ h', DieUp base g outer e news h' → Q () { s' with heap := h' }) (hk : scope.kind = .function := by rfl) :
    wpAny M (A.deeper (envOf name scope L a cd)) (leaving (envOf name scope L a cd) (.ref e)) Q E s' := by
  have K' := K.push (name := name) (a := a) (cd := cd) F hk
  have he := N.get List.mem_cons_self
  have heL : e ≠ L := (N _ List.mem_cons_self).2.1
  have heg : g.get? e = none := (N _ List.mem_cons_self).2.2
  have N2 : News g L s'.heap news := fun p hp => N p (.tail _ hp)
  generalize hB : e :: (envOf name scope L a cd :: outer).filterMap (·.frame) = hid
  have hin : ∀ env ∈ (envOf name scope L a cd :: outer), ∀ b, env.frame = some b → b ∈ hid := fun env he b hb => hB ▸ .tail _ (List.mem_filterMap.mpr ⟨env, he, hb⟩)
  have st : base.StaysIn (hideAll s'.heap hid) := fun b o q => hideAll_get _ (K'.stays b o q) fun hm => by
    rw [← hB] at hm
    rcases List.mem_cons.mp hm with rfl | hm
    · have := K.stays b o q; rw [heg] at this; cases this
    · rw [(K'.frames.mem hm).1] at q; cases q
  have sg : ∀ b o, g.get? b = some o → b ∉ outer.filterMap (·.frame) → (hideAll s'.heap hid).get? b = some o := fun b o q nm => hideAll_get _ (F.keep b o q) fun hm => by
    rw [← hB] at hm
    rcases List.mem_cons.mp hm with rfl | hm
    · rw [heg] at q; cases q
    · rcases kts_mem hm with z | z
      · rw [z, kts_self F] at q
        cases q
      · exact nm z
  have hl : ∀ q ∈ news, (hideAll s'.heap hid).get? q.1 = some q.2 ∧ g.get? q.1 = none ∧ base.get? q.1 = none := fun q hq => by
    refine ⟨hideAll_get _ (N2 q hq).1 fun hm => ?_, (N2 q hq).2.2, fresh_of_stays K.stays (N2 q hq).2.2⟩
    rw [← hB] at hm
    rcases List.mem_cons.mp hm with z | hm
    · exact hne q hq z
    · obtain ⟨env, he, hf⟩ := List.mem_filterMap.mp hm
      rcases List.mem_cons.mp he with rfl | he
      · exact (N2 q hq).2.1 (Option.some.inj hf).symm
      · obtain ⟨o, ho, _⟩ := (K.frames.mem (List.mem_filterMap.mpr ⟨env, he, hf⟩)).2
        rw [(N2 q hq).2.2] at ho; cases ho
  have hen : (hideAll s'.heap hid).get? e = none := hideAll_none _ (by rw [← hB]; exact .head _)
  refine wpAny_leaving_firstW (a0 := .ref t) (base := hideAll s'.heap hid) K'.stack ((funFrames_hide K'.frames hin)) rfl he (fun b o hb => (of_hideAll _ hb)) hen rfl rfl rfl fun h' hL => ?_
  obtain ⟨k1, ⟨_, _, k2⟩, k3, k4⟩ := hL
  exact hQ h' ⟨⟨_, _, st, sg, hl, k1, hen, k2, k3⟩, (Heap.UpToSlots.of_keeps F.keep).trans k4⟩
theorem leave_dieOn (K : Below A base outer g) (F : Fr g L g₂ m) (R : DieUp base g₂ (envOf name scope L a cd :: outer) e news s'.heap)
    (hQ : ∀ h', DieUp base g outer e news h' → Q () { s' with heap := h' }) :
    wpAny M (A.deeper (envOf name scope L a cd)) (leaving (envOf name scope L a cd) (.ref e)) Q E s' :=
  leave_onSN K F R.up R.slots fun h' R' _ U => hQ h' ⟨R', U⟩
end
section
variable {nm q : Str} {C N : Addr} {bs bm : List Value} {hdct : Bool} {sn : List Str} {sub : List Value} {ab : Bool} {col : Option Bool} {dd : Option Addr} {k0 k1 k2 k3 k5 : Option Value} {newId : String}
noncomputable def DieQ (K : Frag) (E : Value → Shared → Prop) (v : Value) (s : Shared) : Prop := ∃ e t dx, v = .ref e ∧ s.heap.get? e = some (excD t dx) ∧ K.In s.heap ∧ E v s
theorem dieQ_intro {K : Frag} {E : Value → Shared → Prop} {e t dx : Addr} {h₀ : Heap} {L : Addr} {m : Str → Option Value} {news : List (Addr × Obj)} {s : Shared} (X : K.In h₀) (F : Fr h₀ L s.heap m) (N : News h₀ L s.heap ((e, excD t dx) :: news)) (h : E (.ref e) s) : DieQ K E (.ref e) s :=
  ⟨e, t, dx, rfl, N.get List.mem_cons_self, X.keeps F.keep, h⟩
theorem raise_die {A : Around} {E : Value → Shared → Prop} {s : Shared} {env : Env} {w : World} {x : Expr} {pos : Pos} {Q : Flow → Shared → Prop} (hh : A.handled = none)
    (h : wpAny (model Challenge.rw_qd0140_01.row.prog w) A (eval x env) (DieQ (hd.heap_39 w.params) E) E s) :
    wpAny (model Challenge.rw_qd0140_01.row.prog w) A (exec (.Raise (some x) none pos) env) Q E s := by
  revert h; k_fill; intro h
  rw [arm_exec_Raise]
  refine wpAny_bind (wpAny_standAt ?_)
  simp only [evalOpt, Option.map]
  unfold raiseStmt
  refine wpAny_bind (wpAny_bind (wpAny_mono h (fun v s₁ h₁ => wpAny_bind (wpAny_standAt (wpAny_pure ?_))) fun _ _ x => x))
  obtain ⟨e, t, dx, rfl, he, X, hE⟩ := h₁
  have hC := X 51 _ (by k_is)
  have hcB : (Value.ref 51 :: [Value.ref 31, .type "Exception", .type "BaseException", .type "object"]).contains (.type "BaseException") = true := by decide +kernel
  obtain ⟨hp, g, d, tk, os⟩ := s₁
  repeat (first | with_reducible refine wpAny_loadPart_at he ?_ | with_reducible refine wpAny_loadPart_at hC ?_ | (with_reducible refine wpAny_isSubtype_exc hC ?_; rw [hcB]) | wp_step)
  exact wpAny_raiseNew_none hh hE
end
end
-- part C1
section
theorem fresh_C1 : True := by
  w_top off
  trivial
local macro_rules | `(tactic| walk_at "no such key") => `(tactic| skip)
local macro_rules | `(tactic| walk_at "call builtin:list.append") => `(tactic| (k_here; (with_reducible show wpAny _ _ (call (Value.builtin _) [Value.ref _, _]) _ _ _); k_dflt (walk_at "# append_K kkh_s"; k_whole); intro h' F' N'))

local macro_rules | `(tactic| walk_at "call ref") => `(tactic| (k_here; k_dflt (walk_at "# signs_call kkkkkzaadu_"; k_whole; intro r9 v9 n9 t9 h9 tk9 l1 l2 l3 F9 N9 A9; walk_at "#f")))
local macro_rules | `(tactic| walk_at "call ref") => `(tactic| (k_here; k_dflt (walk_at "# die_call kkkkkzdu_"; k_whole; intro r9 v9 n9 h9 tk9 l9 F9 N9; (try k_lt l9); walk_at "#f")))
local macro_rules | `(tactic| walk_at "subscriptTail") => `(tactic| (k_here; first
  | (walk_at "# sgp_first akkkp_"; k_whole)
  | (k_dflt (walk_at "# sg_item kkkMapooo_"; k_whole; intro a9 t9 i9))))
local macro_rules | `(tactic| walk_at "compareOp Eq ref ref") => `(tactic| (k_here; k_dflt (walk_at "# sgp_eq akkkpMt_"; k_whole)))
local macro_rules | `(tactic| walk_at "exec Raise some none") => `(tactic| (k_here; k_dflt (walk_at "# raise_die r_"; k_whole)))
local macro_rules | `(tactic| walk_at "DieQ") => `(tactic| (walk_at "# dieQ_intro kkk_"; k_whole))
local macro_rules | `(tactic| walk_at "leaving ref") => `(tactic| (k_here; walk_at "# leave_die akkP_"; k_whole; intro h9 R9))
local macro_rules | `(tactic| walk_at "pyIter ref") => `(tactic| refine Stop.out ?_)
local macro_rules | `(tactic| walk_at "execs cons If cons") => `(tactic| refine Stop.out ?_)
theorem codes_call {w : World} {mean : ExcName → Option Value} {mg mb : Str → Option Value}
    {dp un : Nat} {gd : Option (List Code)} {cn : Str} {cs : Scope} {a : Addr} {ccd : Value} {cl : List (Str × Addr)} {outer : List Env} {A₀ : Around} {base h₀ : Heap} {L : Addr} {m : Str → Option Value} {s : Shared} {Q E : Value → Shared → Prop} {news : List (Addr × Obj)}
    (B : Below A₀ base outer h₀) (F : Fr h₀ L s.heap m) (X : (hd.heap_39 w.params).In h₀) (N : News h₀ L s.heap news)
    (T : Top hd.view_39 (looseW hd.view_39 [Str.ofString "SHORT_ESCAPES", Str.ofString "_law_parts"]) mean mg mb h₀) (hkf : cs.kind = .function)
    {atoms : List Atom} {tk1 tk2 : Tok} {most : Int} (hok : ∀ x ∈ atoms, x.ok) (hlen : (strOf atoms).length < 1000) (hm0 : 0 ≤ most) (hm1 : most ≤ 1000)
    (hdp : dp + 20 < recursionLimit) (hun : un + 200 < cLine)
    (hret : ∀ codes l vs n h' tk', laid most (atoms.map Atom.sgn) [] = some codes → IntsAre vs codes → vs.length < 2000 → (∀ p ∈ news, p.1 < l) → Fr h₀ L h' m → News h₀ L h' ((l, listOf vs.toArray n) :: news) → Q (.ref l) { s with heap := h', toks := tk' })
    (hraise : ∀ G e h' tk', laid most (atoms.map Atom.sgn) [] = none → Fr h₀ L G m → DieUp base G (envX cn cs L a ccd cl :: outer) e news h' → E (.ref e) { s with heap := h', toks := tk' }) :
    wpAny (model Challenge.rw_qd0140_01.row.prog w) (ktrTop dp un gd cn cs L a ccd cl outer) (call (.ref 150) [.str (strOf atoms) tk1, .int most tk2]) Q E s := by
  revert X; k_fill; intro X
  refine wpAny_call ?_
  k_dflt (refine' code_def ?k1 ?k2 ?k3 ?k4 ?k5 ?kA ?kF ?kK ?k6 ?k7 ?k8 ?k9 ?kB ?_ ?c2 ?c3 ?c4 ?c5; (case kA => exact rfl); (case kF => exact rfl); (case kK => first | exact rfl | assumption); (case k1 => k_asm); (case k2 => k_asm); (case k3 => k_asm); (case k4 => k_asm); (case k5 => k_asm); (case k6 => k_is); (case k7 => k_is); (case k8 => first | ((try simp only [depth_under_make, depth_under_kw, depth_in1, depth_deeper, depth_caller]); (try dsimp only [ktrTop]); omega) | ktr_room); (case k9 => exact BindsTo.of_eq rfl); (case c5 => decide); (case kB => exact locs rfl); (case c2 => exact rfl); (case c3 => exact rfl); (case c4 => exact rfl); k_whole; intro g' L' h' FG' F' N' B' X' T'; (try dsimp only); (try k_fold))
  k_steps
  refine Stop.in ?_
  rename_i r9 v9 n9 t9 _ _ l1 l2 l3 A9 _ _ fl _ lf _ _ _ _
  rename Fr _ _ _ _ => lF'
  rename News _ _ _ _ => lN'
  have hsb := sgn_b hok
  generalize hsg : atoms.map Atom.sgn = sg at *
  have hL := strOf_len atoms
  have hvl : v9.length = sg.length := A9.length
  have hvl2 : v9.length < 1000 := by
    have := len_le atoms
    rw [hvl, ← hsg, List.length_map]; omega
  refine fr_abs [(Str.ofString "text", .str (strOf atoms) tk1), (Str.ofString "most", .int most tk2), (Str.ofString "signs", .ref r9), (Str.ofString "found", .ref fl), (Str.ofString "at", _)] lF' (by kst_all) ?_
  clear lF'
  intro uu lF'
  with_unfolding_all refine' ksw_while (σ := Nat × Tok × List Value × Nat × List Int) (fun c => (fl, listOf c.2.2.1.toArray c.2.2.2.1) :: (r9, listOf v9.toArray n9) :: (t9 ++ news)) (fun c => [(Str.ofString "at", .int (c.1 : Int) c.2.1)]) (fun c => True) [Str.ofString "code", Str.ofString "last", Str.ofString "one"] (fun c => c.1 ≤ sg.length ∧ laid most (sg.drop c.1) c.2.2.2.2 = laid most sg [] ∧ IntsAre c.2.2.1 c.2.2.2.2 ∧ (c.2.2.2.2.length : Int) ≤ 1000) (fun c => sg.length - c.1) (0, _, [], _, []) lF' lN' ?kf ?kk ?kp ?_
  case kk => kst_all
  case kf => trivial
  case kp => exact ⟨Nat.zero_le _, rfl, .nil, by simp⟩
  clear lF' lN'
  rintro ⟨i, t1, vs, n, codes⟩ u h tk hf ⟨hp1, hp2, hp3, hp4⟩ F1 N1
  (try dsimp only at *)
  have hvs0 := hp3.length
  have hvs : vs.length < 2000 := by omega
  refine absB fun Q9 hQ9 => ?_
  try k_unmd
  k_fold
  k_steps
  rotate_left
  · refine hret codes fl vs n _ _ (end_laid hp2 hvl (by assumption)) hp3 hvs (fun p hp => allLt_all lf.2 p (List.mem_append_right _ hp)) (by assumption) ?_
    rename News h₀ L _ _ => N9
    exact kst_newsOf N9 (by intro p hp; rcases List.mem_cons.mp hp with rfl | hp; exact .head _; exact .tail _ (.tail _ (List.mem_append_right _ hp)))
  refine Stop.in ?_
  (try dsimp only)
  rename Fr _ _ _ _ => F2
  rename News _ _ _ _ => N2
  rename (_ : Int) < _ => hlt
  have b1 := hsb (i : Int).toNat
  have b2 := hsb ((i : Int) + 2).toNat
  refine cut_execs (fun s2 => ∃ (i2 : Nat) (b : Int) (t2 t3 t4 : Tok) (h2 : Heap) (k2 : Nat), s2 = { s with heap := h2, toks := k2 } ∧ Fr g' L' h2 (kstB (fun z => if z = Str.ofString "one" then u z else kstB uu [(Str.ofString "text", .str (strOf atoms) tk1), (Str.ofString "most", .int most tk2), (Str.ofString "signs", .ref r9), (Str.ofString "found", .ref fl)] z) [(Str.ofString "at", .int (i2 : Int) t2), (Str.ofString "code", .int (sg.getD (i : Int).toNat (0, false)).1 t3), (Str.ofString "last", .int b t4)]) ∧ News g' L' h2 ((fl, listOf vs.toArray n) :: (r9, listOf v9.toArray n9) :: (t9 ++ news)) ∧ i ≤ i2 ∧ i2 + 1 ≤ sg.length ∧ 0 ≤ b ∧ b < 128 ∧ ¬ b < (sg.getD (i : Int).toNat (0, false)).1 ∧
      laid most sg [] = stepL most (sg.getD (i : Int).toNat (0, false)).1 b (sg.drop (i2 + 1)) codes) (fun s2 hs2 => ?_) (fun ht => ?_)
  rotate_left
  · refine wpAny_execs_cons ?_
    k_steps
    · refine Stop.in ?_
      (try dsimp only)
      refine wpAny_execs_cons ?_
      k_steps
      all_goals first
        | (rename DieUp _ _ _ _ _ _ => R9
           refine hraise _ _ _ _ ?_ (by assumption) (R9.sub (by intro p hp; kst_mem))
           exact bad_lt hp2 hvl hlt (by assumption) (by assumption) (by assumption))
        | (refine Stop.in ?_
           (try dsimp only)
           refine use_tail ht ?_
           refine Stop.in ?_
           exact ⟨i + 2, _, _, _, _, _, _, rfl, fr_to (by assumption) (by kst_all) (by first | ksw_same | (dsimp only [kstB]; ksw_same)), kst_newsOf (by assumption) (by intro p hp; kst_mem), Nat.le_add_right _ _, by omega, b2.1, b2.2, by assumption, st_eq hp2 hvl hlt (by assumption) (by assumption)⟩)
    · refine Stop.in ?_
      (try dsimp only)
      refine use_tail ht ?_
      refine Stop.in ?_
      exact ⟨i, _, _, _, _, _, _, rfl, fr_to (by assumption) (by kst_all) (by first | ksw_same | (dsimp only [kstB]; ksw_same)), kst_newsOf (by assumption) (by intro p hp; kst_mem), Nat.le_refl _, by omega, b1.1, b1.2, Int.lt_irrefl _, st_neq hp2 hvl hlt (by assumption) (by assumption)⟩
    · refine Stop.in ?_
      (try dsimp only)
      refine use_tail ht ?_
      refine Stop.in ?_
      exact ⟨i, _, _, _, _, _, _, rfl, fr_to (by assumption) (by kst_all) (by first | ksw_same | (dsimp only [kstB]; ksw_same)), kst_newsOf (by assumption) (by intro p hp; kst_mem), Nat.le_refl _, by omega, b1.1, b1.2, Int.lt_irrefl _, st_short hp2 hvl hlt (by assumption)⟩
  · obtain ⟨i2, b, t2, t3, t4, h2, k2, rfl, F3, N3, i1, i3, b3, b4, hba, e3⟩ := hs2
    clear F2 N2 hp2 b2
    generalize (sg.getD (i : Int).toNat (0, false)).1 = a0 at *
    refine wpAny_execs_cons ?_
    k_steps
    · rename DieUp _ _ _ _ _ _ => R9
      refine hraise _ _ _ _ ?_ (by assumption) (R9.sub (by intro p hp; kst_mem))
      exact step_none e3 (.inr (by omega))
    refine Stop.in ?_
    rename IsRange _ _ _ _ _ _ _ _ => hr
    rename Fr _ _ _ _ => lF'
    rename ¬ (most ≤ _) => hnm
    have hb0 : 0 ≤ a0 ∧ a0 < 128 := b1
    rename News _ _ _ _ => lN2
    have hs9 := range_small (a := a0) (b := b + 1) (by omega) (by omega) (by omega) (by omega)
    with_unfolding_all refine fr_range (σ := List Value × Nat) (fun k c => (fl, listOf c.1.toArray c.2) :: (r9, listOf v9.toArray n9) :: (t9 ++ news)) (fun k c => []) [] (fun k c => IntsAre c.1 (codes ++ rangeKs a0 k)) (vs, n) rfl hr hs9 (range_size _ _) lF' lN2 (List.forall_mem_nil _) (by simpa [rangeKs] using hp3) ?_ ?_
    · clear lF' lN2
      rintro k ⟨vs2, n2⟩ u2 t2 h2 tk2 own hk hoff hq F2 N2
      (try dsimp only at *)
      simp only [List.cons_append] at N2
      have hq2 := hq.length
      rw [List.length_append, rangeKs_length] at hq2
      have hvs2 : vs2.length < 2000 := by omega
      have hne : ∀ p ∈ (r9, listOf v9.toArray n9) :: (t9 ++ news ++ own), p.1 ≠ fl := by
        intro p hp
        rcases List.mem_cons.mp hp with rfl | hp
        · exact Nat.ne_of_lt lf.1
        · rcases List.mem_append.mp hp with hp | hp
          · exact Nat.ne_of_lt (allLt_all lf.2 p hp)
          · exact hoff p hp fl (.head _)
      refine absQ fun Q8 hQ8 => ?_
      try k_unmd
      try k_fold
      k_steps
      refine hQ8 _ _ ?_
      dsimp only [InvPostG]
      rename News _ _ _ _ => N9
      simp only [List.push_toArray] at N9
      exact fr_end (vs2 ++ [_], n2 + 1) (by assumption) N9 memC memD hoff (List.forall_mem_nil _) (by first | ksw_same | (dsimp only [kstB]; ksw_same)) (ints_next hq)
    · clear lF' lN2
      rintro ⟨vs2, n2⟩ u2 h2 tk2 hq F2 N2
      (try dsimp only at *)
      have hq2 := hq.length
      rw [List.length_append, rangeKs_length] at hq2
      have hvs2 : vs2.length < 2000 := by omega
      try k_unmd
      try k_fold
      k_steps
      refine hQ9 _ _ ?_
      dsimp only [KswPost]
      exact ksw_end (i2 + 1, _, vs2, n2, _) (by assumption) (by assumption) (fun p hp => hp) trivial (by kst_all) (by first | ksw_same | (dsimp only [kstB]; ksw_same)) ⟨i3, step_go e3 hba (by omega), hq, by dsimp only; rw [List.length_append, rangeKs_length, ← hq2]; omega⟩ (by dsimp only; omega)
end
-- part L1
section
theorem fresh_L1 : True := by
  w_top off
  trivial
local macro_rules | `(tactic| walk_at "call ref") => `(tactic| (k_here; k_dflt (walk_at "# codes_call kkkkkzaaaadu__"; k_whole)))
theorem die_exm {P : Params} : exmOne (hd.heap_39 P) (.ref 51) (.ref 51) = some true := by kernel_rfl
theorem laid_call {w : World} {mean : ExcName → Option Value} {mg mb : Str → Option Value}
    {dp un : Nat} {gd : Option (List Code)} {cn : Str} {cs : Scope} {a : Addr} {ccd : Value} {cl : List (Str × Addr)} {A₀ : Around} {base h₀ : Heap} {L : Addr} {m : Str → Option Value} {s : Shared} {Q E : Value → Shared → Prop} {news : List (Addr × Obj)}
    (B : Below A₀ base [] h₀) (F : Fr h₀ L s.heap m) (X : (hd.heap_39 w.params).In h₀) (N : News h₀ L s.heap news)
    (T : Top hd.view_39 (looseW hd.view_39 [Str.ofString "SHORT_ESCAPES", Str.ofString "_law_parts"]) mean mg mb h₀) (hkf : cs.kind = .function)
    (XB : (hd.heap_39 w.params).In base) (TB : Top hd.view_39 (looseW hd.view_39 [Str.ofString "SHORT_ESCAPES", Str.ofString "_law_parts"]) mean mg mb base)
    {atoms : List Atom} {tk1 tk2 : Tok} {most : Int} (hok : ∀ x ∈ atoms, x.ok) (hlen : (strOf atoms).length < 1000) (hm0 : 0 ≤ most) (hm1 : most ≤ 1000)
    (hdp : dp + 25 < recursionLimit) (hun : un + 250 < cLine)
    (hsome : ∀ codes l vs n h' tk', laid most (atoms.map Atom.sgn) [] = some codes → IntsAre vs codes → vs.length < 2000 → (∀ p ∈ news, p.1 < l) → Fr h₀ L h' m → News h₀ L h' ((l, listOf vs.toArray n) :: news) → Q (.ref l) { s with heap := h', toks := tk' })
    (hnone : ∀ h' tk', laid most (atoms.map Atom.sgn) [] = none → Fr h₀ L h' m → News h₀ L h' news → Q .none { s with heap := h', toks := tk' }) :
    wpAny (model Challenge.rw_qd0140_01.row.prog w) (ktrTop dp un gd cn cs L a ccd cl []) (call (.ref 288) [.str (strOf atoms) tk1, .int most tk2]) Q E s := by
  revert X; k_fill; intro X
  refine wpAny_call ?_
  k_dflt (refine' defS0X ?k1 ?k2 ?k3 ?k4 ?k5 ?kA ?kF ?kK ?k6 ?k7 ?k8 ?k9 ?kB ?_ ?c2 ?c3 ?c4 ?c5; (case kA => exact rfl); (case kF => exact rfl); (case kK => first | exact rfl | assumption); (case k2 => k_asm); (case k1 => k_asm); (case k3 => k_asm); (case k4 => k_asm); (case k5 => k_asm); (case k6 => k_is); (case k7 => k_is); (case k8 => first | ((try simp only [depth_under_make, depth_under_kw, depth_in1, depth_deeper, depth_caller]); (try dsimp only [ktrTop]); omega) | ktr_room); (case k9 => exact BindsTo.of_eq rfl); (case kB => exact locs rfl); (case c2 => exact rfl); (case c3 => exact rfl); (case c4 => exact rfl); (case c5 => decide); k_whole; intro g' L' h' FG' F' N' B' X' T' D'; (try dsimp only); (try k_fold))
  k_steps
  · exact hsome _ _ _ _ _ _ (by assumption) (by assumption) (by assumption) (by assumption) (by assumption) (by assumption)
  · rename DieUp _ _ _ _ _ _ => R9
    refine kts_lookSN R9.up (by assumption) (by assumption) R9.slots (by assumption) fun h8 R8 U8 => ?_
    refine hit_SN0 R8 (by assumption) (by assumption) U8 XB TB (by assumption) KtsTurn.refl (test_name (c := .ref 51) (.inl (by k_is)) die_exm rfl rfl (by decide)) fun h7 g7 T7 F7 N7 B7 X7 P7 D7 => ?_
    k_steps
    exact hnone _ _ (by assumption) (by assumption) (by assumption)
end
-- part B0
section
theorem laidV_call {w : World} {mean : ExcName → Option Value} {mg mb : Str → Option Value}
    {dp un : Nat} {gd : Option (List Code)} {cn : Str} {cs : Scope} {a : Addr} {ccd : Value} {cl : List (Str × Addr)} {A₀ : Around} {base h₀ : Heap} {L : Addr} {m : Str → Option Value} {s : Shared} {Q E : Value → Shared → Prop} {news : List (Addr × Obj)}
    (B : Below A₀ base [] h₀) (F : Fr h₀ L s.heap m) (X : (hd.heap_39 w.params).In h₀) (N : News h₀ L s.heap news)
    (T : Top hd.view_39 (looseW hd.view_39 [Str.ofString "SHORT_ESCAPES", Str.ofString "_law_parts"]) mean mg mb h₀) (hkf : cs.kind = .function)
    (XB : (hd.heap_39 w.params).In base) (TB : Top hd.view_39 (looseW hd.view_39 [Str.ofString "SHORT_ESCAPES", Str.ofString "_law_parts"]) mean mg mb base)
    {atoms : List Atom} {tk1 tk2 : Tok} {most : Int} (hok : ∀ x ∈ atoms, x.ok) (hlen : (strOf atoms).length < 1000) (hm0 : 0 ≤ most) (hm1 : most ≤ 1000)
    (hdp : dp + 25 < recursionLimit) (hun : un + 250 < cLine)
    (hret : ∀ v nx h' tk', LaidV (nx ++ news) v (laid most (atoms.map Atom.sgn) []) → Fr h₀ L h' m → News h₀ L h' (nx ++ news) → Q v { s with heap := h', toks := tk' }) :
    wpAny (model Challenge.rw_qd0140_01.row.prog w) (ktrTop dp un gd cn cs L a ccd cl []) (call (.ref 288) [.str (strOf atoms) tk1, .int most tk2]) Q E s :=
  laid_call B F X N T hkf XB TB hok hlen hm0 hm1 hdp hun (fun codes l vs n h' tk' e I z _ F' N' => hret (.ref l) [(l, listOf vs.toArray n)] h' tk' ⟨.inr ⟨l, vs, n, codes, rfl, .head _, I, z, e⟩⟩ F' N') (fun h' tk' e F' N' => hret .none [] h' tk' ⟨.inl ⟨rfl, e⟩⟩ F' N')
section
variable {prog : Program} {w : World} {A : Around} {E : Value → Shared → Prop} {s : Shared} {h₀ : Heap} {L : Addr} {news n1 n2 : List (Addr × Obj)} {v u : Value} {r : Option (List Int)} {Q : Value → Shared → Prop}
theorem laid_ne (N : News h₀ L s.heap news) (h1 : LaidV n1 v r) (s1 : ∀ p ∈ n1, p ∈ news) (h2 : LaidV n2 u r) (s2 : ∀ p ∈ n2, p ∈ news) (hu : A.units + 64 < cLine) (h : Q (.bool false) s) :
    wpAny (model prog w) A (compareOp .NotEq v u) Q E s := by
  rcases h1.out with ⟨rfl, e1⟩ | ⟨a, vs, n, codes, rfl, ma, Ia, _, e1⟩ <;> rcases h2.out with ⟨rfl, e2⟩ | ⟨b, us, n', codes', rfl, mb, Ib, _, e2⟩
  · exact EqNone.ne_none_none h
  · rw [e1] at e2; cases e2
  · rw [e1] at e2; cases e2
  · rw [e1] at e2
    obtain rfl := Option.some.inj e2
    refine ints_neL N (s1 _ ma) Ia (s2 _ mb) Ib hu ?_
    rw [decide_eq_true rfl]; exact h
end
end
-- part Sa
section
open PySem PyProof.Rows
noncomputable def kv (p : Keyed) : Int := numOf p.1
noncomputable def IsI (p : Keyed) : Prop := ∃ n t, p.1 = .int n t
theorem isI_at {xs : Array Keyed} (h : IntKeys xs) {i : Nat} (hi : i < xs.size) : IsI xs[i] := h _ (by simp)
noncomputable def bq (left : Bool) (k x : Int) : Bool := if left then decide (x < k) else !decide (k < x)
theorem bq_mono {left : Bool} {k x y : Int} (h : x ≤ y) (hy : bq left k y = true) : bq left k x = true := by
  cases left <;> simp only [bq, if_true, Bool.false_eq_true, if_false, decide_eq_true_eq, Bool.not_eq_true', decide_eq_false_iff_not] at hy ⊢ <;> omega
section
variable {prog : Program} {w : World} {A : Around} {E : Value → Shared → Prop} {s : Shared} {a₀ : Array Keyed}
theorem elem_spec {arr : Array Keyed} {i : Nat} {st : SortSt} {Q : Keyed → SortSt → Prop} (hi : i < arr.size) (h : Q arr[i] st) :
    wpS (model prog w) A E s ((sortPriv% PySem.Builtin.elem) arr i) Q st := by
  show wpS _ _ _ _ (elem' arr i) Q st
  rw [elem'_eq, getElem?_pos arr i hi]
  exact wpS_pure h
theorem lt_spec {p q : Keyed} {st : SortSt} {Q : Option Bool → SortSt → Prop} (hk : kindOf st = oneType') (hp : IsI p) (hq : IsI q) (h : Q (some (decide (kv p < kv q))) st) :
    wpS (model prog w) A E s ((sortPriv% PySem.Builtin.lt) p q) Q st := by
  show wpS _ _ _ _ (lt' p q) Q st
  obtain ⟨a, t, ea⟩ := hp
  obtain ⟨b, u, eb⟩ := hq
  rw [lt'_eq]
  refine wpS_bind (wpS_get ?_)
  rw [hk, keyLt'_oneType, ea, eb]
  refine wpS_bind (wpS_lift (wpAny_attempt (oneLt_int ⟨rfl, ?_⟩)))
  have e : decide (kv p < kv q) = decide (a < b) := by simp only [kv, ea, eb, numOf]
  rw [e] at h
  exact wpS_pure h
theorem kv_at {arr : Array Keyed} {i : Nat} (hi : i < arr.size) : kv arr[i] = K arr i := (K_eq hi).symm
theorem bey {left : Bool} {key : Keyed} {arr : Array Keyed} {j : Nat} {st : SortSt} {Q : Option Bool → SortSt → Prop} (hk : kindOf st = oneType') (hkey : IsI key) (hA : IntKeys arr) (hj : j < arr.size)
    (h : Q (some (bq left (kv key) (K arr j))) st) :
    wpS (model prog w) A E s ((sortPriv% PySem.Builtin.elem) arr j >>= fun x => if left = true then (sortPriv% PySem.Builtin.lt) x key else ((sortPriv% PySem.Builtin.lt) key x >>= fun r => pure (Option.map (fun b => !b) r))) Q st := by
  refine wpS_bind (elem_spec hj ?_)
  cases left with
  | true =>
    rw [if_pos rfl]
    refine lt_spec hk (isI_at hA hj) hkey ?_
    rw [kv_at]; exact h
  | false =>
    rw [if_neg Bool.false_ne_true]
    refine wpS_bind (lt_spec hk hkey (isI_at hA hj) (wpS_pure ?_))
    rw [kv_at]; exact h
theorem wpS_ite {α : Type} {c : Prop} [Decidable c] {a b : StateT SortSt Sem α} {Q : α → SortSt → Prop} {st : SortSt} {M : Model} (h1 : c → wpS M A E s a Q st) (h2 : ¬ c → wpS M A E s b Q st) : wpS M A E s (if c then a else b) Q st := by
  by_cases h : c
  · rw [if_pos h]; exact h1 h
  · rw [if_neg h]; exact h2 h
theorem wpS_jp1 {α β : Type} {jp : β → StateT SortSt Sem α} {X : StateT SortSt Sem α} {Q : α → SortSt → Prop} {st : SortSt} {M : Model}
    (h1 : ∀ b, wpS M A E s (jp b) Q st) (h2 : (∀ b, wpS M A E s (jp b) Q st) → wpS M A E s X Q st) : wpS M A E s X Q st := h2 h1
theorem wpS_jp2 {α β γ : Type} {jp : β → γ → StateT SortSt Sem α} {X : StateT SortSt Sem α} {Q : α → SortSt → Prop} {st : SortSt} {M : Model} (P : β → γ → Prop)
    (h1 : ∀ b c, P b c → wpS M A E s (jp b c) Q st) (h2 : (∀ b c, P b c → wpS M A E s (jp b c) Q st) → wpS M A E s X Q st) : wpS M A E s X Q st := h2 h1
theorem wpS_jp4 {α β γ δ ε : Type} {jp : δ → ε → β → γ → StateT SortSt Sem α} {X : StateT SortSt Sem α} {Q : α → SortSt → Prop} {st : SortSt} {M : Model} (P : β → γ → Prop)
    (h1 : ∀ d e b c, P b c → wpS M A E s (jp d e b c) Q st) (h2 : (∀ d e b c, P b c → wpS M A E s (jp d e b c) Q st) → wpS M A E s X Q st) : wpS M A E s X Q st := h2 h1
theorem wpS_jpG {α β : Type} {jp : β → StateT SortSt Sem α} {X : StateT SortSt Sem α} {Q : α → SortSt → Prop} {st : SortSt} {M : Model} (P : β → SortSt → Prop)
    (h1 : ∀ b st', P b st' → wpS M A E s (jp b) Q st') (h2 : (∀ b st', P b st' → wpS M A E s (jp b) Q st') → wpS M A E s X Q st) : wpS M A E s X Q st := h2 h1
theorem wpS_jpS {α : Type} {jp : StateT SortSt Sem α} {X : StateT SortSt Sem α} {Q : α → SortSt → Prop} {st : SortSt} {M : Model} (P : SortSt → Prop)
    (h1 : ∀ st', P st' → wpS M A E s jp Q st') (h2 : (∀ st', P st' → wpS M A E s jp Q st') → wpS M A E s X Q st) : wpS M A E s X Q st := h2 h1
end
noncomputable def Up (xs : Array Keyed) (lo hi : Nat) : Prop := ∀ i j, lo ≤ i → i ≤ j → j < hi → K xs i ≤ K xs j
structure Gp (p : Nat → Bool) (n lo hi : Nat) : Prop where
  a : lo ≤ hi
  b : hi ≤ n
  t : ∀ i, i < lo → p i = true
  f : ∀ i, hi ≤ i → i < n → p i = false
theorem mid_lt {lo hi : Nat} (h : lo < hi) : lo + (hi - lo) / 2 < hi := by omega
theorem dbl {x o : Nat} (h : x < o) : x + 1 < 2 * o + 1 := by omega
theorem dbl2 (o : Nat) : o < 2 * o + 1 := by omega
section
variable {prog : Program} {w : World} {A : Around} {E : Value → Shared → Prop} {s : Shared} {p : Nat → Bool} {n hint l o : Nat}
theorem Gp.right (tt : ∀ i j, i ≤ j → j < n → p j = true → p i = true) (ff : ∀ i j, i ≤ j → j < n → p i = false → p j = false) (h1 : l < o) (h2 : hint + l < n) (h3 : p (hint + l) = true)
    (h4 : n ≤ hint + o ∨ (hint + o < n ∧ p (hint + o) = false)) : Gp p n (hint + l + 1) (hint + min o (n - hint)) := by
  rcases h4 with h4 | ⟨h4, h7⟩
  · rw [Nat.min_eq_right (Nat.sub_le_of_le_add (Nat.add_comm _ _ ▸ h4)), Nat.add_sub_cancel' (Nat.le_trans (Nat.le_add_right _ _) (Nat.le_of_lt h2))]
    exact ⟨h2, Nat.le_refl _, fun i hi => tt i _ (Nat.le_of_lt_succ hi) h2 h3, fun i h5 h6 => (Nat.lt_irrefl _ (Nat.lt_of_le_of_lt h5 h6)).elim⟩
  · rw [Nat.min_eq_left (Nat.le_sub_of_add_le (Nat.add_comm _ _ ▸ Nat.le_of_lt h4))]
    exact ⟨Nat.add_lt_add_left h1 _, Nat.le_of_lt h4, fun i hi => tt i _ (Nat.le_of_lt_succ hi) h2 h3, fun i h5 h6 => ff _ i h5 h6 h7⟩
theorem Gp.left (tt : ∀ i j, i ≤ j → j < n → p j = true → p i = true) (ff : ∀ i j, i ≤ j → j < n → p i = false → p j = false) (hh : hint < n) (h1 : l < o) (h2 : l ≤ hint) (h3 : p (hint - l) = false)
    (h4 : hint < o ∨ (o ≤ hint ∧ p (hint - o) = true)) : Gp p n (hint + 1 - min o (hint + 1)) (hint - l) := by
  rcases h4 with h4 | ⟨h4, h7⟩
  · rw [Nat.min_eq_right h4, Nat.sub_self]
    exact ⟨Nat.zero_le _, Nat.le_of_lt (Nat.lt_of_le_of_lt (Nat.sub_le _ _) hh), fun i hi => (Nat.not_lt_zero _ hi).elim, fun i h5 h6 => ff _ i h5 h6 h3⟩
  · rw [Nat.min_eq_left (Nat.le_succ_of_le h4), Nat.sub_add_comm h4]
    exact ⟨by omega, Nat.le_of_lt (Nat.lt_of_le_of_lt (Nat.sub_le _ _) hh), fun i hi => tt i _ (Nat.le_of_lt_succ hi) (Nat.lt_of_le_of_lt (Nat.sub_le _ _) hh) h7, fun i h5 h6 => ff _ i h5 h6 h3⟩
noncomputable def galP : Bool → Keyed → Array Keyed → Nat → Nat → Nat → StateT SortSt Sem (Option Nat) := sortPriv% PySem.Builtin.gallop
theorem gal_spec {left : Bool} {key : Keyed} {arr : Array Keyed} {base n hint : Nat} {st : SortSt} {Q : Option Nat → SortSt → Prop}
    (hk : kindOf st = oneType') (hkey : IsI key) (hA : IntKeys arr) (hb : base + n ≤ arr.size) (hh : hint < n)
    (hs : Up arr base (base + n))
    (h : ∀ k, k ≤ n → (∀ i, i < k → bq left (kv key) (K arr (base + i)) = true) → (∀ i, k ≤ i → i < n → bq left (kv key) (K arr (base + i)) = false) → Q (some k) st) :
    wpS (model prog w) A E s (galP left key arr base n hint) Q st := by
  obtain ⟨p, hp⟩ : ∃ p : Nat → Bool, ∀ i, p i = bq left (kv key) (K arr (base + i)) := ⟨_, fun _ => rfl⟩
  have tt : ∀ i j, i ≤ j → j < n → p j = true → p i = true := fun i j hij hj e => by
    rw [hp] at e ⊢; exact bq_mono (hs _ _ (Nat.le_add_right _ _) (Nat.add_le_add_left hij _) (Nat.add_lt_add_left hj _)) e
  have ff : ∀ i j, i ≤ j → j < n → p i = false → p j = false := fun i j hij hj e => by
    cases e2 : p j with
    | false => rfl
    | true => rw [tt i j hij hj e2] at e; cases e
  have by' : ∀ {j : Nat} {Q : Option Bool → SortSt → Prop}, j < n → Q (some (p j)) st →
      wpS (model prog w) A E s ((sortPriv% PySem.Builtin.elem) arr (base + j) >>= fun x => if left = true then (sortPriv% PySem.Builtin.lt) x key else ((sortPriv% PySem.Builtin.lt) key x >>= fun r => pure (Option.map (fun b => !b) r))) Q st :=
    fun hj h => bey hk hkey hA (Nat.lt_of_lt_of_le (Nat.add_lt_add_left hj _) hb) (hp _ ▸ h)
  replace h : ∀ k, Gp p n k k → Q (some k) st := fun k g => h k g.b (fun i hi => hp i ▸ g.t i hi) (fun i h1 h2 => hp i ▸ g.f i h1 h2)
  clear hs hp hb hA hk hkey
  refine wpS_bind (by' hh ?_)
  dsimp -zeta only
  extract_lets -underBinder jp
  refine wpS_jp4 (jp := jp ()) (fun lo hi => Gp p n lo hi) (fun _ _ lo hi g => ?_) (fun hj => wpS_ite (fun hr => ?_) (fun hr => ?_))
  · dsimp only [jp]
    clear jp
    refine wpS_bind (wpS_mono (wpS_forRange (I := fun x c st' => st' = st ∧ ∃ lo hi, c = (none, lo, hi) ∧ Gp p n lo hi ∧ hi + x ≤ lo + n)
      (Q := fun c st' => st' = st ∧ ∃ lo, c = (none, lo, lo) ∧ Gp p n lo lo) ?_ ?_ ⟨rfl, _, _, rfl, g, Nat.le_trans g.b (Nat.le_add_left _ _)⟩) ?_)
    · clear g
      rintro x c st' _ _ ⟨rfl, lo, hi, rfl, g, h1⟩
      dsimp only
      refine wpS_ite (fun e => ?_) (fun e => ?_)
      · cases Nat.le_antisymm e g.a
        exact wpS_pure ⟨rfl, _, rfl, g⟩
      · have hm := mid_lt (Nat.lt_of_not_le e)
        have hn := Nat.lt_of_lt_of_le hm g.b
        refine wpS_bind (by' hn ?_)
        exact wpS_ite (fun e3 => wpS_pure ⟨rfl, _, _, rfl, ⟨hm, g.b, fun i hi => tt i _ (Nat.le_of_lt_succ hi) hn e3, g.f⟩, by omega⟩)
          (fun e3 => wpS_pure ⟨rfl, _, _, rfl, ⟨Nat.le_add_right _ _, Nat.le_of_lt hn, g.t, fun i h6 h7 => ff _ i h6 h7 (Bool.eq_false_iff.mpr e3)⟩, Nat.le_trans (Nat.succ_le_of_lt (Nat.add_lt_add_right hm _)) h1⟩)
    · rintro c st' ⟨rfl, lo, hi, rfl, g, h1⟩
      cases Nat.le_antisymm (Nat.le_of_add_le_add_right (Nat.le_trans (Nat.add_le_add_left (Nat.le_max_right 0 n) _) h1)) g.a
      exact ⟨rfl, _, rfl, g⟩
    · rintro c st' ⟨rfl, lo, rfl, g⟩
      exact wpS_pure (h lo g)
  · clear_value jp
    refine wpS_bind (wpS_mono (wpS_forRange (I := fun x c st' => st' = st ∧ ∃ l o, c = (none, l, o) ∧ l < o ∧ hint + l < n ∧ p (hint + l) = true ∧ x < o)
      (Q := fun c st' => st' = st ∧ ∃ l o, c = (none, l, o) ∧ l < o ∧ hint + l < n ∧ p (hint + l) = true ∧ (n ≤ hint + o ∨ (hint + o < n ∧ p (hint + o) = false))) ?_ ?_ ⟨rfl, 0, 1, rfl, Nat.one_pos, hh, hr, Nat.one_pos⟩) ?_)
    · rintro x c st' _ _ ⟨rfl, l, o, rfl, h1, h2, h3, h4⟩
      dsimp only
      refine wpS_ite (fun e => wpS_pure ⟨rfl, _, _, rfl, h1, h2, h3, .inl (Nat.sub_le_iff_le_add'.mp e)⟩) (fun e => ?_)
      have e := Nat.add_lt_of_lt_sub' (Nat.lt_of_not_le e)
      refine wpS_bind (by' e ?_)
      dsimp only
      cases hr2 : p (hint + o) with
      | true => exact wpS_pure ⟨rfl, _, _, rfl, dbl2 o, e, hr2, dbl h4⟩
      | false => exact wpS_pure ⟨rfl, _, _, rfl, h1, h2, h3, .inr ⟨e, hr2⟩⟩
    · rintro c st' ⟨rfl, l, o, rfl, h1, h2, h3, h4⟩
      exact ⟨rfl, _, _, rfl, h1, h2, h3, .inl (Nat.le_trans (Nat.le_trans (Nat.le_max_right 0 n) (Nat.le_of_lt h4)) (Nat.le_add_left _ _))⟩
    · rintro c st' ⟨rfl, l, o, rfl, h1, h2, h3, h4⟩
      exact hj _ _ _ _ (Gp.right tt ff h1 h2 h3 h4)
  · clear_value jp
    refine wpS_bind (wpS_mono (wpS_forRange (I := fun x c st' => st' = st ∧ ∃ l o, c = (none, l, o) ∧ l < o ∧ l ≤ hint ∧ p (hint - l) = false ∧ x < o)
      (Q := fun c st' => st' = st ∧ ∃ l o, c = (none, l, o) ∧ l < o ∧ l ≤ hint ∧ p (hint - l) = false ∧ (hint < o ∨ (o ≤ hint ∧ p (hint - o) = true))) ?_ ?_ ⟨rfl, 0, 1, rfl, Nat.one_pos, Nat.zero_le _, Bool.eq_false_iff.mpr hr, Nat.one_pos⟩) ?_)
    · rintro x c st' _ _ ⟨rfl, l, o, rfl, h1, h2, h3, h4⟩
      dsimp only
      refine wpS_ite (fun e => wpS_pure ⟨rfl, _, _, rfl, h1, h2, h3, .inl e⟩) (fun e => ?_)
      have e := Nat.le_of_lt_succ (Nat.lt_of_not_le e)
      refine wpS_bind (by' (Nat.lt_of_le_of_lt (Nat.sub_le _ _) hh) ?_)
      exact wpS_ite (fun hr2 => wpS_pure ⟨rfl, _, _, rfl, h1, h2, h3, .inr ⟨e, hr2⟩⟩) (fun hr2 => wpS_pure ⟨rfl, _, _, rfl, dbl2 o, e, Bool.eq_false_iff.mpr hr2, dbl h4⟩)
    · rintro c st' ⟨rfl, l, o, rfl, h1, h2, h3, h4⟩
      exact ⟨rfl, _, _, rfl, h1, h2, h3, .inl (Nat.lt_of_lt_of_le hh (Nat.le_trans (Nat.le_max_right 0 n) (Nat.le_of_lt h4)))⟩
    · rintro c st' ⟨rfl, l, o, rfl, h1, h2, h3, h4⟩
      exact hj _ _ _ _ (Gp.left tt ff hh h1 h2 h3 h4)
end
end
-- part Sb
section
open PySem PyProof.Rows
structure MI (le : Keyed → Keyed → Prop) (T R S o : List Keyed) : Prop where
  perm : (o ++ (R ++ S)).Perm T
  so : o.Pairwise le
  oR : ∀ p ∈ o, ∀ q ∈ R, le p q
  oS : ∀ p ∈ o, ∀ q ∈ S, le p q
  sR : R.Pairwise le
  sS : S.Pairwise le
section
variable {le : Keyed → Keyed → Prop} {T R S o R1 R2 : List Keyed}
theorem MI.swap (m : MI le T R S o) : MI le T S R o :=
  ⟨(List.Perm.append_left o List.perm_append_comm).trans m.perm, m.so, m.oS, m.oR, m.sS, m.sR⟩
theorem MI.takeR (m : MI le T R S o) (e : R = R1 ++ R2) (h : ∀ p ∈ R1, ∀ q ∈ S, le p q) : MI le T R2 S (o ++ R1) := by
  subst e
  have hp := List.pairwise_append.mp m.sR
  refine ⟨by have := m.perm; simpa [List.append_assoc] using this, ?_, ?_, ?_, hp.2.1, m.sS⟩
  · exact List.pairwise_append.mpr ⟨m.so, hp.1, fun p hp' q hq => m.oR p hp' q (List.mem_append_left _ hq)⟩
  · intro p hp' q hq
    rcases List.mem_append.mp hp' with h1 | h1
    · exact m.oR p h1 q (List.mem_append_right _ hq)
    · exact hp.2.2 p h1 q hq
  · intro p hp' q hq
    rcases List.mem_append.mp hp' with h1 | h1
    · exact m.oS p h1 q hq
    · exact h p h1 q hq
theorem MI.fin (m : MI le T [] [] o) : o.Perm T ∧ o.Pairwise le := ⟨by have := m.perm; simpa using this, m.so⟩
end
noncomputable def leK (p q : Keyed) : Prop := kv p ≤ kv q
noncomputable def geK (p q : Keyed) : Prop := kv q ≤ kv p
theorem sorted_pw {x : Array Keyed} (h : SortedTo x x.size) : x.toList.Pairwise leK := by
  rw [List.pairwise_iff_getElem]
  intro i j hi hj hij
  simp only [Array.length_toList] at hi hj
  have := h i j (Nat.le_of_lt hij) hj
  rw [K_eq hi, K_eq hj] at this
  simpa [leK, kv] using this
theorem pw_sorted {x : Array Keyed} (h : x.toList.Pairwise leK) : SortedTo x x.size := by
  intro i j hij hj
  rcases Nat.eq_or_lt_of_le hij with rfl | h1
  · exact Int.le_refl _
  have := List.pairwise_iff_getElem.mp h i j (by simp; omega) (by simpa using hj) h1
  rw [K_eq (by omega), K_eq hj]
  simpa [leK, kv] using this
theorem mem_ext {x : Array Keyed} {a b : Nat} {p : Keyed} (h : p ∈ (x.extract a b).toList) : ∃ i, a ≤ i ∧ i < b ∧ i < x.size ∧ kv p = K x i := by
  obtain ⟨i, hi, e⟩ := List.getElem_of_mem h
  simp only [Array.length_toList, Array.size_extract] at hi
  refine ⟨a + i, by omega, by omega, by omega, ?_⟩
  rw [K_eq (by omega), ← e]
  simp [kv]
theorem mem_drop' {x : Array Keyed} {a : Nat} {p : Keyed} (h : p ∈ x.toList.drop a) : ∃ i, a ≤ i ∧ i < x.size ∧ kv p = K x i := by
  obtain ⟨i, hi, e⟩ := List.getElem_of_mem h
  simp only [List.length_drop, Array.length_toList] at hi
  refine ⟨a + i, by omega, by omega, ?_⟩
  rw [K_eq (by omega), ← e]
  simp [kv]
theorem mem_take' {x : Array Keyed} {a : Nat} {p : Keyed} (h : p ∈ x.toList.take a) : ∃ i, i < a ∧ i < x.size ∧ kv p = K x i := by
  obtain ⟨i, hi, e⟩ := List.getElem_of_mem h
  simp only [List.length_take, Array.length_toList] at hi
  refine ⟨i, by omega, by omega, ?_⟩
  rw [K_eq (by omega), ← e]
  simp [kv]
noncomputable def ML (x y out : Array Keyed) (ia ib : Nat) : Prop := MI leK (x.toList ++ y.toList) (x.toList.drop ia) (y.toList.drop ib) out.toList
theorem drop_ext {x : Array Keyed} {a b : Nat} (h : a ≤ b) : x.toList.drop a = (x.extract a b).toList ++ x.toList.drop b := by
  rw [Array.toList_extract, List.extract_eq_take_drop]
  have e : x.toList.drop b = (x.toList.drop a).drop (b - a) := by rw [List.drop_drop]; congr 1; omega
  rw [e, List.take_append_drop]
theorem ML.takeX {x y out : Array Keyed} {ia ib b : Nat} (m : ML x y out ia ib) (hb : ia ≤ b) (h : ∀ i j, ia ≤ i → i < b → i < x.size → ib ≤ j → j < y.size → K x i ≤ K y j) : ML x y (out ++ x.extract ia b) b ib := by
  have := MI.takeR m (drop_ext hb) (fun p hp q hq => by
    obtain ⟨i, h1, h2, h3, h4⟩ := mem_ext hp
    obtain ⟨j, h5, h6, h7⟩ := mem_drop' hq
    show kv p ≤ kv q
    rw [h4, h7]; exact h i j h1 h2 h3 h5 h6)
  unfold ML; rw [Array.toList_append]; exact this
theorem ML.takeY {x y out : Array Keyed} {ia ib b : Nat} (m : ML x y out ia ib) (hb : ib ≤ b) (h : ∀ i j, ib ≤ i → i < b → i < y.size → ia ≤ j → j < x.size → K y i ≤ K x j) : ML x y (out ++ y.extract ib b) ia b := by
  have := MI.takeR (MI.swap m) (drop_ext hb) (fun p hp q hq => by
    obtain ⟨i, h1, h2, h3, h4⟩ := mem_ext hp
    obtain ⟨j, h5, h6, h7⟩ := mem_drop' hq
    show kv p ≤ kv q
    rw [h4, h7]; exact h i j h1 h2 h3 h5 h6)
  unfold ML; rw [Array.toList_append]; exact MI.swap this
theorem push_ext {x : Array Keyed} {i : Nat} (hi : i < x.size) (out : Array Keyed) : out.push x[i] = out ++ x.extract i (i + 1) := by
  apply Array.ext'
  rw [Array.toList_push, Array.toList_append, Array.toList_extract, List.extract_eq_take_drop, show i + 1 - i = 1 by omega]
  rw [List.drop_eq_getElem_cons (by simpa using hi)]
  simp
theorem ML.pushX {x y out : Array Keyed} {ia ib : Nat} (m : ML x y out ia ib) (hi : ia < x.size) (h : ∀ j, ib ≤ j → j < y.size → K x ia ≤ K y j) : ML x y (out.push x[ia]) (ia + 1) ib := by
  rw [push_ext hi]
  exact m.takeX (by omega) (fun i j h1 h2 _ h3 h4 => by have : i = ia := by omega
                                                        subst this; exact h j h3 h4)
theorem ML.pushY {x y out : Array Keyed} {ia ib : Nat} (m : ML x y out ia ib) (hi : ib < y.size) (h : ∀ j, ia ≤ j → j < x.size → K y ib ≤ K x j) : ML x y (out.push y[ib]) ia (ib + 1) := by
  rw [push_ext hi]
  exact m.takeY (by omega) (fun i j h1 h2 _ h3 h4 => by have : i = ib := by omega
                                                        subst this; exact h j h3 h4)
noncomputable def Good (x y z : Array Keyed) : Prop := z.Perm (x ++ y) ∧ SortedTo z z.size
theorem ML.fin {x y out : Array Keyed} (m : ML x y out x.size y.size) : Good x y out := by
  unfold ML at m
  rw [List.drop_of_length_le (by simp), List.drop_of_length_le (by simp)] at m
  obtain ⟨h1, h2⟩ := m.fin
  exact ⟨Array.perm_iff_toList_perm.mpr (by rw [Array.toList_append]; exact h1), pw_sorted h2⟩
theorem ML.doneY {x y out : Array Keyed} {ia ib : Nat} (m : ML x y out ia ib) (e : ib = y.size) (hx : ia ≤ x.size) : Good x y (out ++ x.extract ia x.size ++ y.extract ib y.size) := by
  subst e
  exact ((m.takeX hx (fun i j _ _ _ h1 h2 => by omega)).takeY (Nat.le_refl _) (fun i j h1 h2 => by omega)).fin
theorem ML.doneX {x y out : Array Keyed} {ia ib : Nat} (m : ML x y out ia ib) (e : ia = x.size) (hy : ib ≤ y.size) : Good x y (out ++ x.extract ia x.size ++ y.extract ib y.size) := by
  subst e
  exact ((m.takeX (Nat.le_refl _) (fun i j h1 h2 => by omega)).takeY hy (fun i j _ _ _ h1 h2 => by omega)).fin
theorem ML.lastX {x y out : Array Keyed} {ia ib : Nat} (m : ML x y out ia ib) (hi : ia + 1 = x.size) (hy : ib ≤ y.size) (h : ∀ i, i < y.size → K y i ≤ K x (x.size - 1)) : Good x y (out ++ y.extract ib y.size ++ x.extract ia x.size) := by
  refine ((m.takeY hy (fun i j _ _ h1 h2 h3 => ?_)).takeX (by omega) (fun i j _ _ _ h1 h2 => by omega)).fin
  have : j = x.size - 1 := by omega
  rw [this]; exact h i h1
noncomputable def MH (x y out : Array Keyed) (na nb : Nat) : Prop := MI geK (x.toList ++ y.toList) (x.toList.take na).reverse (y.toList.take nb).reverse out.toList
theorem take_ext {x : Array Keyed} {a b : Nat} (h : a ≤ b) (hb : b ≤ x.size) : (x.toList.take b).reverse = (x.extract a b).toList.reverse ++ (x.toList.take a).reverse := by
  rw [← List.reverse_append]
  congr 1
  rw [Array.toList_extract, List.extract_eq_take_drop]
  have : x.toList.take b = x.toList.take a ++ (x.toList.drop a).take (b - a) := by
    rw [← List.take_append_drop a (x.toList.take b), List.take_take, Nat.min_eq_left h, List.drop_take]
  exact this
theorem MH.takeX {x y out : Array Keyed} {na nb b : Nat} (m : MH x y out na nb) (hb : b ≤ na) (hx : na ≤ x.size) (h : ∀ i j, b ≤ i → i < na → i < x.size → j < nb → j < y.size → K y j ≤ K x i) : MH x y (out ++ (x.extract b na).reverse) b nb := by
  have := MI.takeR m (take_ext hb hx) (fun p hp q hq => by
    obtain ⟨i, h1, h2, h3, h4⟩ := mem_ext (List.mem_reverse.mp hp)
    obtain ⟨j, h5, h6, h7⟩ := mem_take' (List.mem_reverse.mp hq)
    show kv q ≤ kv p
    rw [h4, h7]; exact h i j h1 h2 h3 h5 h6)
  unfold MH; rw [Array.toList_append, Array.toList_reverse]; exact this
theorem MH.takeY {x y out : Array Keyed} {na nb b : Nat} (m : MH x y out na nb) (hb : b ≤ nb) (hy : nb ≤ y.size) (h : ∀ i j, b ≤ i → i < nb → i < y.size → j < na → j < x.size → K x j ≤ K y i) : MH x y (out ++ (y.extract b nb).reverse) na b := by
  have := MI.takeR (MI.swap m) (take_ext hb hy) (fun p hp q hq => by
    obtain ⟨i, h1, h2, h3, h4⟩ := mem_ext (List.mem_reverse.mp hp)
    obtain ⟨j, h5, h6, h7⟩ := mem_take' (List.mem_reverse.mp hq)
    show kv q ≤ kv p
    rw [h4, h7]; exact h i j h1 h2 h3 h5 h6)
  unfold MH; rw [Array.toList_append, Array.toList_reverse]; exact MI.swap this
theorem push_rev {x : Array Keyed} {i : Nat} (hi : i < x.size) (out : Array Keyed) : out.push x[i] = out ++ (x.extract i (i + 1)).reverse := by
  apply Array.ext'
  rw [Array.toList_push, Array.toList_append, Array.toList_reverse, Array.toList_extract, List.extract_eq_take_drop, show i + 1 - i = 1 by omega]
  rw [List.drop_eq_getElem_cons (by simpa using hi)]
  simp
theorem MH.pushX {x y out : Array Keyed} {na nb : Nat} (m : MH x y out (na + 1) nb) (hi : na < x.size) (h : ∀ j, j < nb → j < y.size → K y j ≤ K x na) : MH x y (out.push x[na]) na nb := by
  rw [push_rev hi]
  exact m.takeX (by omega) (by omega) (fun i j h1 h2 _ h3 h4 => by have : i = na := by omega
                                                                   subst this; exact h j h3 h4)
theorem MH.pushY {x y out : Array Keyed} {na nb : Nat} (m : MH x y out na (nb + 1)) (hi : nb < y.size) (h : ∀ j, j < na → j < x.size → K x j ≤ K y nb) : MH x y (out.push y[nb]) na nb := by
  rw [push_rev hi]
  exact m.takeY (by omega) (by omega) (fun i j h1 h2 _ h3 h4 => by have : i = nb := by omega
                                                                   subst this; exact h j h3 h4)
theorem MH.popX {x y out : Array Keyed} {na nb : Nat} (m : MH x y out na nb) (h1 : 1 ≤ na) (hi : na - 1 < x.size) (h : ∀ j, j < nb → j < y.size → K y j ≤ K x (na - 1)) : MH x y (out.push x[na - 1]) (na - 1) nb := by
  obtain ⟨n, rfl⟩ : ∃ n, na = n + 1 := ⟨na - 1, by omega⟩
  exact m.pushX hi h
theorem MH.popY {x y out : Array Keyed} {na nb : Nat} (m : MH x y out na nb) (h1 : 1 ≤ nb) (hi : nb - 1 < y.size) (h : ∀ j, j < na → j < x.size → K x j ≤ K y (nb - 1)) : MH x y (out.push y[nb - 1]) na (nb - 1) := by
  obtain ⟨n, rfl⟩ : ∃ n, nb = n + 1 := ⟨nb - 1, by omega⟩
  exact m.pushY hi h
theorem MH.fin {x y out : Array Keyed} (m : MH x y out 0 0) : Good x y out.reverse := by
  unfold MH at m
  simp only [List.take_zero, List.reverse_nil] at m
  obtain ⟨h1, h2⟩ := m.fin
  refine ⟨Array.perm_iff_toList_perm.mpr (by rw [Array.toList_append, Array.toList_reverse]; exact (List.reverse_perm _).trans h1), pw_sorted ?_⟩
  rw [Array.toList_reverse, List.pairwise_reverse]
  exact h2
theorem MH.doneA {x y out : Array Keyed} {na nb : Nat} (m : MH x y out na nb) (e : na = 0) (hy : nb ≤ y.size) : Good x y (x.extract 0 na ++ y.extract 0 nb ++ out.reverse) := by
  subst e
  have := ((m.takeY (Nat.zero_le _) hy (fun i j _ _ _ h1 h2 => by omega)).takeX (Nat.le_refl _) (Nat.zero_le _) (fun i j h1 h2 => by omega)).fin
  simpa [Array.reverse_append] using this
theorem MH.doneB {x y out : Array Keyed} {na nb : Nat} (m : MH x y out na nb) (e : nb = 0) (hx : na ≤ x.size) : Good x y (x.extract 0 na ++ y.extract 0 nb ++ out.reverse) := by
  subst e
  have := ((m.takeX (Nat.zero_le _) hx (fun i j _ _ _ h1 h2 => by omega)).takeY (Nat.le_refl _) (Nat.zero_le _) (fun i j h1 h2 => by omega)).fin
  simpa [Array.reverse_append] using this
theorem MH.firstB {x y out : Array Keyed} {na nb : Nat} (m : MH x y out na nb) (hnb : nb = 1) (hx : na ≤ x.size) (hy : 1 ≤ y.size) (h : ∀ i, i < x.size → K y 0 ≤ K x i) : Good x y (y.extract 0 nb ++ x.extract 0 na ++ out.reverse) := by
  subst hnb
  have := ((m.takeX (Nat.zero_le _) hx (fun i j _ _ h1 h2 h3 => by have : j = 0 := by omega
                                                                   subst this; exact h i h1)).takeY (Nat.zero_le _) hy (fun i j _ _ _ h1 h2 => by omega)).fin
  simpa [Array.reverse_append, Array.append_assoc] using this
end
-- part Sc
section
open PySem PyProof.Rows
noncomputable def Same (st st' : SortSt) : Prop := kindOf st' = kindOf st ∧ arrOf st' = arrOf st ∧ pendingOf st' = pendingOf st ∧ failedOf st' = failedOf st
theorem Same.rfl' {st : SortSt} : Same st st := ⟨rfl, rfl, rfl, rfl⟩
section
variable {prog : Program} {w : World} {A : Around} {E : Value → Shared → Prop} {s : Shared} {a₀ : Array Keyed}
theorem wpS_setG {st0 st : SortSt} {g : Nat} {Q : Unit → SortSt → Prop} {M : Model} (hS : Same st0 st) (h : ∀ st', Same st0 st' → Q ⟨⟩ st') : wpS M A E s ((sortPriv% PySem.Builtin.setMinGallop) g) Q st :=
  wpS_modify (h _ ⟨hS.1, hS.2.1, hS.2.2.1, hS.2.2.2⟩)
theorem bne_of {a b : Nat} (e : ¬ (a == b) = true) : a ≠ b := fun h => e (beq_iff_eq.mpr h)
theorem lt_ff {a b : Int} (h : ¬ decide (a < b) = true) : b ≤ a := Int.not_lt.mp fun z => h (decide_eq_true z)
theorem SortedTo.up {x : Array Keyed} {a n : Nat} (h : SortedTo x x.size) (hn : n ≤ x.size) : Up x a n := fun i j _ h1 h2 => h i j h1 (Nat.lt_of_lt_of_le h2 hn)
theorem galF {key : Keyed} {v : Int} {arr : Array Keyed} {base n hint top : Nat} {st : SortSt} {Q : Option Nat → SortSt → Prop}
    (hk : kindOf st = oneType') (hkey : IsI key) (hv : kv key = v) (hA : IntKeys arr) (hb : base + n = top) (ht : top ≤ arr.size) (hh : hint < n)
    (hs : Up arr base top)
    (h : ∀ k, k ≤ n → (∀ i, base ≤ i → i < base + k → K arr i ≤ v) → (∀ i, base + k ≤ i → i < top → v < K arr i) → Q (some k) st) :
    wpS (model prog w) A E s (galP false key arr base n hint) Q st := by
  subst hb hv
  refine gal_spec hk hkey hA ht hh hs fun k h1 h2 h3 => h k h1 (fun i h4 h5 => ?_) fun i h4 h5 => ?_
  · obtain ⟨d, rfl⟩ := Nat.exists_eq_add_of_le h4
    simpa [bq] using h2 d (Nat.lt_of_add_lt_add_left h5)
  · obtain ⟨d, rfl⟩ := Nat.exists_eq_add_of_le (Nat.le_trans (Nat.le_add_right _ _) h4)
    simpa [bq] using h3 d (Nat.le_of_add_le_add_left h4) (Nat.lt_of_add_lt_add_left h5)
theorem galT {key : Keyed} {v : Int} {arr : Array Keyed} {base n hint top : Nat} {st : SortSt} {Q : Option Nat → SortSt → Prop}
    (hk : kindOf st = oneType') (hkey : IsI key) (hv : kv key = v) (hA : IntKeys arr) (hb : base + n = top) (ht : top ≤ arr.size) (hh : hint < n)
    (hs : Up arr base top)
    (h : ∀ k, k ≤ n → (∀ i, base ≤ i → i < base + k → K arr i < v) → (∀ i, base + k ≤ i → i < top → v ≤ K arr i) → Q (some k) st) :
    wpS (model prog w) A E s (galP true key arr base n hint) Q st := by
  subst hb hv
  refine gal_spec hk hkey hA ht hh hs fun k h1 h2 h3 => h k h1 (fun i h4 h5 => ?_) fun i h4 h5 => ?_
  · obtain ⟨d, rfl⟩ := Nat.exists_eq_add_of_le h4
    simpa [bq] using h2 d (Nat.lt_of_add_lt_add_left h5)
  · obtain ⟨d, rfl⟩ := Nat.exists_eq_add_of_le (Nat.le_trans (Nat.le_add_right _ _) h4)
    simpa [bq] using h3 d (Nat.le_of_add_le_add_left h4) (Nat.lt_of_add_lt_add_left h5)
end
structure LI (x y : Array Keyed) (n : Nat) (out : Array Keyed) (ia ib : Nat) : Prop where
  m : ML x y out ia ib
  a : ia + 1 < x.size
  b : ib < y.size
  p : n ≤ ia + ib
section
variable {x y out : Array Keyed} {n ia ib k : Nat}
theorem LI.a' (l : LI x y n out ia ib) : ia < x.size := Nat.lt_of_succ_lt l.a
theorem LI.le {n' : Nat} (l : LI x y n out ia ib) (h : n' ≤ n) : LI x y n' out ia ib := ⟨l.m, l.a, l.b, Nat.le_trans h l.p⟩
theorem LI.no (l : LI x y n out ia ib) (h : x.size + y.size ≤ n) : False :=
  Nat.lt_irrefl _ (Nat.lt_of_le_of_lt (Nat.le_trans h l.p) (Nat.add_lt_add l.a' l.b))
theorem LI.py (l : LI x y n out ia ib) (h : ∀ j, ia ≤ j → j < x.size → K y ib ≤ K x j) (e : ¬ (ib + 1 == y.size) = true) : LI x y (n + 1) (out.push (y[ib]'l.b)) ia (ib + 1) :=
  ⟨l.m.pushY l.b h, l.a, Nat.lt_of_le_of_ne l.b (bne_of e), Nat.succ_le_succ l.p⟩
theorem LI.yd (l : LI x y n out ia ib) (h : ∀ j, ia ≤ j → j < x.size → K y ib ≤ K x j) (e : (ib + 1 == y.size) = true) : Good x y (out.push (y[ib]'l.b) ++ x.extract ia x.size ++ y.extract (ib + 1) y.size) :=
  (l.m.pushY l.b h).doneY (eq_of_beq e) (Nat.le_of_lt l.a')
theorem LI.px (l : LI x y n out ia ib) (h : ∀ j, ib ≤ j → j < y.size → K x ia ≤ K y j) (e : ¬ (ia + 1 + 1 == x.size) = true) : LI x y (n + 1) (out.push (x[ia]'l.a')) (ia + 1) ib :=
  ⟨l.m.pushX l.a' h, Nat.lt_of_le_of_ne l.a (bne_of e), l.b, by rw [Nat.succ_add]; exact Nat.succ_le_succ l.p⟩
theorem LI.xd (l : LI x y n out ia ib) (h : ∀ j, ib ≤ j → j < y.size → K x ia ≤ K y j) (h2 : ∀ i, i < y.size → K y i ≤ K x (x.size - 1)) (e : (ia + 1 + 1 == x.size) = true) : Good x y (out.push (x[ia]'l.a') ++ y.extract ib y.size ++ x.extract (ia + 1) x.size) :=
  (l.m.pushX l.a' h).lastX (eq_of_beq e) (Nat.le_of_lt l.b) h2
theorem LI.tm (l : LI x y n out ia ib) (sy : SortedTo y y.size) (h : ∀ i, ia ≤ i → i < ia + k → K x i ≤ K y ib) : ML x y (out ++ x.extract ia (ia + k)) (ia + k) ib :=
  l.m.takeX (Nat.le_add_right _ _) fun i j h3 h4 _ h5 h6 => Int.le_trans (h i h3 h4) (sy ib j h5 h6)
theorem LI.tx (l : LI x y n out ia ib) (sy : SortedTo y y.size) (h : ∀ i, ia ≤ i → i < ia + k → K x i ≤ K y ib) (hk : k ≤ x.size - ia) (e : ¬ (ia + k + 1 == x.size) = true) (e2 : ¬ (ia + k == x.size) = true) : LI x y n (out ++ x.extract ia (ia + k)) (ia + k) ib :=
  ⟨l.tm sy h, Nat.lt_of_le_of_ne (Nat.lt_of_le_of_ne (Nat.add_comm k ia ▸ Nat.add_le_of_le_sub (Nat.le_of_lt l.a') hk) (bne_of e2)) (bne_of e), l.b, Nat.le_trans l.p (Nat.add_le_add_right (Nat.le_add_right _ _) _)⟩
theorem LI.um (l : LI x y n out ia ib) (sx : SortedTo x x.size) (h : ∀ i, ib ≤ i → i < ib + k → K y i < K x ia) : ML x y (out ++ y.extract ib (ib + k)) ia (ib + k) :=
  l.m.takeY (Nat.le_add_right _ _) fun i j h3 h4 _ h5 h6 => Int.le_trans (Int.le_of_lt (h i h3 h4)) (sx ia j h5 h6)
theorem LI.ty (l : LI x y n out ia ib) (sx : SortedTo x x.size) (h : ∀ i, ib ≤ i → i < ib + k → K y i < K x ia) (hk : k ≤ y.size - ib) (e : ¬ (ib + k == y.size) = true) : LI x y n (out ++ y.extract ib (ib + k)) ia (ib + k) :=
  ⟨l.um sx h, l.a, Nat.lt_of_le_of_ne (Nat.add_comm k ib ▸ Nat.add_le_of_le_sub (Nat.le_of_lt l.b) hk) (bne_of e), Nat.le_trans l.p (Nat.add_le_add_left (Nat.le_add_right _ _) _)⟩
end
theorem k0 {k a : Nat} (h : ¬ k > 0) : a + k = a := by rw [Nat.eq_zero_of_not_pos h]; rfl
section
variable {prog : Program} {w : World} {A : Around} {E : Value → Shared → Prop} {s : Shared} {a₀ : Array Keyed}
noncomputable def mloP : Array Keyed → Array Keyed → StateT SortSt Sem (Array Keyed) := sortPriv% PySem.Builtin.mergeLo
theorem mlo_spec {x y : Array Keyed} {st : SortSt} {Q : Array Keyed → SortSt → Prop} (hk : kindOf st = oneType') (hx : IntKeys x) (hy : IntKeys y) (sx : SortedTo x x.size) (sy : SortedTo y y.size) (nx : 0 < x.size) (ny : 0 < y.size)
    (h1 : K y 0 ≤ K x 0) (h2 : ∀ i, i < y.size → K y i ≤ K x (x.size - 1))
    (h : ∀ z st', Same st st' → Good x y z → Q z st') :
    wpS (model prog w) A E s (mloP x y) Q st := by
  refine wpS_bind ?_
  refine wpS_lift (wpAny_rule ⟨rfl, ?_⟩)
  refine wpS_bind (elem_spec ny ?_)
  have m0 : ML x y #[y[0]] 0 1 := by
    have : ML x y #[] 0 0 := ⟨by simp, .nil, List.forall_mem_nil _, List.forall_mem_nil _, sorted_pw sx, sorted_pw sy⟩
    exact this.pushY ny (fun j _ hj => Int.le_trans h1 (sx 0 j (Nat.zero_le _) hj))
  refine wpS_ite (fun e => wpS_pure (h _ _ .rfl' (m0.doneY (eq_of_beq e) (Nat.zero_le _)))) (fun e1 => ?_)
  refine wpS_ite (fun e => wpS_pure (h _ _ .rfl' (m0.lastX (eq_of_beq e) ny h2))) (fun e2 => ?_)
  refine wpS_bind (wpS_get ?_)
  have l0 : LI x y (0 + 1) #[y[0]] 0 1 := ⟨m0, Nat.lt_of_le_of_ne nx (bne_of e2), Nat.lt_of_le_of_ne ny (bne_of e1), Nat.le_refl _⟩
  clear m0 e1 e2 h1
  refine wpS_bind (wpS_mono (wpS_forRange (I := fun t c st' => Same st st' ∧ ∃ out ia ib g, c = (none, out, ia, ib, g) ∧ LI x y (t + 1) out ia ib)
    (Q := fun c st' => Same st st' ∧ ∃ z r, c = (some z, r) ∧ Good x y z) ?step ?fin ⟨.rfl', _, _, _, _, rfl, l0⟩) ?post)
  case post =>
    rintro c st' ⟨hS, z, r, rfl, hz⟩
    exact wpS_pure (h z st' hS hz)
  case fin =>
    rintro c st' ⟨hS, out, ia, ib, g, rfl, l⟩
    exact (l.no (Nat.le_trans (Nat.le_max_right _ _) (Nat.le_succ _))).elim
  case step =>
    clear l0
    rintro t c st' _ _ ⟨hS, out0, ia0, ib0, g, rfl, l0⟩
    refine wpS_bind (wpS_mono (wpS_forRange (I := fun j c st' => Same st st' ∧ ∃ out ia ib ac bc, c = (none, out, ia, ib, ac, bc) ∧ LI x y (t + 1 + j) out ia ib)
      (Q := fun c st' => Same st st' ∧ ((∃ z r, c = (some z, r) ∧ Good x y z) ∨ ∃ out ia ib ac bc, c = (none, out, ia, ib, ac, bc) ∧ LI x y (t + 1 + 1) out ia ib)) ?s1 ?f1 ⟨hS, _, _, _, _, _, rfl, l0⟩) ?p1)
    case f1 =>
      rintro c st' ⟨hS, out, ia, ib, ac, bc, rfl, l⟩
      exact (l.no (Nat.le_trans (Nat.le_max_right _ _) (Nat.le_add_left _ _))).elim
    case s1 =>
      clear hS l0
      rintro j c st' _ _ ⟨hS, out, ia, ib, ac, bc, rfl, l⟩
      dsimp only
      refine wpS_bind (elem_spec l.b ?_)
      refine wpS_bind (elem_spec l.a' ?_)
      refine wpS_bind (lt_spec (hS.1.trans hk) (isI_at hy l.b) (isI_at hx l.a') ?_)
      rw [kv_at, kv_at]
      refine wpS_ite (fun e => ?_) (fun e => ?_)
      · have e : ∀ j, ia ≤ j → j < x.size → K y ib ≤ K x j := fun j h3 h4 => Int.le_trans (Int.le_of_lt (of_decide_eq_true e)) (sx ia j h3 h4)
        refine wpS_bind (elem_spec l.b ?_)
        exact wpS_ite (fun e3 => wpS_pure ⟨hS, .inl ⟨_, _, rfl, l.yd e e3⟩⟩) (fun e3 => wpS_ite (fun _ => wpS_pure ⟨hS, .inr ⟨_, _, _, _, _, rfl, (l.py e e3).le (Nat.succ_le_succ (Nat.le_add_right _ _))⟩⟩) (fun _ => wpS_pure ⟨hS, _, _, _, _, _, rfl, l.py e e3⟩))
      · have e : ∀ j, ib ≤ j → j < y.size → K x ia ≤ K y j := fun j h3 h4 => Int.le_trans (lt_ff e) (sy ib j h3 h4)
        refine wpS_bind (elem_spec l.a' ?_)
        exact wpS_ite (fun e3 => wpS_pure ⟨hS, .inl ⟨_, _, rfl, l.xd e h2 e3⟩⟩) (fun e3 => wpS_ite (fun _ => wpS_pure ⟨hS, .inr ⟨_, _, _, _, _, rfl, (l.px e e3).le (Nat.succ_le_succ (Nat.le_add_right _ _))⟩⟩) (fun _ => wpS_pure ⟨hS, _, _, _, _, _, rfl, l.px e e3⟩))
    case p1 =>
      clear l0 hS
      rintro c st' ⟨hS, ⟨z, r, rfl, hz⟩ | ⟨out1, ia1, ib1, ac, bc, rfl, l1⟩⟩
      · exact wpS_pure ⟨hS, _, _, rfl, hz⟩
      refine wpS_bind (wpS_lift (wpAny_rule ⟨rfl, ?_⟩))
      refine wpS_bind (wpS_mono (wpS_forRange (I := fun j c st' => Same st st' ∧ ∃ out ia ib g ac bc, c = (none, out, ia, ib, g, ac, bc) ∧ LI x y (t + 1 + 1 + j) out ia ib)
        (Q := fun c st' => Same st st' ∧ ((∃ z r, c = (some z, r) ∧ Good x y z) ∨ ∃ out ia ib g ac bc, c = (none, out, ia, ib, g, ac, bc) ∧ LI x y (t + 1 + 1) out ia ib)) ?s2 ?f2 ⟨hS, _, _, _, _, _, _, rfl, l1⟩) ?p2)
      case f2 =>
        rintro c st' ⟨hS, out, ia, ib, g, ac, bc, rfl, l⟩
        exact (l.no (Nat.le_trans (Nat.le_max_right _ _) (Nat.le_add_left _ _))).elim
      case p2 =>
        clear l1 hS
        rintro c st' ⟨hS, ⟨z, r, rfl, hz⟩ | ⟨out1, ia1, ib1, g, ac, bc, rfl, l⟩⟩
        · exact wpS_pure ⟨hS, _, _, rfl, hz⟩
        exact wpS_bind (wpS_modify (wpS_pure ⟨⟨hS.1, hS.2.1, hS.2.2.1, hS.2.2.2⟩, _, _, _, _, rfl, l⟩))
      case s2 =>
        clear l1 hS
        rintro j c st' _ _ ⟨hS, out, ia, ib, g, ac, bc, rfl, l⟩
        extract_lets -underBinder a1 a2 a3 a4 a5 a6 a7 a8 a9 a10 a11 jp
        refine wpS_jp1 (jp := jp ()) (fun mg => ?_) (fun hj => wpS_ite (fun _ => hj _) (fun _ => hj _))
        dsimp -zeta only [jp, a1, a2, a3, a4, a5, a6, a7, a8, a9, a10, a11]
        clear jp
        refine wpS_bind (wpS_setG hS fun st9 hS9 => ?_)
        clear hS
        refine wpS_bind (elem_spec l.b ?_)
        refine wpS_bind (galF (hS9.1.trans hk) (isI_at hy l.b) (kv_at l.b) hx (Nat.add_sub_cancel' (Nat.le_of_lt l.a')) (Nat.le_refl _) (Nat.sub_pos_of_lt l.a') (SortedTo.up sx (Nat.le_refl _)) (fun k hk1 q1 q2 => ?_))
        dsimp -zeta only
        extract_lets -underBinder ac' jp o1 i1
        refine wpS_jp2 (jp := jp ()) (fun out ia => LI x y (t + 1 + 1 + j) out ia ib ∧ ∀ i, ia ≤ i → i < x.size → K y ib ≤ K x i) (fun out ia hl => ?_) (fun hj => wpS_ite (fun e =>
          wpS_ite (fun e3 => wpS_pure ⟨hS9, .inl ⟨_, _, rfl, (l.tm sy q1).lastX (eq_of_beq e3) (Nat.le_of_lt l.b) h2⟩⟩) (fun e3 =>
          wpS_ite (fun e4 => wpS_pure ⟨hS9, .inl ⟨_, _, rfl, (l.tm sy q1).doneX (eq_of_beq e4) (Nat.le_of_lt l.b)⟩⟩) (fun e4 => hj _ _ ⟨l.tx sy q1 hk1 e3 e4, fun i h3 h4 => Int.le_of_lt (q2 i h3 h4)⟩))) (fun e => hj _ _ ⟨l, fun i h3 h4 => Int.le_of_lt (q2 i ((k0 e).symm ▸ h3) h4)⟩))
        dsimp -zeta only [jp, ac']
        clear jp o1 i1 q1 q2 l
        obtain ⟨l, q⟩ := hl
        refine wpS_bind (elem_spec l.b ?_)
        refine wpS_ite (fun e3 => wpS_pure ⟨hS9, .inl ⟨_, _, rfl, l.yd q e3⟩⟩) (fun e3 => ?_)
        replace l := (l.py q e3).le (Nat.le_succ _)
        refine wpS_bind (elem_spec l.a' ?_)
        refine wpS_bind (galT (hS9.1.trans hk) (isI_at hx l.a') (kv_at l.a') hy (Nat.add_sub_cancel' (Nat.le_of_lt l.b)) (Nat.le_refl _) (Nat.sub_pos_of_lt l.b) (SortedTo.up sy (Nat.le_refl _)) (fun k2 hk1 q1 q2 => ?_))
        dsimp -zeta only
        extract_lets -underBinder bc' jp o1 i1
        refine wpS_jp2 (jp := jp ()) (fun out ib => LI x y (t + 1 + 1 + j) out ia ib ∧ ∀ i, ib ≤ i → i < y.size → K x ia ≤ K y i) (fun out ib hl => ?_) (fun hj => wpS_ite (fun e =>
          wpS_ite (fun e4 => wpS_pure ⟨hS9, .inl ⟨_, _, rfl, (l.um sx q1).doneY (eq_of_beq e4) (Nat.le_of_lt l.a')⟩⟩) (fun e4 => hj _ _ ⟨l.ty sx q1 hk1 e4, q2⟩)) (fun e => hj _ _ ⟨l, fun i h3 h4 => q2 i ((k0 e).symm ▸ h3) h4⟩))
        dsimp -zeta only [jp]
        clear jp o1 i1 q1 q2 l
        obtain ⟨l, q⟩ := hl
        refine wpS_bind (elem_spec l.a' ?_)
        refine wpS_ite (fun e3 => wpS_pure ⟨hS9, .inl ⟨_, _, rfl, l.xd q h2 e3⟩⟩) (fun e3 => ?_)
        replace l := l.px q e3
        exact wpS_ite (fun _ => wpS_pure ⟨hS9, .inr ⟨_, _, _, _, _, _, rfl, l.le (Nat.le_trans (Nat.le_add_right _ _) (Nat.le_succ _))⟩⟩) (fun _ => wpS_pure ⟨hS9, _, _, _, _, _, _, rfl, l⟩)
theorem galF0 {key : Keyed} {v : Int} {arr : Array Keyed} {n hint : Nat} {st : SortSt} {Q : Option Nat → SortSt → Prop}
    (hk : kindOf st = oneType') (hkey : IsI key) (hv : kv key = v) (hA : IntKeys arr) (ht : n ≤ arr.size) (hh : hint < n)
    (hs : Up arr 0 n)
    (h : ∀ k, k ≤ n → (∀ i, i < k → K arr i ≤ v) → (∀ i, k ≤ i → i < n → v < K arr i) → Q (some k) st) :
    wpS (model prog w) A E s (galP false key arr 0 n hint) Q st :=
  galF hk hkey hv hA (Nat.zero_add _) ht hh hs fun k h1 h2 h3 => h k h1 (fun i h4 => h2 i (Nat.zero_le _) ((Nat.zero_add k).symm ▸ h4)) fun i h4 h5 => h3 i ((Nat.zero_add k).symm ▸ h4) h5
theorem galT0 {key : Keyed} {v : Int} {arr : Array Keyed} {n hint : Nat} {st : SortSt} {Q : Option Nat → SortSt → Prop}
    (hk : kindOf st = oneType') (hkey : IsI key) (hv : kv key = v) (hA : IntKeys arr) (ht : n ≤ arr.size) (hh : hint < n)
    (hs : Up arr 0 n)
    (h : ∀ k, k ≤ n → (∀ i, i < k → K arr i < v) → (∀ i, k ≤ i → i < n → v ≤ K arr i) → Q (some k) st) :
    wpS (model prog w) A E s (galP true key arr 0 n hint) Q st :=
  galT hk hkey hv hA (Nat.zero_add _) ht hh hs fun k h1 h2 h3 => h k h1 (fun i h4 => h2 i (Nat.zero_le _) ((Nat.zero_add k).symm ▸ h4)) fun i h4 h5 => h3 i ((Nat.zero_add k).symm ▸ h4) h5
end
structure HI (x y : Array Keyed) (n : Nat) (out : Array Keyed) (na nb : Nat) : Prop where
  m : MH x y out na nb
  a1 : 1 ≤ na
  a2 : na < x.size
  b1 : 2 ≤ nb
  b2 : nb ≤ y.size
  p : na + nb + n ≤ x.size + y.size
section
variable {x y out : Array Keyed} {n na nb k : Nat}
theorem pred_lt {a b : Nat} (h : 1 ≤ a) (h2 : a ≤ b) : a - 1 < b := Nat.lt_of_lt_of_le (Nat.sub_lt h Nat.one_pos) h2
theorem HI.ia (l : HI x y n out na nb) : na - 1 < x.size := pred_lt l.a1 (Nat.le_of_lt l.a2)
theorem HI.ib (l : HI x y n out na nb) : nb - 1 < y.size := pred_lt (Nat.le_of_lt l.b1) l.b2
theorem HI.le {n' : Nat} (l : HI x y n out na nb) (h : n' ≤ n) : HI x y n' out na nb := ⟨l.m, l.a1, l.a2, l.b1, l.b2, Nat.le_trans (Nat.add_le_add_left h _) l.p⟩
theorem HI.no (l : HI x y n out na nb) (h : x.size + y.size ≤ n) : False :=
  Nat.lt_irrefl _ (Nat.lt_of_lt_of_le (Nat.lt_of_le_of_lt h (Nat.lt_add_of_pos_left (Nat.add_pos_left l.a1 _))) l.p)
theorem HI.pa (l : HI x y n out na nb) (h : ∀ j, j < nb → K y j ≤ K x (na - 1)) (e : ¬ (na - 1 == 0) = true) : HI x y (n + 1) (out.push (x[na - 1]'l.ia)) (na - 1) nb :=
  ⟨l.m.popX l.a1 l.ia fun j h1 _ => h j h1, Nat.pos_of_ne_zero (bne_of e), l.ia, l.b1, l.b2, by have := l.p; have := l.a1; omega⟩
theorem HI.pad (l : HI x y n out na nb) (h : ∀ j, j < nb → K y j ≤ K x (na - 1)) (e : (na - 1 == 0) = true) : Good x y (x.extract 0 (na - 1) ++ y.extract 0 nb ++ (out.push (x[na - 1]'l.ia)).reverse) :=
  (l.m.popX l.a1 l.ia fun j h1 _ => h j h1).doneA (eq_of_beq e) l.b2
theorem HI.pb (l : HI x y n out na nb) (h : ∀ j, j < na → K x j ≤ K y (nb - 1)) (e : ¬ (nb - 1 == 1) = true) : HI x y (n + 1) (out.push (y[nb - 1]'l.ib)) na (nb - 1) :=
  have e := bne_of e
  have b1 := l.b1
  ⟨l.m.popY (Nat.le_of_lt b1) l.ib fun j h1 _ => h j h1, l.a1, l.a2, by omega, Nat.le_of_lt l.ib, by have := l.p; omega⟩
theorem HI.pbd (l : HI x y n out na nb) (h : ∀ j, j < na → K x j ≤ K y (nb - 1)) (h1 : ∀ i, i < x.size → K y 0 ≤ K x i) (e : (nb - 1 == 1) = true) : Good x y (y.extract 0 (nb - 1) ++ x.extract 0 na ++ (out.push (y[nb - 1]'l.ib)).reverse) :=
  (l.m.popY (Nat.le_of_lt l.b1) l.ib fun j h1 _ => h j h1).firstB (eq_of_beq e) (Nat.le_of_lt l.a2) (Nat.le_trans (Nat.le_of_lt l.b1) l.b2) h1
theorem HI.tm (l : HI x y n out na nb) (sy : SortedTo y y.size) (hk : k ≤ na) (h : ∀ i, k ≤ i → i < na → K y (nb - 1) < K x i) : MH x y (out ++ (x.extract k na).reverse) k nb :=
  l.m.takeX hk (Nat.le_of_lt l.a2) fun i j h3 h4 _ h5 h6 => Int.le_trans (sy j (nb - 1) (Nat.le_sub_one_of_lt h5) l.ib) (Int.le_of_lt (h i h3 h4))
theorem HI.ta (l : HI x y n out na nb) (sy : SortedTo y y.size) (hk : k ≤ na) (h : ∀ i, k ≤ i → i < na → K y (nb - 1) < K x i) (e : ¬ (k == 0) = true) : HI x y n (out ++ (x.extract k na).reverse) k nb :=
  ⟨l.tm sy hk h, Nat.pos_of_ne_zero (bne_of e), Nat.lt_of_le_of_lt hk l.a2, l.b1, l.b2, Nat.le_trans (Nat.add_le_add_right (Nat.add_le_add_right hk _) _) l.p⟩
theorem HI.um (l : HI x y n out na nb) (sx : SortedTo x x.size) (hk : k ≤ nb) (h : ∀ i, k ≤ i → i < nb → K x (na - 1) ≤ K y i) : MH x y (out ++ (y.extract k nb).reverse) na k :=
  l.m.takeY hk l.b2 fun i j h3 h4 _ h5 h6 => Int.le_trans (sx j (na - 1) (Nat.le_sub_one_of_lt h5) l.ia) (h i h3 h4)
theorem HI.tb (l : HI x y n out na nb) (sx : SortedTo x x.size) (hk : k ≤ nb) (h : ∀ i, k ≤ i → i < nb → K x (na - 1) ≤ K y i) (e : ¬ (k == 1) = true) (e2 : ¬ (k == 0) = true) : HI x y n (out ++ (y.extract k nb).reverse) na k :=
  ⟨l.um sx hk h, l.a1, l.a2, by have := bne_of e; have := bne_of e2; omega, Nat.le_trans hk l.b2, Nat.le_trans (Nat.add_le_add_right (Nat.add_le_add_left hk _) _) l.p⟩
theorem nsub {a b : Nat} (e : ¬ a - b > 0) : a ≤ b := Nat.le_of_sub_eq_zero (Nat.eq_zero_of_not_pos e)
end
section
variable {prog : Program} {w : World} {A : Around} {E : Value → Shared → Prop} {s : Shared} {a₀ : Array Keyed}
noncomputable def mhiP : Array Keyed → Array Keyed → StateT SortSt Sem (Array Keyed) := sortPriv% PySem.Builtin.mergeHi
theorem mhi_spec {x y : Array Keyed} {st : SortSt} {Q : Array Keyed → SortSt → Prop} (hk : kindOf st = oneType') (hx : IntKeys x) (hy : IntKeys y) (sx : SortedTo x x.size) (sy : SortedTo y y.size) (nx : 0 < x.size) (ny : 0 < y.size)
    (h1 : ∀ i, i < x.size → K y 0 ≤ K x i) (h2 : ∀ i, i < y.size → K y i ≤ K x (x.size - 1))
    (h : ∀ z st', Same st st' → Good x y z → Q z st') :
    wpS (model prog w) A E s (mhiP x y) Q st := by
  refine wpS_bind ?_
  refine wpS_lift (wpAny_rule ⟨rfl, ?_⟩)
  have nx1 := pred_lt nx (Nat.le_refl _)
  refine wpS_bind (elem_spec nx1 ?_)
  have m0 : MH x y #[x[x.size - 1]] (x.size - 1) y.size := by
    have : MH x y #[] x.size y.size := by
      unfold MH
      rw [List.take_of_length_le (by simp), List.take_of_length_le (by simp)]
      refine ⟨?_, .nil, List.forall_mem_nil _, List.forall_mem_nil _, List.pairwise_reverse.mpr (sorted_pw sx), List.pairwise_reverse.mpr (sorted_pw sy)⟩
      exact (List.reverse_perm _).append (List.reverse_perm _)
    exact this.popX nx nx1 (fun j _ hj => h2 j hj)
  refine wpS_ite (fun e => wpS_pure (h _ _ .rfl' (m0.doneA (eq_of_beq e) (Nat.le_refl _)))) (fun e1 => ?_)
  refine wpS_ite (fun e => wpS_pure (h _ _ .rfl' (m0.firstB (eq_of_beq e) (Nat.sub_le _ _) ny h1))) (fun e2 => ?_)
  refine wpS_bind (wpS_get ?_)
  have l0 : HI x y (0 + 1) #[x[x.size - 1]] (x.size - 1) y.size := ⟨m0, Nat.pos_of_ne_zero (bne_of e1), nx1, Nat.lt_of_le_of_ne ny (bne_of e2).symm, Nat.le_refl _, by omega⟩
  clear m0 e1 e2 h2
  refine wpS_bind (wpS_mono (wpS_forRange (I := fun t c st' => Same st st' ∧ ∃ na nb out g, c = (none, na, nb, out, g) ∧ HI x y (t + 1) out na nb)
    (Q := fun c st' => Same st st' ∧ ∃ z r, c = (some z, r) ∧ Good x y z) ?step ?fin ⟨.rfl', _, _, _, _, rfl, l0⟩) ?post)
  case post =>
    rintro c st' ⟨hS, z, r, rfl, hz⟩
    exact wpS_pure (h z st' hS hz)
  case fin =>
    rintro c st' ⟨hS, na, nb, out, g, rfl, l⟩
    exact (l.no (Nat.le_trans (Nat.le_max_right _ _) (Nat.le_succ _))).elim
  case step =>
    clear l0
    rintro t c st' _ _ ⟨hS, na0, nb0, out0, g, rfl, l0⟩
    refine wpS_bind (wpS_mono (wpS_forRange (I := fun j c st' => Same st st' ∧ ∃ na nb out ac bc, c = (none, na, nb, out, ac, bc) ∧ HI x y (t + 1 + j) out na nb)
      (Q := fun c st' => Same st st' ∧ ((∃ z r, c = (some z, r) ∧ Good x y z) ∨ ∃ na nb out ac bc, c = (none, na, nb, out, ac, bc) ∧ HI x y (t + 1 + 1) out na nb)) ?s1 ?f1 ⟨hS, _, _, _, _, _, rfl, l0⟩) ?p1)
    case f1 =>
      rintro c st' ⟨hS, na, nb, out, ac, bc, rfl, l⟩
      exact (l.no (Nat.le_trans (Nat.le_max_right _ _) (Nat.le_add_left _ _))).elim
    case s1 =>
      clear hS l0
      rintro j c st' _ _ ⟨hS, na, nb, out, ac, bc, rfl, l⟩
      dsimp only
      refine wpS_bind (elem_spec l.ib ?_)
      refine wpS_bind (elem_spec l.ia ?_)
      refine wpS_bind (lt_spec (hS.1.trans hk) (isI_at hy l.ib) (isI_at hx l.ia) ?_)
      rw [kv_at, kv_at]
      refine wpS_ite (fun e => ?_) (fun e => ?_)
      · have e : ∀ j, j < nb → K y j ≤ K x (na - 1) := fun j h3 => Int.le_trans (sy j (nb - 1) (Nat.le_sub_one_of_lt h3) l.ib) (Int.le_of_lt (of_decide_eq_true e))
        refine wpS_bind (elem_spec l.ia ?_)
        exact wpS_ite (fun e3 => wpS_pure ⟨hS, .inl ⟨_, _, rfl, l.pad e e3⟩⟩) (fun e3 => wpS_ite (fun _ => wpS_pure ⟨hS, .inr ⟨_, _, _, _, _, rfl, (l.pa e e3).le (Nat.succ_le_succ (Nat.le_add_right _ _))⟩⟩) (fun _ => wpS_pure ⟨hS, _, _, _, _, _, rfl, l.pa e e3⟩))
      · have e : ∀ j, j < na → K x j ≤ K y (nb - 1) := fun j h3 => Int.le_trans (sx j (na - 1) (Nat.le_sub_one_of_lt h3) l.ia) (lt_ff e)
        refine wpS_bind (elem_spec l.ib ?_)
        exact wpS_ite (fun e3 => wpS_pure ⟨hS, .inl ⟨_, _, rfl, l.pbd e h1 e3⟩⟩) (fun e3 => wpS_ite (fun _ => wpS_pure ⟨hS, .inr ⟨_, _, _, _, _, rfl, (l.pb e e3).le (Nat.succ_le_succ (Nat.le_add_right _ _))⟩⟩) (fun _ => wpS_pure ⟨hS, _, _, _, _, _, rfl, l.pb e e3⟩))
    case p1 =>
      clear l0 hS
      rintro c st' ⟨hS, ⟨z, r, rfl, hz⟩ | ⟨na1, nb1, out1, ac, bc, rfl, l1⟩⟩
      · exact wpS_pure ⟨hS, _, _, rfl, hz⟩
      refine wpS_bind (wpS_lift (wpAny_rule ⟨rfl, ?_⟩))
      refine wpS_bind (wpS_mono (wpS_forRange (I := fun j c st' => Same st st' ∧ ∃ na nb out g ac bc, c = (none, na, nb, out, g, ac, bc) ∧ HI x y (t + 1 + 1 + j) out na nb)
        (Q := fun c st' => Same st st' ∧ ((∃ z r, c = (some z, r) ∧ Good x y z) ∨ ∃ na nb out g ac bc, c = (none, na, nb, out, g, ac, bc) ∧ HI x y (t + 1 + 1) out na nb)) ?s2 ?f2 ⟨hS, _, _, _, _, _, _, rfl, l1⟩) ?p2)
      case f2 =>
        rintro c st' ⟨hS, na, nb, out, g, ac, bc, rfl, l⟩
        exact (l.no (Nat.le_trans (Nat.le_max_right _ _) (Nat.le_add_left _ _))).elim
      case p2 =>
        clear l1 hS
        rintro c st' ⟨hS, ⟨z, r, rfl, hz⟩ | ⟨na1, nb1, out1, g, ac, bc, rfl, l⟩⟩
        · exact wpS_pure ⟨hS, _, _, rfl, hz⟩
        exact wpS_bind (wpS_modify (wpS_pure ⟨⟨hS.1, hS.2.1, hS.2.2.1, hS.2.2.2⟩, _, _, _, _, rfl, l⟩))
      case s2 =>
        clear l1 hS
        rintro j c st' _ _ ⟨hS, na, nb, out, g, ac, bc, rfl, l⟩
        extract_lets -underBinder a1 a2 a3 a4 a5 a6 a7 a8 a9 a10 a11 jp
        refine wpS_jp1 (jp := jp ()) (fun mg => ?_) (fun hj => wpS_ite (fun _ => hj _) (fun _ => hj _))
        dsimp -zeta only [jp, a1, a2, a3, a4, a5, a6, a7, a8, a9, a10, a11]
        clear jp
        refine wpS_bind (wpS_setG hS fun st9 hS9 => ?_)
        clear hS
        refine wpS_bind (elem_spec l.ib ?_)
        refine wpS_bind (galF0 (hS9.1.trans hk) (isI_at hy l.ib) (kv_at l.ib) hx (Nat.le_of_lt l.a2) (pred_lt l.a1 (Nat.le_refl _)) (SortedTo.up sx (Nat.le_of_lt l.a2)) (fun k hk1 q1 q2 => ?_))
        dsimp -zeta only
        extract_lets -underBinder kk ac' jp o1 i1
        refine wpS_jp2 (jp := jp ()) (fun na out => HI x y (t + 1 + 1 + j) out na nb ∧ ∀ i, i < na → K x i ≤ K y (nb - 1)) (fun na out hl => ?_) (fun hj => wpS_ite (fun e =>
          wpS_ite (fun e3 => wpS_pure ⟨hS9, .inl ⟨_, _, rfl, (l.tm sy hk1 q2).doneA (eq_of_beq e3) l.b2⟩⟩) (fun e3 => hj _ _ ⟨l.ta sy hk1 q2 e3, q1⟩)) (fun e => hj _ _ ⟨l, fun i h3 => q1 i (Nat.lt_of_lt_of_le h3 (nsub e))⟩))
        dsimp -zeta only [jp]
        clear jp o1 i1 q1 q2 l
        obtain ⟨l, q⟩ := hl
        refine wpS_bind (elem_spec l.ib ?_)
        refine wpS_ite (fun e3 => wpS_pure ⟨hS9, .inl ⟨_, _, rfl, l.pbd q h1 e3⟩⟩) (fun e3 => ?_)
        replace l := (l.pb q e3).le (Nat.le_succ _)
        refine wpS_bind (elem_spec l.ia ?_)
        refine wpS_bind (galT0 (hS9.1.trans hk) (isI_at hx l.ia) (kv_at l.ia) hy l.b2 (pred_lt (Nat.le_of_lt l.b1) (Nat.le_refl _)) (SortedTo.up sy l.b2) (fun k2 hk1 q1 q2 => ?_))
        dsimp -zeta only
        extract_lets -underBinder kk2 bc' jp o1 i1
        refine wpS_jp2 (jp := jp ()) (fun nb out => HI x y (t + 1 + 1 + j) out na nb ∧ ∀ i, i < nb → K y i < K x (na - 1)) (fun nb out hl => ?_) (fun hj => wpS_ite (fun e =>
          wpS_ite (fun e4 => wpS_pure ⟨hS9, .inl ⟨_, _, rfl, (l.um sx hk1 q2).firstB (eq_of_beq e4) (Nat.le_of_lt l.a2) (Nat.le_trans (Nat.le_of_lt l.b1) l.b2) h1⟩⟩) (fun e4 =>
          wpS_ite (fun e5 => wpS_pure ⟨hS9, .inl ⟨_, _, rfl, (l.um sx hk1 q2).doneB (eq_of_beq e5) (Nat.le_of_lt l.a2)⟩⟩) (fun e5 => hj _ _ ⟨l.tb sx hk1 q2 e4 e5, q1⟩))) (fun e => hj _ _ ⟨l, fun i h3 => q1 i (Nat.lt_of_lt_of_le h3 (nsub e))⟩))
        dsimp -zeta only [jp]
        clear jp o1 i1 q1 q2 l
        obtain ⟨l, q⟩ := hl
        refine wpS_bind (elem_spec l.ia ?_)
        have q : ∀ i, i < nb → K y i ≤ K x (na - 1) := fun i hi => Int.le_of_lt (q i hi)
        refine wpS_ite (fun e3 => wpS_pure ⟨hS9, .inl ⟨_, _, rfl, l.pad q e3⟩⟩) (fun e3 => ?_)
        replace l := l.pa q e3
        exact wpS_ite (fun _ => wpS_pure ⟨hS9, .inr ⟨_, _, _, _, _, _, rfl, l.le (Nat.le_trans (Nat.le_add_right _ _) (Nat.le_succ _))⟩⟩) (fun _ => wpS_pure ⟨hS9, _, _, _, _, _, _, rfl, l⟩)
end
end
-- part Sd
section
open PySem PyProof.Rows
structure SP (a₀ : Array Keyed) (P : Array (Nat × Nat × Nat)) (st : SortSt) : Prop where
  perm : (arrOf st).Perm a₀
  kind : kindOf st = oneType'
  failed : failedOf st = none
  pend : pendingOf st = P
noncomputable def Sg (xs : Array Keyed) (lo n : Nat) : Prop := ∀ i j, i ≤ j → j < n → K xs (lo + i) ≤ K xs (lo + j)
noncomputable def Dn (xs : Array Keyed) (lo hi : Nat) : Prop := ∀ i j, lo ≤ i → i ≤ j → j < hi → K xs j ≤ K xs i
theorem Sg.up {xs : Array Keyed} {lo n : Nat} (h : Sg xs lo n) : Up xs lo (lo + n) := fun i j h1 h2 h3 => by
  obtain ⟨d, rfl⟩ := Nat.exists_eq_add_of_le h1
  obtain ⟨e, rfl⟩ := Nat.exists_eq_add_of_le (Nat.le_trans h1 h2)
  exact h d e (Nat.le_of_add_le_add_left h2) (Nat.lt_of_add_lt_add_left h3)
theorem Up.sg {xs : Array Keyed} {lo n : Nat} (h : Up xs lo (lo + n)) : Sg xs lo n := fun _ _ h1 h2 => h _ _ (Nat.le_add_right _ _) (Nat.add_le_add_left h1 _) (Nat.add_lt_add_left h2 _)
theorem Up.one {xs : Array Keyed} {lo : Nat} : Up xs lo (lo + 1) := fun _ _ h1 h2 h3 => by
  cases Nat.le_antisymm h2 (Nat.le_trans (Nat.le_of_lt_succ h3) h1); exact Int.le_refl _
theorem Dn.one {xs : Array Keyed} {lo : Nat} : Dn xs lo (lo + 1) := fun _ _ h1 h2 h3 => by
  cases Nat.le_antisymm h2 (Nat.le_trans (Nat.le_of_lt_succ h3) h1); exact Int.le_refl _
theorem Up.snoc {xs : Array Keyed} {lo e : Nat} (h : Up xs lo e) (he : lo < e) (hl : K xs (e - 1) ≤ K xs e) : Up xs lo (e + 1) := fun i j h1 h2 h3 => by
  rcases Nat.lt_or_eq_of_le (Nat.le_of_lt_succ h3) with h4 | rfl
  · exact h i j h1 h2 h4
  · rcases Nat.lt_or_eq_of_le h2 with h5 | rfl
    · exact Int.le_trans (h i _ h1 (Nat.le_sub_one_of_lt h5) (pred_lt (Nat.zero_lt_of_lt he) (Nat.le_refl _))) hl
    · exact Int.le_refl _
theorem Dn.snoc {xs : Array Keyed} {lo e : Nat} (h : Dn xs lo e) (he : lo < e) (hl : K xs e ≤ K xs (e - 1)) : Dn xs lo (e + 1) := fun i j h1 h2 h3 => by
  rcases Nat.lt_or_eq_of_le (Nat.le_of_lt_succ h3) with h4 | rfl
  · exact h i j h1 h2 h4
  · rcases Nat.lt_or_eq_of_le h2 with h5 | rfl
    · exact Int.le_trans hl (h i _ h1 (Nat.le_sub_one_of_lt h5) (pred_lt (Nat.zero_lt_of_lt he) (Nat.le_refl _)))
    · exact Int.le_refl _
theorem Dn.congr {xs ys : Array Keyed} {lo e : Nat} (hk : ∀ k, K ys k = K xs k) (h : Dn xs lo e) : Dn ys lo e := fun i j h1 h2 h3 => by
  rw [hk, hk]; exact h i j h1 h2 h3
theorem Dn.mirror {xs : Array Keyed} {lo hi : Nat} (hz : hi ≤ xs.size) (h : Dn xs lo hi) : Up (mirror xs lo hi ((hi - lo) / 2)) lo hi := fun i j h1 h2 h3 => by
  rw [K_mirror hz, K_mirror hz, if_pos ⟨h1, Nat.lt_of_le_of_lt h2 h3⟩, if_pos ⟨Nat.le_trans h1 h2, h3⟩]
  exact h _ _ (by omega) (by omega) (by omega)
theorem K_mirror_low {xs : Array Keyed} {lo hi i : Nat} (hz : hi ≤ xs.size) (h : i < lo) : K (mirror xs lo hi ((hi - lo) / 2)) i = K xs i := by
  rw [K_mirror hz, if_neg fun z => Nat.not_lt_of_le z.1 h]
theorem Up.adj {xs : Array Keyed} {lo hi : Nat} (h : ∀ i, lo ≤ i → i + 1 < hi → K xs i ≤ K xs (i + 1)) : Up xs lo hi := fun i j h1 h2 h3 => by
  induction j with
  | zero => cases Nat.le_zero.mp h2; exact Int.le_refl _
  | succ j ih =>
    rcases Nat.lt_or_eq_of_le h2 with h4 | rfl
    · exact Int.le_trans (ih (Nat.le_of_lt_succ h4) (Nat.lt_of_succ_lt h3)) (h j (Nat.le_trans h1 (Nat.le_of_lt_succ h4)) h3)
    · exact Int.le_refl _
theorem K_bub {xs : Array Keyed} {p q : Nat} (hq : q < xs.size) (h2 : p ≤ q) (k : Nat) : K (bubble xs q (q - p)) k = if k = p then K xs q else if p < k ∧ k ≤ q then K xs (k - 1) else K xs k := by
  rw [K_bubble hq (Nat.sub_le _ _), Nat.sub_sub_self h2]
theorem Up.bubble {xs : Array Keyed} {lo p q : Nat} (hq : q < xs.size) (h1 : lo ≤ p) (h2 : p ≤ q) (hu : Up xs lo q) (hl : ∀ i, lo ≤ i → i < p → K xs i ≤ K xs q) (hr : ∀ i, p ≤ i → i < q → K xs q < K xs i) :
    Up (bubble xs q (q - p)) lo (q + 1) := Up.adj fun i h3 h4 => by
  rw [K_bub hq h2, K_bub hq h2]
  have h4 := Nat.lt_of_succ_lt_succ h4
  by_cases c1 : i = p
  · subst c1
    rw [if_pos rfl, if_neg (Nat.succ_ne_self _), if_pos ⟨Nat.lt_succ_self _, h4⟩]
    exact Int.le_of_lt (hr _ (Nat.le_refl _) h4)
  rw [if_neg c1]
  by_cases c2 : p < i
  · obtain ⟨k, rfl⟩ : ∃ k, i = k + 1 := ⟨i - 1, (Nat.succ_pred_eq_of_pos (Nat.zero_lt_of_lt c2)).symm⟩
    rw [if_pos ⟨c2, Nat.le_of_lt h4⟩, if_neg (Nat.ne_of_gt (Nat.lt_succ_of_lt c2)), if_pos ⟨Nat.lt_succ_of_lt c2, h4⟩]
    exact hu k (k + 1) (Nat.le_trans h1 (Nat.le_of_lt_succ c2)) (Nat.le_succ _) h4
  · rw [if_neg fun z => c2 z.1]
    have c3 : i < p := Nat.lt_of_le_of_ne (Nat.le_of_not_lt c2) c1
    by_cases c4 : i + 1 = p
    · rw [if_pos c4]; exact hl i h3 c3
    · rw [if_neg c4, if_neg fun z => Nat.not_lt_of_le c3 z.1]
      exact hu i (i + 1) h3 (Nat.le_succ _) (Nat.lt_of_lt_of_le (Nat.lt_of_le_of_ne c3 c4) h2)
theorem K_bub_low {xs : Array Keyed} {lo p q i : Nat} (hq : q < xs.size) (h1 : lo ≤ p) (h2 : p ≤ q) (hi : i < lo) : K (bubble xs q (q - p)) i = K xs i := by
  have := Nat.lt_of_lt_of_le hi h1
  rw [K_bub hq h2, if_neg (Nat.ne_of_lt this), if_neg fun z => Nat.not_lt_of_le (Nat.le_of_lt this) z.1]
section
variable {prog : Program} {w : World} {A : Around} {E : Value → Shared → Prop} {s : Shared} {a₀ : Array Keyed} {P : Array (Nat × Nat × Nat)}
theorem SP.size {st : SortSt} (h : SP a₀ P st) : (arrOf st).size = a₀.size := h.perm.size_eq
theorem SP.setArr {st : SortSt} (h : SP a₀ P st) {xs : Array Keyed} (hp : xs.Perm (arrOf st)) : SP a₀ P (setArr st xs) := ⟨hp.trans h.perm, h.kind, h.failed, h.pend⟩
theorem ik_perm {xs ys : Array Keyed} (h0 : IntKeys ys) (hp : xs.Perm ys) : IntKeys xs := fun p h => h0 p ((Array.perm_iff_toList_perm.mp hp).mem_iff.mp h)
theorem ltK {st : SortSt} {i j : Nat} {Q : Option Bool → SortSt → Prop} (h0 : IntKeys a₀) (hB : SP a₀ P st) (hi : i < a₀.size) (hj : j < a₀.size)
    (h : Q (some (decide (K (arrOf st) i < K (arrOf st) j))) st) : wpS (model prog w) A E s ((sortPriv% PySem.Builtin.ltAt) i j) Q st := by
  have hz := hB.size
  have h1 := ik_perm h0 hB.perm
  refine wpS_bind (wpS_get ?_)
  refine wpS_bind (elem_spec (i := i) (by show i < (arrOf st).size; omega) ?_)
  refine wpS_bind (elem_spec (i := j) (by show j < (arrOf st).size; omega) ?_)
  refine lt_spec hB.kind (isI_at h1 _) (isI_at h1 _) ?_
  rw [kv_at, kv_at]; exact h
theorem rev_spec {st : SortSt} {i j : Nat} {Q : Unit → SortSt → Prop} (h : Q () (setArr st (mirror (arrOf st) i j ((j - i) / 2)))) :
    wpS (model prog w) A E s ((sortPriv% PySem.Builtin.reverseSlice) i j) Q st := wpS_modify h
theorem down_spec {st : SortSt} {i j : Nat} {Q : Unit → SortSt → Prop} (h : Q () (setArr st (bubble (arrOf st) i (i - j)))) :
    wpS (model prog w) A E s ((sortPriv% PySem.Builtin.moveDown) i j) Q st := wpS_modify h
noncomputable def binP : Nat → Nat → Nat → StateT SortSt Sem Bool := sortPriv% PySem.Builtin.binarySort
theorem mid {l r : Nat} (h : l < r) : l ≤ (l + r) / 2 ∧ (l + r) / 2 < r := by omega
structure BI (a₀ : Array Keyed) (P : Array (Nat × Nat × Nat)) (st : SortSt) (lo k : Nat) (st' : SortSt) : Prop where
  sp : SP a₀ P st'
  up : Up (arrOf st') lo (lo + k)
  low : ∀ i, i < lo → K (arrOf st') i = K (arrOf st) i
structure BJ (st : SortSt) (lo k l r : Nat) : Prop where
  a : l ≤ r
  b : r ≤ k
  t : ∀ i, lo ≤ i → i < lo + l → K (arrOf st) i ≤ K (arrOf st) (lo + k)
  f : ∀ i, lo + r ≤ i → i < lo + k → K (arrOf st) (lo + k) < K (arrOf st) i
theorem bin_spec {st : SortSt} {lo n ok : Nat} {Q : Bool → SortSt → Prop} (h0 : IntKeys a₀) (hn : lo + n ≤ a₀.size) (hok : ok ≤ n) (hB : SP a₀ P st) (hs : Sg (arrOf st) lo ok)
    (h : ∀ st', SP a₀ P st' → Sg (arrOf st') lo n → (∀ i, i < lo → K (arrOf st') i = K (arrOf st) i) → Q true st') : wpS (model prog w) A E s (binP lo n ok) Q st := by
  refine wpS_bind (wpS_mono (wpS_forRange (I := fun k c st' => c = (none, ()) ∧ BI a₀ P st lo (min k n) st')
    (Q := fun c st' => c = (none, ()) ∧ BI a₀ P st lo n st') ?step ?fin ?init) ?post)
  case post =>
    rintro c st' ⟨rfl, b⟩
    exact wpS_pure (h st' b.sp b.up.sg b.low)
  case init =>
    refine ⟨rfl, hB, fun i j h1 h2 h3 => ?_, fun _ _ => rfl⟩
    rcases Nat.eq_zero_or_pos ok with rfl | hp
    · exact Up.one i j h1 h2 (Nat.lt_of_lt_of_le h3 (Nat.add_le_add_left (Nat.min_le_left _ _) _))
    · exact hs.up i j h1 h2 (Nat.lt_of_lt_of_le h3 (Nat.add_le_add_left (Nat.le_trans (Nat.min_le_left _ _) (Nat.max_le.mpr ⟨Nat.le_refl _, hp⟩)) _))
  case fin =>
    rintro c st' ⟨hc, b⟩
    rw [Nat.min_eq_right (Nat.le_max_right _ _)] at b
    exact ⟨hc, b⟩
  case step =>
    rintro k c st' hak hkn ⟨rfl, b⟩
    rw [Nat.min_eq_left (Nat.le_of_lt hkn)] at b
    have hks := Nat.lt_of_lt_of_le (Nat.add_lt_add_left hkn lo) hn
    refine wpS_bind (wpS_mono (wpS_forRange (I := fun x c st'' => st'' = st' ∧ ∃ l r, c = (none, l, r) ∧ BJ st' lo k l r ∧ r + x ≤ l + k)
      (Q := fun c st'' => st'' = st' ∧ ∃ l, c = (none, l, l) ∧ BJ st' lo k l l) ?istep ?ifin ⟨rfl, 0, k, rfl, ⟨Nat.zero_le _, Nat.le_refl _, fun i h1 h2 => (Nat.not_lt_of_le h1 h2).elim, fun i h1 h2 => (Nat.not_lt_of_le h1 h2).elim⟩, Nat.le_of_eq (Nat.add_comm _ _)⟩) ?ipost)
    case ifin =>
      rintro c st'' ⟨rfl, l, r, rfl, j, h1⟩
      cases Nat.le_antisymm (Nat.le_of_add_le_add_right (Nat.le_trans (Nat.add_le_add_left (Nat.le_max_right 0 k) _) h1)) j.a
      exact ⟨rfl, l, rfl, j⟩
    case istep =>
      rintro x c st'' _ hxk ⟨rfl, l, r, rfl, j, h1⟩
      dsimp only
      refine wpS_ite (fun hge => ?_) (fun hge => ?_)
      · cases Nat.le_antisymm hge j.a
        exact wpS_pure ⟨rfl, l, rfl, j⟩
      · obtain ⟨m1, m2⟩ := mid (Nat.lt_of_not_le hge)
        have m3 := Nat.add_lt_add_left (Nat.lt_of_lt_of_le m2 j.b) lo
        refine wpS_bind (ltK h0 b.sp hks (Nat.lt_trans m3 hks) ?_)
        exact wpS_ite (fun e => wpS_pure ⟨rfl, _, _, rfl, ⟨m1, Nat.le_trans (Nat.le_of_lt m2) j.b, j.t, fun i h1 h2 => Int.lt_of_lt_of_le (of_decide_eq_true e) (b.up _ _ (Nat.le_add_right _ _) h1 h2)⟩, Nat.le_trans (Nat.succ_le_of_lt (Nat.add_lt_add_right m2 _)) h1⟩)
          (fun e => wpS_pure ⟨rfl, _, _, rfl, ⟨m2, j.b, fun i h1 h2 => Int.le_trans (b.up i _ h1 (Nat.le_of_lt_succ h2) m3) (lt_ff e), j.f⟩, by omega⟩)
    case ipost =>
      rintro c st'' ⟨rfl, l, rfl, j⟩
      have hz : lo + k < (arrOf st'').size := by rw [b.sp.size]; exact hks
      have hl := Nat.add_le_add_left j.b lo
      refine wpS_bind (down_spec (wpS_pure ⟨rfl, b.sp.setArr (bubble_perm _ _ _), ?_, fun i hi => (K_bub_low hz (Nat.le_add_right lo l) hl hi).trans (b.low i hi)⟩))
      rw [Nat.min_eq_left hkn]
      exact Up.bubble hz (Nat.le_add_right _ _) hl b.up j.t j.f
noncomputable def runP : Nat → Nat → StateT SortSt Sem (Option Nat) := sortPriv% PySem.Builtin.countRun
structure RI (a₀ : Array Keyed) (P : Array (Nat × Nat × Nat)) (st : SortSt) (lo x neq : Nat) (st' : SortSt) : Prop where
  sp : SP a₀ P st'
  low : ∀ i, i < lo → K (arrOf st') i = K (arrOf st) i
  dn : Dn (arrOf st') lo (lo + x)
  le : neq + 1 ≤ x
  eq : ∀ k, lo + x - (neq + 1) ≤ k → k < lo + x → K (arrOf st') k = K (arrOf st') (lo + x - 1)
theorem RI.zero {st st' : SortSt} {lo x : Nat} (h1 : SP a₀ P st') (h2 : ∀ i, i < lo → K (arrOf st') i = K (arrOf st) i) (h3 : Dn (arrOf st') lo (lo + x)) (h4 : 1 ≤ x) : RI a₀ P st lo x 0 st' :=
  ⟨h1, h2, h3, h4, fun k h5 h6 => by rw [Nat.le_antisymm h5 (Nat.le_sub_one_of_lt h6)]⟩
theorem RI.rev {st st' : SortSt} {lo x neq : Nat} (r : RI a₀ P st lo x neq st') (hz : lo + x ≤ a₀.size) :
    RI a₀ P st lo x 0 (setArr st' (mirror (arrOf st') (lo + x - (neq + 1)) (lo + x) ((lo + x - (lo + x - (neq + 1))) / 2))) ∧
      ∀ k, K (arrOf (setArr st' (mirror (arrOf st') (lo + x - (neq + 1)) (lo + x) ((lo + x - (lo + x - (neq + 1))) / 2)))) k = K (arrOf st') k :=
  have hk := K_mirror_equal (by rw [r.sp.size]; exact hz) r.eq
  ⟨.zero (r.sp.setArr (mirror_perm _ _ _ _)) (fun i hi => (hk i).trans (r.low i hi)) (r.dn.congr hk) (Nat.le_trans (Nat.le_add_left _ _) r.le), hk⟩
theorem RI.down {st st' : SortSt} {lo x neq : Nat} (r : RI a₀ P st lo x neq st') (h : K (arrOf st') (lo + x) < K (arrOf st') (lo + x - 1)) : RI a₀ P st lo (x + 1) 0 st' :=
  .zero r.sp r.low (r.dn.snoc (Nat.lt_add_of_pos_right (Nat.lt_of_succ_le (Nat.le_trans (Nat.le_add_left 1 _) r.le))) (Int.le_of_lt h)) (Nat.le_add_left _ _)
theorem RI.same {st st' : SortSt} {lo x neq : Nat} (r : RI a₀ P st lo x neq st') (h : K (arrOf st') (lo + x) = K (arrOf st') (lo + x - 1)) : RI a₀ P st lo (x + 1) (neq + 1) st' :=
  ⟨r.sp, r.low, r.dn.snoc (Nat.lt_add_of_pos_right (Nat.lt_of_succ_le (Nat.le_trans (Nat.le_add_left 1 _) r.le))) (Int.le_of_eq h), Nat.succ_le_succ r.le, fun k h1 h2 => by
    show _ = K (arrOf st') (lo + x)
    rcases Nat.lt_or_eq_of_le (Nat.le_of_lt_succ h2) with h3 | rfl
    · rw [h]; exact r.eq k (Nat.add_sub_add_right (lo + x) 1 (neq + 1) ▸ h1) h3
    · rfl⟩
theorem run_spec {st : SortSt} {lo nrem : Nat} {Q : Option Nat → SortSt → Prop} (h0 : IntKeys a₀) (hn : lo + nrem ≤ a₀.size) (h1 : 1 ≤ nrem) (hB : SP a₀ P st)
    (h : ∀ m st', SP a₀ P st' → 1 ≤ m → m ≤ nrem → Sg (arrOf st') lo m → (∀ i, i < lo → K (arrOf st') i = K (arrOf st) i) → Q (some m) st') :
    wpS (model prog w) A E s (runP lo nrem) Q st := by
  have hx : ∀ {x}, x < nrem → lo + x < a₀.size := fun h => Nat.lt_of_lt_of_le (Nat.add_lt_add_left h lo) hn
  have hy : ∀ {x}, x < nrem → lo + x - 1 < a₀.size := fun h => Nat.lt_of_le_of_lt (Nat.sub_le _ _) (hx h)
  refine wpS_bind (wpS_mono (wpS_forRange (I := fun x c st' => st' = st ∧ c = (none, x) ∧ Up (arrOf st) lo (lo + x))
    (Q := fun c st' => st' = st ∧ ∃ n, c = (none, n) ∧ 1 ≤ n ∧ n ≤ nrem ∧ Up (arrOf st) lo (lo + n) ∧ (n = nrem ∨ K (arrOf st) (lo + n) < K (arrOf st) (lo + n - 1))) ?step ?fin ⟨rfl, rfl, Up.one⟩) ?post)
  case fin =>
    rintro c st' ⟨rfl, rfl, hs⟩
    rw [Nat.max_eq_right h1] at hs ⊢
    exact ⟨rfl, _, rfl, h1, Nat.le_refl _, hs, .inl rfl⟩
  case step =>
    rintro x c st' h2 h3 ⟨rfl, rfl, hs⟩
    refine wpS_bind (ltK h0 hB (hx h3) (hy h3) ?_)
    exact wpS_ite (fun e => wpS_pure ⟨rfl, _, rfl, h2, Nat.le_of_lt h3, hs, .inr (of_decide_eq_true e)⟩)
      (fun e => wpS_pure ⟨rfl, rfl, hs.snoc (Nat.lt_add_of_pos_right h2) (lt_ff e)⟩)
  case post =>
    rintro c st' ⟨rfl, n, rfl, h2, h3, hs, hor⟩
    dsimp -zeta only
    refine wpS_ite (fun e => wpS_pure (h n st' hB h2 h3 hs.sg (fun _ _ => rfl))) (fun e => ?_)
    have hlt := hor.resolve_left (bne_of e)
    have h3 : n < nrem := Nat.lt_of_le_of_ne h3 (bne_of e)
    clear hor e
    have hp : lo < lo + n := Nat.lt_add_of_pos_right h2
    extract_lets -underBinder jp
    refine wpS_jpS (jp := jp ()) (fun st2 => SP a₀ P st2 ∧ (∀ i, i < lo → K (arrOf st2) i = K (arrOf st') i) ∧ Dn (arrOf st2) lo (lo + n + 1)) (fun st2 g => ?_) (fun hj => ?_)
    rotate_left
    · clear_value jp
      refine wpS_ite (fun gt => ?_) (fun gt => ?_)
      · refine wpS_bind (ltK h0 hB (Nat.lt_trans hp (hx h3)) (hy h3) ?_)
        refine wpS_ite (fun _ => wpS_pure (h n st' hB h2 (Nat.le_of_lt h3) hs.sg fun _ _ => rfl)) (fun rose => ?_)
        have rose := lt_ff rose
        refine wpS_bind (rev_spec (hj _ ?_))
        have hall : ∀ k, lo ≤ k → k < lo + n → K (arrOf st') k = K (arrOf st') (lo + n - 1) := fun k h4 h5 =>
          Int.le_antisymm (hs k _ h4 (Nat.le_sub_one_of_lt h5) (pred_lt (Nat.zero_lt_of_lt hp) (Nat.le_refl _))) (Int.le_trans rose (hs lo k (Nat.le_refl _) h4 h5))
        have hk := K_mirror_equal (by rw [hB.size]; exact Nat.le_of_lt (hx h3)) hall
        exact ⟨hB.setArr (mirror_perm _ _ _ _), fun i _ => hk i, Dn.congr hk (Dn.snoc (fun i j h4 h5 h6 => by rw [hall i h4 (Nat.lt_of_le_of_lt h5 h6), hall j (Nat.le_trans h4 h5) h6]; exact Int.le_refl _) hp (Int.le_of_lt hlt))⟩
      · cases Nat.le_antisymm h2 (Nat.le_of_not_lt gt)
        exact hj _ ⟨hB, fun _ _ => rfl, Dn.one.snoc hp (Int.le_of_lt hlt)⟩
    dsimp -zeta only [jp]
    clear jp hs hlt
    obtain ⟨hB2, hL, hD⟩ := g
    refine wpS_bind (wpS_lift (wpAny_rule ⟨rfl, ?_⟩))
    refine wpS_bind (wpS_mono (wpS_forRange (I := fun x c st3 => ∃ neq, c = (none, x, neq) ∧ RI a₀ P st' lo x neq st3)
      (Q := fun c st3 => ∃ m neq, c = (none, m, neq) ∧ 1 ≤ m ∧ m ≤ nrem ∧ RI a₀ P st' lo m neq st3) ?_ ?_ ⟨0, rfl, .zero hB2 hL hD (Nat.le_add_left _ _)⟩) ?_)
    · clear hB2 hL hD
      rintro x c st3 hax hxn ⟨neq, rfl, r⟩
      have hax : 1 ≤ x := Nat.le_trans (Nat.le_add_left _ _) hax
      dsimp only
      refine wpS_bind (ltK h0 r.sp (hx hxn) (hy hxn) ?_)
      refine wpS_ite (fun e => ?_) (fun e => ?_)
      · have e := of_decide_eq_true e
        refine wpS_ite (fun _ => ?_) (fun _ => wpS_pure ⟨0, rfl, r.down e⟩)
        obtain ⟨r', hk⟩ := r.rev (Nat.le_of_lt (hx hxn))
        exact wpS_bind (rev_spec (wpS_pure ⟨0, rfl, r'.down (by rw [hk, hk]; exact e)⟩))
      · refine wpS_bind (ltK h0 r.sp (hy hxn) (hx hxn) ?_)
        exact wpS_ite (fun _ => wpS_pure ⟨x, neq, rfl, hax, Nat.le_of_lt hxn, r⟩) (fun e2 => wpS_pure ⟨neq + 1, rfl, r.same (Int.le_antisymm (lt_ff e2) (lt_ff e))⟩)
    · rintro c st3 ⟨neq, rfl, r⟩
      rw [Nat.max_eq_right (Nat.succ_le_of_lt h3)] at r ⊢
      exact ⟨nrem, neq, rfl, h1, Nat.le_refl _, r⟩
    · clear hB2 hL hD
      rintro c st3 ⟨m, neq, rfl, hm1, hm2, r⟩
      have hz := Nat.le_trans (Nat.add_le_add_left hm2 lo) hn
      extract_lets -underBinder r1 s1 n1 neq1
      dsimp -zeta only [r1, s1, n1, neq1]
      extract_lets -underBinder jp
      refine wpS_jpS (jp := jp ()) (fun st4 => RI a₀ P st' lo m 0 st4) (fun st4 r => ?_) (fun hj => wpS_ite (fun _ => wpS_bind (rev_spec (hj _ (r.rev hz).1))) (fun _ => hj _ (.zero r.sp r.low r.dn hm1)))
      dsimp -zeta only [jp]
      clear jp
      have hz4 : lo + m ≤ (arrOf st4).size := by rw [r.sp.size]; exact hz
      refine wpS_bind (rev_spec ?_)
      have hU := Dn.mirror hz4 r.dn
      have hL : ∀ i, i < lo → K (mirror (arrOf st4) lo (lo + m) ((lo + m - lo) / 2)) i = K (arrOf st') i := fun i hi => (K_mirror_low hz4 hi).trans (r.low i hi)
      have hB5 := r.sp.setArr (mirror_perm (arrOf st4) lo (lo + m) ((lo + m - lo) / 2))
      obtain ⟨st5, e5⟩ : ∃ st5, st5 = setArr st4 (mirror (arrOf st4) lo (lo + m) ((lo + m - lo) / 2)) := ⟨_, rfl⟩
      replace hU : Up (arrOf st5) lo (lo + m) := e5 ▸ hU
      replace hL : ∀ i, i < lo → K (arrOf st5) i = K (arrOf st') i := e5 ▸ hL
      rw [← e5] at hB5 ⊢
      clear e5 r hz4
      refine wpS_bind (wpS_mono (wpS_forRange (I := fun x c st6 => st6 = st5 ∧ c = (none, x) ∧ Up (arrOf st5) lo (lo + x))
        (Q := fun c st6 => st6 = st5 ∧ ∃ n, c = (none, n) ∧ 1 ≤ n ∧ n ≤ nrem ∧ Up (arrOf st5) lo (lo + n)) ?_ ?_ ⟨rfl, rfl, hU⟩) ?_)
      · rintro x c st6 h2 h3 ⟨rfl, rfl, hs⟩
        have h2 := Nat.le_trans hm1 h2
        refine wpS_bind (ltK h0 hB5 (hx h3) (hy h3) ?_)
        exact wpS_ite (fun e => wpS_pure ⟨rfl, _, rfl, h2, Nat.le_of_lt h3, hs⟩)
          (fun e => wpS_pure ⟨rfl, rfl, hs.snoc (Nat.lt_add_of_pos_right h2) (lt_ff e)⟩)
      · rintro c st6 ⟨rfl, rfl, hs⟩
        rw [Nat.max_eq_right hm2] at hs ⊢
        exact ⟨rfl, _, rfl, h1, Nat.le_refl _, hs⟩
      · rintro c st6 ⟨rfl, q, rfl, h4, h5, hs⟩
        exact wpS_pure (h q st6 hB5 h4 h5 hs.sg hL)
end
end
-- part Se
section
open PySem PyProof.Rows
noncomputable def wr (o : Nat) (a : Array Keyed) (x : Keyed × Nat) : Array Keyed := a.setIfInBounds (o + x.2) x.1
theorem wr_get (o : Nat) : ∀ (l : List Keyed) (c : Nat) (a : Array Keyed), o + c + l.length ≤ a.size → ((l.zipIdx c).foldl (wr o) a).size = a.size ∧
    ∀ k, ((l.zipIdx c).foldl (wr o) a)[k]? = if o + c ≤ k ∧ k < o + c + l.length then l[k - (o + c)]? else a[k]?
  | [], c, a, _ => ⟨rfl, fun k => by rw [if_neg (by simp only [List.length_nil]; omega)]; rfl⟩
  | p :: l, c, a, h => by
    rw [List.length_cons] at h
    rw [List.zipIdx_cons, List.foldl_cons]
    have ih := wr_get o l (c + 1) (wr o a (p, c)) (by simp only [wr, Array.size_setIfInBounds]; omega)
    refine ⟨ih.1.trans (by simp [wr]), fun k => ?_⟩
    rw [ih.2 k, List.length_cons]
    by_cases h1 : o + (c + 1) ≤ k ∧ k < o + (c + 1) + l.length
    · rw [if_pos h1, if_pos (by omega), show k - (o + c) = k - (o + (c + 1)) + 1 by omega]; rfl
    · rw [if_neg h1]
      by_cases h2 : k = o + c
      · subst h2
        rw [if_pos (by omega)]
        simp only [wr]
        rw [Array.getElem?_setIfInBounds_self_of_lt (by omega)]
        simp
      · rw [if_neg (by omega)]
        simp only [wr]
        rw [Array.getElem?_setIfInBounds_ne (by omega)]
theorem wr_perm {a z : Array Keyed} {o e : Nat} (he : o + z.size = e) (h : e ≤ a.size) (hp : z.Perm (a.extract o e)) : ((z.toList.zipIdx).foldl (wr o) a).Perm a := by
  have hg := wr_get o z.toList 0 a (by simp; omega)
  have e1 : ((z.toList.zipIdx).foldl (wr o) a).toList = a.toList.take o ++ (z.toList ++ a.toList.drop e) := by
    apply List.ext_getElem?
    intro k
    have := hg.2 k
    rw [← Array.getElem?_toList, ← Array.getElem?_toList] at this
    rw [this]
    simp only [Nat.add_zero, Array.length_toList]
    by_cases h1 : o ≤ k
    · rw [List.getElem?_append_right (by simp; omega)]
      simp only [List.length_take, Array.length_toList, Nat.min_eq_left (show o ≤ a.size by omega)]
      by_cases h2 : k < o + z.size
      · rw [if_pos ⟨h1, h2⟩, List.getElem?_append_left (by simp; omega)]
      · rw [if_neg (by omega), List.getElem?_append_right (by simp; omega), List.getElem?_drop]
        congr 1
        simp only [Array.length_toList]; omega
    · rw [if_neg (by omega), List.getElem?_append_left (by simp; omega), List.getElem?_take_of_lt (by omega)]
  have e2 : a.toList = a.toList.take o ++ ((a.extract o e).toList ++ a.toList.drop e) := by
    rw [← drop_ext (by omega), List.take_append_drop]
  refine Array.perm_iff_toList_perm.mpr ?_
  rw [e1]
  conv => rhs; rw [e2]
  exact List.Perm.append_left _ (List.Perm.append_right _ (Array.perm_iff_toList_perm.mp hp))
theorem K_wr {a z : Array Keyed} {o : Nat} (h : o + z.size ≤ a.size) (k : Nat) : K ((z.toList.zipIdx).foldl (wr o) a) k = if o ≤ k ∧ k < o + z.size then K z (k - o) else K a k := by
  have hg := (wr_get o z.toList 0 a (by simp; omega)).2 k
  simp only [Nat.add_zero, Array.length_toList] at hg
  by_cases h1 : o ≤ k ∧ k < o + z.size
  · rw [if_pos h1] at hg ⊢
    rw [Array.getElem?_toList] at hg
    exact K_congr hg
  · rw [if_neg h1] at hg ⊢
    exact K_congr hg
theorem ext_size {a : Array Keyed} {p d e : Nat} (he : p + d = e) (h : e ≤ a.size) : (a.extract p e).size = d := by
  subst he; rw [Array.size_extract, Nat.min_eq_left h, Nat.add_sub_cancel_left]
theorem K_ext {a : Array Keyed} {p d e i : Nat} (he : p + d = e) (h : e ≤ a.size) (hi : i < d) : K (a.extract p e) i = K a (p + i) := by
  subst he
  refine K_congr ?_
  rw [Array.getElem?_extract, if_pos (by rw [Nat.min_eq_left h, Nat.add_sub_cancel_left]; exact hi)]
theorem ik_ext {a : Array Keyed} {p e : Nat} (h : IntKeys a) : IntKeys (a.extract p e) := fun q hq => h q (by
  rw [Array.toList_extract, List.extract_eq_take_drop] at hq
  exact List.mem_of_mem_drop (List.mem_of_mem_take hq))
theorem Up.ext {a : Array Keyed} {p d e : Nat} (he : p + d = e) (h : e ≤ a.size) (u : Up a p e) : SortedTo (a.extract p e) (a.extract p e).size := fun i j h1 h2 => by
  rw [ext_size he h] at h2
  rw [K_ext he h (Nat.lt_of_le_of_lt h1 h2), K_ext he h h2]
  exact u _ _ (Nat.le_add_right _ _) (Nat.add_le_add_left h1 _) (he ▸ Nat.add_lt_add_left h2 _)
theorem Up.join {xs : Array Keyed} {a b c : Nat} (h1 : Up xs a b) (h2 : Up xs b c) (h : b < c → ∀ i, a ≤ i → i < b → K xs i ≤ K xs b) : Up xs a c := fun i j h3 h4 h5 => by
  by_cases c1 : j < b
  · exact h1 i j h3 h4 c1
  have c1 := Nat.le_of_not_lt c1
  by_cases c2 : i < b
  · exact Int.le_trans (h (Nat.lt_of_le_of_lt c1 h5) i h3 c2) (h2 b j (Nat.le_refl _) c1 h5)
  · exact h2 i j (Nat.le_of_not_lt c2) h4 h5
theorem Up.congr {xs ys : Array Keyed} {a b : Nat} (h : Up xs a b) (hk : ∀ k, a ≤ k → k < b → K ys k = K xs k) : Up ys a b := fun i j h1 h2 h3 => by
  rw [hk i h1 (Nat.lt_of_le_of_lt h2 h3), hk j (Nat.le_trans h1 h2) h3]; exact h i j h1 h2 h3
theorem Up.sub {xs : Array Keyed} {a b c d : Nat} (h : Up xs a b) (h1 : a ≤ c) (h2 : d ≤ b) : Up xs c d := fun i j h3 h4 h5 => h i j (Nat.le_trans h1 h3) h4 (Nat.lt_of_lt_of_le h5 h2)
theorem K_perm {x y z : Array Keyed} (hp : z.Perm (x ++ y)) {m : Nat} (hm : m < z.size) : (∃ i, i < x.size ∧ K z m = K x i) ∨ ∃ i, i < y.size ∧ K z m = K y i := by
  have h1 : z[m] ∈ (x ++ y).toList := (Array.perm_iff_toList_perm.mp hp).mem_iff.mp (by simp)
  rw [Array.toList_append] at h1
  rcases List.mem_append.mp h1 with h | h
  · obtain ⟨i, hi, e⟩ := List.getElem_of_mem h
    simp only [Array.length_toList] at hi
    refine .inl ⟨i, hi, ?_⟩
    rw [K_eq hm, K_eq hi, ← e]; simp
  · obtain ⟨i, hi, e⟩ := List.getElem_of_mem h
    simp only [Array.length_toList] at hi
    refine .inr ⟨i, hi, ?_⟩
    rw [K_eq hm, K_eq hi, ← e]; simp
theorem wr_two {a z : Array Keyed} {p d sb e u : Nat} (he : p + d = sb) (hu : sb + e = u) (h : u ≤ a.size) (g : z.Perm (a.extract p sb ++ a.extract sb u)) : z.size = d + e ∧ p + z.size = u ∧ ((z.toList.zipIdx).foldl (wr p) a).Perm a := by
  have zz : z.size = d + e := by rw [g.size_eq, Array.size_append, ext_size he (Nat.le_trans (hu ▸ Nat.le_add_right _ _) h), ext_size hu h]
  have zu : p + z.size = u := by rw [zz, ← Nat.add_assoc, he, hu]
  refine ⟨zz, zu, wr_perm zu h (g.trans (Array.perm_iff_toList_perm.mpr (List.Perm.of_eq ?_)))⟩
  subst hu he
  rw [Array.toList_append]
  simp only [Array.toList_extract, List.extract_eq_take_drop]
  rw [← List.drop_drop, Nat.add_assoc, Nat.add_sub_cancel_left, Nat.add_sub_cancel_left, ← Nat.add_assoc, Nat.add_sub_cancel_left, List.take_add]
section
variable {prog : Program} {w : World} {A : Around} {E : Value → Shared → Prop} {s : Shared} {a₀ : Array Keyed} {P : Array (Nat × Nat × Nat)}
theorem wpS_set {x st : SortSt} {Q : PUnit → SortSt → Prop} {M : Model} (h : Q ⟨⟩ x) : wpS M A E s (set x : StateT SortSt Sem PUnit) Q st := by
  unfold wpS; exact wpAny_pure ⟨rfl, h⟩
theorem mz {a z : Array Keyed} {p d sb e u sa se : Nat} (he : p + d = sb) (hu : sb + e = u) (h : u ≤ a.size) (hd : 1 ≤ d) (hp : sa ≤ p) (hse : u ≤ se) (g : Good (a.extract p sb) (a.extract sb u) z)
    (t1 : Up a sa sb) (t2 : Up a sb se) (q1 : ∀ i, sa ≤ i → i < p → K a i ≤ K a sb) (q2 : ∀ i, p ≤ i → i < sb → K a sb < K a i) (r2 : ∀ i, u ≤ i → i < se → K a (sb - 1) ≤ K a i) :
    Up ((z.toList.zipIdx).foldl (wr p) a) sa se ∧ (∀ k, k < sa ∨ se ≤ k → K ((z.toList.zipIdx).foldl (wr p) a) k = K a k) := by
  obtain ⟨zz, zu, -⟩ := wr_two he hu h g.1
  have kk := K_wr (a := a) (z := z) (o := p) (by rw [zu]; exact h)
  have k1 : ∀ k, k < p → K ((z.toList.zipIdx).foldl (wr p) a) k = K a k := fun k hk => by rw [kk, if_neg fun x => Nat.not_lt_of_le x.1 hk]
  have k2 : ∀ k, u ≤ k → K ((z.toList.zipIdx).foldl (wr p) a) k = K a k := fun k hk => by rw [kk, if_neg fun x => Nat.not_lt_of_le hk (zu ▸ x.2)]
  have k3 : ∀ m, m < z.size → K ((z.toList.zipIdx).foldl (wr p) a) (p + m) = K z m := fun m hm => by rw [kk, if_pos ⟨Nat.le_add_right _ _, Nat.add_lt_add_left hm _⟩, Nat.add_sub_cancel_left]
  clear kk
  have hs : sb ≤ a.size := Nat.le_trans (hu ▸ Nat.le_add_right _ _) h
  have hps : p < sb := he ▸ Nat.lt_add_of_pos_right hd
  have mb : ∀ m, m < z.size → K a sb ≤ K z m ∧ (u < se → K z m ≤ K a u) := fun m hm => by
    rcases K_perm g.1 hm with ⟨i, hi, e1⟩ | ⟨i, hi, e1⟩
    · rw [ext_size he hs] at hi
      have hi' : p + i < sb := he ▸ Nat.add_lt_add_left hi p
      rw [e1, K_ext he hs hi]
      exact ⟨Int.le_of_lt (q2 _ (Nat.le_add_right _ _) hi'), fun hus => Int.le_trans (t1 _ (sb - 1) (Nat.le_trans hp (Nat.le_add_right _ _)) (Nat.le_sub_one_of_lt hi') (pred_lt (Nat.zero_lt_of_lt hi') (Nat.le_refl _))) (r2 u (Nat.le_refl _) hus)⟩
    · rw [ext_size hu h] at hi
      have hi' : sb + i < u := hu ▸ Nat.add_lt_add_left hi sb
      rw [e1, K_ext hu h hi]
      exact ⟨t2 _ _ (Nat.le_refl _) (Nat.le_add_right _ _) (Nat.lt_of_lt_of_le hi' hse), fun hus => t2 _ _ (Nat.le_add_right _ _) (Nat.le_of_lt hi') hus⟩
  have hpu : p ≤ u := zu ▸ Nat.le_add_right _ _
  refine ⟨Up.join (b := u) (Up.join (b := p) ((t1.sub (Nat.le_refl _) (Nat.le_of_lt hps)).congr fun k _ h4 => k1 k h4) (fun i j h3 h4 h5 => ?_) fun h3 i h4 h5 => ?_) ((t2.sub (hu ▸ Nat.le_add_right _ _) (Nat.le_refl _)).congr fun k h4 _ => k2 k h4) fun h3 i h4 h5 => ?_,
    fun k hk => hk.elim (fun h4 => k1 k (Nat.lt_of_lt_of_le h4 hp)) (fun h4 => k2 k (Nat.le_trans hse h4))⟩
  · obtain ⟨m, rfl⟩ := Nat.exists_eq_add_of_le h3
    obtain ⟨n, rfl⟩ := Nat.exists_eq_add_of_le (Nat.le_trans h3 h4)
    have h6 : n < z.size := Nat.lt_of_add_lt_add_left (zu.symm ▸ h5)
    have h7 := Nat.le_of_add_le_add_left h4
    rw [k3 m (Nat.lt_of_le_of_lt h7 h6), k3 n h6]
    exact g.2 m n h7 h6
  · have h6 : 0 < z.size := zz.symm ▸ Nat.add_pos_left hd _
    rw [k1 i h5, show K _ p = K z 0 from k3 0 h6]
    exact Int.le_trans (q1 i h4 h5) (mb 0 h6).1
  · rw [k2 u (Nat.le_refl _)]
    by_cases c : i < p
    · rw [k1 i c]
      exact Int.le_trans (q1 i h4 c) (t2 sb u (Nat.le_refl _) (hu ▸ Nat.le_add_right _ _) h3)
    · obtain ⟨m, rfl⟩ := Nat.exists_eq_add_of_le (Nat.le_of_not_lt c)
      have h6 : m < z.size := Nat.lt_of_add_lt_add_left (zu.symm ▸ h5)
      rw [k3 m h6]
      exact (mb m h6).2 h3
theorem mat_spec {st : SortSt} {i sa na pw sb nb q : Nat} {Q : Bool → SortSt → Prop} (h0 : IntKeys a₀) (hB : SP a₀ P st)
    (p1 : P[i]? = some (sa, na, pw)) (p2 : P[i + 1]? = some (sb, nb, q)) (hsb : sb = sa + na) (hna : 1 ≤ na) (hnb : 1 ≤ nb) (hsz : sb + nb ≤ a₀.size)
    (s1 : Sg (arrOf st) sa na) (s2 : Sg (arrOf st) sb nb)
    (h : ∀ st', SP a₀ ((P.setIfInBounds i (sa, na + nb, pw)).eraseIdxIfInBounds (i + 1)) st' → Sg (arrOf st') sa (na + nb) → (∀ k, k < sa ∨ sb + nb ≤ k → K (arrOf st') k = K (arrOf st) k) → Q true st') :
    wpS (model prog w) A E s (mergeAt' i) Q st := by
  have hI := ik_perm h0 hB.perm
  rw [← hB.size] at hsz
  have hp : ((pendingOf st).setIfInBounds i (sa, na + nb, pw)).eraseIdxIfInBounds (i + 1) = (P.setIfInBounds i (sa, na + nb, pw)).eraseIdxIfInBounds (i + 1) := by rw [hB.pend]
  have e1 : (pendingOf st)[i]? = some (sa, na, pw) := by rw [hB.pend]; exact p1
  have e2 : (pendingOf st)[i + 1]? = some (sb, nb, q) := by rw [hB.pend]; exact p2
  have t1 : Up (arrOf st) sa sb := hsb ▸ s1.up
  have t2 := s2.up
  replace h : ∀ st', SP a₀ ((P.setIfInBounds i (sa, na + nb, pw)).eraseIdxIfInBounds (i + 1)) st' → Up (arrOf st') sa (sb + nb) → (∀ k, k < sa ∨ sb + nb ≤ k → K (arrOf st') k = K (arrOf st) k) → Q true st' :=
    fun st' g1 g2 g3 => h st' g1 (Up.sg (by rw [← Nat.add_assoc, ← hsb]; exact g2)) g3
  clear s1 s2 p1 p2
  refine wpS_bind (wpS_get ?_)
  rw [e1, e2]
  refine wpS_bind (wpS_set ?_)
  clear e1 e2
  have b1 : sb < (arrOf st).size := Nat.lt_of_lt_of_le (Nat.lt_add_of_pos_right hnb) hsz
  refine wpS_bind (elem_spec b1 ?_)
  refine wpS_bind (galF hB.kind (isI_at hI b1) (kv_at b1) hI hsb.symm (Nat.le_of_lt b1) hna t1 (fun k hk1 q1 q2 => ?_))
  obtain ⟨d, hd⟩ := Nat.exists_eq_add_of_le hk1
  have hkd : na - k = d := by rw [hd, Nat.add_sub_cancel_left]
  have he : sa + k + d = sb := by rw [hsb, hd, Nat.add_assoc]
  dsimp -zeta only
  rw [hkd]
  refine wpS_ite (fun e => ?_) (fun e => ?_)
  · have e : sa + k = sb := by rw [eq_of_beq e] at he; exact he
    exact wpS_pure (h _ ⟨hB.perm, hB.kind, hB.failed, hp⟩ (t1.join t2 fun _ i h3 h4 => q1 i h3 (e.symm ▸ h4)) (fun _ _ => rfl))
  have hd1 : 1 ≤ d := Nat.pos_of_ne_zero (bne_of e)
  have hps : sa + k < sb := he ▸ Nat.lt_add_of_pos_right hd1
  have b3 : sb - 1 < sb := pred_lt (Nat.zero_lt_of_lt hps) (Nat.le_refl _)
  have b2 : sa + k + d - 1 < (arrOf st).size := by rw [he]; exact Nat.lt_trans b3 b1
  have v2 : kv (arrOf st)[sa + k + d - 1] = K (arrOf st) (sb - 1) := by rw [kv_at, he]
  refine wpS_bind (elem_spec b2 ?_)
  refine wpS_bind (galT hB.kind (isI_at hI b2) v2 hI rfl hsz (pred_lt hnb (Nat.le_refl _)) t2 (fun k2 hk2 r1 r2 => ?_))
  dsimp -zeta only
  refine wpS_ite (fun e3 => ?_) (fun e3 => ?_)
  · rw [eq_of_beq e3] at r2
    exact wpS_pure (h _ ⟨hB.perm, hB.kind, hB.failed, hp⟩ (t1.join t2 fun _ i h3 h4 => Int.le_trans (t1 i (sb - 1) h3 (Nat.le_sub_one_of_lt h4) b3) (r2 sb (Nat.le_refl _) (Nat.lt_add_of_pos_right hnb))) (fun _ _ => rfl))
  have hk21 : 1 ≤ k2 := Nat.pos_of_ne_zero (bne_of e3)
  have hu : sb + k2 ≤ (arrOf st).size := Nat.le_trans (Nat.add_le_add_left hk2 _) hsz
  have zx : ((arrOf st).extract (sa + k) sb).size = d := ext_size he (Nat.le_of_lt b1)
  have zy : ((arrOf st).extract sb (sb + k2)).size = k2 := ext_size rfl hu
  have sx := Up.ext he (Nat.le_of_lt b1) (t1.sub (Nat.le_add_right _ _) (Nat.le_refl _))
  have sy := Up.ext rfl hu (t2.sub (Nat.le_refl _) (Nat.add_le_add_left hk2 _))
  have c1 : ∀ i, i < ((arrOf st).extract (sa + k) sb).size → K ((arrOf st).extract sb (sb + k2)) 0 ≤ K ((arrOf st).extract (sa + k) sb) i := fun i hi => by
    rw [zx] at hi
    rw [K_ext he (Nat.le_of_lt b1) hi, K_ext rfl hu hk21]
    exact Int.le_of_lt (q2 _ (Nat.le_add_right _ _) (Nat.lt_of_lt_of_eq (Nat.add_lt_add_left hi _) he))
  have c2 : ∀ i, i < ((arrOf st).extract sb (sb + k2)).size → K ((arrOf st).extract sb (sb + k2)) i ≤ K ((arrOf st).extract (sa + k) sb) (((arrOf st).extract (sa + k) sb).size - 1) := fun i hi => by
    rw [zy] at hi
    rw [zx, K_ext he (Nat.le_of_lt b1) (pred_lt hd1 (Nat.le_refl _)), K_ext rfl hu hi, ← Nat.add_sub_assoc hd1, he]
    exact Int.le_of_lt (r1 _ (Nat.le_add_right _ _) (Nat.add_lt_add_left hi _))
  extract_lets -underBinder x y jp
  refine wpS_jpG (jp := jp) (fun z st2 => Same (SortSt.mk' (kindOf st) (arrOf st) (((pendingOf st).setIfInBounds i (sa, na + nb, pw)).eraseIdxIfInBounds (i + 1)) (gallopOf st) (failedOf st)) st2 ∧ Good ((arrOf st).extract (sa + k) sb) ((arrOf st).extract sb (sb + k2)) z) (fun z st2 g => ?_) (fun hj => ?_)
  · dsimp -zeta only [jp]
    obtain ⟨⟨f1, f2, f3, f4⟩, g⟩ := g
    have f2 : arrOf st2 = arrOf st := f2
    have f4 : failedOf st2 = none := f4.trans hB.failed
    obtain ⟨m1, m2⟩ := mz he rfl hu hd1 (Nat.le_add_right sa k) (Nat.add_le_add_left hk2 sb) g t1 t2 q1 q2 r2
    refine wpS_bind (wpS_modify (wpS_bind (wpS_get (wpS_pure ?_))))
    show Q (Option.isNone (failedOf st2)) (SortSt.mk' (kindOf st2) ((z.toList.zipIdx).foldl (wr (sa + k)) (arrOf st2)) (pendingOf st2) (gallopOf st2) (failedOf st2))
    rw [f4, f2]
    exact h _ ⟨(wr_two he rfl hu g.1).2.2.trans hB.perm, f1.trans hB.kind, rfl, f3.trans hp⟩ m1 m2
  · clear_value jp
    have nx := Nat.lt_of_lt_of_eq hd1 zx.symm
    have ny := Nat.lt_of_lt_of_eq hk21 zy.symm
    exact wpS_ite (fun _ => wpS_bind (mlo_spec hB.kind (ik_ext hI) (ik_ext hI) sx sy nx ny (c1 0 nx) c2 fun z st2 hS hz => hj z st2 ⟨hS, hz⟩))
      (fun _ => wpS_bind (mhi_spec hB.kind (ik_ext hI) (ik_ext hI) sx sy nx ny c1 c2 fun z st2 hS hz => hj z st2 ⟨hS, hz⟩))
end
end
-- part Sf
section
open PySem PyProof.Rows
noncomputable def Cov (xs : Array Keyed) : List (Nat × Nat × Nat) → Nat → Nat → Prop
  | [], a, b => a = b
  | e :: r, a, b => e.1 = a ∧ 1 ≤ e.2.1 ∧ Sg xs a e.2.1 ∧ Cov xs r (a + e.2.1) b
theorem Cov.le {xs : Array Keyed} : ∀ {L : List (Nat × Nat × Nat)} {a b : Nat}, Cov xs L a b → a + L.length ≤ b
  | [], a, b, h => by rw [show a = b from h]; exact Nat.le_refl _
  | e :: r, a, b, h => by
    have := Cov.le h.2.2.2
    have := h.2.1
    rw [List.length_cons]; omega
theorem Cov.congr {xs ys : Array Keyed} : ∀ {L : List (Nat × Nat × Nat)} {a b : Nat}, Cov xs L a b → (∀ k, a ≤ k → k < b → K ys k = K xs k) → Cov ys L a b
  | [], a, b, h, _ => h
  | e :: r, a, b, h, hk => by
    have h4 := Cov.le h.2.2.2
    refine ⟨h.1, h.2.1, fun i j h1 h2 => ?_, Cov.congr h.2.2.2 (fun k h1 h2 => hk k (by omega) h2)⟩
    rw [hk _ (by omega) (by omega), hk _ (by omega) (by omega)]
    exact h.2.2.1 i j h1 h2
theorem Cov.app {xs : Array Keyed} : ∀ {L M : List (Nat × Nat × Nat)} {a b : Nat}, Cov xs (L ++ M) a b ↔ ∃ c, Cov xs L a c ∧ Cov xs M c b
  | [], M, a, b => ⟨fun h => ⟨a, rfl, h⟩, fun ⟨c, h1, h2⟩ => by rw [show a = c from h1]; exact h2⟩
  | e :: r, M, a, b => by
    constructor
    · rintro ⟨h1, h2, h3, h4⟩
      obtain ⟨c, h5, h6⟩ := Cov.app.mp h4
      exact ⟨c, ⟨h1, h2, h3, h5⟩, h6⟩
    · rintro ⟨c, ⟨h1, h2, h3, h4⟩, h5⟩
      exact ⟨h1, h2, h3, Cov.app.mpr ⟨c, h4, h5⟩⟩
theorem Cov.same {xs : Array Keyed} : ∀ {L M : List (Nat × Nat × Nat)} {a b : Nat}, L.map (fun e => (e.1, e.2.1)) = M.map (fun e => (e.1, e.2.1)) → Cov xs L a b → Cov xs M a b
  | [], [], a, b, _, h => h
  | [], _ :: _, _, _, e, _ => by simp at e
  | _ :: _, [], _, _, e, _ => by simp at e
  | e :: r, f :: q, a, b, he, h => by
    rw [List.map_cons, List.map_cons] at he
    obtain ⟨h1, h2⟩ := List.cons.inj he
    have h3 : e.1 = f.1 := (Prod.mk.inj h1).1
    have h4 : e.2.1 = f.2.1 := (Prod.mk.inj h1).2
    obtain ⟨g1, g2, g3, g4⟩ := h
    exact ⟨h3 ▸ g1, h4 ▸ g2, h4 ▸ g3, by rw [← h4]; exact Cov.same h2 g4⟩
theorem mod_map (L : List (Nat × Nat × Nat)) (i pw : Nat) : (L.modify i fun e => (e.1, e.2.1, pw)).map (fun e => (e.1, e.2.1)) = L.map (fun e => (e.1, e.2.1)) := by
  apply List.ext_getElem?
  intro k
  simp only [List.getElem?_map, List.getElem?_modify]
  cases L[k]? with
  | none => rfl
  | some e => simp only [Option.map_some]; split <;> rfl
section
variable {prog : Program} {w : World} {A : Around} {E : Value → Shared → Prop} {s : Shared} {a₀ : Array Keyed} {P : Array (Nat × Nat × Nat)}
theorem mat_cov {st : SortSt} {i b : Nat} {Q : Bool → SortSt → Prop} (h0 : IntKeys a₀) (hB : SP a₀ P st) (hC : Cov (arrOf st) P.toList 0 b) (hb : b ≤ a₀.size) (hi : i + 1 < P.size)
    (h : ∀ (st' : SortSt) (P' : Array (Nat × Nat × Nat)), SP a₀ P' st' → Cov (arrOf st') P'.toList 0 b → P'.size + 1 = P.size → (∀ k, b ≤ k → K (arrOf st') k = K (arrOf st) k) → Q true st') :
    wpS (model prog w) A E s (mergeAt' i) Q st := by
  have hl : P.toList.length = P.size := Array.length_toList
  have eL : P.toList = P.toList.take i ++ (P[i] :: P[i + 1] :: P.toList.drop (i + 1 + 1)) := by
    have e1 := List.drop_eq_getElem_cons (l := P.toList) (i := i) (by omega)
    have e2 := List.drop_eq_getElem_cons (l := P.toList) (i := i + 1) (by omega)
    rw [e2] at e1
    simp only [Array.getElem_toList] at e1
    rw [← e1, List.take_append_drop]
  obtain ⟨⟨sa, na, pw⟩, he1⟩ : ∃ e, P[i] = e := ⟨_, rfl⟩
  obtain ⟨⟨sb, nb, q⟩, he2⟩ : ∃ e, P[i + 1] = e := ⟨_, rfl⟩
  rw [he1, he2] at eL
  have p1 : P[i]? = some (sa, na, pw) := by rw [Array.getElem?_eq_getElem (by omega), he1]
  have p2 : P[i + 1]? = some (sb, nb, q) := by rw [Array.getElem?_eq_getElem hi, he2]
  have hlen : (P.toList.take i).length = i := by rw [List.length_take]; omega
  generalize P.toList.take i = L1 at *
  generalize P.toList.drop (i + 1 + 1) = L2 at *
  rw [eL] at hC
  obtain ⟨c, g1, g2, g3, g4, g5, g6, g7, g8⟩ := Cov.app.mp hC
  dsimp only at g2 g3 g4 g5 g6 g7 g8
  subst g2
  have z8 := g8.le
  have z1 := g1.le
  refine mat_spec h0 hB p1 p2 g5 g3 g6 (by omega) g4 (by rw [g5]; exact g7) (fun st' hB' hs' hk' => ?_)
  have eP : ((P.setIfInBounds i (sa, na + nb, pw)).eraseIdxIfInBounds (i + 1)).toList = L1 ++ ((sa, na + nb, pw) :: L2) := by
    rw [Array.toList_eraseIdxIfInBounds, Array.toList_setIfInBounds, eL]
    subst hlen
    rw [List.set_append_right _ _ (Nat.le_refl _), Nat.sub_self, List.set_cons_zero, List.eraseIdx_append_of_length_le (by omega)]
    rw [show L1.length + 1 - L1.length = 1 by omega]
    rfl
  refine h st' _ hB' ?_ ?_ (fun k hk => hk' k (.inr (by omega)))
  · rw [eP]
    refine Cov.app.mpr ⟨sa, g1.congr (fun k _ h2 => hk' k (.inl h2)), rfl, by dsimp only; omega, hs', ?_⟩
    dsimp only
    rw [show sa + (na + nb) = sa + na + nb by omega]
    exact g8.congr (fun k h1 _ => hk' k (.inr (by omega)))
  · rw [← Array.length_toList, eP, ← hl, eL]
    simp only [List.length_append, List.length_cons]; omega
theorem Cov.push {xs : Array Keyed} {L : List (Nat × Nat × Nat)} {lo n q : Nat} (h : Cov xs L 0 lo) (hn : 1 ≤ n) (hs : Sg xs lo n) : Cov xs (L ++ [(lo, n, q)]) 0 (lo + n) :=
  Cov.app.mpr ⟨lo, h, rfl, hn, hs, rfl⟩
theorem sub2 {n : Nat} (h : n > 1) : n - 2 + 1 < n := by omega
theorem runs_spec {st : SortSt} {Q : Unit → SortSt → Prop} (h0 : IntKeys a₀) (hB : SP a₀ #[] st) (h2 : 2 ≤ a₀.size)
    (h : ∀ st', (arrOf st').Perm a₀ → failedOf st' = none → SortedTo (arrOf st') a₀.size → Q () st') : wpS (model prog w) A E s sortRuns' Q st := by
  have hz : (arrOf st).size = a₀.size := hB.size
  refine wpS_bind (wpS_get ?_)
  extract_lets -underBinder sz mr lo0
  have hz' : sz = a₀.size := hz
  clear_value sz mr
  subst hz'
  dsimp -zeta only [lo0]
  refine wpS_bind (wpS_mono (wpS_forRange (I := fun x c st' => ∃ lo P, c = (none, lo) ∧ SP a₀ P st' ∧ Cov (arrOf st') P.toList 0 lo ∧ lo ≤ a₀.size ∧ x ≤ lo)
    (Q := fun c st' => ∃ P, c = (none, a₀.size) ∧ SP a₀ P st' ∧ Cov (arrOf st') P.toList 0 a₀.size) ?step ?fin ⟨0, #[], rfl, hB, rfl, Nat.zero_le _, Nat.le_refl _⟩) ?post)
  case fin =>
    rintro c st' ⟨lo, P, rfl, hB', hC, hlo, hx⟩
    have : lo = a₀.size := by omega
    subst this
    exact ⟨P, rfl, hB', hC⟩
  case step =>
    clear hB hz
    rintro x c st' _ _ ⟨lo, P, rfl, hB, hC, hlo, hx⟩
    extract_lets -underBinder lo1
    dsimp -zeta only [lo1]
    refine wpS_ite (fun e => ?_) (fun e => ?_)
    · cases Nat.le_antisymm hlo e
      exact wpS_pure ⟨P, rfl, hB, hC⟩
    have hlt := Nat.lt_of_not_le e
    refine wpS_bind (run_spec h0 (Nat.le_of_eq (Nat.add_sub_cancel' hlo)) (Nat.sub_pos_of_lt hlt) hB (fun m st1 hB1 hm1 hm2 hs1 hk1 => ?_))
    have hC1 := hC.congr (fun k _ h2 => hk1 k h2)
    clear hB hC hk1 e
    dsimp -zeta only
    extract_lets -underBinder n0 jp
    refine wpS_jpG (jp := jp ()) (fun n st2 => SP a₀ P st2 ∧ Sg (arrOf st2) lo n ∧ Cov (arrOf st2) P.toList 0 lo ∧ 1 ≤ n ∧ n ≤ a₀.size - lo) (fun n st2 g => ?_) (fun hj => wpS_ite (fun e1 => ?_) (fun e1 => hj _ _ ⟨hB1, hs1, hC1, hm1, hm2⟩))
    rotate_left
    · clear_value jp
      have hf : m ≤ min (a₀.size - lo) mr := Nat.le_min.mpr ⟨hm2, Nat.le_of_lt e1⟩
      refine wpS_bind (wpS_lift (wpAny_rule ⟨rfl, ?_⟩))
      refine wpS_bind (bin_spec h0 (Nat.le_trans (Nat.add_le_add_left (Nat.min_le_left _ _) _) (Nat.le_of_eq (Nat.add_sub_cancel' hlo))) hf hB1 hs1 (fun st2 hB2 hs2 hk2 => ?_))
      exact wpS_ite (fun e => absurd e (by decide)) (fun _ => hj _ _ ⟨hB2, hs2, hC1.congr (fun k _ h2 => hk2 k h2), Nat.le_trans hm1 hf, Nat.min_le_left _ _⟩)
    dsimp -zeta only [jp]
    clear jp hB1 hC1 hs1 hm1 hm2
    obtain ⟨hB2, hs2, hC2, hn1, hn2⟩ := g
    have hx1 := Nat.lt_of_le_of_lt hx (Nat.lt_add_of_pos_right hn1)
    replace hn2 : lo + n ≤ a₀.size := Nat.le_trans (Nat.add_le_add_left hn2 _) (Nat.le_of_eq (Nat.add_sub_cancel' hlo))
    refine wpS_bind (wpS_get ?_)
    generalize hb : (pendingOf st2).back? = bk
    cases bk with
    | none =>
      refine wpS_bind (wpS_modify (wpS_pure ⟨lo + n, _, rfl, ⟨hB2.perm, hB2.kind, hB2.failed, rfl⟩, ?_, hn2, hx1⟩))
      show Cov (arrOf st2) ((pendingOf st2).push (lo, n, 0)).toList 0 (lo + n)
      rw [Array.toList_push, hB2.pend]
      exact hC2.push hn1 hs2
    | some e =>
      obtain ⟨s1, n1, q1⟩ := e
      refine wpS_bind (wpS_mono (wpS_forRange (I := fun x c st3 => ∃ P, c = (none, ()) ∧ SP a₀ P st3 ∧ Cov (arrOf st3) P.toList 0 lo ∧ Sg (arrOf st3) lo n)
        (Q := fun c st3 => ∃ P, c = (none, ()) ∧ SP a₀ P st3 ∧ Cov (arrOf st3) P.toList 0 lo ∧ Sg (arrOf st3) lo n) ?_ (fun _ _ hh => hh) ⟨P, rfl, hB2, hC2, hs2⟩) ?_)
      · rintro y c st3 _ _ ⟨P3, rfl, hB3, hC3, hs3⟩
        refine wpS_bind (wpS_get ?_)
        dsimp only
        generalize hg : (if (pendingOf st3).size > 1 then (pendingOf st3)[(pendingOf st3).size - 2]? else none) = o
        cases o with
        | none => exact wpS_pure ⟨P3, rfl, hB3, hC3, hs3⟩
        | some e =>
          have hp : (pendingOf st3).size > 1 := Decidable.byContradiction fun hh => by rw [if_neg hh] at hg; cases hg
          obtain ⟨f1, f2, older⟩ := e
          refine wpS_ite (fun _ => wpS_pure ⟨P3, rfl, hB3, hC3, hs3⟩) (fun _ => ?_)
          refine wpS_bind (mat_cov h0 hB3 hC3 hlo (by rw [← hB3.pend]; exact sub2 hp) (fun st4 P4 hB4 hC4 _ hk4 => ?_))
          exact wpS_ite (fun e => absurd e (by decide)) (fun _ => wpS_pure ⟨P4, rfl, hB4, hC4, fun i j h1 h2 => by
            rw [hk4 _ (Nat.le_add_right _ _), hk4 _ (Nat.le_add_right _ _)]
            exact hs3 i j h1 h2⟩)
      · rintro c st3 ⟨P3, rfl, hB3, hC3, hs3⟩
        refine wpS_bind (wpS_modify (wpS_bind (wpS_modify (wpS_pure ⟨lo + n, _, rfl, ⟨hB3.perm, hB3.kind, hB3.failed, rfl⟩, ?_, hn2, hx1⟩))))
        refine (fun (hh : Cov (arrOf st3) (((pendingOf st3).modify ((pendingOf st3).size - 1) _).push (lo, n, 0)).toList 0 (lo + n)) => hh) ?_
        rw [Array.toList_push, Array.toList_modify, hB3.pend]
        exact Cov.push (hC3.same (mod_map _ _ _).symm) hn1 hs3
  case post =>
    clear hB hz
    rintro c st' ⟨P, rfl, hB, hC⟩
    refine wpS_bind (wpS_mono (wpS_forRange (I := fun x c st' => ∃ P, c = (none, ()) ∧ SP a₀ P st' ∧ Cov (arrOf st') P.toList 0 a₀.size ∧ P.size + x ≤ a₀.size)
      (Q := fun c st' => ∃ P, c = (none, ()) ∧ SP a₀ P st' ∧ Cov (arrOf st') P.toList 0 a₀.size ∧ P.size ≤ 1) ?_ ?_ ⟨P, rfl, hB, hC, ?_⟩) ?_)
    · clear hB hC
      rintro x c st' _ _ ⟨P, rfl, hB, hC, hx⟩
      refine wpS_bind (wpS_get ?_)
      have hp := hB.pend
      refine wpS_ite (fun e => wpS_pure ⟨P, rfl, hB, hC, by rw [← hp]; exact e⟩) (fun e => ?_)
      have e : ¬ (pendingOf st').size ≤ 1 := e
      rw [hp] at e
      have hq : (pendingOf st').size = P.size := by rw [hp]
      refine wpS_bind (mat_cov h0 hB hC (Nat.le_refl _) ?_ (fun st4 P4 hB4 hC4 hs4 _ => ?_))
      · have hi9 : ∀ (c : Prop) [Decidable c], (if c then (pendingOf st').size - 2 - 1 else (pendingOf st').size - 2) + 1 < P.size := fun c _ => by split <;> omega
        exact hi9 _
      exact wpS_ite (fun e => absurd e (by decide)) (fun _ => wpS_pure ⟨P4, rfl, hB4, hC4, by omega⟩)
    · rintro c st' ⟨P, rfl, hB, hC, hx⟩
      exact ⟨P, rfl, hB, hC, by omega⟩
    · have := hC.le
      rw [Array.length_toList] at this
      omega
    · clear hB hC
      rintro c st' ⟨P, rfl, hB, hC, hx⟩
      refine wpS_pure (h st' hB.perm hB.failed ?_)
      rw [← Array.length_toList] at hx
      generalize P.toList = L at *
      match L, hx, hC with
      | [], _, hC => exact absurd hC (by simp only [Cov]; omega)
      | [e], _, hC =>
        obtain ⟨h1, h3, h4, h5⟩ := hC
        have h5 : 0 + e.2.1 = a₀.size := h5
        intro i j hij hj
        have := h4 i j hij (by omega)
        rwa [Nat.zero_add, Nat.zero_add] at this
      | _ :: _ :: _, hx, _ => simp at hx
end
end
-- part Srt0
section
section
variable {prog : Program} {w : World} {A : Around} {E : Value → Shared → Prop} {s : Shared} {h₀ : Heap} {L l : Addr} {m : Str → Option Value} {news : List (Addr × Obj)} {vs : List Value} {ns : List Int} {n : Nat} {Q : Value → Shared → Prop}
theorem sort_run (hI : IntsAre vs ns) (hz : 2 ≤ vs.length) {Q : Unit × SortSt → Shared → Prop}
    (h : ∀ st', (∃ ns', IntsAre ((arrOf st').map (·.2)).toList ns' ∧ ns'.Perm ns ∧ ns'.Pairwise (· ≤ ·)) → (arrOf st').size = vs.length → failedOf st' = none → Q ((), st') s) :
    wpAny (model prog w) A (sortRuns'.run (SortSt.mk' oneType' (vs.toArray.zip vs.toArray) #[] 7 none)) Q E s := by
  refine wpAny_mono (runs_spec (a₀ := pairsOf vs) (st := SortSt.mk' oneType' (vs.toArray.zip vs.toArray) #[] 7 none) (Q := fun _ st' => (∃ ns', IntsAre ((arrOf st').map (·.2)).toList ns' ∧ ns'.Perm ns ∧ ns'.Pairwise (· ≤ ·)) ∧ (arrOf st').size = vs.length ∧ failedOf st' = none)
    hI.intKeys ⟨Array.Perm.refl _, rfl, rfl, rfl⟩ (by rw [pairsOf_size]; exact hz) (fun st' h1 h2 h3 => ⟨sorted_out hI h1 h3, h1.size_eq.trans (pairsOf_size vs), h2⟩)) ?_ fun _ _ e => e
  rintro ⟨⟨⟩, st'⟩ s' ⟨rfl, h1, h2, h3⟩
  exact h st' h1 h2 h3
theorem sort_tree {a : Addr} {P : Fin → Shared → Prop} (ho : s.heap.get? a = some (seqObj "list" vs.toArray n)) (hI : IntsAre vs ns) (hz : vs.length < 2000)
    (h : ∀ (out : Array Value) (ns' : List Int), IntsAre out.toList ns' → ns'.Perm ns → ns'.Pairwise (· ≤ ·) → P (.done (.ret .none)) { s with heap := sortedHeap s.heap a vs out }) :
    wpAny (model prog w) A (Builtin.«list.sort» ⟨[.ref a], []⟩) P E s := by
  have ha : a < s.heap.objs.size := Heap.lt_size ho
  have hl : vs.toArray.size = vs.length := List.size_toArray
  rw [list_sort_plain]
  refine wpAny_bind (listItems_at ho rfl (wpAny_bind (listUpdate_at ho rfl ?_ (hsz := by rw [hl, sizeLine_eq]; omega))))
  obtain ⟨e1, ho1⟩ : ∃ e1, (s.heap.update a (Obj.mapSeq fun _ => #[])).get? a = some (seqObj "list" #[] e1) := ⟨_, get?_update_seq ho (fun _ => #[])⟩
  refine wpAny_bind (seqEpoch_at ho1 rfl (wpAny_bind (wpAny_newTuple (wpAny_bind (wpAny_newList (wpAny_holding ?_))))))
  have ho6 : (((s.heap.update a (Obj.mapSeq fun _ => #[])).push (seqObj "tuple" vs.toArray 0)).push (seqObj "list" #[] 0)).get? a = some (seqObj "list" #[] e1) := by
    rw [Heap.get?_push_ne _ _ _ (by rw [size_push', Heap.size_update]; exact Nat.ne_of_lt (Nat.lt_succ_of_lt ha)), Heap.get?_push_ne _ _ _ (by rw [Heap.size_update]; exact Nat.ne_of_lt ha)]
    exact ho1
  show wpAny (model prog w) A _ P E { s with heap := ((s.heap.update a (Obj.mapSeq fun _ => #[])).push (seqObj "tuple" vs.toArray 0)).push (seqObj "list" #[] 0) }
  dsimp only
  by_cases h2 : vs.toArray.size < 2
  · rw [if_pos h2, if_pos h2]
    refine wpAny_bind (wpAny_pure ?_)
    rw [StateT.run_pure]
    refine wpAny_bind (wpAny_pure (wpAny_bind (seqEpoch_at ho6 rfl (wpAny_bind (listUpdate_at ho6 rfl ?_ (hsz2 := by rw [Array.size_map]; show (pairsOf vs).size ≤ _; rw [pairsOf_size, sizeLine_eq]; omega))))))
    simp only [bne_self_eq_false, Bool.false_eq_true, if_false]
    have hs : SortedTo (pairsOf vs) (pairsOf vs).size := fun i j h3 h4 => by
      rw [pairsOf_size] at h4
      have : i = j := by omega
      subst this; exact Int.le_refl _
    obtain ⟨ns', g1, g2, g3⟩ := sorted_out hI (Array.Perm.refl _) hs
    exact wpAny_pure (h _ ns' g1 g2 g3)
  · rw [if_neg h2, if_neg h2]
    obtain ⟨v₁, v₂, rest, e⟩ : ∃ v₁ v₂ rest, vs = v₁ :: v₂ :: rest := by
      match vs, hl, h2 with
      | [], _, h2 => simp at h2
      | [_], _, h2 => simp at h2
      | v₁ :: v₂ :: rest, _, _ => exact ⟨v₁, v₂, rest, rfl⟩
    have hk : keyKind' vs.toArray = pure oneType' := by subst e; exact keyKind_ints hI
    rw [hk]
    refine wpAny_bind (wpAny_pure (wpAny_bind (sort_run hI (by omega) fun st' g1 g4 hf => ?_)))
    obtain ⟨ns', g1, g2, g3⟩ := g1
    dsimp only
    refine wpAny_bind (seqEpoch_at ho6 rfl (wpAny_bind (listUpdate_at ho6 rfl ?_ (hsz2 := by refine Nat.le_trans (Nat.le_of_eq (Array.size_map ..)) ?_; rw [g4, sizeLine_eq]; omega))))
    rw [hf]
    simp only [bne_self_eq_false, Bool.false_eq_true, if_false]
    exact wpAny_pure (h _ ns' g1 g2 g3)
theorem sorted_any (F : Fr h₀ L s.heap m) (N : News h₀ L s.heap news) (hm : (l, listOf vs.toArray n) ∈ news) (hi : IntsAre vs ns) (hz : vs.length < 2000)
    (h : ∀ D vs' ns' c h', Fr h₀ L h' m → News h₀ L h' ((D, listOf vs'.toArray c) :: news) → (∀ q ∈ news, q.1 < D) → IntsAre vs' ns' → ns'.Perm ns → ns'.Pairwise (· ≤ ·) → Q (.ref D) { s with heap := h' }) :
    wpAny (model prog w) A (call (.builtin "sorted") [.ref l]) Q E s := by
  have hl : s.heap.IsList l vs.toArray := ⟨_, N.get hm, rfl, n, rfl⟩
  refine Calls.call_function_entry kind_sorted plain_sorted entry_sorted (args_sorted1 _) ?_
  unfold Builtin.«sorted»
  refine wpAny_bind (m := checkCount "sorted" 1 1 _) (wpAny_pure (wpAny_bind (collect_list hl ?_ (hsz := by rw [sizeLine_eq]; omega))))
  refine wpAny_bind (wpAny_newList ?_)
  have hsz : ((s.heap.push (seqObj "list" #[] 0)).update s.heap.objs.size (Obj.mapSeq (· ++ vs.toArray))).objs.size = s.heap.objs.size + 1 := by
    rw [Heap.size_update, size_push']
  have hoL : (((s.heap.push (seqObj "list" #[] 0)).update s.heap.objs.size (Obj.mapSeq (· ++ vs.toArray))).push (seqObj "list" vs.toArray 0)).get? (s.heap.objs.size + 1) = some (seqObj "list" vs.toArray 0) := by
    rw [← hsz]; exact Heap.get?_push_size _ rfl
  show wpAny _ _ _ _ _ { s with heap := ((s.heap.push (seqObj "list" #[] 0)).update s.heap.objs.size (Obj.mapSeq (· ++ vs.toArray))).push (seqObj "list" vs.toArray 0) }
  rw [hsz]
  refine wpAny_bind (wpAny_holding (wpAny_call_entry slot_list_sort ⟨_, hoL, rfl⟩ entry_list_sort (sort_tree hoL hi hz fun out ns' a1 a2 a3 => ⟨_, rfl, ?_⟩) (args_list_sort _)))
  obtain ⟨e, he⟩ := sortedAll_at s.heap vs out
  refine wpAny_pure ⟨_, rfl, ?_⟩
  exact h _ out.toList ns' e _ (F.kept fun _ _ => sortedAll_old) (N.kept_cons F (fun _ _ => sortedAll_old) (Nat.le_succ _) he) (fun p hp => Nat.lt_succ_of_lt (Heap.lt_size (N p hp).1)) a1 a2 a3
end
end
-- part Q1
section
theorem fresh_Q1 : True := by
  w_top off
  trivial
local macro_rules | `(tactic| walk_at "subscriptTail") => `(tactic| (k_here; k_dflt (walk_at "# int_item kmavoo_"; k_whole; intro t9)))
local macro_rules | `(tactic| walk_at "compareOp Eq ref ref") => `(tactic| (k_here; k_dflt (refine' ints_eqL ?N ?m ?I ?mb (us := []) IntsAre.nil ?u ?_; (case N => k_asm); (case m => first | k_mem | kst_mem); (case mb => first | k_mem | kst_mem); (case I => assumption); (case u => ktr_units); k_whole)))
local macro_rules | `(tactic| walk_at "compareOp In int ref") => `(tactic| (k_here; k_dflt (walk_at "# kdf_in T_"; k_whole)))
local macro_rules | `(tactic| walk_at "setItem ref int") => `(tactic| (k_here; k_dflt (walk_at "# kdf_setItem kkUaao_"; k_whole; intro h' o' kvs' F' N' d' f')))
local macro_rules | `(tactic| walk_at "pyIter ref") => `(tactic| refine Stop.out ?_)
theorem table_call {w : World} {mean : ExcName → Option Value} {mg mb : Str → Option Value}
    {dp un : Nat} {gd : Option (List Code)} {cn : Str} {cs : Scope} {a : Addr} {ccd : Value} {cl : List (Str × Addr)} {outer : List Env} {A₀ : Around} {base h₀ : Heap} {L : Addr} {m : Str → Option Value} {s : Shared} {Q E : Value → Shared → Prop} {news : List (Addr × Obj)}
    (B : Below A₀ base outer h₀) (F : Fr h₀ L s.heap m) (X : (hd.heap_39 w.params).In h₀) (N : News h₀ L s.heap news)
    (T : Top hd.view_39 (looseW hd.view_39 [Str.ofString "SHORT_ESCAPES", Str.ofString "_law_parts"]) mean mg mb h₀) (hkf : cs.kind = .function)
    {ls lb : Addr} {vs us : List Value} {n1 n2 : Nat} {src bec : List Int} {del : Bool} (hs : (ls, listOf vs.toArray n1) ∈ news) (Is : IntsAre vs src) (hb : (lb, listOf us.toArray n2) ∈ news) (Ib : IntsAre us bec) (hvs : vs.length < 2000) (hus : us.length < 2000)
    (hdp : dp + 2 < recursionLimit) (hun : un + 100 < cLine)
    (hret : ∀ d o kvs h' tk', (d == sysModules) = false → o.IsDictOf (PySem.intKind Challenge.rw_qd0140_01.row.prog w) kvs → FlatPairs PyData.int kvs (kdfD (tableOf src bec del src.length)) → (∀ p ∈ news, p.1 < d) → Fr h₀ L h' m → News h₀ L h' ((d, o) :: news) → Q (.ref d) { s with heap := h', toks := tk' }) :
    wpAny (model Challenge.rw_qd0140_01.row.prog w) (ktrTop dp un gd cn cs L a ccd cl outer) (call (.ref 157) [.ref ls, .ref lb, .bool del]) Q E s := by
  revert X; k_fill; intro X
  have hsl := Is.length
  have hbl := Ib.length
  refine wpAny_call ?_
  k_dflt (refine' code_def ?k1 ?k2 ?k3 ?k4 ?k5 ?kA ?kF ?kK ?k6 ?k7 ?k8 ?k9 ?kB ?_ ?c2 ?c3 ?c4 ?c5; (case kA => exact rfl); (case kF => exact rfl); (case kK => first | exact rfl | assumption); (case k1 => k_asm); (case k2 => k_asm); (case k3 => k_asm); (case k4 => k_asm); (case k5 => k_asm); (case k6 => k_is); (case k7 => k_is); (case k8 => first | ((try simp only [depth_under_make, depth_under_kw, depth_in1, depth_deeper, depth_caller]); (try dsimp only [ktrTop]); omega) | ktr_room); (case k9 => exact BindsTo.of_eq rfl); (case c5 => decide); (case kB => exact locs rfl); (case c2 => exact rfl); (case c3 => exact rfl); (case c4 => exact rfl); k_whole; intro g' L' h' FG' F' N' B' X' T'; (try dsimp only); (try k_fold))
  k_steps
  refine Stop.in ?_
  rename_i d _ o ld lo _ _ Id If _ _ _ _ _ _ _ _ hr _ _ _
  rename Fr _ _ _ _ => lF'
  rename News _ _ _ _ => lN'
  have hs9 := range_small (a := 0) (b := (vs.length : Int)) (by omega) (by omega) (by omega) (by omega)
  with_unfolding_all refine fr_range (σ := Obj × List (Int × Value)) (fun k c => (d, c.1) :: news) (fun k c => []) [Str.ofString "code"] (fun k c => c.1.IsDictOf (PySem.intKind Challenge.rw_qd0140_01.row.prog w) c.2 ∧ FlatPairs PyData.int c.2 (kdfD (tableOf src bec del k))) (o, []) rfl hr hs9 (range_size _ _) lF' lN' (List.forall_mem_nil _) ⟨Id, If⟩ ?_ ?_
  · clear lF' lN'
    rintro k ⟨o2, kv2⟩ u2 t2 h2 tk2 own hk hoff ⟨hq1, hq2⟩ F2 N2
    (try dsimp only [kstB] at *)
    simp only [List.cons_append] at N2
    have hk2 : k < vs.length := by omega
    have hne : ∀ p ∈ news ++ own, p.1 ≠ d := by
      intro p hp
      rcases List.mem_append.mp hp with hp | hp
      · exact Nat.ne_of_lt (ld p hp)
      · exact hoff p hp d (.head _)
    have htl := table_len src bec del k
    try k_unmd
    try k_fold
    k_steps
    all_goals refine Stop.in ?_
    all_goals dsimp only [InvPostG]
    · rename News _ _ _ _ => N9
      refine fr_end (o2, kv2) (by assumption) N9 (fun p hp => by rw [← List.cons_append]; exact List.mem_append_left _ hp) (fun p hp => .tail _ (List.mem_append_right _ hp)) hoff (List.forall_mem_nil _) (by kst_same) ⟨hq1, ?_⟩
      dsimp only
      rw [table_has2 (kk := 0 + (k : Int)) (by omega) (by assumption)]; exact hq2
    all_goals (
      rename_i o9 kv9 _ N9 hd9 hf9
      refine fr_end (o9, kv9) (by assumption) N9 ?_ ?_ hoff (List.forall_mem_nil _) (by kst_same) ⟨hd9, ?_⟩
      · intro p hp; rcases List.mem_cons.mp hp with rfl | hp <;> simp [*]
      · intro p hp; simp [hp]
      · dsimp only
        rw [table_put2 (kk := 0 + (k : Int)) (by omega) (by assumption) ?_]
        · exact hf9
        · first
            | exact end_in (kk := 0 + (k : Int)) (by omega) (by omega) hbl (by with_reducible assumption)
            | exact end_del (kk := 0 + (k : Int)) (by omega) (by omega) hbl (by with_reducible assumption) (by with_reducible assumption)
            | exact end_last (kk := 0 + (k : Int)) (by omega) (by omega) hbl (by with_reducible assumption) (by with_reducible assumption) (by with_reducible assumption)
            | exact end_nil (kk := 0 + (k : Int)) (by omega) (by omega) hbl (by with_reducible assumption) (by with_reducible assumption) (by with_reducible assumption)
            | fail "end")
  · clear lF' lN'
    rintro ⟨o2, kv2⟩ u2 h2 tk2 ⟨hq1, hq2⟩ F2 N2
    (try dsimp only [kstB] at *)
    try k_unmd
    try k_fold
    k_steps
    rename News h₀ L _ _ => N9
    have e : ((vs.length : Int) - 0).toNat = src.length := by omega
    rw [e] at hq2
    exact hret _ _ _ _ _ lo hq1 hq2 ld (by assumption) N9
end
-- part Q2
section
theorem fresh_Q2 : True := by
  w_top off
  trivial
local macro_rules | `(tactic| walk_at "no such key") => `(tactic| skip)
local macro_rules | `(tactic| walk_at "call builtin:list.append") => `(tactic| (k_here; (with_reducible show wpAny _ _ (call (Value.builtin _) [Value.ref _, _]) _ _ _); k_dflt (walk_at "# append_K kkh_s"; k_whole); intro h' F' N'))

theorem take_next {ns : List Int} {k : Nat} (hk : k < ns.length) : ns.take (k + 1) = ns.take k ++ [ns.getD k 0] := by
  rw [List.take_add_one, List.getD_eq_getElem?_getD, List.getElem?_eq_getElem hk]; rfl
theorem last_mem {f : List Int} (h : f ≠ []) : f.getD (f.length - 1) 0 ∈ f := by
  have hl : f.length - 1 < f.length := by have := List.length_pos_iff.mpr h; omega
  rw [List.getD_eq_getElem?_getD, List.getElem?_eq_getElem hl]
  exact List.getElem_mem hl
theorem le_last {f : List Int} (hp : f.Pairwise (· < ·)) : ∀ x ∈ f, x ≤ f.getD (f.length - 1) 0 := by
  intro x hx
  obtain ⟨i, hi, rfl⟩ := List.getElem_of_mem hx
  have hl : f.length - 1 < f.length := by omega
  rw [List.getD_eq_getElem?_getD, List.getElem?_eq_getElem hl]
  show f[i] ≤ f[f.length - 1]
  rcases Nat.lt_or_ge i (f.length - 1) with h | h
  · exact Int.le_of_lt (List.pairwise_iff_getElem.mp hp i (f.length - 1) hi hl h)
  · have : i = f.length - 1 := by omega
    subst this; exact Int.le_refl _
theorem le_next {ns : List Int} {k : Nat} (ho : ns.Pairwise (· ≤ ·)) (hk : k < ns.length) : ∀ x ∈ ns.take k, x ≤ ns.getD k 0 := by
  intro x hx
  obtain ⟨i, hi, rfl⟩ := List.getElem_of_mem hx
  have hi2 : i < k := by rw [List.length_take] at hi; omega
  rw [List.getD_eq_getElem?_getD, List.getElem?_eq_getElem hk, List.getElem_take]
  exact List.pairwise_iff_getElem.mp ho i k (by omega) hk hi2
theorem once_push {ns f : List Int} {k : Nat} (ho : ns.Pairwise (· ≤ ·)) (hk : k < ns.length) (hq2 : f.Pairwise (· < ·)) (hq3 : ∀ x, x ∈ f ↔ x ∈ ns.take k) (hc : f = [] ∨ f.getD (f.length - 1) 0 ≠ ns.getD k 0) :
    (f ++ [ns.getD k 0]).Pairwise (· < ·) ∧ ∀ x, x ∈ f ++ [ns.getD k 0] ↔ x ∈ ns.take (k + 1) := by
  refine ⟨?_, fun x => by rw [take_next hk, List.mem_append, List.mem_append, hq3]⟩
  rw [List.pairwise_append]
  refine ⟨hq2, List.pairwise_singleton _ _, fun x hx y hy => ?_⟩
  rw [List.mem_singleton.mp hy]
  rcases hc with rfl | hc
  · cases hx
  · have h1 := le_last hq2 x hx
    have h2 := le_next ho hk _ ((hq3 _).mp (last_mem (List.ne_nil_of_mem hx)))
    omega
theorem once_skip {ns f : List Int} {k : Nat} (hk : k < ns.length) (hq3 : ∀ x, x ∈ f ↔ x ∈ ns.take k) (hn : f ≠ []) (hc : f.getD (f.length - 1) 0 = ns.getD k 0) : ∀ x, x ∈ f ↔ x ∈ ns.take (k + 1) := by
  intro x
  rw [take_next hk, List.mem_append, hq3, List.mem_singleton]
  constructor
  · exact .inl
  · rintro (h | rfl)
    · exact h
    · rw [← hc]; exact (hq3 _).mp (last_mem hn)
theorem getD_last {f : List Int} {u : Nat} (h : u = f.length) : f.getD ((u : Int) - 1).toNat 0 = f.getD (f.length - 1) 0 := by
  rw [show ((u : Int) - 1).toNat = f.length - 1 by omega]
local macro_rules | `(tactic| walk_at "subscriptTail") => `(tactic| (k_here; k_dflt (walk_at "# int_item kmavoo_"; k_whole; intro t9)))
local macro_rules | `(tactic| walk_at "compareOp Eq ref ref") => `(tactic| (k_here; k_dflt (refine' ints_eqL ?N ?m ?I ?mb (us := []) IntsAre.nil ?u ?_; (case N => k_asm); (case m => first | k_mem | kst_mem); (case mb => first | k_mem | kst_mem); (case I => assumption); (case u => ktr_units); k_whole)))
local macro_rules | `(tactic| walk_at "call builtin:sorted") => `(tactic| (k_here; k_dflt (walk_at "# sorted_any kkmao_"; k_whole; intro D9 v9 n9 c9 h9 F9 N9 l9 i9 p9 o9; (try k_lt l9))))
local macro_rules | `(tactic| walk_at "pyIter ref") => `(tactic| refine Stop.out ?_)
theorem once_call {w : World} {mean : ExcName → Option Value} {mg mb : Str → Option Value}
    {dp un : Nat} {gd : Option (List Code)} {cn : Str} {cs : Scope} {a : Addr} {ccd : Value} {cl : List (Str × Addr)} {outer : List Env} {A₀ : Around} {base h₀ : Heap} {L : Addr} {m : Str → Option Value} {s : Shared} {Q E : Value → Shared → Prop} {news : List (Addr × Obj)}
    (B : Below A₀ base outer h₀) (F : Fr h₀ L s.heap m) (X : (hd.heap_39 w.params).In h₀) (N : News h₀ L s.heap news)
    (T : Top hd.view_39 (looseW hd.view_39 [Str.ofString "SHORT_ESCAPES", Str.ofString "_law_parts"]) mean mg mb h₀) (hkf : cs.kind = .function)
    {lc : Addr} {vs : List Value} {n1 : Nat} {src : List Int} (hs : (lc, listOf vs.toArray n1) ∈ news) (Is : IntsAre vs src) (hvs : vs.length < 2000)
    (hdp : dp + 2 < recursionLimit) (hun : un + 100 < cLine)
    (hret : ∀ l us n bl h' tk', IntsAre us bl → bl.Pairwise (· < ·) → (∀ x, x ∈ bl ↔ x ∈ src) → us.length < 2000 → (∀ p ∈ news, p.1 < l) → Fr h₀ L h' m → News h₀ L h' ((l, listOf us.toArray n) :: news) → Q (.ref l) { s with heap := h', toks := tk' }) :
    wpAny (model Challenge.rw_qd0140_01.row.prog w) (ktrTop dp un gd cn cs L a ccd cl outer) (call (.ref 164) [.ref lc]) Q E s := by
  revert X; k_fill; intro X
  have hsl := Is.length
  refine wpAny_call ?_
  k_dflt (refine' code_def ?k1 ?k2 ?k3 ?k4 ?k5 ?kA ?kF ?kK ?k6 ?k7 ?k8 ?k9 ?kB ?_ ?c2 ?c3 ?c4 ?c5; (case kA => exact rfl); (case kF => exact rfl); (case kK => first | exact rfl | assumption); (case k1 => k_asm); (case k2 => k_asm); (case k3 => k_asm); (case k4 => k_asm); (case k5 => k_asm); (case k6 => k_is); (case k7 => k_is); (case k8 => first | ((try simp only [depth_under_make, depth_under_kw, depth_in1, depth_deeper, depth_caller]); (try dsimp only [ktrTop]); omega) | ktr_room); (case k9 => exact BindsTo.of_eq rfl); (case c5 => decide); (case kB => exact locs rfl); (case c2 => exact rfl); (case c3 => exact rfl); (case c4 => exact rfl); k_whole; intro g' L' h' FG' F' N' B' X' T'; (try dsimp only); (try k_fold))
  k_steps
  refine Stop.in ?_
  rename_i fl _ lf _ _ _ D v9 ns c9 _ _ _ i9 p9 o9 l9
  rename Fr _ _ _ _ => lF'
  rename News _ _ _ _ => lN'
  have hlen := p9.length_eq
  have hvl := i9.length
  have lN2 := kst_newsOf lN' (l' := (fl, listOf ([] : List Value).toArray 0) :: (D, listOf v9.toArray c9) :: news) (by repeat (first | exact List.forall_mem_nil _ | (refine List.forall_mem_cons.mpr ⟨by repeat (first | exact List.Mem.head _ | apply List.Mem.tail), ?_⟩) | (intro p hp; repeat (first | exact hp | apply List.Mem.tail))))
  with_unfolding_all refine fr_list (σ := List Value × Nat × List Int) (l := D) (vs := v9) (nn := c9) (fun k c => (fl, listOf c.1.toArray c.2.1) :: (D, listOf v9.toArray c9) :: news) (fun k c => []) [] (fun k c => IntsAre c.1 c.2.2 ∧ c.2.2.Pairwise (· < ·) ∧ (∀ x, x ∈ c.2.2 ↔ x ∈ ns.take k) ∧ c.1.length ≤ k) ([], 0, []) rfl (fun _ _ => .tail _ (.head _)) lF' lN2 (List.forall_mem_nil _) ⟨.nil, .nil, by simp, by simp⟩ ?_ ?_
  · clear lF' lN' lN2
    rintro k v ⟨us, n, f⟩ u2 h2 tk2 own hv hoff ⟨hq1, hq2, hq3, hq4⟩ F2 N2
    (try dsimp only [kstB] at *)
    simp only [List.cons_append] at N2
    have hkl : k < v9.length := by
      rcases Nat.lt_or_ge k v9.length with h | h
      · exact h
      · rw [List.getElem?_eq_none h] at hv; cases hv
    obtain ⟨t, ht⟩ := ints_getD i9 hkl
    rw [hv] at ht
    obtain rfl := Option.some.inj ht
    have hul := hq1.length
    have hne : ∀ p ∈ (D, listOf v9.toArray c9) :: (news ++ own), p.1 ≠ fl := by
      intro p hp
      rcases List.mem_cons.mp hp with rfl | hp
      · exact Nat.ne_of_gt l9.1
      · rcases List.mem_append.mp hp with hp | hp
        · exact Nat.ne_of_lt (lf p hp)
        · exact hoff p hp fl (.head _)
    have hus : us.length < 2000 := by omega
    try k_unmd
    try k_fold
    k_steps
    all_goals refine Stop.in ?_
    all_goals dsimp only [InvPostG]
    all_goals (rename News _ _ _ _ => N9; try simp only [List.push_toArray] at N9)
    · have hc : f = [] := of_decide_eq_true (by assumption)
      obtain ⟨e1, e2⟩ := once_push o9 (by omega) hq2 hq3 (.inl hc)
      exact fr_end (us ++ [_], n + 1, f ++ [_]) (by assumption) N9 (fun p hp => .tail _ (memC p hp)) (fun p hp => .tail _ (memD p hp)) hoff (List.forall_mem_nil _) (by kst_same) ⟨IntsAre.append hq1 (.cons _ _ .nil), e1, e2, by simp; omega⟩
    · have hc : f.getD (f.length - 1) 0 ≠ ns.getD k 0 := by rw [← getD_last hul]; assumption
      obtain ⟨e1, e2⟩ := once_push o9 (by omega) hq2 hq3 (.inr hc)
      exact fr_end (us ++ [_], n + 1, f ++ [_]) (by assumption) N9 (fun p hp => .tail _ (memC p hp)) (fun p hp => .tail _ (memD p hp)) hoff (List.forall_mem_nil _) (by kst_same) ⟨IntsAre.append hq1 (.cons _ _ .nil), e1, e2, by simp; omega⟩
    · have hc : f.getD (f.length - 1) 0 = ns.getD k 0 := by rw [← getD_last hul]; assumption
      have hn : f ≠ [] := of_decide_eq_false (by assumption)
      exact fr_end (us, n, f) (by assumption) N9 (fun p hp => .tail _ (memC p hp)) (fun p hp => .tail _ (memD p hp)) hoff (List.forall_mem_nil _) (by kst_same) ⟨hq1, hq2, once_skip (by omega) hq3 hn hc, by dsimp only; omega⟩
  · clear lF' lN' lN2
    rintro ⟨us, n, f⟩ u2 h2 tk2 ⟨hq1, hq2, hq3, hq4⟩ F2 N2
    (try dsimp only [kstB] at *)
    try k_unmd
    try k_fold
    k_steps
    rename News h₀ L _ _ => N9
    have e : ns.take v9.length = ns := List.take_of_length_le (by omega)
    rw [e] at hq3
    exact hret fl us n f _ _ hq1 hq2 (fun x => (hq3 x).trans (p9.mem_iff)) (by omega) lf (by assumption) (kst_newsOf N9 (by repeat (first | exact List.forall_mem_nil _ | (refine List.forall_mem_cons.mpr ⟨by repeat (first | exact List.Mem.head _ | apply List.Mem.tail), ?_⟩) | (intro p hp; repeat (first | exact hp | apply List.Mem.tail)))))
end
-- part Q3
section
theorem fresh_Q3 : True := by
  w_top off
  trivial
local macro_rules | `(tactic| walk_at "no such key") => `(tactic| skip)
local macro_rules | `(tactic| walk_at "leaving ref") => `(tactic| (k_here; walk_at "# leave_dieOn aaa_"; k_whole; intro h9 R9))
local macro_rules | `(tactic| walk_at "call ref") => `(tactic| (k_here; k_dflt (walk_at "# new_call kkkkkzdu_"; k_whole; intro x9 dx9 t1 t2 t3 t4 t5 t6 h9 tk9 l1 l2 l3 F9 N9; walk_at "#f")))
local macro_rules | `(tactic| walk_at "call ref") => `(tactic| (k_here; k_dflt (walk_at "# once_call kkkkkzmaadu_"; k_whole; intro l9 us9 n9 bl9 h9 tk9 i9 p9 m9 z9 l9 F9 N9; (try k_lt l9); walk_at "#f")))
local macro_rules | `(tactic| walk_at "call ref") => `(tactic| (k_here; k_dflt (walk_at "# table_call kkkkkzmamaaadu_"; k_whole; intro d9 o9 kv9 h9 tk9 lo9 D9 f9 l9 F9 N9; (try k_lt l9); walk_at "#f")))
local macro_rules | `(tactic| walk_at "call ref") => `(tactic| (k_here; k_dflt (walk_at "# codes_call kkkkkzaaaadu__"; k_whole)))
theorem in_flag {prog : Program} {w : World} {A : Around} {E : Value → Shared → Prop} {s : Shared} {Q : Value → Shared → Prop} {x y : Str} {t u : Tok} {b : Bool} (hb : (!(Builtin.Str.occurrences x y 0 x.length 1).isEmpty) = b) (h : Q (.bool b) s) : wpAny (model prog w) A (compareOp .In (.str y u) (.str x t)) Q E s :=
  PyProof.Rows.in_str (by rw [hb]; exact h)
local macro_rules | `(tactic| walk_at "compareOp In str str") => `(tactic| (k_here; walk_at "# in_flag a_"))
theorem trans_call {w : World} {mean : ExcName → Option Value} {mg mb : Str → Option Value}
    {dp un : Nat} {gd : Option (List Code)} {cn : Str} {cs : Scope} {a : Addr} {ccd : Value} {cl : List (Str × Addr)} {outer : List Env} {A₀ : Around} {base h₀ : Heap} {L : Addr} {m : Str → Option Value} {s : Shared} {Q E : Value → Shared → Prop} {news : List (Addr × Obj)}
    (B : Below A₀ base outer h₀) (F : Fr h₀ L s.heap m) (X : (hd.heap_39 w.params).In h₀) (N : News h₀ L s.heap news)
    (T : Top hd.view_39 (looseW hd.view_39 [Str.ofString "SHORT_ESCAPES", Str.ofString "_law_parts"]) mean mg mb h₀) (hkf : cs.kind = .function)
    {as1 as2 : List Atom} {fl : Str} {tk1 tk2 tk3 tk4 : Tok} {most : Int} {fc fd fs : Bool} (hok1 : ∀ x ∈ as1, x.ok) (hlen1 : (strOf as1).length < 1000) (hok2 : ∀ x ∈ as2, x.ok) (hlen2 : (strOf as2).length < 1000) (hfc : (!(Builtin.Str.occurrences fl (Str.ofString "c") 0 fl.length 1).isEmpty) = fc) (hfd : (!(Builtin.Str.occurrences fl (Str.ofString "d") 0 fl.length 1).isEmpty) = fd) (hfs : (!(Builtin.Str.occurrences fl (Str.ofString "s") 0 fl.length 1).isEmpty) = fs) (hm0 : 0 ≤ most) (hm1 : most ≤ 1000)
    (hdp : dp + 30 < recursionLimit) (hun : un + 300 < cLine)
    (hret : ∀ first second x dx d o kv lb vb nb bl lc us n2 t1 t2 t3 t4 t5 t6 h' tk', laid most (as1.map Atom.sgn) [] = some first → laid most (as2.map Atom.sgn) [] = some second →
      (d == sysModules) = false → o.IsDictOf (PySem.intKind Challenge.rw_qd0140_01.row.prog w) kv → FlatPairs PyData.int kv (kdfD (if fc = true then [] else tableOf first second fd first.length)) →
      IntsAre vb bl → bl.Pairwise (· < ·) → (∀ y, y ∈ bl ↔ fc = true ∧ y ∈ first) → vb.length < 2000 → IntsAre us second → us.length < 2000 →
      (∀ p ∈ news, p.1 < x ∧ p.1 < dx ∧ p.1 < d ∧ p.1 < lb ∧ p.1 < lc) → Fr h₀ L h' m →
      News h₀ L h' ((x, instObj 125 dx) :: (dx, tabObj w.params d lb lc fc fd fs t1 t2 t3 t4 t5 t6) :: (d, o) :: (lb, listOf vb.toArray nb) :: (lc, listOf us.toArray n2) :: news) → Q (.ref x) { s with heap := h', toks := tk' })
    (hraise : ∀ G e h' tk', (laid most (as1.map Atom.sgn) [] = none ∨ laid most (as2.map Atom.sgn) [] = none) → Fr h₀ L G m → DieUp base G (envX cn cs L a ccd cl :: outer) e news h' → E (.ref e) { s with heap := h', toks := tk' }) :
    wpAny (model Challenge.rw_qd0140_01.row.prog w) (ktrTop dp un gd cn cs L a ccd cl outer) (call (.ref 171) [.str (strOf as1) tk1, .str (strOf as2) tk2, .str fl tk3, .int most tk4]) Q E s := by
  revert X; k_fill; intro X
  refine wpAny_call ?_
  k_dflt (refine' code_def ?k1 ?k2 ?k3 ?k4 ?k5 ?kA ?kF ?kK ?k6 ?k7 ?k8 ?k9 ?kB ?_ ?c2 ?c3 ?c4 ?c5; (case kA => exact rfl); (case kF => exact rfl); (case kK => first | exact rfl | assumption); (case k1 => k_asm); (case k2 => k_asm); (case k3 => k_asm); (case k4 => k_asm); (case k5 => k_asm); (case k6 => k_is); (case k7 => k_is); (case k8 => first | ((try simp only [depth_under_make, depth_under_kw, depth_in1, depth_deeper, depth_caller]); (try dsimp only [ktrTop]); omega) | ktr_room); (case k9 => exact BindsTo.of_eq rfl); (case c5 => decide); (case kB => exact locs rfl); (case c2 => exact rfl); (case c3 => exact rfl); (case c4 => exact rfl); k_whole; intro g' L' h' FG' F' N' B' X' T'; (try dsimp only); (try k_fold))
  k_steps
  · rename_i c1 la v1 n1 _ _ q1 q2 q3 q4 _ _ c2 lc v2 n2 _ _ r1 r2 r3 r4 _ _ _ hc d _ o _ _ lo _ _ hi fi ld lb vb nb bl _ _ i9 p9 m9 z9 _ _ l9 x dx t1 t2 t3 t4 t5 t6 _ _ g1 g2 g3 _ _ _ kN _ _
    subst hc
    exact hret c1 c2 x dx d o [] lb vb nb bl lc v2 n2 t1 t2 t3 t4 t5 t6 _ _ q1 r1 lo hi (by rw [if_pos rfl]; exact fi) i9 p9 (fun y => by simpa using m9 y) z9 r2 r3
      (fun p hp => ⟨g2 p (by simp [hp]), g1 p (by simp [hp]), allLt_all ld.2.2 p hp, allLt_all l9.2.2.2 p hp, r4 p (.tail _ hp)⟩) (by assumption)
      (kst_newsOf kN (by repeat (first | exact List.forall_mem_nil _ | (refine List.forall_mem_cons.mpr ⟨by repeat (first | exact List.Mem.head _ | apply List.Mem.tail), ?_⟩) | (intro p hp; repeat (first | exact hp | apply List.Mem.tail)))))
  · rename_i c1 la v1 n1 _ _ q1 q2 q3 q4 _ _ c2 lc v2 n2 _ _ r1 r2 r3 r4 _ _ _ _ _ hc d o kv _ _ lo hD hf _ _ ld lb _ _ _ lb1 x dx t1 t2 t3 t4 t5 t6 _ _ g1 g2 g3 _ _ _ kN _ _
    subst hc
    exact hret c1 c2 x dx d o kv lb [] 0 [] lc v2 n2 t1 t2 t3 t4 t5 t6 _ _ q1 r1 lo hD (by rw [if_neg (by decide)]; exact hf) .nil .nil (fun y => by simp) (by decide) r2 r3
      (fun p hp => ⟨g2 p (by simp [hp]), g1 p (by simp [hp]), allLt_all ld.2.2 p hp, allLt_all lb1.2.2.2 p hp, r4 p (.tail _ hp)⟩) (by assumption)
      (kst_newsOf kN (by repeat (first | exact List.forall_mem_nil _ | (refine List.forall_mem_cons.mpr ⟨by repeat (first | exact List.Mem.head _ | apply List.Mem.tail), ?_⟩) | (intro p hp; repeat (first | exact hp | apply List.Mem.tail)))))
  · rename DieUp _ _ _ _ _ _ => R9
    exact hraise _ _ _ _ (.inr (by assumption)) (by assumption) (R9.sub fun p hp => .tail _ hp)
  · rename DieUp _ _ _ _ _ _ => R9
    exact hraise _ _ _ _ (.inl (by assumption)) (by assumption) R9
end
-- part L2
section
theorem fresh_L2 : True := by
  w_top off
  trivial
local macro_rules | `(tactic| walk_at "call ref") => `(tactic| (k_here; k_dflt (refine' trans_call (by k_asm) (by k_asm) (by k_asm) (by k_asm) (by k_asm) (by walk_at "zk") ?p0 ?p1 ?p2 ?p3 ?q1 ?q2 ?q3 ?p4 ?p5 (by walk_at "zd") (by walk_at "zu") ?_ ?_; (case p0 => assumption); (case p1 => assumption); (case p2 => assumption); (case p3 => assumption); (case p4 => assumption); (case p5 => assumption); (case q1 => assumption); (case q2 => assumption); (case q3 => assumption); k_whole)))
theorem tab_call {w : World} {mean : ExcName → Option Value} {mg mb : Str → Option Value}
    {dp un : Nat} {gd : Option (List Code)} {cn : Str} {cs : Scope} {a : Addr} {ccd : Value} {cl : List (Str × Addr)} {A₀ : Around} {base h₀ : Heap} {L : Addr} {m : Str → Option Value} {s : Shared} {Q E : Value → Shared → Prop} {news : List (Addr × Obj)}
    (B : Below A₀ base [] h₀) (F : Fr h₀ L s.heap m) (X : (hd.heap_39 w.params).In h₀) (N : News h₀ L s.heap news)
    (T : Top hd.view_39 (looseW hd.view_39 [Str.ofString "SHORT_ESCAPES", Str.ofString "_law_parts"]) mean mg mb h₀) (hkf : cs.kind = .function)
    (XB : (hd.heap_39 w.params).In base) (TB : Top hd.view_39 (looseW hd.view_39 [Str.ofString "SHORT_ESCAPES", Str.ofString "_law_parts"]) mean mg mb base)
    {as1 as2 : List Atom} {fl : Str} {tk1 tk2 tk3 tk4 : Tok} {most : Int} {fc fd fs : Bool} (hok1 : ∀ x ∈ as1, x.ok) (hlen1 : (strOf as1).length < 1000) (hok2 : ∀ x ∈ as2, x.ok) (hlen2 : (strOf as2).length < 1000) (hfc : (!(Builtin.Str.occurrences fl (Str.ofString "c") 0 fl.length 1).isEmpty) = fc) (hfd : (!(Builtin.Str.occurrences fl (Str.ofString "d") 0 fl.length 1).isEmpty) = fd) (hfs : (!(Builtin.Str.occurrences fl (Str.ofString "s") 0 fl.length 1).isEmpty) = fs) (hm0 : 0 ≤ most) (hm1 : most ≤ 1000)
    (hdp : dp + 35 < recursionLimit) (hun : un + 350 < cLine)
    (hret : ∀ first second x dx d o kv lb vb nb bl lc us n2 t1 t2 t3 t4 t5 t6 h' tk', laid most (as1.map Atom.sgn) [] = some first → laid most (as2.map Atom.sgn) [] = some second →
      (d == sysModules) = false → o.IsDictOf (PySem.intKind Challenge.rw_qd0140_01.row.prog w) kv → FlatPairs PyData.int kv (kdfD (if fc = true then [] else tableOf first second fd first.length)) →
      IntsAre vb bl → bl.Pairwise (· < ·) → (∀ y, y ∈ bl ↔ fc = true ∧ y ∈ first) → vb.length < 2000 → IntsAre us second → us.length < 2000 →
      (∀ p ∈ news, p.1 < x ∧ p.1 < dx ∧ p.1 < d ∧ p.1 < lb ∧ p.1 < lc) → Fr h₀ L h' m →
      News h₀ L h' ((x, instObj 125 dx) :: (dx, tabObj w.params d lb lc fc fd fs t1 t2 t3 t4 t5 t6) :: (d, o) :: (lb, listOf vb.toArray nb) :: (lc, listOf us.toArray n2) :: news) → Q (.ref x) { s with heap := h', toks := tk' })
    (hnone : ∀ h' tk', (laid most (as1.map Atom.sgn) [] = none ∨ laid most (as2.map Atom.sgn) [] = none) → Fr h₀ L h' m → News h₀ L h' news → Q .none { s with heap := h', toks := tk' }) :
    wpAny (model Challenge.rw_qd0140_01.row.prog w) (ktrTop dp un gd cn cs L a ccd cl []) (call (.ref 295) [.str (strOf as1) tk1, .str (strOf as2) tk2, .str fl tk3, .int most tk4]) Q E s := by
  revert X; k_fill; intro X
  refine wpAny_call ?_
  k_dflt (refine' defS0X ?k1 ?k2 ?k3 ?k4 ?k5 ?kA ?kF ?kK ?k6 ?k7 ?k8 ?k9 ?kB ?_ ?c2 ?c3 ?c4 ?c5; (case kA => exact rfl); (case kF => exact rfl); (case kK => first | exact rfl | assumption); (case k2 => k_asm); (case k1 => k_asm); (case k3 => k_asm); (case k4 => k_asm); (case k5 => k_asm); (case k6 => k_is); (case k7 => k_is); (case k8 => first | ((try simp only [depth_under_make, depth_under_kw, depth_in1, depth_deeper, depth_caller]); (try dsimp only [ktrTop]); omega) | ktr_room); (case k9 => exact BindsTo.of_eq rfl); (case kB => exact locs rfl); (case c2 => exact rfl); (case c3 => exact rfl); (case c4 => exact rfl); (case c5 => decide); k_whole; intro g' L' h' FG' F' N' B' X' T' D'; (try dsimp only); (try k_fold))
  k_steps
  · refine' hret _ _ _ _ _ _ _ _ _ _ _ _ _ _ _ _ _ _ _ _ _ _ ?a1 ?a2 ?a3 ?a4 ?a5 ?a6 ?a7 ?a8 ?a9 ?b1 ?b2 ?b3 ?b4 ?b5
    case b5 => assumption
    case a1 => assumption
    case a2 => assumption
    case a3 => assumption
    case a4 => assumption
    case a5 => assumption
    case a6 => assumption
    case a7 => assumption
    case a8 => assumption
    case a9 => assumption
    case b1 => assumption
    case b2 => assumption
    case b3 => assumption
    case b4 => assumption
  · rename DieUp _ _ _ _ _ _ => R9
    refine kts_lookSN R9.up (by assumption) (by assumption) R9.slots (by assumption) fun h8 R8 U8 => ?_
    refine hit_SN0 R8 (by assumption) (by assumption) U8 XB TB (by assumption) KtsTurn.refl (test_name (c := .ref 51) (.inl (by k_is)) die_exm rfl rfl (by decide)) fun h7 g7 T7 F7 N7 B7 X7 P7 D7 => ?_
    k_steps
    exact hnone _ _ (by assumption) (by assumption) (by assumption)
end
-- part G1
section
section
variable {prog : Program} {w : World} {A : Around} {E : Value → Shared → Prop} {s : Shared} {h₀ : Heap} {L a b la lb : Addr} {news : List (Addr × Obj)} {vs us : List Value} {ns : List Int} {n n' : Nat} {b1 b2 b3 : Bool} {Q : Value → Shared → Prop}
theorem shaped4 (b1 b2 b3 : Bool) (ns : List Int) : SeqAt.shaped (.tuple [.bool b1, .bool b2, .bool b3, .list (ns.map PyData.int)]) = true := by
  have h := Bool.and_eq_true_iff.mp (shaped_ints ns)
  have h1 : PyData.canLay0 (.list (ns.map PyData.int)) = true := h.1
  have h2 : PyData.depth (.list (ns.map PyData.int)) ≤ 2 := by
    have := W.depthAll_ints ns
    simp only [PyData.depth]; omega
  unfold SeqAt.shaped
  rw [Bool.and_eq_true]
  constructor
  · simp only [PyData.canLay0, PyData.canLayAll0, Bool.true_and, Bool.and_true] at h1 ⊢; exact h1
  · refine decide_eq_true ?_
    simp only [PyData.depth, PyData.depthAll] at h2 ⊢; omega
theorem tup_ne (N : News h₀ L s.heap news) (ma : (a, tupO [.bool b1, .bool b2, .bool b3, .ref la]) ∈ news) (mb : (b, tupO [.bool b1, .bool b2, .bool b3, .ref lb]) ∈ news)
    (m1 : (la, listOf vs.toArray n) ∈ news) (I1 : IntsAre vs ns) (m2 : (lb, listOf us.toArray n') ∈ news) (I2 : IntsAre us ns) (hu : A.units + 64 < cLine) (h : Q (.bool false) s) :
    wpAny (model prog w) A (compareOp .NotEq (.ref a) (.ref b)) Q E s := by
  have r1 := reads_tuple_at (N.get ma) rfl rfl (.cons (.bool b1) (.cons (.bool b2) (.cons (.bool b3) (.cons (reads_of_ints ⟨_, N.get m1, rfl, n, rfl⟩ I1) .nil))))
  have r2 := reads_tuple_at (N.get mb) rfl rfl (.cons (.bool b1) (.cons (.bool b2) (.cons (.bool b3) (.cons (reads_of_ints ⟨_, N.get m2, rfl, n', rfl⟩ I2) .nil))))
  refine ne_dataH r1 r2 (shaped4 b1 b2 b3 ns) (shaped4 b1 b2 b3 ns) hu ?_
  have e : PyData.eqv (.tuple [.bool b1, .bool b2, .bool b3, .list (ns.map PyData.int)]) (.tuple [.bool b1, .bool b2, .bool b3, .list (ns.map PyData.int)]) = true := by
    have h9 : PyData.eqv (.list (ns.map PyData.int)) (.list (ns.map PyData.int)) = true := by rw [ints_eqv]; exact decide_eq_true rfl
    simp only [PyData.eqv, PyData.eqvAll, beq_self_eq_true, Bool.true_and, Bool.and_true] at h9 ⊢
    simpa using h9
  rw [e]; exact h
end
theorem mem_rangeKs {a y : Int} {k : Nat} (h : y ∈ rangeKs a k) : a ≤ y ∧ y < a + k := by
  simp only [rangeKs, List.mem_map, List.mem_range] at h
  obtain ⟨i, hi, rfl⟩ := h
  omega
theorem cutS_fst {a : Int} {r : List Sgn} {P : Sgn → Prop} (hr : ∀ x ∈ r, P x) : ((cutS a r).1 = a ∨ ∃ x ∈ r, (cutS a r).1 = x.1) ∧ ∀ x ∈ (cutS a r).2, P x := by
  unfold cutS
  split
  · rename_i x y r2
    split
    · exact ⟨.inr ⟨y, by simp, rfl⟩, fun z hz => hr z (by simp [hz])⟩
    · exact ⟨.inl rfl, hr⟩
  · exact ⟨.inl rfl, hr⟩
theorem laid_codes {most : Int} {U : Int} : ∀ (k : Nat) (l : List Sgn) (f codes : List Int), l.length ≤ k → (∀ s ∈ l, 0 ≤ s.1 ∧ s.1 < U) → (∀ y ∈ f, 0 ≤ y ∧ y < U) → laid most l f = some codes → ∀ y ∈ codes, 0 ≤ y ∧ y < U
  | _, [], f, codes, _, _, hf, h => by
    rw [laid_nil] at h
    obtain rfl := Option.some.inj h
    exact hf
  | 0, s :: r, f, codes, hk, _, _, _ => by simp at hk
  | k + 1, s :: r, f, codes, hk, hl, hf, h => by
    rw [laid_cons] at h
    split at h
    · cases h
    · have hc := cutS_fst (a := s.1) (r := r) (P := fun x => 0 ≤ x.1 ∧ x.1 < U) (fun x hx => hl x (.tail _ hx))
      have hs := hl s (.head _)
      have hb : (cutS s.1 r).1 < U := by
        rcases hc.1 with e | ⟨x, hx, e⟩
        · omega
        · have := hl x (.tail _ hx); omega
      refine laid_codes k _ _ _ (by have := cutS_len s.1 r; rw [List.length_cons] at hk; omega) hc.2 (fun y hy => ?_) h
      rcases List.mem_append.mp hy with hy | hy
      · exact hf y hy
      · have := mem_rangeKs hy
        omega
end
-- part F5
section
theorem fresh_F5 : True := by
  w_top off
  trivial
section

local macro_rules | `(tactic| walk_at "subscriptTail") => `(tactic| (k_here; k_dflt (first
  | (walk_at "# int_item kmaooo_"; k_whole; intro t9)
  | (refine' int_neg ?N ?m ?I ?b ?c ?_; (case N => k_asm); (case m => first | k_mem | kst_mem); (case I => assumption); (case b => (have := nz_of (by with_reducible assumption); omega)); (case c => omega); k_whole; intro t9))))
local macro_rules | `(tactic| walk_at "compareOp NotEq ref ref") => `(tactic| (k_here; k_dflt (refine' ints_neL ?N ?m ?I ?mb (us := []) IntsAre.nil ?u ?_; (case N => k_asm); (case m => first | k_mem | kst_mem); (case mb => first | k_mem | kst_mem); (case I => assumption); (case u => ktr_units); k_whole)))
theorem end_call {w : World} {mean : ExcName → Option Value} {mg mb : Str → Option Value}
    {dp un : Nat} {gd : Option (List Code)} {cn : Str} {cs : Scope} {a : Addr} {ccd : Value} {cl : List (Str × Addr)} {outer : List Env} {A₀ : Around} {base h₀ : Heap} {L : Addr} {m : Str → Option Value} {s : Shared} {Q E : Value → Shared → Prop} {news : List (Addr × Obj)}
    (B : Below A₀ base outer h₀) (F : Fr h₀ L s.heap m) (X : (hd.heap_39 w.params).In h₀) (N : News h₀ L s.heap news)
    (T : Top hd.view_39 (looseW hd.view_39 [Str.ofString "SHORT_ESCAPES", Str.ofString "_law_parts"]) mean mg mb h₀) (hkf : cs.kind = .function)
    {lb : Addr} {us : List Value} {n2 : Nat} {bec : List Int} {del : Bool} {place code : Int} {t1 t2 : Tok} (hb : (lb, listOf us.toArray n2) ∈ news) (Ib : IntsAre us bec) (hus : us.length < 2000) (h0 : 0 ≤ place)
    (hdp : dp + 2 < recursionLimit) (hun : un + 100 < cLine)
    (hret : ∀ t h' tk', Fr h₀ L h' m → News h₀ L h' news → Q (.int (endOf bec del place.toNat code) t) { s with heap := h', toks := tk' }) :
    wpAny (model Challenge.rw_qd0140_01.row.prog w) (ktrTop dp un gd cn cs L a ccd cl outer) (call (.ref 302) [.int place t1, .ref lb, .bool del, .int code t2]) Q E s := by
  revert X; k_fill; intro X
  have hbl := Ib.length
  refine wpAny_call ?_
  k_dflt (refine' code_def ?k1 ?k2 ?k3 ?k4 ?k5 ?kA ?kF ?kK ?k6 ?k7 ?k8 ?k9 ?kB ?_ ?c2 ?c3 ?c4 ?c5; (case kA => exact rfl); (case kF => exact rfl); (case kK => first | exact rfl | assumption); (case k1 => k_asm); (case k2 => k_asm); (case k3 => k_asm); (case k4 => k_asm); (case k5 => k_asm); (case k6 => k_is); (case k7 => k_is); (case k8 => first | ((try simp only [depth_under_make, depth_under_kw, depth_in1, depth_deeper, depth_caller]); (try dsimp only [ktrTop]); omega) | ktr_room); (case k9 => exact BindsTo.of_eq rfl); (case c5 => decide); (case kB => exact locs rfl); (case c2 => exact rfl); (case c3 => exact rfl); (case c4 => exact rfl); k_whole; intro g' L' h' FG' F' N' B' X' T'; (try dsimp only); (try k_fold))
  k_steps
  all_goals rename News h₀ L _ _ => N9
  all_goals (have N8 := kst_newsOf N9 (l' := news) (by intro p hp; first | exact hp | exact .tail _ hp))
  · rw [← end_in (kk := place) rfl h0 hbl (by with_reducible assumption)] at hret; exact hret _ _ _ (by assumption) N8
  · rw [← end_del (kk := place) rfl h0 hbl (by with_reducible assumption) (by with_reducible assumption)] at hret; exact hret _ _ _ (by assumption) N8
  · rw [← end_nil (kk := place) rfl h0 hbl (by with_reducible assumption) (by with_reducible assumption) (by with_reducible assumption)] at hret; exact hret _ _ _ (by assumption) N8
  · rw [← end_last (kk := place) rfl h0 hbl (by with_reducible assumption) (by with_reducible assumption) (by with_reducible assumption), show ((us.length : Int) - 1).toNat = us.length - 1 by omega] at hret; exact hret _ _ _ (by assumption) N8
end
end
-- part F6
section
theorem fresh_F6 : True := by
  w_top off
  trivial
section

local macro_rules | `(tactic| walk_at "pyIter ref") => `(tactic| refine Stop.out ?_)
local macro_rules | `(tactic| walk_at "compareOp NotIn int ref") => `(tactic| (k_here; k_dflt (walk_at "# ints_notin9 kma_"; k_whole)))
local macro_rules | `(tactic| walk_at "compareOp In int ref") => `(tactic| (k_here; k_dflt (walk_at "# ints_in9 kma_"; k_whole)))
theorem rankl_call {w : World} {mean : ExcName → Option Value} {mg mb : Str → Option Value}
    {dp un : Nat} {gd : Option (List Code)} {cn : Str} {cs : Scope} {a : Addr} {ccd : Value} {cl : List (Str × Addr)} {outer : List Env} {A₀ : Around} {base h₀ : Heap} {L : Addr} {m : Str → Option Value} {s : Shared} {Q E : Value → Shared → Prop} {news : List (Addr × Obj)}
    (B : Below A₀ base outer h₀) (F : Fr h₀ L s.heap m) (X : (hd.heap_39 w.params).In h₀) (N : News h₀ L s.heap news)
    (T : Top hd.view_39 (looseW hd.view_39 [Str.ofString "SHORT_ESCAPES", Str.ofString "_law_parts"]) mean mg mb h₀) (hkf : cs.kind = .function)
    {lb : Addr} {us : List Value} {n2 : Nat} {ns : List Int} {code : Int} {t1 : Tok} (hb : (lb, listOf us.toArray n2) ∈ news) (Ib : IntsAre us ns) (hus : us.length < 2000) (h0 : 0 ≤ code) (h1 : code < 200)
    (hdp : dp + 2 < recursionLimit) (hun : un + 100 < cLine)
    (hret : ∀ t h' tk', Fr h₀ L h' m → News h₀ L h' news → Q (.int (rankOf ns code) t) { s with heap := h', toks := tk' }) :
    wpAny (model Challenge.rw_qd0140_01.row.prog w) (ktrTop dp un gd cn cs L a ccd cl outer) (call (.ref 309) [.ref lb, .int code t1]) Q E s := by
  revert X; k_fill; intro X
  have hbl := Ib.length
  refine wpAny_call ?_
  k_dflt (refine' code_def ?k1 ?k2 ?k3 ?k4 ?k5 ?kA ?kF ?kK ?k6 ?k7 ?k8 ?k9 ?kB ?_ ?c2 ?c3 ?c4 ?c5; (case kA => exact rfl); (case kF => exact rfl); (case kK => first | exact rfl | assumption); (case k1 => k_asm); (case k2 => k_asm); (case k3 => k_asm); (case k4 => k_asm); (case k5 => k_asm); (case k6 => k_is); (case k7 => k_is); (case k8 => first | ((try simp only [depth_under_make, depth_under_kw, depth_in1, depth_deeper, depth_caller]); (try dsimp only [ktrTop]); omega) | ktr_room); (case k9 => exact BindsTo.of_eq rfl); (case c5 => decide); (case kB => exact locs rfl); (case c2 => exact rfl); (case c3 => exact rfl); (case c4 => exact rfl); k_whole; intro g' L' h' FG' F' N' B' X' T'; (try dsimp only); (try k_fold))
  k_steps
  refine Stop.in ?_
  rename IsRange _ _ _ _ _ _ _ _ => hr
  rename Fr _ _ _ _ => lF'
  rename News _ _ _ _ => lN'
  have hs9 := range_small (a := 0) (b := code) (by omega) (by omega) (by omega) (by omega)
  with_unfolding_all refine fr_range (σ := Tok) (fun k c => news) (fun k c => [(Str.ofString "count", .int (outs ns k : Int) c)]) [] (fun k c => True) _ rfl hr hs9 (range_size _ _) lF' lN' (by kst_all) trivial ?_ ?_
  · clear lF' lN'
    rintro k c u2 t2 h2 tk2 own hk hoff hq F2 N2
    (try dsimp only [kstB] at *)
    have hk2 : k < code.toNat := by omega
    have hlo := outs_le ns k
    try k_unmd
    try k_fold
    k_steps
    all_goals refine Stop.in ?_
    all_goals dsimp only [InvPostG]
    all_goals rename News _ _ _ _ => N9
    · have e3 : (k : Int) ∈ ns := by
        rename 0 + (k : Int) ∈ ns => e2
        rwa [show (0 + (k : Int)) = (k : Int) by omega] at e2
      have e : (outs ns (k + 1) : Int) = (outs ns k : Int) := by rw [outs, if_pos e3]
      exact fr_end c (by assumption) N9 (fun p hp => List.mem_append_left _ hp) (fun p hp => List.mem_append_right _ hp) hoff (by (try dsimp only); rw [e]; kst_all) (by kst_same) trivial
    · have e3 : ¬ (k : Int) ∈ ns := by
        rename ¬ 0 + (k : Int) ∈ ns => e2
        rwa [show (0 + (k : Int)) = (k : Int) by omega] at e2
      have e : (outs ns (k + 1) : Int) = (outs ns k : Int) + 1 := by rw [outs, if_neg e3]; rfl
      exact fr_end _ (by assumption) N9 (fun p hp => List.mem_append_left _ hp) (fun p hp => List.mem_append_right _ hp) hoff (by (try dsimp only); rw [e]; kst_all) (by kst_same) trivial
  · clear lF' lN'
    rintro c u2 h2 tk2 hq F2 N2
    (try dsimp only [kstB] at *)
    try k_unmd
    try k_fold
    k_steps
    · rw [rankOf, if_pos (by assumption)] at hret
      exact hret _ _ _ (by assumption) (by assumption)
    · rw [rankOf, if_neg (by assumption), show code.toNat = (code - 0).toNat by rw [Int.sub_zero]] at hret
      exact hret _ _ _ (by assumption) (by assumption)
end
end
-- part F7
section
theorem fresh_F7 : True := by
  w_top off
  trivial
section

local macro_rules | `(tactic| walk_at "subscriptTail") => `(tactic| (k_here; k_dflt (walk_at "# int_item kmaooo_"; k_whole; intro t9)))
theorem rank_call {w : World} {mean : ExcName → Option Value} {mg mb : Str → Option Value}
    {dp un : Nat} {gd : Option (List Code)} {cn : Str} {cs : Scope} {a : Addr} {ccd : Value} {cl : List (Str × Addr)} {outer : List Env} {A₀ : Around} {base h₀ : Heap} {L : Addr} {m : Str → Option Value} {s : Shared} {Q E : Value → Shared → Prop} {news : List (Addr × Obj)}
    (B : Below A₀ base outer h₀) (F : Fr h₀ L s.heap m) (X : (hd.heap_39 w.params).In h₀) (N : News h₀ L s.heap news)
    (T : Top hd.view_39 (looseW hd.view_39 [Str.ofString "SHORT_ESCAPES", Str.ofString "_law_parts"]) mean mg mb h₀) (hkf : cs.kind = .function)
    {lb : Addr} {us : List Value} {n2 : Nat} {ns : List Int} {code : Int} {t1 : Tok} (hb : (lb, listOf us.toArray n2) ∈ news) (Ib : IntsAre us ns) (hus : us.length < 2000) (h0 : 0 ≤ code) (h1 : code < 200)
    (hP : ns.Pairwise (· < ·)) (hnn : ∀ x ∈ ns, 0 ≤ x)
    (hdp : dp + 2 < recursionLimit) (hun : un + 100 < cLine)
    (hret : ∀ t h' tk', Fr h₀ L h' m → News h₀ L h' news → Q (.int (rankOf ns code) t) { s with heap := h', toks := tk' }) :
    wpAny (model Challenge.rw_qd0140_01.row.prog w) (ktrTop dp un gd cn cs L a ccd cl outer) (call (.ref 178) [.ref lb, .int code t1]) Q E s := by
  revert X; k_fill; intro X
  have hbl := Ib.length
  refine wpAny_call ?_
  k_dflt (refine' code_def ?k1 ?k2 ?k3 ?k4 ?k5 ?kA ?kF ?kK ?k6 ?k7 ?k8 ?k9 ?kB ?_ ?c2 ?c3 ?c4 ?c5; (case kA => exact rfl); (case kF => exact rfl); (case kK => first | exact rfl | assumption); (case k1 => k_asm); (case k2 => k_asm); (case k3 => k_asm); (case k4 => k_asm); (case k5 => k_asm); (case k6 => k_is); (case k7 => k_is); (case k8 => first | ((try simp only [depth_under_make, depth_under_kw, depth_in1, depth_deeper, depth_caller]); (try dsimp only [ktrTop]); omega) | ktr_room); (case k9 => exact BindsTo.of_eq rfl); (case c5 => decide); (case kB => exact locs rfl); (case c2 => exact rfl); (case c3 => exact rfl); (case c4 => exact rfl); k_whole; intro g' L' h' FG' F' N' B' X' T'; (try dsimp only); (try k_fold))
  k_steps
  refine Stop.in ?_
  rename Fr _ _ _ _ => lF'
  rename News _ _ _ _ => lN'
  with_unfolding_all refine' ksw_while (σ := Nat × Nat × Tok × Tok) (fun c => news) (fun c => [(Str.ofString "below", .int (c.1 : Int) c.2.2.1), (Str.ofString "beyond", .int (c.2.1 : Int) c.2.2.2)]) (fun c => True) [Str.ofString "middle"] (fun c => c.1 ≤ c.2.1 ∧ c.2.1 ≤ ns.length ∧ (∀ i, i < c.1 → ns.getD i 0 < code) ∧ ∀ i, c.2.1 ≤ i → i < ns.length → code ≤ ns.getD i 0) (fun c => c.2.1 - c.1) (0, us.length, _, _) lF' (kst_newsOf lN' (fun p hp => .tail _ hp)) ?kf ?kk ?kp ?_
  case kk => kst_all
  case kf => trivial
  case kp => exact ⟨Nat.zero_le _, by dsimp only; omega, fun i hi => absurd hi (Nat.not_lt_zero _), fun i h1 h2 => by dsimp only at h1; omega⟩
  clear lF' lN'
  rintro ⟨b, e, tb, te⟩ u h tk hf ⟨hp1, hp2, hp3, hp4⟩ F1 N1
  (try dsimp only [kstB] at *)
  refine absB fun Q9 hQ9 => ?_
  try k_unmd
  try k_fold
  k_steps
  · refine hQ9 _ _ ?_
    dsimp only [KswPost]
    have hm : ((b : Int) + (e : Int)).fdiv 2 = (((b + e) / 2 : Nat) : Int) := by rw [Int.fdiv_eq_ediv_of_nonneg _ (by decide)]; omega
    rename ns.getD _ 0 < code => q
    rename Fr _ _ _ _ => F9
    rw [hm, Int.toNat_natCast] at q
    simp only [hm] at F9
    have hm1 : (((b + e) / 2 + 1 : Nat) : Int) = (((b + e) / 2 : Nat) : Int) + 1 := rfl
    have hbe : (b : Int) < (e : Int) := by assumption
    exact ksw_end ((b + e) / 2 + 1, e, _, te) F9 (by assumption) (fun p hp => hp) trivial (by (try dsimp only); rw [hm1]; kst_all) (by ksw_same)
      ⟨by dsimp only; omega, hp2, fun i hi => by (try dsimp only at hi); have := getD_mono hP (i := i) (j := (b + e) / 2) (by omega) (by omega); omega, hp4⟩ (by dsimp only; omega)
  · refine hQ9 _ _ ?_
    dsimp only [KswPost]
    have hm : ((b : Int) + (e : Int)).fdiv 2 = (((b + e) / 2 : Nat) : Int) := by rw [Int.fdiv_eq_ediv_of_nonneg _ (by decide)]; omega
    rename ¬ ns.getD _ 0 < code => q
    rename Fr _ _ _ _ => F9
    rw [hm, Int.toNat_natCast] at q
    simp only [hm] at F9
    have hbe : (b : Int) < (e : Int) := by assumption
    exact ksw_end (b, (b + e) / 2, tb, _) F9 (by assumption) (fun p hp => hp) trivial (by kst_all) (by ksw_same)
      ⟨by dsimp only; omega, by dsimp only; omega, hp3, fun i hi h9 => by (try dsimp only at hi); have := getD_mono hP hi h9; omega⟩ (by dsimp only; omega)
  all_goals (
    have hbe : ¬ (b : Int) < (e : Int) := by assumption
    have hlow : LowB ns code b := ⟨by omega, hp3, fun i h9 => hp4 i (by omega)⟩
    have er := rank_low hP hnn h0 hlow)
  · rw [if_pos ⟨by omega, by assumption⟩] at er
    rw [er] at hret
    exact hret _ _ _ (by assumption) (by assumption)
  · rw [if_neg (fun z => absurd z.2 (by assumption))] at er
    rw [er] at hret
    exact hret _ _ _ (by assumption) (by assumption)
  · rw [if_neg (fun z => by have := z.1; omega)] at er
    rw [er] at hret
    exact hret _ _ _ (by assumption) (by assumption)
end
end
-- part F8
section
theorem fresh_F8 : True := by
  w_top off
  trivial
section

local macro_rules | `(tactic| walk_at "subscriptTail") => `(tactic| (k_here; k_dflt (first
  | (walk_at "# int_item kmavoo_"; k_whole; intro t9))))
local macro_rules | `(tactic| walk_at "compareOp Eq ref ref") => `(tactic| (k_here; k_dflt (refine' ints_eqL ?N ?m ?I ?mb (us := []) IntsAre.nil ?u ?_; (case N => k_asm); (case m => first | k_mem | kst_mem); (case mb => first | k_mem | kst_mem); (case I => assumption); (case u => ktr_units); k_whole)))
local macro_rules | `(tactic| walk_at "call ref") => `(tactic| (k_here; k_dflt (walk_at "# rank_call kkkkkzmaaaaaadu_"; k_whole; intro t9 h9 tk9 F9 N9; walk_at "#f")))
local macro_rules | `(tactic| k_inst) => `(tactic| (refine' InstAt.of_news ?N ?h1 ?h2; (case N => k_asm); (case h1 => first | exact .tail _ (by assumption)); (case h2 => first | exact .tail _ (by assumption))))
theorem turned_call {w : World} {mean : ExcName → Option Value} {mg mb : Str → Option Value}
    {dp un : Nat} {gd : Option (List Code)} {cn : Str} {cs : Scope} {a : Addr} {ccd : Value} {cl : List (Str × Addr)} {outer : List Env} {A₀ : Around} {base h₀ : Heap} {L : Addr} {m : Str → Option Value} {s : Shared} {Q E : Value → Shared → Prop} {news : List (Addr × Obj)}
    (B : Below A₀ base outer h₀) (F : Fr h₀ L s.heap m) (X : (hd.heap_39 w.params).In h₀) (N : News h₀ L s.heap news)
    (T : Top hd.view_39 (looseW hd.view_39 [Str.ofString "SHORT_ESCAPES", Str.ofString "_law_parts"]) mean mg mb h₀) (hkf : cs.kind = .function)
    {x dx d lb lc : Addr} {tu del sq : Bool} {t1 t2 t3 t4 t5 t6 tk1 : Tok} {us ws : List Value} {n2 n3 : Nat} {ns bec : List Int} {code : Int}
    (hx : (x, instObj 125 dx) ∈ news) (hdx : (dx, tabObj w.params d lb lc tu del sq t1 t2 t3 t4 t5 t6) ∈ news)
    (hb : (lb, listOf us.toArray n2) ∈ news) (Ib : IntsAre us ns) (hus : us.length < 2000) (hc : (lc, listOf ws.toArray n3) ∈ news) (Ic : IntsAre ws bec) (hws : ws.length < 2000) (h0 : 0 ≤ code) (h1 : code < 200)
    (hP : ns.Pairwise (· < ·)) (hnn : ∀ x ∈ ns, 0 ≤ x)
    (hdp : dp + 8 < recursionLimit) (hun : un + 200 < cLine)
    (hret : ∀ t h' tk', Fr h₀ L h' m → News h₀ L h' news → Q (.int (turnOf ns bec del code) t) { s with heap := h', toks := tk' }) :
    wpAny (model Challenge.rw_qd0140_01.row.prog w) (ktrTop dp un gd cn cs L a ccd cl outer) (call (.ref 185) [.ref x, .int code tk1]) Q E s := by
  revert X; k_fill; intro X
  have hbl := Ib.length
  have hcl := Ic.length
  have hrl := rank_lo (ns := ns) h0
  refine wpAny_call ?_
  k_dflt (refine' code_def ?k1 ?k2 ?k3 ?k4 ?k5 ?kA ?kF ?kK ?k6 ?k7 ?k8 ?k9 ?kB ?_ ?c2 ?c3 ?c4 ?c5; (case kA => exact rfl); (case kF => exact rfl); (case kK => first | exact rfl | assumption); (case k1 => k_asm); (case k2 => k_asm); (case k3 => k_asm); (case k4 => k_asm); (case k5 => k_asm); (case k6 => k_is); (case k7 => k_is); (case k8 => first | ((try simp only [depth_under_make, depth_under_kw, depth_in1, depth_deeper, depth_caller]); (try dsimp only [ktrTop]); omega) | ktr_room); (case k9 => exact BindsTo.of_eq rfl); (case c5 => decide); (case kB => exact locs rfl); (case c2 => exact rfl); (case c3 => exact rfl); (case c4 => exact rfl); k_whole; intro g' L' h' FG' F' N' B' X' T'; (try dsimp only); (try k_fold))
  k_steps
  all_goals rename News h₀ L _ _ => N9
  all_goals (have N8 := kst_newsOf N9 (l' := news) (by intro p hp; first | exact hp | exact .tail _ hp))
  · rw [turnOf, if_pos (by assumption)] at hret; exact hret _ _ _ (by assumption) N8
  all_goals (have h9 : ¬ rankOf ns code < 0 := by assumption)
  all_goals (have h8 : 0 ≤ rankOf ns code := by omega)
  all_goals rw [turnOf, if_neg h9] at hret
  · rw [← end_in (kk := rankOf ns code) rfl h8 hcl (by with_reducible assumption)] at hret; exact hret _ _ _ (by assumption) N8
  · rw [← end_del (kk := rankOf ns code) rfl h8 hcl (by with_reducible assumption) (by with_reducible assumption)] at hret; exact hret _ _ _ (by assumption) N8
  · rw [← end_nil (kk := rankOf ns code) rfl h8 hcl (by with_reducible assumption) (by with_reducible assumption) (by with_reducible assumption)] at hret; exact hret _ _ _ (by assumption) N8
  · rw [← end_last (kk := rankOf ns code) rfl h8 hcl (by with_reducible assumption) (by with_reducible assumption) (by with_reducible assumption)] at hret; exact hret _ _ _ (by assumption) N8
end
end
-- part F9
section
theorem fresh_F9 : True := by
  w_top off
  trivial
section

local macro_rules | `(tactic| walk_at "call builtin:dict.get") => `(tactic| (k_here; k_dflt (refine kdf_get2 (c := ‹List (Int × Int)›) ?T ?_; (case T => exact TabAt.ofNews (by k_asm) (by first | k_mem | kst_mem) (by assumption) (by assumption) (by assumption)); k_whole; intro t9)))
local macro_rules | `(tactic| walk_at "call ref") => `(tactic| (k_here; k_dflt (walk_at "# turned_call kkkkkzmmmaamaaaaaadu_"; k_whole; intro t9 h9 tk9 F9 N9; walk_at "#f")))
theorem tcode_turned {w : World} {mean : ExcName → Option Value} {mg mb : Str → Option Value}
    {dp un : Nat} {gd : Option (List Code)} {cn : Str} {cs : Scope} {a : Addr} {ccd : Value} {cl : List (Str × Addr)} {outer : List Env} {A₀ : Around} {base h₀ : Heap} {L : Addr} {m : Str → Option Value} {s : Shared} {Q E : Value → Shared → Prop} {news : List (Addr × Obj)}
    (B : Below A₀ base outer h₀) (F : Fr h₀ L s.heap m) (X : (hd.heap_39 w.params).In h₀) (N : News h₀ L s.heap news)
    (T : Top hd.view_39 (looseW hd.view_39 [Str.ofString "SHORT_ESCAPES", Str.ofString "_law_parts"]) mean mg mb h₀) (hkf : cs.kind = .function)
    {x dx d lb lc : Addr} {del sq : Bool} {t1 t2 t3 t4 t5 t6 tk1 : Tok} {us ws : List Value} {n2 n3 : Nat} {ns bec : List Int} {code : Int}
    (hx : (x, instObj 125 dx) ∈ news) (hdx : (dx, tabObj w.params d lb lc true del sq t1 t2 t3 t4 t5 t6) ∈ news)
    (hb : (lb, listOf us.toArray n2) ∈ news) (Ib : IntsAre us ns) (hus : us.length < 2000) (hc : (lc, listOf ws.toArray n3) ∈ news) (Ic : IntsAre ws bec) (hws : ws.length < 2000) (h0 : 0 ≤ code) (h1 : code < 200)
    (hP : ns.Pairwise (· < ·)) (hnn : ∀ x ∈ ns, 0 ≤ x)
    (hdp : dp + 12 < recursionLimit) (hun : un + 300 < cLine)
    (hret : ∀ t h' tk', Fr h₀ L h' m → News h₀ L h' news → Q (.int (turnOf ns bec del code) t) { s with heap := h', toks := tk' }) :
    wpAny (model Challenge.rw_qd0140_01.row.prog w) (ktrTop dp un gd cn cs L a ccd cl outer) (call (.ref 192) [.ref x, .int code tk1]) Q E s := by
  revert X; k_fill; intro X
  refine wpAny_call ?_
  k_dflt (refine' code_def ?k1 ?k2 ?k3 ?k4 ?k5 ?kA ?kF ?kK ?k6 ?k7 ?k8 ?k9 ?kB ?_ ?c2 ?c3 ?c4 ?c5; (case kA => exact rfl); (case kF => exact rfl); (case kK => first | exact rfl | assumption); (case k1 => k_asm); (case k2 => k_asm); (case k3 => k_asm); (case k4 => k_asm); (case k5 => k_asm); (case k6 => k_is); (case k7 => k_is); (case k8 => first | ((try simp only [depth_under_make, depth_under_kw, depth_in1, depth_deeper, depth_caller]); (try dsimp only [ktrTop]); omega) | ktr_room); (case k9 => exact BindsTo.of_eq rfl); (case c5 => decide); (case kB => exact locs rfl); (case c2 => exact rfl); (case c3 => exact rfl); (case c4 => exact rfl); k_whole; intro g' L' h' FG' F' N' B' X' T'; (try dsimp only); (try k_fold))
  k_steps
  exact hret _ _ _ (by assumption) (by assumption)
theorem tcode_plain {w : World} {mean : ExcName → Option Value} {mg mb : Str → Option Value}
    {dp un : Nat} {gd : Option (List Code)} {cn : Str} {cs : Scope} {a : Addr} {ccd : Value} {cl : List (Str × Addr)} {outer : List Env} {A₀ : Around} {base h₀ : Heap} {L : Addr} {m : Str → Option Value} {s : Shared} {Q E : Value → Shared → Prop} {news : List (Addr × Obj)}
    (B : Below A₀ base outer h₀) (F : Fr h₀ L s.heap m) (X : (hd.heap_39 w.params).In h₀) (N : News h₀ L s.heap news)
    (T : Top hd.view_39 (looseW hd.view_39 [Str.ofString "SHORT_ESCAPES", Str.ofString "_law_parts"]) mean mg mb h₀) (hkf : cs.kind = .function)
    {x dx d lb lc : Addr} {del sq : Bool} {t1 t2 t3 t4 t5 t6 tk1 : Tok} {o : Obj} {kvs : List (Int × Value)} {c : List (Int × Int)} {code : Int}
    (hx : (x, instObj 125 dx) ∈ news) (hdx : (dx, tabObj w.params d lb lc false del sq t1 t2 t3 t4 t5 t6) ∈ news)
    (hd : (d, o) ∈ news) (hsm : (d == sysModules) = false) (Id : o.IsDictOf (PySem.intKind Challenge.rw_qd0140_01.row.prog w) kvs) (If : FlatPairs PyData.int kvs (kdfD c))
    (hdp : dp + 12 < recursionLimit) (hun : un + 300 < cLine)
    (hret : ∀ t h' tk', Fr h₀ L h' m → News h₀ L h' news → Q (.int (kdfLook c code (-1)) t) { s with heap := h', toks := tk' }) :
    wpAny (model Challenge.rw_qd0140_01.row.prog w) (ktrTop dp un gd cn cs L a ccd cl outer) (call (.ref 192) [.ref x, .int code tk1]) Q E s := by
  revert X; k_fill; intro X
  refine wpAny_call ?_
  k_dflt (refine' code_def ?k1 ?k2 ?k3 ?k4 ?k5 ?kA ?kF ?kK ?k6 ?k7 ?k8 ?k9 ?kB ?_ ?c2 ?c3 ?c4 ?c5; (case kA => exact rfl); (case kF => exact rfl); (case kK => first | exact rfl | assumption); (case k1 => k_asm); (case k2 => k_asm); (case k3 => k_asm); (case k4 => k_asm); (case k5 => k_asm); (case k6 => k_is); (case k7 => k_is); (case k8 => first | ((try simp only [depth_under_make, depth_under_kw, depth_in1, depth_deeper, depth_caller]); (try dsimp only [ktrTop]); omega) | ktr_room); (case k9 => exact BindsTo.of_eq rfl); (case c5 => decide); (case kB => exact locs rfl); (case c2 => exact rfl); (case c3 => exact rfl); (case c4 => exact rfl); k_whole; intro g' L' h' FG' F' N' B' X' T'; (try dsimp only); (try k_fold))
  k_steps
  exact hret _ _ _ (by assumption) (by assumption)
end
end
section
local macro_rules | `(tactic| walk_at "ite") => `(tactic| first | refine ite_neg Bool.false_ne_true ?_ | refine ite_pos (Eq.refl true) ?_)
local macro_rules | `(tactic| walk_at "eval Name") => `(tactic| (k_here; k_dflt (refine' nameX_C ?N ?c ?m ?d ?_ ?a ?b; (case a => rfl); (case b => rfl); (case N => k_asm); (case c => rfl); (case m => k_mem); (case d => k_asm); k_whole)))
local macro_rules | `(tactic| k_mem) => `(tactic| first | with_reducible_and_instances assumption | (refine List.mem_append_right _ ?_; k_mem) | (refine List.mem_append_left _ ?_; k_mem))
-- part Pd
section
theorem fresh_Pd : True := by
  w_top off
  trivial
section

local macro_rules | `(tactic| k_all) => `(tactic| assumption)
local macro_rules | `(tactic| walk_at $k:str) => if ["compareOp NotEq ref ref", "compareOp Eq ref ref", "pyIter ref", "eval ListComp", "CompSrc", "CompEnd", "call builtin:dict.setdefault"].contains k.getString then `(tactic| refine Stop.out ?_) else Lean.Macro.throwUnsupported
local macro_rules | `(tactic| walk_at "exec For Name Call cons nil") => `(tactic| (k_here; (rename Fr _ _ _ _ => lF'); (with_unfolding_all refine' For_invVF lF' ?k1 ?k2 ?_ (hE := by assumption); (case k1 => exact rfl); (case k2 => exact rfl); k_whole)))
local macro_rules | `(tactic| walk_at "subscriptTail") => `(tactic| (k_here; k_dflt (walk_at "# int_item kmaooo_"; k_whole; intro t9)))
theorem in_flag4 {prog : Program} {w : World} {A : Around} {E : Value → Shared → Prop} {s : Shared} {Q : Value → Shared → Prop} {x y : Str} {t u : Tok} {b : Bool} (hb : (!(Builtin.Str.occurrences x y 0 x.length 1).isEmpty) = b) (h : Q (.bool b) s) : wpAny (model prog w) A (compareOp .In (.str y u) (.str x t)) Q E s :=
  PyProof.Rows.in_str (by rw [hb]; exact h)
local macro_rules | `(tactic| walk_at "compareOp In str str") => `(tactic| (k_here; walk_at "# in_flag4 a_"))
local macro_rules | `(tactic| walk_at "call ref") => `(tactic| (k_here; k_dflt (walk_at "# end_call kkkkkzmaoodu_"; k_whole; intro t9 h9 tk9 F9 N9; walk_at "#f")))
local macro_rules | `(tactic| walk_at "call builtin:dict.get") => `(tactic| (k_here; k_dflt (refine kdf_get2 (c := ‹List (Int × Int)›) ?T ?_; (case T => exact TabAt.ofNews (by k_asm) (by first | k_mem | kst_mem) (by assumption) (by assumption) (by assumption)); k_whole; intro t9)))
local macro_rules | `(tactic| walk_at "call ref") => `(tactic| (k_here; k_dflt (walk_at "# tcode_plain kkkkkzmmmaaadu_"; k_whole; intro t9 h9 tk9 F9 N9; walk_at "#f")))
theorem map_next {f : Int → Int} {asks : List Int} {ys : List Value} {i : Nat} {t : Tok} (hi : i < asks.length) (h : IntsAre ys ((asks.take i).map f)) : IntsAre (ys ++ [.int (f (asks.getD i 0)) t]) ((asks.take (i + 1)).map f) := by
  rw [List.take_add_one, List.getElem?_eq_getElem hi, List.map_append]
  rw [show asks.getD i 0 = asks[i] by rw [List.getD_eq_getElem?_getD, List.getElem?_eq_getElem hi]; rfl]
  exact IntsAre.append h (.cons _ _ .nil)
theorem kdf_setdef {prog : Program} {w : World} {A : Around} {E : Value → Shared → Prop} {s : Shared} {h₀ : Heap} {L d : Addr} {m : Str → Option Value} {news : List (Addr × Obj)} {u : Obj → List (Addr × Obj)} {o : Obj} {kvs : List (Int × Value)} {c : List (Int × Int)} {k e : Int} {tk te : Tok} {Q : Value → Shared → Prop}
    (F : Fr h₀ L s.heap m) (N : News h₀ L s.heap news) (U : UpdF d o news u) (hp : (d, o) ∈ news) (lo : (d == sysModules) = false) (hd : o.IsDictOf (PySem.intKind prog w) kvs) (hf : FlatPairs PyData.int kvs (kdfD c)) (hc : c.length ≤ 16777216)
    (h1 : kdfHas c k = true → ∀ z t, Q (.int z t) { s with toks := s.toks + 1 })
    (h2 : kdfHas c k = false → ∀ h' o' kvs', Fr h₀ L h' m → News h₀ L h' (u o') → o'.IsDictOf (PySem.intKind prog w) kvs' → FlatPairs PyData.int kvs' (kdfD (kdfPut c k e)) → Q (.int e te) { s with heap := h', toks := s.toks + 1 }) :
    wpAny (model prog w) A (call (.builtin "dict.setdefault") [.ref d, .int k tk, .int e te]) Q E s := by
  have hl : kvs.length ≤ sizeLine := by rw [← hf.length, kdfD_length, sizeLine_eq]; exact hc
  cases hk : kdfHas c k with
  | true => exact kt_setdefault_there PyProof.V.same_int (intKind_is _ _ _ _) (TabAt.ofNews N hp lo hd hf) (PySem.F.args_dict_setdefault_3 _ _ _) (kdfD_item hk) (by rw [kdfD_length, sizeLine_eq]; exact hc) (fun v hv => by
      obtain ⟨t, ht⟩ := PyProof.V.Flat.int_inv hv
      rw [ht]; exact h1 hk _ _)
  | false =>
    have hn : PySem.Spec.lookup (PyData.int k) (kdfD c) = none := by
      have := kdfD_isSome k c
      rw [hk] at this
      cases hq : PySem.Spec.lookup (PyData.int k) (kdfD c) with
      | none => rfl
      | some x => rw [hq] at this; cases this
    exact kob_setdef_new F N U hd lo (intKind_is _ _ _ _) (PySem.F.args_dict_setdefault_3 _ _ _) (hf.none_of_lookup PyProof.V.same_int hn) hl (fun h' o' F' N' D' => h2 hk h' o' _ F' N' D' (by
      rw [← kdfD_put]; exact hf.stored PyProof.V.same_int k (PyProof.V.Flat.int e te)))
noncomputable def Nd (c : List (Int × Int)) : Prop := c.Pairwise (fun p q => p.1 ≠ q.1)
theorem nd_put {c : List (Int × Int)} {k v : Int} (h : Nd c) (hk : kdfHas c k = false) : Nd (kdfPut c k v) := by
  have hk2 : ¬ (c.any fun p => decide (p.1 = k)) = true := by unfold kdfHas at hk; rw [hk]; decide
  unfold kdfPut Nd
  rw [if_neg hk2, List.pairwise_append]
  refine ⟨h, List.pairwise_singleton _ _, fun p hp q hq => ?_⟩
  rw [List.mem_singleton.mp hq]
  intro e
  exact hk2 (List.any_eq_true.mpr ⟨p, hp, decide_eq_true e⟩)
theorem nd_table (src bec : List Int) (del : Bool) : ∀ k, Nd (tableOf src bec del k)
  | 0 => .nil
  | k + 1 => by
    unfold tableOf
    split
    · exact nd_table src bec del k
    · rename_i h
      exact nd_put (nd_table src bec del k) (by simpa using h)
theorem nd_find {c : List (Int × Int)} (h : Nd c) {p : Int × Int} (hp : p ∈ c) : c.find? (fun q => decide (q.1 = p.1)) = some p := by
  induction c with
  | nil => cases hp
  | cons q r ih =>
    rw [Nd, List.pairwise_cons] at h
    rw [List.find?_cons]
    rcases List.mem_cons.mp hp with rfl | hp
    · simp
    · have : q.1 ≠ p.1 := h.1 p hp
      rw [decide_eq_false this]
      exact ih h.2 hp
theorem rows_same {c : List (Int × Int)} (h : Nd c) : KeqRows (kdfD c) (kdfD c) true := by
  have key : ∀ c' : List (Int × Int), (∀ p ∈ c', p ∈ c) → KeqRows (kdfD c) (kdfD c') true := by
    intro c'
    induction c' with
    | nil => intro _; exact .nil
    | cons p r ih =>
      intro hs
      have h1 : PySem.Spec.lookup (PyData.int p.1) (kdfD c) = some (PyData.int p.2) := by
        rw [kdfD_lookup, nd_find h (hs p (.head _))]; rfl
      have h2 := KeqRows.hit (v := PyData.int p.2) h1 (ih (fun q hq => hs q (.tail _ hq)))
      rw [show (PyData.eqv (PyData.int p.2) (PyData.int p.2) && true) = true by simp [PyData.eqv]] at h2
      exact h2
  exact key c (fun _ h => h)
theorem phD {w : World} {mean : ExcName → Option Value} {mg mb : Str → Option Value} {fa L : Addr} {cd : Value} {base h₀ : Heap} {u : Str → Option Value} {s : Shared} {Q : Flow → Shared → Prop} {E : Value → Shared → Prop}
    (B : Below callerA base [] h₀) (X : (hd.heap_39 w.params).In h₀)
    (T : Top hd.view_39 (looseW hd.view_39 [Str.ofString "SHORT_ESCAPES", Str.ofString "_law_parts"]) mean mg mb h₀)
    (hE : PassesOwn (model Challenge.rw_qd0140_01.row.prog w) (callerA.deeper (envOfC (Str.ofString "law") lawS L fa cd)) (envOfC (Str.ofString "law") lawS L fa cd) E)
    {fl : Str} {xf : Tok} {vb us vf vs2 avs : List Value} {nb n2 nf ns2 na : Nat} {bl first second asks : List Int} {t1 t2 t3 t4 t5 t6 : Tok} {fd fs : Bool} {x dx d lb lc lf lse al : Addr} {kv : List (Int × Value)} {nw : List (Addr × Obj)} {o o2 o3 o4 : Obj} {c4 : Option Value}
    (F : Fr h₀ L s.heap (kstB u [(Str.ofString "asked", .ref al), (Str.ofString "flags", .str fl xf), (Str.ofString "second", .ref lse)]))
    (N : News h₀ L s.heap ((L + 1 + 1 + 1 + 1, o4) :: nw))
    (hx : (x, instObj 125 dx) ∈ nw) (hdx : (dx, tabObj w.params d lb lc false fd fs t1 t2 t3 t4 t5 t6) ∈ nw) (hd : (d, o) ∈ nw) (hb : (lb, listOf vb.toArray nb) ∈ nw) (hlc : (lc, listOf us.toArray n2) ∈ nw)
    (hf : (lf, listOf vf.toArray nf) ∈ nw) (hse : (lse, listOf vs2.toArray ns2) ∈ nw) (hal : (al, listOf avs.toArray na) ∈ nw)
    (ho2 : (L + 1 + 1, o2) ∈ nw) (hd2 : o2.data = .cell (some (.ref lf))) (ho3 : (L + 1 + 1 + 1, o3) ∈ nw) (hd3 : o3.data = .cell (some (.ref x))) (hd4 : o4.data = .cell c4)
    (hsm : (d == sysModules) = false) (Id : o.IsDictOf (PySem.intKind Challenge.rw_qd0140_01.row.prog w) kv) (If : FlatPairs PyData.int kv (kdfD (tableOf first second fd first.length)))
    (Ib : IntsAre vb bl) (hbl : bl.Pairwise (· < ·)) (hbm : ∀ y, y ∈ bl ↔ false = true ∧ y ∈ first) (hvb : vb.length < 2000) (Ius : IntsAre us second) (hus : us.length < 2000) (If1 : IntsAre vf first) (hvf : vf.length < 2000) (Ise : IntsAre vs2 second) (hvse : vs2.length < 2000) (Ia : IntsAre avs asks) (hvas : avs.length < 2000)
    (hfd : (!(Builtin.Str.occurrences fl (Str.ofString "d") 0 fl.length 1).isEmpty) = fd)
    (hfirst : ∀ y ∈ first, 0 ≤ y ∧ y < 128) (hasks : ∀ y ∈ asks, 0 ≤ y ∧ y < 130)
    (hn4 : ∀ p ∈ nw, p.1 ≠ L + 1 + 1 + 1 + 1)
    (hfin : ∀ h' tk' m' news', Fr h₀ L h' m' → News h₀ L h' news' → Q (.ret (.bool true)) { s with heap := h', toks := tk' }) :
    wpAny (model Challenge.rw_qd0140_01.row.prog w) (callerA.deeper (envOfC (Str.ofString "law") lawS L fa cd)) (execs lawD (envOfC (Str.ofString "law") lawS L fa cd)) Q E s := by
  revert X; k_fill; intro X
  dsimp only [lawD, lawB, lawS, bodyLaw, scopeLaw, List.drop]
  dsimp only [lawS, bodyLaw, scopeLaw] at hE
  (try dsimp only [kstB] at F)
  have hb0 : bl = [] := List.eq_nil_iff_forall_not_mem.mpr (fun y hy => by have := ((hbm y).mp hy).1; cases this)
  subst hb0
  k_steps
  refine Stop.in ?_
  rename_i dd _ od lod _ _ Id9 If9 l9 _ o9 _ _ hd9 _ _ _ _ _ hr lF' lN' _
  have hs9 := range_small (a := 0) (b := (vf.length : Int)) (by omega) (by omega) (by omega) (by omega)
  have hfl := If1.length
  have hLd : L + 1 + 1 + 1 + 1 ≠ dd := Nat.ne_of_lt l9.1
  have hnd : ∀ p ∈ nw, p.1 ≠ dd := fun p hp => Nat.ne_of_lt (allLt_all l9.2 p hp)
  with_unfolding_all refine fr_range (σ := Obj × List (Int × Value)) (fun k c => (dd, c.1) :: (L + 1 + 1 + 1 + 1, o9) :: nw) (fun k c => []) [] (fun k c => c.1.IsDictOf (PySem.intKind Challenge.rw_qd0140_01.row.prog w) c.2 ∧ FlatPairs PyData.int c.2 (kdfD (tableOf first second fd k))) (od, []) rfl hr hs9 (range_size _ _) lF' lN' (List.forall_mem_nil _) ⟨Id9, If9⟩ ?_ ?_
  · clear lF' lN'
    rintro k ⟨o2, kv2⟩ u2 t2 h2 tk2 own hk hoff ⟨hq1, hq2⟩ F2 N2
    (try dsimp only [kstB] at *)
    simp only [List.cons_append] at N2
    have hk2 : k < vf.length := by omega
    have hne : ∀ p ∈ (L + 1 + 1 + 1 + 1, o9) :: (nw ++ own), p.1 ≠ dd := by
      intro p hp
      rcases List.mem_cons.mp hp with rfl | hp
      · exact hLd
      · rcases List.mem_append.mp hp with hp | hp
        · exact hnd p hp
        · exact hoff p hp dd (.head _)
    have htl := table_len first second fd k
    try k_unmd
    try k_fold
    k_steps
    refine Stop.in ?_
    k_dflt (refine kdf_setdef (by k_asm) (by k_asm) (UpdF.head hne) (.head _) lod hq1 hq2 (by omega) ?_ ?_)
    · intro hk9 z t
      k_steps
      refine Stop.in ?_
      dsimp only [InvPostG]
      rename News _ _ _ _ => N9
      refine fr_end (o2, kv2) (by assumption) N9 memC memD hoff (List.forall_mem_nil _) (by kst_same) ⟨hq1, ?_⟩
      dsimp only
      rw [table_has2 (kk := 0 + (k : Int)) (by omega) hk9]; exact hq2
    · intro hk9 h' o' kvs' F' N' D' f'
      k_steps
      refine Stop.in ?_
      dsimp only [InvPostG]
      rename News _ _ _ _ => N9
      refine fr_end (o', kvs') (by assumption) N9 memC memD hoff (List.forall_mem_nil _) (by kst_same) ⟨D', ?_⟩
      dsimp only
      rw [table_put2 (kk := 0 + (k : Int)) (by omega) hk9 (v := endOf second fd (0 + (k : Int)).toNat (first.getD (0 + (k : Int)).toNat 0)) (by rw [show (0 + (k : Int)).toNat = k by omega])]
      exact f'
  · clear lF' lN'
    rintro ⟨o2, kv2⟩ u2 h2 tk2 ⟨hq1, hq2⟩ F2 N2
    (try dsimp only [kstB] at *)
    rw [show ((vf.length : Int) - 0).toNat = first.length by omega] at hq2
    have hnn := nd_table first second fd first.length
    have htl := table_len first second fd first.length
    generalize hT : tableOf first second fd first.length = tbl at *
    try k_unmd
    try k_fold
    k_steps
    refine Stop.in ?_
    k_dflt (refine kne_tabs (enc := PyData.int) PyProof.V.same_int (Da := kdfD tbl) (Db := kdfD tbl) (TabAt.ofNews (by k_asm) (.tail _ (.tail _ hd)) hsm Id If) (TabAt.ofNews (by k_asm) (.head _) lod hq1 hq2) rfl (by ktr_units) (rows_same hnn) ?_)
    k_steps
    refine Stop.in ?_
    rename News _ _ _ _ => N9
    k_dflt (refine ints_neL N9 (.tail _ (.tail _ (.tail _ hb))) Ib (us := []) (.head _) .nil (by ktr_units) ?_)
    rw [decide_eq_true rfl]
    have N8 := kst_newsOf N9 (l' := (dd, o2) :: (L + 1 + 1 + 1 + 1, o9) :: nw) (fun p hp => .tail _ hp)
    clear N9
    k_steps
    refine Stop.in ?_
    k_dflt (refine LCg.ListComp_U (F₀ := by k_asm) (by with_unfolding_all rfl) (by decide) (by rfl) (by decide) (by rfl) ?_)
    k_steps
    refine Stop.in ?_
    k_dflt (refine LCg.CompSrc.ledger (by rfl) (by k_asm) (by k_asm) (.tail _ (.tail _ hal)) (by rw [List.size_toArray, sizeLine_eq]; omega) (fun g => ?_))
    refine restU_inv (fun i vs nw' => nw' = (dd, o2) :: (L + 1 + 1 + 1 + 1, o9) :: nw ∧ IntsAre vs ((asks.take i).map fun y => kdfLook tbl y (-1))) avs.toArray.size ?_ ?_ avs.toArray.size 0 [] _ (Nat.zero_add _) ⟨rfl, .nil⟩
    · rintro i ys nw' hi ⟨rfl, hys⟩ v I oI C oC D m₂ h tk' E' hv hNs hmv F9 N9 off ne
      rw [List.size_toArray] at hi
      obtain ⟨t9, ht9⟩ := ints_getD Ia hi
      rw [List.getElem?_toArray, ht9] at hv
      obtain rfl := Option.some.inj hv
      have hal2 := Ia.length
      try k_fold
      k_steps
      refine Stop.in ?_
      rename News h₀ L _ _ => N8
      exact PyProof.Rows.LCg.CompEnd.intro (by assumption) N8 _ (fun p hp => hp) off (.inr ⟨_, .tail _ (.tail _ hal), rfl, _, rfl⟩) ⟨rfl, map_next (f := fun y => kdfLook tbl y (-1)) (by omega) hys⟩
    · rintro ys nw' ⟨rfl, hys⟩ D h tk' F9 N9 o9x
      try k_fold
      k_steps
      refine Stop.in ?_
      k_dflt (refine LCg.ListComp_U (F₀ := by k_asm) (by with_unfolding_all rfl) (by decide) (by rfl) (by decide) (by rfl) ?_)
      k_steps
      refine Stop.in ?_
      k_dflt (refine LCg.CompSrc.ledger (by rfl) (by k_asm) (by k_asm) (.tail _ (.tail _ (.tail _ hal))) (by rw [List.size_toArray, sizeLine_eq]; omega) (fun g => ?_))
      refine restU_inv (fun i vs nw' => nw' = (D, LCg.lst ys) :: (dd, o2) :: (L + 1 + 1 + 1 + 1, o9) :: nw ∧ IntsAre vs ((asks.take i).map fun y => kdfLook tbl y (-1))) avs.toArray.size ?_ ?_ avs.toArray.size 0 [] _ (Nat.zero_add _) ⟨rfl, .nil⟩
      · rintro i ys2 nw' hi ⟨rfl, hys2⟩ v I oI C oC D2 m₂ h tk' E' hv hNs hmv F9 N9 off ne
        rw [List.size_toArray] at hi
        obtain ⟨t9, ht9⟩ := ints_getD Ia hi
        rw [List.getElem?_toArray, ht9] at hv
        obtain rfl := Option.some.inj hv
        have hal2 := Ia.length
        try k_fold
        k_steps
        refine Stop.in ?_
        rename News h₀ L _ _ => N8
        exact PyProof.Rows.LCg.CompEnd.intro (by assumption) N8 _ (fun p hp => hp) off (.inr ⟨_, .tail _ (.tail _ (.tail _ hal)), rfl, _, rfl⟩) ⟨rfl, map_next (f := fun y => kdfLook tbl y (-1)) (by omega) hys2⟩
      · rintro ys2 nw' ⟨rfl, hys2⟩ D2 h2 tk2 F9 N9 o9y
        try k_fold
        k_steps
        refine Stop.in ?_
        k_dflt (refine ints_eqL N9 (.tail _ (.head _)) hys (.head _) hys2 (by ktr_units) ?_)
        rw [decide_eq_true rfl]
        k_steps
        exact hfin _ _ _ _ (by assumption) (by assumption)
end
end
-- part Pe
section
theorem fresh_Pe : True := by
  w_top off
  trivial
section

local macro_rules | `(tactic| k_all) => `(tactic| assumption)
local macro_rules | `(tactic| walk_at $k:str) => if ["compareOp NotEq ref ref", "pyIter ref", "eval ListComp", "CompSrcT", "CompEnd"].contains k.getString then `(tactic| refine Stop.out ?_) else Lean.Macro.throwUnsupported
local macro_rules | `(tactic| walk_at "exec Assign cons ListComp") => `(tactic| (k_here; k_dflt (refine LCt.Assign_ListComp_T (F₀ := by k_asm) (by rfl) (by with_unfolding_all rfl) (by with_unfolding_all rfl) (by decide) (by rfl) (by decide) (by rfl) (by rfl) (by rfl) ?_)))
local macro_rules | `(tactic| walk_at "compareOp In int ref") => `(tactic| (k_here; k_dflt (walk_at "# ints_in9 kma_"; k_whole)))
local macro_rules | `(tactic| walk_at "exec For Name Name cons nil") => `(tactic| (k_here; (rename Fr _ _ _ _ => lF'); (with_unfolding_all refine' For_invVF lF' ?k1 ?k2 ?_ (hE := by assumption); (case k1 => exact rfl); (case k2 => exact rfl); k_whole)))
theorem ne_same {prog : Program} {w : World} {A : Around} {E : Value → Shared → Prop} {s : Shared} {Q : Value → Shared → Prop} {a : Int} {t u : Tok} (h : Q (.bool false) s) : wpAny (model prog w) A (compareOp .NotEq (.int a t) (.int a u)) Q E s :=
  PyProof.Rows.ne_int (by rw [show (a != a) = false from bne_self_eq_false a]; exact h)
local macro_rules | `(tactic| walk_at "compareOp NotEq int int") => `(tactic| (k_here; refine ne_same ?_))
theorem turn_lo {ns bec : List Int} {del : Bool} {code : Int} (h : rankOf ns code < 0) : turnOf ns bec del code = -1 := by rw [turnOf, if_pos h]
theorem turn_hi {ns bec : List Int} {del : Bool} {code : Int} (h : ¬ rankOf ns code < 0) : turnOf ns bec del code = endOf bec del (rankOf ns code).toNat code := by rw [turnOf, if_neg h]
theorem in_flag3 {prog : Program} {w : World} {A : Around} {E : Value → Shared → Prop} {s : Shared} {Q : Value → Shared → Prop} {x y : Str} {t u : Tok} {b : Bool} (hb : (!(Builtin.Str.occurrences x y 0 x.length 1).isEmpty) = b) (h : Q (.bool b) s) : wpAny (model prog w) A (compareOp .In (.str y u) (.str x t)) Q E s :=
  PyProof.Rows.in_str (by rw [hb]; exact h)
local macro_rules | `(tactic| walk_at "compareOp In str str") => `(tactic| (k_here; walk_at "# in_flag3 a_"))
local macro_rules | `(tactic| walk_at "call ref") => `(tactic| (k_here; k_dflt (walk_at "# rankl_call kkkkkzmaooodu_"; k_whole; intro t9 h9 tk9 F9 N9; walk_at "#f")))
local macro_rules | `(tactic| walk_at "call ref") => `(tactic| (k_here; k_dflt (walk_at "# end_call kkkkkzmaoodu_"; k_whole; intro t9 h9 tk9 F9 N9; walk_at "#f")))
local macro_rules | `(tactic| walk_at "call ref") => `(tactic| (k_here; k_dflt (walk_at "# rank_call kkkkkzmaoooaadu_"; k_whole; intro t9 h9 tk9 F9 N9; walk_at "#f")))
local macro_rules | `(tactic| walk_at "call ref") => `(tactic| (k_here; k_dflt (walk_at "# turned_call kkkkkzmmmaamaaooaadu_"; k_whole; intro t9 h9 tk9 F9 N9; (first | rw [turn_lo (by with_reducible assumption)] | rw [turn_hi (by with_reducible assumption)]); walk_at "#f")))
local macro_rules | `(tactic| walk_at "call ref") => `(tactic| (k_here; k_dflt (walk_at "# tcode_turned kkkkkzmmmaamaaooaadu_"; k_whole; intro t9 h9 tk9 F9 N9; (first | rw [turn_lo (by with_reducible assumption)] | rw [turn_hi (by with_reducible assumption)]); walk_at "#f")))
noncomputable def pick (ns : List Int) (i : Nat) : List Int := (rangeKs 0 i).filter (fun y => decide (y ∈ ns))
theorem pick_succ (ns : List Int) (i : Nat) : pick ns (i + 1) = if ((i : Nat) : Int) ∈ ns then pick ns i ++ [(i : Int)] else pick ns i := by
  unfold pick rangeKs
  rw [List.range_succ, List.map_append, List.filter_append]
  simp only [List.map_cons, List.map_nil, Int.zero_add, List.filter_cons, List.filter_nil]
  by_cases h : ((i : Nat) : Int) ∈ ns
  · simp [h]
  · simp [h]
theorem mem_pick {ns : List Int} {i : Nat} {y : Int} : y ∈ pick ns i ↔ 0 ≤ y ∧ y < i ∧ y ∈ ns := by
  unfold pick rangeKs
  simp only [List.mem_filter, List.mem_map, List.mem_range, decide_eq_true_eq]
  constructor
  · rintro ⟨⟨j, hj, rfl⟩, h⟩
    exact ⟨by omega, by omega, h⟩
  · rintro ⟨h1, h2, h3⟩
    exact ⟨⟨y.toNat, by omega, by omega⟩, h3⟩
theorem pick_asc (ns : List Int) (i : Nat) : (pick ns i).Pairwise (· < ·) := by
  unfold pick rangeKs
  refine List.Pairwise.filter _ ?_
  rw [List.pairwise_map]
  exact List.pairwise_lt_range.imp (fun h => by omega)
theorem strict_ext : ∀ {a b : List Int}, a.Pairwise (· < ·) → b.Pairwise (· < ·) → (∀ y, y ∈ a ↔ y ∈ b) → a = b
  | [], [], _, _, _ => rfl
  | [], y :: b, _, _, h => absurd ((h y).mpr (.head _)) (by simp)
  | x :: a, [], _, _, h => absurd ((h x).mp (.head _)) (by simp)
  | x :: a, y :: b, ha, hb, h => by
    rw [List.pairwise_cons] at ha hb
    have e : x = y := by
      rcases List.mem_cons.mp ((h x).mp (.head _)) with e | e
      · exact e
      · rcases List.mem_cons.mp ((h y).mpr (.head _)) with e2 | e2
        · exact e2.symm
        · have := hb.1 x e; have := ha.1 y e2; omega
    subst e
    congr 1
    refine strict_ext ha.2 hb.2 (fun z => ⟨fun hz => ?_, fun hz => ?_⟩)
    · rcases List.mem_cons.mp ((h z).mp (.tail _ hz)) with e | e
      · subst e; exact absurd (ha.1 _ hz) (by omega)
      · exact e
    · rcases List.mem_cons.mp ((h z).mpr (.tail _ hz)) with e | e
      · subst e; exact absurd (hb.1 _ hz) (by omega)
      · exact e
theorem phE {w : World} {mean : ExcName → Option Value} {mg mb : Str → Option Value} {fa L : Addr} {cd : Value} {base h₀ : Heap} {u : Str → Option Value} {s : Shared} {Q : Flow → Shared → Prop} {E : Value → Shared → Prop}
    (B : Below callerA base [] h₀) (X : (hd.heap_39 w.params).In h₀)
    (T : Top hd.view_39 (looseW hd.view_39 [Str.ofString "SHORT_ESCAPES", Str.ofString "_law_parts"]) mean mg mb h₀)
    (hE : PassesOwn (model Challenge.rw_qd0140_01.row.prog w) (callerA.deeper (envOfC (Str.ofString "law") lawS L fa cd)) (envOfC (Str.ofString "law") lawS L fa cd) E)
    {fl : Str} {xf : Tok} {vb us vf vs2 avs : List Value} {nb n2 nf ns2 na : Nat} {bl first second asks : List Int} {t1 t2 t3 t4 t5 t6 : Tok} {fd fs : Bool} {x dx d lb lc lf lse al : Addr} {kv : List (Int × Value)} {nw : List (Addr × Obj)} {o o2 o3 o4 : Obj} {c4 : Option Value}
    (F : Fr h₀ L s.heap (kstB u [(Str.ofString "asked", .ref al), (Str.ofString "flags", .str fl xf), (Str.ofString "second", .ref lse)]))
    (N : News h₀ L s.heap ((L + 1 + 1 + 1 + 1, o4) :: nw))
    (hx : (x, instObj 125 dx) ∈ nw) (hdx : (dx, tabObj w.params d lb lc true fd fs t1 t2 t3 t4 t5 t6) ∈ nw) (hd : (d, o) ∈ nw) (hb : (lb, listOf vb.toArray nb) ∈ nw) (hlc : (lc, listOf us.toArray n2) ∈ nw)
    (hf : (lf, listOf vf.toArray nf) ∈ nw) (hse : (lse, listOf vs2.toArray ns2) ∈ nw) (hal : (al, listOf avs.toArray na) ∈ nw)
    (ho2 : (L + 1 + 1, o2) ∈ nw) (hd2 : o2.data = .cell (some (.ref lf))) (ho3 : (L + 1 + 1 + 1, o3) ∈ nw) (hd3 : o3.data = .cell (some (.ref x))) (hd4 : o4.data = .cell c4)
    (hsm : (d == sysModules) = false) (Id : o.IsDictOf (PySem.intKind Challenge.rw_qd0140_01.row.prog w) kv) (If : FlatPairs PyData.int kv (kdfD []))
    (Ib : IntsAre vb bl) (hbl : bl.Pairwise (· < ·)) (hbm : ∀ y, y ∈ bl ↔ true = true ∧ y ∈ first) (hvb : vb.length < 2000) (Ius : IntsAre us second) (hus : us.length < 2000) (If1 : IntsAre vf first) (hvf : vf.length < 2000) (Ise : IntsAre vs2 second) (hvse : vs2.length < 2000) (Ia : IntsAre avs asks) (hvas : avs.length < 2000)
    (hfd : (!(Builtin.Str.occurrences fl (Str.ofString "d") 0 fl.length 1).isEmpty) = fd)
    (hfirst : ∀ y ∈ first, 0 ≤ y ∧ y < 128) (hasks : ∀ y ∈ asks, 0 ≤ y ∧ y < 130)
    (hn4 : ∀ p ∈ nw, p.1 ≠ L + 1 + 1 + 1 + 1)
    (hfin : ∀ h' tk' m' news', Fr h₀ L h' m' → News h₀ L h' news' → Q (.ret (.bool true)) { s with heap := h', toks := tk' }) :
    wpAny (model Challenge.rw_qd0140_01.row.prog w) (callerA.deeper (envOfC (Str.ofString "law") lawS L fa cd)) (execs (lawB 13) (envOfC (Str.ofString "law") lawS L fa cd)) Q E s := by
  revert X; k_fill; intro X
  dsimp only [lawB, lawS, bodyLaw, scopeLaw, List.drop]
  dsimp only [lawS, bodyLaw, scopeLaw] at hE
  (try dsimp only [kstB] at F)
  k_steps
  refine Stop.in ?_
  k_dflt (refine LCt.CompSrcT.range (by rfl) (by k_asm) (by k_asm) (by assumption) (by first | decide | rfl) (by first | rfl | decide) (by rw [sizeLine_eq]; decide) (fun g => ?_))
  refine restT_inv (fun i vs nw' => nw' = (L + 1 + 1 + 1 + 1, o4) :: nw ∧ IntsAre vs (pick first i)) 130 ?_ ?_ 130 0 [] _ rfl ⟨rfl, .nil⟩
  · rintro i vs nw' hi ⟨rfl, hvs⟩ v I oI C oC D m₂ h tk' E' ⟨t9, rfl⟩ hNs hmv F9 N9 off ne
    try k_fold
    k_steps
    all_goals refine Stop.in ?_
    all_goals rename News _ _ _ _ => N8
    · have hin : ((i : Nat) : Int) ∈ first := by rename (0 + (i : Int)) ∈ first => q; rwa [Int.zero_add] at q
      refine PyProof.Rows.LCg.CompEnd.intro (by assumption) N8 _ (fun p hp => hp) off trivial ⟨rfl, ?_⟩
      rw [pick_succ, if_pos hin]
      have := IntsAre.append hvs (.cons (0 + (i : Int)) t9 .nil)
      have e : 0 + (i : Int) = (i : Int) := Int.zero_add _
      rw [e] at this ⊢; exact this
    · have hin : ¬ ((i : Nat) : Int) ∈ first := by rename ¬ (0 + (i : Int)) ∈ first => q; rwa [Int.zero_add] at q
      refine PyProof.Rows.LCg.CompEnd.intro (by assumption) N8 _ (fun p hp => hp) off trivial ⟨rfl, ?_⟩
      rw [pick_succ, if_neg hin]
      exact hvs
  · rintro vs nw' ⟨rfl, hvs⟩ D h tk' F9 N9 o9
    try k_fold
    k_steps
    refine Stop.in ?_
    have hbe : bl = pick first 130 := strict_ext hbl (pick_asc _ _) (fun y => by
      rw [hbm, mem_pick]
      constructor
      · rintro ⟨_, h⟩
        have := hfirst y h
        exact ⟨this.1, by omega, h⟩
      · rintro ⟨_, _, h⟩
        exact ⟨rfl, h⟩)
    k_dflt (refine ints_neL (by k_asm) (.tail _ (.tail _ hb)) Ib (.head _) hvs (by ktr_units) ?_)
    rw [decide_eq_true hbe]
    k_steps
    refine Stop.in ?_
    k_dflt (refine kne_tabs (enc := PyData.int) PyProof.V.same_int (Da := []) (Db := []) (TabAt.ofNews (by k_asm) (.tail _ (.tail _ (.tail _ hd))) hsm Id If) (TabAt.ofNews (by k_asm) (.head _) (by assumption) (by assumption) (by assumption)) rfl (by ktr_units) .nil ?_)
    k_steps
    refine Stop.in ?_
    rename Fr _ _ _ _ => lF'
    rename News _ _ _ _ => lN'
    have hnn : ∀ y ∈ pick first 130, 0 ≤ y := fun y hy => (mem_pick.mp hy).1
    have hpa := pick_asc first 130
    have hvs9 : vs.length < 2000 := by
      have h1 := hvs.length
      have h2 : (pick first 130).length ≤ 130 := Nat.le_trans (List.length_filter_le _ _) (by rw [rangeKs_length]; exact Nat.le_refl _)
      omega
    rw [hbe] at Ib hbl
    have lN2 := kst_newsOf lN' (l' := (L + 1 + 1 + 1 + 1, o4) :: (D, LCg.lst vs) :: nw) (by intro p hp; rcases List.mem_cons.mp hp with rfl | hp; exact .tail _ (.tail _ (.head _)); rcases List.mem_cons.mp hp with rfl | hp; exact .tail _ (.head _); exact .tail _ (.tail _ (.tail _ hp)))
    have hDL : D ≠ L + 1 + 1 + 1 + 1 := fun e => by
      simp only [LCg.Off1] at o9
      exact o9.1 e.symm
    with_unfolding_all refine fr_list (σ := Obj) (l := al) (vs := avs) (nn := na) (fun k c => (L + 1 + 1 + 1 + 1, c) :: (D, LCg.lst vs) :: nw) (fun k c => []) [Str.ofString "rank"] (fun k c => ∃ v, c.data = .cell v) o4 rfl (fun _ _ => .tail _ (.tail _ hal)) lF' lN2 (List.forall_mem_nil _) ⟨_, hd4⟩ ?_ ?_
    · clear lF' lN' lN2
      rintro k v c u2 h2 tk2 own hv hoff ⟨cv, hcv⟩ F2 N2
      (try dsimp only [kstB] at *)
      simp only [List.cons_append] at N2
      have hkl : k < avs.length := by
        rcases Nat.lt_or_ge k avs.length with h | h
        · exact h
        · rw [List.getElem?_eq_none h] at hv; cases hv
      obtain ⟨t9, ht9⟩ := ints_getD Ia hkl
      rw [hv] at ht9
      obtain rfl := Option.some.inj ht9
      have hcode := hasks (asks.getD k 0) (by
        have h1 : k < asks.length := by have := Ia.length; omega
        rw [List.getD_eq_getElem?_getD, List.getElem?_eq_getElem h1]; exact List.getElem_mem h1)
      generalize asks.getD k 0 = code at *
      have hrl := rank_lo (ns := pick first 130) hcode.1
      have hne : ∀ p ∈ (D, LCg.lst vs) :: (nw ++ own), p.1 ≠ L + 1 + 1 + 1 + 1 := by
        intro p hp
        rcases List.mem_cons.mp hp with rfl | hp
        · exact hDL
        · rcases List.mem_append.mp hp with hp | hp
          · exact hn4 p hp
          · exact hoff p hp _ (.head _)
      try k_unmd
      try k_fold
      k_steps
      all_goals refine Stop.in ?_
      all_goals dsimp only [InvPostG]
      all_goals (
        rename News _ _ _ _ => N9
        rename Obj.data _ = Data.cell _ => hd9
        exact fr_end _ (by assumption) N9 memC memD hoff (List.forall_mem_nil _) (by kst_same) ⟨_, hd9⟩)
    · clear lF' lN' lN2
      rintro c u2 h2 tk2 ⟨cv, hcv⟩ F2 N2
      (try dsimp only [kstB] at *)
      try k_unmd
      try k_fold
      k_steps
      exact hfin _ _ _ _ (by assumption) (by assumption)
end
end
-- part C2
section
theorem fresh_C2 : True := by
  w_top off
  trivial
section

local macro_rules | `(tactic| k_all) => `(tactic| assumption)
local macro_rules | `(tactic| walk_at "compareOp NotEq ref ref") => `(tactic| refine Stop.out ?_)
local macro_rules | `(tactic| walk_at "call ref") => `(tactic| (k_here; k_dflt (walk_at "# feed_call kkkkkzUmaaQoooodu_"; k_whole; intro r9 t8 t9 n9 h9 tk9 r0 r1 F9 N9; (try dsimp only at N9); walk_at "#f")))
theorem in_flag2 {prog : Program} {w : World} {A : Around} {E : Value → Shared → Prop} {s : Shared} {Q : Value → Shared → Prop} {x y : Str} {t u : Tok} {b : Bool} (hb : (!(Builtin.Str.occurrences x y 0 x.length 1).isEmpty) = b) (h : Q (.bool b) s) : wpAny (model prog w) A (compareOp .In (.str y u) (.str x t)) Q E s :=
  PyProof.Rows.in_str (by rw [hb]; exact h)
local macro_rules | `(tactic| walk_at "compareOp In str str") => `(tactic| (k_here; walk_at "# in_flag2 a_"))
theorem notin_flag2 {prog : Program} {w : World} {A : Around} {E : Value → Shared → Prop} {s : Shared} {Q : Value → Shared → Prop} {x y : Str} {t u : Tok} {b : Bool} (hb : (!(Builtin.Str.occurrences x y 0 x.length 1).isEmpty) = b) (h : Q (.bool (!b)) s) : wpAny (model prog w) A (compareOp .NotIn (.str y u) (.str x t)) Q E s :=
  PySem.P.notIn_str (by rw [hb]; exact h)
local macro_rules | `(tactic| walk_at "exec Assign cons List") => `(tactic| (k_here; k_dflt (refine wpAny_Assign_Name ?_)))
local macro_rules | `(tactic| walk_at "compareOp NotIn str str") => `(tactic| (k_here; walk_at "# notin_flag2 a_"))
local macro_rules | `(tactic| walk_at "execs cons Assign cons") => `(tactic| refine Stop.out ?_)
theorem news_swap {h₀ h : Heap} {L : Addr} {x y z : Addr × Obj} {l : List (Addr × Obj)} (N : News h₀ L h (x :: y :: z :: l)) : News h₀ L h (z :: x :: y :: l) :=
  kst_newsOf N (by repeat (first | exact List.forall_mem_nil _ | (refine List.forall_mem_cons.mpr ⟨by repeat (first | exact List.Mem.head _ | apply List.Mem.tail), ?_⟩) | (intro p hp; repeat (first | exact hp | apply List.Mem.tail))))
theorem phC {w : World} {mean : ExcName → Option Value} {mg mb : Str → Option Value} {fa L : Addr} {cd : Value} {base h₀ : Heap} {u : Str → Option Value} {s : Shared} {Q : Flow → Shared → Prop} {E : Value → Shared → Prop}
    (B : Below callerA base [] h₀) (X : (hd.heap_39 w.params).In h₀)
    (T : Top hd.view_39 (looseW hd.view_39 [Str.ofString "SHORT_ESCAPES", Str.ofString "_law_parts"]) mean mg mb h₀)
    (hE : PassesOwn (model Challenge.rw_qd0140_01.row.prog w) (callerA.deeper (envOfC (Str.ofString "law") lawS L fa cd)) (envOfC (Str.ofString "law") lawS L fa cd) E)
    {as1 as2 : List Atom} {fl : Str} {most sp : Int} {x1 x2 xm xf t : Tok} {ls1 ls2 : Addr} {ys vb us vf vs2 : List Value} {nb n2 nf ns2 n ny : Nat} {bl first second cells : List Int} {t1 t2 t3 t4 t5 t6 : Tok} {fc fd fs : Bool} {x dx d lb lc lf lse c tr : Addr} {kv : List (Int × Value)} {nw : List (Addr × Obj)} {o o1 o2 o3 o4 : Obj} {c4 : Option Value}
    (F : Fr h₀ L s.heap (kstB u [(Str.ofString "source", .str (strOf as1) x1), (Str.ofString "signs", .ref ls1), (Str.ofString "target", .str (strOf as2) x2), (Str.ofString "others", .ref ls2), (Str.ofString "most", .int most xm), (Str.ofString "flags", .str fl xf), (Str.ofString "second", .ref lse)]))
    (N : News h₀ L s.heap ((tr, listOf #[.ref c, .int sp t] n) :: (L + 1 + 1 + 1 + 1, o4) :: nw))
    (hx : (x, instObj 125 dx) ∈ nw) (hdx : (dx, tabObj w.params d lb lc fc fd fs t1 t2 t3 t4 t5 t6) ∈ nw) (hd : (d, o) ∈ nw) (hb : (lb, listOf vb.toArray nb) ∈ nw) (hlc : (lc, listOf us.toArray n2) ∈ nw)
    (hf : (lf, listOf vf.toArray nf) ∈ nw) (hse : (lse, listOf vs2.toArray ns2) ∈ nw) (hc : (c, listOf ys.toArray ny) ∈ nw)
    (ho1 : (L + 1, o1) ∈ nw) (hd1 : o1.data = .cell (some (.ref tr))) (ho2 : (L + 1 + 1, o2) ∈ nw) (hd2 : o2.data = .cell (some (.ref lf))) (ho3 : (L + 1 + 1 + 1, o3) ∈ nw) (hd3 : o3.data = .cell (some (.ref x))) (hd4 : o4.data = .cell c4)
    (hsm : (d == sysModules) = false) (Id : o.IsDictOf (PySem.intKind Challenge.rw_qd0140_01.row.prog w) kv) (If : FlatPairs PyData.int kv (kdfD (if fc = true then [] else tableOf first second fd first.length)))
    (Ib : IntsAre vb bl) (hbl : bl.Pairwise (· < ·)) (hbm : ∀ y, y ∈ bl ↔ fc = true ∧ y ∈ first) (hvb : vb.length < 2000) (Ius : IntsAre us second) (hus : us.length < 2000) (If1 : IntsAre vf first) (hvf : vf.length < 2000) (Ise : IntsAre vs2 second) (hvse : vs2.length < 2000) (Ic : IntsAre ys cells) (hys : ys.length < 1000)
    (hfc : (!(Builtin.Str.occurrences fl (Str.ofString "c") 0 fl.length 1).isEmpty) = fc) (hfd : (!(Builtin.Str.occurrences fl (Str.ofString "d") 0 fl.length 1).isEmpty) = fd) (hfs : (!(Builtin.Str.occurrences fl (Str.ofString "s") 0 fl.length 1).isEmpty) = fs)
    (hfirst : ∀ y ∈ first, 0 ≤ y ∧ y < 128) (hsp : 0 ≤ sp ∧ sp < 100)
    (hn : ∀ p ∈ nw, p.1 ≠ tr) (hn4 : ∀ p ∈ nw, p.1 ≠ L + 1 + 1 + 1 + 1) (lt : AllLt tr [(L + 1 + 1 + 1 + 1, o4)])
    (hfin : ∀ h' tk' m' news', Fr h₀ L h' m' → News h₀ L h' news' → Q (.ret (.bool true)) { s with heap := h', toks := tk' }) :
    wpAny (model Challenge.rw_qd0140_01.row.prog w) (callerA.deeper (envOfC (Str.ofString "law") lawS L fa cd)) (execs (lawB 10) (envOfC (Str.ofString "law") lawS L fa cd)) Q E s := by
  revert X; k_fill; intro X
  dsimp only [lawB, lawS, bodyLaw, scopeLaw, List.drop]
  dsimp only [lawS, bodyLaw, scopeLaw] at hE
  simp only [AllLt, and_true] at lt
  (try dsimp only [kstB] at F)
  have hcn := hn _ hc
  dsimp only at hcn
  k_steps
  refine Stop.in ?_
  rename News _ _ _ _ => N9
  k_dflt (refine tup_ne N9 (.tail _ (.head _)) (.head _) (.tail _ (.tail _ (.tail _ (.tail _ hlc)))) Ius (.tail _ (.tail _ (.tail _ (.tail _ hse)))) Ise (by ktr_units) ?_)
  have N8 := kst_newsOf N9 (l' := (tr, listOf #[.ref c, .int sp t] n) :: (L + 1 + 1 + 1 + 1, o4) :: nw) (fun p hp => .tail _ (.tail _ hp))
  clear N9
  cases fc with
  | false =>
    k_steps
    refine Stop.in ?_
    dsimp only
    refine wpAny_execs_cons ?_
    k_steps
    refine Stop.in ?_
    (try dsimp only)
    rename_i tk0 ra _ _ _ _ _ a0 a1 _ _ rb _ _ _ _ _ b0 b1 al _ lal _ FF NN
    rename FlatPairs _ _ _ => If9
    rw [if_neg Bool.false_ne_true] at If9
    refine phD (asks := [97, 45, 10, 13, 0, 100, 122, ra, rb]) B X T hE (fr_kst FF (by kst_all)) (news_swap NN) (.tail _ (.tail _ hx)) (.tail _ (.tail _ hdx)) (.tail _ (.tail _ hd)) (.tail _ (.tail _ hb)) (.tail _ (.tail _ hlc)) (.tail _ (.tail _ hf)) (.tail _ (.tail _ hse)) (.head _)
      (.tail _ (.tail _ ho2)) hd2 (.tail _ (.tail _ ho3)) hd3 hd4 hsm (by assumption) If9 Ib hbl hbm hvb Ius hus If1 hvf Ise hvse (by repeat (first | exact .nil | refine .cons _ _ ?_)) (by show 9 < 2000; decide) hfd hfirst ?_
      (List.forall_mem_cons.mpr ⟨Nat.ne_of_gt lal.2.1, List.forall_mem_cons.mpr ⟨Nat.ne_of_gt lt, hn4⟩⟩) (fun h' tk' m' news' F' N' => hfin h' tk' m' news' F' N')
    intro y hy
    simp only [List.mem_cons, List.not_mem_nil, or_false] at hy
    omega
  | true =>
    k_steps
    refine Stop.in ?_
    dsimp only
    refine wpAny_execs_cons ?_
    k_steps
    refine Stop.in ?_
    (try dsimp only)
    rename_i tk0 ra _ _ _ _ _ a0 a1 _ _ rb _ _ _ _ _ b0 b1 al _ lal _ FF NN _
    rename FlatPairs _ _ _ => If9
    rw [if_pos rfl] at If9
    refine phE (asks := [97, 45, 10, 13, 0, 100, 122, ra, rb]) B X T hE (fr_kst FF (by kst_all)) (news_swap NN) (.tail _ (.tail _ hx)) (.tail _ (.tail _ hdx)) (.tail _ (.tail _ hd)) (.tail _ (.tail _ hb)) (.tail _ (.tail _ hlc)) (.tail _ (.tail _ hf)) (.tail _ (.tail _ hse)) (.head _)
      (.tail _ (.tail _ ho2)) hd2 (.tail _ (.tail _ ho3)) hd3 hd4 hsm (by assumption) If9 Ib hbl hbm hvb Ius hus If1 hvf Ise hvse (by repeat (first | exact .nil | refine .cons _ _ ?_)) (by show 9 < 2000; decide) hfd hfirst ?_
      (List.forall_mem_cons.mpr ⟨Nat.ne_of_gt lal.2.1, List.forall_mem_cons.mpr ⟨Nat.ne_of_gt lt, hn4⟩⟩) (fun h' tk' m' news' F' N' => hfin h' tk' m' news' F' N')
    intro y hy
    simp only [List.mem_cons, List.not_mem_nil, or_false] at hy
    omega
end
end
-- part B1
section
theorem fresh_B1 : True := by
  w_top off
  trivial
section

local macro_rules | `(tactic| walk_at "call ref") => `(tactic| (k_here; k_dflt (walk_at "# laidV_call kkkkkzaaaooodu_"; k_whole; intro v9 nx9 h9 tk9 lv9 F9 N9; walk_at "#f")))
local macro_rules | `(tactic| walk_at "call ref") => `(tactic| (k_here; k_dflt (walk_at "# signs_call kkkkkzaodu_"; k_whole; intro l9 vs9 n9 tups9 h9 tk9 z1 z2 z3 F9 N9 A9; walk_at "#f")))
local macro_rules | `(tactic| walk_at $k:str) => if ["compareOp NotEq ref ref", "compareOp NotEq"].contains k.getString then `(tactic| refine Stop.out ?_) else Lean.Macro.throwUnsupported
local macro_rules | `(tactic| walk_at "call ref") => `(tactic| (k_here; k_dflt (walk_at "# tab_call kkkkkzaaaoaoaaaoodu__"; k_whole)))
local macro_rules | `(tactic| walk_at "execs cons If cons") => `(tactic| refine Stop.out ?_)
theorem news_rot {h₀ h : Heap} {L : Addr} {a b c d e t f g : Addr × Obj} {l : List (Addr × Obj)} (N : News h₀ L h (a :: b :: c :: d :: e :: t :: f :: g :: l)) : News h₀ L h (t :: f :: a :: b :: c :: d :: e :: g :: l) :=
  kst_newsOf N (by repeat (first | exact List.forall_mem_nil _ | (refine List.forall_mem_cons.mpr ⟨by repeat (first | exact List.Mem.head _ | apply List.Mem.tail), ?_⟩) | (intro p hp; repeat (first | exact hp | apply List.Mem.tail))))
theorem first_b {as : List Atom} {most : Int} {first : List Int} (ok : ∀ x ∈ as, x.ok) (e : laid most (as.map Atom.sgn) [] = some first) : ∀ y ∈ first, 0 ≤ y ∧ y < 128 :=
  laid_codes (U := 128) _ _ _ _ (Nat.le_refl _) (fun s hs => by
    obtain ⟨x, hx, rfl⟩ := List.mem_map.mp hs
    have := code_lt (ok x hx)
    exact ⟨Int.natCast_nonneg _, by simp only [Atom.sgn]; omega⟩) (List.forall_mem_nil _) e
theorem phB {w : World} {mean : ExcName → Option Value} {mg mb : Str → Option Value} {fa L : Addr} {cd : Value} {base h₀ : Heap} {u : Str → Option Value} {s : Shared} {Q : Flow → Shared → Prop} {E : Value → Shared → Prop}
    (B : Below callerA base [] h₀) (X : (hd.heap_39 w.params).In h₀)
    (T : Top hd.view_39 (looseW hd.view_39 [Str.ofString "SHORT_ESCAPES", Str.ofString "_law_parts"]) mean mg mb h₀)
    (XB : (hd.heap_39 w.params).In base) (TB : Top hd.view_39 (looseW hd.view_39 [Str.ofString "SHORT_ESCAPES", Str.ofString "_law_parts"]) mean mg mb base)
    (hE : PassesOwn (model Challenge.rw_qd0140_01.row.prog w) (callerA.deeper (envOfC (Str.ofString "law") lawS L fa cd)) (envOfC (Str.ofString "law") lawS L fa cd) E)
    {as1 as2 : List Atom} {fl : Str} {most sp : Int} {x1 x2 xm xf t : Tok} {ls1 ls2 : Addr} {us1 us2 ys : List Value} {nl1 nl2 n ny : Nat} {v1 v2 : Value} {c tr : Addr} {cells : List Int} {nw : List (Addr × Obj)} {o1 o2 o3 o4 : Obj} {c3 c4 : Option Value}
    (F : Fr h₀ L s.heap (kstB u [(Str.ofString "source", .str (strOf as1) x1), (Str.ofString "signs", .ref ls1), (Str.ofString "target", .str (strOf as2) x2), (Str.ofString "others", .ref ls2), (Str.ofString "most", .int most xm), (Str.ofString "flags", .str fl xf), (Str.ofString "second", v2)]))
    (N : News h₀ L s.heap ((tr, listOf #[.ref c, .int sp t] n) :: (L + 1 + 1 + 1 + 1, o4) :: (L + 1 + 1 + 1, o3) :: nw))
    (hc : (c, listOf ys.toArray ny) ∈ nw) (Ic : IntsAre ys cells) (hys : ys.length < 1000)
    (hm1 : (ls1, listOf us1.toArray nl1) ∈ nw) (A1 : All2 (SgIn w.params []) us1 (as1.map Atom.sgn)) (ok1 : ∀ x ∈ as1, x.ok) (sl1 : (strOf as1).length < 100) (al1 : as1.length ≤ 18)
    (hm2 : (ls2, listOf us2.toArray nl2) ∈ nw) (A2 : All2 (SgIn w.params []) us2 (as2.map Atom.sgn)) (ok2 : ∀ x ∈ as2, x.ok) (sl2 : (strOf as2).length < 100) (al2 : as2.length ≤ 18)
    (ho1 : (L + 1, o1) ∈ nw) (hd1 : o1.data = .cell (some (.ref tr))) (ho2 : (L + 1 + 1, o2) ∈ nw) (hd2 : o2.data = .cell (some v1)) (hd3 : o3.data = .cell c3) (hd4 : o4.data = .cell c4)
    (hv1 : LaidV nw v1 (laid most (as1.map Atom.sgn) [])) (hv2 : LaidV nw v2 (laid most (as2.map Atom.sgn) []))
    (hmb : 0 ≤ most ∧ most ≤ 1000) (hsp : 0 ≤ sp ∧ sp < 100)
    (lt : AllLt tr [(L + 1 + 1 + 1 + 1, o4), (L + 1 + 1 + 1, o3)]) (hn : ∀ p ∈ nw, p.1 ≠ tr) (hn4 : ∀ p ∈ nw, p.1 ≠ L + 1 + 1 + 1 + 1) (hn3 : ∀ p ∈ nw, p.1 ≠ L + 1 + 1 + 1)
    (hfin : ∀ h' tk' m' news', Fr h₀ L h' m' → News h₀ L h' news' → Q (.ret (.bool true)) { s with heap := h', toks := tk' }) :
    wpAny (model Challenge.rw_qd0140_01.row.prog w) (callerA.deeper (envOfC (Str.ofString "law") lawS L fa cd)) (execs (lawB 7) (envOfC (Str.ofString "law") lawS L fa cd)) Q E s := by
  revert X; k_fill; intro X
  dsimp only [lawB, lawS, bodyLaw, scopeLaw, List.drop]
  simp only [AllLt, and_true] at lt
  (try dsimp only [kstB] at F)
  refine wpAny_execs_cons ?_
  k_steps
  refine Stop.in ?_
  rename All2 (SgIn w.params _) _ (List.map Atom.sgn as1) => A9
  rename News _ _ _ _ => N9
  k_dflt (refine sg_ne X (by k_asm) N9 (.head _) A9 (fun p hp => .tail _ (List.mem_append_left _ hp)) (.tail _ (List.mem_append_right _ (.tail _ (.tail _ (.tail _ hm1))))) A1 (List.forall_mem_nil _) (by ktr_units) ?_)
  rw [decide_eq_true rfl]
  have N8 := kst_newsOf N9 (l' := (tr, listOf #[.ref c, .int sp t] n) :: (L + 1 + 1 + 1 + 1, o4) :: (L + 1 + 1 + 1, o3) :: nw) (fun p hp => .tail _ (List.mem_append_right _ hp))
  clear N9 A9
  k_steps
  refine Stop.in ?_
  rename News _ _ _ _ => N9
  rename LaidV _ _ _ => V9
  k_dflt (refine laid_ne N9 V9 (fun p hp => hp) hv1 (fun p hp => List.mem_append_right _ (.tail _ (.tail _ (.tail _ hp)))) (by ktr_units) ?_)
  have N8 := kst_newsOf N9 (l' := (tr, listOf #[.ref c, .int sp t] n) :: (L + 1 + 1 + 1 + 1, o4) :: (L + 1 + 1 + 1, o3) :: nw) (fun p hp => List.mem_append_right _ hp)
  clear N9 V9
  k_steps
  refine Stop.in ?_
  rename News _ _ _ _ => N9
  rename LaidV _ _ _ => V9
  k_dflt (refine laid_ne N9 V9 (fun p hp => hp) hv2 (fun p hp => List.mem_append_right _ (.tail _ (.tail _ (.tail _ hp)))) (by ktr_units) ?_)
  have N8 := kst_newsOf N9 (l' := (tr, listOf #[.ref c, .int sp t] n) :: (L + 1 + 1 + 1 + 1, o4) :: (L + 1 + 1 + 1, o3) :: nw) (fun p hp => List.mem_append_right _ hp)
  clear N9 V9
  obtain ⟨fc, hfc⟩ : ∃ b, (!(Builtin.Str.occurrences fl (Str.ofString "c") 0 fl.length 1).isEmpty) = b := ⟨_, rfl⟩
  obtain ⟨fd, hfd⟩ : ∃ b, (!(Builtin.Str.occurrences fl (Str.ofString "d") 0 fl.length 1).isEmpty) = b := ⟨_, rfl⟩
  obtain ⟨fs, hfs⟩ : ∃ b, (!(Builtin.Str.occurrences fl (Str.ofString "s") 0 fl.length 1).isEmpty) = b := ⟨_, rfl⟩
  k_steps
  · rename (∀ p, p ∈ _ → _ ∧ _ ∧ _ ∧ _ ∧ _) => z9
    have l1 := fun p hp => (z9 p hp).1
    have l2 := fun p hp => (z9 p hp).2.1
    have l3 := fun p hp => (z9 p hp).2.2.1
    have l4 := fun p hp => (z9 p hp).2.2.2.1
    have l5 := fun p hp => (z9 p hp).2.2.2.2
    clear z9
    k_lt l1
    k_lt l2
    k_lt l3
    k_lt l4
    k_lt l5
    rename laid most (as1.map Atom.sgn) [] = some _ => e1
    rename laid most (as2.map Atom.sgn) [] = some _ => e2
    rcases hv1.out with ⟨rfl, q1⟩ | ⟨lf, vf, nf, cf, rfl, mf, If1, zf, q1⟩
    · rw [e1] at q1; cases q1
    rcases hv2.out with ⟨rfl, q2⟩ | ⟨lse, vs2, ns2, cs, rfl, mse, Ise, zse, q2⟩
    · rw [e2] at q2; cases q2
    rw [e1] at q1
    rw [e2] at q2
    obtain rfl := Option.some.inj q1
    obtain rfl := Option.some.inj q2
    k_steps
    refine Stop.in ?_
    (try dsimp only)
    refine wpAny_execs_cons ?_
    k_steps
    refine Stop.in ?_
    (try dsimp only)
    refine phC B X T hE (by assumption) (news_rot (by assumption)) (.head _) (.tail _ (.head _)) (.tail _ (.tail _ (.head _))) (.tail _ (.tail _ (.tail _ (.head _)))) (.tail _ (.tail _ (.tail _ (.tail _ (.head _)))))
      (.tail _ (.tail _ (.tail _ (.tail _ (.tail _ (.tail _ (mf))))))) (.tail _ (.tail _ (.tail _ (.tail _ (.tail _ (.tail _ (mse))))))) (.tail _ (.tail _ (.tail _ (.tail _ (.tail _ (.tail _ (hc))))))) (.tail _ (.tail _ (.tail _ (.tail _ (.tail _ (.tail _ (ho1))))))) hd1 (.tail _ (.tail _ (.tail _ (.tail _ (.tail _ (.tail _ (ho2))))))) hd2 (.tail _ (.tail _ (.tail _ (.tail _ (.tail _ (.head _)))))) (by assumption) hd4
      (by assumption) (by assumption) (by assumption) (by assumption) (by assumption) (by assumption) (by assumption) (by assumption) (by assumption) If1 zf Ise zse Ic hys hfc hfd hfs (first_b ok1 e1) hsp
      (List.forall_mem_cons.mpr ⟨Nat.ne_of_gt l1.1, List.forall_mem_cons.mpr ⟨Nat.ne_of_gt l2.1, List.forall_mem_cons.mpr ⟨Nat.ne_of_gt l3.1, List.forall_mem_cons.mpr ⟨Nat.ne_of_gt l4.1, List.forall_mem_cons.mpr ⟨Nat.ne_of_gt l5.1, List.forall_mem_cons.mpr ⟨Nat.ne_of_lt lt.2, hn⟩⟩⟩⟩⟩⟩)
      (List.forall_mem_cons.mpr ⟨Nat.ne_of_gt l1.2.1, List.forall_mem_cons.mpr ⟨Nat.ne_of_gt l2.2.1, List.forall_mem_cons.mpr ⟨Nat.ne_of_gt l3.2.1, List.forall_mem_cons.mpr ⟨Nat.ne_of_gt l4.2.1, List.forall_mem_cons.mpr ⟨Nat.ne_of_gt l5.2.1, List.forall_mem_cons.mpr ⟨Nat.ne_of_lt (Nat.lt_succ_self _), hn4⟩⟩⟩⟩⟩⟩)
      ⟨lt.1, trivial⟩ (fun h' tk' m' news' F' N' => hfin h' tk' m' news' F' N')
  · rename (_ ∨ _) => h9
    k_steps
    refine Stop.in ?_
    (try dsimp only)
    refine wpAny_execs_cons ?_
    rcases hv1.out with ⟨rfl, e1⟩ | ⟨l1, vs1, n1, c1, rfl, m1, I1, z1, e1⟩
    · k_steps
      exact hfin _ _ _ _ (by assumption) (by assumption)
    · rcases hv2.out with ⟨rfl, e2⟩ | ⟨l2, vs2, n2, c2, rfl, m2, I2, z2, e2⟩
      · k_steps
        exact hfin _ _ _ _ (by assumption) (by assumption)
      · rw [e1, e2] at h9
        rcases h9 with h9 | h9 <;> cases h9
end
end
end
end
-- part A1
section
theorem fresh_A1 : True := by
  w_top off
  trivial
section

local macro_rules | `(tactic| walk_at $k:str) => if ["call ref", "execs cons If cons"].contains k.getString then `(tactic| refine Stop.out ?_) else Lean.Macro.throwUnsupported
local macro_rules | `(tactic| k_all) => `(tactic| assumption)
local macro_rules | `(tactic| k_ne) => `(tactic| (refine neN ?_; first | with_reducible assumption | with_reducible exact Ne.symm (by assumption) | ((try dsimp only); omega)))
local macro_rules | `(tactic| walk_at "storeName") => `(tactic| (rename (∀ p, p ∈ _ → Prod.fst p < _) => z9; k_lt z9))
theorem lcodesV_call {w : World} {mean : ExcName → Option Value} {mg mb : Str → Option Value}
    {dp un : Nat} {gd : Option (List Code)} {cn : Str} {cs : Scope} {a : Addr} {ccd : Value} {cl : List (Str × Addr)} {outer : List Env} {A₀ : Around} {base h₀ : Heap} {L : Addr} {m : Str → Option Value} {s : Shared} {Q E : Value → Shared → Prop} {news : List (Addr × Obj)}
    (B : Below A₀ base outer h₀) (F : Fr h₀ L s.heap m) (X : (hd.heap_39 w.params).In h₀) (N : News h₀ L s.heap news)
    (T : Top hd.view_39 (looseW hd.view_39 [Str.ofString "SHORT_ESCAPES", Str.ofString "_law_parts"]) mean mg mb h₀) (hkf : cs.kind = .function)
    {ls : Addr} {us : List Value} {nl : Nat} {sg : List Sgn} {most : Int} {tk1 : Tok} (hl : (ls, listOf us.toArray nl) ∈ news) (A0 : All2 (SgIn w.params []) us sg) (hus : us.length < 2000) (hb : ∀ k, 0 ≤ (sg.getD k (0, false)).1 ∧ (sg.getD k (0, false)).1 < 128) (hm0 : 0 ≤ most) (hm1 : most ≤ 1000)
    (hdp : dp + 4 < recursionLimit) (hun : un + 100 < cLine)
    (hret : ∀ v nx h' tk', LaidV nx v (laid most sg []) → (∀ q ∈ nx, ∀ p ∈ news, p.1 < q.1) → Fr h₀ L h' m → News h₀ L h' (news ++ nx) → Q v { s with heap := h', toks := tk' }) :
    wpAny (model Challenge.rw_qd0140_01.row.prog w) (ktrTop dp un gd cn cs L a ccd cl outer) (call (.ref 281) [.ref ls, .int most tk1]) Q E s :=
  lcodes_call B F X N T hkf hl A0 hus hb hm0 hm1 hdp hun
    (fun codes l vs n h' tk' e I z lt F' N' => hret (.ref l) [(l, listOf vs.toArray n)] h' tk' ⟨.inr ⟨l, vs, n, codes, rfl, .head _, I, z, e⟩⟩ (fun q hq p hp => by rw [List.mem_singleton.mp hq]; exact lt p hp) F' (kst_newsOf N' (fun p hp => by rcases List.mem_append.mp hp with hp | hp; exact .tail _ hp; rw [List.mem_singleton.mp hp]; exact .head _)))
    (fun h' tk' e F' N' => hret .none [] h' tk' ⟨.inl ⟨rfl, e⟩⟩ (List.forall_mem_nil _) F' (by rw [List.append_nil]; exact N'))
theorem LaidV.mono {n n' : List (Addr × Obj)} {v : Value} {r : Option (List Int)} (h : LaidV n v r) (hs : ∀ p ∈ n, p ∈ n') : LaidV n' v r := by
  obtain ⟨h⟩ := h
  rcases h with h | ⟨l, vs, k, codes, e, m, I, z, q⟩
  · exact ⟨.inl h⟩
  · exact ⟨.inr ⟨l, vs, k, codes, e, hs _ m, I, z, q⟩⟩
theorem news_b {h₀ h : Heap} {L : Addr} {a b c d e f : Addr × Obj} {l : List (Addr × Obj)} (N : News h₀ L h (a :: b :: c :: d :: e :: f :: l)) : News h₀ L h (a :: e :: f :: b :: c :: d :: l) :=
  kst_newsOf N (by repeat (first | exact List.forall_mem_nil _ | (refine List.forall_mem_cons.mpr ⟨by repeat (first | exact List.Mem.head _ | apply List.Mem.tail), ?_⟩) | (intro p hp; repeat (first | exact hp | apply List.Mem.tail))))
theorem sum_ones {xs : List Str} (h : ∀ x ∈ xs, x.length = 1) : (xs.map (·.length)).sum = xs.length := by
  induction xs with
  | nil => rfl
  | cons x r ih => rw [List.map_cons, List.sum_cons, h x (.head _), ih (fun y hy => h y (.tail _ hy)), List.length_cons]; omega
local macro_rules | `(tactic| walk_at "call ref") => `(tactic| (k_here; k_dflt (walk_at "# list_call kkkkkzUmaaeoodu_"; k_whole; intro as9 ls9 us9 nl9 q9 t8 sp9 t9 n9 h9 tk9 ok9 al9 sl9 A9 e8 e9 l9 F9 N9; (have l8 := fun p hp => (l9 p hp).1); (have l7 := fun p hp => (l9 p hp).2); clear l9; (try k_lt l8); (try k_lt l7); (try dsimp only at N9); walk_at "#f")))
local macro_rules | `(tactic| walk_at "call ref") => `(tactic| (k_here; k_dflt (walk_at "# feed_call kkkkkzUmaaeoooodu_"; k_whole; intro r9 t8 t9 n9 h9 tk9 r0 r1 F9 N9; (try dsimp only at N9); walk_at "#f")))
local macro_rules | `(tactic| walk_at $k:str) => if ["CompEnd", "eval ListComp"].contains k.getString then `(tactic| refine Stop.out ?_) else Lean.Macro.throwUnsupported
theorem most_bound {r : Int} (h0 : 0 ≤ r) (h1 : r < 4) : 0 ≤ ([4, 60, 1000, 5] : List Int).getD r.toNat 0 ∧ ([4, 60, 1000, 5] : List Int).getD r.toNat 0 ≤ 1000 := by
  have hr : r = 0 ∨ r = 1 ∨ r = 2 ∨ r = 3 := by omega
  rcases hr with rfl | rfl | rfl | rfl <;> decide
theorem phA {w : World} {mean : ExcName → Option Value} {mg mb : Str → Option Value} {fa L : Addr} {cd : Value} {base h₀ : Heap} {u : Str → Option Value} {s : Shared} {Q : Flow → Shared → Prop} {E : Value → Shared → Prop}
    (B : Below callerA base [] h₀) (X : (hd.heap_39 w.params).In h₀)
    (T : Top hd.view_39 (looseW hd.view_39 [Str.ofString "SHORT_ESCAPES", Str.ofString "_law_parts"]) mean mg mb h₀)
    (XB : (hd.heap_39 w.params).In base) (TB : Top hd.view_39 (looseW hd.view_39 [Str.ofString "SHORT_ESCAPES", Str.ofString "_law_parts"]) mean mg mb base)
    (hE : PassesOwn (model Challenge.rw_qd0140_01.row.prog w) (callerA.deeper (envOfC (Str.ofString "law") lawS L fa cd)) (envOfC (Str.ofString "law") lawS L fa cd) E)
    {tr c : Addr} {ys : List Value} {cells : List Int} {n0 ny : Nat} {t0 : Tok} {o1 o2 o3 o4 : Obj} {c2 c3 c4 : Option Value}
    (F : Fr h₀ L s.heap u) (N : News h₀ L s.heap [(tr, listOf #[.ref c, .int 0 t0] n0), (c, listOf ys.toArray ny), (L + 1 + 1 + 1 + 1, o4), (L + 1 + 1 + 1, o3), (L + 1 + 1, o2), (L + 1, o1)])
    (Ic : IntsAre ys cells) (hys : ys.length < 1000) (hd1 : o1.data = .cell (some (.ref tr))) (hd2 : o2.data = .cell c2) (hd3 : o3.data = .cell c3) (hd4 : o4.data = .cell c4)
    (lc : (@Ne Nat (L + 1 + 1 + 1 + 1) c) ∧ (@Ne Nat (L + 1 + 1 + 1) c) ∧ (@Ne Nat (L + 1 + 1) c) ∧ (@Ne Nat (L + 1) c)) (lt : AllLt tr [(c, o1), (L + 1 + 1 + 1 + 1, o4), (L + 1 + 1 + 1, o3), (L + 1 + 1, o2), (L + 1, o1)])
    (hfin : ∀ h' tk' m' news', Fr h₀ L h' m' → News h₀ L h' news' → Q (.ret (.bool true)) { s with heap := h', toks := tk' }) :
    wpAny (model Challenge.rw_qd0140_01.row.prog w) (callerA.deeper (envOfC (Str.ofString "law") lawS L fa cd)) (execs (lawB 1) (envOfC (Str.ofString "law") lawS L fa cd)) Q E s := by
  revert X; k_fill; intro X
  dsimp only [lawB, lawS, bodyLaw, scopeLaw, List.drop]
  simp only [AllLt, and_true] at lt
  have lc1 := lc.1
  have lc2 := lc.2.1
  have lc3 := lc.2.2.1
  have lc4 := lc.2.2.2
  k_steps
  refine Stop.in ?_
  k_dflt (refine comp_tupT (F₀ := by k_asm) (by with_unfolding_all rfl) (by decide) (by rfl) (by decide) (by rfl) ?_)
  k_steps
  rename Fr _ _ _ _ => lF
  rename News _ _ _ _ => lN
  rename_i as1 ls1 us1 nl1 q1 x1 sp1 _ _ _ _ ok1 al1 sl1 A1 e1 f1 l1 m1 _ _ _ _ as2 ls2 us2 nl2 q2 x2 sp2 _ _ _ _ ok2 al2 sl2 A2 e2 f2 l2 m2 _ _ _ _ mt _ _ r9 _ t9 n9 _ _ r0 r1 _ _ tp _ ltp
  have hmb := most_bound r0 r1
  generalize ([4, 60, 1000, 5] : List Int).getD r9.toNat 0 = most at *
  have lN2 := kst_newsOf lN (l' := [(tp, tupO [.str (Str.ofString "c") (tk + 1), .str (Str.ofString "d") (tk + 1 + 1), .str (Str.ofString "s") (tk + 1 + 1 + 1)]), (tr, listOf #[.ref c, .int (sp2 + 1) t9] n9), (ls2, listOf us2.toArray nl2), (ls1, listOf us1.toArray nl1), (c, listOf ys.toArray ny), (L + 1 + 1 + 1 + 1, o4), (L + 1 + 1 + 1, o3), (L + 1 + 1, o2), (L + 1, o1)]) (by repeat (first | exact List.forall_mem_nil _ | (refine List.forall_mem_cons.mpr ⟨by repeat (first | exact List.Mem.head _ | apply List.Mem.tail), ?_⟩) | (intro p hp; repeat (first | exact hp | apply List.Mem.tail))))
  clear lN
  refine ⟨tp, _, 0, _, rfl, rfl, lF, lN2, .head _, (by rw [sizeLine_eq]; show 3 ≤ _; decide), fun g => ?_⟩
  refine restT_inv (fun i vs nw => ∃ sp t n xs, nw = [(tp, tupO [.str (Str.ofString "c") (tk + 1), .str (Str.ofString "d") (tk + 1 + 1), .str (Str.ofString "s") (tk + 1 + 1 + 1)]), (tr, listOf #[.ref c, .int sp t] n), (ls2, listOf us2.toArray nl2), (ls1, listOf us1.toArray nl1), (c, listOf ys.toArray ny), (L + 1 + 1 + 1 + 1, o4), (L + 1 + 1 + 1, o3), (L + 1 + 1, o2), (L + 1, o1)] ∧ StrsAre vs xs ∧ vs.length ≤ i ∧ (∀ x ∈ xs, x.length = 1) ∧ sp = sp2 + 1 + i) 3 ?_ ?_ 3 0 [] _ rfl ⟨_, _, _, [], rfl, .nil, Nat.le_refl _, (fun _ h => nomatch h), by simp⟩
  · rintro i vs nw hi ⟨sp, t, n, xs, rfl, hxs, hvl, hx1, hsp⟩ v I oI C oC D m₂ h tk' E' hP hNs hmv F9 N9 off ne
    have hv : ∃ x t, v = .str x t ∧ x.length = 1 := by
      have : i = 0 ∨ i = 1 ∨ i = 2 := by omega
      rcases this with rfl | rfl | rfl <;> cases hP <;> exact ⟨_, _, rfl, by decide⟩
    obtain ⟨x, tx, rfl, hx⟩ := hv
    simp only [PyProof.Rows.LCg.Off3, and_true] at off
    have of1 := off.2.1.1
    have of2 := off.2.1.2.1
    have of3 := off.2.1.2.2
    try k_fold
    k_steps
    all_goals refine Stop.in ?_
    all_goals rename News _ _ _ _ => N8
    · refine PyProof.Rows.LCg.CompEnd.intro (by assumption) N8 _ (fun p hp => hp) (by simp only [PyProof.Rows.LCg.Off3, and_true]; exact off) (.head _) ⟨_, _, _, xs ++ [x], rfl, hxs.append' (.cons _ _ .nil), by rw [List.length_append, List.length_singleton]; omega, fun y hy => ?_, by push_cast; omega⟩
      rcases List.mem_append.mp hy with h | h
      · exact hx1 y h
      · rw [List.mem_singleton.mp h]; exact hx
    · exact PyProof.Rows.LCg.CompEnd.intro (by assumption) N8 _ (fun p hp => hp) (by simp only [PyProof.Rows.LCg.Off3, and_true]; exact off) (.head _) ⟨_, _, _, xs, rfl, hxs, by omega, hx1, by push_cast; omega⟩
  · rintro vs nw ⟨sp, t, n, xs, rfl, hxs, hvl, hx1, hsp⟩ D h tk' F9 N9 o9
    have hxl := hxs.length
    simp only [PyProof.Rows.LCg.Off1, and_true] at o9
    have hu1 : us1.length < 2000 := by have := A1.length; rw [List.length_map] at this; omega
    have hu2 : us2.length < 2000 := by have := A2.length; rw [List.length_map] at this; omega
    try k_fold
    k_steps
    k_dflt (refine' join_listW ?jl ?ji ?jp ?jq ?_)
    case jl => exact ⟨_, News.get (by k_asm) (by first | k_mem | kst_mem), rfl, _, rfl⟩
    case ji => (rename StrsAre _ _ => hx9; exact hx9)
    case jp => decide
    case jq => rw [sum_ones (by assumption)]; omega
    k_whole
    intro t9 k9
    k_steps
    refine Stop.in ?_
    k_dflt (refine' lcodesV_call (by k_asm) (by k_asm) (by k_asm) (by k_asm) (by k_asm) (by walk_at "zk") ?c1 ?i1 ?v1 ?n1 ?m01 ?m11 (by walk_at "zd") (by walk_at "zu") ?_; (case c1 => first | k_mem | kst_mem); (case i1 => assumption); (case v1 => assumption); (case n1 => exact sgn_b (by assumption)); (case m01 => omega); (case m11 => omega))
    intro v1 nx1 h9 tk9 lv1 lt1 F9 N9
    have N8 := kst_newsOf N9 (l' := (tr, listOf #[.ref c, .int sp t] n) :: (ls2, listOf us2.toArray nl2) :: (ls1, listOf us1.toArray nl1) :: (c, listOf ys.toArray ny) :: (L + 1 + 1 + 1 + 1, o4) :: (L + 1 + 1 + 1, o3) :: (L + 1 + 1, o2) :: (L + 1, o1) :: nx1) (fun p hp => .tail _ (.tail _ hp))
    clear N9
    have ne1 : ∀ q ∈ nx1, q.1 ≠ L + 1 + 1 := fun q hq => Nat.ne_of_gt (lt1 q hq (L + 1 + 1, o2) (by simp))
    k_steps
    refine Stop.in ?_
    rename_i o2' _ _ hd2'
    k_dflt (refine' lcodesV_call (by k_asm) (by k_asm) (by k_asm) (by k_asm) (by k_asm) (by walk_at "zk") ?c2 ?i2 ?v2 ?n2 ?m02 ?m12 (by walk_at "zd") (by walk_at "zu") ?_; (case c2 => first | k_mem | kst_mem); (case i2 => assumption); (case v2 => assumption); (case n2 => exact sgn_b (by assumption)); (case m02 => omega); (case m12 => omega))
    intro v2 nx2 h9 tk9 lv2 lt2 F9 N9
    dsimp only [List.cons_append] at N9
    k_steps
    refine Stop.in ?_
    (try dsimp only)
    refine phB (xf := t9) B X T XB TB hE (fr_kst (by assumption) (by kst_all)) (news_b (by assumption)) (.tail _ (.tail _ (.head _))) Ic hys (.tail _ (.head _)) A1 ok1 sl1 al1 (.head _) A2 ok2 sl2 al2
      (.tail _ (.tail _ (.tail _ (.tail _ (.head _))))) hd1 (.tail _ (.tail _ (.tail _ (.head _)))) hd2' hd3 hd4 (lv1.mono (fun p hp => (.tail _ (.tail _ (.tail _ (.tail _ (.tail _ (List.mem_append_left _ hp)))))))) (lv2.mono (fun p hp => (.tail _ (.tail _ (.tail _ (.tail _ (.tail _ (List.mem_append_right _ hp)))))))) hmb (by omega) ⟨lt.2.1, lt.2.2.1, trivial⟩
      (List.forall_mem_cons.mpr ⟨Nat.ne_of_gt l2.2.2.1, List.forall_mem_cons.mpr ⟨Nat.ne_of_gt l1.1, List.forall_mem_cons.mpr ⟨Nat.ne_of_lt lt.1, List.forall_mem_cons.mpr ⟨Nat.ne_of_lt lt.2.2.2.1, List.forall_mem_cons.mpr ⟨Nat.ne_of_lt lt.2.2.2.2, (fun p hp => (List.mem_append.mp hp).elim (fun h => Nat.ne_of_gt (lt1 p h _ (.tail _ (.tail _ (.head _))))) (fun h => Nat.ne_of_gt (lt2 p h _ (.head _))))⟩⟩⟩⟩⟩)
      (List.forall_mem_cons.mpr ⟨Nat.ne_of_gt l2.2.2.2.2.1, List.forall_mem_cons.mpr ⟨Nat.ne_of_gt l1.2.2.1, List.forall_mem_cons.mpr ⟨Ne.symm lc.1, List.forall_mem_cons.mpr ⟨(by k_ne), List.forall_mem_cons.mpr ⟨(by k_ne), (fun p hp => (List.mem_append.mp hp).elim (fun h => Nat.ne_of_gt (lt1 p h _ (.tail _ (.tail _ (.tail _ (.tail _ (.tail _ (.tail _ (.head _))))))))) (fun h => Nat.ne_of_gt (lt2 p h _ (.tail _ (.tail _ (.tail _ (.tail _ (.head _))))))))⟩⟩⟩⟩⟩)
      (List.forall_mem_cons.mpr ⟨Nat.ne_of_gt l2.2.2.2.2.2.1, List.forall_mem_cons.mpr ⟨Nat.ne_of_gt l1.2.2.2.1, List.forall_mem_cons.mpr ⟨Ne.symm lc.2.1, List.forall_mem_cons.mpr ⟨(by k_ne), List.forall_mem_cons.mpr ⟨(by k_ne), (fun p hp => (List.mem_append.mp hp).elim (fun h => Nat.ne_of_gt (lt1 p h _ (.tail _ (.tail _ (.tail _ (.tail _ (.tail _ (.tail _ (.tail _ (.head _)))))))))) (fun h => Nat.ne_of_gt (lt2 p h _ (.tail _ (.tail _ (.tail _ (.tail _ (.tail _ (.head _)))))))))⟩⟩⟩⟩⟩)
      (fun h' tk' m' news' F' N' => hfin h' tk' m' news' F' N')
end
end
-- part M0
section
theorem fresh_M0 : True := by
  w_top off
  trivial
section

local macro_rules | `(tactic| walk_at "execs cons Assign cons") => `(tactic| refine Stop.out ?_)
local macro_rules | `(tactic| k_qdec) => `(tactic| decide +kernel)
theorem news_d {h₀ h : Heap} {L : Addr} {a b c d e f g : Addr × Obj} (N : News h₀ L h [a, b, c, d, e, f, g]) : News h₀ L h [a, b, d, e, f, g] :=
  kst_newsOf N (by repeat (first | exact List.forall_mem_nil _ | (refine List.forall_mem_cons.mpr ⟨by repeat (first | exact List.Mem.head _ | apply List.Mem.tail), ?_⟩) | (intro p hp; repeat (first | exact hp | apply List.Mem.tail))))
theorem law0 : PySem.Challenge.rw_qd0140_01.Holds := by
  w_on
  refine holds_law Mine.wellH fun said => ?_
  refine PySem.W.holds_open (q := hd.view_39) (loose := [Str.ofString "SHORT_ESCAPES", Str.ofString "_law_parts"])
    (Xt := fun s => xlAt hd.view_39 [] s && recOk (RowW.records (OpenRow.toRowW PySem.Challenge.rw_qd0140_01.row)) s) (XP := XL hd.view_39 [])
    (Yf := Hook.obs (kHook hd.heap_39 Mine.hAs Mine.hAs_of)) (Ya := Hook.val _) (YP := Hook.says _) (N := 4212) Mine.hlAll (Hook.of _) (Hook.keeps _)
    (fun s e => xl_of s (Bool.and_eq_true_iff.mp e).1) XL.keeps (by rfl) (by rfl) (by rfl) (fun s e => recFacts_of (Bool.and_eq_true_iff.mp e).2) (by rfl) (by first | assumption | decide +kernel) (by decide +kernel) ⟨rfl, rfl, rfl, rfl, rfl, by decide +kernel⟩ ?hw ?hc
  case hw => w_witness2
  clear said
  k_go0
  all_goals try k_fold
  k_steps
  refine Stop.in ?_
  (try dsimp only)
  refine wpAny_execs_cons ?_
  k_steps
  refine Stop.in ?_
  (try dsimp only)
  rename Top _ _ _ _ _ _ => TT
  rename Below _ _ _ _ => BB
  rename Frag.In _ _ => XX
  rename (@Ne Nat _ _) ∧ (@Ne Nat _ _) ∧ (@Ne Nat _ _) ∧ (@Ne Nat _ _) ∧ (@Ne Nat _ _) => off
  rename _ ∧ _ ∧ _ ∧ _ ∧ _ ∧ _ => l9
  refine phA BB XX TT XX TT PassesOwn.leaving (by assumption) (news_d (by assumption)) (by assumption) ?hy (by assumption) (by assumption) (by assumption) (by assumption) off.2 ⟨l9.1, l9.2.2.1, l9.2.2.2.1, l9.2.2.2.2.1, l9.2.2.2.2.2, trivial⟩ ?hf
  case hy =>
    rename List.length _ = List.length (List.map _ _) => e9
    rw [List.length_map, List.length_take] at e9
    omega
  case hf =>
    intro h' tk' m' news' F' N'
    k_steps
    skip
end
end
end
end
end Mine
theorem PySem.Challenge.cw_qd0140_01_holds : PySem.Challenge.rw_qd0140_01.Holds := by
  exact Mine.law0
