import PyProof.Rows.All
import Wide.All
import OpenK.AllK
import Wide.FinOn
import Lean
import PySem.Challenge.RW_nz0351_01
open PySem PySem.W PyProof.Rows
set_option Elab.async false
set_option rowWalk.seconds 0
set_option maxRecDepth 100000
set_option maxHeartbeats 8000000
set_option linter.unusedVariables false
set_option linter.defProp false
namespace Mine
noncomputable def pick (i : Nat) (j : Option Nat) : Option Stmt := match PySem.Challenge.pw_nz0351_01.main.body[i]?, j with
  | some (.ClassDef _ _ _ body _ _ _ _ _ _ _), some j => body[j]?
  | s, _ => s
noncomputable def fnO (s : Option Stmt) (qual md : Str) (tok : Tok) (code : Addr) : Obj := match s with
  | some (.FunctionDef name args body _ _ _ scope _ _ _) => { cls := .type "function", data := .func { name := name, qualname := qual, params := args, body := .stmts body, scope := scope, globals := 3, closure := [], defaults := .none, kwdefaults := .none, pyModule := .str md tok, code := .ref code } }
  | _ => { cls := .none }
noncomputable def hd.heap_39 (P : Params) : Frag :=
  (nat_lit 2, { cls := PySem.Value.none, data := PySem.Data.dict #[{ hash := PySem.PyData.keyHash P (PySem.Str.ofString "type.__subclasses__.Exception.0"), key := PySem.Value.str (PySem.Str.ofString "type.__subclasses__.Exception.0") 216, val := PySem.Value.int 31 0 }, { hash := PySem.PyData.keyHash P (PySem.Str.ofString "type.__subclasses__.Exception.n"), key := PySem.Value.str (PySem.Str.ofString "type.__subclasses__.Exception.n") 217, val := PySem.Value.int 1 0 }] 2 }) ::
    (nat_lit 3, { cls := PySem.Value.type "dict", data := PySem.Data.dict #[{ hash := PySem.PyData.keyHash P (PySem.Str.ofString "__name__"), key := PySem.Value.str (PySem.Str.ofString "__name__") 165, val := PySem.Value.str (PySem.Str.ofString "law_nz0351_01") 516 }, { hash := PySem.PyData.keyHash P (PySem.Str.ofString "__doc__"), key := PySem.Value.str (PySem.Str.ofString "__doc__") 166, val := PySem.Value.none }, { hash := PySem.PyData.keyHash P (PySem.Str.ofString "__package__"), key := PySem.Value.str (PySem.Str.ofString "__package__") 167, val := PySem.Value.none }, { hash := PySem.PyData.keyHash P (PySem.Str.ofString "__loader__"), key := PySem.Value.str (PySem.Str.ofString "__loader__") 168, val := PySem.Value.builtin "__main__.__loader__#opaque" }, { hash := PySem.PyData.keyHash P (PySem.Str.ofString "__spec__"), key := PySem.Value.str (PySem.Str.ofString "__spec__") 169, val := PySem.Value.none }, { hash := PySem.PyData.keyHash P (PySem.Str.ofString "__annotations__"), key := PySem.Value.str (PySem.Str.ofString "__annotations__") 170, val := PySem.Value.ref 6 }, { hash := PySem.PyData.keyHash P (PySem.Str.ofString "__builtins__"), key := PySem.Value.str (PySem.Str.ofString "__builtins__") 171, val := PySem.Value.ref 4 }, { hash := PySem.PyData.keyHash P (PySem.Str.ofString "__file__"), key := PySem.Value.str (PySem.Str.ofString "__file__") 173, val := PySem.Value.str (PySem.Str.ofString "/claim/cut.py") 172 }, { hash := PySem.PyData.keyHash P (PySem.Str.ofString "__cached__"), key := PySem.Value.str (PySem.Str.ofString "__cached__") 174, val := PySem.Value.none }, { hash := PySem.PyData.keyHash P (PySem.Str.ofString "H3Error"), key := PySem.Value.str (PySem.Str.ofString "H3Error") 219, val := PySem.Value.ref 31 }, { hash := PySem.PyData.keyHash P (PySem.Str.ofString "H3_FRAME_UNEXPECTED"), key := PySem.Value.str (PySem.Str.ofString "H3_FRAME_UNEXPECTED") 221, val := PySem.Value.int 261 220 }, { hash := PySem.PyData.keyHash P (PySem.Str.ofString "H3_ID_ERROR"), key := PySem.Value.str (PySem.Str.ofString "H3_ID_ERROR") 223, val := PySem.Value.int 264 222 }, { hash := PySem.PyData.keyHash P (PySem.Str.ofString "H3_MISSING_SETTINGS"), key := PySem.Value.str (PySem.Str.ofString "H3_MISSING_SETTINGS") 225, val := PySem.Value.int 266 224 }, { hash := PySem.PyData.keyHash P (PySem.Str.ofString "H3_REQUEST_INCOMPLETE"), key := PySem.Value.str (PySem.Str.ofString "H3_REQUEST_INCOMPLETE") 227, val := PySem.Value.int 269 226 }, { hash := PySem.PyData.keyHash P (PySem.Str.ofString "H3_MESSAGE_ERROR"), key := PySem.Value.str (PySem.Str.ofString "H3_MESSAGE_ERROR") 229, val := PySem.Value.int 270 228 }, { hash := PySem.PyData.keyHash P (PySem.Str.ofString "ON_CONTROL"), key := PySem.Value.str (PySem.Str.ofString "ON_CONTROL") 237, val := PySem.Value.ref 35 }, { hash := PySem.PyData.keyHash P (PySem.Str.ofString "ON_REQUEST"), key := PySem.Value.str (PySem.Str.ofString "ON_REQUEST") 242, val := PySem.Value.ref 36 }, { hash := PySem.PyData.keyHash P (PySem.Str.ofString "ControlRules"), key := PySem.Value.str (PySem.Str.ofString "ControlRules") 320, val := PySem.Value.ref 88 }, { hash := PySem.PyData.keyHash P (PySem.Str.ofString "check_push"), key := PySem.Value.str (PySem.Str.ofString "check_push") 328, val := PySem.Value.ref 99 }, { hash := PySem.PyData.keyHash P (PySem.Str.ofString "MessageRules"), key := PySem.Value.str (PySem.Str.ofString "MessageRules") 392, val := PySem.Value.ref 144 }, { hash := PySem.PyData.keyHash P (PySem.Str.ofString "CONNECTION_NAMES"), key := PySem.Value.str (PySem.Str.ofString "CONNECTION_NAMES") 400, val := PySem.Value.ref 149 }, { hash := PySem.PyData.keyHash P (PySem.Str.ofString "NAME_SIGNS"), key := PySem.Value.str (PySem.Str.ofString "NAME_SIGNS") 402, val := PySem.Value.bytes #[33, 35, 36, 37, 38, 39, 42, 43, 45, 46, 94, 95, 96, 124, 126] 401 }, { hash := PySem.PyData.keyHash P (PySem.Str.ofString "FIELD_COST"), key := PySem.Value.str (PySem.Str.ofString "FIELD_COST") 404, val := PySem.Value.int 32 403 }, { hash := PySem.PyData.keyHash P (PySem.Str.ofString "malformed"), key := PySem.Value.str (PySem.Str.ofString "malformed") 411, val := PySem.Value.ref 156 }, { hash := PySem.PyData.keyHash P (PySem.Str.ofString "is_name_octet"), key := PySem.Value.str (PySem.Str.ofString "is_name_octet") 418, val := PySem.Value.ref 163 }, { hash := PySem.PyData.keyHash P (PySem.Str.ofString "check_name"), key := PySem.Value.str (PySem.Str.ofString "check_name") 424, val := PySem.Value.ref 168 }, { hash := PySem.PyData.keyHash P (PySem.Str.ofString "check_value"), key := PySem.Value.str (PySem.Str.ofString "check_value") 430, val := PySem.Value.ref 173 }, { hash := PySem.PyData.keyHash P (PySem.Str.ofString "check_field"), key := PySem.Value.str (PySem.Str.ofString "check_field") 438, val := PySem.Value.ref 180 }, { hash := PySem.PyData.keyHash P (PySem.Str.ofString "number_of_digits"), key := PySem.Value.str (PySem.Str.ofString "number_of_digits") 444, val := PySem.Value.ref 185 }, { hash := PySem.PyData.keyHash P (PySem.Str.ofString "values_of"), key := PySem.Value.str (PySem.Str.ofString "values_of") 450, val := PySem.Value.ref 190 }, { hash := PySem.PyData.keyHash P (PySem.Str.ofString "pseudo_fields"), key := PySem.Value.str (PySem.Str.ofString "pseudo_fields") 462, val := PySem.Value.ref 197 }, { hash := PySem.PyData.keyHash P (PySem.Str.ofString "check_answer"), key := PySem.Value.str (PySem.Str.ofString "check_answer") 471, val := PySem.Value.ref 204 }, { hash := PySem.PyData.keyHash P (PySem.Str.ofString "check_trailer"), key := PySem.Value.str (PySem.Str.ofString "check_trailer") 478, val := PySem.Value.ref 211 }, { hash := PySem.PyData.keyHash P (PySem.Str.ofString "is_interim"), key := PySem.Value.str (PySem.Str.ofString "is_interim") 485, val := PySem.Value.ref 218 }, { hash := PySem.PyData.keyHash P (PySem.Str.ofString "content_length"), key := PySem.Value.str (PySem.Str.ofString "content_length") 491, val := PySem.Value.ref 223 }, { hash := PySem.PyData.keyHash P (PySem.Str.ofString "has_no_body"), key := PySem.Value.str (PySem.Str.ofString "has_no_body") 499, val := PySem.Value.ref 230 }, { hash := PySem.PyData.keyHash P (PySem.Str.ofString "check_length"), key := PySem.Value.str (PySem.Str.ofString "check_length") 509, val := PySem.Value.ref 237 }, { hash := PySem.PyData.keyHash P (PySem.Str.ofString "section_size"), key := PySem.Value.str (PySem.Str.ofString "section_size") 515, val := PySem.Value.ref 242 }, { hash := PySem.PyData.keyHash P (PySem.Str.ofString "_law_take"), key := PySem.Value.str (PySem.Str.ofString "_law_take") 526, val := PySem.Value.ref 249 }, { hash := PySem.PyData.keyHash P (PySem.Str.ofString "_law_control"), key := PySem.Value.str (PySem.Str.ofString "_law_control") 537, val := PySem.Value.ref 256 }, { hash := PySem.PyData.keyHash P (PySem.Str.ofString "_law_events"), key := PySem.Value.str (PySem.Str.ofString "_law_events") 549, val := PySem.Value.ref 263 }, { hash := PySem.PyData.keyHash P (PySem.Str.ofString "_law_cost"), key := PySem.Value.str (PySem.Str.ofString "_law_cost") 555, val := PySem.Value.ref 268 }, { hash := PySem.PyData.keyHash P (PySem.Str.ofString "_law_head_due"), key := PySem.Value.str (PySem.Str.ofString "_law_head_due") 561, val := PySem.Value.ref 273 }, { hash := PySem.PyData.keyHash P (PySem.Str.ofString "_law_due"), key := PySem.Value.str (PySem.Str.ofString "_law_due") 567, val := PySem.Value.ref 278 }, { hash := PySem.PyData.keyHash P (PySem.Str.ofString "_law_heads"), key := PySem.Value.str (PySem.Str.ofString "_law_heads") 578, val := PySem.Value.ref 285 }, { hash := PySem.PyData.keyHash P (PySem.Str.ofString "_law_played"), key := PySem.Value.str (PySem.Str.ofString "_law_played") 592, val := PySem.Value.ref 292 }, { hash := PySem.PyData.keyHash P (PySem.Str.ofString "law"), key := PySem.Value.str (PySem.Str.ofString "law") 608, val := PySem.Value.ref 299 }] 47 }) ::
    (nat_lit 15, { cls := PySem.Value.type "tuple", data := PySem.Data.seq #[PySem.Value.type "Exception"] }) ::
    (nat_lit 22, { cls := PySem.Value.type "tuple", data := PySem.Data.seq #[] }) ::
    (nat_lit 24, { cls := PySem.Value.type "tuple", data := PySem.Data.seq #[PySem.Value.str (PySem.Str.ofString "self") 204, PySem.Value.str (PySem.Str.ofString "code") 205, PySem.Value.str (PySem.Str.ofString "text") 206] }) ::
    (nat_lit 25, { cls := PySem.Value.type "tuple", data := PySem.Data.seq #[] }) ::
    (nat_lit 27, { cls := PySem.Value.type "code", data := PySem.Data.fields #[PySem.Value.str (PySem.Str.ofString "__init__") 201, PySem.Value.str (PySem.Str.ofString "H3Error.__init__") 202, PySem.Value.str (PySem.Str.ofString "/claim/cut.py") 203, PySem.Value.int 4 0, PySem.Value.int 3 0, PySem.Value.int 0 0, PySem.Value.int 0 0, PySem.Value.int 3 0, PySem.Value.ref 22, PySem.Value.bool true, PySem.Value.int 181 0, PySem.Value.ref 23, PySem.Value.none, PySem.Value.ref 24, PySem.Value.ref 25, PySem.Value.ref 26, PySem.Value.int 207 0, PySem.Value.int 4 0, PySem.Value.str (PySem.Str.ofString "/claim/cut.py") 208] }) ::
    (nat_lit 28, fnO (pick 1 (some 0)) (PySem.Str.ofString "H3Error.__init__") (PySem.Str.ofString "quic.errors") 187 27) ::
    (nat_lit 29, { cls := PySem.Value.type "tuple", data := PySem.Data.seq #[PySem.Value.str (PySem.Str.ofString "code") 210, PySem.Value.str (PySem.Str.ofString "text") 211] }) ::
    (nat_lit 30, { cls := PySem.Value.type "dict", data := PySem.Data.dict #[{ hash := PySem.PyData.keyHash P (PySem.Str.ofString "__module__"), key := PySem.Value.str (PySem.Str.ofString "__module__") 196, val := PySem.Value.str (PySem.Str.ofString "quic.errors") 187 }, { hash := PySem.PyData.keyHash P (PySem.Str.ofString "__firstlineno__"), key := PySem.Value.str (PySem.Str.ofString "__firstlineno__") 200, val := PySem.Value.int 2 199 }, { hash := PySem.PyData.keyHash P (PySem.Str.ofString "__init__"), key := PySem.Value.str (PySem.Str.ofString "__init__") 209, val := PySem.Value.ref 28 }, { hash := PySem.PyData.keyHash P (PySem.Str.ofString "__static_attributes__"), key := PySem.Value.str (PySem.Str.ofString "__static_attributes__") 212, val := PySem.Value.ref 29 }, { hash := PySem.PyData.keyHash P (PySem.Str.ofString "__weakref__"), key := PySem.Value.str (PySem.Str.ofString "__weakref__") 214, val := PySem.Value.ref 32 }, { hash := PySem.PyData.keyHash P (PySem.Str.ofString "__doc__"), key := PySem.Value.str (PySem.Str.ofString "__doc__") 215, val := PySem.Value.none }] 3 }) ::
    (nat_lit 31, { cls := PySem.Value.type "type", data := PySem.Data.cls { name := PySem.Str.ofString "H3Error", bases := [PySem.Value.type "Exception"], mro := [PySem.Value.ref 31, PySem.Value.type "Exception", PySem.Value.type "BaseException", PySem.Value.type "object"], ns := 30, qualname := PySem.Str.ofString "H3Error" }, slots := #[some (PySem.Value.ref 15), none, some (PySem.Value.str (PySem.Str.ofString "H3Error") 189), some (PySem.Value.str (PySem.Str.ofString "H3Error") 197), some (PySem.Value.builtin "Exception.__new__"), some (PySem.Value.bool true)] }) ::
    (nat_lit 32, { cls := PySem.Value.type "getset_descriptor", data := PySem.Data.fields #[PySem.Value.str (PySem.Str.ofString "__weakref__") 213, PySem.Value.ref 31, PySem.Value.builtin "ExceptionGroup.__weakref__", PySem.Value.none] }) ::
    (nat_lit 35, { cls := PySem.Value.type "tuple", data := PySem.Data.seq #[PySem.Value.str (PySem.Str.ofString "settings") 232, PySem.Value.str (PySem.Str.ofString "cancel_push") 233, PySem.Value.str (PySem.Str.ofString "goaway") 234, PySem.Value.str (PySem.Str.ofString "max_push") 235, PySem.Value.str (PySem.Str.ofString "unknown") 236] }) ::
    (nat_lit 36, { cls := PySem.Value.type "tuple", data := PySem.Data.seq #[PySem.Value.str (PySem.Str.ofString "headers") 238, PySem.Value.str (PySem.Str.ofString "data") 239, PySem.Value.str (PySem.Str.ofString "push_promise") 240, PySem.Value.str (PySem.Str.ofString "unknown") 241] }) ::
    (nat_lit 44, { cls := PySem.Value.type "tuple", data := PySem.Data.seq #[] }) ::
    (nat_lit 46, { cls := PySem.Value.type "tuple", data := PySem.Data.seq #[PySem.Value.str (PySem.Str.ofString "self") 258, PySem.Value.str (PySem.Str.ofString "peer") 259, PySem.Value.str (PySem.Str.ofString "most_push") 260] }) ::
    (nat_lit 47, { cls := PySem.Value.type "tuple", data := PySem.Data.seq #[] }) ::
    (nat_lit 49, { cls := PySem.Value.type "code", data := PySem.Data.fields #[PySem.Value.str (PySem.Str.ofString "__init__") 255, PySem.Value.str (PySem.Str.ofString "ControlRules.__init__") 256, PySem.Value.str (PySem.Str.ofString "/claim/cut.py") 257, PySem.Value.int 18 0, PySem.Value.int 3 0, PySem.Value.int 0 0, PySem.Value.int 0 0, PySem.Value.int 3 0, PySem.Value.ref 44, PySem.Value.bool true, PySem.Value.int 181 0, PySem.Value.ref 45, PySem.Value.none, PySem.Value.ref 46, PySem.Value.ref 47, PySem.Value.ref 48, PySem.Value.int 261 0, PySem.Value.int 18 0, PySem.Value.str (PySem.Str.ofString "/claim/cut.py") 262] }) ::
    (nat_lit 50, fnO (pick 10 (some 0)) (PySem.Str.ofString "ControlRules.__init__") (PySem.Str.ofString "quic.h3rules") 230 49) ::
    (nat_lit 51, { cls := PySem.Value.type "tuple", data := PySem.Data.seq #[] }) ::
    (nat_lit 53, { cls := PySem.Value.type "tuple", data := PySem.Data.seq #[PySem.Value.str (PySem.Str.ofString "self") 267, PySem.Value.str (PySem.Str.ofString "frame") 268, PySem.Value.str (PySem.Str.ofString "kind") 269] }) ::
    (nat_lit 54, { cls := PySem.Value.type "tuple", data := PySem.Data.seq #[] }) ::
    (nat_lit 56, { cls := PySem.Value.type "code", data := PySem.Data.fields #[PySem.Value.str (PySem.Str.ofString "take") 264, PySem.Value.str (PySem.Str.ofString "ControlRules.take") 265, PySem.Value.str (PySem.Str.ofString "/claim/cut.py") 266, PySem.Value.int 25 0, PySem.Value.int 2 0, PySem.Value.int 0 0, PySem.Value.int 0 0, PySem.Value.int 3 0, PySem.Value.ref 51, PySem.Value.bool true, PySem.Value.int 181 0, PySem.Value.ref 52, PySem.Value.none, PySem.Value.ref 53, PySem.Value.ref 54, PySem.Value.ref 55, PySem.Value.int 270 0, PySem.Value.int 25 0, PySem.Value.str (PySem.Str.ofString "/claim/cut.py") 271] }) ::
    (nat_lit 57, fnO (pick 10 (some 1)) (PySem.Str.ofString "ControlRules.take") (PySem.Str.ofString "quic.h3rules") 230 56) ::
    (nat_lit 58, { cls := PySem.Value.type "tuple", data := PySem.Data.seq #[] }) ::
    (nat_lit 60, { cls := PySem.Value.type "tuple", data := PySem.Data.seq #[PySem.Value.str (PySem.Str.ofString "self") 276, PySem.Value.str (PySem.Str.ofString "number") 277] }) ::
    (nat_lit 61, { cls := PySem.Value.type "tuple", data := PySem.Data.seq #[] }) ::
    (nat_lit 63, { cls := PySem.Value.type "code", data := PySem.Data.fields #[PySem.Value.str (PySem.Str.ofString "take_goaway") 273, PySem.Value.str (PySem.Str.ofString "ControlRules.take_goaway") 274, PySem.Value.str (PySem.Str.ofString "/claim/cut.py") 275, PySem.Value.int 40 0, PySem.Value.int 2 0, PySem.Value.int 0 0, PySem.Value.int 0 0, PySem.Value.int 3 0, PySem.Value.ref 58, PySem.Value.bool true, PySem.Value.int 181 0, PySem.Value.ref 59, PySem.Value.none, PySem.Value.ref 60, PySem.Value.ref 61, PySem.Value.ref 62, PySem.Value.int 278 0, PySem.Value.int 40 0, PySem.Value.str (PySem.Str.ofString "/claim/cut.py") 279] }) ::
    (nat_lit 64, fnO (pick 10 (some 2)) (PySem.Str.ofString "ControlRules.take_goaway") (PySem.Str.ofString "quic.h3rules") 230 63) ::
    (nat_lit 65, { cls := PySem.Value.type "tuple", data := PySem.Data.seq #[] }) ::
    (nat_lit 67, { cls := PySem.Value.type "tuple", data := PySem.Data.seq #[PySem.Value.str (PySem.Str.ofString "self") 284, PySem.Value.str (PySem.Str.ofString "number") 285] }) ::
    (nat_lit 68, { cls := PySem.Value.type "tuple", data := PySem.Data.seq #[] }) ::
    (nat_lit 70, { cls := PySem.Value.type "code", data := PySem.Data.fields #[PySem.Value.str (PySem.Str.ofString "take_most") 281, PySem.Value.str (PySem.Str.ofString "ControlRules.take_most") 282, PySem.Value.str (PySem.Str.ofString "/claim/cut.py") 283, PySem.Value.int 47 0, PySem.Value.int 2 0, PySem.Value.int 0 0, PySem.Value.int 0 0, PySem.Value.int 3 0, PySem.Value.ref 65, PySem.Value.bool true, PySem.Value.int 181 0, PySem.Value.ref 66, PySem.Value.none, PySem.Value.ref 67, PySem.Value.ref 68, PySem.Value.ref 69, PySem.Value.int 286 0, PySem.Value.int 47 0, PySem.Value.str (PySem.Str.ofString "/claim/cut.py") 287] }) ::
    (nat_lit 71, fnO (pick 10 (some 3)) (PySem.Str.ofString "ControlRules.take_most") (PySem.Str.ofString "quic.h3rules") 230 70) ::
    (nat_lit 72, { cls := PySem.Value.type "tuple", data := PySem.Data.seq #[] }) ::
    (nat_lit 74, { cls := PySem.Value.type "tuple", data := PySem.Data.seq #[PySem.Value.str (PySem.Str.ofString "self") 292, PySem.Value.str (PySem.Str.ofString "number") 293, PySem.Value.str (PySem.Str.ofString "default") 294, PySem.Value.str (PySem.Str.ofString "other") 295, PySem.Value.str (PySem.Str.ofString "value") 296] }) ::
    (nat_lit 75, { cls := PySem.Value.type "tuple", data := PySem.Data.seq #[] }) ::
    (nat_lit 77, { cls := PySem.Value.type "code", data := PySem.Data.fields #[PySem.Value.str (PySem.Str.ofString "setting") 289, PySem.Value.str (PySem.Str.ofString "ControlRules.setting") 290, PySem.Value.str (PySem.Str.ofString "/claim/cut.py") 291, PySem.Value.int 54 0, PySem.Value.int 3 0, PySem.Value.int 0 0, PySem.Value.int 0 0, PySem.Value.int 3 0, PySem.Value.ref 72, PySem.Value.bool true, PySem.Value.int 181 0, PySem.Value.ref 73, PySem.Value.none, PySem.Value.ref 74, PySem.Value.ref 75, PySem.Value.ref 76, PySem.Value.int 297 0, PySem.Value.int 54 0, PySem.Value.str (PySem.Str.ofString "/claim/cut.py") 298] }) ::
    (nat_lit 78, fnO (pick 10 (some 4)) (PySem.Str.ofString "ControlRules.setting") (PySem.Str.ofString "quic.h3rules") 230 77) ::
    (nat_lit 79, { cls := PySem.Value.type "tuple", data := PySem.Data.seq #[] }) ::
    (nat_lit 81, { cls := PySem.Value.type "tuple", data := PySem.Data.seq #[PySem.Value.str (PySem.Str.ofString "self") 303, PySem.Value.str (PySem.Str.ofString "stream_id") 304] }) ::
    (nat_lit 82, { cls := PySem.Value.type "tuple", data := PySem.Data.seq #[] }) ::
    (nat_lit 84, { cls := PySem.Value.type "code", data := PySem.Data.fields #[PySem.Value.str (PySem.Str.ofString "is_let") 300, PySem.Value.str (PySem.Str.ofString "ControlRules.is_let") 301, PySem.Value.str (PySem.Str.ofString "/claim/cut.py") 302, PySem.Value.int 60 0, PySem.Value.int 2 0, PySem.Value.int 0 0, PySem.Value.int 0 0, PySem.Value.int 3 0, PySem.Value.ref 79, PySem.Value.bool true, PySem.Value.int 181 0, PySem.Value.ref 80, PySem.Value.none, PySem.Value.ref 81, PySem.Value.ref 82, PySem.Value.ref 83, PySem.Value.int 305 0, PySem.Value.int 60 0, PySem.Value.str (PySem.Str.ofString "/claim/cut.py") 306] }) ::
    (nat_lit 85, fnO (pick 10 (some 5)) (PySem.Str.ofString "ControlRules.is_let") (PySem.Str.ofString "quic.h3rules") 230 84) ::
    (nat_lit 86, { cls := PySem.Value.type "tuple", data := PySem.Data.seq #[PySem.Value.str (PySem.Str.ofString "goaway") 308, PySem.Value.str (PySem.Str.ofString "most_push") 309, PySem.Value.str (PySem.Str.ofString "peer") 310, PySem.Value.str (PySem.Str.ofString "settings") 311, PySem.Value.str (PySem.Str.ofString "told_most") 312] }) ::
    (nat_lit 87, { cls := PySem.Value.type "dict", data := PySem.Data.dict #[{ hash := PySem.PyData.keyHash P (PySem.Str.ofString "__module__"), key := PySem.Value.str (PySem.Str.ofString "__module__") 250, val := PySem.Value.str (PySem.Str.ofString "quic.h3rules") 230 }, { hash := PySem.PyData.keyHash P (PySem.Str.ofString "__firstlineno__"), key := PySem.Value.str (PySem.Str.ofString "__firstlineno__") 254, val := PySem.Value.int 16 253 }, { hash := PySem.PyData.keyHash P (PySem.Str.ofString "__init__"), key := PySem.Value.str (PySem.Str.ofString "__init__") 263, val := PySem.Value.ref 50 }, { hash := PySem.PyData.keyHash P (PySem.Str.ofString "take"), key := PySem.Value.str (PySem.Str.ofString "take") 272, val := PySem.Value.ref 57 }, { hash := PySem.PyData.keyHash P (PySem.Str.ofString "take_goaway"), key := PySem.Value.str (PySem.Str.ofString "take_goaway") 280, val := PySem.Value.ref 64 }, { hash := PySem.PyData.keyHash P (PySem.Str.ofString "take_most"), key := PySem.Value.str (PySem.Str.ofString "take_most") 288, val := PySem.Value.ref 71 }, { hash := PySem.PyData.keyHash P (PySem.Str.ofString "setting"), key := PySem.Value.str (PySem.Str.ofString "setting") 299, val := PySem.Value.ref 78 }, { hash := PySem.PyData.keyHash P (PySem.Str.ofString "is_let"), key := PySem.Value.str (PySem.Str.ofString "is_let") 307, val := PySem.Value.ref 85 }, { hash := PySem.PyData.keyHash P (PySem.Str.ofString "__static_attributes__"), key := PySem.Value.str (PySem.Str.ofString "__static_attributes__") 313, val := PySem.Value.ref 86 }, { hash := PySem.PyData.keyHash P (PySem.Str.ofString "__dict__"), key := PySem.Value.str (PySem.Str.ofString "__dict__") 315, val := PySem.Value.ref 89 }, { hash := PySem.PyData.keyHash P (PySem.Str.ofString "__weakref__"), key := PySem.Value.str (PySem.Str.ofString "__weakref__") 317, val := PySem.Value.ref 90 }, { hash := PySem.PyData.keyHash P (PySem.Str.ofString "__doc__"), key := PySem.Value.str (PySem.Str.ofString "__doc__") 318, val := PySem.Value.none }] 4 }) ::
    (nat_lit 88, { cls := PySem.Value.type "type", data := PySem.Data.cls { name := PySem.Str.ofString "ControlRules", bases := [PySem.Value.type "object"], mro := [PySem.Value.ref 88, PySem.Value.type "object"], ns := 87, qualname := PySem.Str.ofString "ControlRules" }, slots := #[none, none, some (PySem.Value.str (PySem.Str.ofString "ControlRules") 243), some (PySem.Value.str (PySem.Str.ofString "ControlRules") 251), some (PySem.Value.builtin "object.__new__"), some (PySem.Value.bool true)] }) ::
    (nat_lit 89, { cls := PySem.Value.type "getset_descriptor", data := PySem.Data.fields #[PySem.Value.str (PySem.Str.ofString "__dict__") 314, PySem.Value.ref 88, PySem.Value.builtin "function.__dict__", PySem.Value.builtin "function.__dict__#set"] }) ::
    (nat_lit 90, { cls := PySem.Value.type "getset_descriptor", data := PySem.Data.fields #[PySem.Value.str (PySem.Str.ofString "__weakref__") 316, PySem.Value.ref 88, PySem.Value.builtin "ExceptionGroup.__weakref__", PySem.Value.none] }) ::
    (nat_lit 93, { cls := PySem.Value.type "tuple", data := PySem.Data.seq #[] }) ::
    (nat_lit 95, { cls := PySem.Value.type "tuple", data := PySem.Data.seq #[PySem.Value.str (PySem.Str.ofString "number") 324, PySem.Value.str (PySem.Str.ofString "most") 325] }) ::
    (nat_lit 96, { cls := PySem.Value.type "tuple", data := PySem.Data.seq #[] }) ::
    (nat_lit 98, { cls := PySem.Value.type "code", data := PySem.Data.fields #[PySem.Value.str (PySem.Str.ofString "check_push") 321, PySem.Value.str (PySem.Str.ofString "check_push") 322, PySem.Value.str (PySem.Str.ofString "/claim/cut.py") 323, PySem.Value.int 62 0, PySem.Value.int 2 0, PySem.Value.int 0 0, PySem.Value.int 0 0, PySem.Value.int 3 0, PySem.Value.ref 93, PySem.Value.bool true, PySem.Value.int 181 0, PySem.Value.ref 94, PySem.Value.none, PySem.Value.ref 95, PySem.Value.ref 96, PySem.Value.ref 97, PySem.Value.int 326 0, PySem.Value.int 62 0, PySem.Value.str (PySem.Str.ofString "/claim/cut.py") 327] }) ::
    (nat_lit 99, fnO (pick 11 none) (PySem.Str.ofString "check_push") (PySem.Str.ofString "quic.h3rules") 230 98) ::
    (nat_lit 107, { cls := PySem.Value.type "tuple", data := PySem.Data.seq #[] }) ::
    (nat_lit 109, { cls := PySem.Value.type "tuple", data := PySem.Data.seq #[PySem.Value.str (PySem.Str.ofString "self") 344, PySem.Value.str (PySem.Str.ofString "is_answer") 345, PySem.Value.str (PySem.Str.ofString "most_push") 346] }) ::
    (nat_lit 110, { cls := PySem.Value.type "tuple", data := PySem.Data.seq #[] }) ::
    (nat_lit 112, { cls := PySem.Value.type "code", data := PySem.Data.fields #[PySem.Value.str (PySem.Str.ofString "__init__") 341, PySem.Value.str (PySem.Str.ofString "MessageRules.__init__") 342, PySem.Value.str (PySem.Str.ofString "/claim/cut.py") 343, PySem.Value.int 67 0, PySem.Value.int 3 0, PySem.Value.int 0 0, PySem.Value.int 0 0, PySem.Value.int 3 0, PySem.Value.ref 107, PySem.Value.bool true, PySem.Value.int 181 0, PySem.Value.ref 108, PySem.Value.none, PySem.Value.ref 109, PySem.Value.ref 110, PySem.Value.ref 111, PySem.Value.int 347 0, PySem.Value.int 67 0, PySem.Value.str (PySem.Str.ofString "/claim/cut.py") 348] }) ::
    (nat_lit 113, fnO (pick 12 (some 0)) (PySem.Str.ofString "MessageRules.__init__") (PySem.Str.ofString "quic.h3rules") 230 112) ::
    (nat_lit 114, { cls := PySem.Value.type "tuple", data := PySem.Data.seq #[] }) ::
    (nat_lit 116, { cls := PySem.Value.type "tuple", data := PySem.Data.seq #[PySem.Value.str (PySem.Str.ofString "self") 353, PySem.Value.str (PySem.Str.ofString "frame") 354, PySem.Value.str (PySem.Str.ofString "is_interim") 355, PySem.Value.str (PySem.Str.ofString "kind") 356] }) ::
    (nat_lit 117, { cls := PySem.Value.type "tuple", data := PySem.Data.seq #[] }) ::
    (nat_lit 119, { cls := PySem.Value.type "code", data := PySem.Data.fields #[PySem.Value.str (PySem.Str.ofString "take") 350, PySem.Value.str (PySem.Str.ofString "MessageRules.take") 351, PySem.Value.str (PySem.Str.ofString "/claim/cut.py") 352, PySem.Value.int 72 0, PySem.Value.int 3 0, PySem.Value.int 0 0, PySem.Value.int 0 0, PySem.Value.int 3 0, PySem.Value.ref 114, PySem.Value.bool true, PySem.Value.int 181 0, PySem.Value.ref 115, PySem.Value.none, PySem.Value.ref 116, PySem.Value.ref 117, PySem.Value.ref 118, PySem.Value.int 357 0, PySem.Value.int 72 0, PySem.Value.str (PySem.Str.ofString "/claim/cut.py") 358] }) ::
    (nat_lit 120, fnO (pick 12 (some 1)) (PySem.Str.ofString "MessageRules.take") (PySem.Str.ofString "quic.h3rules") 230 119) ::
    (nat_lit 121, { cls := PySem.Value.type "tuple", data := PySem.Data.seq #[] }) ::
    (nat_lit 123, { cls := PySem.Value.type "tuple", data := PySem.Data.seq #[PySem.Value.str (PySem.Str.ofString "self") 363] }) ::
    (nat_lit 124, { cls := PySem.Value.type "tuple", data := PySem.Data.seq #[] }) ::
    (nat_lit 126, { cls := PySem.Value.type "code", data := PySem.Data.fields #[PySem.Value.str (PySem.Str.ofString "take_data") 360, PySem.Value.str (PySem.Str.ofString "MessageRules.take_data") 361, PySem.Value.str (PySem.Str.ofString "/claim/cut.py") 362, PySem.Value.int 87 0, PySem.Value.int 1 0, PySem.Value.int 0 0, PySem.Value.int 0 0, PySem.Value.int 3 0, PySem.Value.ref 121, PySem.Value.bool true, PySem.Value.int 181 0, PySem.Value.ref 122, PySem.Value.none, PySem.Value.ref 123, PySem.Value.ref 124, PySem.Value.ref 125, PySem.Value.int 364 0, PySem.Value.int 87 0, PySem.Value.str (PySem.Str.ofString "/claim/cut.py") 365] }) ::
    (nat_lit 127, fnO (pick 12 (some 2)) (PySem.Str.ofString "MessageRules.take_data") (PySem.Str.ofString "quic.h3rules") 230 126) ::
    (nat_lit 128, { cls := PySem.Value.type "tuple", data := PySem.Data.seq #[] }) ::
    (nat_lit 130, { cls := PySem.Value.type "tuple", data := PySem.Data.seq #[PySem.Value.str (PySem.Str.ofString "self") 370, PySem.Value.str (PySem.Str.ofString "is_interim") 371] }) ::
    (nat_lit 131, { cls := PySem.Value.type "tuple", data := PySem.Data.seq #[] }) ::
    (nat_lit 133, { cls := PySem.Value.type "code", data := PySem.Data.fields #[PySem.Value.str (PySem.Str.ofString "take_heads") 367, PySem.Value.str (PySem.Str.ofString "MessageRules.take_heads") 368, PySem.Value.str (PySem.Str.ofString "/claim/cut.py") 369, PySem.Value.int 92 0, PySem.Value.int 2 0, PySem.Value.int 0 0, PySem.Value.int 0 0, PySem.Value.int 3 0, PySem.Value.ref 128, PySem.Value.bool true, PySem.Value.int 181 0, PySem.Value.ref 129, PySem.Value.none, PySem.Value.ref 130, PySem.Value.ref 131, PySem.Value.ref 132, PySem.Value.int 372 0, PySem.Value.int 92 0, PySem.Value.str (PySem.Str.ofString "/claim/cut.py") 373] }) ::
    (nat_lit 134, fnO (pick 12 (some 3)) (PySem.Str.ofString "MessageRules.take_heads") (PySem.Str.ofString "quic.h3rules") 230 133) ::
    (nat_lit 135, { cls := PySem.Value.type "tuple", data := PySem.Data.seq #[] }) ::
    (nat_lit 137, { cls := PySem.Value.type "tuple", data := PySem.Data.seq #[PySem.Value.str (PySem.Str.ofString "self") 378] }) ::
    (nat_lit 138, { cls := PySem.Value.type "tuple", data := PySem.Data.seq #[] }) ::
    (nat_lit 140, { cls := PySem.Value.type "code", data := PySem.Data.fields #[PySem.Value.str (PySem.Str.ofString "end") 375, PySem.Value.str (PySem.Str.ofString "MessageRules.end") 376, PySem.Value.str (PySem.Str.ofString "/claim/cut.py") 377, PySem.Value.int 103 0, PySem.Value.int 1 0, PySem.Value.int 0 0, PySem.Value.int 0 0, PySem.Value.int 3 0, PySem.Value.ref 135, PySem.Value.bool true, PySem.Value.int 181 0, PySem.Value.ref 136, PySem.Value.none, PySem.Value.ref 137, PySem.Value.ref 138, PySem.Value.ref 139, PySem.Value.int 379 0, PySem.Value.int 103 0, PySem.Value.str (PySem.Str.ofString "/claim/cut.py") 380] }) ::
    (nat_lit 141, fnO (pick 12 (some 4)) (PySem.Str.ofString "MessageRules.end") (PySem.Str.ofString "quic.h3rules") 230 140) ::
    (nat_lit 142, { cls := PySem.Value.type "tuple", data := PySem.Data.seq #[PySem.Value.str (PySem.Str.ofString "is_answer") 382, PySem.Value.str (PySem.Str.ofString "most_push") 383, PySem.Value.str (PySem.Str.ofString "stage") 384] }) ::
    (nat_lit 143, { cls := PySem.Value.type "dict", data := PySem.Data.dict #[{ hash := PySem.PyData.keyHash P (PySem.Str.ofString "__module__"), key := PySem.Value.str (PySem.Str.ofString "__module__") 336, val := PySem.Value.str (PySem.Str.ofString "quic.h3rules") 230 }, { hash := PySem.PyData.keyHash P (PySem.Str.ofString "__firstlineno__"), key := PySem.Value.str (PySem.Str.ofString "__firstlineno__") 340, val := PySem.Value.int 65 339 }, { hash := PySem.PyData.keyHash P (PySem.Str.ofString "__init__"), key := PySem.Value.str (PySem.Str.ofString "__init__") 349, val := PySem.Value.ref 113 }, { hash := PySem.PyData.keyHash P (PySem.Str.ofString "take"), key := PySem.Value.str (PySem.Str.ofString "take") 359, val := PySem.Value.ref 120 }, { hash := PySem.PyData.keyHash P (PySem.Str.ofString "take_data"), key := PySem.Value.str (PySem.Str.ofString "take_data") 366, val := PySem.Value.ref 127 }, { hash := PySem.PyData.keyHash P (PySem.Str.ofString "take_heads"), key := PySem.Value.str (PySem.Str.ofString "take_heads") 374, val := PySem.Value.ref 134 }, { hash := PySem.PyData.keyHash P (PySem.Str.ofString "end"), key := PySem.Value.str (PySem.Str.ofString "end") 381, val := PySem.Value.ref 141 }, { hash := PySem.PyData.keyHash P (PySem.Str.ofString "__static_attributes__"), key := PySem.Value.str (PySem.Str.ofString "__static_attributes__") 385, val := PySem.Value.ref 142 }, { hash := PySem.PyData.keyHash P (PySem.Str.ofString "__dict__"), key := PySem.Value.str (PySem.Str.ofString "__dict__") 387, val := PySem.Value.ref 145 }, { hash := PySem.PyData.keyHash P (PySem.Str.ofString "__weakref__"), key := PySem.Value.str (PySem.Str.ofString "__weakref__") 389, val := PySem.Value.ref 146 }, { hash := PySem.PyData.keyHash P (PySem.Str.ofString "__doc__"), key := PySem.Value.str (PySem.Str.ofString "__doc__") 390, val := PySem.Value.none }] 4 }) ::
    (nat_lit 144, { cls := PySem.Value.type "type", data := PySem.Data.cls { name := PySem.Str.ofString "MessageRules", bases := [PySem.Value.type "object"], mro := [PySem.Value.ref 144, PySem.Value.type "object"], ns := 143, qualname := PySem.Str.ofString "MessageRules" }, slots := #[none, none, some (PySem.Value.str (PySem.Str.ofString "MessageRules") 329), some (PySem.Value.str (PySem.Str.ofString "MessageRules") 337), some (PySem.Value.builtin "object.__new__"), some (PySem.Value.bool true)] }) ::
    (nat_lit 145, { cls := PySem.Value.type "getset_descriptor", data := PySem.Data.fields #[PySem.Value.str (PySem.Str.ofString "__dict__") 386, PySem.Value.ref 144, PySem.Value.builtin "function.__dict__", PySem.Value.builtin "function.__dict__#set"] }) ::
    (nat_lit 146, { cls := PySem.Value.type "getset_descriptor", data := PySem.Data.fields #[PySem.Value.str (PySem.Str.ofString "__weakref__") 388, PySem.Value.ref 144, PySem.Value.builtin "ExceptionGroup.__weakref__", PySem.Value.none] }) ::
    (nat_lit 149, { cls := PySem.Value.type "tuple", data := PySem.Data.seq #[PySem.Value.bytes #[99, 111, 110, 110, 101, 99, 116, 105, 111, 110] 395, PySem.Value.bytes #[107, 101, 101, 112, 45, 97, 108, 105, 118, 101] 396, PySem.Value.bytes #[112, 114, 111, 120, 121, 45, 99, 111, 110, 110, 101, 99, 116, 105, 111, 110] 397, PySem.Value.bytes #[116, 114, 97, 110, 115, 102, 101, 114, 45, 101, 110, 99, 111, 100, 105, 110, 103] 398, PySem.Value.bytes #[117, 112, 103, 114, 97, 100, 101] 399] }) ::
    (nat_lit 150, { cls := PySem.Value.type "tuple", data := PySem.Data.seq #[] }) ::
    (nat_lit 152, { cls := PySem.Value.type "tuple", data := PySem.Data.seq #[PySem.Value.str (PySem.Str.ofString "text") 408] }) ::
    (nat_lit 153, { cls := PySem.Value.type "tuple", data := PySem.Data.seq #[] }) ::
    (nat_lit 155, { cls := PySem.Value.type "code", data := PySem.Data.fields #[PySem.Value.str (PySem.Str.ofString "malformed") 405, PySem.Value.str (PySem.Str.ofString "malformed") 406, PySem.Value.str (PySem.Str.ofString "/claim/cut.py") 407, PySem.Value.int 110 0, PySem.Value.int 1 0, PySem.Value.int 0 0, PySem.Value.int 0 0, PySem.Value.int 3 0, PySem.Value.ref 150, PySem.Value.bool true, PySem.Value.int 181 0, PySem.Value.ref 151, PySem.Value.none, PySem.Value.ref 152, PySem.Value.ref 153, PySem.Value.ref 154, PySem.Value.int 409 0, PySem.Value.int 110 0, PySem.Value.str (PySem.Str.ofString "/claim/cut.py") 410] }) ::
    (nat_lit 156, fnO (pick 17 none) (PySem.Str.ofString "malformed") (PySem.Str.ofString "quic.h3messages") 393 155) ::
    (nat_lit 157, { cls := PySem.Value.type "tuple", data := PySem.Data.seq #[] }) ::
    (nat_lit 159, { cls := PySem.Value.type "tuple", data := PySem.Data.seq #[PySem.Value.str (PySem.Str.ofString "octet") 415] }) ::
    (nat_lit 160, { cls := PySem.Value.type "tuple", data := PySem.Data.seq #[] }) ::
    (nat_lit 162, { cls := PySem.Value.type "code", data := PySem.Data.fields #[PySem.Value.str (PySem.Str.ofString "is_name_octet") 412, PySem.Value.str (PySem.Str.ofString "is_name_octet") 413, PySem.Value.str (PySem.Str.ofString "/claim/cut.py") 414, PySem.Value.int 112 0, PySem.Value.int 1 0, PySem.Value.int 0 0, PySem.Value.int 0 0, PySem.Value.int 3 0, PySem.Value.ref 157, PySem.Value.bool true, PySem.Value.int 181 0, PySem.Value.ref 158, PySem.Value.none, PySem.Value.ref 159, PySem.Value.ref 160, PySem.Value.ref 161, PySem.Value.int 416 0, PySem.Value.int 112 0, PySem.Value.str (PySem.Str.ofString "/claim/cut.py") 417] }) ::
    (nat_lit 163, fnO (pick 18 none) (PySem.Str.ofString "is_name_octet") (PySem.Str.ofString "quic.h3messages") 393 162) ::
    (nat_lit 164, { cls := PySem.Value.type "tuple", data := PySem.Data.seq #[] }) ::
    (nat_lit 167, { cls := PySem.Value.type "code", data := PySem.Data.fields #[PySem.Value.str (PySem.Str.ofString "check_name") 419, PySem.Value.str (PySem.Str.ofString "check_name") 420, PySem.Value.str (PySem.Str.ofString "/claim/cut.py") 421, PySem.Value.int 114 0, PySem.Value.int 1 0, PySem.Value.int 0 0, PySem.Value.int 0 0, PySem.Value.int 3 0, PySem.Value.ref 164, PySem.Value.bool true, PySem.Value.int 181 0, PySem.Value.ref 165, PySem.Value.none, PySem.Value.none, PySem.Value.none, PySem.Value.ref 166, PySem.Value.int 422 0, PySem.Value.int 114 0, PySem.Value.str (PySem.Str.ofString "/claim/cut.py") 423] }) ::
    (nat_lit 168, fnO (pick 19 none) (PySem.Str.ofString "check_name") (PySem.Str.ofString "quic.h3messages") 393 167) ::
    (nat_lit 169, { cls := PySem.Value.type "tuple", data := PySem.Data.seq #[] }) ::
    (nat_lit 172, { cls := PySem.Value.type "code", data := PySem.Data.fields #[PySem.Value.str (PySem.Str.ofString "check_value") 425, PySem.Value.str (PySem.Str.ofString "check_value") 426, PySem.Value.str (PySem.Str.ofString "/claim/cut.py") 427, PySem.Value.int 118 0, PySem.Value.int 1 0, PySem.Value.int 0 0, PySem.Value.int 0 0, PySem.Value.int 3 0, PySem.Value.ref 169, PySem.Value.bool true, PySem.Value.int 181 0, PySem.Value.ref 170, PySem.Value.none, PySem.Value.none, PySem.Value.none, PySem.Value.ref 171, PySem.Value.int 428 0, PySem.Value.int 118 0, PySem.Value.str (PySem.Str.ofString "/claim/cut.py") 429] }) ::
    (nat_lit 173, fnO (pick 20 none) (PySem.Str.ofString "check_value") (PySem.Str.ofString "quic.h3messages") 393 172) ::
    (nat_lit 174, { cls := PySem.Value.type "tuple", data := PySem.Data.seq #[] }) ::
    (nat_lit 176, { cls := PySem.Value.type "tuple", data := PySem.Data.seq #[PySem.Value.str (PySem.Str.ofString "name") 434, PySem.Value.str (PySem.Str.ofString "value") 435] }) ::
    (nat_lit 177, { cls := PySem.Value.type "tuple", data := PySem.Data.seq #[] }) ::
    (nat_lit 179, { cls := PySem.Value.type "code", data := PySem.Data.fields #[PySem.Value.str (PySem.Str.ofString "check_field") 431, PySem.Value.str (PySem.Str.ofString "check_field") 432, PySem.Value.str (PySem.Str.ofString "/claim/cut.py") 433, PySem.Value.int 123 0, PySem.Value.int 2 0, PySem.Value.int 0 0, PySem.Value.int 0 0, PySem.Value.int 3 0, PySem.Value.ref 174, PySem.Value.bool true, PySem.Value.int 181 0, PySem.Value.ref 175, PySem.Value.none, PySem.Value.ref 176, PySem.Value.ref 177, PySem.Value.ref 178, PySem.Value.int 436 0, PySem.Value.int 123 0, PySem.Value.str (PySem.Str.ofString "/claim/cut.py") 437] }) ::
    (nat_lit 180, fnO (pick 21 none) (PySem.Str.ofString "check_field") (PySem.Str.ofString "quic.h3messages") 393 179) ::
    (nat_lit 181, { cls := PySem.Value.type "tuple", data := PySem.Data.seq #[] }) ::
    (nat_lit 184, { cls := PySem.Value.type "code", data := PySem.Data.fields #[PySem.Value.str (PySem.Str.ofString "number_of_digits") 439, PySem.Value.str (PySem.Str.ofString "number_of_digits") 440, PySem.Value.str (PySem.Str.ofString "/claim/cut.py") 441, PySem.Value.int 128 0, PySem.Value.int 1 0, PySem.Value.int 0 0, PySem.Value.int 0 0, PySem.Value.int 3 0, PySem.Value.ref 181, PySem.Value.bool true, PySem.Value.int 181 0, PySem.Value.ref 182, PySem.Value.none, PySem.Value.none, PySem.Value.none, PySem.Value.ref 183, PySem.Value.int 442 0, PySem.Value.int 128 0, PySem.Value.str (PySem.Str.ofString "/claim/cut.py") 443] }) ::
    (nat_lit 185, fnO (pick 22 none) (PySem.Str.ofString "number_of_digits") (PySem.Str.ofString "quic.h3messages") 393 184) ::
    (nat_lit 186, { cls := PySem.Value.type "tuple", data := PySem.Data.seq #[] }) ::
    (nat_lit 189, { cls := PySem.Value.type "code", data := PySem.Data.fields #[PySem.Value.str (PySem.Str.ofString "values_of") 445, PySem.Value.str (PySem.Str.ofString "values_of") 446, PySem.Value.str (PySem.Str.ofString "/claim/cut.py") 447, PySem.Value.int 135 0, PySem.Value.int 2 0, PySem.Value.int 0 0, PySem.Value.int 0 0, PySem.Value.int 3 0, PySem.Value.ref 186, PySem.Value.bool true, PySem.Value.int 181 0, PySem.Value.ref 187, PySem.Value.none, PySem.Value.none, PySem.Value.none, PySem.Value.ref 188, PySem.Value.int 448 0, PySem.Value.int 135 0, PySem.Value.str (PySem.Str.ofString "/claim/cut.py") 449] }) ::
    (nat_lit 190, fnO (pick 23 none) (PySem.Str.ofString "values_of") (PySem.Str.ofString "quic.h3messages") 393 189) ::
    (nat_lit 191, { cls := PySem.Value.type "tuple", data := PySem.Data.seq #[] }) ::
    (nat_lit 193, { cls := PySem.Value.type "tuple", data := PySem.Data.seq #[PySem.Value.str (PySem.Str.ofString "fields") 454, PySem.Value.str (PySem.Str.ofString "known") 455, PySem.Value.str (PySem.Str.ofString "found") 456, PySem.Value.str (PySem.Str.ofString "is_behind") 457, PySem.Value.str (PySem.Str.ofString "name") 458, PySem.Value.str (PySem.Str.ofString "value") 459] }) ::
    (nat_lit 194, { cls := PySem.Value.type "tuple", data := PySem.Data.seq #[] }) ::
    (nat_lit 196, { cls := PySem.Value.type "code", data := PySem.Data.fields #[PySem.Value.str (PySem.Str.ofString "pseudo_fields") 451, PySem.Value.str (PySem.Str.ofString "pseudo_fields") 452, PySem.Value.str (PySem.Str.ofString "/claim/cut.py") 453, PySem.Value.int 137 0, PySem.Value.int 2 0, PySem.Value.int 0 0, PySem.Value.int 0 0, PySem.Value.int 3 0, PySem.Value.ref 191, PySem.Value.bool true, PySem.Value.int 181 0, PySem.Value.ref 192, PySem.Value.none, PySem.Value.ref 193, PySem.Value.ref 194, PySem.Value.ref 195, PySem.Value.int 460 0, PySem.Value.int 137 0, PySem.Value.str (PySem.Str.ofString "/claim/cut.py") 461] }) ::
    (nat_lit 197, fnO (pick 24 none) (PySem.Str.ofString "pseudo_fields") (PySem.Str.ofString "quic.h3messages") 393 196) ::
    (nat_lit 198, { cls := PySem.Value.type "tuple", data := PySem.Data.seq #[] }) ::
    (nat_lit 200, { cls := PySem.Value.type "tuple", data := PySem.Data.seq #[PySem.Value.str (PySem.Str.ofString "fields") 466, PySem.Value.str (PySem.Str.ofString "told") 467, PySem.Value.str (PySem.Str.ofString "status") 468] }) ::
    (nat_lit 201, { cls := PySem.Value.type "tuple", data := PySem.Data.seq #[] }) ::
    (nat_lit 203, { cls := PySem.Value.type "code", data := PySem.Data.fields #[PySem.Value.str (PySem.Str.ofString "check_answer") 463, PySem.Value.str (PySem.Str.ofString "check_answer") 464, PySem.Value.str (PySem.Str.ofString "/claim/cut.py") 465, PySem.Value.int 148 0, PySem.Value.int 1 0, PySem.Value.int 0 0, PySem.Value.int 0 0, PySem.Value.int 3 0, PySem.Value.ref 198, PySem.Value.bool true, PySem.Value.int 181 0, PySem.Value.ref 199, PySem.Value.none, PySem.Value.ref 200, PySem.Value.ref 201, PySem.Value.ref 202, PySem.Value.int 469 0, PySem.Value.int 148 0, PySem.Value.str (PySem.Str.ofString "/claim/cut.py") 470] }) ::
    (nat_lit 204, fnO (pick 25 none) (PySem.Str.ofString "check_answer") (PySem.Str.ofString "quic.h3messages") 393 203) ::
    (nat_lit 205, { cls := PySem.Value.type "tuple", data := PySem.Data.seq #[] }) ::
    (nat_lit 207, { cls := PySem.Value.type "tuple", data := PySem.Data.seq #[PySem.Value.str (PySem.Str.ofString "fields") 475] }) ::
    (nat_lit 208, { cls := PySem.Value.type "tuple", data := PySem.Data.seq #[] }) ::
    (nat_lit 210, { cls := PySem.Value.type "code", data := PySem.Data.fields #[PySem.Value.str (PySem.Str.ofString "check_trailer") 472, PySem.Value.str (PySem.Str.ofString "check_trailer") 473, PySem.Value.str (PySem.Str.ofString "/claim/cut.py") 474, PySem.Value.int 155 0, PySem.Value.int 1 0, PySem.Value.int 0 0, PySem.Value.int 0 0, PySem.Value.int 3 0, PySem.Value.ref 205, PySem.Value.bool true, PySem.Value.int 181 0, PySem.Value.ref 206, PySem.Value.none, PySem.Value.ref 207, PySem.Value.ref 208, PySem.Value.ref 209, PySem.Value.int 476 0, PySem.Value.int 155 0, PySem.Value.str (PySem.Str.ofString "/claim/cut.py") 477] }) ::
    (nat_lit 211, fnO (pick 26 none) (PySem.Str.ofString "check_trailer") (PySem.Str.ofString "quic.h3messages") 393 210) ::
    (nat_lit 212, { cls := PySem.Value.type "tuple", data := PySem.Data.seq #[] }) ::
    (nat_lit 214, { cls := PySem.Value.type "tuple", data := PySem.Data.seq #[PySem.Value.str (PySem.Str.ofString "status") 482] }) ::
    (nat_lit 215, { cls := PySem.Value.type "tuple", data := PySem.Data.seq #[] }) ::
    (nat_lit 217, { cls := PySem.Value.type "code", data := PySem.Data.fields #[PySem.Value.str (PySem.Str.ofString "is_interim") 479, PySem.Value.str (PySem.Str.ofString "is_interim") 480, PySem.Value.str (PySem.Str.ofString "/claim/cut.py") 481, PySem.Value.int 157 0, PySem.Value.int 1 0, PySem.Value.int 0 0, PySem.Value.int 0 0, PySem.Value.int 3 0, PySem.Value.ref 212, PySem.Value.bool true, PySem.Value.int 181 0, PySem.Value.ref 213, PySem.Value.none, PySem.Value.ref 214, PySem.Value.ref 215, PySem.Value.ref 216, PySem.Value.int 483 0, PySem.Value.int 157 0, PySem.Value.str (PySem.Str.ofString "/claim/cut.py") 484] }) ::
    (nat_lit 218, fnO (pick 27 none) (PySem.Str.ofString "is_interim") (PySem.Str.ofString "quic.h3messages") 393 217) ::
    (nat_lit 219, { cls := PySem.Value.type "tuple", data := PySem.Data.seq #[] }) ::
    (nat_lit 222, { cls := PySem.Value.type "code", data := PySem.Data.fields #[PySem.Value.str (PySem.Str.ofString "content_length") 486, PySem.Value.str (PySem.Str.ofString "content_length") 487, PySem.Value.str (PySem.Str.ofString "/claim/cut.py") 488, PySem.Value.int 161 0, PySem.Value.int 1 0, PySem.Value.int 0 0, PySem.Value.int 0 0, PySem.Value.int 3 0, PySem.Value.ref 219, PySem.Value.bool true, PySem.Value.int 181 0, PySem.Value.ref 220, PySem.Value.none, PySem.Value.none, PySem.Value.none, PySem.Value.ref 221, PySem.Value.int 489 0, PySem.Value.int 161 0, PySem.Value.str (PySem.Str.ofString "/claim/cut.py") 490] }) ::
    (nat_lit 223, fnO (pick 28 none) (PySem.Str.ofString "content_length") (PySem.Str.ofString "quic.h3messages") 393 222) ::
    (nat_lit 224, { cls := PySem.Value.type "tuple", data := PySem.Data.seq #[] }) ::
    (nat_lit 226, { cls := PySem.Value.type "tuple", data := PySem.Data.seq #[PySem.Value.str (PySem.Str.ofString "method") 495, PySem.Value.str (PySem.Str.ofString "status") 496] }) ::
    (nat_lit 227, { cls := PySem.Value.type "tuple", data := PySem.Data.seq #[] }) ::
    (nat_lit 229, { cls := PySem.Value.type "code", data := PySem.Data.fields #[PySem.Value.str (PySem.Str.ofString "has_no_body") 492, PySem.Value.str (PySem.Str.ofString "has_no_body") 493, PySem.Value.str (PySem.Str.ofString "/claim/cut.py") 494, PySem.Value.int 166 0, PySem.Value.int 2 0, PySem.Value.int 0 0, PySem.Value.int 0 0, PySem.Value.int 3 0, PySem.Value.ref 224, PySem.Value.bool true, PySem.Value.int 181 0, PySem.Value.ref 225, PySem.Value.none, PySem.Value.ref 226, PySem.Value.ref 227, PySem.Value.ref 228, PySem.Value.int 497 0, PySem.Value.int 166 0, PySem.Value.str (PySem.Str.ofString "/claim/cut.py") 498] }) ::
    (nat_lit 230, fnO (pick 29 none) (PySem.Str.ofString "has_no_body") (PySem.Str.ofString "quic.h3messages") 393 229) ::
    (nat_lit 231, { cls := PySem.Value.type "tuple", data := PySem.Data.seq #[] }) ::
    (nat_lit 233, { cls := PySem.Value.type "tuple", data := PySem.Data.seq #[PySem.Value.str (PySem.Str.ofString "fields") 503, PySem.Value.str (PySem.Str.ofString "size") 504, PySem.Value.str (PySem.Str.ofString "is_bodiless") 505, PySem.Value.str (PySem.Str.ofString "told") 506] }) ::
    (nat_lit 234, { cls := PySem.Value.type "tuple", data := PySem.Data.seq #[] }) ::
    (nat_lit 236, { cls := PySem.Value.type "code", data := PySem.Data.fields #[PySem.Value.str (PySem.Str.ofString "check_length") 500, PySem.Value.str (PySem.Str.ofString "check_length") 501, PySem.Value.str (PySem.Str.ofString "/claim/cut.py") 502, PySem.Value.int 168 0, PySem.Value.int 3 0, PySem.Value.int 0 0, PySem.Value.int 0 0, PySem.Value.int 3 0, PySem.Value.ref 231, PySem.Value.bool true, PySem.Value.int 181 0, PySem.Value.ref 232, PySem.Value.none, PySem.Value.ref 233, PySem.Value.ref 234, PySem.Value.ref 235, PySem.Value.int 507 0, PySem.Value.int 168 0, PySem.Value.str (PySem.Str.ofString "/claim/cut.py") 508] }) ::
    (nat_lit 237, fnO (pick 30 none) (PySem.Str.ofString "check_length") (PySem.Str.ofString "quic.h3messages") 393 236) ::
    (nat_lit 238, { cls := PySem.Value.type "tuple", data := PySem.Data.seq #[] }) ::
    (nat_lit 241, { cls := PySem.Value.type "code", data := PySem.Data.fields #[PySem.Value.str (PySem.Str.ofString "section_size") 510, PySem.Value.str (PySem.Str.ofString "section_size") 511, PySem.Value.str (PySem.Str.ofString "/claim/cut.py") 512, PySem.Value.int 175 0, PySem.Value.int 1 0, PySem.Value.int 0 0, PySem.Value.int 0 0, PySem.Value.int 3 0, PySem.Value.ref 238, PySem.Value.bool true, PySem.Value.int 181 0, PySem.Value.ref 239, PySem.Value.none, PySem.Value.none, PySem.Value.none, PySem.Value.ref 240, PySem.Value.int 513 0, PySem.Value.int 175 0, PySem.Value.str (PySem.Str.ofString "/claim/cut.py") 514] }) ::
    (nat_lit 242, fnO (pick 31 none) (PySem.Str.ofString "section_size") (PySem.Str.ofString "quic.h3messages") 393 241) ::
    (nat_lit 243, { cls := PySem.Value.type "tuple", data := PySem.Data.seq #[] }) ::
    (nat_lit 245, { cls := PySem.Value.type "tuple", data := PySem.Data.seq #[PySem.Value.str (PySem.Str.ofString "box") 521, PySem.Value.str (PySem.Str.ofString "many") 522, PySem.Value.str (PySem.Str.ofString "drawn") 523] }) ::
    (nat_lit 246, { cls := PySem.Value.type "tuple", data := PySem.Data.seq #[] }) ::
    (nat_lit 248, { cls := PySem.Value.type "code", data := PySem.Data.fields #[PySem.Value.str (PySem.Str.ofString "_law_take") 518, PySem.Value.str (PySem.Str.ofString "_law_take") 519, PySem.Value.str (PySem.Str.ofString "/claim/cut.py") 520, PySem.Value.int 178 0, PySem.Value.int 2 0, PySem.Value.int 0 0, PySem.Value.int 0 0, PySem.Value.int 3 0, PySem.Value.ref 243, PySem.Value.bool true, PySem.Value.int 181 0, PySem.Value.ref 244, PySem.Value.none, PySem.Value.ref 245, PySem.Value.ref 246, PySem.Value.ref 247, PySem.Value.int 524 0, PySem.Value.int 178 0, PySem.Value.str (PySem.Str.ofString "/claim/cut.py") 525] }) ::
    (nat_lit 249, fnO (pick 33 none) (PySem.Str.ofString "_law_take") (PySem.Str.ofString "law_nz0351_01") 516 248) ::
    (nat_lit 250, { cls := PySem.Value.type "tuple", data := PySem.Data.seq #[] }) ::
    (nat_lit 252, { cls := PySem.Value.type "tuple", data := PySem.Data.seq #[PySem.Value.str (PySem.Str.ofString "box") 530, PySem.Value.str (PySem.Str.ofString "limit") 531, PySem.Value.str (PySem.Str.ofString "frames") 532, PySem.Value.str (PySem.Str.ofString "last") 533, PySem.Value.str (PySem.Str.ofString "turn") 534] }) ::
    (nat_lit 253, { cls := PySem.Value.type "tuple", data := PySem.Data.seq #[] }) ::
    (nat_lit 255, { cls := PySem.Value.type "code", data := PySem.Data.fields #[PySem.Value.str (PySem.Str.ofString "_law_control") 527, PySem.Value.str (PySem.Str.ofString "_law_control") 528, PySem.Value.str (PySem.Str.ofString "/claim/cut.py") 529, PySem.Value.int 186 0, PySem.Value.int 1 0, PySem.Value.int 0 0, PySem.Value.int 0 0, PySem.Value.int 3 0, PySem.Value.ref 250, PySem.Value.bool true, PySem.Value.int 181 0, PySem.Value.ref 251, PySem.Value.none, PySem.Value.ref 252, PySem.Value.ref 253, PySem.Value.ref 254, PySem.Value.int 535 0, PySem.Value.int 186 0, PySem.Value.str (PySem.Str.ofString "/claim/cut.py") 536] }) ::
    (nat_lit 256, fnO (pick 34 none) (PySem.Str.ofString "_law_control") (PySem.Str.ofString "law_nz0351_01") 516 255) ::
    (nat_lit 257, { cls := PySem.Value.type "tuple", data := PySem.Data.seq #[] }) ::
    (nat_lit 259, { cls := PySem.Value.type "tuple", data := PySem.Data.seq #[PySem.Value.str (PySem.Str.ofString "box") 541, PySem.Value.str (PySem.Str.ofString "found") 542, PySem.Value.str (PySem.Str.ofString "turn") 543, PySem.Value.str (PySem.Str.ofString "status") 544, PySem.Value.str (PySem.Str.ofString "fields") 545, PySem.Value.str (PySem.Str.ofString "length") 546] }) ::
    (nat_lit 260, { cls := PySem.Value.type "tuple", data := PySem.Data.seq #[] }) ::
    (nat_lit 262, { cls := PySem.Value.type "code", data := PySem.Data.fields #[PySem.Value.str (PySem.Str.ofString "_law_events") 538, PySem.Value.str (PySem.Str.ofString "_law_events") 539, PySem.Value.str (PySem.Str.ofString "/claim/cut.py") 540, PySem.Value.int 193 0, PySem.Value.int 1 0, PySem.Value.int 0 0, PySem.Value.int 0 0, PySem.Value.int 3 0, PySem.Value.ref 257, PySem.Value.bool true, PySem.Value.int 181 0, PySem.Value.ref 258, PySem.Value.none, PySem.Value.ref 259, PySem.Value.ref 260, PySem.Value.ref 261, PySem.Value.int 547 0, PySem.Value.int 193 0, PySem.Value.str (PySem.Str.ofString "/claim/cut.py") 548] }) ::
    (nat_lit 263, fnO (pick 35 none) (PySem.Str.ofString "_law_events") (PySem.Str.ofString "law_nz0351_01") 516 262) ::
    (nat_lit 264, { cls := PySem.Value.type "tuple", data := PySem.Data.seq #[] }) ::
    (nat_lit 267, { cls := PySem.Value.type "code", data := PySem.Data.fields #[PySem.Value.str (PySem.Str.ofString "_law_cost") 550, PySem.Value.str (PySem.Str.ofString "_law_cost") 551, PySem.Value.str (PySem.Str.ofString "/claim/cut.py") 552, PySem.Value.int 208 0, PySem.Value.int 1 0, PySem.Value.int 0 0, PySem.Value.int 0 0, PySem.Value.int 3 0, PySem.Value.ref 264, PySem.Value.bool true, PySem.Value.int 181 0, PySem.Value.ref 265, PySem.Value.none, PySem.Value.none, PySem.Value.none, PySem.Value.ref 266, PySem.Value.int 553 0, PySem.Value.int 208 0, PySem.Value.str (PySem.Str.ofString "/claim/cut.py") 554] }) ::
    (nat_lit 268, fnO (pick 36 none) (PySem.Str.ofString "_law_cost") (PySem.Str.ofString "law_nz0351_01") 516 267) ::
    (nat_lit 269, { cls := PySem.Value.type "tuple", data := PySem.Data.seq #[] }) ::
    (nat_lit 272, { cls := PySem.Value.type "code", data := PySem.Data.fields #[PySem.Value.str (PySem.Str.ofString "_law_head_due") 556, PySem.Value.str (PySem.Str.ofString "_law_head_due") 557, PySem.Value.str (PySem.Str.ofString "/claim/cut.py") 558, PySem.Value.int 210 0, PySem.Value.int 1 0, PySem.Value.int 0 0, PySem.Value.int 0 0, PySem.Value.int 3 0, PySem.Value.ref 269, PySem.Value.bool true, PySem.Value.int 181 0, PySem.Value.ref 270, PySem.Value.none, PySem.Value.none, PySem.Value.none, PySem.Value.ref 271, PySem.Value.int 559 0, PySem.Value.int 210 0, PySem.Value.str (PySem.Str.ofString "/claim/cut.py") 560] }) ::
    (nat_lit 273, fnO (pick 37 none) (PySem.Str.ofString "_law_head_due") (PySem.Str.ofString "law_nz0351_01") 516 272) ::
    (nat_lit 274, { cls := PySem.Value.type "tuple", data := PySem.Data.seq #[] }) ::
    (nat_lit 277, { cls := PySem.Value.type "code", data := PySem.Data.fields #[PySem.Value.str (PySem.Str.ofString "_law_due") 562, PySem.Value.str (PySem.Str.ofString "_law_due") 563, PySem.Value.str (PySem.Str.ofString "/claim/cut.py") 564, PySem.Value.int 214 0, PySem.Value.int 3 0, PySem.Value.int 0 0, PySem.Value.int 0 0, PySem.Value.int 3 0, PySem.Value.ref 274, PySem.Value.bool true, PySem.Value.int 181 0, PySem.Value.ref 275, PySem.Value.none, PySem.Value.none, PySem.Value.none, PySem.Value.ref 276, PySem.Value.int 565 0, PySem.Value.int 214 0, PySem.Value.str (PySem.Str.ofString "/claim/cut.py") 566] }) ::
    (nat_lit 278, fnO (pick 38 none) (PySem.Str.ofString "_law_due") (PySem.Str.ofString "law_nz0351_01") 516 277) ::
    (nat_lit 279, { cls := PySem.Value.type "tuple", data := PySem.Data.seq #[] }) ::
    (nat_lit 281, { cls := PySem.Value.type "tuple", data := PySem.Data.seq #[PySem.Value.str (PySem.Str.ofString "fields") 571, PySem.Value.str (PySem.Str.ofString "rules") 572, PySem.Value.str (PySem.Str.ofString "state") 573, PySem.Value.str (PySem.Str.ofString "limit") 574, PySem.Value.str (PySem.Str.ofString "status") 575] }) ::
    (nat_lit 282, { cls := PySem.Value.type "tuple", data := PySem.Data.seq #[] }) ::
    (nat_lit 284, { cls := PySem.Value.type "code", data := PySem.Data.fields #[PySem.Value.str (PySem.Str.ofString "_law_heads") 568, PySem.Value.str (PySem.Str.ofString "_law_heads") 569, PySem.Value.str (PySem.Str.ofString "/claim/cut.py") 570, PySem.Value.int 242 0, PySem.Value.int 4 0, PySem.Value.int 0 0, PySem.Value.int 0 0, PySem.Value.int 3 0, PySem.Value.ref 279, PySem.Value.bool true, PySem.Value.int 181 0, PySem.Value.ref 280, PySem.Value.none, PySem.Value.ref 281, PySem.Value.ref 282, PySem.Value.ref 283, PySem.Value.int 576 0, PySem.Value.int 242 0, PySem.Value.str (PySem.Str.ofString "/claim/cut.py") 577] }) ::
    (nat_lit 285, fnO (pick 39 none) (PySem.Str.ofString "_law_heads") (PySem.Str.ofString "law_nz0351_01") 516 284) ::
    (nat_lit 286, { cls := PySem.Value.type "tuple", data := PySem.Data.seq #[] }) ::
    (nat_lit 288, { cls := PySem.Value.type "tuple", data := PySem.Data.seq #[PySem.Value.str (PySem.Str.ofString "events") 582, PySem.Value.str (PySem.Str.ofString "limit") 583, PySem.Value.str (PySem.Str.ofString "method") 584, PySem.Value.str (PySem.Str.ofString "rules") 585, PySem.Value.str (PySem.Str.ofString "state") 586, PySem.Value.str (PySem.Str.ofString "kind") 587, PySem.Value.str (PySem.Str.ofString "held") 588, PySem.Value.str (PySem.Str.ofString "e") 589] }) ::
    (nat_lit 289, { cls := PySem.Value.type "tuple", data := PySem.Data.seq #[] }) ::
    (nat_lit 291, { cls := PySem.Value.type "code", data := PySem.Data.fields #[PySem.Value.str (PySem.Str.ofString "_law_played") 579, PySem.Value.str (PySem.Str.ofString "_law_played") 580, PySem.Value.str (PySem.Str.ofString "/claim/cut.py") 581, PySem.Value.int 252 0, PySem.Value.int 3 0, PySem.Value.int 0 0, PySem.Value.int 0 0, PySem.Value.int 3 0, PySem.Value.ref 286, PySem.Value.bool true, PySem.Value.int 181 0, PySem.Value.ref 287, PySem.Value.none, PySem.Value.ref 288, PySem.Value.ref 289, PySem.Value.ref 290, PySem.Value.int 590 0, PySem.Value.int 252 0, PySem.Value.str (PySem.Str.ofString "/claim/cut.py") 591] }) ::
    (nat_lit 292, fnO (pick 40 none) (PySem.Str.ofString "_law_played") (PySem.Str.ofString "law_nz0351_01") 516 291) ::
    (nat_lit 293, { cls := PySem.Value.type "tuple", data := PySem.Data.seq #[] }) ::
    (nat_lit 295, { cls := PySem.Value.type "tuple", data := PySem.Data.seq #[PySem.Value.str (PySem.Str.ofString "script") 596, PySem.Value.str (PySem.Str.ofString "box") 597, PySem.Value.str (PySem.Str.ofString "frames") 598, PySem.Value.str (PySem.Str.ofString "limit") 599, PySem.Value.str (PySem.Str.ofString "last") 600, PySem.Value.str (PySem.Str.ofString "control") 601, PySem.Value.str (PySem.Str.ofString "frame") 602, PySem.Value.str (PySem.Str.ofString "number") 603, PySem.Value.str (PySem.Str.ofString "method") 604, PySem.Value.str (PySem.Str.ofString "events") 605] }) ::
    (nat_lit 296, { cls := PySem.Value.type "tuple", data := PySem.Data.seq #[] }) ::
    (nat_lit 298, { cls := PySem.Value.type "code", data := PySem.Data.fields #[PySem.Value.str (PySem.Str.ofString "law") 593, PySem.Value.str (PySem.Str.ofString "law") 594, PySem.Value.str (PySem.Str.ofString "/claim/cut.py") 595, PySem.Value.int 269 0, PySem.Value.int 1 0, PySem.Value.int 0 0, PySem.Value.int 0 0, PySem.Value.int 3 0, PySem.Value.ref 293, PySem.Value.bool true, PySem.Value.int 181 0, PySem.Value.ref 294, PySem.Value.none, PySem.Value.ref 295, PySem.Value.ref 296, PySem.Value.ref 297, PySem.Value.int 606 0, PySem.Value.int 269 0, PySem.Value.str (PySem.Str.ofString "/claim/cut.py") 607] }) ::
    (nat_lit 299, fnO (pick 41 none) (PySem.Str.ofString "law") (PySem.Str.ofString "law_nz0351_01") 516 298) :: []
noncomputable def keepAt (l : List Stmt) : List Nat → List Stmt
  | [] => []
  | i :: r => match l[i]? with | some s => s :: keepAt l r | none => keepAt l r
noncomputable def hd.view_39 : Program := { PySem.Challenge.pw_nz0351_01 with main := { PySem.Challenge.pw_nz0351_01.main with body := keepAt PySem.Challenge.pw_nz0351_01.main.body [1,2,3,4,5,6,8,9,10,11,12,14,15,16,17,18,19,20,21,22,23,24,25,26,27,28,29,30,31,33,34,35,36,37,38,39,40,41] } }
abbrev asK : List Addr := [2, 3, 15, 22, 24, 25, 27, 28, 29, 30, 31, 32, 35, 36, 44, 46, 47, 49, 50, 51, 53, 54, 56, 57, 58, 60, 61, 63, 64, 65, 67, 68, 70, 71, 72, 74, 75, 77, 78, 79, 81, 82, 84, 85, 86, 87, 88, 89, 90, 93, 95, 96, 98, 99, 107, 109, 110, 112, 113, 114, 116, 117, 119, 120, 121, 123, 124, 126, 127, 128, 130, 131, 133, 134, 135, 137, 138, 140, 141, 142, 143, 144, 145, 146, 149, 150, 152, 153, 155, 156, 157, 159, 160, 162, 163, 164, 167, 168, 169, 172, 173, 174, 176, 177, 179, 180, 181, 184, 185, 186, 189, 190, 191, 193, 194, 196, 197, 198, 200, 201, 203, 204, 205, 207, 208, 210, 211, 212, 214, 215, 217, 218, 219, 222, 223, 224, 226, 227, 229, 230, 231, 233, 234, 236, 237, 238, 241, 242, 243, 245, 246, 248, 249, 250, 252, 253, 255, 256, 257, 259, 260, 262, 263, 264, 267, 268, 269, 272, 273, 274, 277, 278, 279, 281, 282, 284, 285, 286, 288, 289, 291, 292, 293, 295, 296, 298, 299]
theorem asK_eq : ∀ P, asK = (hd.heap_39 P).map (·.1) := fun _ => rfl
noncomputable abbrev hookK : Hook := kHook hd.heap_39 asK asK_eq
theorem top_run : LeftO PySem.Challenge.rw_nz0351_01.row.prog hd.view_39 [] (fun s => xlAt hd.view_39 [] s && recOk PySem.Challenge.rw_nz0351_01.row.records s) (Hook.obs hookK) (Hook.val hookK) 3844 := by
  intro w
  unfold openEnds fencedOpening topFrom
  rw [PySem.W.Fast.te14082659384304107361, PySem.W.Fast.te4187177175401517315, PySem.W.Fast.te14364793385576792824, PySem.W.Fast.te5923862056798008813]
  kernel_rfl
theorem said_ok : PySem.Challenge.rw_nz0351_01.wellSaid = true := (congrFun PySem.W.Fast.te9446332074065402090 PySem.Challenge.rw_nz0351_01).trans (by kernel_rfl)
theorem chains_ok : (chainsOk hd.view_39 && opensWell PySem.Challenge.rw_nz0351_01.row.prog && (frees PySem.Challenge.rw_nz0351_01.row.toRowW && PySem.Challenge.rw_nz0351_01.row.within.isEmpty)) = true := by kernel_rfl
theorem whole_ok : PySem.Challenge.rw_nz0351_01.row.prog.tablesWhole = true := by kernel_rfl
theorem said_row : PySem.Challenge.rw_nz0351_01.row.wellSaid = true := row_said said_ok
theorem promised : PySem.Challenge.rw_nz0351_01.row.toRowW.promised := by w_witness2
def hd := fun walk => (holds_law said_ok fun _ => holds_open (r := PySem.Challenge.rw_nz0351_01.row) (q := hd.view_39) (loose := []) (Xt := fun s => xlAt hd.view_39 [] s && recOk PySem.Challenge.rw_nz0351_01.row.records s) (XP := XL hd.view_39 []) (Yf := Hook.obs (kHook hd.heap_39 asK asK_eq)) (Ya := Hook.val (kHook hd.heap_39 asK asK_eq)) (YP := Hook.says (kHook hd.heap_39 asK asK_eq)) (N := 3844) top_run (Hook.of (kHook hd.heap_39 asK asK_eq)) (Hook.keeps (kHook hd.heap_39 asK asK_eq)) (fun s e => xl_of s (Bool.and_eq_true_iff.mp e).1) XL.keeps (by rfl) (by rfl) (by rfl) (fun s e => recFacts_of (Bool.and_eq_true_iff.mp e).2) (by rfl) said_row chains_ok ⟨rfl, rfl, rfl, rfl, rfl, whole_ok⟩ promised walk : PySem.Challenge.rw_nz0351_01.Holds)

open PySem PySem.W PySem.Spec PySem.Calls PyProof.Rows
set_option Elab.async false
set_option maxRecDepth 100000
set_option maxHeartbeats 1500000
set_option linter.unusedVariables false
set_option linter.unusedSimpArgs false

local macro_rules | `(tactic| walk_at $s:str) => `(tactic| k_extra $s)
local macro_rules | `(tactic| k_ne) => `(tactic| k_extra "k9ne")
local macro_rules | `(tactic| k_all) => `(tactic| k_extra "k9all")
local macro_rules | `(tactic| k_updF) => `(tactic| k_extra "k9updF")
local macro_rules | `(tactic| size_fits) => `(tactic| k_extra "k9ze_fits")

example : True := by (k_with "k9ne" => ((try dsimp only); first | with_reducible assumption | exact Ne.symm (by with_reducible assumption) | exact Nat.ne_of_gt (by first | with_reducible assumption | exact And.left (by with_reducible assumption) | exact And.left (And.right (by with_reducible assumption)) | exact And.left (And.right (And.right (by with_reducible assumption))) | exact And.left (And.right (And.right (And.right (by with_reducible assumption)))) | exact And.left (And.right (And.right (And.right (And.right (by with_reducible assumption))))) | exact And.left (And.right (And.right (And.right (And.right (And.right (by with_reducible assumption)))))) | exact And.left (And.right (And.right (And.right (And.right (And.right (And.right (by with_reducible assumption))))))) | exact And.left (And.right (And.right (And.right (And.right (And.right (And.right (And.right (by with_reducible assumption)))))))) | exact And.left (And.right (And.right (And.right (And.right (And.right (And.right (And.right (And.right (by with_reducible assumption))))))))) | exact And.left (And.right (And.right (And.right (And.right (And.right (And.right (And.right (And.right (And.right (by with_reducible assumption)))))))))) | exact And.left (And.right (And.right (And.right (And.right (And.right (And.right (And.right (And.right (And.right (And.right (by with_reducible assumption))))))))))) | exact And.left (And.right (And.right (And.right (And.right (And.right (And.right (And.right (And.right (And.right (And.right (And.right (by with_reducible assumption)))))))))))) | exact And.left (And.right (And.right (And.right (And.right (And.right (And.right (And.right (And.right (And.right (And.right (And.right (And.right (by with_reducible assumption))))))))))))) | exact And.left (And.right (And.right (And.right (And.right (And.right (And.right (And.right (And.right (And.right (And.right (And.right (And.right (And.right (by with_reducible assumption)))))))))))))) | exact And.left (And.right (And.right (And.right (And.right (And.right (And.right (And.right (And.right (And.right (And.right (And.right (And.right (And.right (And.right (by with_reducible assumption))))))))))))))) | exact And.left (And.right (And.right (And.right (And.right (And.right (And.right (And.right (And.right (And.right (And.right (And.right (And.right (And.right (And.right (And.right (by with_reducible assumption))))))))))))))))) | exact Nat.ne_of_lt (by first | with_reducible assumption | exact And.left (by with_reducible assumption) | exact And.left (And.right (by with_reducible assumption)) | exact And.left (And.right (And.right (by with_reducible assumption))) | exact And.left (And.right (And.right (And.right (by with_reducible assumption)))) | exact And.left (And.right (And.right (And.right (And.right (by with_reducible assumption))))) | exact And.left (And.right (And.right (And.right (And.right (And.right (by with_reducible assumption)))))) | exact And.left (And.right (And.right (And.right (And.right (And.right (And.right (by with_reducible assumption))))))) | exact And.left (And.right (And.right (And.right (And.right (And.right (And.right (And.right (by with_reducible assumption)))))))) | exact And.left (And.right (And.right (And.right (And.right (And.right (And.right (And.right (And.right (by with_reducible assumption))))))))) | exact And.left (And.right (And.right (And.right (And.right (And.right (And.right (And.right (And.right (And.right (by with_reducible assumption)))))))))) | exact And.left (And.right (And.right (And.right (And.right (And.right (And.right (And.right (And.right (And.right (And.right (by with_reducible assumption))))))))))) | exact And.left (And.right (And.right (And.right (And.right (And.right (And.right (And.right (And.right (And.right (And.right (And.right (by with_reducible assumption)))))))))))) | exact And.left (And.right (And.right (And.right (And.right (And.right (And.right (And.right (And.right (And.right (And.right (And.right (And.right (by with_reducible assumption))))))))))))) | exact And.left (And.right (And.right (And.right (And.right (And.right (And.right (And.right (And.right (And.right (And.right (And.right (And.right (And.right (by with_reducible assumption)))))))))))))) | exact And.left (And.right (And.right (And.right (And.right (And.right (And.right (And.right (And.right (And.right (And.right (And.right (And.right (And.right (And.right (by with_reducible assumption))))))))))))))) | exact And.left (And.right (And.right (And.right (And.right (And.right (And.right (And.right (And.right (And.right (And.right (And.right (And.right (And.right (And.right (And.right (by with_reducible assumption))))))))))))))))) | (refine neN ?_; (try dsimp only); omega))); trivial
example : True := by (k_with "ite" => (k_here; first | ((with_reducible show if true = true then _ else _); rw [if_pos rfl]) | ((with_reducible show if false = true then _ else _); rw [if_neg Bool.false_ne_true]))); trivial
example : True := by (k_with "execs nil" => (k_here; with_reducible refine wpAny_execs_nil ?_)); trivial
abbrev Led := List (Addr × Obj)
/-- what a call of the def at f does: from the ledger news to an answer and a ledger that Post tells of -/
def Does (w : World) (mean : ExcName → Option Value) (mg mb : Str → Option Value) (f : Addr) (k : Nat) (args : List Value) (news : Led) (Post : Value → Led → Prop) : Prop :=
  ∀ (dp un : Nat) (gd : Option (List Code)) (cn : Str) (cs : Scope) (a : Addr) (ccd : Value) (cl : List (Str × Addr)) (outer : List Env) (A₀ : Around) (base h₀ : Heap) (L : Addr) (m : Str → Option Value) (s : Shared) (Q E : Value → Shared → Prop),
    Below A₀ base outer h₀ → Fr h₀ L s.heap m → (hd.heap_39 w.params).In h₀ → News h₀ L s.heap news → Top hd.view_39 (looseW hd.view_39 []) mean mg mb h₀ → cs.kind = .function →
    dp + k < recursionLimit → un + 8 * k + 80 < cLine →
    (∀ v news' h' tk', Post v news' → Fr h₀ L h' m → News h₀ L h' news' → Q v { s with heap := h', toks := tk' }) →
    wpAny (model PySem.Challenge.rw_nz0351_01.row.prog w) (ktrTop dp un gd cn cs L a ccd cl outer) (call (.ref f) args) Q E s
def bts (s : String) : Array UInt8 := ⟨s.toList.map fun c => UInt8.ofNat c.toNat⟩

abbrev exo (t : Addr) (d : Option Addr) : Obj := { cls := .ref 31, dict := d, data := .fields #[.ref t, .none, .none, .none, .bool false, .none] }
abbrev tupo (vs : List Value) : Obj := { cls := .type "tuple", data := .seq vs.toArray }

/-- the class of the program's exception, as it stands in the written part -/
inductive H3At (h : Heap) : Prop
  | mk : ∀ nm q bs sn sub ab col dd k0 k1 k2 k3 k5 mN, h.get? 31 = some (excClassObj nm q 31 30 bs [.type "Exception", .type "BaseException", .type "object"] true sn sub ab col dd k0 k1 k2 k3 k5 "Exception.__new__") → h.Ns 30 mN → mN "__init__" = some (.ref 28) → mN "__setattr__" = none → mN "__getattribute__" = none → mN "__getattr__" = none → mN "code" = none → mN "text" = none → ∀ oI, h.get? 28 = some oI → oI.cls = .type "function" → H3At h
theorem H3At.keeps {h h' : Heap} (x : H3At h) (k : ∀ b o, h.get? b = some o → h'.get? b = some o) : H3At h' := by
  obtain ⟨nm, q, bs, sn, sub, ab, col, dd, k0, k1, k2, k3, k5, mN, a, b, c, c1, c2, c3, c4, c5, oI, d, e⟩ := x
  exact ⟨nm, q, bs, sn, sub, ab, col, dd, k0, k1, k2, k3, k5, mN, k _ _ a, b.keeps k, c, c1, c2, c3, c4, c5, oI, k _ _ d, e⟩
theorem nsMap_of_in {K : Frag} {h : Heap} {N : Addr} {x : Str} {v : Value} (X : K.In h) (e : nsOkIn K N = true) (q : nsIn K N x = some (some v)) : h.nsMap N x = some v := by
  have G : h.Ns N (h.nsMap N) := .of_isNs (isNs_of_in X e)
  obtain ⟨o, es, ep, ho, hd, _, hf⟩ := G
  rw [← hf]
  unfold nsIn at q
  split at q
  · rename_i c d es' n' sl q'
    have := X _ _ q'
    rw [ho] at this
    cases this
    cases hd
    split at q
    · rename_i en he
      cases q
      unfold nsFind findBy
      rw [← Array.find?_toList, he]
      rfl
    · split at q <;> cases q
  · cases q
theorem h3_at0 {w : World} {h : Heap} : (PySem.Challenge.rw_nz0351_01.Holds → True) → (hd.heap_39 w.params).In h → H3At h := by
  k_fill
  intro _ X
  have e30 : nsOkIn (hd.heap_39 w.params) 30 = true := by with_unfolding_all rfl
  refine ⟨_, _, _, _, _, _, _, _, _, _, _, _, _, h.nsMap 30, X _ _ (by k_is), .of_isNs (isNs_of_in X e30), nsMap_of_in X e30 (by k_is), nsMap_none_of_in X e30 (by k_is), nsMap_none_of_in X e30 (by k_is), nsMap_none_of_in X e30 (by k_is), nsMap_none_of_in X e30 (by k_is), nsMap_none_of_in X e30 (by k_is), _, X _ _ (by k_is), rfl⟩

theorem h3_at {w : World} {h : Heap} (X : (hd.heap_39 w.params).In h) : H3At h := h3_at0 (fun _ => trivial) X
section
variable {prog : Program} {w : World} {A A₀ : Around} {E : Value → Shared → Prop} {s : Shared} {K : Frag} {h₀ : Heap} {L e t : Addr} {d : Option Addr} {m : Str → Option Value} {news news' : Led}
theorem binit {rest : List Value} {Q : Value → Shared → Prop} (H : H3At h₀) (F : Fr h₀ L s.heap m) (N : News h₀ L s.heap news) (U : Upd e (exo t d) (exo s.heap.objs.size d) news news') (hz : rest.length ≤ 1000)
    (h : ∀ h', Fr h₀ L h' m → News h₀ L h' ((s.heap.objs.size, tupo rest) :: news') → (∀ p ∈ news, p.1 < s.heap.objs.size) → Q .none { s with heap := h' }) :
    wpAny (model prog w) A (call (.builtin "Exception.__init__") (.ref e :: rest)) Q E s := by
  have F3 := PySem.F.excBase_Exception
  obtain ⟨nm, q, bs, sn, sub, ab, col, dd, k0, k1, k2, k3, k5, mN, hC, _⟩ := H
  have hC' := F.keep _ _ hC
  obtain ⟨pre, post, rfl, rfl, a1, a2⟩ := U.split
  have z := N (e, exo t d) (List.mem_append.mpr (.inr (.head _)))
  have he : s.heap.get? e = some (exo t d) := z.1
  refine wpAny_call (codeAny_call_builtin F3.init.plain F3.initEntry ?_)
  refine wpAny_check_init_sub (h := s.heap) (g := s.gens) (d := s.drawn) (t := s.toks) (os := s.os) F3 hC' he rfl ?_
  unfold Builtin.«BaseException.__init__»
  dsimp only
  rw [if_neg (by simp)]
  unfold newTuple Builtin.BaseException.bexcPut
  have he₁ := Heap.get?_push_of_some (h := s.heap) { cls := .type "tuple", data := .seq rest.toArray } he
  have lt : ∀ p ∈ pre ++ (e, exo t d) :: post, p.1 < s.heap.objs.size := fun p hp => Heap.lt_size (N p hp).1
  have N1 := News.push F N { cls := .type "tuple", data := .seq rest.toArray }
  have F1 := Fr.push F { cls := .type "tuple", data := .seq rest.toArray }
  have U2 := news_upd (pre := (s.heap.objs.size, tupo rest) :: pre) (f := Obj.mapFields (·.setIfInBounds 0 (.ref s.heap.objs.size))) (o' := exo s.heap.objs.size d) F1 N1 (fun p hp => by
    rcases List.mem_cons.mp hp with rfl | hp
    · exact Nat.ne_of_gt (Heap.lt_size he)
    · exact a1 p hp) a2 rfl rfl
  refine wpAny_bind (wpAny_newObj_type (wpAny_bind (wpAny_bind (wpAny_field he₁ rfl rfl (wpAny_bind (wpAny_setField he₁ rfl (by simp) ?_))))) (by show rest.toArray.size ≤ sizeLine; rw [List.size_toArray, sizeLine_eq]; omega))
  exact wpAny_letGo (wpAny_pure (h _ U2.1 U2.2 lt))

/-- an object that is a namespace with the names of m -/
def NsOb (o : Obj) (m : Str → Option Value) : Prop := ∃ es ep, o.data = .dict es ep ∧ StrKeys es ∧ UniqKeys es ∧ ∀ name, nsFind es name = m name
theorem NsOb.at {o : Obj} {m : Str → Option Value} {h : Heap} {a : Addr} (x : NsOb o m) (e : h.get? a = some o) : h.Ns1 a m := let ⟨es, ep, r⟩ := x; ⟨o, es, ep, e, r⟩
theorem NsOb.free {o : Obj} {m : Str → Option Value} (x : NsOb o m) : o.isFreed = false := by
  obtain ⟨es, ep, e, _⟩ := x
  obtain ⟨_, _, dt, _⟩ := o
  cases e; rfl

theorem store_first {name : Str} {v : Value} {pre post : Led} {Q : Unit → Shared → Prop} (H : H3At h₀) (F : Fr h₀ L s.heap m) (N : News h₀ L s.heap (pre ++ (e, exo t none) :: post)) (a1 : ∀ p ∈ pre, p.1 ≠ e) (a2 : ∀ p ∈ post, p.1 ≠ e)
    (hB : typeLookup (.type "Exception") name = pure none) (hn : ∀ mN : Str → Option Value, mN "code" = none → mN "text" = none → mN name = none)
    (h : ∀ od h' tk, Fr h₀ L h' m → News h₀ L h' ((s.heap.objs.size, od) :: (pre ++ (e, exo t (some s.heap.objs.size)) :: post)) → NsOb od (fun y => if y = name then some v else none) → (∀ p ∈ pre ++ (e, exo t none) :: post, p.1 < s.heap.objs.size) → Q () { s with heap := h', toks := tk }) :
    wpAny (model prog w) A (setAttr (.ref e) name v) Q E s := by
  have SF := PySem.F.store_Exception
  obtain ⟨nm, q, bs, sn, sub, ab, col, dd, k0, k1, k2, k3, k5, mN, hC0, hN0, _, hns, _, _, hc1, hc2, _⟩ := H
  have hC := F.keep _ _ hC0
  have hN := hN0.keeps F.keep
  have hna := hn mN hc1 hc2
  have z := N (e, exo t none) (List.mem_append.mpr (.inr (.head _)))
  have hx : s.heap.get? e = some (exo t none) := z.1
  have lt : ∀ p ∈ pre ++ (e, exo t none) :: post, p.1 < s.heap.objs.size := fun p hp => Heap.lt_size (N p hp).1
  obtain ⟨hh, g, dr, tk, os⟩ := s
  dsimp only at F N hC hN hx lt h ⊢
  have key : ∀ {P : Fin → Shared → Prop} {E' : Value → Shared → Prop} {tk' : Tok} {u : Nat} {b : Bool}, (∀ od h' tk, Fr h₀ L h' m → News h₀ L h' ((hh.objs.size, od) :: (pre ++ (e, exo t (some hh.objs.size)) :: post)) → NsOb od (fun y => if y = name then some v else none) → (∀ p ∈ pre ++ (e, exo t none) :: post, p.1 < hh.objs.size) → P (.done (.ret .none)) ⟨h', g, dr, tk, os⟩) →
      wpAny (model prog w) A.in1 (Builtin.ObjectAttr.storeInOwnDict (.ref e) (.ref 31) (.str name tk') name v b) P E' ⟨hh, g, dr, u, os⟩ := by
    intro P E' tk' u b hP
    unfold Builtin.ObjectAttr.storeInOwnDict ownStreamTells
    refine wpAny_bind (wpAny_pure ?_)
    rw [if_neg (by decide)]
    refine wpAny_bind ?_
    unfold Builtin.ObjectAttr.ownDictForStores instanceDict
    have hx₁ : (hh.push { cls := .type "dict", data := .dict #[] }).get? e = some (exo t none) := Heap.get?_push_of_some _ hx
    have hxs : e ≠ hh.objs.size := Nat.ne_of_lt (Heap.lt_size hx)
    have F1 := F.push { cls := .type "dict", data := .dict #[] }
    have N1 := News.push F N { cls := .type "dict", data := .dict #[] }
    have U2 := news_upd (pre := (hh.objs.size, { cls := .type "dict", data := .dict #[] }) :: pre) (f := fun o => { o with dict := some hh.objs.size }) (o' := exo t (some hh.objs.size)) F1 N1 (fun p hp => by
      rcases List.mem_cons.mp hp with rfl | hp
      · exact Ne.symm hxs
      · exact a1 p hp) a2 rfl rfl
    have key2 : ∀ {u : Nat}, wpAny (model prog w) A.in1 (Builtin.ObjectAttr.storeInDict hh.objs.size (.str name tk') name v) P E' ⟨(hh.push { cls := .type "dict", data := .dict #[] }).update e fun o => { o with dict := some hh.objs.size }, g, dr, u, os⟩ := by
      intro u
      have hgd := (U2.2 (hh.objs.size, { cls := .type "dict", data := .dict #[] }) (by simp)).1
      have hnd : ((hh.push { cls := .type "dict", data := .dict #[] }).update e fun o => { o with dict := some hh.objs.size }).Ns hh.objs.size (fun _ => none) :=
        ⟨_, #[], _, hgd, rfl, fun e he => absurd he (by simp), fun _ => rfl⟩
      unfold Builtin.ObjectAttr.storeInDict Builtin.ObjectAttr.newKeyGuard
      refine wpAny_bind (wpAny_pure (wpAny_bind (wpAny_nsSet1 (Heap.Ns1.of_empty hnd) fun h' hn' hs => ?_)))
      obtain ⟨oD, esD, epD, hoD, hdD, hcD⟩ := hn'.count (Within.cons name v Within.nil)
      refine wpAny_bind (wpAny_lookBehind hoD (by rw [hdD]; exact pastItsLine_dict (Nat.le_trans hcD (by rw [List.length_cons, List.length_nil, sizeLine_eq]; omega))) ?_)
      obtain ⟨o', es, ep, e1, e2, e3, eu, e4⟩ := hn'
      have off : ∀ p ∈ pre ++ (e, exo t (some hh.objs.size)) :: post, p.1 ≠ hh.objs.size := fun p hp => by
        rcases List.mem_append.mp hp with q | q
        · exact Nat.ne_of_lt (lt p (List.mem_append_left _ q))
        · rcases List.mem_cons.mp q with rfl | q
          · exact hxs
          · exact Nat.ne_of_lt (lt p (List.mem_append_right _ (.tail _ q)))
      have N3 := news_set (pre := []) (o' := o') U2.2 (fun _ h => nomatch h) off hs e1
      have F3 := U2.1.change hs (Nat.ne_of_gt F.ns.lt) (next_is_new F)
      exact wpAny_pure (hP o' h' _ F3 N3 ⟨es, ep, e2, e3, eu, e4⟩ lt)
    refine wpAny_bind (wpAny_loadPart hx ?_)
    dsimp only
    repeat (first | with_reducible refine key2 | with_reducible refine wpAny_loadPart_at hC ?_ | wp_step)
  have f3 := SF.slot.bind (.ref e)
  unfold setAttr callSpecial? specialOf
  repeat (any_goals (first | assumption | with_reducible refine wpAny_loadPart_at hx ?_ | (with_reducible refine wpAny_typeLookup_exc hC hN SF.mro SF.slot.lookup ?_; rw [hns]) | wp_step))
  refine codeAny_call_builtin SF.slot.plain SF.entry ?_
  rw [List.cons_append, List.nil_append]
  with_reducible refine wpAny_check_sa SF hC hx rfl ?_
  have hpass := SF.passes (.ref e)
  unfold Builtin.«object.__setattr__»
  repeat (first | with_reducible refine key ?_ | rw [refuse_eq] | (rw [refuseLoop_ref, hpass]) | with_reducible refine wpAny_loadPart_at hx ?_ | with_reducible refine wpAny_mroOf_exc hC ?_ | (with_reducible refine wpAny_typeLookup_exc hC hN SF.mro hB ?_; rw [hna]) | wp_step)
  intro od h' tk' F' N' o' l'
  exact wpAny_pure (wpAny_pure (h od h' tk' F' N' o' l'))
theorem store_firstU {name : Str} {v : Value} {nf : Addr → Led} {Q : Unit → Shared → Prop} (H : H3At h₀) (F : Fr h₀ L s.heap m) (N : News h₀ L s.heap news) (U : ∀ d', Upd e (exo t none) (exo t (some d')) news (nf d'))
    (hB : typeLookup (.type "Exception") name = pure none) (hn : ∀ mN : Str → Option Value, mN "code" = none → mN "text" = none → mN name = none)
    (h : ∀ d' od h' tk, Fr h₀ L h' m → News h₀ L h' ((d', od) :: nf d') → NsOb od (fun y => if y = name then some v else none) → (∀ p ∈ news, p.1 < d') → Q () { s with heap := h', toks := tk }) :
    wpAny (model prog w) A (setAttr (.ref e) name v) Q E s := by
  obtain ⟨pre, post, rfl, e2, a1, a2⟩ := (U s.heap.objs.size).split
  refine store_first H F N a1 a2 hB hn fun od h' tk F' N' => h _ od h' tk F' ?_
  rw [e2]; exact N'
theorem binitU {rest : List Value} {nf : Addr → Led} {Q : Value → Shared → Prop} (H : H3At h₀) (F : Fr h₀ L s.heap m) (N : News h₀ L s.heap news) (U : ∀ t', Upd e (exo t d) (exo t' d) news (nf t')) (hz : rest.length ≤ 1000)
    (h : ∀ t' h', Fr h₀ L h' m → News h₀ L h' ((t', tupo rest) :: nf t') → (∀ p ∈ news, p.1 < t') → Q .none { s with heap := h' }) :
    wpAny (model prog w) A (call (.builtin "Exception.__init__") (.ref e :: rest)) Q E s := binit H F N (U s.heap.objs.size) hz fun h' => h _ h'
end
section
variable {prog : Program} {w : World} {A A₀ : Around} {E : Value → Shared → Prop} {s : Shared} {K : Frag} {h₀ : Heap} {L e t d : Addr} {m : Str → Option Value} {rest : Led}
theorem lk_text : typeLookup (.type "Exception") "text" = pure none := by rw [typeLookup_type, builtinLookup_eq_fast]; kernel_rfl
theorem lk_code : typeLookup (.type "Exception") "code" = pure none := by rw [typeLookup_type, builtinLookup_eq_fast]; kernel_rfl
theorem store_next {name : Str} {v : Value} {od : Obj} {mA : Str → Option Value} {ns : List Str} {Q : Unit → Shared → Prop} (H : H3At h₀) (F : Fr h₀ L s.heap m) (N : News h₀ L s.heap ((d, od) :: rest)) (hm : (e, exo t (some d)) ∈ rest) (hd : ∀ p ∈ rest, p.1 ≠ d) (ho : NsOb od mA)
    (hB : typeLookup (.type "Exception") name = pure none) (hn : ∀ mN : Str → Option Value, mN "code" = none → mN "text" = none → mN name = none) (hw : Within mA ns) (hsz : ns.length ≤ 100)
    (h : ∀ od' h' tk, Fr h₀ L h' m → News h₀ L h' ((d, od') :: rest) → NsOb od' (fun y => if y = name then some v else mA y) → Q () { s with heap := h', toks := tk }) :
    wpAny (model prog w) A (setAttr (.ref e) name v) Q E s := by
  have SF := PySem.F.store_Exception
  obtain ⟨nm, q, bs, sn, sub, ab, col, dd, k0, k1, k2, k3, k5, mN, hC0, hN0, _, hns, _, _, hc1, hc2, _⟩ := H
  have hC := F.keep _ _ hC0
  have hN := hN0.keeps F.keep
  have hna := hn mN hc1 hc2
  have z := N (e, exo t (some d)) (.tail _ hm)
  have zd := N (d, od) (.head _)
  have hx : s.heap.get? e = some (exo t (some d)) := z.1
  have hde : d ≠ e := fun q => hd _ hm q.symm
  have I : s.heap.Inst e 31 mA := ⟨_, hx, rfl, (fun c q => by cases q), .inr ⟨d, rfl, hde, ho.at zd.1⟩⟩
  have hxC : e ≠ 31 := fun q => by have := z.2.2; dsimp only at this; rw [q, hC0] at this; cases this
  obtain ⟨hh, g, dr, tk, os⟩ := s
  refine store_attr SF hC hN hns hna hB hxC I (fun h' tk' I' hk hsame => ?_) hw (by rw [sizeLine_eq]; omega)
  obtain ⟨o₁, e1, e2, e3, e4, e5⟩ := hsame _ hx
  have eo : o₁ = exo t (some d) := by
    obtain ⟨a1, a2, a3, a4⟩ := o₁
    have := e5 d rfl
    dsimp only at e2 e3 e4 this
    subst e2 e3 e4 this
    rfl
  subst eo
  obtain ⟨o₂, f1, _, _, f4⟩ := I'
  rw [e1] at f1
  cases f1
  rcases f4 with ⟨q, _⟩ | ⟨d', q1, _, q2⟩
  · cases q
  cases q1
  obtain ⟨od', es, ep, g1, g2, g3, g4, g5⟩ := q2
  have kp : ∀ b o, b ≠ e → b ≠ d → hh.get? b = some o → h'.get? b = some o := fun b o b1 b2 b3 => hk b o b1 (fun o₀ dx q1 q2 => by rw [hx] at q1; cases q1; cases q2; exact b2) b3
  have F' : Fr h₀ L h' m := by
    obtain ⟨oL, a1, a2, hL, a3⟩ := F.ns
    refine ⟨⟨oL, a1, a2, kp L oL (fun q => z.2.1 q.symm) (fun q => zd.2.1 q.symm) hL, a3⟩, fun b o q => kp b o (fun q' => ?_) (fun q' => ?_) (F.keep b o q), F.above⟩
    · have := z.2.2; dsimp only at this; rw [← q', q] at this; cases this
    · have := zd.2.2; dsimp only at this; rw [← q', q] at this; cases this
  refine h od' h' tk' F' (fun p hp => ?_) ⟨es, ep, g2, g3, g4, g5⟩
  rcases List.mem_cons.mp hp with rfl | hp
  · exact ⟨g1, zd.2⟩
  · have y := N p (.tail _ hp)
    refine ⟨?_, y.2⟩
    by_cases pe : p.1 = e
    · have y1 := y.1
      rw [pe, hx] at y1
      rw [pe, ← y1]; exact e1
    · exact kp _ _ pe (hd p hp) y.1
end

example : True := by (k_with "k9all" => assumption); trivial

example : True := by (k_with "getMethod" => (k_here; (with_reducible show wpAny _ _ (getMethod (Value.type _) _ _) _ _ _); k_dflt (refine' method_type ?zzF ?zzX ?zzt ?zzs ?zze ?zzh ?_; (case zzF => k_asm); (case zzX => k_asm); (case zzt => rfl); (case zzs => decide +kernel); (case zze => k_is); (case zzh => rfl)))); trivial
example : True := by (k_with "call builtin:Exception.__init__" => (k_here; k_dflt (refine' binitU (h3_at (by k_asm)) ?zzF ?zzN ?zzU ?zzz ?_; (case zzF => k_asm); (case zzN => k_asm); (case zzU => (intro t'; k_upd)); (case zzz => simp)); intro t9 h9 F' N' l19; (try dsimp only at N'); (try k_lt l19); (try k_sweep))); trivial
example : True := by (k_with "setAttr ref" => (k_here; (with_reducible show wpAny _ _ (setAttr (Value.ref _) ("text" : Str) _) _ _ _); k_dflt (refine' store_next (h3_at (by k_asm)) ?zzF ?zzN ?zzm ?zzd ?zzo lk_text (fun _ _ h => h) ?zzw ?zzz ?_; (case zzF => k_asm); (case zzN => k_asm); (case zzm => k_mem); (case zzd => k_all); (case zzo => assumption); (case zzw => exact Within.cons _ _ Within.nil); (case zzz => simp)); intro od8 h' tk' F' N' o8; (try k_sweep))); trivial
example : True := by (k_with "setAttr ref" => (k_here; (with_reducible show wpAny _ _ (setAttr (Value.ref _) ("code" : Str) _) _ _ _); k_dflt (refine' store_firstU (h3_at (by k_asm)) ?zzF ?zzN ?zzU lk_code (fun _ h _ => h) ?_; (case zzF => k_asm); (case zzN => k_asm); (case zzU => (intro d'; k_upd))); intro d9 od9 h' tk' F' N' o' l29; (try dsimp only at N'); (try k_lt l29); (try k_sweep))); trivial
variable {w : World} {mean : ExcName → Option Value} {mg mb : Str → Option Value} {rest : Led}
theorem allLt_mem {d : Addr} : ∀ {l : Led}, AllLt d l → ∀ p ∈ l, p.1 < d
  | [], _, _, h => nomatch h
  | _ :: _, x, p, h => by
    rcases List.mem_cons.mp h with rfl | h
    · exact x.1
    · exact allLt_mem x.2 p h
def h3Map (c : Int) (tc : Nat) (x : Str) (tx : Nat) : Str → Option Value := fun y => if y = ("text" : Str) then some (.str x tx) else if y = ("code" : Str) then some (.int c tc) else none
theorem init_spec {e t : Addr} {c : Int} {x : Str} {tc tx : Nat} (hx : x.length ≤ 100) (hc0 : 0 ≤ c) (hc1 : c ≤ 300) (het : @Ne Nat t e) (her : ∀ p ∈ rest, p.1 ≠ e) :
    Does w mean mg mb 28 1 [.ref e, .int c tc, .str x tx] ((e, exo t none) :: (t, tupo [.int c tc, .str x tx]) :: rest)
      (fun v news => v = .none ∧ ∃ d t' od, NsOb od (h3Map c tc x tx) ∧ d ≠ e ∧ (∀ p ∈ rest, p.1 ≠ d) ∧ news = (d, od) :: (e, exo t' (some d)) :: rest) := by
  unfold Does
  k_fill
  intro dp un gd cn cs a ccd cl outer A₀ base h₀ L m s Q E B F X N T hk hdp hu hret
  refine wpAny_call ?_
  k_dflt cell_enter
  k_steps
  rename_i kF kN _ _
  refine hret _ ((d9, od8) :: (e, exo t9 (some d9)) :: rest) _ _ ⟨rfl, d9, t9, od8, o8, Nat.ne_of_gt l29.2.1, fun p hp => Nat.ne_of_lt (allLt_mem l29.2.2.2 p hp), rfl⟩ kF ?_
  intro p hp
  refine kN p ?_
  simp only [List.mem_cons] at hp ⊢
  rcases hp with rfl | rfl | hp
  · exact .inl rfl
  · exact .inr (.inr (.inl rfl))
  · exact .inr (.inr (.inr (.inr hp)))
theorem new_h3 {dp un : Nat} {gd : Option (List Code)} {cn : Str} {cs : Scope} {a : Addr} {ccd : Value} {cl : List (Str × Addr)} {outer : List Env} {A₀ : Around} {base h₀ : Heap} {L : Addr} {m : Str → Option Value} {s : Shared} {Q E : Value → Shared → Prop}
    {c : Int} {x : Str} {tc tx : Nat} (B : Below A₀ base outer h₀) (F : Fr h₀ L s.heap m) (X : (hd.heap_39 w.params).In h₀) (N : News h₀ L s.heap rest) (T : Top hd.view_39 (looseW hd.view_39 []) mean mg mb h₀) (hk : cs.kind = .function)
    (hx : x.length ≤ 100) (hc0 : 0 ≤ c) (hc1 : c ≤ 300) (hdp : dp + 3 < recursionLimit) (hu : un + 120 < cLine)
    (h : ∀ e d t od h' tk', NsOb od (h3Map c tc x tx) → Fr h₀ L h' m → News h₀ L h' ((d, od) :: (e, exo t (some d)) :: rest) → d ≠ e → (∀ p ∈ rest, p.1 ≠ e) → (∀ p ∈ rest, p.1 ≠ d) → Q (.ref e) { s with heap := h', toks := tk' }) :
    wpAny (model PySem.Challenge.rw_nz0351_01.row.prog w) (ktrTop dp un gd cn cs L a ccd cl outer) (call (.ref 31) [.int c tc, .str x tx]) Q E s := by
  have H := h3_at X
  obtain ⟨nm, q, bs, sn, sub, ab, col, dd, k0, k1, k2, k3, k5, mN, hC0, hN0, hi, _, _, _, _, _, oI, hI, hIc⟩ := H
  obtain ⟨hh, g, dr, tk, os⟩ := s
  refine wpAny_call_exc_init PySem.F.excBase_Exception (F.keep _ _ hC0) (hN0.keeps F.keep) hi (F.keep _ _ hI) hIc (fun h' e hm => ?_) (by rw [sizeLine_eq]; simp)
  obtain ⟨t, he, ht0, ht⟩ := hm.there
  have fresh : ∀ b, hh.get? b = none → h₀.get? b = none := fun b hb => by
    cases q : h₀.get? b with
    | none => rfl
    | some o => rw [F.keep _ _ q] at hb; cases hb
  have offL : ∀ b, hh.get? b = none → b ≠ L := fun b hb q => by
    obtain ⟨oL, _, _, hL, _⟩ := F.ns
    rw [q, hL] at hb; cases hb
  have off : ∀ b, hh.get? b = none → ∀ p ∈ rest, p.1 ≠ b := fun b hb p hp q => by
    have := (N p hp).1
    dsimp only at this
    rw [q, hb] at this; cases this
  have hte : @Ne Nat t e := fun q => by rw [q] at ht; rw [he] at ht; cases ht
  have F' : Fr h₀ L h' m := F.keeps hm.keeps
  have N' : News h₀ L h' ((e, exo t none) :: (t, tupo [.int c tc, .str x tx]) :: rest) := fun p hp => by
    simp only [List.mem_cons] at hp
    rcases hp with rfl | rfl | hp
    · exact ⟨he, offL _ hm.new, fresh _ hm.new⟩
    · exact ⟨ht, offL _ ht0, fresh _ ht0⟩
    · exact ⟨hm.keeps _ _ (N p hp).1, (N p hp).2⟩
  have S := init_spec (w := w) (mean := mean) (mg := mg) (mb := mb) hx hc0 hc1 hte (off e hm.new) (tc := tc) (tx := tx)
  refine S _ _ _ _ _ _ _ _ _ A₀ base h₀ L m _ _ _ B F' X N' T hk ?_ ?_ ?_
  · show dp + 1 + 1 < recursionLimit
    omega
  · show un + 1 + 8 * 1 + 80 < cLine
    omega
  rintro v news' h2 tk2 ⟨rfl, d, t', od, ho, hde, hrd, rfl⟩ F2 N2
  exact ⟨rfl, h e d t' od h2 tk2 ho F2 N2 hde (off e hm.new) hrd⟩

/-- the exception's object: args t, dict d, trace tb -/
abbrev exT (t d : Addr) (tb : Value) : Obj := { cls := .ref 31, dict := some d, data := .fields #[.ref t, tb, .none, .none, .bool false, .none] }
def Thr (h B : Heap) (e t d : Addr) (fl : Value) : Prop :=
  ∃ T oT ts, h.get? e = some (exT t d (.ref T)) ∧ B.get? T = none ∧ T ≠ e ∧ h.get? T = some oT ∧ oT.data = .fields ts ∧ ts[3]? = some fl
/-- under way: what lies below stays, the frames l are there, and the exception stands -/
structure Way (B : Heap) (l : List Env) (e t d : Addr) (fl : Value) (h : Heap) : Prop where
  stays : B.StaysIn h
  new : B.get? e = none
  frames : h.FunFrames B l
  thr : Thr h B e t d fl
section
variable {M : Model} {A : Around} {E : Value → Shared → Prop} {s : Shared} {B : Heap} {env : Env} {outer l : List Env} {L e t d : Addr} {tb fl : Value}
theorem ex_norec {h : Heap} {b : Addr} {o : Obj} (he : h.get? e = some (exT t d tb)) (hb : h.get? b = some o) (hn : ∀ vs, o.data ≠ .fields vs) : b ≠ e := fun q => by
  rw [q, he] at hb; cases hb; exact hn _ rfl
theorem note_core {head : Value} {hadNext : Bool} {Q : Unit → Shared → Prop} (hfr : A.frames = some (env :: outer)) (hl : s.heap.FunFrames B (env :: outer)) (hf : env.frame = some L)
    (he : s.heap.get? e = some (exT t d tb)) (kb : B.StaysIn s.heap) (hen : B.get? e = none)
    (h : ∀ h', Way B (env :: outer) e t d (rawInt L) h' → s.heap.UpToSlots h' → Q () { s with heap := h' }) :
    wpAny M A (do let a ← frameOf env; let pl ← entryPlaceOf L hadNext; let b ← EntryCells.newEntry head a .none (rawInt L) .none pl; setField (.ref e) 1 b) Q E s := by
  have hne : e ∉ (env :: outer).filterMap (·.frame) := fun hm => by
    obtain ⟨_, o, ho, hnf⟩ := hl.mem hm
    exact ex_norec he ho hnf rfl
  refine wpAny_bind (wpAny_frameOf_fun hfr hl hf fun h₁ hs => ?_)
  refine wpAny_bind (wpAny_entryPlaceOf fun pl hpl => ?_)
  unfold EntryCells.newEntry newFields
  refine wpAny_bind (wpAny_newObj_type ?_ (hpl.sizeOk5 _ _ _ _ _))
  generalize hO : ({ cls := .type "traceback", dict := none, data := .fields ([head, .ref L, .none, rawInt L, .none] ++ (if pl.isEmpty then List.replicate 6 Value.none else pl)).toArray } : Obj) = O
  have he₁ : h₁.get? e = some (exT t d tb) := (hs.2.1 e hne).trans he
  have kb₁ : B.StaysIn h₁ := fun b o q => (hs.2.1 b fun hm => by rw [(hl.mem hm).1] at q; cases q).trans (kb b o q)
  have he₂ : (h₁.push O).get? e = some (exT t d tb) := Heap.get?_push_of_some _ he₁
  have hTe : h₁.objs.size ≠ e := Nat.ne_of_gt (Heap.lt_size he₁)
  have hOf : O.isFreed = false := by rw [← hO]; rfl
  refine wpAny_setField he₂ rfl (by simp) (h _ ?_ ?_)
  · have keep : ∀ b o, b ≠ e → h₁.get? b = some o → ((h₁.push O).update e (Obj.mapFields (·.setIfInBounds 1 (.ref h₁.objs.size)))).get? b = some o := fun b o hbe hb => by
      rw [Heap.get?_update_other _ _ (Ne.symm hbe)]
      exact Heap.get?_push_of_some _ hb
    refine ⟨fun b o q => keep b o (fun z => by rw [z, hen] at q; cases q) (kb₁ b o q), hen, hl.of_keeps fun b o hb hn => ?_, ?_⟩
    · obtain ⟨sl, hq⟩ := hs.2.2 b o hb
      exact ⟨_, keep b _ (ex_norec he hb hn) hq, rfl⟩
    · refine ⟨h₁.objs.size, O, _, Heap.get?_update_self _ he₂ rfl, kb₁.fresh, hTe, ?_, by rw [← hO], ?_⟩
      · rw [Heap.get?_update_other _ _ (Ne.symm hTe)]
        exact Heap.get?_push_size h₁ hOf
      · simp
  · intro b o hb hn
    obtain ⟨sl, hq⟩ := hs.2.2 b o hb
    refine ⟨sl, ?_⟩
    rw [Heap.get?_update_other _ _ (Ne.symm (ex_norec he hb hn))]
    exact Heap.get?_push_of_some _ hq
theorem set_flight {Q : Unit → Shared → Prop} (W : Way B l e t d fl s.heap) (h : ∀ h', Way B l e t d .none h' → s.heap.UpToSlots h' → Q () { s with heap := h' }) : wpAny M A (setFlight (.ref e) none) Q E s := by
  obtain ⟨k1, k2, k3, T, oT, ts, he, hT0, hTe, hT, hd, h3⟩ := W
  have hsz : 3 < ts.size := (Array.getElem?_eq_some_iff.mp h3).1
  have other : ∀ b, b ≠ T → (s.heap.update T (Obj.mapFields (·.setIfInBounds 3 ((none : Option Addr).elim Value.none fun f => rawInt f)))).get? b = s.heap.get? b := fun b hb => Heap.get?_update_other _ _ (Ne.symm hb)
  have nr : ∀ b o, s.heap.get? b = some o → (∀ vs, o.data ≠ .fields vs) → b ≠ T := fun b o hb hn q => by rw [q, hT] at hb; cases hb; exact hn _ hd
  unfold setFlight
  refine wpAny_bind (wpAny_field he rfl (x := .ref T) rfl ?_)
  rw [if_pos (show (Value.ref T != Value.none) = true from by simp)]
  refine wpAny_setField hT hd hsz (h _ ⟨fun b o q => (other b fun z => by rw [z, hT0] at q; cases q).trans (k1 b o q), k2, k3.of_keeps fun b o hb hn => ⟨o, (other b (nr b o hb hn)).trans hb, rfl⟩, T, _, _, (other e (Ne.symm hTe)).trans he, hT0, hTe,
    Heap.get?_update_self _ hT (Obj.isFreed_of_fields (Obj.data_mapFields hd _)), Obj.data_mapFields hd _, by simp [hsz]⟩ fun b o hb hn => ⟨o.slots, (other b (nr b o hb hn)).trans hb⟩)
theorem note_first {Q : Unit → Shared → Prop} (hfr : A.frames = some (env :: outer)) (hl : s.heap.FunFrames B (env :: outer)) (hf : env.frame = some L)
    (he : s.heap.get? e = some (exT t d .none)) (kb : B.StaysIn s.heap) (hen : B.get? e = none)
    (h : ∀ h', Way B (env :: outer) e t d (rawInt L) h' → s.heap.UpToSlots h' → Q () { s with heap := h' }) : wpAny M A (noteFrame (.ref e) env) Q E s := by
  unfold noteFrame
  simp only [hf]
  refine wpAny_bind (wpAny_field he rfl (x := .none) rfl ?_)
  rw [if_neg (by decide)]
  exact note_core hfr hl hf he kb hen h
theorem note_next {Q : Unit → Shared → Prop} (hfr : A.frames = some (env :: outer)) (hf : env.frame = some L) (W : Way B (env :: outer) e t d .none s.heap)
    (h : ∀ h', Way B (env :: outer) e t d (rawInt L) h' → s.heap.UpToSlots h' → Q () { s with heap := h' }) : wpAny M A (noteFrame (.ref e) env) Q E s := by
  obtain ⟨k1, k2, k3, T, oT, ts, he, hT0, hTe, hT, hd, h3⟩ := W
  have other : ∀ b, b ≠ T → (s.heap.update T (Obj.mapFields (·.setIfInBounds 3 Value.none))).get? b = s.heap.get? b := fun b hb => Heap.get?_update_other _ _ (Ne.symm hb)
  have nr : ∀ b o, s.heap.get? b = some o → (∀ vs, o.data ≠ .fields vs) → b ≠ T := fun b o hb hn q => by rw [q, hT] at hb; cases hb; exact hn _ hd
  unfold noteFrame
  simp only [hf]
  refine wpAny_bind (wpAny_field he rfl (x := .ref T) rfl ?_)
  rw [if_pos (show (Value.ref T != Value.none) = true from by simp)]
  refine wpAny_bind (wpAny_field hT hd h3 ?_)
  rw [if_neg (show ¬ ((Value.none == rawInt L) = true) from by simp [rawInt])]
  refine wpAny_bind (wpAny_setField hT hd (Array.getElem?_eq_some_iff.mp h3).1 ?_)
  refine note_core hfr (k3.of_keeps fun b o hb hn => ⟨o, (other b (nr b o hb hn)).trans hb, rfl⟩) hf ((other e (Ne.symm hTe)).trans he) (fun b o q => (other b fun z => by rw [z, hT0] at q; cases q).trans (k1 b o q)) k2 fun h' W' U => h h' W' ?_
  exact fun b o hb hn => U b o ((other b (nr b o hb hn)).trans hb) hn
theorem note_again {Q : Unit → Shared → Prop} (hf : env.frame = some L) (W : Way B l e t d (rawInt L) s.heap) (h : Q () s) : wpAny M A (noteFrame (.ref e) env) Q E s := by
  obtain ⟨k1, k2, k3, T, oT, ts, he, hT0, hTe, hT, hd, h3⟩ := W
  unfold noteFrame
  simp only [hf]
  refine wpAny_bind (wpAny_field he rfl (x := .ref T) rfl ?_)
  rw [if_pos (show (Value.ref T != Value.none) = true from by simp)]
  refine wpAny_bind (wpAny_field hT hd h3 ?_)
  rw [if_pos (show (rawInt L == rawInt L) = true from by simp)]
  exact wpAny_pure h
theorem leave_first {Q : Unit → Shared → Prop} (hfr : A.frames = some (env :: outer)) (hl : s.heap.FunFrames B (env :: outer)) (hf : env.frame = some L)
    (he : s.heap.get? e = some (exT t d .none)) (kb : B.StaysIn s.heap) (hen : B.get? e = none)
    (h : ∀ h', Way B outer e t d .none h' → s.heap.UpToSlots h' → Q () { s with heap := h' }) : wpAny M A (leaving env (.ref e)) Q E s := by
  unfold leaving
  refine wpAny_bind (note_first hfr hl hf he kb hen fun h' W' U => set_flight W' fun h2 W2 U2 => ?_)
  exact h h2 ⟨W2.stays, W2.new, W2.frames.2.2, W2.thr⟩ (U.trans U2)
theorem leave_next {Q : Unit → Shared → Prop} (hfr : A.frames = some (env :: outer)) (hf : env.frame = some L) (W : Way B (env :: outer) e t d .none s.heap)
    (h : ∀ h', Way B outer e t d .none h' → s.heap.UpToSlots h' → Q () { s with heap := h' }) : wpAny M A (leaving env (.ref e)) Q E s := by
  unfold leaving
  refine wpAny_bind (note_next hfr hf W fun h' W' U => set_flight W' fun h2 W2 U2 => ?_)
  exact h h2 ⟨W2.stays, W2.new, W2.frames.2.2, W2.thr⟩ (U.trans U2)
end

section
variable {prog : Program} {w : World} {A : Around} {E : Value → Shared → Prop} {s : Shared} {h₀ : Heap} {L e t d : Addr} {tb v : Value} {m : Str → Option Value} {news : Led}
theorem get_code {expr : Bool} {od : Obj} {mA : Str → Option Value} {Q : Value → Shared → Prop} (H : H3At h₀) (F : Fr h₀ L s.heap m) (N : News h₀ L s.heap news) (h1 : (e, exT t d tb) ∈ news) (h2 : (d, od) ∈ news) (ho : NsOb od mA) (hv : mA "code" = some v) (hh : handedOut v = pure v)
    (h : Q v { s with toks := s.toks + 1 }) : wpAny (model prog w) A (getAttr (.ref e) "code" expr) Q E s := by
  obtain ⟨nm, q, bs, sn, sub, ab, col, dd, k0, k1, k2, k3, k5, mN, hC0, hN0, _, hns, hga, hgt, hc1, hc2, _⟩ := H
  have hC := F.keep _ _ hC0
  have hN := hN0.keeps F.keep
  have hx : s.heap.get? e = some (exT t d tb) := (N _ h1).1
  have hd := (ho.at (N _ h2).1).ns
  have FB := PySem.F.attrBase_Exception
  obtain ⟨hp, g, dr, tk, os⟩ := s
  dsimp only at hC hN hx hd h
  have key : ∀ {tk' : Tok} {A : Around} {Q : PySem.Fin → Shared → Prop} {E : Value → Shared → Prop} {u : Nat}, Q (.done (.ret v)) ⟨hp, g, dr, u, os⟩ → wpAny (model prog w) A (Builtin.«object.__getattribute__» ⟨[.ref e, .str "code" tk'], []⟩) Q E ⟨hp, g, dr, u, os⟩ := by
    intro tk' A Q E u hq
    repeat (any_goals (first | assumption | with_reducible refine wpAny_loadPart_at hx ?_ | with_reducible refine wpAny_loadPart_at hC ?_ | (with_reducible refine wpAny_typeLookup_exc hC hN FB.mro lk_code ?_; rw [hc1]) | (with_reducible refine wpAny_nsGet hd ?_; rw [hv]) | wp_step))
  have key2 : ∀ {tk' : Tok} {A : Around} {R : Result → Shared → Prop} {u : Nat}, R (.ok (.ret v)) ⟨hp, g, dr, u, os⟩ → codeAny (model prog w) A (.call (.builtin "BaseException.__getattribute__") ⟨[.ref e, .str "code" tk'], []⟩) R ⟨hp, g, dr, u, os⟩ := by
    intro tk' A R u hr
    exact codeAny_call_builtin FB.ga.plain PySem.F.entry_bexc_ga (wpAny_check_ga_own FB hC .base hx rfl (key hr))
  have f3 := FB.ga.bind (.ref e)
  have hx0 : (expr && onTheHeap (Value.builtin "BaseException.__getattribute__")) = false := by cases expr <;> rfl
  have hx2 : (Value.builtin "BaseException.__getattribute__" == Value.builtin "object.__getattribute__") = false := by decide +kernel
  have hx1 : (onTheHeap (Value.ref 31) && Value.builtin "BaseException.__getattribute__" == Value.builtin "object.__getattribute__") = false := by rw [hx2]; rfl
  unfold getAttr
  repeat (any_goals (first | assumption | with_reducible refine key2 ?_ | with_reducible refine wpAny_loadPart_at hx ?_ | (with_reducible refine wpAny_typeLookup_exc hC hN FB.mro FB.ga.lookup ?_; rw [hga]) | (with_reducible refine wpAny_typeLookup_exc hC hN FB.mro FB.noGetattr ?_; rw [hgt]) | wp_step))
  refine key2 ?_
  show wpAny _ _ (handedOut v) _ _ _
  rw [hh]
  exact wpAny_pure h
end

/-- the exception e with the code c flies through the frames l; below: base; the ledger news stands, and G's objects but the frames -/
inductive Fly (base G : Heap) (l : List Env) (e : Addr) (c : Int) (news : Led) (h : Heap) : Prop
  | mk : ∀ B t d od tc x tx, base.StaysIn B → (∀ b o, G.get? b = some o → b ∉ l.filterMap (·.frame) → B.get? b = some o) → (∀ q ∈ news, B.get? q.1 = some q.2 ∧ G.get? q.1 = none ∧ base.get? q.1 = none) →
    (B.get? d = some od ∧ G.get? d = none ∧ base.get? d = none) → NsOb od (h3Map c tc x tx) → Way B l e t d .none h → Fly base G l e c news h
theorem Fly.mono {base G : Heap} {l : List Env} {e : Addr} {c : Int} {news news' : Led} {h : Heap} (R : Fly base G l e c news h) (hs : ∀ p ∈ news', p ∈ news) : Fly base G l e c news' h := by
  obtain ⟨B, t, d, od, tc, x, tx, h1, h2, h3, r1, r2, r3⟩ := R
  exact ⟨B, t, d, od, tc, x, tx, h1, h2, fun q hq => h3 q (hs q hq), r1, r2, r3⟩
section
variable {M : Model} {A : Around} {E : Value → Shared → Prop} {s' : Shared} {base g g₂ h : Heap} {outer : List Env} {L a e t d : Addr} {od : Obj} {m : Str → Option Value} {name : Str} {scope : Scope} {cd : Value} {Q : Unit → Shared → Prop} {news : Led} {c : Int} {tc tx : Nat} {x : Str}
theorem leave_raiseF (K : Below A base outer g) (F : Fr g L s'.heap m) (N : News g L s'.heap ((d, od) :: (e, exo t (some d)) :: news)) (ho : NsOb od (h3Map c tc x tx)) (hde : d ≠ e) (hne : ∀ p ∈ news, p.1 ≠ e)
    (hQ : ∀ h', Fly base g outer e c news h' → g.UpToSlots h' → Q () { s' with heap := h' }) (hk : scope.kind = .function := by rfl) :
    wpAny M (A.deeper (envOf name scope L a cd)) (leaving (envOf name scope L a cd) (.ref e)) Q E s' := by
  have K' := K.push (name := name) (a := a) (cd := cd) F hk
  have ze := N (e, exo t (some d)) (.tail _ (.head _))
  have zd := N (d, od) (.head _)
  have be : base.get? e = none := fresh_of_stays K.stays ze.2.2
  let fs := (envOf name scope L a cd :: outer).filterMap (·.frame)
  have offF : ∀ q, g.get? q = none → q ≠ L → q ∉ fs := fun q hq hL hm => by
    rcases kts_mem hm with z | z
    · exact hL z
    · obtain ⟨o, ho, _⟩ := (K.frames.mem z).2
      rw [hq] at ho; cases ho
  have st : base.StaysIn (hideAll s'.heap (e :: fs)) := fun b o q => hideAll_get _ (K'.stays b o q) fun hm => by
    rcases List.mem_cons.mp hm with z | z
    · rw [z, be] at q; cases q
    · rw [(K'.frames.mem z).1] at q; cases q
  have sg : ∀ b o, g.get? b = some o → b ∉ outer.filterMap (·.frame) → (hideAll s'.heap (e :: fs)).get? b = some o := fun b o q nm => hideAll_get _ (F.keep b o q) fun hm => by
    rcases List.mem_cons.mp hm with z | z
    · have := ze.2.2; dsimp only at this; rw [z, this] at q; cases q
    · rcases kts_mem z with z | z
      · rw [z, kts_self F] at q; cases q
      · exact nm z
  have hl : ∀ q ∈ news, (hideAll s'.heap (e :: fs)).get? q.1 = some q.2 ∧ g.get? q.1 = none ∧ base.get? q.1 = none := fun q hq => by
    have z := N q (.tail _ (.tail _ hq))
    refine ⟨hideAll_get _ z.1 fun hm => ?_, z.2.2, fresh_of_stays K.stays z.2.2⟩
    rcases List.mem_cons.mp hm with y | y
    · exact hne q hq y
    · exact offF _ z.2.2 z.2.1 y
  have hd : (hideAll s'.heap (e :: fs)).get? d = some od ∧ g.get? d = none ∧ base.get? d = none := by
    refine ⟨hideAll_get _ zd.1 fun hm => ?_, zd.2.2, fresh_of_stays K.stays zd.2.2⟩
    rcases List.mem_cons.mp hm with y | y
    · exact hde y
    · exact offF _ zd.2.2 zd.2.1 y
  refine leave_first (B := hideAll s'.heap (e :: fs)) (t := t) (d := d) K'.stack (funFrames_hide K'.frames fun env he b hb => .tail _ (List.mem_filterMap.mpr ⟨env, he, hb⟩)) rfl ze.1 (fun b o q => of_hideAll _ q) (hideAll_none _ (.head _)) fun h' W U => ?_
  exact hQ h' ⟨_, t, d, od, tc, x, tx, st, sg, hl, hd, ho, W⟩ ((Heap.UpToSlots.of_keeps F.keep).trans U)
theorem leave_onF (K : Below A base outer g) (F : Fr g L g₂ m) (R : Fly base g₂ (envOf name scope L a cd :: outer) e c news s'.heap) (hsm : g₂.UpToSlots s'.heap)
    (hQ : ∀ h', Fly base g outer e c news h' → g.UpToSlots h' → Q () { s' with heap := h' }) :
    wpAny M (A.deeper (envOf name scope L a cd)) (leaving (envOf name scope L a cd) (.ref e)) Q E s' := by
  obtain ⟨B, t, d, od, tc, x, tx, hB, hBG, hl, hd, ho, W⟩ := R
  refine leave_next (Around.frames_deeper K.stack) rfl W fun h' W' U => hQ h' ⟨B, t, d, od, tc, x, tx, hB, fun b o q nm => hBG b o (F.keep b o q) (fun hm => ?_), fun q hq => ⟨(hl q hq).1, kts_none F.keep (hl q hq).2.1, (hl q hq).2.2⟩,
    ⟨hd.1, kts_none F.keep hd.2.1, hd.2.2⟩, ho, W'⟩ ((Heap.UpToSlots.of_keeps F.keep).trans (hsm.trans U))
  rcases kts_mem hm with z | z
  · rw [z, kts_self F] at q; cases q
  · exact nm z
end
section
variable {M : Model} {A : Around} {E : Value → Shared → Prop} {s : Shared} {env : Env} {h₀ : Heap} {L : Addr} {m : Str → Option Value}
theorem raise_any {x : Expr} {pos : Pos} {Q : Flow → Shared → Prop} (hh : A.handled = none) (H : H3At h₀)
    (h : wpAny M A (eval x env) (fun v s₁ => ∃ e t d, v = .ref e ∧ (∀ b o, h₀.get? b = some o → s₁.heap.get? b = some o) ∧ s₁.heap.get? e = some (exT t d .none) ∧ E (.ref e) s₁) E s) :
    wpAny M A (exec (.Raise (some x) none pos) env) Q E s := by
  obtain ⟨nm, q, bs, sn, sub, ab, col, dd, k0, k1, k2, k3, k5, mN, hC0, _⟩ := H
  have hcB : ([Value.ref 31, .type "Exception", .type "BaseException", .type "object"] : List Value).contains (.type "BaseException") = true := by decide
  rw [arm_exec_Raise]
  refine wpAny_bind (wpAny_standAt ?_)
  show wpAny M A (raiseStmt env (some (do let v ← eval x env; standAt pos; pure v)) none) Q E s
  unfold raiseStmt
  refine wpAny_bind (wpAny_bind (wpAny_mono h (fun v s₁ h₁ => ?_) fun _ _ x => x))
  obtain ⟨e, t, d, rfl, keep, he, hE⟩ := h₁
  have hC := keep _ _ hC0
  obtain ⟨hp, g, dr, tk, os⟩ := s₁
  refine wpAny_bind (wpAny_standAt (wpAny_pure ?_))
  repeat (first | with_reducible refine wpAny_loadPart_at he ?_ | with_reducible refine wpAny_loadPart_at hC ?_ | (with_reducible refine wpAny_isSubtype_exc hC ?_; rw [hcB]) | wp_step)
  exact wpAny_raiseNew_none hh hE
end

section
variable {w : World} {A₀ : Around} {E : Value → Shared → Prop} {s' : Shared} {base g g₀ G : Heap} {outer : List Env} {L a e : Addr} {m : Str → Option Value} {name : Str} {scope : Scope} {cd : Value} {c : Int}
  {n : Str} {b₀ : Stmt} {suite : List Stmt} {pos np : Pos} {rest : List ExceptHandler} {Q : Flow → Shared → Prop} {news : Led} {mean : ExcName → Option Value} {mg mb : Str → Option Value}
theorem caught_F (R : Fly base G (envOf name scope L a cd :: outer) e c news s'.heap) (F : Fr g L G m) (K : Below A₀ base outer g) (hsm : G.UpToSlots s'.heap) (XB : (hd.heap_39 w.params).In base) (TB : Top hd.view_39 (looseW hd.view_39 []) mean mg mb base)
    (D : KtsDicts (outer.filterMap (·.frame)) g) (T0 : KtsTurn (outer.filterMap (·.frame)) g₀ g)
    (ex : nsIn (hd.heap_39 w.params) mainGlobals "H3Error" = some (some (.ref 31)))
    (k : ∀ h' g' d od tc x tx t T tk, KtsTurn (outer.filterMap (·.frame)) g₀ g' → Fr g' L h' (fun y => if y = n then some (.ref e) else m y) → NsOb od (h3Map c tc x tx) → News g' L h' ((d, od) :: (e, exT t d (.ref T)) :: news) → Below A₀ base outer g' → (hd.heap_39 w.params).In g' → Top hd.view_39 (looseW hd.view_39 []) mean mg mb g' → KtsDicts (outer.filterMap (·.frame)) g' →
      wpAny (model PySem.Challenge.rw_nz0351_01.row.prog w) ((A₀.deeper (envOf name scope L a cd)).mark (some (.ref e))) (execs (b₀ :: suite) (envOf name scope L a cd))
        (fun f s₄ => wpAny (model PySem.Challenge.rw_nz0351_01.row.prog w) (A₀.deeper (envOf name scope L a cd)) (do bindName (envOf name scope L a cd) n .none; unbindBehindTheSuite (envOf name scope L a cd) n pos) (fun _ s₅ => Q f s₅) E s₄)
        (AsSuiteRaised (model PySem.Challenge.rw_nz0351_01.row.prog w) ((A₀.deeper (envOf name scope L a cd)).mark (some (.ref e))) (envOf name scope L a cd) n pos (notedBy (model PySem.Challenge.rw_nz0351_01.row.prog w) ((A₀.deeper (envOf name scope L a cd)).mark (some (.ref e))) (envOf name scope L a cd) (cameBackBy (model PySem.Challenge.rw_nz0351_01.row.prog w) (A₀.deeper (envOf name scope L a cd)) (envOf name scope L a cd) E)))
        { s' with heap := h', toks := tk })
    (hk : scope.kind = .function := by rfl) (hlo : (envOf name scope L a cd).kindOf n = some .local := by rfl) (hx : (envOf name scope L a cd).kindOf "H3Error" = some .globalImplicit := by rfl) :
    wpAny (model PySem.Challenge.rw_nz0351_01.row.prog w) (A₀.deeper (envOf name scope L a cd)) (noteFrame (.ref e) (envOf name scope L a cd))
      (fun _ s₂ => wpAny (model PySem.Challenge.rw_nz0351_01.row.prog w) (A₀.deeper (envOf name scope L a cd)) (setFlight (.ref e) none) (fun _ s₃ =>
        wpAny (model PySem.Challenge.rw_nz0351_01.row.prog w) (A₀.deeper (envOf name scope L a cd)) (handleBy (.ref e) (envOf name scope L a cd) (.ExceptHandler (some (.Name "H3Error" np)) (some n) (b₀ :: suite) pos :: rest)) Q E s₃) E s₂) E s' := by
  obtain ⟨B, t, d, od, tc, x, tx, hB, hBG, hl, hd', ho, W⟩ := R
  have hL : B.get? L = none := by
    obtain ⟨_, ⟨L', _, hf, hn', _⟩, _⟩ := W.frames
    obtain rfl : L = L' := Option.some.inj hf
    exact hn'
  refine note_next (Around.frames_deeper K.stack) rfl W fun h₄ W₄ hsm₄ => ?_
  refine set_flight W₄ fun h₅ W₅ hsm₅' => ?_
  have hsm₅ := hsm₄.trans hsm₅'
  obtain ⟨g₅, T₅, F₅, K₅⟩ := kts_ground K F hBG W₅.stays (hsm.trans hsm₅)
  have X₅ := XB.keeps K₅.stays
  have P₅ : TopRead hd.view_39 (looseW hd.view_39 []) mg mb g₅ := topRead_of (TB.keeps K₅.stays)
  have H₅ := h3_at X₅
  obtain ⟨nm, q, bs, sn, sub, ab, col, dd, k0, k1, k2, k3, k5, mN, hC0⟩ := H₅
  have hC₅ := F₅.keep _ _ hC0
  have he₅ : ∃ ob, h₅.get? e = some ob ∧ ob.cls = .ref 31 := by
    obtain ⟨T, _, _, q, _⟩ := W₅.thr
    exact ⟨_, q, rfl⟩
  obtain ⟨ob, hob, hobc⟩ := he₅
  refine wpAny_handleBy_cons (codeAny_handlers_test (name_K F₅ X₅ P₅ ex ?_ hk hx (by decide))) (by intro q; cases q)
  refine wpAny_excMatches_sub_self hC₅ hob hobc (by decide) (codeAny_handlers_suite_as ?_)
  refine set_flight W₅ fun h₆ W₆ hsm₆ => ?_
  obtain ⟨g₆, T₆, F₆, K₆⟩ := kts_ground K F hBG W₆.stays ((hsm.trans hsm₅).trans hsm₆)
  obtain ⟨T, oT, ts, he₆, _⟩ := W₆.thr
  have ne₆ : g₆.get? e = none := T₆.none_ _ (kts_fresh F hBG W₆.new fun o ho m => by
    obtain ⟨_, o', ho', hdn⟩ := K.frames.mem m
    rw [ho] at ho'
    cases ho'
    obtain ⟨sl, hs⟩ := ((hsm.trans hsm₅).trans hsm₆) _ _ (F.keep _ _ ho) hdn
    rw [he₆] at hs
    have q := congrArg Obj.data (Option.some.inj hs)
    exact hdn _ q.symm)
  have offL : ∀ b o, B.get? b = some o → b ≠ L := fun b o q z => by rw [z, hL] at q; cases q
  have N₆ : News g₆ L h₆ ((d, od) :: (e, exT t d (.ref T)) :: news) := fun p hp => by
    simp only [List.mem_cons] at hp
    rcases hp with rfl | rfl | hp
    · exact ⟨W₆.stays _ _ hd'.1, offL _ _ hd'.1, T₆.none_ _ (kts_none F.keep hd'.2.1)⟩
    · refine ⟨he₆, fun z => ?_, ne₆⟩
      have z' : e = L := z
      obtain ⟨oL, es, ep, hLo, hLd, _⟩ := F₆.ns
      rw [← z', he₆] at hLo
      cases hLo; cases hLd
    · exact ⟨W₆.stays _ _ (hl p hp).1, offL _ _ (hl p hp).1, T₆.none_ _ (kts_none F.keep (hl p hp).2.1)⟩
  have X₆ := XB.keeps K₆.stays
  have P₆ := TB.keeps K₆.stays
  have D₆ := D.turn T₆
  refine stN F₆ N₆ (fun h₇ F₇ N₇ => ?_) hk hlo
  exact k h₇ g₆ d od tc x tx t T _ (T0.trans T₆) F₇ ho N₇ K₆ X₆ P₆ D₆
end

/-- as Does, of a def that may also raise the program's exception with a code of X -/
def DoesX (w : World) (mean : ExcName → Option Value) (mg mb : Str → Option Value) (f : Addr) (k : Nat) (args : List Value) (news : Led) (Post : Value → Led → Prop) (X : Int → Prop) : Prop :=
  ∀ (dp un : Nat) (gd : Option (List Code)) (cn : Str) (cs : Scope) (a : Addr) (ccd : Value) (cl : List (Str × Addr)) (outer : List Env) (A₀ : Around) (base h₀ : Heap) (L : Addr) (m : Str → Option Value) (s : Shared) (Q E : Value → Shared → Prop),
    Below A₀ base outer h₀ → Fr h₀ L s.heap m → (hd.heap_39 w.params).In h₀ → News h₀ L s.heap news → Top hd.view_39 (looseW hd.view_39 []) mean mg mb h₀ → cs.kind = .function →
    dp + k < recursionLimit → un + 8 * k + 80 < cLine →
    (∀ v news' h' tk', Post v news' → Fr h₀ L h' m → News h₀ L h' news' → Q v { s with heap := h', toks := tk' }) →
    (∀ e c g h' tk', X c → Fr h₀ L g m → Fly base g (envX cn cs L a ccd cl :: outer) e c news h' → g.UpToSlots h' → E (.ref e) { s with heap := h', toks := tk' }) →
    wpAny (model PySem.Challenge.rw_nz0351_01.row.prog w) (ktrTop dp un gd cn cs L a ccd cl outer) (call (.ref f) args) Q E s
example : True := by (k_with "k9all" => assumption); trivial
example : True := by (k_with "exec Raise some none" => (k_here; k_dflt (refine' raise_any ?zzh (h3_at (by k_asm)) ?_; (case zzh => rfl)))); trivial
example : True := by (k_with "call ref" => (k_here; (with_reducible show wpAny _ _ (call (Value.ref 31) _) _ _ _); k_dflt (refine' new_h3 ?zzB ?zzF ?zzX ?zzN ?zzT ?zzhk ?zzx ?zzc0 ?zzc1 ?zzd ?zzu ?_; (case zzB => k_asm); (case zzF => k_asm); (case zzX => k_asm); (case zzN => k_asm); (case zzT => k_asm); (case zzhk => rfl); (case zzx => first | assumption | decide +kernel); (case zzc0 => decide); (case zzc1 => decide); (case zzd => ktr_room); (case zzu => ktr_units)); intro xE xD xT xO h' tk' xo F' N' xde xne xnd; (try k_sweep))); trivial
example : True := by (k_with "Exists" => ((with_reducible show ∃ e t d, _ = Value.ref e ∧ _); refine ⟨_, _, _, rfl, Fr.keep (by k_asm), (News.get (by k_asm) (.tail _ (.head _))), ?_⟩)); trivial
example : True := by (k_with "leaving ref" => (k_here; (refine' leave_raiseF ?zzK ?zzF ?zzN ?zzo ?zzd ?zzn ?_; (case zzK => assumption); (case zzF => assumption); (case zzN => assumption); (case zzo => assumption); (case zzd => assumption); (case zzn => assumption); k_whole; intro h' R' U'; (try dsimp only at R' U' ⊢)))); trivial
variable {w : World} {mean : ExcName → Option Value} {mg mb : Str → Option Value} {rest : Led}
theorem malformed_spec {x : Str} {tx : Nat} (hx : x.length ≤ 100) : DoesX w mean mg mb 156 6 [.str x tx] rest (fun _ _ => False) (fun c => c = 270) := by
  unfold DoesX
  k_fill
  intro dp un gd cn cs a ccd cl outer A₀ base h₀ L m s Q E B F X N T hk hdp hu hret hexc
  refine wpAny_call ?_
  k_dflt cell_enter
  k_steps
  exact hexc _ _ _ _ _ rfl (by assumption) (by assumption) (by assumption)

theorem gives_bytes_contains (b : Array UInt8) (i : Int) (t u : Tok) (h0 : 0 ≤ i) (h1 : i < 256) : Gives (Builtin.«bytes.__contains__» ⟨[.bytes b t, .int i u], []⟩) (.val (.bool (b.contains i.toNat.toUInt8))) := by
  refine .of_wp fun M A E s Q hq => ?_
  show wpAny M A (Builtin.Bytes.containsIn "bytes.__contains__" (.bytes b t) (.int i u) >>= fun r => _) _ E s
  refine wpAny_bind ?_
  unfold Builtin.Bytes.containsIn
  refine wpAny_bind (wpAny_attempt ?_)
  refine wpAny_of_eq (a := i) rfl ?_
  refine wpAny_bind (wpAny_of_eq (a := some b) PySem.W.KBy.buffer_eq ?_)
  have hc : (decide (i < 0) || decide (i ≥ 256)) = false := by
    rw [Bool.or_eq_false_iff]; exact ⟨decide_eq_false (by omega), decide_eq_false (by omega)⟩
  show wpAny M A (if (decide (i < 0) || decide (i ≥ 256)) = true then _ else pure (b.contains i.toNat.toUInt8)) _ E s
  rw [hc]
  exact wpAny_pure (wpAny_pure ⟨_, rfl, hq⟩)
section
variable {prog : Program} {w : World} {A : Around} {E : Value → Shared → Prop} {s : Shared} {h₀ : Heap} {L : Addr} {m : Str → Option Value} {env : Env}
theorem in_bytes {b : Array UInt8} {i : Int} {t u : Tok} {Q : Value → Shared → Prop} (h0 : 0 ≤ i) (h1 : i < 256) (h : Q (.bool (b.contains i.toNat.toUInt8)) s) : wpAny (model prog w) A (compareOp .In (.int i u) (.bytes b t)) Q E s :=
  in_gives (typeIs_bytes s b t) FB.slot_bytes_contains FB.entry_bytes_contains (FB.args_bytes_contains_2 _ _) (gives_bytes_contains b i t u h0 h1) h
open LCg LCt
/-- the turns of a comprehension with a test over bytes -/
abbrev OctAt (b : Array UInt8) (i : Nat) (v : Value) : Prop := ∃ c u, b[i]? = some c ∧ v = .int (c.toNat : Int) u
def SrcB (prog : Program) (w : World) (A : Around) (h₀ : Heap) (L : Addr) (m : Str → Option Value) (env : Env) (ct elt : Expr) (x : Str) (scope : Scope) (cl : List (Str × Addr)) (Fin : Shared → List Value → Led → Prop) (xv : Value) (s₁ : Shared) : Prop :=
  ∃ b t news, xv = .bytes b t ∧ A.handled = none ∧ Fr h₀ L s₁.heap m ∧ News h₀ L s₁.heap news ∧ b.size ≤ sizeLine ∧
    ∀ s₂ : Shared, (∃ h, s₂ = { s₁ with heap := h }) → CompRestT prog w A h₀ L m env ct elt x scope cl s₂ (fun _ => True) (OctAt b) (Fin s₂) b.size 0 [] news
theorem ListComp_B {ct elt iter : Expr} {x : Str} {px : Pos} {scope : Scope} {cl : List (Str × Addr)} {pos : Pos} {Q : Value → Shared → Prop} (F₀ : Fr h₀ L s.heap m)
    (hclos : closureFor scope env = pure cl) (hcell : ∀ y ∈ scope.names, y.2 ≠ .cell) (hkind : scope.kind = .function)
    (hnames : ∀ y ∈ scope.names, y.2 = .local → scope.names.lookup y.1 = some .local) (hx : scope.names.lookup x = some .local)
    (h : wpAny (model prog w) A (eval iter env) (SrcB prog w A h₀ L m env ct elt x scope cl (fun s₂ => FinE h₀ L m s₂ Q)) E s)
    (hs : ∀ x, foldedSetIterable iter env x = pure x := by intro _; rfl) :
    wpAny (model prog w) A (eval (.ListComp elt [⟨.Name x px, iter, [ct], 0⟩] scope pos) env) Q E s := by
  rw [eval_ListComp]
  refine wpAny_comprehension_free (use := none) rfl hs hclos hkind hnames (wpAny_mono h (fun xv s₁ h₁ => ?_) fun _ _ e => e)
  obtain ⟨b, t, news, rfl, hh, F, N, hsz, R⟩ := h₁
  refine KBw.pyIter_bytes ?_
  refine block_T (S := fun _ => True) (KBw.walks hh s₁.heap.objs.size b t) hsz (fun i h st => ⟨_, st.choose_spec.1⟩) (fun i h h' o nw st e e' _ _ _ => ?_) hcell hkind hx ⟨_, Heap.get?_push_size _ rfl, rfl, rfl⟩ (fun b hb => ?_)
    (F.keeps fun _ _ e => Heap.get?_push_of_some _ e) (N.grown fun _ _ e => Heap.get?_push_of_some _ e) (Nat.ne_of_lt F.ns.lt) (next_is_new F) (fun p hp => Nat.ne_of_lt (Heap.lt_size (N p hp).1)) trivial (R _ ⟨_, rfl⟩) ?_
  · obtain ⟨o', q, r⟩ := st
    rw [e] at q; cases q
    exact ⟨o, e', r⟩
  · rw [List.mem_singleton.mp hb]
    show s₁.heap.objs.size < (s₁.heap.push _).objs.size
    rw [Heap.size_push]; exact Nat.lt_succ_self _
  · intro D C h' tk m' ys news' F' N' o1 hn hC₀ hD₀ hCL hDL hCD offC fin
    refine ⟨m', hn, fun h'' hs'' => fin D h'' tk (F'.change hs'' hCL hC₀) (fun p hp => ?_) o1⟩
    refine ⟨hs''.extBut _ _ ?_ (N' p hp).1, (N' p hp).2⟩
    rcases List.mem_cons.mp hp with rfl | hp
    · exact Ne.symm hCD
    · exact offC p hp
theorem SrcB.intro {ct elt : Expr} {x : Str} {scope : Scope} {cl : List (Str × Addr)} {Fin : Shared → List Value → Led → Prop} {b : Array UInt8} {t : Tok} {news : Led} {s₁ : Shared} (hh : A.handled = none) (F : Fr h₀ L s₁.heap m) (N : News h₀ L s₁.heap news) (hsz : b.size ≤ sizeLine)
    (h : ∀ g, CompRestT prog w A h₀ L m env ct elt x scope cl { s₁ with heap := g } (fun _ => True) (OctAt b) (Fin { s₁ with heap := g }) b.size 0 [] news) : SrcB prog w A h₀ L m env ct elt x scope cl Fin (.bytes b t) s₁ :=
  ⟨b, t, news, rfl, hh, F, N, hsz, fun _ ⟨g, e⟩ => e ▸ h g⟩
/-- no item passes the test: the list is empty -/
theorem rest_none {ct elt : Expr} {x : Str} {scope : Scope} {cl : List (Str × Addr)} {S : Led → Prop} {P : Nat → Value → Prop} {Fin : List Value → Led → Prop} {news : Led} (hS : S news) (hfin : Fin [] news)
    (step : ∀ i v I oI C oC D m₂ h tk (E' : Value → Shared → Prop), P i v → NsObj oC m₂ → m₂ x = some v → Fr h₀ L h m → News h₀ L h ((I, oI) :: (C, oC) :: (D, lst []) :: news) → Off3 I C D news → ((@Ne Nat I C) ∧ (@Ne Nat I D) ∧ (@Ne Nat C D)) →
      wpAny (model prog w) A (isTrue ct (compEnvC scope cl C env) (eval ct (compEnvC scope cl C env))) (fun ok s' => ok = false ∧ CompEnd h₀ L m { s with heap := h, toks := tk } I oI C oC D (lst []) S (fun _ news' => news' = news) Value.none s') E' { s with heap := h, toks := tk }) :
    ∀ k i, CompRestT prog w A h₀ L m env ct elt x scope cl s S P Fin k i [] news
  | 0, _ => .zero hfin
  | k + 1, i => by
    refine .succ fun v I oI C oC D m₂ h tk E' hP hC hx F N off ne => wpAny_mono (step i v I oI C oC D m₂ h tk E' hP hC hx F N off ne) (fun ok s' hq => ?_) fun _ _ e => e
    obtain ⟨rfl, h', tk', news', e1, e2, e3, e4, e5, rfl⟩ := hq
    rw [if_neg (by decide)]
    exact ⟨h', tk', news', e1, e2, e3, e4, e5, rest_none hS hfin step k (i + 1)⟩
end

inductive BytesAre : List Value → List (Array UInt8) → Prop
  | nil : BytesAre [] []
  | cons (y : Array UInt8) (t : Tok) {vs ys} : BytesAre vs ys → BytesAre (.bytes y t :: vs) (y :: ys)
section
variable {prog : Program} {w : World} {A : Around} {E : Value → Shared → Prop} {s : Shared}
theorem eqBool_bytes {x y : Array UInt8} {t u : Tok} {Q : Bool → Shared → Prop} (h : Q (x.toList == y.toList) s) : wpAny (model prog w) A (eqBool (.bytes x t) (.bytes y u)) Q E s := by
  unfold eqBool
  show wpAny _ _ (if (Value.bytes x t == Value.bytes y u) = true then _ else _) Q E s
  by_cases hab : (Value.bytes x t == Value.bytes y u) = true
  · rw [if_pos hab]
    have e : x = y := by have := eq_of_beq hab; injection this
    subst e
    exact wpAny_bind (wpAny_rule (wpAny_pure (by simpa using h)))
  · rw [if_neg hab]
    exact wpAny_bind (compareOp_gives (op := .Eq) (typeIs_bytes s x t) (typeIs_bytes s y u) FB.slot_bytes_eq FB.entry_bytes_eq (FB.args_bytes_eq_2 _ _) (gives_bytes_eq x y t u) (fun e => nomatch e) (wpAny_truthy_bool h))
theorem tuple_contains_bytes {t : Addr} {items : Array Value} {ys : List (Array UInt8)} {x : Array UInt8} {u : Tok} {P : PySem.Fin → Shared → Prop} (ht : IsTup s.heap t items) (hi : BytesAre items.toList ys)
    (h : P (.done (.ret (.bool (ys.any fun y => y.toList == x.toList)))) s) : wpAny (model prog w) A (Builtin.«tuple.__contains__» ⟨[.ref t, .bytes x u], []⟩) P E s := by
  show wpAny _ _ (Builtin.Tuple.tupleItemsOf (.ref t) >>= _) _ _ s
  refine wpAny_bind (tupleItemsOf_ ht ?_)
  refine wpAny_bind (forIn_array_ _ (fun rest b s' => b.1 = none ∧ s' = s ∧ ∃ ms, BytesAre rest ms ∧ P (.done (.ret (.bool (ms.any fun y => y.toList == x.toList)))) s) _ ?_ ?_ items _ ⟨rfl, rfl, ys, hi, h⟩)
  · rintro y rest b s' ⟨hb, rfl, ms, hm, hP⟩
    cases hm with
    | cons n tk hm' =>
      refine wpAny_bind (eqBool_bytes ?_)
      rw [List.any_cons] at hP
      cases hnx : (n.toList == x.toList) with
      | true =>
        rw [hnx] at hP
        exact wpAny_bind (wpAny_pure (wpAny_pure (wpAny_pure (by simpa using hP))))
      | false =>
        rw [hnx] at hP
        exact wpAny_pure ⟨rfl, rfl, _, hm', by simpa using hP⟩
  · rintro ⟨b1, b2⟩ s' ⟨hb, rfl, ms, hm, hP⟩
    cases hm
    simp only at hb
    subst hb
    exact wpAny_pure (by simpa using hP)
theorem contains_tuple_bytes {t : Addr} {items : Array Value} {ys : List (Array UInt8)} {x : Array UInt8} {u : Tok} {Q : Bool → Shared → Prop} (ht : IsTup s.heap t items) (hi : BytesAre items.toList ys)
    (h : Q (ys.any fun y => y.toList == x.toList) s) : wpAny (model prog w) A (contains (.ref t) (.bytes x u)) Q E s := by
  unfold contains
  refine wpAny_holding ?_
  refine wpAny_bind (wpAny_specialOf ht.typeIs slot_tuple_contains.lookup ?_)
  rw [if_neg (by decide)]
  exact wpAny_bind (wpAny_callSpecialUnlessNone?_slot (name := Str.ofString "__contains__") ht.typeIs slot_tuple_contains
    (wpAny_call_entry slot_tuple_contains ht.typeIs entry_tuple_contains (tuple_contains_bytes ht hi ⟨_, rfl, wpAny_truthy_bool h⟩) (args_tuple_contains _ _)))
theorem in_tuple_bytes {t : Addr} {items : Array Value} {ys : List (Array UInt8)} {x : Array UInt8} {u : Tok} {Q : Value → Shared → Prop} {r : Bool} (ht : IsTup s.heap t items) (hi : BytesAre items.toList ys) (e : (ys.any fun y => y.toList == x.toList) = r)
    (h : Q (.bool r) s) : wpAny (model prog w) A (compareOp .In (.bytes x u) (.ref t)) Q E s := by
  subst e
  show wpAny _ _ (do return .bool (← contains (.ref t) (.bytes x u))) Q E s
  exact wpAny_bind (contains_tuple_bytes ht hi (wpAny_pure h))
theorem notin_tuple_bytes {t : Addr} {items : Array Value} {ys : List (Array UInt8)} {x : Array UInt8} {u : Tok} {Q : Value → Shared → Prop} {r : Bool} (ht : IsTup s.heap t items) (hi : BytesAre items.toList ys) (e : (!(ys.any fun y => y.toList == x.toList)) = r)
    (h : Q (.bool r) s) : wpAny (model prog w) A (compareOp .NotIn (.bytes x u) (.ref t)) Q E s := by
  subst e
  show wpAny _ _ (do return .bool (!(← contains (.ref t) (.bytes x u)))) Q E s
  exact wpAny_bind (contains_tuple_bytes ht hi (wpAny_pure h))
end

theorem News.cut {h₀ : Heap} {L : Addr} {g : Heap} {a b : Led} (N : News h₀ L g a) (h : ∀ p ∈ b, p ∈ a) : News h₀ L g b := fun p hp => N p (h p hp)
example : True := by (k_with "compareOp NotEq ref ref" => (k_here; (with_reducible show wpAny _ _ (compareOp CmpOp.NotEq (Value.ref _) (Value.ref _)) _ _ _); k_dflt (refine' ke_ne_ints (News.isList ?zzN ?zzm) (News.isList ?zzN2 ?zzm2) ?zzi ?zzj ?zzu ?_; (case zzN => k_asm); (case zzm => k_mem); (case zzN2 => k_asm); (case zzm2 => k_mem); (case zzi => l_ints); (case zzj => l_ints); (case zzu => ktr_units)))); trivial
example : True := by (k_with "compareOp In int bytes" => (k_here; refine in_bytes (by decide) (by decide) ?_)); trivial
example : True := by (k_with "eval ListComp" => (k_here; (with_reducible show wpAny _ _ (eval (Expr.ListComp _ [PySem.Comprehension.mk _ (Expr.Name _ _) [_] _] _ _) _) _ _ _); lcg_calm; k_dflt (refine ListComp_B (F₀ := by k_asm) (by with_unfolding_all rfl) (by decide) (by rfl) (by decide) (by rfl) ?_); walk1; k_dflt (refine SrcB.intro (by rfl) (by k_asm) (by k_asm) (by first | assumption | exact Nat.le_of_ble_eq_true rfl) ?_); intro g')); trivial
example : True := by (k_with "subscriptTail" => (k_here; (with_reducible show wpAny _ _ (subscriptTail _ (Expr.Slice _ _ none _) (Value.bytes _ _) (Value.ref _)) _ _ _); (with_reducible rename Fr _ _ _ _ => F'); (with_reducible rename News _ _ _ _ => N'); (refine KBc.slice_K (s := ⟨_, _, _, _, _⟩) F' N' rfl (by constructor) (by constructor) (by rw [KBw.ints_length]; first | assumption | decide +kernel) ?_); intro _ _ _ _ _ _)); trivial
example : True := by (k_with "compareOp In bytes ref" => (k_here; refine in_tuple_bytes (r := false) (News.isTup (by k_asm) (by k_mem)) (by repeat (first | exact BytesAre.nil | apply BytesAre.cons)) (by assumption) ?_)); trivial
variable {w : World} {mean : ExcName → Option Value} {mg mb : Str → Option Value} {rest : Led}
theorem octet_spec {c : Int} {t : Nat} (hc : 97 ≤ c ∧ c ≤ 122) : Does w mean mg mb 163 1 [.int c t] rest (fun v news => v = .bool true ∧ news = rest) := by
  unfold Does
  k_fill
  intro dp un gd cn cs a ccd cl outer A₀ base h₀ L m s Q E B F X N T hk hdp hu hret
  refine wpAny_call ?_
  k_dflt cell_enter
  k_steps
  all_goals (refine hret _ _ _ _ ⟨?_, rfl⟩ (by assumption) (by assumption); first | rfl | (rw [decide_eq_true hc.2]))
theorem octet_dash {t : Nat} : Does w mean mg mb 163 1 [.int 45 t] rest (fun v news => v = .bool true ∧ news = rest) := by
  unfold Does
  k_fill
  intro dp un gd cn cs a ccd cl outer A₀ base h₀ L m s Q E B F X N T hk hdp hu hret
  refine wpAny_call ?_
  k_dflt cell_enter
  k_steps
  all_goals (refine hret _ _ _ _ ⟨?_, rfl⟩ (by assumption) (by assumption); first | rfl | decide +kernel)

def vals : List (Array UInt8) := [bts "200", bts "404", bts "204", bts "20x", bts "304", bts "103", bts "100", bts "101", bts "x", Array.replicate 30 97, bts "5", bts "3", bts "0", bts "1"]
def valsC : List (Array UInt8) := [#[50,48,48], #[52,48,52], #[50,48,52], #[50,48,120], #[51,48,52], #[49,48,51], #[49,48,48], #[49,48,49], #[120], #[97,97,97,97,97,97,97,97,97,97,97,97,97,97,97,97,97,97,97,97,97,97,97,97,97,97,97,97,97,97], #[53], #[51], #[48], #[49]]
theorem valsC_good : ∀ b ∈ valsC, b.size ≤ 30 ∧ (∀ c ∈ b.toList, (0 : Int) < c.toNat ∧ (c.toNat : Int) < 256 ∧ (c.toNat : Int) ≠ 10 ∧ (c.toNat : Int) ≠ 13) ∧ ([#[32], #[9]].any fun y => y.toList == (KBy.picked b none (some 1)).toList) = false ∧ ([#[32], #[9]].any fun y => y.toList == (KBy.picked b (some (-1)) none).toList) = false := by decide +kernel
theorem value_spec {b : Array UInt8} {t : Nat} (hv : b ∈ valsC) : Does w mean mg mb 173 1 [.bytes b t] rest (fun v news => v = .none ∧ news = rest) := by
  have hb := (valsC_good b hv).1
  have hz : b.size ≤ sizeLine := Nat.le_trans hb (by decide)
  have hA := (valsC_good b hv).2.2.1
  have hB := (valsC_good b hv).2.2.2
  have hgood : ∀ (i : Nat) (c : UInt8), b[i]? = some c → (0 : Int) < c.toNat ∧ (c.toNat : Int) < 256 ∧ (c.toNat : Int) ≠ 10 ∧ (c.toNat : Int) ≠ 13 := fun i c e => (valsC_good b hv).2.1 c (Array.mem_toList_iff.mpr (Array.mem_of_getElem? e))
  unfold Does
  k_fill
  intro dp un gd cn cs a ccd cl outer A₀ base h₀ L m s Q E B F X N T hk hdp hu hret
  refine wpAny_call ?_
  k_dflt cell_enter
  k_steps
  refine rest_none (S := fun _ => True) trivial ?fin ?step _ _
  case step =>
    intro i9 v9 I9 oI9 C9 oC9 D9 m9 h9 tk9 E9 hP9 hC9 hx9 F9 N9 off9 ne9
    obtain ⟨c9, u9, hb9, rfl⟩ := hP9
    have hg9 := hgood _ _ hb9
    k_steps
    · simp only [List.any_cons, List.any_nil, Bool.or_false, Bool.or_eq_false_iff, beq_eq_false_iff_ne]
      omega
    · exact LCg.CompEnd.intro (by assumption) (by assumption) rest (fun p hp => by simp only [List.mem_cons] at hp ⊢; exact .inr hp) (by assumption) trivial rfl
  k_steps
  all_goals exact hret _ _ _ _ ⟨rfl, rfl⟩ (by assumption) (News.cut (by assumption) (by intro p hp; repeat (first | exact hp | apply List.mem_cons_of_mem)))

theorem eq_bytesR {prog : Program} {w : World} {A : Around} {E : Value → Shared → Prop} {s : Shared} {x y : Array UInt8} {t u : Tok} {r : Bool} {Q : Value → Shared → Prop} (e : (x.toList == y.toList) = r) (h : Q (.bool r) s) : wpAny (model prog w) A (compareOp .Eq (.bytes x t) (.bytes y u)) Q E s := by
  subst e; exact eq_bytes h
theorem ne_bytesR {prog : Program} {w : World} {A : Around} {E : Value → Shared → Prop} {s : Shared} {x y : Array UInt8} {t u : Tok} {r : Bool} {Q : Value → Shared → Prop} (e : (x.toList == y.toList) = r) (h : Q (.bool (!r)) s) : wpAny (model prog w) A (compareOp .NotEq (.bytes x t) (.bytes y u)) Q E s := by
  subst e; exact ne_bytes h
theorem does_use {w : World} {mean : ExcName → Option Value} {mg mb : Str → Option Value} {f : Addr} {k : Nat} {args : List Value} {news : Led} {Post : Value → Led → Prop} (H : Does w mean mg mb f k args news Post) {dp un : Nat} {gd : Option (List Code)} {cn : Str} {cs : Scope} {a : Addr} {ccd : Value} {cl : List (Str × Addr)} {outer : List Env} {A₀ : Around} {base h₀ : Heap} {L : Addr} {m : Str → Option Value} {s : Shared} {Q E : Value → Shared → Prop}
    (B : Below A₀ base outer h₀) (F : Fr h₀ L s.heap m) (X : (hd.heap_39 w.params).In h₀) (N : News h₀ L s.heap news) (T : Top hd.view_39 (looseW hd.view_39 []) mean mg mb h₀) (hk : cs.kind = .function)
    (d : dp + k < recursionLimit) (u : un + 8 * k + 80 < cLine)
    (r : ∀ v news' h' tk', Post v news' → Fr h₀ L h' m → News h₀ L h' news' → Q v { s with heap := h', toks := tk' }) :
    wpAny (model PySem.Challenge.rw_nz0351_01.row.prog w) (ktrTop dp un gd cn cs L a ccd cl outer) (call (.ref f) args) Q E s := H _ _ _ _ _ _ _ _ _ _ _ _ _ _ _ _ _ B F X N T hk d u r
theorem doesX_use {w : World} {mean : ExcName → Option Value} {mg mb : Str → Option Value} {f : Addr} {k : Nat} {args : List Value} {news : Led} {Post : Value → Led → Prop} {Xc : Int → Prop} (H : DoesX w mean mg mb f k args news Post Xc) {dp un : Nat} {gd : Option (List Code)} {cn : Str} {cs : Scope} {a : Addr} {ccd : Value} {cl : List (Str × Addr)} {outer : List Env} {A₀ : Around} {base h₀ : Heap} {L : Addr} {m : Str → Option Value} {s : Shared} {Q E : Value → Shared → Prop}
    (B : Below A₀ base outer h₀) (F : Fr h₀ L s.heap m) (X : (hd.heap_39 w.params).In h₀) (N : News h₀ L s.heap news) (T : Top hd.view_39 (looseW hd.view_39 []) mean mg mb h₀) (hk : cs.kind = .function)
    (d : dp + k < recursionLimit) (u : un + 8 * k + 80 < cLine)
    (r : ∀ v news' h' tk', Post v news' → Fr h₀ L h' m → News h₀ L h' news' → Q v { s with heap := h', toks := tk' })
    (x : ∀ e c g h' tk', Xc c → Fr h₀ L g m → Fly base g (envX cn cs L a ccd cl :: outer) e c news h' → g.UpToSlots h' → E (.ref e) { s with heap := h', toks := tk' }) :
    wpAny (model PySem.Challenge.rw_nz0351_01.row.prog w) (ktrTop dp un gd cn cs L a ccd cl outer) (call (.ref f) args) Q E s := H _ _ _ _ _ _ _ _ _ _ _ _ _ _ _ _ _ B F X N T hk d u r x
theorem dz1 {w : World} {mean : ExcName → Option Value} {mg mb : Str → Option Value} {f : Addr} {k : Nat} {args : List Value} {news : Led} {Post : Value → Led → Prop} (H : Does w mean mg mb f k args news Post) {G0 : (Value → Led → Prop) → Prop} (hG : ∀ R, G0 R → ∀ v n, Post v n → R v n) {dp un : Nat} {gd : Option (List Code)} {cn : Str} {cs : Scope} {a : Addr} {ccd : Value} {cl : List (Str × Addr)} {outer : List Env} {A₀ : Around} {base h₀ : Heap} {L : Addr} {m : Str → Option Value} {s : Shared} {Q E : Value → Shared → Prop}
    (r0 : G0 (fun v news' => ∀ h' tk', Fr h₀ L h' m → News h₀ L h' news' → Q v { s with heap := h', toks := tk' }))
    (B : Below A₀ base outer h₀ := by k_asm) (F : Fr h₀ L s.heap m := by k_asm) (X : (hd.heap_39 w.params).In h₀ := by k_asm) (N : News h₀ L s.heap news := by k_asm) (T : Top hd.view_39 (looseW hd.view_39 []) mean mg mb h₀ := by k_asm) (hk : cs.kind = .function := by rfl)
    (d : dp + k < recursionLimit := by ktr_room) (u : un + 8 * k + 80 < cLine := by ktr_units) :
    wpAny (model PySem.Challenge.rw_nz0351_01.row.prog w) (ktrTop dp un gd cn cs L a ccd cl outer) (call (.ref f) args) Q E s := H _ _ _ _ _ _ _ _ _ _ _ _ _ _ _ _ _ B F X N T hk d u (fun v n h' tk' p f nw => hG (fun v news' => ∀ h' tk', Fr h₀ L h' m → News h₀ L h' news' → Q v { s with heap := h', toks := tk' }) r0 v n p h' tk' f nw)
theorem dz2 {w : World} {mean : ExcName → Option Value} {mg mb : Str → Option Value} {f : Addr} {k : Nat} {args : List Value} {news : Led} {Post : Value → Led → Prop} (H : Does w mean mg mb f k args news Post) {G0 G1 : (Value → Led → Prop) → Prop} (hG : ∀ R, G0 R → G1 R → ∀ v n, Post v n → R v n) {dp un : Nat} {gd : Option (List Code)} {cn : Str} {cs : Scope} {a : Addr} {ccd : Value} {cl : List (Str × Addr)} {outer : List Env} {A₀ : Around} {base h₀ : Heap} {L : Addr} {m : Str → Option Value} {s : Shared} {Q E : Value → Shared → Prop}
    (r0 : G0 (fun v news' => ∀ h' tk', Fr h₀ L h' m → News h₀ L h' news' → Q v { s with heap := h', toks := tk' })) (r1 : G1 (fun v news' => ∀ h' tk', Fr h₀ L h' m → News h₀ L h' news' → Q v { s with heap := h', toks := tk' }))
    (B : Below A₀ base outer h₀ := by k_asm) (F : Fr h₀ L s.heap m := by k_asm) (X : (hd.heap_39 w.params).In h₀ := by k_asm) (N : News h₀ L s.heap news := by k_asm) (T : Top hd.view_39 (looseW hd.view_39 []) mean mg mb h₀ := by k_asm) (hk : cs.kind = .function := by rfl)
    (d : dp + k < recursionLimit := by ktr_room) (u : un + 8 * k + 80 < cLine := by ktr_units) :
    wpAny (model PySem.Challenge.rw_nz0351_01.row.prog w) (ktrTop dp un gd cn cs L a ccd cl outer) (call (.ref f) args) Q E s := H _ _ _ _ _ _ _ _ _ _ _ _ _ _ _ _ _ B F X N T hk d u (fun v n h' tk' p f nw => hG (fun v news' => ∀ h' tk', Fr h₀ L h' m → News h₀ L h' news' → Q v { s with heap := h', toks := tk' }) r0 r1 v n p h' tk' f nw)
theorem dz3 {w : World} {mean : ExcName → Option Value} {mg mb : Str → Option Value} {f : Addr} {k : Nat} {args : List Value} {news : Led} {Post : Value → Led → Prop} (H : Does w mean mg mb f k args news Post) {G0 G1 G2 : (Value → Led → Prop) → Prop} (hG : ∀ R, G0 R → G1 R → G2 R → ∀ v n, Post v n → R v n) {dp un : Nat} {gd : Option (List Code)} {cn : Str} {cs : Scope} {a : Addr} {ccd : Value} {cl : List (Str × Addr)} {outer : List Env} {A₀ : Around} {base h₀ : Heap} {L : Addr} {m : Str → Option Value} {s : Shared} {Q E : Value → Shared → Prop}
    (r0 : G0 (fun v news' => ∀ h' tk', Fr h₀ L h' m → News h₀ L h' news' → Q v { s with heap := h', toks := tk' })) (r1 : G1 (fun v news' => ∀ h' tk', Fr h₀ L h' m → News h₀ L h' news' → Q v { s with heap := h', toks := tk' })) (r2 : G2 (fun v news' => ∀ h' tk', Fr h₀ L h' m → News h₀ L h' news' → Q v { s with heap := h', toks := tk' }))
    (B : Below A₀ base outer h₀ := by k_asm) (F : Fr h₀ L s.heap m := by k_asm) (X : (hd.heap_39 w.params).In h₀ := by k_asm) (N : News h₀ L s.heap news := by k_asm) (T : Top hd.view_39 (looseW hd.view_39 []) mean mg mb h₀ := by k_asm) (hk : cs.kind = .function := by rfl)
    (d : dp + k < recursionLimit := by ktr_room) (u : un + 8 * k + 80 < cLine := by ktr_units) :
    wpAny (model PySem.Challenge.rw_nz0351_01.row.prog w) (ktrTop dp un gd cn cs L a ccd cl outer) (call (.ref f) args) Q E s := H _ _ _ _ _ _ _ _ _ _ _ _ _ _ _ _ _ B F X N T hk d u (fun v n h' tk' p f nw => hG (fun v news' => ∀ h' tk', Fr h₀ L h' m → News h₀ L h' news' → Q v { s with heap := h', toks := tk' }) r0 r1 r2 v n p h' tk' f nw)
theorem dzX1 {w : World} {mean : ExcName → Option Value} {mg mb : Str → Option Value} {f : Addr} {k : Nat} {args : List Value} {news : Led} {Post : Value → Led → Prop} {Xc : Int → Prop} (H : DoesX w mean mg mb f k args news Post Xc) {G0 : (Value → Led → Prop) → Prop} (hG : ∀ R, G0 R → ∀ v n, Post v n → R v n) {dp un : Nat} {gd : Option (List Code)} {cn : Str} {cs : Scope} {a : Addr} {ccd : Value} {cl : List (Str × Addr)} {outer : List Env} {A₀ : Around} {base h₀ : Heap} {L : Addr} {m : Str → Option Value} {s : Shared} {Q E : Value → Shared → Prop}
    (r0 : G0 (fun v news' => ∀ h' tk', Fr h₀ L h' m → News h₀ L h' news' → Q v { s with heap := h', toks := tk' }))
    (x : ∀ e c g h' tk', Xc c → Fr h₀ L g m → Fly base g (envX cn cs L a ccd cl :: outer) e c news h' → g.UpToSlots h' → E (.ref e) { s with heap := h', toks := tk' })
    (B : Below A₀ base outer h₀ := by k_asm) (F : Fr h₀ L s.heap m := by k_asm) (X : (hd.heap_39 w.params).In h₀ := by k_asm) (N : News h₀ L s.heap news := by k_asm) (T : Top hd.view_39 (looseW hd.view_39 []) mean mg mb h₀ := by k_asm) (hk : cs.kind = .function := by rfl)
    (d : dp + k < recursionLimit := by ktr_room) (u : un + 8 * k + 80 < cLine := by ktr_units) :
    wpAny (model PySem.Challenge.rw_nz0351_01.row.prog w) (ktrTop dp un gd cn cs L a ccd cl outer) (call (.ref f) args) Q E s := H _ _ _ _ _ _ _ _ _ _ _ _ _ _ _ _ _ B F X N T hk d u (fun v n h' tk' p f nw => hG (fun v news' => ∀ h' tk', Fr h₀ L h' m → News h₀ L h' news' → Q v { s with heap := h', toks := tk' }) r0 v n p h' tk' f nw) x
theorem dzXn {w : World} {mean : ExcName → Option Value} {mg mb : Str → Option Value} {f : Addr} {k : Nat} {args : List Value} {news : Led} {Xc : Int → Prop} (H : DoesX w mean mg mb f k args news (fun _ _ => False) Xc) {dp un : Nat} {gd : Option (List Code)} {cn : Str} {cs : Scope} {a : Addr} {ccd : Value} {cl : List (Str × Addr)} {outer : List Env} {A₀ : Around} {base h₀ : Heap} {L : Addr} {m : Str → Option Value} {s : Shared} {Q E : Value → Shared → Prop}
    (x : ∀ e c g h' tk', Xc c → Fr h₀ L g m → Fly base g (envX cn cs L a ccd cl :: outer) e c news h' → g.UpToSlots h' → E (.ref e) { s with heap := h', toks := tk' })
    (B : Below A₀ base outer h₀ := by k_asm) (F : Fr h₀ L s.heap m := by k_asm) (X : (hd.heap_39 w.params).In h₀ := by k_asm) (N : News h₀ L s.heap news := by k_asm) (T : Top hd.view_39 (looseW hd.view_39 []) mean mg mb h₀ := by k_asm) (hk : cs.kind = .function := by rfl)
    (d : dp + k < recursionLimit := by ktr_room) (u : un + 8 * k + 80 < cLine := by ktr_units) :
    wpAny (model PySem.Challenge.rw_nz0351_01.row.prog w) (ktrTop dp un gd cn cs L a ccd cl outer) (call (.ref f) args) Q E s := H _ _ _ _ _ _ _ _ _ _ _ _ _ _ _ _ _ B F X N T hk d u (fun _ _ _ _ p => p.elim) x
section
variable {R : Value → Led → Prop} {α β γ : Type} {v : Value} {n : Led}
theorem u_eq {V : Value} {N : Led} (R : Value → Led → Prop) (r : R V N) (v : Value) (n : Led) (h : v = V ∧ n = N) : R v n := by rw [h.1, h.2]; exact r
theorem u_ex {V : α → Value} {N : Led} (R : Value → Led → Prop) (r : ∀ t, R (V t) N) (v : Value) (n : Led) (h : (∃ t, v = V t) ∧ n = N) : R v n := by obtain ⟨⟨t, rfl⟩, rfl⟩ := h; exact r t
theorem u_eq1 {V : Value} {N : Led} {P : Prop} (R : Value → Led → Prop) (r : P → R V N) (v : Value) (n : Led) (h : v = V ∧ n = N ∧ P) : R v n := by obtain ⟨rfl, rfl, h⟩ := h; exact r h
theorem u_pr {P : Value → Prop} {N : Led} (R : Value → Led → Prop) (r : ∀ v, P v → R v N) (v : Value) (n : Led) (h : P v ∧ n = N) : R v n := by obtain ⟨h, rfl⟩ := h; exact r v h
theorem u_e1 {V : α → Value} {N : α → Led} {P : α → Prop} (R : Value → Led → Prop) (r : ∀ a, P a → R (V a) (N a)) (v : Value) (n : Led) (h : ∃ a, v = V a ∧ n = N a ∧ P a) : R v n := by obtain ⟨a, rfl, rfl, h⟩ := h; exact r a h
theorem u_e2 {V : α → β → Value} {N : α → β → Led} {P : α → β → Prop} (R : Value → Led → Prop) (r : ∀ a b, P a b → R (V a b) (N a b)) (v : Value) (n : Led) (h : ∃ a b, v = V a b ∧ n = N a b ∧ P a b) : R v n := by obtain ⟨a, b, rfl, rfl, h⟩ := h; exact r a b h
theorem u_e3 {V : α → β → γ → Value} {N : α → β → γ → Led} {P : α → β → γ → Prop} (R : Value → Led → Prop) (r : ∀ a b c, P a b c → R (V a b c) (N a b c)) (v : Value) (n : Led) (h : ∃ a b c, v = V a b c ∧ n = N a b c ∧ P a b c) : R v n := by obtain ⟨a, b, c, rfl, rfl, h⟩ := h; exact r a b c h
theorem u_e2c {V : α → β → Value} {N : α → β → Led} {P1 P2 P3 : α → β → Prop} (R : Value → Led → Prop) (r : ∀ a b, P1 a b → P2 a b → P3 a b → R (V a b) (N a b)) (v : Value) (n : Led) (h : ∃ a b, v = V a b ∧ n = N a b ∧ P1 a b ∧ P2 a b ∧ P3 a b) : R v n := by obtain ⟨a, b, rfl, rfl, h1, h2, h3⟩ := h; exact r a b h1 h2 h3
theorem u_e3c {V : α → β → γ → Value} {N : α → β → γ → Led} {P1 P2 P3 : α → β → γ → Prop} (R : Value → Led → Prop) (r : ∀ a b c, P1 a b c → P2 a b c → P3 a b c → R (V a b c) (N a b c)) (v : Value) (n : Led) (h : ∃ a b c, v = V a b c ∧ n = N a b c ∧ P1 a b c ∧ P2 a b c ∧ P3 a b c) : R v n := by obtain ⟨a, b, c, rfl, rfl, h1, h2, h3⟩ := h; exact r a b c h1 h2 h3
theorem u_xx {V : α → Value} {N : β → Led} (R : Value → Led → Prop) (r : ∀ t o, R (V t) (N o)) (v : Value) (n : Led) (h : (∃ t, v = V t) ∧ ∃ o, n = N o) : R v n := by obtain ⟨⟨t, rfl⟩, o, rfl⟩ := h; exact r t o
theorem u_xox {V : α → Value} {O : β → Obj} {N : Obj → Led} (R : Value → Led → Prop) (r : ∀ t o, R (V t) (N (O o))) (v : Value) (n : Led) (h : (∃ t, v = V t) ∧ ∃ o, (∃ q, o = O q) ∧ n = N o) : R v n := by obtain ⟨⟨t, rfl⟩, o, ⟨q, rfl⟩, rfl⟩ := h; exact r t q
theorem u_st {V V' : α → Value} {N : Led} {N' : β → Led} {P P' : Prop} (R : Value → Led → Prop) (r : ∀ t, P → R (V t) N) (r' : ∀ t o, P' → R (V' t) (N' o)) (v : Value) (n : Led) (h : (P ∧ (∃ t, v = V t) ∧ n = N) ∨ (P' ∧ (∃ t, v = V' t) ∧ ∃ o, n = N' o)) : R v n := by
  obtain ⟨hx, ⟨t, rfl⟩, rfl⟩ | ⟨hx, ⟨t, rfl⟩, o, rfl⟩ := h
  · exact r t hx
  · exact r' t o hx
theorem u_bx {V : α → β → Value} {N : Obj → Led} {P1 P2 : α → Prop} {B : Obj → Prop} (R : Value → Led → Prop) (r : ∀ a b o, P1 a → P2 a → B o → R (V a b) (N o)) (v : Value) (n : Led) (h : (∃ a b, v = V a b ∧ P1 a ∧ P2 a) ∧ ∃ o, B o ∧ n = N o) : R v n := by obtain ⟨⟨a, b, rfl, h1, h2⟩, o, hb, rfl⟩ := h; exact r a b o h1 h2 hb
theorem u_b2 {V V' : α → Value} {N : Obj → Led} {B : Obj → Prop} (R : Value → Led → Prop) (r : ∀ a o, B o → R (V a) (N o)) (r' : ∀ a o, B o → R (V' a) (N o)) (v : Value) (n : Led) (h : (∃ t, v = V t ∨ v = V' t) ∧ ∃ o, B o ∧ n = N o) : R v n := by
  obtain ⟨⟨a, rfl | rfl⟩, o, hb, rfl⟩ := h
  · exact r a o hb
  · exact r' a o hb
theorem u_b3 {V V' V2 : α → Value} {N : Obj → Led} {B : Obj → Prop} (R : Value → Led → Prop) (r : ∀ a o, B o → R (V a) (N o)) (r' : ∀ a o, B o → R (V' a) (N o)) (r2 : ∀ a o, B o → R (V2 a) (N o)) (v : Value) (n : Led) (h : (∃ t, v = V t ∨ v = V' t ∨ v = V2 t) ∧ ∃ o, B o ∧ n = N o) : R v n := by
  obtain ⟨⟨a, rfl | rfl | rfl⟩, o, hb, rfl⟩ := h
  · exact r a o hb
  · exact r' a o hb
  · exact r2 a o hb
theorem u_nl {V : Value} {N : α → β → Led} {P1 P2 : α → Prop} (R : Value → Led → Prop) (r : ∀ a b, P1 a → P2 a → R V (N a b)) (v : Value) (n : Led) (h : v = V ∧ ∃ a b, P1 a ∧ P2 a ∧ n = N a b) : R v n := by obtain ⟨rfl, a, b, h1, h2, rfl⟩ := h; exact r a b h1 h2
theorem u_du {V : Value} {V' : α → β → Value} {N : Led} {P : Prop} {P1 P2 P3 : α → Prop} (R : Value → Led → Prop) (r : P → R V N) (r' : ∀ a b, P1 a → P2 a → P3 a → R (V' a b) N) (v : Value) (n : Led) (h : n = N ∧ ((P ∧ v = V) ∨ ∃ a b, v = V' a b ∧ P1 a ∧ P2 a ∧ P3 a)) : R v n := by
  obtain ⟨rfl, ⟨h, rfl⟩ | ⟨a, b, rfl, h1, h2, h3⟩⟩ := h
  · exact r h
  · exact r' a b h1 h2 h3
theorem u_h2 {V : α → Value} {N : Led} {P : Prop} (R : Value → Led → Prop) (r : ∀ t, P → R (V t) N) (v : Value) (n : Led) (h : P ∧ (∃ t, v = V t) ∧ n = N) : R v n := by obtain ⟨hx, ⟨t, rfl⟩, rfl⟩ := h; exact r t hx
theorem u_h1 {V : α → Value} {V' : Value} {N : Led} {N' : β → Led} {P P' : Prop} (R : Value → Led → Prop) (r : ∀ t, P → R (V t) N) (r' : ∀ t, P' → R V' (N' t)) (v : Value) (n : Led) (h : (P ∧ (∃ t, v = V t) ∧ n = N) ∨ (v = V' ∧ P' ∧ ∃ t, n = N' t)) : R v n := by
  obtain ⟨hx, ⟨t, rfl⟩, rfl⟩ | ⟨rfl, hx, t, rfl⟩ := h
  · exact r t hx
  · exact r' t hx
theorem u_h0 {V : α → Value} {V' : Value} {N M : Led} {N' : Int → Tok → Obj → Led} {P P' : Prop} {P1 : Int → Prop} {P2 : Int → Obj → Tok → Prop} (R : Value → Led → Prop) (r : ∀ t, P → R (V t) N) (r' : P' → R V' M) (r2 : ∀ k t o u, P1 k → P2 k o u → R V' (N' k t o)) (v : Value) (n : Led)
    (h : (P ∧ (∃ t, v = V t) ∧ n = N) ∨ (v = V' ∧ ((P' ∧ n = M) ∨ ∃ k t o u, P1 k ∧ n = N' k t o ∧ P2 k o u))) : R v n := by
  obtain ⟨hx, ⟨t, rfl⟩, rfl⟩ | ⟨rfl, ⟨hx, rfl⟩ | ⟨k, t, o, u, h1, rfl, h2⟩⟩ := h
  · exact r t hx
  · exact r' hx
  · exact r2 k t o u h1 h2
end
example : True := by (k_with "leaving ref" => (k_here; (refine' leave_onF ?zzK ?zzF ?zzR ?zzU ?_; (case zzK => assumption); (case zzF => assumption); (case zzR => assumption); (case zzU => assumption); k_whole; intro h' R' U'; (try dsimp only at R' U' ⊢)))); trivial
example : True := by (k_with "call builtin:len" => (k_here; (with_reducible show wpAny _ _ (call (Value.builtin "len") [Value.bytes _ _]) _ _ _); (refine len_bytes (by with_reducible assumption) ?_))); trivial
example : True := by (k_with "compareOp Eq bytes bytes" => (k_here; first | refine eq_bytesR (r := true) (by first | assumption | decide +kernel) ?_ | refine eq_bytesR (r := false) (by first | assumption | decide +kernel) ?_)); trivial
example : True := by (k_with "compareOp NotEq bytes bytes" => (k_here; first | refine ne_bytesR (r := true) (by first | assumption | decide +kernel) ?_ | refine ne_bytesR (r := false) (by first | assumption | decide +kernel) ?_)); trivial
variable {w : World} {mean : ExcName → Option Value} {mg mb : Str → Option Value} {rest : Led}
abbrev isOct (c : Int) : Prop := 97 ≤ c ∧ c ≤ 122 ∨ c = 45
theorem octet_any {c : Int} {t : Nat} (hc : isOct c) : Does w mean mg mb 163 1 [.int c t] rest (fun v news => v = .bool true ∧ news = rest) := by
  rcases hc with h | rfl
  · exact octet_spec h
  · exact octet_dash
example : True := by (k_with "call ref" => (k_here; (with_reducible show wpAny _ _ (call (Value.ref 163) _) _ _ _); k_dflt (refine' dz1 (octet_any ?zzq) (u_eq) ?_; (case zzq => assumption)); (intro  h' tk' F' N'; (skip); (try k_sweep)))); trivial
def namesC : List (Array UInt8) := [#[108,105,110,107], #[110,97,109,101], #[99,111,110,116,101,110,116,45,108,101,110,103,116,104], #[115,117,109]]
def colS : Array UInt8 := #[58,115,116,97,116,117,115]
theorem namesC_good : ∀ b ∈ namesC, (0 < b.size ∧ b.size ≤ 30) ∧ (∀ c ∈ b.toList, isOct c.toNat) ∧ ((KBy.picked b none (some 1)).toList == (#[58] : Array UInt8).toList) = false := by decide +kernel
theorem name_plain {b : Array UInt8} {t : Nat} (hv : b ∈ namesC) : Does w mean mg mb 168 2 [.bytes b t] rest (fun v news => v = .none ∧ news = rest) := by
  have hb := (namesC_good b hv).1.2
  have hb0 : (b.size : Int) ≠ 0 := by have := (namesC_good b hv).1.1; omega
  have hz : b.size ≤ sizeLine := Nat.le_trans hb (by decide)
  have hA := (namesC_good b hv).2.2
  have hgood : ∀ (i : Nat) (c : UInt8), b[i]? = some c → isOct c.toNat := fun i c e => (namesC_good b hv).2.1 c (Array.mem_toList_iff.mpr (Array.mem_of_getElem? e))
  unfold Does
  k_fill
  (intro dp un gd cn cs a ccd cl outer A₀ base h₀ L m s Q E B F X N T hk hdp hu hret; refine wpAny_call ?_; k_dflt cell_enter)
  k_steps
  · exact absurd (by assumption) hb0
  refine rest_none (S := fun _ => True) trivial ?fin ?step _ _
  case step =>
    intro i9 v9 I9 oI9 C9 oC9 D9 m9 h9 tk9 E9 hP9 hC9 hx9 F9 N9 off9 ne9
    obtain ⟨c9, u9, hb9, rfl⟩ := hP9
    have hg9 := hgood _ _ hb9
    k_steps
    all_goals first | rfl | exact LCg.CompEnd.intro (by assumption) (by assumption) rest (fun p hp => by simp only [List.mem_cons] at hp ⊢; first | exact hp | exact .inr hp | exact .inr (.inr hp)) (by assumption) trivial rfl
  k_steps
  all_goals exact hret _ _ _ _ ⟨rfl, rfl⟩ (by assumption) (News.cut (by assumption) (by intro p hp; repeat (first | exact hp | apply List.mem_cons_of_mem)))
theorem name_col {t : Nat} : Does w mean mg mb 168 2 [.bytes colS t] rest (fun v news => v = .none ∧ news = rest) := by
  generalize hb : colS = b
  have hz : b.size ≤ sizeLine := by subst hb; decide +kernel
  have hA : ((KBy.picked b none (some 1)).toList == (#[58] : Array UInt8).toList) = true := by subst hb; decide +kernel
  have hs : (KBy.picked b (some 1) none).size ≤ sizeLine := by subst hb; decide +kernel
  have hb0 : ((KBy.picked b (some 1) none).size : Int) ≠ 0 := by subst hb; decide +kernel
  have hl : (KBy.picked b (some 1) none).size ≤ 1099511627776 := by subst hb; decide +kernel
  have hc : ∀ c ∈ (KBy.picked b (some 1) none).toList, isOct c.toNat := by subst hb; decide +kernel
  have hgood : ∀ (i : Nat) (c : UInt8), (KBy.picked b (some 1) none)[i]? = some c → isOct c.toNat := fun i c e => hc c (Array.mem_toList_iff.mpr (Array.mem_of_getElem? e))
  unfold Does
  k_fill
  (intro dp un gd cn cs a ccd cl outer A₀ base h₀ L m s Q E B F X N T hk hdp hu hret; refine wpAny_call ?_; k_dflt cell_enter)
  k_steps
  · exact absurd (by assumption) hb0
  refine rest_none (S := fun _ => True) trivial ?fin ?step _ _
  case step =>
    intro i9 v9 I9 oI9 C9 oC9 D9 m9 h9 tk9 E9 hP9 hC9 hx9 F9 N9 off9 ne9
    obtain ⟨c9, u9, hb9, rfl⟩ := hP9
    have hg9 := hgood _ _ hb9
    k_steps
    all_goals first | rfl | exact LCg.CompEnd.intro (by assumption) (by assumption) rest (fun p hp => by simp only [List.mem_cons] at hp ⊢; first | exact hp | exact .inr hp | exact .inr (.inr hp)) (by assumption) trivial rfl
  k_steps
  all_goals exact hret _ _ _ _ ⟨rfl, rfl⟩ (by assumption) (News.cut (by assumption) (by intro p hp; repeat (first | exact hp | apply List.mem_cons_of_mem)))
theorem name_any {b : Array UInt8} {t : Nat} (hv : b ∈ namesC ∨ b = colS) : Does w mean mg mb 168 2 [.bytes b t] rest (fun v news => v = .none ∧ news = rest) := by
  rcases hv with h | rfl
  · exact name_plain h
  · exact name_col
example : True := by (k_with "call ref" => (k_here; (with_reducible show wpAny _ _ (call (Value.ref 168) _) _ _ _); k_dflt (refine' dz1 (name_any ?zzq) (u_eq) ?_; (case zzq => assumption)); (intro  h' tk' F' N'; (skip); (try k_sweep)))); trivial
example : True := by (k_with "call ref" => (k_here; (with_reducible show wpAny _ _ (call (Value.ref 173) _) _ _ _); k_dflt (refine' dz1 (value_spec ?zzq) (u_eq) ?_; (case zzq => assumption)); (intro  h' tk' F' N'; (skip); (try k_sweep)))); trivial

example : True := by (k_with "compareOp In bytes ref" => (k_here; refine in_tuple_bytes (r := false) (Fr.tup (by k_asm) (tupK (by k_asm) (by k_is))) (by repeat (first | exact BytesAre.nil | apply BytesAre.cons)) (by assumption) ?_)); trivial
variable {w : World} {mean : ExcName → Option Value} {mg mb : Str → Option Value} {rest : Led}
def connC : List (Array UInt8) := [#[99,111,110,110,101,99,116,105,111,110], #[107,101,101,112,45,97,108,105,118,101], #[112,114,111,120,121,45,99,111,110,110,101,99,116,105,111,110], #[116,114,97,110,115,102,101,114,45,101,110,99,111,100,105,110,103], #[117,112,103,114,97,100,101]]
theorem namesC_conn : ∀ b, (b ∈ namesC ∨ b = colS) → (connC.any fun y => y.toList == b.toList) = false ∧ (b.toList == (#[116, 101] : Array UInt8).toList) = false := by
  intro b hb
  have : b ∈ colS :: namesC := by rcases hb with h | rfl; exact .tail _ h; exact .head _
  revert b
  have : ∀ b ∈ colS :: namesC, (connC.any fun y => y.toList == b.toList) = false ∧ (b.toList == (#[116, 101] : Array UInt8).toList) = false := by decide +kernel
  intro b _ h; exact this b h
theorem field_spec {n v : Array UInt8} {tn tv : Nat} (hn : n ∈ namesC ∨ n = colS) (hv : v ∈ valsC) : Does w mean mg mb 180 3 [.bytes n tn, .bytes v tv] rest (fun v news => v = .none ∧ news = rest) := by
  have hA := (namesC_conn n hn).1
  have hB := (namesC_conn n hn).2
  unfold connC at hA
  unfold Does
  k_fill
  (intro dp un gd cn cs a ccd cl outer A₀ base h₀ L m s Q E B F X N T hk hdp hu hret; refine wpAny_call ?_; k_dflt cell_enter)
  k_steps
  all_goals exact hret _ _ _ _ ⟨rfl, rfl⟩ (by assumption) (News.cut (by assumption) (by intro p hp; repeat (first | exact hp | apply List.mem_cons_of_mem)))
example : True := by (k_with "call ref" => (k_here; (with_reducible show wpAny _ _ (call (Value.ref 180) _) _ _ _); k_dflt (refine' dz1 (field_spec ?zzq ?zzq2) (u_eq) ?_; ((case zzq => assumption); (case zzq2 => assumption))); (intro  h' tk' F' N'; (skip); (try k_sweep)))); trivial
abbrev isDig (c : Int) : Prop := 48 ≤ c ∧ c ≤ 57
def numOf (b : Array UInt8) : Int := (KBw.bInts b).foldl (fun a k => a * 10 + k - 48) 0
def digsC : List (Array UInt8) := [#[50,48,48], #[52,48,52], #[50,48,52], #[51,48,52], #[49,48,51], #[49,48,48], #[49,48,49], #[53], #[51], #[48], #[49]]
theorem digsC_good : ∀ b ∈ digsC, b.size ≤ 30 ∧ 0 < b.size ∧ ∀ c ∈ b.toList, isDig c.toNat := by decide +kernel
theorem digits_ok {b : Array UInt8} {t : Nat} (hv : b ∈ digsC) : Does w mean mg mb 185 2 [.bytes b t] rest (fun v news => (∃ t, v = .int (numOf b) t) ∧ news = rest) := by
  have hb := (digsC_good b hv).1
  have hl : b.size ≤ 1099511627776 := Nat.le_trans hb (by decide)
  have hb0 : (b.size : Int) ≠ 0 := by have := (digsC_good b hv).2.1; omega
  have hz : b.size ≤ sizeLine := Nat.le_trans hb (by decide)
  have hgood : ∀ (i : Nat) (c : UInt8), b[i]? = some c → isDig c.toNat := fun i c e => (digsC_good b hv).2.2 c (Array.mem_toList_iff.mpr (Array.mem_of_getElem? e))
  unfold Does
  k_fill
  (intro dp un gd cn cs a ccd cl outer A₀ base h₀ L m s Q E B F X N T hk hdp hu hret; refine wpAny_call ?_; k_dflt cell_enter)
  k_steps
  · exact absurd (by assumption) hb0
  refine rest_none (S := fun _ => True) trivial ?fin ?step _ _
  case step =>
    intro i9 v9 I9 oI9 C9 oC9 D9 m9 h9 tk9 E9 hP9 hC9 hx9 F9 N9 off9 ne9
    obtain ⟨c9, u9, hb9, rfl⟩ := hP9
    obtain ⟨hg9, hg8⟩ := hgood _ _ hb9
    k_steps
    all_goals first | rfl | exact LCg.CompEnd.intro (by assumption) (by assumption) rest (fun p hp => by simp only [List.mem_cons] at hp ⊢; first | exact hp | exact .inr hp | exact .inr (.inr hp)) (by assumption) trivial rfl | (rw [decide_eq_true hg8]; rfl) | skip
  k_steps
  with_unfolding_all refine' KBw.iterBytes_acc1 (y := Str.ofString "found") (news := rest) (fun a k => a * 10 + k - 48) rfl rfl (by assumption) (News.cut (by assumption) (by intro p hp; repeat (first | exact hp | apply List.mem_cons_of_mem))) rfl (fun k9 t9 a9 ta9 h9 tk9 own9 hm9 hlo9 hhi9 hoff9 F9 N9 => ?_) (fun u9 t9 h9 tk9 F9 N9 => ?_)
  · k_steps
    exact InvEndN.intro (by assumption) (by assumption) ⟨rfl, ⟨_, rfl⟩, fun z h1 h2 => by simp [h1, h2]⟩ rfl (fun p hp => List.mem_append_left _ hp) (fun p hp => List.mem_append_right _ hp)
  · k_steps
    exact hret _ _ _ _ ⟨⟨_, rfl⟩, rfl⟩ (by assumption) (News.cut (by assumption) (by intro p hp; repeat (first | exact hp | apply List.mem_cons_of_mem)))
def badD : Array UInt8 := #[50, 48, 120]

section
open LCg LCt
variable {prog : Program} {w : World} {A : Around} {E : Value → Shared → Prop} {s : Shared} {h₀ : Heap} {L : Addr} {m : Str → Option Value} {env : Env}
/-- the items that pass the test stay -/
theorem rest_filter {ct elt : Expr} {x : Str} {scope : Scope} {cl : List (Str × Addr)} {S : Led → Prop} {b : Array UInt8} {Fin : List Value → Led → Prop} {news : Led} (p : Int → Bool) (hS : S news)
    (hfin : ∀ ys, IntsAre ys ((KBw.bInts b).filter p) → Fin ys news)
    (step : ∀ (i : Nat) (c : UInt8) u ys I oI C oC D m₂ h tk (E' : Value → Shared → Prop), b[i]? = some c → NsObj oC m₂ → m₂ x = some (.int (c.toNat : Int) u) → Fr h₀ L h m → News h₀ L h ((I, oI) :: (C, oC) :: (D, lst ys) :: news) → Off3 I C D news → ((@Ne Nat I C) ∧ (@Ne Nat I D) ∧ (@Ne Nat C D)) →
      wpAny (model prog w) A (isTrue ct (compEnvC scope cl C env) (eval ct (compEnvC scope cl C env))) (fun ok s' => ok = p c.toNat ∧ if ok = true then wpAny (model prog w) A (eval elt (compEnvC scope cl C env)) (CompEnd h₀ L m { s with heap := h, toks := tk } I oI C oC D (lst ys) S (fun y news' => y = .int (c.toNat : Int) u ∧ news' = news)) E' s'
        else CompEnd h₀ L m { s with heap := h, toks := tk } I oI C oC D (lst ys) S (fun _ news' => news' = news) Value.none s') E' { s with heap := h, toks := tk }) :
    ∀ k i ys, k + i = b.size → IntsAre ys (((KBw.bInts b).take i).filter p) → CompRestT prog w A h₀ L m env ct elt x scope cl s S (OctAt b) Fin k i ys news
  | 0, i, ys, hk, hy => .zero (hfin ys (by
      have : (KBw.bInts b).take i = KBw.bInts b := List.take_of_length_le (by rw [KBw.ints_length]; omega)
      rw [this] at hy; exact hy))
  | k + 1, i, ys, hk, hy => by
    refine .succ fun v I oI C oC D m₂ h tk E' hP hC hx F N off ne => ?_
    obtain ⟨c, u, hc, rfl⟩ := hP
    have ht : (KBw.bInts b).take (i + 1) = (KBw.bInts b).take i ++ [(c.toNat : Int)] := by
      rw [List.take_add_one]
      have : (KBw.bInts b)[i]? = some (c.toNat : Int) := by
        simp only [KBw.bInts, List.getElem?_map, Array.getElem?_toList, hc, Option.map_some]
      rw [this]; rfl
    refine wpAny_mono (step i c u ys I oI C oC D m₂ h tk E' hc hC hx F N off ne) (fun ok s' hq => ?_) fun _ _ e => e
    obtain ⟨hok, hq⟩ := hq
    cases ok with
    | true =>
      rw [if_pos rfl] at hq ⊢
      refine wpAny_mono hq (fun y s₄ h₄ => ?_) fun _ _ e => e
      obtain ⟨h', tk', news', e1, e2, e3, e4, e5, rfl, rfl⟩ := h₄
      refine ⟨h', tk', news', e1, e2, e3, e4, e5, rest_filter p hS hfin step k (i + 1) _ (by omega) ?_⟩
      rw [ht, List.filter_append, show ([(c.toNat : Int)].filter p) = [(c.toNat : Int)] by simp [← hok]]
      exact hy.append (.cons _ _ .nil)
    | false =>
      rw [if_neg (by decide)] at hq ⊢
      obtain ⟨h', tk', news', e1, e2, e3, e4, e5, rfl⟩ := hq
      refine ⟨h', tk', news', e1, e2, e3, e4, e5, rest_filter p hS hfin step k (i + 1) ys (by omega) ?_⟩
      rw [ht, List.filter_append, show ([(c.toNat : Int)].filter p) = [] by simp [← hok], List.append_nil]
      exact hy
end
variable {w : World} {mean : ExcName → Option Value} {mg mb : Str → Option Value} {rest : Led}
example : True := by (k_with "call ref" => (k_here; (with_reducible show wpAny _ _ (call (Value.ref 156) _) _ _ _); k_dflt (refine' dzXn (malformed_spec ?zzq) ?_; (case zzq => decide)); intro e' c' g' h' tk' hXc' FG' R' U'; (try dsimp only))); trivial
theorem digits_bad {t : Nat} : DoesX w mean mg mb 185 8 [.bytes #[50, 48, 120] t] rest (fun _ _ => False) (fun c => c = 270) := by
  unfold DoesX
  k_fill
  (intro dp un gd cn cs a ccd cl outer A₀ base h₀ L m s Q E B F X N T hk hdp hu hret hexc; refine wpAny_call ?_; k_dflt cell_enter)
  k_steps
  refine rest_filter (S := fun _ => True) (fun c => c == 120) trivial ?fin ?step _ _ _ rfl .nil
  case step =>
    intro i9 c9 u9 ys9 I9 oI9 C9 oC9 D9 m9 h9 tk9 E9 hb9 hC9 hx9 F9 N9 off9 ne9
    have hg9 : c9 = 50 ∨ c9 = 48 ∨ c9 = 120 := by
      have := Array.mem_of_getElem? hb9
      simpa using this
    rcases hg9 with rfl | rfl | rfl
    all_goals k_steps
    all_goals first | rfl | exact LCg.CompEnd.intro (by assumption) (by assumption) rest (fun p hp => by simp only [List.mem_cons] at hp ⊢; first | exact hp | exact .inr hp | exact .inr (.inr hp)) (by assumption) trivial rfl | exact LCg.CompEnd.intro (by assumption) (by assumption) rest (fun p hp => by simp only [List.mem_cons] at hp ⊢; first | exact hp | exact .inr hp | exact .inr (.inr hp)) (by assumption) trivial ⟨rfl, rfl⟩
  intro ys hys
  rw [show (KBw.bInts #[50, 48, 120]).filter (fun c => c == 120) = [120] by decide +kernel] at hys
  k_steps
  all_goals exact hexc _ _ _ _ _ (by assumption) (by assumption) (Fly.mono (by assumption) (by intro p hp; repeat (first | exact hp | apply List.mem_cons_of_mem))) (by assumption)

namespace LCpt
open LCg LCp
section
variable {prog : Program} {w : World} {A : Around} {E : Value → Shared → Prop} {s : Shared} {h₀ : Heap} {L : Addr} {m : Str → Option Value} {env : Env}
theorem codeAny_compLoop_pt {ct elt iter : Expr} {elts : List Expr} {x1} {tp : Pos} {scope : Scope} {pos : Pos} {it acc : Value} {env : Env} {R : Result → Shared → Prop} (I : Nat → Shared → Prop)
    (turn : ∀ n s, I n s → wpAny (model prog w) A (pyNext it) (fun r s₁ => match r with
      | none => R (.ok .next) s₁
      | some v => wpAny (model prog w) A (letOwnedTupleGo (.Tuple elts x1 tp) it v) (fun _ s₁' => wpAny (model prog w) A (assign (.Tuple elts x1 tp) env v) (fun _ s₂ =>
          wpAny (model prog w) A (forIn [ct] true fun c r => if r = true then do let ok ← isTrue c env (eval c env); pure (ForInStep.yield ok) else pure (ForInStep.yield r)) (fun ok s₃ =>
            if ok = true then wpAny (model prog w) A (eval elt env) (fun x s₄ =>
              wpAny (model prog w) A (call (.builtin "list.append") [acc, x]) (fun _ s₅ => ∃ m, m < n ∧ I m s₅) (notedBy (model prog w) A env fun e s' => R (.error e) s') s₄) (notedBy (model prog w) A env fun e s' => R (.error e) s') s₃
            else ∃ m, m < n ∧ I m s₃) (notedBy (model prog w) A env fun e s' => R (.error e) s') s₂)
          (notedBy (model prog w) A env fun e s' => R (.error e) s') s₁') (notedBy (model prog w) A env fun e s' => R (.error e) s') s₁) (notedBy (model prog w) A env fun e s' => R (.error e) s') s)
    (n : Nat) (h : I n s) : codeAny (model prog w) A (.compLoop (.ListComp elt [⟨.Tuple elts x1 tp, iter, [ct], 0⟩] scope pos) 0 it acc env) R s := by
  refine codeAny_loop rfl I (fun n s hI => ?_) n h
  show wpAny _ A ((compTurn (.ListComp elt [⟨.Tuple elts x1 tp, iter, [ct], 0⟩] scope pos) 0 it acc env).onRaise (fun x => do noteFrame x env; theTreesLotGoes x)) _ _ s
  refine wpAny_noted ?_
  rw [compTurn_list]
  refine wpAny_bind (wpAny_standAt (wpAny_bind (wpAny_mono (turn n s hI) (fun r s₁ h₁ => ?_) fun _ _ h' => h')))
  cases r with
  | none => exact wpAny_pure h₁
  | some v =>
    refine wpAny_bind (wpAny_mono h₁ (fun _ s₁' h₁' => ?_) fun _ _ h' => h')
    refine wpAny_bind (wpAny_mono h₁' (fun _ s₂ h₂ => wpAny_bind (wpAny_mono h₂ (fun ok s₃ h₃ => ?_) fun _ _ h' => h')) fun _ _ h' => h')
    cases ok with
    | false => exact wpAny_pure ⟨rfl, h₃⟩
    | true =>
      exact wpAny_bind (wpAny_bind (wpAny_mono h₃ (fun x s₄ h₄ => wpAny_bind (wpAny_mono h₄ (fun _ s₅ h₅ => wpAny_pure (wpAny_pure ⟨rfl, h₅⟩)) fun _ _ h' => h')) fun _ _ h' => h'))
end
def CompRestPT (prog : Program) (w : World) (A : Around) (h₀ : Heap) (L : Addr) (m : Str → Option Value) (env : Env) (ct elt : Expr) (x x₂ : Str) (scope : Scope) (cl : List (Str × Addr)) (s : Shared) (S : Led → Prop) (P : Nat → Value → Prop)
    (Fin : List Value → Led → Prop) : Nat → Nat → List Value → Led → Prop
  | 0, _, ys, news => Fin ys news
  | k + 1, i, ys, news => ∀ v, P i v → ∃ (t : Addr) (ot : Obj) (v₁ v₂ : Value) (nt : Nat), v = .ref t ∧ (t, ot) ∈ news ∧ ot.cls = .type "tuple" ∧ ot.data = .seq #[v₁, v₂] nt ∧
      ∀ I oI C oC D m₂ h tk (E' : Value → Shared → Prop), NsObj oC m₂ → m₂ x = some v₁ → m₂ x₂ = some v₂ → Fr h₀ L h m → News h₀ L h ((I, oI) :: (C, oC) :: (D, lst ys) :: news) → Off3 I C D news → ((@Ne Nat I C) ∧ (@Ne Nat I D) ∧ (@Ne Nat C D)) →
      wpAny (model prog w) A (isTrue ct (compEnvC scope cl C env) (eval ct (compEnvC scope cl C env))) (fun ok s' => if ok = true then
        wpAny (model prog w) A (eval elt (compEnvC scope cl C env)) (CompEnd h₀ L m { s with heap := h, toks := tk } I oI C oC D (lst ys) S (fun y news' => CompRestPT prog w A h₀ L m env ct elt x x₂ scope cl s S P Fin k (i + 1) (ys ++ [y]) news')) E' s'
        else CompEnd h₀ L m { s with heap := h, toks := tk } I oI C oC D (lst ys) S (fun _ news' => CompRestPT prog w A h₀ L m env ct elt x x₂ scope cl s S P Fin k (i + 1) ys news') Value.none s') E' { s with heap := h, toks := tk }
section
variable {prog : Program} {w : World} {A : Around} {E : Value → Shared → Prop} {s : Shared} {h₀ : Heap} {L : Addr} {m : Str → Option Value} {env : Env}
inductive Ex6 {α β γ δ ε ζ : Type} (P : α → β → γ → δ → ε → ζ → Prop) : Prop
  | mk (a : α) (b : β) (c : γ) (d : δ) (e : ε) (f : ζ) : P a b c d e f → Ex6 P
inductive And11 (a b c d e f g h i j k : Prop) : Prop
  | mk : a → b → c → d → e → f → g → h → i → j → k → And11 a b c d e f g h i j k
theorem block_PT {ct elt iter : Expr} {x x₂ : Str} {px px₂ tp : Pos} {tk} {scope : Scope} {cl : List (Str × Addr)} {pos : Pos} {s₂ : Shared} {I : Addr} {fp : List Addr} {n : Nat} {P : Nat → Value → Prop} {St : Nat → Heap → Prop} {S : List (Addr × Obj) → Prop} {news : List (Addr × Obj)}
    {Fin : List Value → List (Addr × Obj) → Prop} {RR : Value → Addr → Result → Shared → Prop}
    (W : Walks prog w A I fp [I] n P St) (hsz : n ≤ sizeLine) (hIo : ∀ i h, St i h → ∃ o, h.get? I = some o)
    (hSt : ∀ i h h' o nw, St i h → h.get? I = some o → h'.get? I = some o → (∀ b o, h₀.get? b = some o → h'.get? b = some o) → News h₀ L h' nw → S nw → St i h')
    (hcell : ∀ y ∈ scope.names, y.2 ≠ .cell) (hkind : scope.kind = .function) (hx : scope.names.lookup x = some .local) (hx₂ : scope.names.lookup x₂ = some .local) (hxx : x ≠ x₂) (hh : A.handled = none) (hLI : ∀ i h, St i h → ∃ l j, h.IsListIter I l j) (hst : St 0 s₂.heap) (hfp : ∀ b ∈ fp, b < s₂.heap.objs.size)
    (F : Fr h₀ L s₂.heap m) (N : News h₀ L s₂.heap news) (hIL : L ≠ I) (hI₀ : h₀.get? I = none) (off : ∀ p ∈ news, p.1 ≠ I) (hS : S news)
    (R : CompRestPT prog w A h₀ L m env ct elt x x₂ scope cl s₂ S P Fin n 0 [] news)
    (hRR : ∀ D C h tk m' ys news', Fr h₀ L h m → News h₀ L h ((D, lst ys) :: news') → Off1 D news' → h.Ns C m' → h₀.get? C = none → h₀.get? D = none → C ≠ L → D ≠ L → C ≠ D → (∀ p ∈ news', p.1 ≠ C) → Fin ys news' → RR (.ref D) C (.ok .next) { s₂ with heap := h, toks := tk }) :
    wpAny (model prog w) A (newList []) (fun acc s₃ => wpAny (model prog w) A (newFunctionEnv scope env.globals cl [] env.qual none .none (some env)) (fun cenv s₄ =>
      codeAny (model prog w) A (.compStart (.ListComp elt [⟨.Tuple [.Name x px, .Name x₂ px₂] tk tp, iter, [ct], 0⟩] scope pos) 0 (.ref I) acc { cenv with scope := relabel scope env }) (RR acc cenv.locals) s₄) E s₃) E s₂ := by
  refine wpAny_newObj_type (wpAny_newFunctionEnv hcell (by intro y hy; simp at hy) (fun h₁ hns₁ hsb₁ => ?_) hkind)
  dsimp only at hns₁ hsb₁ ⊢
  generalize hH2 : s₂.heap.push { cls := .type "list", dict := none, data := .seq ([] : List Value).toArray } = H2 at hns₁ hsb₁ ⊢
  have hC : H2.objs.size = s₂.heap.objs.size + 1 := by rw [← hH2, Heap.size_push]
  have hDC : s₂.heap.objs.size ≠ H2.objs.size := by rw [hC]; exact Nat.ne_of_lt (Nat.lt_succ_self _)
  have below : ∀ b, b < s₂.heap.objs.size → b ≠ H2.objs.size ∧ b ≠ s₂.heap.objs.size := fun b hb => ⟨by rw [hC]; exact Nat.ne_of_lt (Nat.lt_succ_of_lt hb), Nat.ne_of_lt hb⟩
  have hDf : s₂.heap.objs.size ∉ fp := fun hm => Nat.lt_irrefl _ (hfp _ hm)
  have hCf : H2.objs.size ∉ fp := fun hm => by have := hfp _ hm; rw [hC] at this; exact Nat.lt_irrefl _ (Nat.lt_of_succ_lt this)
  have hIf : I ∈ fp := W.sub I (List.mem_singleton.mpr rfl)
  have hIlt : I < s₂.heap.objs.size := hfp I hIf
  have old : ∀ b o, s₂.heap.get? b = some o → h₁.get? b = some o := fun b o e => hsb₁.extBut b o (below b (Heap.lt_size e)).1 (Heap.get?_push_of_some _ (hH2 ▸ Heap.get?_push_of_some _ e))
  have hacc : h₁.get? s₂.heap.objs.size = some (lst []) := hsb₁.extBut _ _ hDC (Heap.get?_push_of_some _ (hH2 ▸ Heap.get?_push_size _ rfl))
  have hst₁ : St 0 h₁ := W.frame _ _ _ hst fun b _ o e => old b o e
  have fresh : ∀ a, s₂.heap.objs.size ≤ a → s₂.heap.get? a = none := fun a ha => by
    cases e : s₂.heap.get? a with
    | none => rfl
    | some o' => exact absurd (Heap.lt_size e) (Nat.not_lt.mpr ha)
  have fresh₀ : ∀ a, s₂.heap.objs.size ≤ a → h₀.get? a = none := fun a ha => by
    cases e : h₀.get? a with
    | none => rfl
    | some o' => have := F.keep a o' e; rw [fresh a ha] at this; cases this
  have hD₀ : h₀.get? s₂.heap.objs.size = none := fresh₀ _ (Nat.le_refl _)
  have hC₀ : h₀.get? H2.objs.size = none := fresh₀ _ (by rw [hC]; exact Nat.le_succ _)
  have hLlt : L < s₂.heap.objs.size := F.ns.lt
  have hDL : s₂.heap.objs.size ≠ L := Ne.symm (below L hLlt).2
  have hCL : H2.objs.size ≠ L := Ne.symm (below L hLlt).1
  have hCI : I ≠ H2.objs.size := (below I hIlt).1
  have hDI : I ≠ s₂.heap.objs.size := (below I hIlt).2
  have off₀ : Off3 I H2.objs.size s₂.heap.objs.size news := Off3.of fun p hp => ⟨off p hp, (below _ (Heap.lt_size (N p hp).1)).1, (below _ (Heap.lt_size (N p hp).1)).2⟩
  have loop : ∀ s₃ : Shared, s₃ = { s₂ with heap := h₁, toks := s₂.toks + ([] : List (Str × Value)).length } →
      codeAny (model prog w) A (.compLoop (.ListComp elt [⟨.Tuple [.Name x px, .Name x₂ px₂] tk tp, iter, [ct], 0⟩] scope pos) 0 (.ref I) (.ref s₂.heap.objs.size) (compEnvC scope cl H2.objs.size env))
        (RR (.ref s₂.heap.objs.size) H2.objs.size) s₃ := by
    rintro s₃ rfl
    refine codeAny_compLoop_pt
      (fun k s' => Ex6 fun h' tk i ys m' news' => And11 (s' = { s₂ with heap := h', toks := tk }) (i ≤ n) (k = n + 1 - i) (ys.length ≤ i) (St i h') (Fr h₀ L h' m) (h'.Ns H2.objs.size m') (News h₀ L h' ((s₂.heap.objs.size, lst ys) :: news'))
        (Off3 I H2.objs.size s₂.heap.objs.size news') (S news') (CompRestPT prog w A h₀ L m env ct elt x x₂ scope cl s₂ S P Fin (n - i) i ys news')) ?_ (n + 1)
      ⟨h₁, _, 0, [], _, news, rfl, Nat.zero_le _, rfl, Nat.le_refl _, hst₁, F.keeps old, hns₁, fun p hp => ?_, off₀, hS, R⟩
    · rintro k s' ⟨h', tk, i, ys, m', news', rfl, hi, rfl, hyl, hst', F', hn', N', off', hS', R'⟩
      by_cases hlt : i < n
      · obtain ⟨j, hj⟩ : ∃ j, n - i = j + 1 := ⟨n - i - 1, by omega⟩
        rw [hj] at R'
        refine W.item i _ _ _ hlt hst' fun v h₂ tk₂ hPv hst₂ hk₂ => ?_
        obtain ⟨t, ot, v₁, v₂, nt, rfl, hmt, hct, hdt, R''⟩ := R' v hPv
        have off3 := off'.mem
        have N₂ : News h₀ L h₂ ((s₂.heap.objs.size, lst ys) :: news') := news_but N' hk₂ fun p hp => by
          rcases List.mem_cons.mp hp with rfl | hp
          · exact Ne.symm hDI
          · exact (off3 p hp).1
        have ht : IsTup h₂ t #[v₁, v₂] := ⟨ot, (N₂ _ (List.mem_cons_of_mem _ hmt)).1, hct, nt, hdt⟩
        obtain ⟨lI, jI, hLi⟩ := hLI _ _ hst₂
        refine wpAny_letOwnedTupleGo_listiter hLi ?_
        refine assign_Tuple_tuple hh ht rfl rfl fun h₅ he => ?_
        have he' : ∀ b o, h₂.get? b = some o → h₅.get? b = some o := fun b o e => he b o (Nat.ne_of_lt (Heap.lt_size e)) e
        refine assignInOrder_cons (wpAny_assign_Name (wpAny_storeName_local (lookup_relabel_local hx) ((hn'.at' fun o e => hk₂ _ o (by simpa using Ne.symm hCI) e).at' fun o e => he' _ o e) (fun h₆ hn₆ hs₆ => ?_) (by simp [compEnvC, relabel, hkind])))
        refine assignInOrder_cons (wpAny_assign_Name (wpAny_storeName_local (lookup_relabel_local hx₂) hn₆ (fun h₃ hn₃ hs₃ => ?_) (by simp [compEnvC, relabel, hkind])))
        refine assignInOrder_nil ?_
        refine wpAny_tests_one ?_
        have old3 : ∀ b o, b ≠ H2.objs.size → h₂.get? b = some o → h₃.get? b = some o := fun b o hb e => hs₃.extBut b o hb (hs₆.extBut b o hb (he' b o e))
        have hst₃ : St (i + 1) h₃ := W.frame _ _ _ hst₂ fun b hb o e => old3 b o (fun q => hCf (by rw [← q]; exact hb)) e
        obtain ⟨oI, heI⟩ := hIo _ _ hst₃
        obtain ⟨oC, heC, hoC⟩ := ns_obj hn₃
        have F₃ : Fr h₀ L h₃ m := (((fr_but F' hk₂ hIL hI₀).keeps he').change hs₆ hCL hC₀).change hs₃ hCL hC₀
        have N₃ : News h₀ L h₃ ((I, oI) :: (H2.objs.size, oC) :: (s₂.heap.objs.size, lst ys) :: news') := fun p hp => by
          rcases List.mem_cons.mp hp with rfl | hp
          · exact ⟨heI, Ne.symm hIL, hI₀⟩
          · rcases List.mem_cons.mp hp with rfl | hp
            · exact ⟨heC, hCL, hC₀⟩
            · have z := N₂ p hp
              refine ⟨old3 _ _ ?_ z.1, z.2⟩
              rcases List.mem_cons.mp hp with rfl | hp
              · exact hDC
              · exact (off3 p hp).2.1
        refine wpAny_mono (R'' I oI H2.objs.size oC s₂.heap.objs.size _ h₃ _ _ hoC (by simp [hxx]) (by simp) F₃ N₃ off' ⟨hCI, hDI, Ne.symm hDC⟩) (fun ok s₄ h₄ => ?_) fun _ _ e => e
        cases ok with
        | true =>
          simp only [if_true] at h₄ ⊢
          refine wpAny_mono h₄ (fun y s₅ h₅ => ?_) fun _ _ e => e
          obtain ⟨h₄, tk₄, news₄, rfl, F₄, N₄, off₄, hS₄, R₄⟩ := h₅
          have zI := (N₄ (I, oI) List.mem_cons_self).1
          have zC := (N₄ (H2.objs.size, oC) (List.mem_cons_of_mem _ List.mem_cons_self)).1
          have zD := (N₄ (s₂.heap.objs.size, lst ys) (List.mem_cons_of_mem _ (List.mem_cons_of_mem _ List.mem_cons_self))).1
          have N₄' : News h₀ L h₄ news₄ := fun p hp => N₄ p (List.mem_cons_of_mem _ (List.mem_cons_of_mem _ (List.mem_cons_of_mem _ hp)))
          have hst₄ : St (i + 1) h₄ := hSt _ _ _ _ _ hst₃ heI zI F₄.keep N₄' hS₄
          refine append_at (hsz := by show ys.toArray.size ≤ sizeLine; rw [List.size_toArray]; exact Nat.le_trans (Nat.le_trans hyl hi) hsz) zD fun h₅ hs₅ hD₅ => ?_
          have off4 := off₄.mem
          refine ⟨n + 1 - (i + 1), by omega, h₅, tk₄, i + 1, ys ++ [y], _, news₄, rfl, hlt, rfl, by rw [List.length_append, List.length_singleton]; exact Nat.succ_le_succ hyl, W.frame _ _ _ hst₄ fun b hb o e => hs₅.extBut b o (fun q => hDf (q ▸ hb)) e, F₄.change hs₅ hDL hD₀,
            (hoC.ns zC).sameBut hs₅ (Ne.symm hDC), fun p hp => ?_, off₄, hS₄, ?_⟩
          · rcases List.mem_cons.mp hp with rfl | hp
            · exact ⟨hD₅.trans (congrArg some (lst_snoc ys y)), hDL, hD₀⟩
            · exact ⟨hs₅.extBut _ _ (off4 p hp).2.2 (N₄' p hp).1, (N₄' p hp).2⟩
          · rw [show n - (i + 1) = j by omega]
            exact R₄
        | false =>
          simp only [Bool.false_eq_true, if_false] at h₄ ⊢
          obtain ⟨h₅, tk₄, news₄, rfl, F₄, N₄, off₄, hS₄, R₄⟩ := h₄
          have zI := (N₄ (I, oI) List.mem_cons_self).1
          have zC := (N₄ (H2.objs.size, oC) (List.mem_cons_of_mem _ List.mem_cons_self)).1
          have N₄' : News h₀ L h₅ news₄ := fun p hp => N₄ p (List.mem_cons_of_mem _ (List.mem_cons_of_mem _ (List.mem_cons_of_mem _ hp)))
          have hst₄ : St (i + 1) h₅ := hSt _ _ _ _ _ hst₃ heI zI F₄.keep N₄' hS₄
          refine ⟨n + 1 - (i + 1), by omega, h₅, tk₄, i + 1, ys, _, news₄, rfl, hlt, rfl, Nat.le_succ_of_le hyl, hst₄, F₄, hoC.ns zC, fun p hp => ?_, off₄, hS₄, ?_⟩
          · rcases List.mem_cons.mp hp with rfl | hp
            · exact N₄ _ (List.mem_cons_of_mem _ (List.mem_cons_of_mem _ List.mem_cons_self))
            · exact N₄' p hp
          · rw [show n - (i + 1) = j by omega]
            exact R₄
      · obtain rfl : i = n := Nat.le_antisymm hi (Nat.not_lt.mp hlt)
        rw [Nat.sub_self] at R'
        refine W.done _ _ _ hst' fun h₂ tk₂ hk₂ => ?_
        have off3 := off'.mem
        exact hRR _ _ h₂ tk₂ _ ys news' (fr_but F' hk₂ hIL hI₀) (news_but N' hk₂ fun p hp => by
          rcases List.mem_cons.mp hp with rfl | hp
          · exact Ne.symm hDI
          · exact (off3 p hp).1) off'.one (hn'.at' fun o e => hk₂ _ o (by simpa using Ne.symm hCI) e) hC₀ hD₀ hCL hDL (Ne.symm hDC) (fun p hp => (off3 p hp).2.1) R'
    · rcases List.mem_cons.mp hp with rfl | hp
      · exact ⟨hacc, hDL, hD₀⟩
      · exact ⟨old _ _ (N p hp).1, (N p hp).2⟩
  exact codeAny_compStart_list (loop _ rfl) (W.self 0 _ _ _ hst₁ (loop _ rfl))

def SrcLPT (prog : Program) (w : World) (A : Around) (h₀ : Heap) (L : Addr) (m : Str → Option Value) (env : Env) (ct elt : Expr) (x x₂ : Str) (scope : Scope) (cl : List (Str × Addr)) (Fin : Shared → List Value → Led → Prop) (xv : Value) (s₁ : Shared) : Prop :=
  ∃ ax its news, xv = .ref ax ∧ A.handled = none ∧ Fr h₀ L s₁.heap m ∧ News h₀ L s₁.heap news ∧ SrcAt h₀ ax its news ∧ its.size ≤ sizeLine ∧
    ∀ s₂ : Shared, (∃ h, s₂ = { s₁ with heap := h }) → CompRestPT prog w A h₀ L m env ct elt x x₂ scope cl s₂ (SrcAt h₀ ax its) (fun i v => its[i]? = some v) (Fin s₂) its.size 0 [] news
theorem ListComp_PT {ct elt iter : Expr} {x x₂ : Str} {px px₂ tp : Pos} {tk} {scope : Scope} {cl : List (Str × Addr)} {pos : Pos} {Q : Value → Shared → Prop} (F₀ : Fr h₀ L s.heap m)
    (hclos : closureFor scope env = pure cl) (hcell : ∀ y ∈ scope.names, y.2 ≠ .cell) (hkind : scope.kind = .function)
    (hnames : ∀ y ∈ scope.names, y.2 = .local → scope.names.lookup y.1 = some .local) (hx : scope.names.lookup x = some .local) (hx₂ : scope.names.lookup x₂ = some .local) (hxx : x ≠ x₂)
    (h : wpAny (model prog w) A (eval iter env) (SrcLPT prog w A h₀ L m env ct elt x x₂ scope cl (fun s₂ => FinE h₀ L m s₂ Q)) E s)
    (hs : ∀ x, foldedSetIterable iter env x = pure x := by intro _; rfl) :
    wpAny (model prog w) A (eval (.ListComp elt [⟨.Tuple [.Name x px, .Name x₂ px₂] tk tp, iter, [ct], 0⟩] scope pos) env) Q E s := by
  rw [eval_ListComp]
  refine wpAny_comprehension_free (use := none) rfl hs hclos hkind hnames (wpAny_mono h (fun xv s₁ h₁ => ?_) fun _ _ e => e)
  obtain ⟨ax, its, news, rfl, hh, F, N, S, hsz, R⟩ := h₁
  · have hl := S.list F.keep N
    have hlt : ax < s₁.heap.objs.size := by obtain ⟨_, e, _⟩ := hl; exact Heap.lt_size e
    refine wpAny_pyIter_list hl ?_
    have up : ∀ b o, s₁.heap.get? b = some o → (s₁.heap.push { cls := .type "list_iterator", data := .fields #[.ref ax, .int 0 0] }).get? b = some o := fun b o e => Heap.get?_push_of_some _ e
    refine block_PT (Walks.list hh s₁.heap.objs.size ax (Nat.ne_of_lt hlt) its) hsz (fun i h st => by obtain ⟨o, e, _⟩ := st.1; exact ⟨o, e⟩) list_st hcell hkind hx hx₂ hxx hh (fun i h st => ⟨_, _, st.1⟩) ⟨⟨_, Heap.get?_push_size _ rfl, rfl, rfl⟩, hl.push _⟩ (fun b hb => ?_)
      (F.keeps up) (N.grown up) (Nat.ne_of_lt F.ns.lt) (next_is_new F) (fun p hp => Nat.ne_of_lt (Heap.lt_size (N p hp).1)) S (R _ ⟨_, rfl⟩) ?_
    · show b < (s₁.heap.push _).objs.size
      rw [Heap.size_push]
      rcases List.mem_cons.mp hb with rfl | hb
      · exact Nat.lt_succ_self _
      · rw [List.mem_singleton.mp hb]; exact Nat.lt_succ_of_lt hlt
    · intro D C h tk m' ys news' F' N' o1 hn hC₀ hD₀ hCL hDL hCD offC fin
      refine ⟨m', hn, fun h'' hs'' => fin D h'' tk (F'.change hs'' hCL hC₀) (fun p hp => ?_) o1⟩
      refine ⟨hs''.extBut _ _ ?_ (N' p hp).1, (N' p hp).2⟩
      rcases List.mem_cons.mp hp with rfl | hp
      · exact Ne.symm hCD
      · exact offC p hp

theorem Assign_ListComp_PT {ct elt iter : Expr} {x x₂ y : Str} {px px₂ tp py : Pos} {tk} {scope : Scope} {cl : List (Str × Addr)} {pos spos : Pos} {Q : Flow → Shared → Prop} (F₀ : Fr h₀ L s.heap m) (hLe : env.locals = L)
    (hsw : swapsWith (.ListComp elt [⟨.Tuple [.Name x px, .Name x₂ px₂] tk tp, iter, [ct], 0⟩] scope pos) (some (.Name y py)) spos.line env = pure true)
    (hclos : closureFor scope env = pure cl) (hcell : ∀ z ∈ scope.names, z.2 ≠ .cell) (hkind : scope.kind = .function)
    (hnames : ∀ z ∈ scope.names, z.2 = .local → scope.names.lookup z.1 = some .local) (hx : scope.names.lookup x = some .local) (hx₂ : scope.names.lookup x₂ = some .local) (hxx : x ≠ x₂)
    (hy : env.kindOf y = some .local) (hp : (env.scope.kind == .class || (env.scope.kind == .module && env.locals != env.globals)) = false)
    (h : wpAny (model prog w) A (eval iter env) (SrcLPT prog w A h₀ L m env ct elt x x₂ scope cl (fun s₂ => FinA h₀ L m s₂ y Q)) E s)
    (hs : ∀ x, foldedSetIterable iter env x = pure x := by intro _; rfl) :
    wpAny (model prog w) A (exec (.Assign [.Name y py] (.ListComp elt [⟨.Tuple [.Name x px, .Name x₂ px₂] tk tp, iter, [ct], 0⟩] scope pos) spos) env) Q E s := by
  subst hLe
  rw [exec_Assign_Name_used _ _ _ _ hsw]
  refine wpAny_bind (wpAny_standAt (wpAny_bind ?_))
  show wpAny _ A (do let _ ← comprehension (.ListComp elt [⟨.Tuple [.Name x px, .Name x₂ px₂] tk tp, iter, [ct], 0⟩] scope pos) scope env _ (newList []) false (eval iter env) (some (assign (.Name y py) env))) _ _ s
  refine wpAny_bind (wpAny_mono (wpAny_comprehension_free (use := some (assign (.Name y py) env)) (Q := fun _ s' => Q .next s') rfl hs hclos hkind hnames
    (wpAny_mono h (fun xv s₁ h₁ => ?_) fun _ _ e => e)) (fun _ s' hq => wpAny_pure (wpAny_pure hq)) fun _ _ e => e)
  obtain ⟨ax, its, news, rfl, hh, F, N, S, hsz, R⟩ := h₁
  · have hl := S.list F.keep N
    have hlt : ax < s₁.heap.objs.size := by obtain ⟨_, e, _⟩ := hl; exact Heap.lt_size e
    refine wpAny_pyIter_list hl ?_
    have up : ∀ b o, s₁.heap.get? b = some o → (s₁.heap.push { cls := .type "list_iterator", data := .fields #[.ref ax, .int 0 0] }).get? b = some o := fun b o e => Heap.get?_push_of_some _ e
    refine block_PT (Walks.list hh s₁.heap.objs.size ax (Nat.ne_of_lt hlt) its) hsz (fun i h st => by obtain ⟨o, e, _⟩ := st.1; exact ⟨o, e⟩) list_st hcell hkind hx hx₂ hxx hh (fun i h st => ⟨_, _, st.1⟩) ⟨⟨_, Heap.get?_push_size _ rfl, rfl, rfl⟩, hl.push _⟩ (fun b hb => ?_)
      (F.keeps up) (N.grown up) (Nat.ne_of_lt F.ns.lt) (next_is_new F) (fun p hp => Nat.ne_of_lt (Heap.lt_size (N p hp).1)) S (R _ ⟨_, rfl⟩) ?_
    · show b < (s₁.heap.push _).objs.size
      rw [Heap.size_push]
      rcases List.mem_cons.mp hb with rfl | hb
      · exact Nat.lt_succ_self _
      · rw [List.mem_singleton.mp hb]; exact Nat.lt_succ_of_lt hlt
    · intro D C h' tk m' ys news' F' N' o1 hn hC₀ hD₀ hCL hDL hCD offC fin
      show wpAny _ A (assign (.Name y py) env (.ref D)) _ _ _
      refine wpAny_assign_Name (wpAny_storeName_local hy F'.ns (fun h₂ hn₂ hs₂ => ?_) hp)
      have hL₀ : h₀.get? env.locals = none := Heap.get?_none_of_le F'.above
      have F₂ : Fr h₀ env.locals h₂ (fun z => if z = y then some (.ref D) else m z) := ⟨hn₂, fun b o e => hs₂.extBut b o (fun q => by rw [q, hL₀] at e; cases e) (F'.keep b o e), F'.above⟩
      refine ⟨m', hn.sameBut hs₂ hCL, fun h'' hs'' => fin D h'' _ (F₂.change hs'' hCL hC₀) (fun p hp => ?_) o1⟩
      have z : h₂.get? p.1 = some p.2 := hs₂.extBut _ _ (N' p hp).2.1 (N' p hp).1
      refine ⟨hs''.extBut _ _ ?_ z, (N' p hp).2⟩
      rcases List.mem_cons.mp hp with rfl | hp
      · exact Ne.symm hCD
      · exact offC p hp
end
end LCpt

abbrev Fld := Array UInt8 × Array UInt8
def PairAt (news : Led) (p : Fld) (v : Value) : Prop := ∃ t o nt tn tx, v = .ref t ∧ (t, o) ∈ news ∧ o = { cls := .type "tuple", data := .seq #[.bytes p.1 tn, .bytes p.2 tx] nt }
inductive Prs {α : Type} (R : α → Value → Prop) : List Value → List α → Prop
  | nil : Prs R [] []
  | cons {v a vs as} : R a v → Prs R vs as → Prs R (v :: vs) (a :: as)
theorem Prs.length {α : Type} {R : α → Value → Prop} {vs as} (h : Prs R vs as) : vs.length = as.length := by
  induction h with
  | nil => rfl
  | cons _ _ ih => simp [ih]
theorem Prs.get {α : Type} {R : α → Value → Prop} {vs as} (h : Prs R vs as) : ∀ {i : Nat} {v}, vs[i]? = some v → ∃ a, as[i]? = some a ∧ R a v := by
  induction h with
  | nil => intro i v e; simp at e
  | cons hr _ ih =>
    intro i v e
    cases i with
    | zero => simp at e; subst e; exact ⟨_, by simp, hr⟩
    | succ i => simpa using ih (by simpa using e)
theorem Prs.mono {α : Type} {R R' : α → Value → Prop} {vs as} (h : Prs R vs as) (hm : ∀ a v, R a v → R' a v) : Prs R' vs as := by
  induction h with
  | nil => exact .nil
  | cons hr _ ih => exact .cons (hm _ _ hr) ih
theorem Prs.append {α : Type} {R : α → Value → Prop} {vs as vs' as'} (h : Prs R vs as) (h' : Prs R vs' as') : Prs R (vs ++ vs') (as ++ as') := by
  induction h with
  | nil => exact h'
  | cons hr _ ih => exact .cons hr ih
def FieldsAt (news : Led) (fl : List Fld) (a : Addr) : Prop := ∃ its k, (a, W.listOf its k) ∈ news ∧ Prs (PairAt news) its.toList fl ∧ its.size ≤ 30
theorem PairAt.mono {a b : Led} (hs : ∀ p ∈ a, p ∈ b) {f v} (h : PairAt a f v) : PairAt b f v := by
  obtain ⟨t, o, nt, tn, tx, e, hm, r⟩ := h
  exact ⟨t, o, nt, tn, tx, e, hs _ hm, r⟩
theorem FieldsAt.mono {a b : Led} (hs : ∀ p ∈ a, p ∈ b) {f v} (h : FieldsAt a f v) : FieldsAt b f v := by
  obtain ⟨its, k, hm, h3, h4⟩ := h
  exact ⟨its, k, hs _ hm, h3.mono fun _ _ => PairAt.mono hs, h4⟩
theorem BytesAre.append {vs ws ns ms} (h : BytesAre vs ns) (h' : BytesAre ws ms) : BytesAre (vs ++ ws) (ns ++ ms) := by
  induction h with
  | nil => exact h'
  | cons y t _ ih => exact .cons y t ih
section
open LCg LCp LCpt
variable {prog : Program} {w : World} {A : Around} {E : Value → Shared → Prop} {s₁ : Shared} {h₀ : Heap} {L : Addr} {m : Str → Option Value} {env : Env}
theorem srcLP_fields {elt : Expr} {x x₂ : Str} {scope : Scope} {cl : List (Str × Addr)} {Fin : Shared → List Value → Led → Prop} {ax : Addr} {news : Led} {fl : List Fld} (f : Fld → Int)
    (hh : A.handled = none) (F : Fr h₀ L s₁.heap m) (N : News h₀ L s₁.heap news) (hf : FieldsAt news fl ax)
    (hfin : ∀ ys g, IntsAre ys (fl.map f) → Fin { s₁ with heap := g } ys news)
    (step : ∀ (p : Fld) tn ty ys I oI C oC D m₂ h tk (E' : Value → Shared → Prop), p ∈ fl → NsObj oC m₂ → m₂ x = some (.bytes p.1 tn) → m₂ x₂ = some (.bytes p.2 ty) → Fr h₀ L h m → News h₀ L h ((I, oI) :: (C, oC) :: (D, lst ys) :: news) → Off3 I C D news → ((@Ne Nat I C) ∧ (@Ne Nat I D) ∧ (@Ne Nat C D)) →
      wpAny (model prog w) A (eval elt (compEnvC scope cl C env)) (CompEnd h₀ L m { s₁ with heap := h, toks := tk } I oI C oC D (lst ys) (fun _ => True) (fun y news' => news' = news ∧ ∃ t, y = .int (f p) t)) E' { s₁ with heap := h, toks := tk }) :
    SrcLP prog w A h₀ L m env elt x x₂ scope cl Fin (.ref ax) s₁ := by
  obtain ⟨its, k, hm, hp, hz⟩ := hf
  have hS : SrcAt h₀ ax its news := .inr ⟨_, hm, rfl, k, rfl⟩
  refine ⟨ax, its, news, rfl, hh, F, N, hS, Nat.le_trans hz (by decide), ?_⟩
  rintro _ ⟨g, rfl⟩
  have hlen : its.size = fl.length := by rw [← hp.length]; simp
  suffices H : ∀ k i ys, k + i = its.size → IntsAre ys ((fl.take i).map f) → CompRestP prog w A h₀ L m env elt x x₂ scope cl { s₁ with heap := g } (SrcAt h₀ ax its) (fun i v => its[i]? = some v) (Fin { s₁ with heap := g }) k i ys news from H its.size 0 [] rfl .nil
  intro k
  induction k with
  | zero =>
    intro i ys hk hy
    refine .zero (hfin ys g ?_)
    rw [List.take_of_length_le (by omega)] at hy
    exact hy
  | succ k ih =>
    intro i ys hk hy
    refine .succ fun v hv => ?_
    obtain ⟨p, hpi, t, o, nt, tn, tx, rfl, hmt, rfl⟩ := hp.get (i := i) (v := v) (by simpa using hv)
    refine ⟨t, _, _, _, nt, rfl, hmt, rfl, rfl, fun I oI C oC D m₂ h tk E' hC hx hx₂ F' N' off ne => ?_⟩
    refine wpAny_mono (step p tn tx ys I oI C oC D m₂ h tk E' (List.mem_of_getElem? hpi) hC hx hx₂ F' N' off ne) (fun y s₄ h₄ => ?_) fun _ _ e => e
    obtain ⟨h', tk', news', e1, e2, e3, e4, _, rfl, t', rfl⟩ := h₄
    refine ⟨h', tk', news', e1, e2, e3, e4, hS, ih (i + 1) _ (by omega) ?_⟩
    rw [List.take_add_one, hpi]
    simp only [Option.toList, List.map_append, List.map_cons, List.map_nil]
    exact hy.append (.cons _ _ .nil)
theorem srcLPT_fields {ct elt : Expr} {x x₂ : Str} {scope : Scope} {cl : List (Str × Addr)} {Fin : Shared → List Value → Led → Prop} {ax : Addr} {news : Led} {fl : List Fld} (q : Fld → Bool)
    (hh : A.handled = none) (F : Fr h₀ L s₁.heap m) (N : News h₀ L s₁.heap news) (hf : FieldsAt news fl ax)
    (hfin : ∀ ys g, BytesAre ys ((fl.filter q).map (·.2)) → Fin { s₁ with heap := g } ys news)
    (step : ∀ (p : Fld) tn ty ys I oI C oC D m₂ h tk (E' : Value → Shared → Prop), p ∈ fl → NsObj oC m₂ → m₂ x = some (.bytes p.1 tn) → m₂ x₂ = some (.bytes p.2 ty) → Fr h₀ L h m → News h₀ L h ((I, oI) :: (C, oC) :: (D, lst ys) :: news) → Off3 I C D news → ((@Ne Nat I C) ∧ (@Ne Nat I D) ∧ (@Ne Nat C D)) →
      wpAny (model prog w) A (isTrue ct (compEnvC scope cl C env) (eval ct (compEnvC scope cl C env))) (fun ok s' => ok = q p ∧ if ok = true then
        wpAny (model prog w) A (eval elt (compEnvC scope cl C env)) (CompEnd h₀ L m { s₁ with heap := h, toks := tk } I oI C oC D (lst ys) (fun _ => True) (fun y news' => news' = news ∧ ∃ t, y = .bytes p.2 t)) E' s'
        else CompEnd h₀ L m { s₁ with heap := h, toks := tk } I oI C oC D (lst ys) (fun _ => True) (fun _ news' => news' = news) Value.none s') E' { s₁ with heap := h, toks := tk }) :
    SrcLPT prog w A h₀ L m env ct elt x x₂ scope cl Fin (.ref ax) s₁ := by
  obtain ⟨its, k, hm, hp, hz⟩ := hf
  have hS : SrcAt h₀ ax its news := .inr ⟨_, hm, rfl, k, rfl⟩
  refine ⟨ax, its, news, rfl, hh, F, N, hS, Nat.le_trans hz (by decide), ?_⟩
  rintro _ ⟨g, rfl⟩
  have hlen : its.size = fl.length := by rw [← hp.length]; simp
  suffices H : ∀ k i ys, k + i = its.size → BytesAre ys (((fl.take i).filter q).map (·.2)) → CompRestPT prog w A h₀ L m env ct elt x x₂ scope cl { s₁ with heap := g } (SrcAt h₀ ax its) (fun i v => its[i]? = some v) (Fin { s₁ with heap := g }) k i ys news from H its.size 0 [] rfl .nil
  intro k
  induction k with
  | zero =>
    intro i ys hk hy
    rw [List.take_of_length_le (by omega)] at hy
    exact hfin ys g hy
  | succ k ih =>
    intro i ys hk hy v hv
    obtain ⟨p, hpi, t, o, nt, tn, tx, rfl, hmt, rfl⟩ := hp.get (i := i) (v := v) (by simpa using hv)
    refine ⟨t, _, _, _, nt, rfl, hmt, rfl, rfl, fun I oI C oC D m₂ h tk E' hC hx hx₂ F' N' off ne => ?_⟩
    refine wpAny_mono (step p tn tx ys I oI C oC D m₂ h tk E' (List.mem_of_getElem? hpi) hC hx hx₂ F' N' off ne) (fun ok s₄ h₄ => ?_) fun _ _ e => e
    obtain ⟨hok, h₄⟩ := h₄
    cases ok with
    | true =>
      rw [if_pos rfl] at h₄ ⊢
      refine wpAny_mono h₄ (fun y s₅ h₅ => ?_) fun _ _ e => e
      obtain ⟨h', tk', news', e1, e2, e3, e4, _, rfl, t', rfl⟩ := h₅
      refine ⟨h', tk', news', e1, e2, e3, e4, hS, ih (i + 1) _ (by omega) ?_⟩
      rw [List.take_add_one, hpi]
      simp only [Option.toList, List.filter_append, List.map_append, List.filter_cons, ← hok, if_true, List.filter_nil, List.map_cons, List.map_nil]
      exact hy.append (.cons _ _ .nil)
    | false =>
      rw [if_neg (by decide)] at h₄ ⊢
      obtain ⟨h', tk', news', e1, e2, e3, e4, _, rfl⟩ := h₄
      refine ⟨h', tk', news', e1, e2, e3, e4, hS, ih (i + 1) _ (by omega) ?_⟩
      rw [List.take_add_one, hpi]
      simpa [List.filter_append, List.filter_cons, ← hok] using hy
end
example : True := by (k_with "eval ListComp" => (k_here; (with_reducible show wpAny _ _ (eval (Expr.ListComp _ [PySem.Comprehension.mk (Expr.Tuple _ _ _) (Expr.Name _ _) [_] _] _ _) _) _ _ _); lcg_calm; k_dflt (refine LCpt.ListComp_PT (F₀ := by k_asm) (by with_unfolding_all rfl) (by decide) (by rfl) (by decide) (by rfl) (by rfl) (by decide) ?_); walk1)); trivial
example : True := by (k_with "exec Assign cons ListComp" => (k_here; (with_reducible show wpAny _ _ (exec (Stmt.Assign [Expr.Name _ _] (Expr.ListComp _ [PySem.Comprehension.mk (Expr.Tuple _ _ _) (Expr.Name _ _) [_] _] _ _) _) _) _ _ _); lcg_calm; k_dflt (refine LCpt.Assign_ListComp_PT (F₀ := by k_asm) (by rfl) (by with_unfolding_all rfl) (by with_unfolding_all rfl) (by decide) (by rfl) (by decide) (by rfl) (by rfl) (by decide) (by rfl) (by rfl) ?_); walk1)); trivial
variable {w : World} {mean : ExcName → Option Value} {mg mb : Str → Option Value} {rest : Led}
def costF (p : Fld) : Int := (p.1.size : Int) + (p.2.size : Int) + 32
def Small (fl : List Fld) : Prop := ∀ p ∈ fl, p.1.size ≤ 30 ∧ p.2.size ≤ 30
example : True := by (k_with "SrcLP" => (k_here; refine srcLP_fields costF (by rfl) (by k_asm) (by k_asm) (by assumption) ?_ ?_)); trivial
theorem cost_spec {fl : List Fld} {a : Addr} (hf : FieldsAt rest fl a) (hs : Small fl) : Does w mean mg mb 268 2 [.ref a] rest (fun v news => (∃ t, v = .int ((fl.map costF).sum) t) ∧ news = rest) := by
  unfold Does
  k_fill
  (intro dp un gd cn cs a ccd cl outer A₀ base h₀ L m s Q E B F X N T hk hdp hu hret; refine wpAny_call ?_; k_dflt cell_enter)
  k_steps
  · exact hret _ _ _ _ ⟨⟨_, rfl⟩, rfl⟩ (by assumption) (News.cut (by assumption) (by intro p hp; repeat (first | exact hp | apply List.mem_cons_of_mem)))
  · rename_i p tn ty ys I oI C oC D m2 h9 tk9 E9 hp hC hx hx2 F9 N9 off ne
    have hz1 : p.1.size ≤ 1099511627776 := Nat.le_trans (hs _ hp).1 (by decide)
    have hz2 : p.2.size ≤ 1099511627776 := Nat.le_trans (hs _ hp).2 (by decide)
    k_steps
    exact LCg.CompEnd.intro (by assumption) (by assumption) rest (fun p hp => by simp only [List.mem_cons] at hp ⊢; first | exact hp | exact .inr hp | exact .inr (.inr hp)) (by assumption) trivial ⟨rfl, _, rfl⟩
theorem section_spec {fl : List Fld} {a : Addr} (hf : FieldsAt rest fl a) (hs : Small fl) : Does w mean mg mb 242 2 [.ref a] rest (fun v news => (∃ t, v = .int ((fl.map costF).sum) t) ∧ news = rest) := by
  unfold Does
  k_fill
  (intro dp un gd cn cs a ccd cl outer A₀ base h₀ L m s Q E B F X N T hk hdp hu hret; refine wpAny_call ?_; k_dflt cell_enter)
  k_steps
  · exact hret _ _ _ _ ⟨⟨_, rfl⟩, rfl⟩ (by assumption) (News.cut (by assumption) (by intro p hp; repeat (first | exact hp | apply List.mem_cons_of_mem)))
  · rename_i p tn ty ys I oI C oC D m2 h9 tk9 E9 hp hC hx hx2 F9 N9 off ne
    have hz1 : p.1.size ≤ 1099511627776 := Nat.le_trans (hs _ hp).1 (by decide)
    have hz2 : p.2.size ≤ 1099511627776 := Nat.le_trans (hs _ hp).2 (by decide)
    k_steps
    exact LCg.CompEnd.intro (by assumption) (by assumption) rest (fun p hp => by simp only [List.mem_cons] at hp ⊢; first | exact hp | exact .inr hp | exact .inr (.inr hp)) (by assumption) trivial ⟨rfl, _, rfl⟩
def isCol (p : Fld) : Bool := p.1.toList == (#[58,115,116,97,116,117,115] : Array UInt8).toList

section
variable {prog : Program} {w : World} {A : Around} {E : Value → Shared → Prop} {s : Shared} {env : Env} {h₀ : Heap} {L d : Addr} {m : Str → Option Value} {news : Led} {g : Obj → Led} {o : Obj}
theorem bytesKind_is (b : Array UInt8) (t : Tok) : (bytesKind prog w).is b.toList (.bytes b t) = true := by simp [bytesKind, isBytes]
def bytePairs : List (Value × Value) → List (List UInt8 × Value)
  | (.bytes b _, v) :: r => (b.toList, v) :: bytePairs r
  | _ => []
def allByteKeys : List (Value × Value) → Bool
  | (.bytes _ _, _) :: r => allByteKeys r
  | [] => true
  | _ => false
theorem carries_bytePairs : ∀ vs : List (Value × Value), allByteKeys vs = true → Carries (bytesKind prog w) vs (bytePairs vs)
  | [], _ => trivial
  | (.bytes b t, v) :: r, h => ⟨bytesKind_is b t, rfl, carries_bytePairs r h⟩
  | (.none, _) :: _, h | (.ellipsis, _) :: _, h | (.notImplemented, _) :: _, h | (.bool _, _) :: _, h | (.str _ _, _) :: _, h | (.float _ _, _) :: _, h | (.int _ _, _) :: _, h | (.type _, _) :: _, h
  | (.builtin _, _) :: _, h | (.ref _, _) :: _, h => by simp [allByteKeys] at h
theorem kdn_made_bytes {vs : List (Value × Value)} {Q : Value → Shared → Prop} (F : Fr h₀ L s.heap m) (N : News h₀ L s.heap news) (U : UpdF d o news g) (hd : o.IsDictOf (bytesKind prog w) []) (hk : allByteKeys vs = true) (hn : ((bytePairs vs).map (·.1)).Nodup)
    (h : ∀ h' o', Fr h₀ L h' m → News h₀ L h' (g o') → o'.IsDictOf (bytesKind prog w) (bytePairs vs) → Q (.ref d) { s with heap := h', toks := s.toks + vs.length }) : KdnMade prog w (bytesKind prog w) d Q vs s := by
  obtain ⟨pre, post, rfl, hg, a, b⟩ := U.split
  have hm := N (d, o) (List.mem_append_right _ (.head _))
  refine ⟨bytePairs vs, carries_bytePairs vs hk, Heap.dictOf_iff.mpr ⟨o, hm.1, hd⟩, fun h' hmm hs => ?_⟩
  rw [merged_nil_of_nodup _ hn] at hmm
  obtain ⟨o', ho', hd'⟩ := Heap.dictOf_iff.mp hmm
  exact h h' o' (F.change hs hm.2.1 hm.2.2) (hg o' ▸ N.setIn a b hs ho') hd'
theorem dict_nil_bytes (h : o.IsDictOf (strKind prog w) []) : o.IsDictOf (bytesKind prog w) [] := by
  obtain ⟨es, ep, h1, h2, h3, h4, h5⟩ := h
  have he : es.toList = [] := by cases hq : es.toList with
    | nil => rfl
    | cons e r => rw [hq] at h4; cases h4
  refine ⟨es, ep, h1, h2, fun e he' => ?_, by rw [he]; exact .nil, .nil⟩
  have := Array.mem_toList_iff.mpr he'
  rw [he] at this; cases this
end
example : True := by (k_with "eval Dict" => (k_here; (with_reducible show wpAny _ _ (eval (Expr.Dict (some (Expr.Constant (Const.bytes _) _ _) :: _) _ _) _) _ _ _); k_dflt (refine' kdn_eval (knd := bytesKind _ _) ?zzF ?zzN ?zzb ?zza ?zzl ?zze ?zzn ?_; (case zzF => k_asm); (case zzN => first | k_asm | exact News.nil); (case zzb => exact Top.nolimit (by k_asm)); (case zza => rfl); (case zzl => rfl); (case zze => exact List.cons_ne_nil _ _); (case zzn => exact Nat.le_of_ble_eq_true rfl)); intro d' h' o' F' N' l1 lo' hd'; (try k_lt l1))); trivial
example : True := by (k_with "KdnMade" => (k_here; k_dflt (refine' kdn_made_bytes ?zzF ?zzN ?zzU ?zzd ?zzk ?zzn ?_; (case zzF => k_asm); (case zzN => k_asm); (case zzU => k_updF); (case zzd => k_asm); (case zzk => rfl); (case zzn => exact of_decide_eq_true (by first | rfl | kernel_rfl!)); intro h' o' F' N' hd'); (try dsimp only at N'))); trivial
example : True := by (k_with "getMethod ref" => (k_here; (with_reducible show wpAny _ _ (getMethod (Value.ref _) (Str.ofString "get") _) _ _ _); k_dflt (refine kdg_method (knd := bytesKind _ _) (by k_asm) (by k_mem) (by first | k_asm | exact dict_nil_bytes (by assumption)) ?_))); trivial
example : True := by (k_with "call builtin:dict.get" => (k_here; k_dflt (first | refine kdg_get1 (knd := bytesKind _ _) (by k_asm) (by k_mem) (by first | k_asm | exact dict_nil_bytes (by assumption)) (by k_asm) (bytesKind_is _ _) _ rfl ?_ | refine kdg_get2 (knd := bytesKind _ _) (by k_asm) (by k_mem) (by first | k_asm | exact dict_nil_bytes (by assumption)) (by k_asm) (bytesKind_is _ _) _ rfl ?_))); trivial
variable {w : World} {mean : ExcName → Option Value} {mg mb : Str → Option Value} {rest : Led}
theorem head_due_none {fl : List Fld} {a : Addr} (hf : FieldsAt rest fl a) (hn : ∀ p ∈ fl, isCol p = false) : Does w mean mg mb 273 2 [.ref a] rest (fun v news => v = .none ∧ news = rest) := by
  unfold Does
  k_fill
  (intro dp un gd cn cs a ccd cl outer A₀ base h₀ L m s Q E B F X N T hk hdp hu hret; refine wpAny_call ?_; k_dflt cell_enter)
  k_steps
  refine srcLPT_fields (fun _ => false) (by rfl) (by k_asm) (by k_asm) hf ?_ ?_
  · intro ys g hy
    rw [show fl.filter (fun _ => false) = [] by simp] at hy
    cases hy
    k_steps
    exact hret _ _ _ _ ⟨rfl, rfl⟩ (by assumption) (News.cut (by assumption) (by intro p hp; repeat (first | exact hp | apply List.mem_cons_of_mem)))
  · intro p tn ty ys I oI C oC D m2 h9 tk9 E9 hp hC hx hx2 F9 N9 off ne
    have hq := hn p hp
    unfold isCol at hq
    k_steps
    all_goals first | rfl | exact LCg.CompEnd.intro (by assumption) (by assumption) rest (fun p hp => by simp only [List.mem_cons] at hp ⊢; first | exact hp | exact .inr hp | exact .inr (.inr hp)) (by assumption) trivial ⟨rfl, _, rfl⟩ | exact LCg.CompEnd.intro (by assumption) (by assumption) rest (fun p hp => by simp only [List.mem_cons] at hp ⊢; first | exact hp | exact .inr hp | exact .inr (.inr hp)) (by assumption) trivial rfl
theorem News.cut2 {h₀ : Heap} {L : Addr} {g : Heap} {b : Led} {p q : Addr × Obj} (N : News h₀ L g b) (hp : p ∈ b) (hq : q ∈ b) : News h₀ L g (p :: q :: b) := fun r hr => by
  rcases List.mem_cons.mp hr with rfl | hr
  · exact N _ hp
  · rcases List.mem_cons.mp hr with rfl | hr
    · exact N _ hq
    · exact N _ hr
def dueC : List (Array UInt8) := [#[50,48,48], #[52,48,52], #[50,48,52], #[51,48,52], #[49,48,51], #[49,48,48]]
def dueOf (st : Array UInt8) : Option Int := if dueC.any (fun y => y.toList == st.toList) then some (numOf st) else none
def optInt (o : Option Int) (v : Value) : Prop := match o with | none => v = .none | some n => ∃ t, v = .int n t
theorem fields_cons {f : Fld} {tl : List Fld} {a : Addr} (hf : FieldsAt rest (f :: tl) a) : ∃ t vs k nt tn tx, (a, W.listOf (Value.ref t :: vs).toArray k) ∈ rest ∧ (t, ({ cls := .type "tuple", data := .seq #[.bytes f.1 tn, .bytes f.2 tx] nt } : Obj)) ∈ rest := by
  obtain ⟨its, k, hm, hp, hz⟩ := hf
  generalize hi : its.toList = l at hp
  cases hp with
  | @cons v _ vs _ hv hr =>
    obtain ⟨t, o, nt, tn, tx, rfl, hmt, rfl⟩ := hv
    refine ⟨t, vs, k, nt, tn, tx, ?_, hmt⟩
    rw [← hi]; exact hm
theorem due_menu {a0 a1 a2 a3 a4 a5 b0 b1 b2 b3 b4 b5 : Tok} : ∀ st ∈ valsC, optInt (dueOf st) ((valueAt (bytePairs [(Value.bytes #[50, 48, 48] a0, Value.int 200 b0), (Value.bytes #[52, 48, 52] a1, Value.int 404 b1), (Value.bytes #[50, 48, 52] a2, Value.int 204 b2), (Value.bytes #[51, 48, 52] a3, Value.int 304 b3), (Value.bytes #[49, 48, 51] a4, Value.int 103 b4), (Value.bytes #[49, 48, 48] a5, Value.int 100 b5)]) st.toList).getD Value.none) := by
  intro st hst
  simp only [valsC, List.mem_cons, List.not_mem_nil, or_false] at hst
  rcases hst with rfl | rfl | rfl | rfl | rfl | rfl | rfl | rfl | rfl | rfl | rfl | rfl | rfl | rfl
  all_goals first | exact rfl | exact ⟨_, rfl⟩
theorem head_due_some {st : Array UInt8} {tl : List Fld} {fa : Addr} (hf : FieldsAt rest ((colS, st) :: tl) fa) (hn : ∀ p ∈ tl, isCol p = false) (hst : st ∈ valsC) : Does w mean mg mb 273 2 [.ref fa] rest (fun v news => optInt (dueOf st) v ∧ news = rest) := by
  obtain ⟨t0, vs, k0, nt, tn, tx, hm1, hm2⟩ := fields_cons hf
  have hf2 : FieldsAt ((fa, W.listOf (Value.ref t0 :: vs).toArray k0) :: (t0, ({ cls := .type "tuple", data := .seq #[.bytes colS tn, .bytes st tx] nt } : Obj)) :: rest) ((colS, st) :: tl) fa := hf.mono fun p hp => .tail _ (.tail _ hp)
  have hcol : (colS.toList == (#[58,115,116,97,116,117,115] : Array UInt8).toList) = true := rfl
  unfold Does
  k_fill
  intro dp un gd cn cs a ccd cl outer A₀ base h₀ L m s Q E B F X N T hk hdp hu hret
  replace N : News h₀ L s.heap ((fa, W.listOf (Value.ref t0 :: vs).toArray k0) :: (t0, ({ cls := .type "tuple", data := .seq #[.bytes colS tn, .bytes st tx] nt } : Obj)) :: rest) := News.cut2 N hm1 hm2
  refine wpAny_call ?_
  k_dflt cell_enter
  k_steps
  refine srcLPT_fields isCol (by rfl) (by k_asm) (by k_asm) hf2 ?_ ?_
  · intro ys g hy
    have hfl : ((colS, st) :: tl).filter isCol = [(colS, st)] := by
      rw [List.filter_cons, if_pos (by exact hcol)]
      rw [List.filter_eq_nil_iff.mpr (fun p hp => by rw [hn p hp]; decide)]
    rw [hfl] at hy
    cases hy with
    | cons y t9 hy' =>
      cases hy'
      k_steps
      exact hret _ _ _ _ ⟨due_menu _ hst, rfl⟩ (by assumption) (News.cut (by assumption) (by intro p hp; repeat (first | exact hp | apply List.mem_cons_of_mem)))
  · intro p tn ty ys I oI C oC D m2 h9 tk9 E9 hp hC hx hx2 F9 N9 off ne
    cases hq : isCol p
    all_goals unfold isCol at hq
    all_goals k_steps
    all_goals first | rfl | exact LCg.CompEnd.intro (by assumption) (by assumption) (_ :: _ :: rest) (fun p hp => by simp only [List.mem_cons] at hp ⊢; first | exact hp | exact .inr hp | exact .inr (.inr hp)) (by assumption) trivial ⟨rfl, _, rfl⟩ | exact LCg.CompEnd.intro (by assumption) (by assumption) (_ :: _ :: rest) (fun p hp => by simp only [List.mem_cons] at hp ⊢; first | exact hp | exact .inr hp | exact .inr (.inr hp)) (by assumption) trivial rfl

variable {w : World} {mean : ExcName → Option Value} {mg mb : Str → Option Value} {rest : Led}
theorem values_spec {fl : List Fld} {fa : Addr} {nm : Array UInt8} {tn : Nat} (hf : FieldsAt rest fl fa) : Does w mean mg mb 190 2 [.ref fa, .bytes nm tn] rest (fun v news => ∃ d ys, v = .ref d ∧ news = (d, LCg.lst ys) :: rest ∧ BytesAre ys ((fl.filter fun p => p.1.toList == nm.toList).map (·.2)) ∧ LCg.Off1 d rest) := by
  unfold Does
  k_fill
  intro dp un gd cn cs a ccd cl outer A₀ base h₀ L m s Q E B F X N T hk hdp hu hret
  refine wpAny_call ?_
  k_dflt (refine' code_defC ?k1 ?k2 ?k3 ?k4 ?k5 ?kA ?kF ?kK ?k6 ?k7 ?k8 ?k9 ?kB ?kD ?_ ?c2 ?c3 ?c4; (case kA => exact rfl); (case kF => exact rfl); (case kK => assumption); (case k1 => k_asm); (case k2 => k_asm); (case k3 => k_asm); (case k4 => k_asm); (case k5 => k_asm); (case k6 => k_is); (case k7 => k_is); (case k8 => ktr_room); (case k9 => exact BindsTo.of_eq rfl); (case kB => exact rfl); (case kD => decide +kernel); (case c2 => exact rfl); (case c3 => exact rfl); (case c4 => exact rfl); k_whole; intro g' L' h' tk' cells' FG' F' N' Y' B' X' T' l1; (try k_lt l1); k_cells Y'; (try simp only [List.cons_append, List.nil_append] at N'); (try dsimp only); (try k_lift B'); (try k_fold))
  k_steps
  refine srcLPT_fields (fun p => p.1.toList == nm.toList) (by rfl) (by k_asm) (by k_asm) (hf.mono fun p hp => .tail _ hp) ?_ ?_
  · intro ys g hy
    k_steps
    exact hret _ _ _ _ ⟨_, ys, rfl, rfl, hy, (‹_ ∧ LCg.Off1 _ rest›).2⟩ (by assumption) (News.cut (by assumption) (by intro p hp; rcases List.mem_cons.mp hp with rfl | hp; exact List.mem_cons_self; repeat (first | exact hp | apply List.mem_cons_of_mem)))
  · intro p tn ty ys I oI C oC D m2 h9 tk9 E9 hp hC hx hx2 F9 N9 off ne
    cases hq : (p.1.toList == nm.toList)
    all_goals k_steps
    all_goals first | rfl | exact LCg.CompEnd.intro (by assumption) (by assumption) (_ :: rest) (fun p hp => by simp only [List.mem_cons] at hp ⊢; first | exact hp | exact .inr hp | exact .inr (.inr hp)) (by assumption) trivial ⟨rfl, _, rfl⟩ | exact LCg.CompEnd.intro (by assumption) (by assumption) (_ :: rest) (fun p hp => by simp only [List.mem_cons] at hp ⊢; first | exact hp | exact .inr hp | exact .inr (.inr hp)) (by assumption) trivial rfl
def valsOf (fl : List Fld) (nm : Array UInt8) : List (Array UInt8) := (fl.filter fun p => p.1.toList == nm.toList).map (·.2)
theorem values_nil {fl : List Fld} {fa : Addr} {nm : Array UInt8} {tn : Nat} (hf : FieldsAt rest fl fa) (hv : valsOf fl nm = []) : Does w mean mg mb 190 2 [.ref fa, .bytes nm tn] rest (fun v news => ∃ d, v = .ref d ∧ news = (d, LCg.lst []) :: rest ∧ LCg.Off1 d rest) := by
  intro dp un gd cn cs a ccd cl outer A₀ base h₀ L m s Q E B F X N T hk hdp hu hret
  refine does_use (values_spec hf) B F X N T hk hdp hu fun v news' h' tk' hP F' N' => ?_
  obtain ⟨d, ys, rfl, rfl, hy, ho⟩ := hP
  unfold valsOf at hv
  rw [hv] at hy
  cases hy
  exact hret _ _ _ _ ⟨d, rfl, rfl, ho⟩ F' N'
theorem values_one {fl : List Fld} {fa : Addr} {nm b : Array UInt8} {tn : Nat} (hf : FieldsAt rest fl fa) (hv : valsOf fl nm = [b]) : Does w mean mg mb 190 2 [.ref fa, .bytes nm tn] rest (fun v news => ∃ d t, v = .ref d ∧ news = (d, LCg.lst [.bytes b t]) :: rest ∧ LCg.Off1 d rest) := by
  intro dp un gd cn cs a ccd cl outer A₀ base h₀ L m s Q E B F X N T hk hdp hu hret
  refine does_use (values_spec hf) B F X N T hk hdp hu fun v news' h' tk' hP F' N' => ?_
  obtain ⟨d, ys, rfl, rfl, hy, ho⟩ := hP
  unfold valsOf at hv
  rw [hv] at hy
  cases hy with
  | cons y t hy' =>
    cases hy'
    exact hret _ _ _ _ ⟨d, t, rfl, rfl, ho⟩ F' N'
example : True := by (k_with "call ref" => (k_here; (with_reducible show wpAny _ _ (call (Value.ref 190) _) _ _ _); k_dflt (refine' dz1 (values_nil ?zzq ?zzh) (u_e1) ?_; ((case zzq => (first | assumption | (refine FieldsAt.mono ?_ (by assumption); intro p hp; repeat (first | exact hp | apply List.mem_cons_of_mem)))); (case zzh => assumption))); (intro d9' ho9' h' tk' F' N'; ((try simp only [LCg.Off1] at ho9')); (try k_sweep)))); trivial
example : True := by (k_with "call ref" => (k_here; (with_reducible show wpAny _ _ (call (Value.ref 190) _) _ _ _); k_dflt (refine' dz1 (values_one ?zzq ?zzh) (u_e2) ?_; ((case zzq => (first | assumption | (refine FieldsAt.mono ?_ (by assumption); intro p hp; repeat (first | exact hp | apply List.mem_cons_of_mem)))); (case zzh => assumption))); (intro d9' t9' ho9' h' tk' F' N'; ((try simp only [LCg.Off1] at ho9')); (try k_sweep)))); trivial
example : True := by (k_with "call ref" => (k_here; (with_reducible show wpAny _ _ (call (Value.ref 185) _) _ _ _); k_dflt (refine' dz1 (digits_ok ?zzq) (u_ex) ?_; (case zzq => assumption)); (intro t9' h' tk' F' N'; (skip); (try k_sweep)))); trivial
def clenC : Array UInt8 := #[99,111,110,116,101,110,116,45,108,101,110,103,116,104]
example : True := by (k_with "CompSrc" => (k_here; k_dflt (refine LCg.CompSrc.ledger (by rfl) (by k_asm) (by k_asm) (by k_mem) (by exact Nat.le_of_ble_eq_true rfl) ?_; intro g'; lcg_lit))); trivial
example : True := by (k_with "CompSrcT" => (k_here; k_dflt (refine LCt.CompSrcT.ledger (by rfl) (by k_asm) (by k_asm) (by k_mem) (by exact Nat.le_of_ble_eq_true rfl) ?_; intro g'; lct_lit))); trivial
theorem clen_none {fl : List Fld} {fa : Addr} (hf : FieldsAt rest fl fa) (hv : valsOf fl #[99,111,110,116,101,110,116,45,108,101,110,103,116,104] = []) : Does w mean mg mb 223 4 [.ref fa] rest (fun v news => v = .none ∧ news = rest) := by
  unfold Does
  k_fill
  intro dp un gd cn cs a ccd cl outer A₀ base h₀ L m s Q E B F X N T hk hdp hu hret
  refine wpAny_call ?_
  k_dflt (refine' code_defC ?k1 ?k2 ?k3 ?k4 ?k5 ?kA ?kF ?kK ?k6 ?k7 ?k8 ?k9 ?kB ?kD ?_ ?c2 ?c3 ?c4; (case kA => exact rfl); (case kF => exact rfl); (case kK => assumption); (case k1 => k_asm); (case k2 => k_asm); (case k3 => k_asm); (case k4 => k_asm); (case k5 => k_asm); (case k6 => k_is); (case k7 => k_is); (case k8 => ktr_room); (case k9 => exact BindsTo.of_eq rfl); (case kB => exact rfl); (case kD => decide +kernel); (case c2 => exact rfl); (case c3 => exact rfl); (case c4 => exact rfl); k_whole; intro g' L' h' tk' cells' FG' F' N' Y' B' X' T' l1; (try k_lt l1); k_cells Y'; (try simp only [List.cons_append, List.nil_append] at N'); (try dsimp only); (try k_lift B'); (try k_fold))
  have hLr : ∀ p ∈ rest, p.1 ≠ L' + 1 := fun p hp => Nat.ne_of_lt (Nat.lt_succ_of_lt (l1 p hp))
  k_steps
  exact hret _ _ _ _ ⟨rfl, rfl⟩ (by assumption) (News.cut (by assumption) (by intro p hp; repeat (first | exact hp | apply List.mem_cons_of_mem)))
theorem clen_one {fl : List Fld} {fa : Addr} {b : Array UInt8} (hf : FieldsAt rest fl fa) (hv : valsOf fl #[99,111,110,116,101,110,116,45,108,101,110,103,116,104] = [b]) (hb : b ∈ digsC) : Does w mean mg mb 223 4 [.ref fa] rest (fun v news => (∃ t, v = .int (numOf b) t) ∧ news = rest) := by
  unfold Does
  k_fill
  intro dp un gd cn cs a ccd cl outer A₀ base h₀ L m s Q E B F X N T hk hdp hu hret
  refine wpAny_call ?_
  k_dflt (refine' code_defC ?k1 ?k2 ?k3 ?k4 ?k5 ?kA ?kF ?kK ?k6 ?k7 ?k8 ?k9 ?kB ?kD ?_ ?c2 ?c3 ?c4; (case kA => exact rfl); (case kF => exact rfl); (case kK => assumption); (case k1 => k_asm); (case k2 => k_asm); (case k3 => k_asm); (case k4 => k_asm); (case k5 => k_asm); (case k6 => k_is); (case k7 => k_is); (case k8 => ktr_room); (case k9 => exact BindsTo.of_eq rfl); (case kB => exact rfl); (case kD => decide +kernel); (case c2 => exact rfl); (case c3 => exact rfl); (case c4 => exact rfl); k_whole; intro g' L' h' tk' cells' FG' F' N' Y' B' X' T' l1; (try k_lt l1); k_cells Y'; (try simp only [List.cons_append, List.nil_append] at N'); (try dsimp only); (try k_lift B'); (try k_fold))
  have hLr : ∀ p ∈ rest, p.1 ≠ L' + 1 := fun p hp => Nat.ne_of_lt (Nat.lt_succ_of_lt (l1 p hp))
  k_steps
  refine LCg.CompEnd.intro (by assumption) (by assumption) (_ :: _ :: rest) (fun p hp => by simp only [List.mem_cons] at hp ⊢; exact hp) (by assumption) (.inr ⟨_, .head _, rfl, _, rfl⟩) ?_
  k_steps
  · exact absurd (show numOf b = [numOf b].getD (Int.toNat 0) 0 from rfl) (by assumption)
  refine LCg.CompEnd.intro (by assumption) (by assumption) (_ :: _ :: _ :: rest) (fun p hp => by simp only [List.mem_cons] at hp ⊢; exact hp) (by assumption) (.inr ⟨_, .head _, rfl, _, rfl⟩) ?_
  k_steps
  all_goals exact hret _ _ _ _ ⟨⟨_, rfl⟩, rfl⟩ (by assumption) (News.cut (by assumption) (by intro p hp; repeat (first | exact hp | apply List.mem_cons_of_mem)))

/-- a map with some names written over -/
def over : List (Str × Option Value) → (Str → Option Value) → Str → Option Value
  | [], m => m
  | p :: r, m => fun z => if z = p.1 then p.2 else over r m z
theorem over_eq {m m₀ : Str → Option Value} : ∀ (vs : List (Str × Option Value)), (∀ p ∈ vs, m p.1 = p.2) → (∀ z, (∀ p ∈ vs, z ≠ p.1) → m z = m₀ z) → m = over vs m₀
  | [], _, h2 => funext fun z => h2 z (fun _ h => nomatch h)
  | p :: r, h1, h2 => by
    funext z
    show m z = if z = p.1 then p.2 else over r m₀ z
    by_cases hz : z = p.1
    · rw [if_pos hz, hz]; exact h1 p (.head _)
    · rw [if_neg hz]
      by_cases hr : ∃ q ∈ r, z = q.1
      · obtain ⟨q, hq, e⟩ := hr
        have hm : m z = q.2 := by rw [e]; exact h1 q (.tail _ hq)
        have ho : ∀ (l : List (Str × Option Value)), (∀ p ∈ l, m p.1 = p.2) → (∃ q ∈ l, z = q.1) → over l m₀ z = m z := by
          intro l
          induction l with
          | nil => intro _ ⟨_, h, _⟩; nomatch h
          | cons a t ih =>
            intro ha hx
            show (if z = a.1 then a.2 else over t m₀ z) = m z
            by_cases hza : z = a.1
            · rw [if_pos hza, hza]; exact (ha a (.head _)).symm
            · rw [if_neg hza]
              refine ih (fun p hp => ha p (.tail _ hp)) ?_
              obtain ⟨q, hq, e⟩ := hx
              rcases List.mem_cons.mp hq with rfl | hq
              · exact absurd e hza
              · exact ⟨q, hq, e⟩
        exact (ho r (fun p hp => h1 p (.tail _ hp)) ⟨q, hq, e⟩).symm
      · have ho : ∀ (l : List (Str × Option Value)), (¬ ∃ q ∈ l, z = q.1) → over l m₀ z = m₀ z := by
          intro l
          induction l with
          | nil => intro _; rfl
          | cons a t ih =>
            intro hx
            show (if z = a.1 then a.2 else over t m₀ z) = m₀ z
            rw [if_neg (fun e => hx ⟨a, .head _, e⟩)]
            exact ih fun ⟨q, hq, e⟩ => hx ⟨q, .tail _ hq, e⟩
        rw [ho r hr]
        refine h2 z fun q hq e => ?_
        rcases List.mem_cons.mp hq with rfl | hq
        · exact hz e
        · exact hr ⟨q, hq, e⟩
def OffN (z : Str) : List (Str × Option Value) → Prop
  | [] => True
  | p :: r => z ≠ p.1 ∧ OffN z r
theorem OffN.of {z : Str} : ∀ {vs : List (Str × Option Value)}, (∀ p ∈ vs, z ≠ p.1) → OffN z vs
  | [], _ => trivial
  | p :: r, h => ⟨h p (.head _), OffN.of fun q hq => h q (.tail _ hq)⟩
theorem over_end {m m₀ : Str → Option Value} (vs : List (Str × Option Value)) (h1 : ∀ p ∈ vs, m p.1 = p.2) (h2 : ∀ z, OffN z vs → m z = m₀ z) : m = over vs m₀ := over_eq vs h1 fun z h => h2 z (.of h)
def Agr (m : Str → Option Value) : List (Str × Option Value) → Prop
  | [] => True
  | p :: r => m p.1 = p.2 ∧ Agr m r
theorem Agr.all {m : Str → Option Value} : ∀ {vs : List (Str × Option Value)}, Agr m vs → ∀ p ∈ vs, m p.1 = p.2
  | [], _, _, h => nomatch h
  | q :: r, h, p, hp => by
    rcases List.mem_cons.mp hp with rfl | hp
    · exact h.1
    · exact Agr.all h.2 p hp
theorem agr_nil {m : Str → Option Value} : Agr m [] := trivial
theorem agr_cons {m : Str → Option Value} {a : Str} {b : Option Value} {r : List (Str × Option Value)} (h : m a = b) (t : Agr m r) : Agr m ((a, b) :: r) := ⟨h, t⟩
theorem off1 {z a : Str} {b : Option Value} {r : List (Str × Option Value)} (h : OffN z ((a, b) :: r)) : z ≠ a := h.1
theorem off2 {z : Str} {p : Str × Option Value} {r : List (Str × Option Value)} (h : OffN z (p :: r)) : OffN z r := h.2
theorem over_nil {m : Str → Option Value} {z : Str} : over [] m z = m z := rfl
theorem over_end2 {m m₀ : Str → Option Value} (vs : List (Str × Option Value)) (h1 : Agr m vs) (h2 : ∀ z, OffN z vs → m z = m₀ z) : m = over vs m₀ := over_end vs h1.all h2
theorem over_self2 {m₀ : Str → Option Value} (vs : List (Str × Option Value)) (h : Agr m₀ vs) : m₀ = over vs m₀ := over_eq vs h.all fun _ _ => rfl
theorem over_self {m₀ : Str → Option Value} (vs : List (Str × Option Value)) (h : ∀ p ∈ vs, m₀ p.1 = p.2) : m₀ = over vs m₀ := over_eq vs h fun _ _ => rfl
section
variable {prog : Program} {w : World} {A : Around} {E : Value → Shared → Prop} {s : Shared} {env : Env} {h₀ : Heap} {target : Expr} {body : List Stmt} {Q : Flow → Shared → Prop}
theorem items_inv {lo : Obj} {ax I : Addr} {vs : List Value} (Inv : Nat → (Str → Option Value) → Led → Prop) (hkeep : ∀ i m n, Inv i m n → (ax, lo) ∈ n)
    (step : ∀ i v oI h tk m n, vs[i]? = some v → Inv i m n → (∀ p ∈ n, p.1 ≠ I) → Fr h₀ env.locals h m → News h₀ env.locals h ((I, oI) :: n) →
      wpAny (model prog w) A (assign target env v) (fun _ s₂ => wpAny (model prog w) A (execs body env) (UnrPostW h₀ env.locals { s with heap := h, toks := tk } [(I, oI)] (Inv (i + 1)) Q) E s₂) E { s with heap := h, toks := tk })
    (done : ∀ h tk m n, Inv vs.length m n → Fr h₀ env.locals h m → News h₀ env.locals h n → Q .next { s with heap := h, toks := tk }) :
    ∀ k i m n, k + i = vs.length → Inv i m n → (∀ p ∈ n, p.1 ≠ I) → ItemsRest prog w A E h₀ env target body Q s [(I, "list_iterator")] [(ax, lo)] ((vs.drop i).map .val) m n
  | 0, i, m, n, hk, hI, _ => by
    rw [List.drop_eq_nil_of_le (by omega)]
    refine ItemsRest.zero fun h tk F N => done h tk m n ?_ F N
    have : i = vs.length := by omega
    exact this ▸ hI
  | k + 1, i, m, n, hk, hI, hoff => by
    have hlt : i < vs.length := by omega
    rw [List.drop_eq_getElem_cons hlt, List.map_cons]
    refine ItemsRest.val fun h tk F => AllObj.cons fun oI hc => AllObj.nil fun N => ?_
    refine wpAny_mono (step i vs[i] oI h tk m n (List.getElem?_eq_getElem hlt) hI hoff F N) (fun _ s₂ h₂ => wpAny_mono h₂ (fun f s₃ p => ?_) fun _ _ e => e) fun _ _ e => e
    have go : UnrEndW h₀ env.locals { s with heap := h, toks := tk } [(I, oI)] (Inv (i + 1)) s₃ → UnrEndW h₀ env.locals { s with heap := h, toks := tk } [(I, oI)] (fun m' n' => SubL [(ax, lo)] n' ∧ ItemsRest prog w A E h₀ env target body Q s [(I, "list_iterator")] [(ax, lo)] ((vs.drop (i + 1)).map .val) m' n') s₃ := by
      rintro ⟨h', tk', m', n', e1, e2, e3, e4, e5⟩
      refine ⟨h', tk', m', n', e1, e2, e3, e4, And.intro (hkeep _ _ _ e5) trivial, items_inv Inv hkeep step done k (i + 1) m' n' (by omega) e5 fun p hp => e4 p hp _ (.head _)⟩
    cases f with
    | ret v => exact p
    | brk => exact p
    | next => exact go p
    | cont => exact go p
theorem iter_inv {ax : Addr} {its : Array Value} {k : Nat} {m₀ : Str → Option Value} {news : Led} (Inv : (Str → Option Value) → Nat → (Str → Option Value) → Led → Prop)
    (hh : A.handled = none) (F : Fr h₀ env.locals s.heap m₀) (N : News h₀ env.locals s.heap news) (hm : (ax, W.listOf its k) ∈ news)
    (h0 : Inv m₀ 0 m₀ news) (hkeep : ∀ i m n, Inv m₀ i m n → (ax, W.listOf its k) ∈ n)
    (step : ∀ i v I oI h tk m n, its.toList[i]? = some v → Inv m₀ i m n → (∀ p ∈ n, p.1 ≠ I) → Fr h₀ env.locals h m → News h₀ env.locals h ((I, oI) :: n) →
      wpAny (model prog w) A (assign target env v) (fun _ s₂ => wpAny (model prog w) A (execs body env) (UnrPostW h₀ env.locals { s with heap := h, toks := tk } [(I, oI)] (Inv m₀ (i + 1)) Q) E s₂) E { s with heap := h, toks := tk })
    (done : ∀ h tk m n, Inv m₀ its.toList.length m n → Fr h₀ env.locals h m → News h₀ env.locals h n → Q .next { s with heap := h, toks := tk }) :
    wpAny (model prog w) A (pyIter (.ref ax)) (fun it s₂ => TurnsAt prog w A h₀ env target body Q E it s₂) E s := by
  refine iter_listTurns (vs := its.toList) (n := k) hh F N hm rfl rfl fun I hI => ?_
  exact items_inv (Inv m₀) hkeep (fun i v oI h tk m n => step i v I oI h tk m n) done its.toList.length 0 m₀ news rfl h0 fun p hp => Nat.ne_of_lt (hI p hp)
theorem turn_end {L I : Addr} {oI : Obj} {Inv : (Str → Option Value) → Led → Prop} {s₁ : Shared} {h' : Heap} {tk : Nat} {m' : Str → Option Value} {al : Led} (F : Fr h₀ L h' m') (N : News h₀ L h' al) (n' : Led)
    (sub : ∀ p ∈ (I, oI) :: n', p ∈ al) (off : ∀ p ∈ n', p.1 ≠ I) (r : Inv m' n') : UnrEndW h₀ L s₁ [(I, oI)] Inv { s₁ with heap := h', toks := tk } :=
  ⟨h', tk, m', n', rfl, F, fun p hp => N p (sub p hp), fun p hp q hq => by rw [List.mem_singleton.mp hq]; exact off p hp, r⟩
end

example : True := by (k_with "exec For Tuple Name cons nil" => (k_here; (rename Fr _ _ _ _ => lF'); (with_unfolding_all refine' For_turns lF' ?_; k_whole))); trivial
example : True := by (k_with "compareOp NotIn bytes ref" => (k_here; first | refine notin_tuple_bytes (r := false) (News.isTup (by k_asm) (by k_mem)) (by repeat (first | exact BytesAre.nil | apply BytesAre.cons)) (by first | rfl | assumption) ?_ | refine notin_tuple_bytes (r := true) (News.isTup (by k_asm) (by k_mem)) (by repeat (first | exact BytesAre.nil | apply BytesAre.cons)) (by first | rfl | assumption) ?_)); trivial
example : True := by (k_with "compareOp In bytes ref" => (k_here; k_dflt (first | refine kda_in (knd := bytesKind _ _) (by k_asm) (by k_mem) (by assumption) (by assumption) (bytesKind_is _ _) false (by rfl) ?_ | refine kda_in (knd := bytesKind _ _) (by k_asm) (by k_mem) (by assumption) (by assumption) (bytesKind_is _ _) true (by rfl) ?_))); trivial
example : True := by (k_with "setItem ref bytes" => (k_here; k_dflt (refine' kda_set (knd := bytesKind _ _) ?zzF ?zzN ?zzU ?zzd ?zzk ?zzz ?_; (case zzF => k_asm); (case zzN => k_asm); (case zzU => k_updF); (case zzd => assumption); (case zzk => exact bytesKind_is _ _); (case zzz => exact Nat.le_of_ble_eq_true rfl)); intro h' o' F' N' hd'; (try dsimp only at N'); (try k_sweep))); trivial
theorem News.with1 {h₀ : Heap} {L : Addr} {g : Heap} {b : Led} {p : Addr × Obj} (N : News h₀ L g b) (hp : p ∈ b) : News h₀ L g (p :: b) := fun r hr => by
  rcases List.mem_cons.mp hr with rfl | hr
  · exact N _ hp
  · exact N _ hr
variable {w : World} {mean : ExcName → Option Value} {mg mb : Str → Option Value} {rest : Led}
abbrev PR : Program := PySem.Challenge.rw_nz0351_01.row.prog
def Plain (tl : List Fld) : Prop := ∀ p ∈ tl, p.1 ∈ namesC ∧ p.2 ∈ valsC
theorem sub_cons {x : Addr × Obj} {l al : Led} (h : x ∈ al) (hs : ∀ p ∈ l, p ∈ al) : ∀ p ∈ x :: l, p ∈ al := List.forall_mem_cons.mpr ⟨h, hs⟩
theorem off_cons {a I : Addr} {o : Obj} {l : Led} (h : @Ne Nat a I) (hs : ∀ p ∈ l, p.1 ≠ I) : ∀ p ∈ (a, o) :: l, p.1 ≠ I := List.forall_mem_cons.mpr ⟨h, hs⟩
inductive PairGet (news : Led) (fl : List Fld) (i : Nat) : Value → Prop
  | mk (p : Fld) (pt : Addr) (nt : Nat) (tn tx : Tok) : fl[i]? = some p → (pt, ({ cls := .type "tuple", data := .seq #[.bytes p.1 tn, .bytes p.2 tx] nt } : Obj)) ∈ news → PairGet news fl i (.ref pt)
theorem pair_get {news : Led} {its : List Value} {fl : List Fld} {i : Nat} {v : Value} (hp : Prs (PairAt news) its fl) (hv : its[i]? = some v) : PairGet news fl i v := by
  obtain ⟨p, hpi, pt, po, nt, tn, tx, rfl, hmt, rfl⟩ := hp.get hv
  exact .mk p pt nt tn tx hpi hmt
inductive PsGet (news : Led) (st : Array UInt8) (tl : List Fld) : Nat → Value → Prop
  | zero (pt : Addr) (nt : Nat) (tn tx : Tok) : (pt, ({ cls := .type "tuple", data := .seq #[.bytes colS tn, .bytes st tx] nt } : Obj)) ∈ news → PsGet news st tl 0 (.ref pt)
  | succ (i : Nat) (p : Fld) (pt : Addr) (nt : Nat) (tn tx : Tok) : p ∈ tl → (pt, ({ cls := .type "tuple", data := .seq #[.bytes p.1 tn, .bytes p.2 tx] nt } : Obj)) ∈ news → PsGet news st tl (i + 1) (.ref pt)
theorem ps_get {news : Led} {its : List Value} {st : Array UInt8} {tl : List Fld} {i : Nat} {v : Value} (hp : Prs (PairAt news) its ((colS, st) :: tl)) (hv : its[i]? = some v) : PsGet news st tl i v := by
  obtain ⟨p, pt, nt, tn, tx, hpi, hmt⟩ := pair_get hp hv
  cases i with
  | zero =>
    simp only [List.getElem?_cons_zero, Option.some.injEq] at hpi
    subst hpi
    exact .zero pt nt tn tx hmt
  | succ i => exact .succ i p pt nt tn tx (List.mem_of_getElem? (by simpa using hpi)) hmt
inductive PsInv (w : World) (rest : Led) (d : Addr) (st : Array UInt8) (m₀ : Str → Option Value) (i : Nat) : (Str → Option Value) → Led → Prop
  | mk (o : Obj) (t : Tok) (nv vv : Option Value) : o.IsDictOf (bytesKind PR w) (if i = 0 then [] else [(colS.toList, .bytes st t)]) → PsInv w rest d st m₀ i (over [("name", nv), ("value", vv), ("is_behind", some (.bool (decide (2 ≤ i))))] m₀) ((d, o) :: rest)
theorem ps_mk {w : World} {rest : Led} {d : Addr} {st : Array UInt8} {m₀ m : Str → Option Value} {i : Nat} (o : Obj) (t : Tok) (nv vv : Option Value) (h : o.IsDictOf (bytesKind PR w) (if i = 0 then [] else [(colS.toList, .bytes st t)])) (hm : m = over [("name", nv), ("value", vv), ("is_behind", some (.bool (decide (2 ≤ i))))] m₀) : PsInv w rest d st m₀ i m ((d, o) :: rest) := by rw [hm]; exact .mk o t nv vv h
inductive PlInv (X : Led) (m₀ : Str → Option Value) (i : Nat) : (Str → Option Value) → Led → Prop
  | mk (nv vv : Option Value) (b : Bool) : PlInv X m₀ i (over [("name", nv), ("value", vv), ("is_behind", some (.bool b))] m₀) X
theorem pl_mk {X : Led} {m₀ m : Str → Option Value} {i : Nat} (nv vv : Option Value) (b : Bool) (hm : m = over [("name", nv), ("value", vv), ("is_behind", some (.bool b))] m₀) : PlInv X m₀ i m X := by rw [hm]; exact .mk nv vv b
inductive Inv0 (X : Led) (m₀ : Str → Option Value) (i : Nat) : (Str → Option Value) → Led → Prop
  | mk : i = 0 → Inv0 X m₀ i m₀ X
theorem Inv0.z {X : Led} {m₀ m : Str → Option Value} {i : Nat} {n : Led} (h : Inv0 X m₀ i m n) : i = 0 := by cases h; assumption
theorem pseudo_stat {st : Array UInt8} {tl : List Fld} {fa ka : Addr} {kt : Tok} (hf : FieldsAt rest ((colS, st) :: tl) fa) (hka : (ka, tupo [.bytes colS kt]) ∈ rest) (hst : st ∈ valsC) (htl : Plain tl) :
    Does w mean mg mb 197 5 [.ref fa, .ref ka] rest (fun v news => ∃ d o t, v = .ref d ∧ news = (d, o) :: rest ∧ o.IsDictOf (bytesKind PR w) [(colS.toList, .bytes st t)] ∧ (d == sysModules) = false ∧ ∀ p ∈ rest, p.1 ≠ d) := by
  obtain ⟨its, k0, hm, hp, hz⟩ := hf
  unfold Does
  k_fill
  (intro dp un gd cn cs a ccd cl outer A₀ base h₀ L m s Q E B F X N T hk hdp hu hret; refine wpAny_call ?_; k_dflt cell_enter)
  k_steps
  rename_i d9 h1 o9 l1 lo9 hs9 fs9 hi9 fi9 D9 h2 l2 h3 h4 h5 N9
  refine iter_inv (PsInv w rest d9 st) rfl lF' (News.cut N9 fun p hp => .tail _ hp) (.tail _ hm)
    (ps_mk _ 0 _ _ (dict_nil_bytes hs9) (over_self2 _ (by repeat (first | exact agr_nil | refine agr_cons rfl ?_)))) (fun i m n h => by cases h; exact .tail _ hm) ?step ?done
  case step =>
    intro i v I oI h tk m n hv hI9 hoff F N
    cases hI9 with | mk o t nv vv hd =>
    have hg9 := ps_get hp hv
    clear hv
    cases hg9 with
    | zero pt nt tn tx hmt =>
      replace N := News.with1 (News.with1 N (.tail _ (.tail _ hka))) (.tail _ (.tail _ (.tail _ hmt)))
      rw [if_pos rfl] at hd
      have hq : colS ∈ namesC ∨ colS = colS := .inr rfl
      have hn1 : @Ne Nat pt d9 := Nat.ne_of_lt (l1 _ hmt)
      have hn2 : @Ne Nat ka d9 := Nat.ne_of_lt (l1 _ hka)
      have hn3 : @Ne Nat I d9 := fun e => hoff _ (.head _) e.symm
      have hn4 : ∀ p ∈ rest, p.1 ≠ d9 := fun p hp => Nat.ne_of_lt (l1 p hp)
      k_steps
      exact turn_end (by assumption) (by assumption) ((d9, _) :: rest) (sub_cons (by k_mem) (sub_cons (by k_mem) (by intro p hp; repeat (first | exact hp | apply List.mem_cons_of_mem))))
        (off_cons hn3.symm fun p hp => hoff _ (.tail _ hp)) (ps_mk _ tx _ _ (by assumption) (over_end2 _ (by repeat (first | exact agr_nil | refine agr_cons rfl ?_)) (fun z hz => by (repeat (first | with_reducible exact rfl | with_reducible exact over_nil | refine (if_neg (by first | with_reducible exact off1 hz | with_reducible exact off1 (off2 hz) | with_reducible exact off1 (off2 (off2 hz)) | with_reducible exact off1 (off2 (off2 (off2 hz))) | with_reducible exact off1 (off2 (off2 (off2 (off2 hz)))) | with_reducible exact off1 (off2 (off2 (off2 (off2 (off2 hz))))) | with_reducible exact off1 (off2 (off2 (off2 (off2 (off2 (off2 hz)))))) | with_reducible exact off1 (off2 (off2 (off2 (off2 (off2 (off2 (off2 hz))))))) | with_reducible exact off1 (off2 (off2 (off2 (off2 (off2 (off2 (off2 (off2 hz)))))))) | with_reducible exact off1 (off2 (off2 (off2 (off2 (off2 (off2 (off2 (off2 (off2 hz))))))))))).trans ?_)) <;> exact rfl)))
    | succ i p pt nt tn tx hpt hmt =>
      replace N := News.with1 (News.with1 N (.tail _ (.tail _ hka))) (.tail _ (.tail _ (.tail _ hmt)))
      have hq : p.1 ∈ namesC ∨ p.1 = colS := .inl (htl p hpt).1
      have hv2 : p.2 ∈ valsC := (htl p hpt).2
      have hA := (namesC_good p.1 (htl p hpt).1).2.2
      have hz1 : p.1.size ≤ sizeLine := Nat.le_trans (namesC_good p.1 (htl p hpt).1).1.2 (by decide)
      rw [if_neg (by omega)] at hd
      k_steps
      all_goals exact turn_end (by assumption) (by assumption) ((d9, _) :: rest) (sub_cons (by k_mem) (sub_cons (by k_mem) (by intro p hp; repeat (first | exact hp | apply List.mem_cons_of_mem)))) (fun p hp => hoff p hp) (ps_mk _ t _ _ (by rw [if_neg (by omega)]; assumption) (by rw [show decide (2 ≤ i + 1 + 1) = true by simp]; exact (over_end2 _ (by repeat (first | exact agr_nil | refine agr_cons rfl ?_)) (fun z hz => by (repeat (first | with_reducible exact rfl | with_reducible exact over_nil | refine (if_neg (by first | with_reducible exact off1 hz | with_reducible exact off1 (off2 hz) | with_reducible exact off1 (off2 (off2 hz)) | with_reducible exact off1 (off2 (off2 (off2 hz))) | with_reducible exact off1 (off2 (off2 (off2 (off2 hz)))) | with_reducible exact off1 (off2 (off2 (off2 (off2 (off2 hz))))) | with_reducible exact off1 (off2 (off2 (off2 (off2 (off2 (off2 hz)))))) | with_reducible exact off1 (off2 (off2 (off2 (off2 (off2 (off2 (off2 hz))))))) | with_reducible exact off1 (off2 (off2 (off2 (off2 (off2 (off2 (off2 (off2 hz)))))))) | with_reducible exact off1 (off2 (off2 (off2 (off2 (off2 (off2 (off2 (off2 (off2 hz))))))))))).trans ?_)) <;> exact rfl))))
  case done =>
    intro h tk m n hI9 F N
    cases hI9 with | mk o t nv vv hd =>
    rw [if_neg (by rw [hp.length]; simp)] at hd
    k_steps
    all_goals exact hret _ _ _ _ ⟨d9, o, t, rfl, rfl, hd, lo9, fun p hp => Nat.ne_of_lt (l1 p hp)⟩ (by assumption) (by assumption)
theorem pseudo_plain {tl : List Fld} {fa ka : Addr} (hf : FieldsAt rest tl fa) (htl : Plain tl) :
    Does w mean mg mb 197 5 [.ref fa, .ref ka] rest (fun v news => ∃ d o, v = .ref d ∧ news = (d, o) :: rest ∧ o.IsDictOf (bytesKind PR w) [] ∧ (d == sysModules) = false ∧ ∀ p ∈ rest, p.1 ≠ d) := by
  obtain ⟨its, k0, hm, hp, hz⟩ := hf
  unfold Does
  k_fill
  (intro dp un gd cn cs a ccd cl outer A₀ base h₀ L m s Q E B F X N T hk hdp hu hret; refine wpAny_call ?_; k_dflt cell_enter)
  k_steps
  rename_i d9 h1 o9 l1 lo9 hs9 fs9 hi9 fi9 D9 h2 l2 h3 h4 h5 N9
  refine iter_inv (PlInv ((d9, o9) :: rest)) rfl lF' (News.cut N9 fun p hp => .tail _ hp) (.tail _ hm)
    (pl_mk _ _ false (over_self2 _ (by repeat (first | exact agr_nil | refine agr_cons rfl ?_)))) (fun i m n h => by cases h; exact .tail _ hm) ?step ?done
  case step =>
    intro i v I oI h tk m n hv hI9 hoff F N
    cases hI9 with | mk nv vv b =>
    have hg9 := pair_get hp hv
    clear hv
    cases hg9 with | mk p pt nt tn tx hpi hmt =>
    replace N := News.with1 N (.tail _ (.tail _ hmt))
    have hpt : p ∈ tl := List.mem_of_getElem? (by simpa using hpi)
    have hq : p.1 ∈ namesC ∨ p.1 = colS := .inl (htl p hpt).1
    have hv2 : p.2 ∈ valsC := (htl p hpt).2
    have hA := (namesC_good p.1 (htl p hpt).1).2.2
    have hz1 : p.1.size ≤ sizeLine := Nat.le_trans (namesC_good p.1 (htl p hpt).1).1.2 (by decide)
    k_steps
    all_goals exact turn_end (by assumption) (by assumption) ((d9, _) :: rest) (sub_cons (by k_mem) (sub_cons (by k_mem) (by intro p hp; repeat (first | exact hp | apply List.mem_cons_of_mem)))) (fun p hp => hoff p hp) (pl_mk _ _ true (over_end2 _ (by repeat (first | exact agr_nil | refine agr_cons rfl ?_)) (fun z hz => by (repeat (first | with_reducible exact rfl | with_reducible exact over_nil | refine (if_neg (by first | with_reducible exact off1 hz | with_reducible exact off1 (off2 hz) | with_reducible exact off1 (off2 (off2 hz)) | with_reducible exact off1 (off2 (off2 (off2 hz))) | with_reducible exact off1 (off2 (off2 (off2 (off2 hz)))) | with_reducible exact off1 (off2 (off2 (off2 (off2 (off2 hz))))) | with_reducible exact off1 (off2 (off2 (off2 (off2 (off2 (off2 hz)))))) | with_reducible exact off1 (off2 (off2 (off2 (off2 (off2 (off2 (off2 hz))))))) | with_reducible exact off1 (off2 (off2 (off2 (off2 (off2 (off2 (off2 (off2 hz)))))))) | with_reducible exact off1 (off2 (off2 (off2 (off2 (off2 (off2 (off2 (off2 (off2 hz))))))))))).trans ?_)) <;> exact rfl)))
  case done =>
    intro h tk m n hI9 F N
    cases hI9 with | mk nv vv b =>
    k_steps
    all_goals exact hret _ _ _ _ ⟨d9, o9, rfl, rfl, dict_nil_bytes hs9, lo9, fun p hp => Nat.ne_of_lt (l1 p hp)⟩ (by assumption) (by assumption)
theorem pseudo_bad {st : Array UInt8} {tl : List Fld} {fa ka : Addr} (hf : FieldsAt rest ((colS, st) :: tl) fa) (hka : (ka, tupo []) ∈ rest) (hst : st ∈ valsC) :
    DoesX w mean mg mb 197 10 [.ref fa, .ref ka] rest (fun v news => False) (fun c => c = 270) := by
  obtain ⟨its, k0, hm, hp, hz⟩ := hf
  unfold DoesX
  k_fill
  (intro dp un gd cn cs a ccd cl outer A₀ base h₀ L m s Q E B F X N T hk hdp hu hret hexc; refine wpAny_call ?_; k_dflt cell_enter)
  k_steps
  rename_i d9 h1 o9 l1 lo9 hs9 fs9 hi9 fi9 D9 h2 l2 h3 h4 h5 N9
  refine iter_inv (Inv0 ((d9, o9) :: rest)) rfl lF' (News.cut N9 fun p hp => .tail _ hp) (.tail _ hm)
    (.mk rfl) (fun i m n h => by cases h; exact .tail _ hm) ?step ?done
  case step =>
    intro i v I oI h tk m n hv hI9 hoff F N
    rw [hI9.z] at hv
    have hg9 := ps_get hp hv
    clear hv
    cases hI9 with | mk hi0 =>
    cases hg9 with | zero pt nt tn tx hmt =>
    replace N := News.with1 (News.with1 N (.tail _ (.tail _ hka))) (.tail _ (.tail _ (.tail _ hmt)))
    have hq : colS ∈ namesC ∨ colS = colS := .inr rfl
    k_steps
    all_goals exact hexc _ _ _ _ _ (by assumption) (by assumption) (Fly.mono (by assumption) (by intro p hp; repeat (first | exact hp | apply List.mem_cons_of_mem))) (by assumption)
  case done =>
    intro h tk m n hI9
    have e := hI9.z
    rw [hp.length] at e
    simp at e

section
variable {prog : Program} {w : World} {A : Around} {E : Value → Shared → Prop} {s : Shared} {h₀ : Heap} {L d : Addr} {news : Led} {o : Obj} {kvs : List (List UInt8 × Value)} {b : Array UInt8} {v dflt : Value} {t : Tok}
theorem bget_some {Q : Value → Shared → Prop} (N : News h₀ L s.heap news) (hp : (d, o) ∈ news) (hd : o.IsDictOf (bytesKind prog w) kvs) (lo : (d == sysModules) = false) (hl : valueAt kvs b.toList = some v) (h : Q v { s with toks := s.toks + 1 }) :
    wpAny (model prog w) A (call (.builtin "dict.get") [.ref d, .bytes b t, dflt]) Q E s := kdg_get2 N hp hd lo (bytesKind_is _ _) (some v) hl h
theorem bget_none {Q : Value → Shared → Prop} (N : News h₀ L s.heap news) (hp : (d, o) ∈ news) (hd : o.IsDictOf (bytesKind prog w) kvs) (lo : (d == sysModules) = false) (hl : valueAt kvs b.toList = none) (h : Q dflt { s with toks := s.toks + 1 }) :
    wpAny (model prog w) A (call (.builtin "dict.get") [.ref d, .bytes b t, dflt]) Q E s := kdg_get2 N hp hd lo (bytesKind_is _ _) none hl h
theorem valueAt_one {k k' : List UInt8} {v : Value} (h : k = k') : valueAt [(k, v)] k' = some v := by subst h; simp [valueAt]
end
example : True := by (k_with "call builtin:dict.get" => (k_here; (with_reducible show wpAny _ _ (call (Value.builtin "dict.get") [Value.ref _, Value.bytes _ _, _]) _ _ _); k_dflt (first | refine bget_some (by k_asm) (by k_mem) (by assumption) (by assumption) (valueAt_one rfl) ?_ | refine bget_none (by k_asm) (by k_mem) (by assumption) (by assumption) (show valueAt [] _ = none from rfl) ?_))); trivial
example : True := by (k_with "call ref" => (k_here; (with_reducible show wpAny _ _ (call (Value.ref 197) _) _ _ _); k_dflt (refine' dz1 (pseudo_stat ?zzq ?zzk ?zzs ?zzp) (u_e3c) ?_; ((case zzq => (first | assumption | (refine FieldsAt.mono ?_ (by assumption); intro p hp; repeat (first | exact hp | apply List.mem_cons_of_mem)))); (case zzk => k_mem); (case zzs => assumption); (case zzp => assumption))); (intro pd' po' pt' pd2' plo' pne' h' tk' F' N'; (skip); (try k_sweep)))); trivial
example : True := by (k_with "call ref" => (k_here; (with_reducible show wpAny _ _ (call (Value.ref 197) _) _ _ _); k_dflt (refine' dz1 (pseudo_plain ?zzq ?zzp) (u_e2c) ?_; ((case zzq => (first | assumption | (refine FieldsAt.mono ?_ (by assumption); intro p hp; repeat (first | exact hp | apply List.mem_cons_of_mem)))); (case zzp => assumption))); (intro pd' po' pd2' plo' pne' h' tk' F' N'; (skip); (try k_sweep)))); trivial
example : True := by (k_with "call ref" => (k_here; (with_reducible show wpAny _ _ (call (Value.ref 197) _) _ _ _); k_dflt (refine' dzXn (pseudo_bad ?zzq ?zzk ?zzs) ?_; ((case zzq => (first | assumption | (refine FieldsAt.mono ?_ (by assumption); intro p hp; repeat (first | exact hp | apply List.mem_cons_of_mem)))); (case zzk => k_mem); (case zzs => assumption))); intro e' c' g' h' tk' hXc' FG' R' U'; (try dsimp only))); trivial
example : True := by (k_with "call ref" => (k_here; (with_reducible show wpAny _ _ (call (Value.ref 223) _) _ _ _); k_dflt (refine' dz1 (clen_none ?zzq ?zzh) (u_eq) ?_; ((case zzq => (first | assumption | (refine FieldsAt.mono ?_ (by assumption); intro p hp; repeat (first | exact hp | apply List.mem_cons_of_mem)))); (case zzh => assumption))); (intro  h' tk' F' N'; (skip); (try k_sweep)))); trivial
example : True := by (k_with "call ref" => (k_here; (with_reducible show wpAny _ _ (call (Value.ref 223) _) _ _ _); k_dflt (refine' dz1 (clen_one ?zzq ?zzh ?zzb) (u_ex) ?_; ((case zzq => (first | assumption | (refine FieldsAt.mono ?_ (by assumption); intro p hp; repeat (first | exact hp | apply List.mem_cons_of_mem)))); (case zzh => assumption); (case zzb => assumption))); (intro t9' h' tk' F' N'; (skip); (try k_sweep)))); trivial
example : True := by (k_with "call ref" => (k_here; (with_reducible show wpAny _ _ (call (Value.ref 185) _) _ _ _); k_dflt (refine' dzXn (digits_bad) ?_; (skip)); intro e' c' g' h' tk' hXc' FG' R' U'; (try dsimp only))); trivial
variable {w : World} {mean : ExcName → Option Value} {mg mb : Str → Option Value} {rest : Led}
def statC : List (Array UInt8) := [#[50,48,48], #[52,48,52], #[50,48,52], #[51,48,52], #[49,48,51], #[49,48,48], #[49,48,49]]
theorem statC_good : ∀ b ∈ statC, b ∈ digsC ∧ b ∈ valsC ∧ b.size = 3 ∧ 100 ≤ numOf b ∧ numOf b ≤ 404 := by decide +kernel
abbrev clenN : Array UInt8 := #[99,111,110,116,101,110,116,45,108,101,110,103,116,104]
theorem answer_none {st : Array UInt8} {tl : List Fld} {fa : Addr} (hf : FieldsAt rest ((colS, st) :: tl) fa) (hst : st ∈ statC) (htl : Plain tl) (hv : valsOf ((colS, st) :: tl) #[99,111,110,116,101,110,116,45,108,101,110,103,116,104] = []) :
    Does w mean mg mb 204 6 [.ref fa] rest (fun v news => (∃ t, v = .int (numOf st) t) ∧ news = rest) := by
  obtain ⟨hst1, hst2, hst3, hst4, hst5⟩ := statC_good st hst
  have hz1 : st.size ≤ 1099511627776 := by rw [hst3]; decide
  have hz2 : (st.size : Int) = 3 := by rw [hst3]; rfl
  unfold Does
  k_fill
  (intro dp un gd cn cs a ccd cl outer A₀ base h₀ L m s Q E B F X N T hk hdp hu hret; refine wpAny_call ?_; k_dflt cell_enter)
  k_steps
  all_goals first | exact hret _ _ _ _ ⟨⟨_, rfl⟩, rfl⟩ (by assumption) (News.cut (by assumption) (by intro p hp; repeat (first | exact hp | apply List.mem_cons_of_mem))) | (exfalso; omega)
theorem answer_one {st b : Array UInt8} {tl : List Fld} {fa : Addr} (hf : FieldsAt rest ((colS, st) :: tl) fa) (hst : st ∈ statC) (htl : Plain tl) (hv : valsOf ((colS, st) :: tl) #[99,111,110,116,101,110,116,45,108,101,110,103,116,104] = [b]) (hb : b ∈ digsC) :
    Does w mean mg mb 204 6 [.ref fa] rest (fun v news => (∃ t, v = .int (numOf st) t) ∧ news = rest) := by
  obtain ⟨hst1, hst2, hst3, hst4, hst5⟩ := statC_good st hst
  have hz1 : st.size ≤ 1099511627776 := by rw [hst3]; decide
  have hz2 : (st.size : Int) = 3 := by rw [hst3]; rfl
  unfold Does
  k_fill
  (intro dp un gd cn cs a ccd cl outer A₀ base h₀ L m s Q E B F X N T hk hdp hu hret; refine wpAny_call ?_; k_dflt cell_enter)
  k_steps
  all_goals first | exact hret _ _ _ _ ⟨⟨_, rfl⟩, rfl⟩ (by assumption) (News.cut (by assumption) (by intro p hp; repeat (first | exact hp | apply List.mem_cons_of_mem))) | (exfalso; omega)
theorem answer_bad {tl : List Fld} {fa : Addr} (hf : FieldsAt rest ((colS, #[50, 48, 120]) :: tl) fa) (htl : Plain tl) :
    DoesX w mean mg mb 204 11 [.ref fa] rest (fun v news => False) (fun c => c = 270) := by
  have hst : (#[50, 48, 120] : Array UInt8) ∈ valsC := by decide +kernel
  have hz1 : (#[50, 48, 120] : Array UInt8).size ≤ 1099511627776 := by decide
  unfold DoesX
  k_fill
  (intro dp un gd cn cs a ccd cl outer A₀ base h₀ L m s Q E B F X N T hk hdp hu hret hexc; refine wpAny_call ?_; k_dflt cell_enter)
  k_steps
  all_goals exact hexc _ _ _ _ _ (by assumption) (by assumption) (Fly.mono (by assumption) (by intro p hp; repeat (first | exact hp | apply List.mem_cons_of_mem))) (by assumption)
theorem answer_plain {tl : List Fld} {fa : Addr} (hf : FieldsAt rest tl fa) (htl : Plain tl) :
    DoesX w mean mg mb 204 11 [.ref fa] rest (fun v news => False) (fun c => c = 270) := by
  have hz1 : (#[] : Array UInt8).size ≤ 1099511627776 := by decide
  unfold DoesX
  k_fill
  (intro dp un gd cn cs a ccd cl outer A₀ base h₀ L m s Q E B F X N T hk hdp hu hret hexc; refine wpAny_call ?_; k_dflt cell_enter)
  k_steps
  all_goals exact hexc _ _ _ _ _ (by assumption) (by assumption) (Fly.mono (by assumption) (by intro p hp; repeat (first | exact hp | apply List.mem_cons_of_mem))) (by assumption)

variable {w : World} {mean : ExcName → Option Value} {mg mb : Str → Option Value} {rest : Led}
theorem trailer_ok {tl : List Fld} {fa : Addr} (hf : FieldsAt rest tl fa) (htl : Plain tl) : Does w mean mg mb 211 6 [.ref fa] rest (fun v news => v = .none ∧ news = rest) := by
  unfold Does
  k_fill
  (intro dp un gd cn cs a ccd cl outer A₀ base h₀ L m s Q E B F X N T hk hdp hu hret; refine wpAny_call ?_; k_dflt cell_enter)
  k_steps
  all_goals exact hret _ _ _ _ ⟨rfl, rfl⟩ (by assumption) (News.cut (by assumption) (by intro p hp; repeat (first | exact hp | apply List.mem_cons_of_mem)))
theorem trailer_bad {st : Array UInt8} {tl : List Fld} {fa : Addr} (hf : FieldsAt rest ((colS, st) :: tl) fa) (hst : st ∈ valsC) : DoesX w mean mg mb 211 11 [.ref fa] rest (fun v news => False) (fun c => c = 270) := by
  unfold DoesX
  k_fill
  (intro dp un gd cn cs a ccd cl outer A₀ base h₀ L m s Q E B F X N T hk hdp hu hret hexc; refine wpAny_call ?_; k_dflt cell_enter)
  k_steps
  all_goals exact hexc _ _ _ _ _ (by assumption) (by assumption) (Fly.mono (by assumption) (by intro p hp; repeat (first | exact hp | apply List.mem_cons_of_mem))) (by assumption)
theorem interim_ok {n : Int} {t : Nat} (h0 : 100 ≤ n) (h1 : n ≠ 101) (h2 : n ≤ 404) : Does w mean mg mb 218 1 [.int n t] rest (fun v news => v = .bool (decide (n < 200)) ∧ news = rest) := by
  unfold Does
  k_fill
  (intro dp un gd cn cs a ccd cl outer A₀ base h₀ L m s Q E B F X N T hk hdp hu hret; refine wpAny_call ?_; k_dflt cell_enter)
  k_steps
  all_goals first | exact hret _ _ _ _ ⟨rfl, rfl⟩ (by assumption) (News.cut (by assumption) (by intro p hp; repeat (first | exact hp | apply List.mem_cons_of_mem))) | (exfalso; omega)
theorem interim_bad {t : Nat} : DoesX w mean mg mb 218 7 [.int 101 t] rest (fun v news => False) (fun c => c = 270) := by
  unfold DoesX
  k_fill
  (intro dp un gd cn cs a ccd cl outer A₀ base h₀ L m s Q E B F X N T hk hdp hu hret hexc; refine wpAny_call ?_; k_dflt cell_enter)
  k_steps
  all_goals exact hexc _ _ _ _ _ (by assumption) (by assumption) (Fly.mono (by assumption) (by intro p hp; repeat (first | exact hp | apply List.mem_cons_of_mem))) (by assumption)
def getB : Array UInt8 := #[71,69,84]
def headB : Array UInt8 := #[72,69,65,68]
def isBare (me : Array UInt8) (n : Int) : Bool := me.toList == headB.toList || [204, 304].any (fun x => x == n)
theorem bare_get {n : Int} {t u : Nat} (h0 : 100 ≤ n) (h2 : n ≤ 404) : Does w mean mg mb 230 1 [.bytes #[71,69,84] t, .int n u] rest (fun v news => v = .bool (isBare getB n) ∧ news = rest) := by
  unfold Does
  k_fill
  (intro dp un gd cn cs a ccd cl outer A₀ base h₀ L m s Q E B F X N T hk hdp hu hret; refine wpAny_call ?_; k_dflt cell_enter)
  k_steps
  · exact hret _ _ _ _ ⟨rfl, rfl⟩ (by assumption) (News.cut (by assumption) (by intro p hp; repeat (first | exact hp | apply List.mem_cons_of_mem)))
  · have hb : isBare getB n = false := by
      show (false || [204, 304].any (fun x => x == n)) = false
      rw [‹([204, 304].any fun x => x == n) = false›]; rfl
    exact hret _ _ _ _ ⟨by rw [hb], rfl⟩ (by assumption) (News.cut (by assumption) (by intro p hp; repeat (first | exact hp | apply List.mem_cons_of_mem)))
theorem bare_head {n : Int} {t u : Nat} : Does w mean mg mb 230 1 [.bytes #[72,69,65,68] t, .int n u] rest (fun v news => v = .bool (isBare headB n) ∧ news = rest) := by
  unfold Does
  k_fill
  (intro dp un gd cn cs a ccd cl outer A₀ base h₀ L m s Q E B F X N T hk hdp hu hret; refine wpAny_call ?_; k_dflt cell_enter)
  k_steps
  all_goals exact hret _ _ _ _ ⟨rfl, rfl⟩ (by assumption) (News.cut (by assumption) (by intro p hp; repeat (first | exact hp | apply List.mem_cons_of_mem)))
theorem bare_spec {me : Array UInt8} {n : Int} {t u : Nat} (hm : me = getB ∨ me = headB) (h0 : 100 ≤ n) (h2 : n ≤ 404) : Does w mean mg mb 230 1 [.bytes me t, .int n u] rest (fun v news => v = .bool (isBare me n) ∧ news = rest) := by
  rcases hm with rfl | rfl
  · exact bare_get h0 h2
  · exact bare_head
def clenOf (fl : List Fld) : Option Int := match valsOf fl clenN with | [] => none | b :: _ => some (numOf b)
def lenOk (told : Option Int) (size : Int) (bare : Bool) : Bool := if bare then size == 0 else match told with | none => true | some n => n == size
theorem len_none {fl : List Fld} {fa : Addr} {z : Int} {t : Nat} {bare : Bool} (hf : FieldsAt rest fl fa) (hz0 : 0 ≤ z) (hz1 : z ≤ 1000) (hv : valsOf fl #[99,111,110,116,101,110,116,45,108,101,110,103,116,104] = []) :
    DoesX w mean mg mb 237 7 [.ref fa, .int z t, .bool bare] rest (fun v news => v = .none ∧ news = rest ∧ lenOk none z bare = true) (fun c => c = 270 ∧ lenOk none z bare = false) := by
  unfold DoesX
  k_fill
  (intro dp un gd cn cs a ccd cl outer A₀ base h₀ L m s Q E B F X N T hk hdp hu hret hexc; refine wpAny_call ?_; k_dflt cell_enter)
  k_steps
  · exact hexc _ _ _ _ _ (⟨by assumption, by rw [show bare = true by assumption]; simp [lenOk]; omega⟩) (by assumption) (Fly.mono (by assumption) (by intro p hp; repeat (first | exact hp | apply List.mem_cons_of_mem))) (by assumption)
  · exact hret _ _ _ _ ⟨rfl, rfl, by rw [show bare = true by assumption]; simp [lenOk]; omega⟩ (by assumption) (News.cut (by assumption) (by intro p hp; repeat (first | exact hp | apply List.mem_cons_of_mem)))
  · exact hret _ _ _ _ ⟨rfl, rfl, by rw [show bare = false by assumption]; rfl⟩ (by assumption) (News.cut (by assumption) (by intro p hp; repeat (first | exact hp | apply List.mem_cons_of_mem)))
theorem len_one {fl : List Fld} {fa : Addr} {z : Int} {t : Nat} {bare : Bool} {b : Array UInt8} (hf : FieldsAt rest fl fa) (hz0 : 0 ≤ z) (hz1 : z ≤ 1000) (hv : valsOf fl #[99,111,110,116,101,110,116,45,108,101,110,103,116,104] = [b]) (hb : b ∈ digsC) :
    DoesX w mean mg mb 237 7 [.ref fa, .int z t, .bool bare] rest (fun v news => v = .none ∧ news = rest ∧ lenOk (some (numOf b)) z bare = true) (fun c => c = 270 ∧ lenOk (some (numOf b)) z bare = false) := by
  unfold DoesX
  k_fill
  (intro dp un gd cn cs a ccd cl outer A₀ base h₀ L m s Q E B F X N T hk hdp hu hret hexc; refine wpAny_call ?_; k_dflt cell_enter)
  k_steps
  · exact hexc _ _ _ _ _ (⟨by assumption, by rw [show bare = true by assumption]; simp [lenOk]; omega⟩) (by assumption) (Fly.mono (by assumption) (by intro p hp; repeat (first | exact hp | apply List.mem_cons_of_mem))) (by assumption)
  · exact hret _ _ _ _ ⟨rfl, rfl, by rw [show bare = true by assumption]; simp [lenOk]; omega⟩ (by assumption) (News.cut (by assumption) (by intro p hp; repeat (first | exact hp | apply List.mem_cons_of_mem)))
  · exact hexc _ _ _ _ _ (⟨by assumption, by rw [show bare = false by assumption]; simp [lenOk]; omega⟩) (by assumption) (Fly.mono (by assumption) (by intro p hp; repeat (first | exact hp | apply List.mem_cons_of_mem))) (by assumption)
  · exact hret _ _ _ _ ⟨rfl, rfl, by rw [show bare = false by assumption]; simp [lenOk]; omega⟩ (by assumption) (News.cut (by assumption) (by intro p hp; repeat (first | exact hp | apply List.mem_cons_of_mem)))

variable {w : World} {mean : ExcName → Option Value} {mg mb : Str → Option Value} {rest : Led}
theorem Does.toX {f : Addr} {k k' : Nat} {args : List Value} {news : Led} {Post Post' : Value → Led → Prop} {Xc : Int → Prop} (H : Does w mean mg mb f k args news Post) (hk : k ≤ k') (hp : ∀ v n, Post v n → Post' v n) : DoesX w mean mg mb f k' args news Post' Xc := by
  intro dp un gd cn cs a ccd cl outer A₀ base h₀ L m s Q E B F X N T hk2 hdp hu hret hexc
  exact does_use H B F X N T hk2 (by omega) (by omega) fun v news' h' tk' hP F' N' => hret v news' h' tk' (hp _ _ hP) F' N'
theorem DoesX.mono {f : Addr} {k k' : Nat} {args : List Value} {news : Led} {Post Post' : Value → Led → Prop} {Xc Xc' : Int → Prop} (H : DoesX w mean mg mb f k args news Post Xc) (hk : k ≤ k') (hp : ∀ v n, Post v n → Post' v n) (hx : ∀ c, Xc c → Xc' c) : DoesX w mean mg mb f k' args news Post' Xc' := by
  intro dp un gd cn cs a ccd cl outer A₀ base h₀ L m s Q E B F X N T hk2 hdp hu hret hexc
  exact doesX_use H B F X N T hk2 (by omega) (by omega) (fun v news' h' tk' hP F' N' => hret v news' h' tk' (hp _ _ hP) F' N') fun e c g h' tk' hX F' R U => hexc e c g h' tk' (hx _ hX) F' R U
def clensC : List (Array UInt8) := [#[53], #[51], #[48]]
theorem clensC_digs : ∀ b ∈ clensC, b ∈ digsC := by decide +kernel
inductive WF : List Fld → Prop
  | stat (st : Array UInt8) (tl : List Fld) : (st ∈ statC ∨ st = #[50, 48, 120]) → Plain tl → (valsOf ((colS, st) :: tl) clenN = [] ∨ ∃ b ∈ clensC, valsOf ((colS, st) :: tl) clenN = [b]) → WF ((colS, st) :: tl)
  | plain (fl : List Fld) : Plain fl → fl ≠ [] → valsOf fl clenN = [] → WF fl
theorem WF.vals {fl : List Fld} (h : WF fl) : valsOf fl #[99,111,110,116,101,110,116,45,108,101,110,103,116,104] = [] ∨ ∃ b ∈ clensC, valsOf fl #[99,111,110,116,101,110,116,45,108,101,110,103,116,104] = [b] := by
  cases h with
  | stat _ _ _ _ h => exact h
  | plain _ _ _ h => exact .inl h
def statOf : List Fld → Option Int
  | (n, st) :: _ => if n.toList == colS.toList && statC.any (fun y => y.toList == st.toList) then some (numOf st) else none
  | [] => none
def isCol1 : List Fld → Bool
  | f :: _ => isCol f
  | [] => false
theorem statC_any : ∀ st ∈ statC, statC.any (fun y => y.toList == st.toList) = true := by decide +kernel
theorem namesC_col : ∀ n ∈ namesC, (n.toList == colS.toList) = false := by decide +kernel
theorem statOf_stat {st : Array UInt8} {tl : List Fld} (h : st ∈ statC) : statOf ((colS, st) :: tl) = some (numOf st) := by
  show (if (colS.toList == colS.toList && statC.any fun y => y.toList == st.toList) = true then some (numOf st) else none) = _
  rw [statC_any st h]; rfl
theorem statOf_bad {tl : List Fld} : statOf ((colS, #[50, 48, 120]) :: tl) = none := by
  show (if (colS.toList == colS.toList && statC.any fun y => y.toList == (#[50, 48, 120] : Array UInt8).toList) = true then some (numOf #[50, 48, 120]) else none) = _
  rw [show statC.any (fun y => y.toList == (#[50, 48, 120] : Array UInt8).toList) = false by decide +kernel]; rfl
theorem statOf_plain {fl : List Fld} (h : Plain fl) : statOf fl = none := by
  cases fl with
  | nil => rfl
  | cons f tl =>
    obtain ⟨n, v⟩ := f
    show (if (n.toList == colS.toList && statC.any fun y => y.toList == v.toList) = true then some (numOf v) else none) = _
    rw [namesC_col n (h _ (.head _)).1]; rfl
theorem isCol1_plain {fl : List Fld} (h : Plain fl) : isCol1 fl = false := by
  cases fl with
  | nil => rfl
  | cons f tl => exact namesC_col f.1 (h _ (.head _)).1
theorem answer_spec {fl : List Fld} {fa : Addr} (hf : FieldsAt rest fl fa) (wf : WF fl) : DoesX w mean mg mb 204 11 [.ref fa] rest (fun v news => ∃ n t, v = .int n t ∧ news = rest ∧ statOf fl = some n ∧ 100 ≤ n ∧ n ≤ 404) (fun c => c = 270 ∧ statOf fl = none) := by
  cases wf with
  | stat st tl hst hp hv =>
    rcases hst with hst | rfl
    · have hs := statC_good st hst
      rcases hv with hv | ⟨b, hb, hv⟩
      · exact Does.toX (answer_none hf hst hp hv) (by omega) fun v n ⟨⟨t, e⟩, e2⟩ => ⟨_, t, e, e2, statOf_stat hst, hs.2.2.2.1, hs.2.2.2.2⟩
      · exact Does.toX (answer_one hf hst hp hv (clensC_digs b hb)) (by omega) fun v n ⟨⟨t, e⟩, e2⟩ => ⟨_, t, e, e2, statOf_stat hst, hs.2.2.2.1, hs.2.2.2.2⟩
    · exact DoesX.mono (answer_bad hf hp) (Nat.le_refl _) (fun _ _ h => h.elim) fun c h => ⟨h, statOf_bad⟩
  | plain _ hp hne hpv => exact DoesX.mono (answer_plain hf hp) (Nat.le_refl _) (fun _ _ h => h.elim) fun c h => ⟨h, statOf_plain hp⟩
def dueStat (fl : List Fld) : Option Int := match statOf fl with | some n => if n = 101 then none else some n | none => none
theorem Does.mono {f : Addr} {k : Nat} {args : List Value} {news : Led} {Post Post' : Value → Led → Prop} (H : Does w mean mg mb f k args news Post) (hp : ∀ v n, Post v n → Post' v n) : Does w mean mg mb f k args news Post' := by
  intro dp un gd cn cs a ccd cl outer A₀ base h₀ L m s Q E B F X N T hk2 hdp hu hret
  exact does_use H B F X N T hk2 hdp hu fun v news' h' tk' hP F' N' => hret v news' h' tk' (hp _ _ hP) F' N'
theorem statC_due : ∀ st ∈ statC, dueOf st = if numOf st = 101 then none else some (numOf st) := by decide +kernel
theorem plain_noCol {tl : List Fld} (h : Plain tl) : ∀ p ∈ tl, isCol p = false := fun p hp => namesC_col p.1 (h p hp).1
theorem due_spec {fl : List Fld} {fa : Addr} (hf : FieldsAt rest fl fa) (wf : WF fl) : Does w mean mg mb 273 2 [.ref fa] rest (fun v news => optInt (dueStat fl) v ∧ news = rest) := by
  cases wf with
  | stat st tl hst hp hv =>
    rcases hst with hst | rfl
    · refine Does.mono (head_due_some hf (plain_noCol hp) (statC_good st hst).2.1) fun v n h => ?_
      unfold dueStat
      rw [statOf_stat hst]
      show optInt (if numOf st = 101 then none else some (numOf st)) v ∧ _
      rw [← statC_due st hst]; exact h
    · refine Does.mono (head_due_some hf (plain_noCol hp) (by decide +kernel)) fun v n h => ?_
      unfold dueStat
      rw [statOf_bad]
      rw [show dueOf #[50, 48, 120] = none by decide +kernel] at h; exact h
  | plain _ hp hne hpv =>
    refine Does.mono (head_due_none hf (plain_noCol hp)) fun v n h => ?_
    unfold dueStat
    rw [statOf_plain hp]; exact h
theorem trailer_spec {fl : List Fld} {fa : Addr} (hf : FieldsAt rest fl fa) (wf : WF fl) : DoesX w mean mg mb 211 11 [.ref fa] rest (fun v news => v = .none ∧ news = rest ∧ isCol1 fl = false) (fun c => c = 270 ∧ isCol1 fl = true) := by
  cases wf with
  | stat st tl hst hp hv =>
    have hs : st ∈ valsC := by
      rcases hst with hst | rfl
      · exact (statC_good st hst).2.1
      · decide +kernel
    exact DoesX.mono (trailer_bad hf hs) (Nat.le_refl _) (fun _ _ h => h.elim) fun c h => ⟨h, rfl⟩
  | plain _ hp hne hpv => exact Does.toX (trailer_ok hf hp) (by omega) fun v n h => ⟨h.1, h.2, isCol1_plain hp⟩
theorem length_spec {fl : List Fld} {fa : Addr} {z : Int} {t : Nat} {bare : Bool} (hf : FieldsAt rest fl fa) (wf : WF fl) (hs : (statOf fl).isSome = true) (hz0 : 0 ≤ z) (hz1 : z ≤ 1000) :
    DoesX w mean mg mb 237 7 [.ref fa, .int z t, .bool bare] rest (fun v news => v = .none ∧ news = rest ∧ lenOk (clenOf fl) z bare = true) (fun c => c = 270 ∧ lenOk (clenOf fl) z bare = false) := by
  cases wf with
  | stat st tl hst hp hv =>
    rcases hv with hv | ⟨b, hb, hv⟩
    · have := len_none (w := w) (mean := mean) (mg := mg) (mb := mb) (t := t) (bare := bare) hf hz0 hz1 hv
      unfold clenOf; rw [hv]; exact this
    · have := len_one (w := w) (mean := mean) (mg := mg) (mb := mb) (t := t) (bare := bare) hf hz0 hz1 hv (clensC_digs b hb)
      unfold clenOf; rw [hv]; exact this
  | plain _ hp hne hpv => rw [statOf_plain hp] at hs; cases hs
example : True := by (k_with "call ref" => (k_here; (with_reducible show wpAny _ _ (call (Value.ref 204) _) _ _ _); k_dflt (refine' dzX1 (answer_spec ?zzq ?zzp) (u_e2c) ?_ ?_; ((case zzq => (first | assumption | (refine FieldsAt.mono ?_ (by assumption); intro p hp; repeat (first | exact hp | apply List.mem_cons_of_mem)))); (case zzp => assumption))); (intro an' at' ps' pl' pg' h' tk' F' N'; (skip); (try k_sweep)); rotate_left; (intro e' c' g' h' tk' hXc' FG' R' U'; (try dsimp only)); rotate_left)); trivial
example : True := by (k_with "call ref" => (k_here; (with_reducible show wpAny _ _ (call (Value.ref 273) _) _ _ _); k_dflt (refine' dz1 (due_spec ?zzq ?zzp) (u_pr) ?_; ((case zzq => (first | assumption | (refine FieldsAt.mono ?_ (by assumption); intro p hp; repeat (first | exact hp | apply List.mem_cons_of_mem)))); (case zzp => assumption))); (intro dv' po' h' tk' F' N'; (skip); (try k_sweep)))); trivial
example : True := by (k_with "call ref" => (k_here; (with_reducible show wpAny _ _ (call (Value.ref 211) _) _ _ _); k_dflt (refine' dzX1 (trailer_spec ?zzq ?zzp) (u_eq1) ?_ ?_; ((case zzq => (first | assumption | (refine FieldsAt.mono ?_ (by assumption); intro p hp; repeat (first | exact hp | apply List.mem_cons_of_mem)))); (case zzp => assumption))); (intro pc' h' tk' F' N'; (skip); (try k_sweep)); rotate_left; (intro e' c' g' h' tk' hXc' FG' R' U'; (try dsimp only)); rotate_left)); trivial
example : True := by (k_with "call ref" => (k_here; (with_reducible show wpAny _ _ (call (Value.ref 218) _) _ _ _); k_dflt (refine' dz1 (interim_ok ?zza ?zzb ?zzc) (u_eq) ?_; ((case zza => assumption); (case zzb => assumption); (case zzc => assumption))); (intro  h' tk' F' N'; (skip); (try k_sweep)))); trivial
example : True := by (k_with "call ref" => (k_here; (with_reducible show wpAny _ _ (call (Value.ref 218) _) _ _ _); k_dflt (refine' dzXn (interim_bad) ?_; (skip)); intro e' c' g' h' tk' hXc' FG' R' U'; (try dsimp only))); trivial
example : True := by (k_with "call ref" => (k_here; (with_reducible show wpAny _ _ (call (Value.ref 237) _) _ _ _); k_dflt (refine' dzX1 (length_spec ?zzq ?zzp ?zzs ?zza ?zzb) (u_eq1) ?_ ?_; ((case zzq => (first | assumption | (refine FieldsAt.mono ?_ (by assumption); intro p hp; repeat (first | exact hp | apply List.mem_cons_of_mem)))); (case zzp => assumption); (case zzs => assumption); (case zza => assumption); (case zzb => assumption))); (intro pc' h' tk' F' N'; (skip); (try k_sweep)); rotate_left; (intro e' c' g' h' tk' hXc' FG' R' U'; (try dsimp only)); rotate_left)); trivial
example : True := by (k_with "call ref" => (k_here; (with_reducible show wpAny _ _ (call (Value.ref 230) _) _ _ _); k_dflt (refine' dz1 (bare_spec ?zzm ?zza ?zzb) (u_eq) ?_; ((case zzm => assumption); (case zza => assumption); (case zzb => assumption))); (intro  h' tk' F' N'; (skip); (try k_sweep)))); trivial
example : True := by (k_with "call ref" => (k_here; (with_reducible show wpAny _ _ (call (Value.ref 242) _) _ _ _); k_dflt (refine' dz1 (section_spec ?zzq ?zzs) (u_ex) ?_; ((case zzq => (first | assumption | (refine FieldsAt.mono ?_ (by assumption); intro p hp; repeat (first | exact hp | apply List.mem_cons_of_mem)))); (case zzs => assumption))); (intro ct' h' tk' F' N'; (skip); (try k_sweep)))); trivial
example : True := by (k_with "call ref" => (k_here; (with_reducible show wpAny _ _ (call (Value.ref 268) _) _ _ _); k_dflt (refine' dz1 (cost_spec ?zzq ?zzs) (u_ex) ?_; ((case zzq => (first | assumption | (refine FieldsAt.mono ?_ (by assumption); intro p hp; repeat (first | exact hp | apply List.mem_cons_of_mem)))); (case zzs => assumption))); (intro ct' h' tk' F' N'; (skip); (try k_sweep)))); trivial

example : True := by (k_with "call ref" => (k_here; (with_reducible show wpAny _ _ (call (Value.ref 144) _) _ _ _); k_dflt (refine' call_cls ?zzk1 ?zzk2 ?zzk3 ?zzk4 ?zzk5 ?zzk6 ?_; (case zzk1 => k_asm); (case zzk2 => k_asm); (case zzk3 => k_asm); (case zzk4 => k_is); (case zzk5 => k_is); (case zzk6 => k_is); k_whole; intro x9 d9 h' F' N' l19 l29; (try k_lt l19); (try k_lt2 l29); (try k_sweep); (refine' code_def ?zzk1 ?zzk2 ?zzk3 ?zzk4 ?zzk5 ?zzkA ?zzkF ?zzkK ?zzk6 ?zzk7 ?zzk8 ?zzk9 ?zzkB ?_ ?zzc2 ?zzc3 ?zzc4 ?zzc5; (case zzkA => exact rfl); (case zzkF => exact rfl); (case zzkK => exact rfl); (case zzk1 => k_asm); (case zzk2 => k_asm); (case zzk3 => k_asm); (case zzk4 => k_asm); (case zzk5 => k_asm); (case zzk6 => k_is); (case zzk7 => k_is); (case zzk8 => ktr_room); (case zzk9 => exact BindsTo.of_eq rfl); (case zzc5 => decide); (case zzkB => exact locs rfl); (case zzc2 => exact rfl); (case zzc3 => exact rfl); (case zzc4 => exact rfl); k_whole; intro g88 L88 h88 FG88 F88 N88 B88 X88 T88; (try dsimp only); (try k_lift B88); (try k_fold))))); trivial
variable {w : World} {mean : ExcName → Option Value} {mg mb : Str → Option Value} {rest : Led}
abbrev rulesD (w : World) (a b c : Tok) (st : Value) : Obj := dictOf [{ hash := PyData.keyHash w.params (Str.ofString "is_answer"), key := .str "is_answer" a, val := .bool true }, { hash := PyData.keyHash w.params (Str.ofString "most_push"), key := .str "most_push" b, val := .none }, { hash := PyData.keyHash w.params (Str.ofString "stage"), key := .str "stage" c, val := st }] 3
section
variable {r d f : Addr} {a b c ts : Tok}
theorem tdata_ok : Does w mean mg mb 127 1 [.ref r] ((r, instObj 144 d) :: (d, rulesD w a b c (.str "body" ts)) :: rest) (fun v news => (∃ t, v = .str "data" t) ∧ news = (r, instObj 144 d) :: (d, rulesD w a b c (.str "body" ts)) :: rest) := by
  unfold Does
  k_fill
  (intro dp un gd cn cs a ccd cl outer A₀ base h₀ L m s Q E B F X N T hk hdp hu hret; refine wpAny_call ?_; k_dflt cell_enter)
  k_steps
  all_goals exact hret _ _ _ _ ⟨⟨_, rfl⟩, rfl⟩ (by assumption) (News.cut (by assumption) (by intro p hp; repeat (first | exact hp | apply List.mem_cons_of_mem)))
theorem tdata_bad {x : Str} (hx : x = "head" ∨ x = "trailer") : DoesX w mean mg mb 127 7 [.ref r] ((r, instObj 144 d) :: (d, rulesD w a b c (.str x ts)) :: rest) (fun v news => False) (fun c => c = 261) := by
  rcases hx with rfl | rfl
  all_goals unfold DoesX
  all_goals k_fill
  all_goals (intro dp un gd cn cs a ccd cl outer A₀ base h₀ L m s Q E B F X N T hk hdp hu hret hexc; refine wpAny_call ?_; k_dflt cell_enter)
  all_goals k_steps
  all_goals exact hexc _ _ _ _ _ (rfl) (by assumption) (Fly.mono (by assumption) (by intro p hp; repeat (first | exact hp | apply List.mem_cons_of_mem))) (by assumption)
abbrev RL (w : World) (r d : Addr) (a b c : Tok) (st : Value) (rest : Led) : Led := (r, instObj 144 d) :: (d, rulesD w a b c st) :: rest
theorem thead_interim {u : Tok} : Does w mean mg mb 134 1 [.ref r, .bool true] ((r, instObj 144 d) :: (d, rulesD w a b c (.str "head" ts)) :: rest) (fun v news => (∃ t, v = .str "interim" t) ∧ news = (r, instObj 144 d) :: (d, rulesD w a b c (.str "head" ts)) :: rest) := by
  unfold Does
  k_fill
  (intro dp un gd cn cs a ccd cl outer A₀ base h₀ L m s Q E B F X N T hk hdp hu hret; refine wpAny_call ?_; k_dflt cell_enter)
  k_steps
  all_goals exact hret _ _ _ _ ⟨⟨_, rfl⟩, rfl⟩ (by assumption) (News.cut (by assumption) (by intro p hp; repeat (first | exact hp | apply List.mem_cons_of_mem)))
theorem thead_head (hrd : @Ne Nat r d) (hne : ∀ p ∈ rest, p.1 ≠ d) : Does w mean mg mb 134 1 [.ref r, .bool false] ((r, instObj 144 d) :: (d, rulesD w a b c (.str "head" ts)) :: rest) (fun v news => (∃ t, v = .str "head" t) ∧ ∃ ts', news = (r, instObj 144 d) :: (d, rulesD w a b c (.str "body" ts')) :: rest) := by
  unfold Does
  k_fill
  (intro dp un gd cn cs a ccd cl outer A₀ base h₀ L m s Q E B F X N T hk hdp hu hret; refine wpAny_call ?_; k_dflt cell_enter)
  k_steps
  all_goals exact hret _ _ _ _ ⟨⟨_, rfl⟩, _, rfl⟩ (by assumption) (News.cut (by assumption) (by intro p hp; repeat (first | exact hp | apply List.mem_cons_of_mem)))
theorem thead_trailer {x : Bool} (hrd : @Ne Nat r d) (hne : ∀ p ∈ rest, p.1 ≠ d) : Does w mean mg mb 134 1 [.ref r, .bool x] ((r, instObj 144 d) :: (d, rulesD w a b c (.str "body" ts)) :: rest) (fun v news => (∃ t, v = .str "trailer" t) ∧ ∃ ts', news = (r, instObj 144 d) :: (d, rulesD w a b c (.str "trailer" ts')) :: rest) := by
  unfold Does
  k_fill
  (intro dp un gd cn cs a ccd cl outer A₀ base h₀ L m s Q E B F X N T hk hdp hu hret; refine wpAny_call ?_; k_dflt cell_enter)
  k_steps
  all_goals exact hret _ _ _ _ ⟨⟨_, rfl⟩, _, rfl⟩ (by assumption) (News.cut (by assumption) (by intro p hp; repeat (first | exact hp | apply List.mem_cons_of_mem)))
theorem thead_bad {x : Bool} : DoesX w mean mg mb 134 7 [.ref r, .bool x] ((r, instObj 144 d) :: (d, rulesD w a b c (.str "trailer" ts)) :: rest) (fun v news => False) (fun c => c = 261) := by
  unfold DoesX
  k_fill
  (intro dp un gd cn cs a ccd cl outer A₀ base h₀ L m s Q E B F X N T hk hdp hu hret hexc; refine wpAny_call ?_; k_dflt cell_enter)
  k_steps
  all_goals exact hexc _ _ _ _ _ (rfl) (by assumption) (Fly.mono (by assumption) (by intro p hp; repeat (first | exact hp | apply List.mem_cons_of_mem))) (by assumption)
theorem end_ok {x : Str} (hx : x = "body" ∨ x = "trailer") : Does w mean mg mb 141 1 [.ref r] ((r, instObj 144 d) :: (d, rulesD w a b c (.str x ts)) :: rest) (fun v news => v = .none ∧ news = (r, instObj 144 d) :: (d, rulesD w a b c (.str x ts)) :: rest) := by
  rcases hx with rfl | rfl
  · unfold Does
    k_fill
    (intro dp un gd cn cs a ccd cl outer A₀ base h₀ L m s Q E B F X N T hk hdp hu hret; refine wpAny_call ?_; k_dflt cell_enter)
    k_steps
    all_goals exact hret _ _ _ _ ⟨rfl, rfl⟩ (by assumption) (News.cut (by assumption) (by intro p hp; repeat (first | exact hp | apply List.mem_cons_of_mem)))
  · unfold Does
    k_fill
    (intro dp un gd cn cs a ccd cl outer A₀ base h₀ L m s Q E B F X N T hk hdp hu hret; refine wpAny_call ?_; k_dflt cell_enter)
    k_steps
    all_goals exact hret _ _ _ _ ⟨rfl, rfl⟩ (by assumption) (News.cut (by assumption) (by intro p hp; repeat (first | exact hp | apply List.mem_cons_of_mem)))
theorem end_bad : DoesX w mean mg mb 141 7 [.ref r] ((r, instObj 144 d) :: (d, rulesD w a b c (.str "head" ts)) :: rest) (fun v news => False) (fun c => c = 269) := by
  unfold DoesX
  k_fill
  (intro dp un gd cn cs a ccd cl outer A₀ base h₀ L m s Q E B F X N T hk hdp hu hret hexc; refine wpAny_call ?_; k_dflt cell_enter)
  k_steps
  all_goals exact hexc _ _ _ _ _ (rfl) (by assumption) (Fly.mono (by assumption) (by intro p hp; repeat (first | exact hp | apply List.mem_cons_of_mem))) (by assumption)
end

theorem notin_tuple_strsR {prog : Program} {w : World} {A : Around} {E : Value → Shared → Prop} {s : Shared} {t : Addr} {items : Array Value} {ys : List Str} {x : Str} {u : Tok} {Q : Value → Shared → Prop} {r : Bool} (ht : IsTup s.heap t items) (hi : StrsAre items.toList ys) (e : (!(ys.any (· == x))) = r)
    (h : Q (.bool r) s) : wpAny (model prog w) A (compareOp .NotIn (.str x u) (.ref t)) Q E s := by
  subst e; exact notin_tuple_strs ht hi h
example : True := by (k_with "compareOp NotIn str ref" => (k_here; first | refine notin_tuple_strsR (r := false) (Fr.tup (by k_asm) (tupK (by k_asm) (by k_is))) (by repeat (first | exact StrsAre.nil | apply StrsAre.cons)) (by first | rfl | decide +kernel) ?_ | refine notin_tuple_strsR (r := true) (Fr.tup (by k_asm) (tupK (by k_asm) (by k_is))) (by repeat (first | exact StrsAre.nil | apply StrsAre.cons)) (by first | rfl | decide +kernel) ?_)); trivial
variable {w : World} {mean : ExcName → Option Value} {mg mb : Str → Option Value} {rest news : Led}
/-- a contract that writes to one object, at any ledger -/
theorem Does.at {f : Addr} {k : Nat} {args : List Value} {r d : Addr} {ro o : Obj} {g : Obj → Led} {P : Value → Prop} {R : Obj → Prop} {S : Led → Prop}
    (H : ∀ rest : Led, S rest → (∀ p ∈ rest, p.1 ≠ d) → Does w mean mg mb f k args ((r, ro) :: (d, o) :: rest) (fun v n => P v ∧ ∃ o', R o' ∧ n = (r, ro) :: (d, o') :: rest))
    (U : UpdF d o news g) (hr : (r, ro) ∈ news) (hrd : @Ne Nat r d) (hS : ∀ a b, news = a ++ (d, o) :: b → S (a ++ b)) : Does w mean mg mb f k args news (fun v n => P v ∧ ∃ o', R o' ∧ n = g o') := by
  obtain ⟨pre, post, rfl, hg, h3, h4⟩ := U.split
  have hrp : (r, ro) ∈ pre ++ post := by
    rcases List.mem_append.mp hr with h | h
    · exact List.mem_append_left _ h
    · rcases List.mem_cons.mp h with h | h
      · exact absurd (congrArg Prod.fst h) hrd
      · exact List.mem_append_right _ h
  intro dp un gd cn cs a ccd cl outer A₀ base h₀ L m s Q E B F X N T hk hdp hu hret
  refine does_use (H (pre ++ post) (hS pre post rfl) fun p hp => (List.mem_append.mp hp).elim (h3 p) (h4 p)) B F X (News.cut N fun p hp => ?_) T hk hdp hu fun v news' h' tk' hP F' N' => ?_
  · rcases List.mem_cons.mp hp with rfl | hp
    · exact hr
    · rcases List.mem_cons.mp hp with rfl | hp
      · exact List.mem_append_right _ (.head _)
      · rcases List.mem_append.mp hp with hp | hp
        · exact List.mem_append_left _ hp
        · exact List.mem_append_right _ (.tail _ hp)
  · obtain ⟨hPv, o', hR, rfl⟩ := hP
    refine hret v (g o') h' tk' ⟨hPv, o', hR, rfl⟩ F' (News.cut N' fun p hp => ?_)
    rw [hg] at hp
    rcases List.mem_append.mp hp with hp | hp
    · exact .tail _ (.tail _ (List.mem_append_left _ hp))
    · rcases List.mem_cons.mp hp with rfl | hp
      · exact .tail _ (.head _)
      · exact .tail _ (.tail _ (List.mem_append_right _ hp))
example : True := by (k_with "call ref" => (k_here; (with_reducible show wpAny _ _ (call (Value.ref 127) _) _ _ _); k_dflt (refine' dz1 (tdata_ok) (u_ex) ?_; (skip)); (intro ot' h' tk' F' N'; (skip); (try k_sweep)))); trivial
example : True := by (k_with "call ref" => (k_here; (with_reducible show wpAny _ _ (call (Value.ref 127) _) _ _ _); k_dflt (refine' dzXn (tdata_bad ?zzq) ?_; (case zzq => first | assumption | exact .inl rfl | exact .inr rfl)); intro e' c' g' h' tk' hXc' FG' R' U'; (try dsimp only))); trivial
example : True := by (k_with "call ref" => (k_here; (with_reducible show wpAny _ _ (call (Value.ref 134) _) _ _ _); k_dflt (refine' dz1 (thead_interim (u := 0)) (u_ex) ?_; (skip)); (intro ot' h' tk' F' N'; (skip); (try k_sweep)))); trivial
example : True := by (k_with "call ref" => (k_here; (with_reducible show wpAny _ _ (call (Value.ref 134) _) _ _ _); k_dflt (refine' dz1 (thead_head ?zzq ?zzp) (u_xx) ?_; ((case zzq => assumption); (case zzp => k_all))); (intro ot' os' h' tk' F' N'; (skip); (try k_sweep)))); trivial
example : True := by (k_with "call ref" => (k_here; (with_reducible show wpAny _ _ (call (Value.ref 134) _) _ _ _); k_dflt (refine' dz1 (thead_trailer ?zzq ?zzp) (u_xx) ?_; ((case zzq => assumption); (case zzp => k_all))); (intro ot' os' h' tk' F' N'; (skip); (try k_sweep)))); trivial
example : True := by (k_with "call ref" => (k_here; (with_reducible show wpAny _ _ (call (Value.ref 134) _) _ _ _); k_dflt (refine' dzXn (thead_bad) ?_; (skip)); intro e' c' g' h' tk' hXc' FG' R' U'; (try dsimp only))); trivial
section
variable {r d f : Addr} {ka kb kc ts t0 : Tok} {y z : Value} {x : Bool}
theorem take_data_ok (hr : (r, instObj 144 d) ∈ news) (hd : (d, rulesD w ka kb kc (.str "body" ts)) ∈ news) (hf : (f, tupo [.str "data" t0, y]) ∈ news) : Does w mean mg mb 120 3 [.ref r, .ref f, .bool x] news (fun v n => (∃ t, v = .str "data" t) ∧ n = news) := by
  unfold Does
  k_fill
  intro dp un gd cn cs a ccd cl outer A₀ base h₀ L m s Q E B F X N T hk hdp hu hret
  replace N := News.with1 (News.with1 (News.with1 N hf) (.tail _ hd)) (.tail _ (.tail _ hr))
  refine wpAny_call ?_
  k_dflt cell_enter
  k_steps
  all_goals exact hret _ _ _ _ ⟨⟨_, rfl⟩, rfl⟩ (by assumption) (News.cut (by assumption) (by intro p hp; repeat (first | exact hp | apply List.mem_cons_of_mem)))
theorem take_data_bad {st : Str} (hs : st = "head" ∨ st = "trailer") (hr : (r, instObj 144 d) ∈ news) (hd : (d, rulesD w ka kb kc (.str st ts)) ∈ news) (hf : (f, tupo [.str "data" t0, y]) ∈ news) : DoesX w mean mg mb 120 9 [.ref r, .ref f, .bool x] news (fun v n => False) (fun c => c = 261) := by
  unfold DoesX
  k_fill
  intro dp un gd cn cs a ccd cl outer A₀ base h₀ L m s Q E B F X N T hk hdp hu hret hexc
  replace N := News.with1 (News.with1 (News.with1 N hf) (.tail _ hd)) (.tail _ (.tail _ hr))
  refine wpAny_call ?_
  k_dflt cell_enter
  k_steps
  all_goals exact hexc _ _ _ _ _ (by assumption) (by assumption) (Fly.mono (by assumption) (by intro p hp; repeat (first | exact hp | apply List.mem_cons_of_mem))) (by assumption)
theorem take_interim (hr : (r, instObj 144 d) ∈ news) (hd : (d, rulesD w ka kb kc (.str "head" ts)) ∈ news) (hf : (f, tupo [.str "headers" t0, y]) ∈ news) : Does w mean mg mb 120 3 [.ref r, .ref f, .bool true] news (fun v n => (∃ t, v = .str "interim" t) ∧ n = news) := by
  unfold Does
  k_fill
  intro dp un gd cn cs a ccd cl outer A₀ base h₀ L m s Q E B F X N T hk hdp hu hret
  replace N := News.with1 (News.with1 (News.with1 N hf) (.tail _ hd)) (.tail _ (.tail _ hr))
  refine wpAny_call ?_
  k_dflt cell_enter
  k_steps
  all_goals exact hret _ _ _ _ ⟨⟨_, rfl⟩, rfl⟩ (by assumption) (News.cut (by assumption) (by intro p hp; repeat (first | exact hp | apply List.mem_cons_of_mem)))
theorem take_heads_bad (hr : (r, instObj 144 d) ∈ news) (hd : (d, rulesD w ka kb kc (.str "trailer" ts)) ∈ news) (hf : (f, tupo [.str "headers" t0, y]) ∈ news) : DoesX w mean mg mb 120 9 [.ref r, .ref f, .bool x] news (fun v n => False) (fun c => c = 261) := by
  unfold DoesX
  k_fill
  intro dp un gd cn cs a ccd cl outer A₀ base h₀ L m s Q E B F X N T hk hdp hu hret hexc
  replace N := News.with1 (News.with1 (News.with1 N hf) (.tail _ hd)) (.tail _ (.tail _ hr))
  refine wpAny_call ?_
  k_dflt cell_enter
  k_steps
  all_goals exact hexc _ _ _ _ _ (by assumption) (by assumption) (Fly.mono (by assumption) (by intro p hp; repeat (first | exact hp | apply List.mem_cons_of_mem))) (by assumption)
theorem take_settings {dv : Obj} (hr : (r, instObj 144 d) ∈ news) (hd : (d, dv) ∈ news) (hf : (f, tupo [.str "settings" t0, y]) ∈ news) : DoesX w mean mg mb 120 9 [.ref r, .ref f, .bool x] news (fun v n => False) (fun c => c = 261) := by
  unfold DoesX
  k_fill
  intro dp un gd cn cs a ccd cl outer A₀ base h₀ L m s Q E B F X N T hk hdp hu hret hexc
  replace N := News.with1 (News.with1 (News.with1 N hf) (.tail _ hd)) (.tail _ (.tail _ hr))
  refine wpAny_call ?_
  k_dflt cell_enter
  k_steps
  all_goals exact hexc _ _ _ _ _ (rfl) (by assumption) (Fly.mono (by assumption) (by intro p hp; repeat (first | exact hp | apply List.mem_cons_of_mem))) (by assumption)
theorem take_unknown {dv : Obj} (hr : (r, instObj 144 d) ∈ news) (hd : (d, dv) ∈ news) (hf : (f, tupo [.str "unknown" t0, y, z]) ∈ news) : Does w mean mg mb 120 3 [.ref r, .ref f, .bool x] news (fun v n => (∃ t, v = .str "other" t) ∧ n = news) := by
  unfold Does
  k_fill
  intro dp un gd cn cs a ccd cl outer A₀ base h₀ L m s Q E B F X N T hk hdp hu hret
  replace N := News.with1 (News.with1 (News.with1 N hf) (.tail _ hd)) (.tail _ (.tail _ hr))
  refine wpAny_call ?_
  k_dflt cell_enter
  k_steps
  all_goals exact hret _ _ _ _ ⟨⟨_, rfl⟩, rfl⟩ (by assumption) (News.cut (by assumption) (by intro p hp; repeat (first | exact hp | apply List.mem_cons_of_mem)))
theorem take_head0 (hf : (f, tupo [.str "headers" t0, y]) ∈ rest) (hne : ∀ p ∈ rest, p.1 ≠ d) (hrd : @Ne Nat r d) : Does w mean mg mb 120 3 [.ref r, .ref f, .bool false] ((r, instObj 144 d) :: (d, rulesD w ka kb kc (.str "head" ts)) :: rest) (fun v n => (∃ t, v = .str "head" t) ∧ ∃ o', (∃ ts', o' = rulesD w ka kb kc (.str "body" ts')) ∧ n = (r, instObj 144 d) :: (d, o') :: rest) := by
  have hfd : @Ne Nat f d := hne _ hf
  unfold Does
  k_fill
  intro dp un gd cn cs a ccd cl outer A₀ base h₀ L m s Q E B F X N T hk hdp hu hret
  replace N : News h₀ L s.heap ((r, instObj 144 d) :: (d, rulesD w ka kb kc (.str "head" ts)) :: (f, tupo [.str "headers" t0, y]) :: rest) := News.cut (News.with1 N (.tail _ (.tail _ hf))) (fun p hp => by simp only [List.mem_cons] at hp ⊢; rcases hp with h | h | h | h; exact .inr (.inl h); exact .inr (.inr (.inl h)); exact .inl h; exact .inr (.inr (.inr h)))
  refine wpAny_call ?_
  k_dflt cell_enter
  k_steps
  all_goals exact hret _ ((r, instObj 144 d) :: (d, rulesD w ka kb kc (.str "body" _)) :: rest) _ _ ⟨⟨_, rfl⟩, _, ⟨_, rfl⟩, rfl⟩ (by assumption) (News.cut (by assumption) (fun p hp => by simp only [List.mem_cons] at hp ⊢; rcases hp with h | h | h; exact .inl h; exact .inr (.inl h); exact .inr (.inr (.inr h))))
theorem take_trail0 (hf : (f, tupo [.str "headers" t0, y]) ∈ rest) (hne : ∀ p ∈ rest, p.1 ≠ d) (hrd : @Ne Nat r d) : Does w mean mg mb 120 3 [.ref r, .ref f, .bool x] ((r, instObj 144 d) :: (d, rulesD w ka kb kc (.str "body" ts)) :: rest) (fun v n => (∃ t, v = .str "trailer" t) ∧ ∃ o', (∃ ts', o' = rulesD w ka kb kc (.str "trailer" ts')) ∧ n = (r, instObj 144 d) :: (d, o') :: rest) := by
  have hfd : @Ne Nat f d := hne _ hf
  unfold Does
  k_fill
  intro dp un gd cn cs a ccd cl outer A₀ base h₀ L m s Q E B F X N T hk hdp hu hret
  replace N : News h₀ L s.heap ((r, instObj 144 d) :: (d, rulesD w ka kb kc (.str "body" ts)) :: (f, tupo [.str "headers" t0, y]) :: rest) := News.cut (News.with1 N (.tail _ (.tail _ hf))) (fun p hp => by simp only [List.mem_cons] at hp ⊢; rcases hp with h | h | h | h; exact .inr (.inl h); exact .inr (.inr (.inl h)); exact .inl h; exact .inr (.inr (.inr h)))
  refine wpAny_call ?_
  k_dflt cell_enter
  k_steps
  all_goals exact hret _ ((r, instObj 144 d) :: (d, rulesD w ka kb kc (.str "trailer" _)) :: rest) _ _ ⟨⟨_, rfl⟩, _, ⟨_, rfl⟩, rfl⟩ (by assumption) (News.cut (by assumption) (fun p hp => by simp only [List.mem_cons] at hp ⊢; rcases hp with h | h | h; exact .inl h; exact .inr (.inl h); exact .inr (.inr (.inr h))))
theorem take_head {g : Obj → Led} (U : UpdF d (rulesD w ka kb kc (.str "head" ts)) news g) (hr : (r, instObj 144 d) ∈ news) (hrd : @Ne Nat r d) (hf : (f, tupo [.str "headers" t0, y]) ∈ news) (hfd : @Ne Nat f d) : Does w mean mg mb 120 3 [.ref r, .ref f, .bool false] news (fun v n => (∃ t, v = .str "head" t) ∧ ∃ o', (∃ ts', o' = rulesD w ka kb kc (.str "body" ts')) ∧ n = g o') := by
  refine Does.at (P := fun v => ∃ t, v = .str "head" t) (R := fun o' => ∃ ts', o' = rulesD w ka kb kc (.str "body" ts')) (S := fun l => (f, tupo [.str "headers" t0, y]) ∈ l) (fun rest hf hne => take_head0 hf hne hrd) U hr hrd fun p q e => ?_
  rw [e] at hf
  rcases List.mem_append.mp hf with h | h
  · exact List.mem_append_left _ h
  · rcases List.mem_cons.mp h with h | h
    · exact absurd (congrArg Prod.fst h) hfd
    · exact List.mem_append_right _ h
theorem take_trail {g : Obj → Led} (U : UpdF d (rulesD w ka kb kc (.str "body" ts)) news g) (hr : (r, instObj 144 d) ∈ news) (hrd : @Ne Nat r d) (hf : (f, tupo [.str "headers" t0, y]) ∈ news) (hfd : @Ne Nat f d) : Does w mean mg mb 120 3 [.ref r, .ref f, .bool x] news (fun v n => (∃ t, v = .str "trailer" t) ∧ ∃ o', (∃ ts', o' = rulesD w ka kb kc (.str "trailer" ts')) ∧ n = g o') := by
  refine Does.at (P := fun v => ∃ t, v = .str "trailer" t) (R := fun o' => ∃ ts', o' = rulesD w ka kb kc (.str "trailer" ts')) (S := fun l => (f, tupo [.str "headers" t0, y]) ∈ l) (fun rest hf hne => take_trail0 hf hne hrd) U hr hrd fun p q e => ?_
  rw [e] at hf
  rcases List.mem_append.mp hf with h | h
  · exact List.mem_append_left _ h
  · rcases List.mem_cons.mp h with h | h
    · exact absurd (congrArg Prod.fst h) hfd
    · exact List.mem_append_right _ h
end

/-- as DoesX; behind a raise only newsX is told of -/
def DoesY (w : World) (mean : ExcName → Option Value) (mg mb : Str → Option Value) (f : Addr) (k : Nat) (args : List Value) (news newsX : Led) (Post : Value → Led → Prop) (X : Int → Prop) : Prop :=
  ∀ (dp un : Nat) (gd : Option (List Code)) (cn : Str) (cs : Scope) (a : Addr) (ccd : Value) (cl : List (Str × Addr)) (outer : List Env) (A₀ : Around) (base h₀ : Heap) (L : Addr) (m : Str → Option Value) (s : Shared) (Q E : Value → Shared → Prop),
    Below A₀ base outer h₀ → Fr h₀ L s.heap m → (hd.heap_39 w.params).In h₀ → News h₀ L s.heap news → Top hd.view_39 (looseW hd.view_39 []) mean mg mb h₀ → cs.kind = .function →
    dp + k < recursionLimit → un + 8 * k + 80 < cLine →
    (∀ v news' h' tk', Post v news' → Fr h₀ L h' m → News h₀ L h' news' → Q v { s with heap := h', toks := tk' }) →
    (∀ e c g h' tk', X c → Fr h₀ L g m → Fly base g (envX cn cs L a ccd cl :: outer) e c newsX h' → g.UpToSlots h' → E (.ref e) { s with heap := h', toks := tk' }) →
    wpAny (model PySem.Challenge.rw_nz0351_01.row.prog w) (ktrTop dp un gd cn cs L a ccd cl outer) (call (.ref f) args) Q E s
theorem doesY_use {w : World} {mean : ExcName → Option Value} {mg mb : Str → Option Value} {f : Addr} {k : Nat} {args : List Value} {news newsX : Led} {Post : Value → Led → Prop} {Xc : Int → Prop} (H : DoesY w mean mg mb f k args news newsX Post Xc) {dp un : Nat} {gd : Option (List Code)} {cn : Str} {cs : Scope} {a : Addr} {ccd : Value} {cl : List (Str × Addr)} {outer : List Env} {A₀ : Around} {base h₀ : Heap} {L : Addr} {m : Str → Option Value} {s : Shared} {Q E : Value → Shared → Prop}
    (B : Below A₀ base outer h₀) (F : Fr h₀ L s.heap m) (X : (hd.heap_39 w.params).In h₀) (N : News h₀ L s.heap news) (T : Top hd.view_39 (looseW hd.view_39 []) mean mg mb h₀) (hk : cs.kind = .function)
    (d : dp + k < recursionLimit) (u : un + 8 * k + 80 < cLine)
    (r : ∀ v news' h' tk', Post v news' → Fr h₀ L h' m → News h₀ L h' news' → Q v { s with heap := h', toks := tk' })
    (x : ∀ e c g h' tk', Xc c → Fr h₀ L g m → Fly base g (envX cn cs L a ccd cl :: outer) e c newsX h' → g.UpToSlots h' → E (.ref e) { s with heap := h', toks := tk' }) :
    wpAny (model PySem.Challenge.rw_nz0351_01.row.prog w) (ktrTop dp un gd cn cs L a ccd cl outer) (call (.ref f) args) Q E s := H _ _ _ _ _ _ _ _ _ _ _ _ _ _ _ _ _ B F X N T hk d u r x
theorem dzY1 {w : World} {mean : ExcName → Option Value} {mg mb : Str → Option Value} {f : Addr} {k : Nat} {args : List Value} {news newsX : Led} {Post : Value → Led → Prop} {Xc : Int → Prop} (H : DoesY w mean mg mb f k args news newsX Post Xc) {G0 : (Value → Led → Prop) → Prop} (hG : ∀ R, G0 R → ∀ v n, Post v n → R v n) {dp un : Nat} {gd : Option (List Code)} {cn : Str} {cs : Scope} {a : Addr} {ccd : Value} {cl : List (Str × Addr)} {outer : List Env} {A₀ : Around} {base h₀ : Heap} {L : Addr} {m : Str → Option Value} {s : Shared} {Q E : Value → Shared → Prop}
    (r0 : G0 (fun v news' => ∀ h' tk', Fr h₀ L h' m → News h₀ L h' news' → Q v { s with heap := h', toks := tk' }))
    (x : ∀ e c g h' tk', Xc c → Fr h₀ L g m → Fly base g (envX cn cs L a ccd cl :: outer) e c newsX h' → g.UpToSlots h' → E (.ref e) { s with heap := h', toks := tk' })
    (B : Below A₀ base outer h₀ := by k_asm) (F : Fr h₀ L s.heap m := by k_asm) (X : (hd.heap_39 w.params).In h₀ := by k_asm) (N : News h₀ L s.heap news := by k_asm) (T : Top hd.view_39 (looseW hd.view_39 []) mean mg mb h₀ := by k_asm) (hk : cs.kind = .function := by rfl)
    (d : dp + k < recursionLimit := by ktr_room) (u : un + 8 * k + 80 < cLine := by ktr_units) :
    wpAny (model PySem.Challenge.rw_nz0351_01.row.prog w) (ktrTop dp un gd cn cs L a ccd cl outer) (call (.ref f) args) Q E s := H _ _ _ _ _ _ _ _ _ _ _ _ _ _ _ _ _ B F X N T hk d u (fun v n h' tk' p f nw => hG (fun v news' => ∀ h' tk', Fr h₀ L h' m → News h₀ L h' news' → Q v { s with heap := h', toks := tk' }) r0 v n p h' tk' f nw) x
theorem dzY2 {w : World} {mean : ExcName → Option Value} {mg mb : Str → Option Value} {f : Addr} {k : Nat} {args : List Value} {news newsX : Led} {Post : Value → Led → Prop} {Xc : Int → Prop} (H : DoesY w mean mg mb f k args news newsX Post Xc) {G0 G1 : (Value → Led → Prop) → Prop} (hG : ∀ R, G0 R → G1 R → ∀ v n, Post v n → R v n) {dp un : Nat} {gd : Option (List Code)} {cn : Str} {cs : Scope} {a : Addr} {ccd : Value} {cl : List (Str × Addr)} {outer : List Env} {A₀ : Around} {base h₀ : Heap} {L : Addr} {m : Str → Option Value} {s : Shared} {Q E : Value → Shared → Prop}
    (r0 : G0 (fun v news' => ∀ h' tk', Fr h₀ L h' m → News h₀ L h' news' → Q v { s with heap := h', toks := tk' })) (r1 : G1 (fun v news' => ∀ h' tk', Fr h₀ L h' m → News h₀ L h' news' → Q v { s with heap := h', toks := tk' }))
    (x : ∀ e c g h' tk', Xc c → Fr h₀ L g m → Fly base g (envX cn cs L a ccd cl :: outer) e c newsX h' → g.UpToSlots h' → E (.ref e) { s with heap := h', toks := tk' })
    (B : Below A₀ base outer h₀ := by k_asm) (F : Fr h₀ L s.heap m := by k_asm) (X : (hd.heap_39 w.params).In h₀ := by k_asm) (N : News h₀ L s.heap news := by k_asm) (T : Top hd.view_39 (looseW hd.view_39 []) mean mg mb h₀ := by k_asm) (hk : cs.kind = .function := by rfl)
    (d : dp + k < recursionLimit := by ktr_room) (u : un + 8 * k + 80 < cLine := by ktr_units) :
    wpAny (model PySem.Challenge.rw_nz0351_01.row.prog w) (ktrTop dp un gd cn cs L a ccd cl outer) (call (.ref f) args) Q E s := H _ _ _ _ _ _ _ _ _ _ _ _ _ _ _ _ _ B F X N T hk d u (fun v n h' tk' p f nw => hG (fun v news' => ∀ h' tk', Fr h₀ L h' m → News h₀ L h' news' → Q v { s with heap := h', toks := tk' }) r0 r1 v n p h' tk' f nw) x
theorem dzY3 {w : World} {mean : ExcName → Option Value} {mg mb : Str → Option Value} {f : Addr} {k : Nat} {args : List Value} {news newsX : Led} {Post : Value → Led → Prop} {Xc : Int → Prop} (H : DoesY w mean mg mb f k args news newsX Post Xc) {G0 G1 G2 : (Value → Led → Prop) → Prop} (hG : ∀ R, G0 R → G1 R → G2 R → ∀ v n, Post v n → R v n) {dp un : Nat} {gd : Option (List Code)} {cn : Str} {cs : Scope} {a : Addr} {ccd : Value} {cl : List (Str × Addr)} {outer : List Env} {A₀ : Around} {base h₀ : Heap} {L : Addr} {m : Str → Option Value} {s : Shared} {Q E : Value → Shared → Prop}
    (r0 : G0 (fun v news' => ∀ h' tk', Fr h₀ L h' m → News h₀ L h' news' → Q v { s with heap := h', toks := tk' })) (r1 : G1 (fun v news' => ∀ h' tk', Fr h₀ L h' m → News h₀ L h' news' → Q v { s with heap := h', toks := tk' })) (r2 : G2 (fun v news' => ∀ h' tk', Fr h₀ L h' m → News h₀ L h' news' → Q v { s with heap := h', toks := tk' }))
    (x : ∀ e c g h' tk', Xc c → Fr h₀ L g m → Fly base g (envX cn cs L a ccd cl :: outer) e c newsX h' → g.UpToSlots h' → E (.ref e) { s with heap := h', toks := tk' })
    (B : Below A₀ base outer h₀ := by k_asm) (F : Fr h₀ L s.heap m := by k_asm) (X : (hd.heap_39 w.params).In h₀ := by k_asm) (N : News h₀ L s.heap news := by k_asm) (T : Top hd.view_39 (looseW hd.view_39 []) mean mg mb h₀ := by k_asm) (hk : cs.kind = .function := by rfl)
    (d : dp + k < recursionLimit := by ktr_room) (u : un + 8 * k + 80 < cLine := by ktr_units) :
    wpAny (model PySem.Challenge.rw_nz0351_01.row.prog w) (ktrTop dp un gd cn cs L a ccd cl outer) (call (.ref f) args) Q E s := H _ _ _ _ _ _ _ _ _ _ _ _ _ _ _ _ _ B F X N T hk d u (fun v n h' tk' p f nw => hG (fun v news' => ∀ h' tk', Fr h₀ L h' m → News h₀ L h' news' → Q v { s with heap := h', toks := tk' }) r0 r1 r2 v n p h' tk' f nw) x
variable {w : World} {mean : ExcName → Option Value} {mg mb : Str → Option Value} {rest news : Led}
theorem interim_spec {n : Int} {t : Nat} (h0 : 100 ≤ n) (h2 : n ≤ 404) : DoesX w mean mg mb 218 7 [.int n t] rest (fun v news => v = .bool (decide (n < 200)) ∧ news = rest ∧ n ≠ 101) (fun c => c = 270 ∧ n = 101) := by
  by_cases h : n = 101
  · subst h
    exact DoesX.mono interim_bad (Nat.le_refl _) (fun _ _ h => h.elim) fun c hc => ⟨hc, rfl⟩
  · exact Does.toX (interim_ok h0 h h2) (by omega) fun v n' hh => ⟨hh.1, hh.2, h⟩
section
variable {r d f : Addr} {ka kb kc ts t0 : Tok} {y z : Value} {x : Bool}
theorem take_stage0 {g : Obj → Led} (U : UpdF d (rulesD w ka kb kc (.str "head" ts)) news g) (hr : (r, instObj 144 d) ∈ news) (hrd : @Ne Nat r d) (hf : (f, tupo [.str "headers" t0, y]) ∈ news) (hfd : @Ne Nat f d) :
    Does w mean mg mb 120 3 [.ref r, .ref f, .bool x] news (fun v n => (x = true ∧ (∃ t, v = .str "interim" t) ∧ n = news) ∨ (x = false ∧ (∃ t, v = .str "head" t) ∧ ∃ ts', n = g (rulesD w ka kb kc (.str "body" ts')))) := by
  cases x with
  | true =>
    obtain ⟨pre, post, e, _⟩ := U.split
    exact Does.mono (take_interim hr (by rw [e]; exact List.mem_append_right _ (.head _)) hf) fun v n h => .inl ⟨rfl, h⟩
  | false => exact Does.mono (take_head U hr hrd hf hfd) fun v n ⟨h1, o', ⟨ts', h2⟩, h3⟩ => .inr ⟨rfl, h1, ts', by rw [h3, h2]⟩
end
example : True := by (k_with "call ref" => (k_here; (with_reducible show wpAny _ _ (call (Value.ref 218) _) _ _ _); k_dflt (refine' dzX1 (interim_spec ?zza ?zzb) (u_eq1) ?_ ?_; ((case zza => assumption); (case zzb => assumption))); (intro pi' h' tk' F' N'; (skip); (try k_sweep)); rotate_left; (intro e' c' g' h' tk' hXc' FG' R' U'; (try dsimp only)); rotate_left)); trivial
example : True := by (k_with "call ref" => (k_here; (with_reducible show wpAny _ _ (call (Value.ref 120) _) _ _ _); k_dflt (refine' dz1 (take_trail ?zzqu ?zzqr ?zzqn ?zzqf ?zzqm) (u_xox) ?_; ((case zzqr => k_mem); (case zzqu => k_updF); (case zzqn => k_ne); (case zzqf => k_mem); (case zzqm => k_ne))); (intro ot' os' h' tk' F' N'; ((try dsimp only at N')); (try k_sweep)))); trivial
example : True := by (k_with "call ref" => (k_here; (with_reducible show wpAny _ _ (call (Value.ref 120) _) _ _ _); k_dflt (refine' dzXn (take_heads_bad ?zzqr ?zzqd ?zzqf) ?_; ((case zzqr => k_mem); (case zzqd => k_mem); (case zzqf => k_mem))); intro e' c' g' h' tk' hXc' FG' R' U'; (try dsimp only))); trivial
example : True := by (k_with "call ref" => (k_here; (with_reducible show wpAny _ _ (call (Value.ref 120) _) _ _ _); k_dflt (refine' dz2 (take_stage0 ?zzqu ?zzqr ?zzqn ?zzqf ?zzqm) (u_st) ?_ ?_; ((case zzqr => k_mem); (case zzqu => k_updF); (case zzqn => k_ne); (case zzqf => k_mem); (case zzqm => k_ne))); (intro ot' hx' h' tk' F' N'; ((try dsimp only at N')); (try k_sweep)); rotate_left; (intro ot' os' hx' h' tk' F' N'; ((try dsimp only at N')); (try k_sweep)); rotate_left)); trivial
def stg : Nat → Str
  | 0 => "head"
  | 1 => "body"
  | _ => "trailer"
structure St where
  stage : Nat
  status : Option Int
  size : Int
  fl : List Fld
inductive Res
  | great
  | code (c : Int)
  | pair (a b : Int)
def tooBig (limit : Option Int) (fl : List Fld) : Bool := match limit with | none => false | some l => decide (l < (fl.map costF).sum)
def headStep (limit : Option Int) (S : St) (fl : List Fld) : Except Res St :=
  if tooBig limit fl = true then .error .great
  else match S.stage with
    | 0 => match dueStat fl with
      | none => .error (.code 270)
      | some n => if n < 200 then .ok S else .ok ⟨1, some n, S.size, fl⟩
    | 1 => if isCol1 fl = true then .error (.code 270) else .ok ⟨2, S.status, S.size, S.fl⟩
    | _ => .error (.code 261)
def LimV (limit : Option Int) (v : Value) : Prop := match limit with | none => v = .none | some l => ∃ t, v = .int l t
def sdict (w : World) (v1 v2 v3 : Value) (so : Obj) : Prop := so.IsDictOf (strKind PR w) [("status", v1), ("size", v2), ("fields", v3)]
section
variable {S : St} {fl : List Fld} {limit : Option Int} {n : Int}
theorem hs_big (h : tooBig limit fl = true) : headStep limit S fl = .error .great := by unfold headStep; rw [if_pos h]
theorem hs_none (hS : S.stage = 0) (hb : tooBig limit fl = false) (h : statOf fl = none) : headStep limit S fl = .error (.code 270) := by
  unfold headStep dueStat; rw [if_neg (by rw [hb]; decide), hS, h]; rfl
theorem hx_none {c : Int} (hS : S.stage = 0) (hb : tooBig limit fl = false) (h : c = 270 ∧ statOf fl = none) : headStep limit S fl = .error (.code c) := by rw [h.1]; exact hs_none hS hb h.2
theorem hs_101 (hS : S.stage = 0) (hb : tooBig limit fl = false) (h : statOf fl = some n) (h1 : n = 101) : headStep limit S fl = .error (.code 270) := by
  unfold headStep dueStat; rw [if_neg (by rw [hb]; decide), hS, h]; simp [h1]
theorem hx_101 {c : Int} (hS : S.stage = 0) (hb : tooBig limit fl = false) (h : statOf fl = some n) (h1 : c = 270 ∧ n = 101) : headStep limit S fl = .error (.code c) := by rw [h1.1]; exact hs_101 hS hb h h1.2
theorem hs_interim (hS : S.stage = 0) (hb : tooBig limit fl = false) (h : statOf fl = some n) (h1 : n ≠ 101) (h2 : decide (n < 200) = true) : headStep limit S fl = .ok S := by
  unfold headStep dueStat; rw [if_neg (by rw [hb]; decide), hS, h]; simp [h1, of_decide_eq_true h2]
theorem hs_head (hS : S.stage = 0) (hb : tooBig limit fl = false) (h : statOf fl = some n) (h1 : n ≠ 101) (h2 : decide (n < 200) = false) : headStep limit S fl = .ok ⟨1, some n, S.size, fl⟩ := by
  unfold headStep dueStat; rw [if_neg (by rw [hb]; decide), hS, h]; simp [h1, of_decide_eq_false h2]
theorem hs_col (hS : S.stage = 1) (hb : tooBig limit fl = false) (h : isCol1 fl = true) : headStep limit S fl = .error (.code 270) := by
  unfold headStep; rw [if_neg (by rw [hb]; decide), hS]; simp [h]
theorem hs_trail (hS : S.stage = 1) (hb : tooBig limit fl = false) (h : isCol1 fl = false) : headStep limit S fl = .ok ⟨2, S.status, S.size, S.fl⟩ := by
  unfold headStep; rw [if_neg (by rw [hb]; decide), hS]; simp [h]
theorem hs_late (hS : S.stage = 2) (hb : tooBig limit fl = false) : headStep limit S fl = .error (.code 261) := by
  unfold headStep; rw [if_neg (by rw [hb]; decide), hS]; rfl
theorem hx_late {c : Int} (hS : S.stage = 2) (hb : tooBig limit fl = false) (h : c = 261) : headStep limit S fl = .error (.code c) := by rw [h]; exact hs_late hS hb
theorem hx_col {c : Int} (hS : S.stage = 1) (hb : tooBig limit fl = false) (h : c = 270 ∧ isCol1 fl = true) : headStep limit S fl = .error (.code c) := by rw [h.1]; exact hs_col hS hb h.2
theorem big_none : tooBig none fl = false := rfl
theorem big_some {l : Int} (h : ¬ l < (fl.map costF).sum) : tooBig (some l) fl = false := decide_eq_false h
theorem big_yes {l : Int} (h : l < (fl.map costF).sum) : tooBig (some l) fl = true := decide_eq_true h
end
section
variable {M : Model} {A : Around} {E : Value → Shared → Prop} {s : Shared} {env : Env} {st : Stmt} {more : List Stmt} {Q : Flow → Shared → Prop} {h₀ : Heap} {m₀ : Str → Option Value} {nw : Led} {limit : Option Int} {lv : Value} {fl : List Fld}
/-- the limit's test is one step: the way on, and the way out with 'too great' -/
theorem cut_lim (_F : Fr h₀ env.locals s.heap m₀) (_N : News h₀ env.locals s.heap nw) (_l : LimV limit lv) (_s : Small fl)
    (h1 : ∀ Q' : Flow → Shared → Prop, (tooBig limit fl = false → ∀ h' tk', Fr h₀ env.locals h' m₀ → News h₀ env.locals h' nw → Q' .next { s with heap := h', toks := tk' }) → (tooBig limit fl = true → ∀ t h' tk', Fr h₀ env.locals h' m₀ → News h₀ env.locals h' nw → Q' (.ret (.str "too great" t)) { s with heap := h', toks := tk' }) → wpAny M A (exec st env) Q' E s)
    (h2 : tooBig limit fl = false → ∀ h' tk', Fr h₀ env.locals h' m₀ → News h₀ env.locals h' nw → wpAny M A (execs more env) Q E { s with heap := h', toks := tk' })
    (h3 : tooBig limit fl = true → ∀ t h' tk', Fr h₀ env.locals h' m₀ → News h₀ env.locals h' nw → Q (.ret (.str "too great" t)) { s with heap := h', toks := tk' }) :
    wpAny M A (execs (st :: more) env) Q E s := by
  refine wpAny_execs_cons (wpAny_mono (h1 (fun f s' => (f = .next ∧ wpAny M A (execs more env) Q E s') ∨ ∃ v, f = .ret v ∧ Q (.ret v) s') (fun hb h' tk' F N => .inl ⟨rfl, h2 hb h' tk' F N⟩) fun hb t h' tk' F N => .inr ⟨_, rfl, h3 hb t h' tk' F N⟩) (fun f s' h => ?_) fun _ _ e => e)
  obtain ⟨rfl, h⟩ | ⟨v, rfl, h⟩ := h
  · exact h
  · exact h
theorem limv_eq (h : LimV limit lv) : (limit = none ∧ lv = .none) ∨ ∃ l t, limit = some l ∧ lv = .int l t := by
  cases limit with
  | none => exact .inl ⟨rfl, h⟩
  | some l => obtain ⟨t, h'⟩ : ∃ t, lv = .int l t := h; exact .inr ⟨l, t, rfl, h'⟩
end
example : True := by (k_with "execs cons" => (k_here; (with_reducible show wpAny _ _ (execs (Stmt.If (Expr.BoolOp BoolOp.And [Expr.Compare (Expr.Name (Str.ofString "limit") _) _ _ _, _] _) _ _ _ :: _) _) _ _ _); k_dflt (refine' cut_lim ?zzF ?zzN ?zzl ?zzs ?_ ?_ ?_; (case zzF => k_asm); (case zzN => k_asm); (case zzl => with_reducible assumption); (case zzs => assumption)); (intro Q9 hno9 hyes9; (have hl9 := (by with_reducible assumption : LimV _ _)); (rcases limv_eq hl9 with ⟨e9, e9'⟩ | ⟨l9, lt9, e9, e9'⟩ <;> subst e9 <;> subst e9')); rotate_left 2; (intro hb9 h' tk' F' N'); rotate_left; (intro hb9 t9 h' tk' F' N'; (try dsimp only)); rotate_left)); trivial
section
variable {r d sd fa : Addr} {ka kb kc ts : Tok} {so : Obj} {v1 v2 v3 lv : Value} {fl : List Fld} {S : St} {limit : Option Int}
theorem heads0 (hS : S.stage = 0) (hl : LimV limit lv) (hrd : @Ne Nat r d) (hrs : @Ne Nat r sd) (hds : @Ne Nat d sd) (hne1 : ∀ p ∈ rest, p.1 ≠ d) (hne2 : ∀ p ∈ rest, p.1 ≠ sd) (lo : (sd == sysModules) = false) (hf : FieldsAt rest fl fa) (wf : WF fl) (hsm : Small fl) (hso : sdict w v1 v2 v3 so) :
    DoesY w mean mg mb 285 14 [.ref fa, .ref r, .ref sd, lv] ((r, instObj 144 d) :: (d, rulesD w ka kb kc (.str "head" ts)) :: (sd, so) :: rest) rest
      (fun v n => (headStep limit S fl = .error .great ∧ (∃ t, v = .str "too great" t) ∧ n = (r, instObj 144 d) :: (d, rulesD w ka kb kc (.str "head" ts)) :: (sd, so) :: rest) ∨ (v = .none ∧ ((headStep limit S fl = .ok S ∧ n = (r, instObj 144 d) :: (d, rulesD w ka kb kc (.str "head" ts)) :: (sd, so) :: rest) ∨
        ∃ k ts' so' t, headStep limit S fl = .ok ⟨1, some k, S.size, fl⟩ ∧ n = (r, instObj 144 d) :: (d, rulesD w ka kb kc (.str "body" ts')) :: (sd, so') :: rest ∧ sdict w (.int k t) v2 (.ref fa) so')))
      (fun c => headStep limit S fl = .error (.code c)) := by
  unfold sdict at hso
  unfold DoesY
  k_fill
  (intro dp un gd cn cs a ccd cl outer A₀ base h₀ L m s Q E B F X N T hk hdp hu hret hexc; refine wpAny_call ?_; k_dflt cell_enter)
  k_steps
  · exact hno9 rfl _ _ (by assumption) (by assumption)
  · exact hyes9 (big_yes (by assumption)) _ _ _ (by assumption) (by assumption)
  · exact hno9 (big_some (by assumption)) _ _ (by assumption) (by assumption)
  · exact hret _ ((r, instObj 144 d) :: (d, rulesD w ka kb kc (.str "head" ts)) :: (sd, so) :: rest) _ _ (.inr ⟨rfl, .inl ⟨hs_interim hS hb9 (by assumption) (by assumption) (by assumption), rfl⟩⟩) (by assumption) (News.cut (by assumption) (by intro p hp; repeat (first | exact hp | apply List.mem_cons_of_mem)))
  · rename Obj.IsDictOf _ _ _ => hd9
    exact hret _ ((r, instObj 144 d) :: (d, rulesD w ka kb kc (.str "body" _)) :: (sd, _) :: rest) _ _ (.inr ⟨rfl, .inr ⟨_, _, _, _, hs_head hS hb9 (by assumption) (by assumption) (by assumption), rfl, hd9⟩⟩) (by assumption) (News.cut (by assumption) (by intro p hp; repeat (first | exact hp | apply List.mem_cons_of_mem)))
  · exact hexc _ _ _ _ _ (hx_101 hS hb9 (by assumption) (by assumption)) (by assumption) (Fly.mono (by assumption) (by intro p hp; repeat (first | exact hp | apply List.mem_cons_of_mem))) (by assumption)
  · exact hexc _ _ _ _ _ (hx_none hS hb9 (by assumption)) (by assumption) (Fly.mono (by assumption) (by intro p hp; repeat (first | exact hp | apply List.mem_cons_of_mem))) (by assumption)
  · exact hret _ ((r, instObj 144 d) :: (d, rulesD w ka kb kc (.str "head" ts)) :: (sd, so) :: rest) _ _ (.inl ⟨hs_big hb9, ⟨_, rfl⟩, rfl⟩) (by assumption) (News.cut (by assumption) (by intro p hp; repeat (first | exact hp | apply List.mem_cons_of_mem)))
theorem heads1 (hS : S.stage = 1) (hl : LimV limit lv) (hrd : @Ne Nat r d) (hrs : @Ne Nat r sd) (hds : @Ne Nat d sd) (hne1 : ∀ p ∈ rest, p.1 ≠ d) (hne2 : ∀ p ∈ rest, p.1 ≠ sd) (hf : FieldsAt rest fl fa) (wf : WF fl) (hsm : Small fl) :
    DoesY w mean mg mb 285 14 [.ref fa, .ref r, .ref sd, lv] ((r, instObj 144 d) :: (d, rulesD w ka kb kc (.str "body" ts)) :: (sd, so) :: rest) rest
      (fun v n => (headStep limit S fl = .error .great ∧ (∃ t, v = .str "too great" t) ∧ n = (r, instObj 144 d) :: (d, rulesD w ka kb kc (.str "body" ts)) :: (sd, so) :: rest) ∨ (v = .none ∧ headStep limit S fl = .ok ⟨2, S.status, S.size, S.fl⟩ ∧ ∃ ts', n = (r, instObj 144 d) :: (d, rulesD w ka kb kc (.str "trailer" ts')) :: (sd, so) :: rest))
      (fun c => headStep limit S fl = .error (.code c)) := by
  unfold DoesY
  k_fill
  (intro dp un gd cn cs a ccd cl outer A₀ base h₀ L m s Q E B F X N T hk hdp hu hret hexc; refine wpAny_call ?_; k_dflt cell_enter)
  k_steps
  · exact hno9 rfl _ _ (by assumption) (by assumption)
  · exact hyes9 (big_yes (by assumption)) _ _ _ (by assumption) (by assumption)
  · exact hno9 (big_some (by assumption)) _ _ (by assumption) (by assumption)
  · exact hret _ ((r, instObj 144 d) :: (d, rulesD w ka kb kc (.str "trailer" _)) :: (sd, so) :: rest) _ _ (.inr ⟨rfl, hs_trail hS hb9 (by assumption), _, rfl⟩) (by assumption) (News.cut (by assumption) (by intro p hp; repeat (first | exact hp | apply List.mem_cons_of_mem)))
  · exact hexc _ _ _ _ _ (hx_col hS hb9 (by assumption)) (by assumption) (Fly.mono (by assumption) (by intro p hp; repeat (first | exact hp | apply List.mem_cons_of_mem))) (by assumption)
  · exact hret _ ((r, instObj 144 d) :: (d, rulesD w ka kb kc (.str "body" ts)) :: (sd, so) :: rest) _ _ (.inl ⟨hs_big hb9, ⟨_, rfl⟩, rfl⟩) (by assumption) (News.cut (by assumption) (by intro p hp; repeat (first | exact hp | apply List.mem_cons_of_mem)))
theorem heads2 (hS : S.stage = 2) (hl : LimV limit lv) (hrd : @Ne Nat r d) (hrs : @Ne Nat r sd) (hds : @Ne Nat d sd) (hne1 : ∀ p ∈ rest, p.1 ≠ d) (hne2 : ∀ p ∈ rest, p.1 ≠ sd) (hf : FieldsAt rest fl fa) (wf : WF fl) (hsm : Small fl) :
    DoesY w mean mg mb 285 14 [.ref fa, .ref r, .ref sd, lv] ((r, instObj 144 d) :: (d, rulesD w ka kb kc (.str "trailer" ts)) :: (sd, so) :: rest) rest
      (fun v n => headStep limit S fl = .error .great ∧ (∃ t, v = .str "too great" t) ∧ n = (r, instObj 144 d) :: (d, rulesD w ka kb kc (.str "trailer" ts)) :: (sd, so) :: rest)
      (fun c => headStep limit S fl = .error (.code c)) := by
  unfold DoesY
  k_fill
  (intro dp un gd cn cs a ccd cl outer A₀ base h₀ L m s Q E B F X N T hk hdp hu hret hexc; refine wpAny_call ?_; k_dflt cell_enter)
  k_steps
  · exact hno9 rfl _ _ (by assumption) (by assumption)
  · exact hyes9 (big_yes (by assumption)) _ _ _ (by assumption) (by assumption)
  · exact hno9 (big_some (by assumption)) _ _ (by assumption) (by assumption)
  · exact hexc _ _ _ _ _ (hx_late hS hb9 (by assumption)) (by assumption) (Fly.mono (by assumption) (by intro p hp; repeat (first | exact hp | apply List.mem_cons_of_mem))) (by assumption)
  · exact hret _ ((r, instObj 144 d) :: (d, rulesD w ka kb kc (.str "trailer" ts)) :: (sd, so) :: rest) _ _ ⟨hs_big hb9, ⟨_, rfl⟩, rfl⟩ (by assumption) (News.cut (by assumption) (by intro p hp; repeat (first | exact hp | apply List.mem_cons_of_mem)))
end

inductive Ev
  | heads (fl : List Fld)
  | data (n : Int)
  | other (n : Int)
  | settings (n : Int)
def step (limit : Option Int) (S : St) : Ev → Except Res St
  | .heads fl => headStep limit S fl
  | .data n => if S.stage = 1 then .ok ⟨S.stage, S.status, S.size + n, S.fl⟩ else .error (.code 261)
  | .other _ => .ok S
  | .settings _ => .error (.code 261)
def fin (me : Array UInt8) (S : St) : Res := if S.stage = 0 then .code 269 else match S.status with
  | none => .code 0
  | some n => if lenOk (clenOf S.fl) S.size (isBare me n) = true then .pair n S.size else .code 270
def run (limit : Option Int) (me : Array UInt8) : List Ev → St → Res
  | [], S => fin me S
  | e :: r, S => match step limit S e with
    | .error x => x
    | .ok S' => run limit me r S'
def S₀ : St := ⟨0, none, 0, []⟩
/-- what holds of the state between two events, n of them behind -/
structure StOk (S : St) (n : Nat) : Prop where
  le : S.stage ≤ 2
  size0 : 0 ≤ S.size
  size1 : S.size ≤ 5 * n
  zero : S.stage = 0 → S = S₀
  head : S.stage ≠ 0 → WF S.fl ∧ ∃ k, S.status = some k ∧ statOf S.fl = some k ∧ 100 ≤ k ∧ k ≤ 404
def kindS : Ev → Str
  | .heads _ => "heads"
  | .data _ => "data"
  | .other _ => "other"
  | .settings _ => "settings"
def HeldAt (news : Led) : Ev → Value → Prop
  | .heads fl, v => ∃ fa, v = .ref fa ∧ FieldsAt news fl fa ∧ WF fl ∧ Small fl
  | .data n, v => ∃ t, v = .int n t ∧ 0 ≤ n ∧ n ≤ 5
  | .other n, v => ∃ t, v = .int n t
  | .settings n, v => ∃ t, v = .int n t
def EvAt (news : Led) (e : Ev) (v : Value) : Prop := ∃ t nt kt hv, v = .ref t ∧ (t, ({ cls := .type "tuple", data := .seq #[.str (kindS e) kt, hv] nt } : Obj)) ∈ news ∧ HeldAt news e hv
def EventsAt (news : Led) (evs : List Ev) (a : Addr) : Prop := ∃ its k, (a, W.listOf its k) ∈ news ∧ Prs (EvAt news) its.toList evs ∧ its.size ≤ 8
theorem EvAt.mono {a b : Led} (hs : ∀ p ∈ a, p ∈ b) {e v} (h : EvAt a e v) : EvAt b e v := by
  obtain ⟨t, nt, kt, hv, h1, h2, h3⟩ := h
  refine ⟨t, nt, kt, hv, h1, hs _ h2, ?_⟩
  cases e with
  | heads fl => obtain ⟨fa, x1, x2, x3⟩ := h3; exact ⟨fa, x1, x2.mono hs, x3⟩
  | data n => exact h3
  | other n => exact h3
  | settings n => exact h3
theorem EventsAt.mono {a b : Led} (hs : ∀ p ∈ a, p ∈ b) {e v} (h : EventsAt a e v) : EventsAt b e v := by
  obtain ⟨its, k, h1, h2, h3⟩ := h
  exact ⟨its, k, hs _ h1, h2.mono fun _ _ => EvAt.mono hs, h3⟩
/-- the answer as a value -/
def ResV (rest : Led) : Res → Value → Led → Prop
  | .great, v, n => (∃ t, v = .str "too great" t) ∧ n = rest
  | .code c, v, n => (∃ t, v = .int c t) ∧ n = rest
  | .pair a b, v, n => ∃ p t u, v = .ref p ∧ n = (p, tupo [.int a t, .int b u]) :: rest ∧ ∀ q ∈ rest, q.1 ≠ p
theorem run_drop_ok {limit : Option Int} {me : Array UInt8} {evs : List Ev} {S S' : St} {i : Nat} {e : Ev} {R : Res} (h : R = run limit me (evs.drop i) S) (he : evs[i]? = some e) (hs : step limit S e = .ok S') : R = run limit me (evs.drop (i + 1)) S' := by
  have hlt : i < evs.length := (List.getElem?_eq_some_iff.mp he).1
  have hd : evs.drop i = e :: evs.drop (i + 1) := by
    rw [List.drop_eq_getElem_cons hlt]
    congr 1
    exact (List.getElem?_eq_some_iff.mp he).2
  rw [hd] at h
  rw [h]
  show (match step limit S e with | .error x => x | .ok S' => run limit me (evs.drop (i + 1)) S') = _
  rw [hs]
theorem run_drop_err {limit : Option Int} {me : Array UInt8} {evs : List Ev} {S : St} {i : Nat} {e : Ev} {x R : Res} (h : R = run limit me (evs.drop i) S) (he : evs[i]? = some e) (hs : step limit S e = .error x) : R = x := by
  have hlt : i < evs.length := (List.getElem?_eq_some_iff.mp he).1
  have hd : evs.drop i = e :: evs.drop (i + 1) := by
    rw [List.drop_eq_getElem_cons hlt]
    congr 1
    exact (List.getElem?_eq_some_iff.mp he).2
  rw [hd] at h
  rw [h]
  show (match step limit S e with | .error x => x | .ok S' => run limit me (evs.drop (i + 1)) S') = _
  rw [hs]
theorem StOk.head1 {S : St} {fl : List Fld} {k : Int} {n : Nat} (h : StOk S n) (wf : WF fl) (hk : statOf fl = some k) (h0 : 100 ≤ k) (h1 : k ≤ 404) : StOk ⟨1, some k, S.size, fl⟩ (n + 1) where
  le := Nat.le_of_ble_eq_true rfl
  size0 := h.size0
  size1 := by have := h.size1; show S.size ≤ _; omega
  zero := fun e => nomatch e
  head := fun _ => ⟨wf, k, rfl, hk, h0, h1⟩
theorem StOk.same {S : St} {n : Nat} (h : StOk S n) : StOk S (n + 1) where
  le := h.le
  size0 := h.size0
  size1 := by have := h.size1; omega
  zero := h.zero
  head := h.head
theorem StOk.trail {S : St} {n : Nat} (h : StOk S n) (h1 : S.stage = 1) : StOk ⟨2, S.status, S.size, S.fl⟩ (n + 1) where
  le := Nat.le_of_ble_eq_true rfl
  size0 := h.size0
  size1 := by have := h.size1; show S.size ≤ _; omega
  zero := fun e => nomatch e
  head := fun _ => h.head (by rw [h1]; decide)
theorem StOk.more {S : St} {n : Nat} {z : Int} (h : StOk S n) (h1 : S.stage = 1) (z0 : 0 ≤ z) (z1 : z ≤ 5) : StOk ⟨S.stage, S.status, S.size + z, S.fl⟩ (n + 1) where
  le := h.le
  size0 := by have := h.size0; show 0 ≤ S.size + z; omega
  size1 := by have := h.size1; show S.size + z ≤ _; omega
  zero := fun e => by rw [h1] at e; cases e
  head := fun _ => h.head (by rw [h1]; decide)
theorem StOk.init : StOk S₀ 0 where
  le := Nat.le_of_ble_eq_true rfl
  size0 := by decide
  size1 := by decide
  zero := fun _ => rfl
  head := fun h => absurd rfl h

section
variable {prog : Program} {w : World} {A : Around} {E : Value → Shared → Prop} {s : Shared}
theorem ne_lists_len {a b : Addr} {xs ys : Array Value} {Q : Value → Shared → Prop} (ha : s.heap.IsList a xs) (hb : s.heap.IsList b ys) (hsz : (xs.size != ys.size) = true) (hu : A.units < cLine) (h : Q (.bool true) s) : wpAny (model prog w) A (compareOp .NotEq (.ref a) (.ref b)) Q E s := by
  show wpAny _ _ (richCompare .NotEq _ _) _ _ _
  exact PySem.SeqAt.RcNeAt.lists_lengths ha hb hsz hu _ _ _ _ h
open LCg LCp LCpt
variable {s₁ : Shared} {h₀ : Heap} {L : Addr} {m : Str → Option Value} {env : Env}
theorem srcLPT_vals {nm : Array UInt8} {ct elt : Expr} {x x₂ : Str} {scope : Scope} {cl : List (Str × Addr)} {Fin : Shared → List Value → Led → Prop} {ax : Addr} {news : Led} {fl : List Fld}
    (hh : A.handled = none) (F : Fr h₀ L s₁.heap m) (N : News h₀ L s₁.heap news) (hf : FieldsAt news fl ax)
    (hfin : ∀ ys g, BytesAre ys (valsOf fl nm) → Fin { s₁ with heap := g } ys news)
    (yes : ∀ (p : Fld) tn ty ys I oI C oC D m₂ h tk (E' : Value → Shared → Prop), (p.1.toList == nm.toList) = true → NsObj oC m₂ → m₂ x = some (.bytes p.1 tn) → m₂ x₂ = some (.bytes p.2 ty) → Fr h₀ L h m → News h₀ L h ((I, oI) :: (C, oC) :: (D, lst ys) :: news) → Off3 I C D news → ((@Ne Nat I C) ∧ (@Ne Nat I D) ∧ (@Ne Nat C D)) →
      wpAny (model prog w) A (isTrue ct (compEnvC scope cl C env) (eval ct (compEnvC scope cl C env))) (fun ok s' => ok = true ∧
        wpAny (model prog w) A (eval elt (compEnvC scope cl C env)) (CompEnd h₀ L m { s₁ with heap := h, toks := tk } I oI C oC D (lst ys) (fun _ => True) (fun y news' => news' = news ∧ ∃ t, y = .bytes p.2 t)) E' s') E' { s₁ with heap := h, toks := tk })
    (no : ∀ (p : Fld) tn ty ys I oI C oC D m₂ h tk (E' : Value → Shared → Prop), (p.1.toList == nm.toList) = false → NsObj oC m₂ → m₂ x = some (.bytes p.1 tn) → m₂ x₂ = some (.bytes p.2 ty) → Fr h₀ L h m → News h₀ L h ((I, oI) :: (C, oC) :: (D, lst ys) :: news) → Off3 I C D news → ((@Ne Nat I C) ∧ (@Ne Nat I D) ∧ (@Ne Nat C D)) →
      wpAny (model prog w) A (isTrue ct (compEnvC scope cl C env) (eval ct (compEnvC scope cl C env))) (fun ok s' => ok = false ∧ CompEnd h₀ L m { s₁ with heap := h, toks := tk } I oI C oC D (lst ys) (fun _ => True) (fun _ news' => news' = news) Value.none s') E' { s₁ with heap := h, toks := tk }) :
    SrcLPT prog w A h₀ L m env ct elt x x₂ scope cl Fin (.ref ax) s₁ := by
  refine srcLPT_fields (fun p => p.1.toList == nm.toList) hh F N hf hfin fun p tn ty ys I oI C oC D m₂ h tk E' a b c d e f g i => ?_
  show wpAny _ _ _ (fun ok s' => ok = (p.1.toList == nm.toList) ∧ _) _ _
  cases hq : (p.1.toList == nm.toList) with
  | true =>
    refine wpAny_mono (yes p tn ty ys I oI C oC D m₂ h tk E' hq b c d e f g i) (fun ok s' hq' => ?_) fun _ _ e => e
    obtain ⟨rfl, hq'⟩ := hq'
    exact ⟨rfl, by rw [if_pos rfl]; exact hq'⟩
  | false =>
    refine wpAny_mono (no p tn ty ys I oI C oC D m₂ h tk E' hq b c d e f g i) (fun ok s' hq' => ?_) fun _ _ e => e
    obtain ⟨rfl, hq'⟩ := hq'
    exact ⟨rfl, by rw [if_neg (by decide)]; exact hq'⟩
theorem lst_item0 {value slice : PySem.Expr} {D : Addr} {news : Led} {b : Array UInt8} {t u : Tok} {Q : Value → Shared → Prop} (N : News h₀ L s.heap news) (hm : (D, lst [.bytes b t]) ∈ news) (h : Q (.bytes b t) s)
    (hs : subscripted slice false (.ref D) (.int 0 u) = operate [.ref D, .int 0 u] (getItem (.ref D) (.int 0 u)) := by with_unfolding_all rfl) :
    wpAny (model prog w) A (subscriptTail value slice (.ref D) (.int 0 u)) Q E s :=
  have hl : s.heap.IsList D #[.bytes b t] := News.isList N hm
  tail_any hl.typeIs slot_list_getitem.lookup (wpAny_getItem_list hl (by decide) (by decide) rfl h) hs
theorem fld_item0 {value slice : PySem.Expr} {D : Addr} {news : Led} {v : Value} {vs : List Value} {k : Nat} {u : Tok} {Q : Value → Shared → Prop} (N : News h₀ L s.heap news) (hm : (D, W.listOf (v :: vs).toArray k) ∈ news) (h : Q v s)
    (hs : subscripted slice false (.ref D) (.int 0 u) = operate [.ref D, .int 0 u] (getItem (.ref D) (.int 0 u)) := by with_unfolding_all rfl) :
    wpAny (model prog w) A (subscriptTail value slice (.ref D) (.int 0 u)) Q E s :=
  have hl : s.heap.IsList D (v :: vs).toArray := News.isList N hm
  tail_any hl.typeIs slot_list_getitem.lookup (wpAny_getItem_list hl (by decide) (by decide) (by simp) h) hs
theorem fld_tup0 {value slice : PySem.Expr} {D : Addr} {news : Led} {v v₂ : Value} {k : Nat} {u : Tok} {Q : Value → Shared → Prop} (N : News h₀ L s.heap news) (hm : (D, ({ cls := .type "tuple", data := .seq #[v, v₂] k } : Obj)) ∈ news) (h : Q v s)
    (hs : subscripted slice false (.ref D) (.int 0 u) = operate [.ref D, .int 0 u] (getItem (.ref D) (.int 0 u)) := by with_unfolding_all rfl) :
    wpAny (model prog w) A (subscriptTail value slice (.ref D) (.int 0 u)) Q E s :=
  item_tupleT (l := [v, v₂]) (j := 0) (x := v) (News.isTup N hm) (by decide) (by decide) rfl rfl h hs
theorem bitem {value slice : PySem.Expr} {d : Addr} {o : Obj} {news : Led} {kvs : List (List UInt8 × Value)} {b : Array UInt8} {t : Tok} {Q : Value → Shared → Prop} (N : News h₀ L s.heap news) (hp : (d, o) ∈ news) (hd : o.IsDictOf (bytesKind prog w) kvs)
    (hl : ∃ n t, n = numOf b ∧ valueAt kvs b.toList = some (.int n t)) (h : ∀ n t, n = numOf b → Q (.int n t) { s with toks := s.toks + 1 })
    (hs : subscripted slice false (.ref d) (.bytes b t) = operate [.ref d, .bytes b t] (getItem (.ref d) (.bytes b t)) := by with_unfolding_all rfl) (hg : ∀ r, letTemporaryGo value (.ref d) r = pure () := by intro _; with_unfolding_all rfl) :
    wpAny (model prog w) A (subscriptTail value slice (.ref d) (.bytes b t)) Q E s := by
  obtain ⟨n, t', e', e⟩ := hl
  exact kda_item N hp hd (bytesKind_is _ _) e (h n t' e') hs hg
theorem clens_at {t1 t2 t3 : Tok} : ∀ b ∈ clensC, ∃ n t, n = numOf b ∧ valueAt [((#[53] : Array UInt8).toList, Value.int 5 t1), ((#[51] : Array UInt8).toList, .int 3 t2), ((#[48] : Array UInt8).toList, .int 0 t3)] b.toList = some (.int n t) := by
  intro b hb
  simp only [clensC, List.mem_cons, List.not_mem_nil, or_false] at hb
  rcases hb with rfl | rfl | rfl
  · exact ⟨5, t1, by decide +kernel, rfl⟩
  · exact ⟨3, t2, by decide +kernel, rfl⟩
  · exact ⟨0, t3, by decide +kernel, rfl⟩
end
example : True := by (k_with "CompEnd" => (k_here; first | exact LCg.CompEnd.intro (by assumption) (by assumption) _ (fun p hp => hp) (by assumption) trivial rfl | exact LCg.CompEnd.intro (by assumption) (by assumption) _ (fun p hp => hp) (by assumption) trivial ⟨rfl, _, rfl⟩)); trivial
example : True := by (k_with "SrcLPT" => (k_here; (refine srcLPT_vals (nm := #[99,111,110,116,101,110,116,45,108,101,110,103,116,104]) (by rfl) (by k_asm) (by k_asm) (by first | assumption | (refine FieldsAt.mono ?_ (by assumption); intro p hp; repeat (first | exact hp | apply List.mem_cons_of_mem))) ?_ ?_ ?_); rotate_left; intro p' tn' ty' ys' I' oI' C' oC' D' m2' h' tk' E' hq' hC' hx' hy' F' N' off' ne'; rotate_left; intro p' tn' ty' ys' I' oI' C' oC' D' m2' h' tk' E' hq' hC' hx' hy' F' N' off' ne'; rotate_left; intro ys' g' hy'; (rcases WF.vals (by assumption) with hv' | ⟨b', hb', hv'⟩ <;> rw [hv'] at hy' <;> rcases hy' with _ | ⟨yb', yt', hy'⟩ <;> (try (rcases hy' with _ | _))))); trivial
example : True := by (k_with "compareOp NotEq ref ref" => (k_here; (with_reducible show wpAny _ _ (compareOp CmpOp.NotEq (Value.ref _) (Value.ref _)) _ _ _); k_dflt (refine' ne_lists_len (News.isList ?zzN ?zzm) (News.isList ?zzN2 ?zzm2) ?zzi ?zzu ?_; (case zzN => k_asm); (case zzm => k_mem); (case zzN2 => k_asm); (case zzm2 => k_mem); (case zzi => rfl); (case zzu => ktr_units)))); trivial
example : True := by (k_with "subscriptTail Name Constant ref int" => (k_here; (with_reducible show wpAny _ _ (subscriptTail _ _ (Value.ref _) (Value.int 0 _)) _ _ _); k_dflt (first | refine lst_item0 (by k_asm) (by k_mem) ?_ | refine fld_item0 (by k_asm) (by k_mem) ?_))); trivial
example : True := by (k_with "subscriptTail Subscript Name Constant Constant ref int" => (k_here; k_dflt (refine fld_tup0 (by k_asm) (by k_mem) ?_))); trivial
example : True := by (k_with "subscriptTail" => (k_here; (with_reducible show wpAny _ _ (subscriptTail _ _ (Value.ref _) (Value.bytes _ _)) _ _ _); k_dflt (refine bitem (by k_asm) (by k_mem) (by assumption) (by first | assumption | exact clens_at _ (by assumption)) ?_; intro bn' bt' bh'))); trivial
def stI : Nat → Int
  | 0 => 0
  | 1 => 1
  | _ => 2
theorem stI_one {n : Nat} (h : stI n = 1) : n = 1 := by
  match n, h with
  | 0, h => exact absurd h (by decide)
  | 1, _ => rfl
  | n + 2, h => exact absurd (show (2 : Int) = 1 from h) (by decide)
theorem stI_ne1 {n : Nat} (h : stI n ≠ 1) : n ≠ 1 := fun e => h (by rw [e]; rfl)
theorem stI_zero {n : Nat} (h : stI n = 0) : n = 0 := by
  match n, h with
  | 0, _ => rfl
  | 1, h => exact absurd h (by decide)
  | n + 2, h => exact absurd (show (2 : Int) = 0 from h) (by decide)
theorem stI_two {n : Nat} (h : stI n = 2) (hn : n ≤ 2) : n = 2 := by
  match n, h with
  | 0, h => exact absurd h (by decide)
  | 1, h => exact absurd h (by decide)
  | n + 2, _ => omega
theorem stI_le : ∀ n, 0 ≤ stI n ∧ stI n ≤ 2
  | 0 => by decide
  | 1 => by decide
  | n + 2 => by show (0 : Int) ≤ 2 ∧ (2 : Int) ≤ 2; decide
variable {w : World} {mean : ExcName → Option Value} {mg mb : Str → Option Value} {rest news : Led}
section
variable {S : St} {fl : List Fld} {limit : Option Int} {n : Int}
theorem hs_dueNone (hS : S.stage = 0) (hb : tooBig limit fl = false) (h : dueStat fl = none) : headStep limit S fl = .error (.code 270) := by
  unfold headStep; rw [if_neg (by rw [hb]; decide), hS, h]; rfl
theorem hs_dueHead (hS : S.stage = 0) (hb : tooBig limit fl = false) (h : dueStat fl = some n) (h2 : 200 ≤ n) : headStep limit S fl = .ok ⟨1, some n, S.size, fl⟩ := by
  unfold headStep; rw [if_neg (by rw [hb]; decide), hS, h]; show (if n < 200 then _ else _) = _; rw [if_neg (by omega)]
theorem hs_dueInter (hS : S.stage = 0) (hb : tooBig limit fl = false) (h : dueStat fl = some n) (h2 : ¬ 200 ≤ n) : headStep limit S fl = .ok S := by
  unfold headStep; rw [if_neg (by rw [hb]; decide), hS, h]; show (if n < 200 then _ else _) = _; rw [if_pos (by omega)]
theorem due_stat (h : dueStat fl = some n) : statOf fl = some n := by
  unfold dueStat at h
  cases hs : statOf fl with
  | none => rw [hs] at h; cases h
  | some k =>
    rw [hs] at h
    simp only [] at h
    split at h
    · cases h
    · exact h
theorem clen_nil (h : valsOf fl #[99,111,110,116,101,110,116,45,108,101,110,103,116,104] = []) : optInt (clenOf fl) .none := by unfold clenOf; rw [h]; rfl
theorem clen_b {b : Array UInt8} {t : Tok} (h : valsOf fl #[99,111,110,116,101,110,116,45,108,101,110,103,116,104] = [b]) (e : n = numOf b) : optInt (clenOf fl) (.int n t) := by
  unfold clenOf; rw [h]; exact ⟨t, by rw [e]⟩
end
section
variable {S : St} {me : Array UInt8} {k n : Int}
theorem fin_0 (h : S.stage = 0) : fin me S = .code 269 := by unfold fin; rw [if_pos h]
theorem fin_ok (h : S.stage ≠ 0) (hk : S.status = some k) (hl : lenOk (clenOf S.fl) S.size (isBare me k) = true) : fin me S = .pair k S.size := by unfold fin; rw [if_neg h, hk]; show (if _ then _ else _) = _; rw [if_pos hl]
theorem fin_bad (h : S.stage ≠ 0) (hk : S.status = some k) (hl : lenOk (clenOf S.fl) S.size (isBare me k) = false) : fin me S = .code 270 := by unfold fin; rw [if_neg h, hk]; show (if _ then _ else _) = _; rw [if_neg (by rw [hl]; decide)]
theorem bareG_t (h : ([204, 304].any fun x => x == k) = true) : isBare getB k = true := h
theorem bareG_f (h : ([204, 304].any fun x => x == k) = false) : isBare getB k = false := h
theorem lo_bare {o : Option Int} (hb : isBare me k = true) (h : n = 0) : lenOk o n (isBare me k) = true := by rw [hb, h]; rfl
theorem lo_bare_not {o : Option Int} (hb : isBare me k = true) (h : n ≠ 0) : lenOk o n (isBare me k) = false := by rw [hb]; unfold lenOk; simp [h]
theorem lo_none (hb : isBare me k = false) (hc : clenOf S.fl = none) : lenOk (clenOf S.fl) n (isBare me k) = true := by rw [hb, hc]; rfl
theorem lo_some {c : Int} (hb : isBare me k = false) (hc : clenOf S.fl = some c) (h : c = n) : lenOk (clenOf S.fl) n (isBare me k) = true := by rw [hb, hc]; unfold lenOk; simp [h]
theorem lo_some_not {c : Int} (hb : isBare me k = false) (hc : clenOf S.fl = some c) (h : c ≠ n) : lenOk (clenOf S.fl) n (isBare me k) = false := by rw [hb, hc]; unfold lenOk; simp [h]
end
theorem due_spec2 {fl : List Fld} {fa : Addr} (hf : FieldsAt rest fl fa) (wf : WF fl) : Does w mean mg mb 273 2 [.ref fa] rest (fun v news => news = rest ∧ ((dueStat fl = none ∧ v = .none) ∨ ∃ n t, v = .int n t ∧ dueStat fl = some n ∧ 100 ≤ n ∧ n ≤ 404)) := by
  refine Does.mono (due_spec hf wf) fun v n h => ⟨h.2, ?_⟩
  have h1 := h.1
  cases hd : dueStat fl with
  | none => rw [hd] at h1; exact .inl ⟨rfl, h1⟩
  | some k =>
    rw [hd] at h1
    obtain ⟨t, e⟩ := h1
    refine .inr ⟨k, t, e, rfl, ?_⟩
    unfold dueStat at hd
    cases wf with
    | stat st tl hst hp hv =>
      rcases hst with hst | rfl
      · rw [statOf_stat hst] at hd
        have hg := statC_good st hst
        simp only [] at hd
        split at hd
        · cases hd
        · cases hd; exact ⟨hg.2.2.2.1, hg.2.2.2.2⟩
      · rw [statOf_bad] at hd; cases hd
    | plain _ hp hne hpv => rw [statOf_plain hp] at hd; cases hd
example : True := by (k_with "call ref" => (k_here; (with_reducible show wpAny _ _ (call (Value.ref 273) _) _ _ _); k_dflt (refine' dz2 (due_spec2 ?zzq ?zzp) (u_du) ?_ ?_; ((case zzq => (first | assumption | (refine FieldsAt.mono ?_ (by assumption); intro p hp; repeat (first | exact hp | apply List.mem_cons_of_mem)))); (case zzp => assumption))); (intro hd1' h' tk' F' N'; (skip); (try k_sweep)); rotate_left; (intro dn' dt' hd1' hd2' hd3' h' tk' F' N'; (skip); (try k_sweep)); rotate_left)); trivial
theorem WF.ne {fl : List Fld} (h : WF fl) : ∃ f tl, fl = f :: tl := by
  cases h with
  | stat st tl => exact ⟨_, _, rfl⟩
  | plain fl _ hne _ => cases fl with
    | nil => exact absurd rfl hne
    | cons f tl => exact ⟨_, _, rfl⟩
inductive EvGet (rest : Led) (evs : List Ev) (i : Nat) : Value → Prop
  | settings (z : Int) (t : Addr) (nt : Nat) (kt zt : Tok) : evs[i]? = some (.settings z) → (t, ({ cls := .type "tuple", data := .seq #[.str "settings" kt, .int z zt] nt } : Obj)) ∈ rest → EvGet rest evs i (.ref t)
  | other (z : Int) (t : Addr) (nt : Nat) (kt zt : Tok) : evs[i]? = some (.other z) → (t, ({ cls := .type "tuple", data := .seq #[.str "other" kt, .int z zt] nt } : Obj)) ∈ rest → EvGet rest evs i (.ref t)
  | data (z : Int) (t : Addr) (nt : Nat) (kt zt : Tok) : evs[i]? = some (.data z) → 0 ≤ z → z ≤ 5 → (t, ({ cls := .type "tuple", data := .seq #[.str "data" kt, .int z zt] nt } : Obj)) ∈ rest → EvGet rest evs i (.ref t)
  | heads (f : Fld) (tl : List Fld) (fa t : Addr) (nt : Nat) (kt : Tok) (t0 : Addr) (vs0 : List Value) (k1 nt1 : Nat) (tn1 tx1 : Tok) : evs[i]? = some (.heads (f :: tl)) → (t, ({ cls := .type "tuple", data := .seq #[.str "heads" kt, .ref fa] nt } : Obj)) ∈ rest → FieldsAt rest (f :: tl) fa → WF (f :: tl) → Small (f :: tl) →
      (fa, W.listOf (Value.ref t0 :: vs0).toArray k1) ∈ rest → (t0, ({ cls := .type "tuple", data := .seq #[.bytes f.1 tn1, .bytes f.2 tx1] nt1 } : Obj)) ∈ rest → EvGet rest evs i (.ref t)
theorem ev_get {its : List Value} {evs : List Ev} {i : Nat} {v : Value} (hp : Prs (EvAt rest) its evs) (hv : its[i]? = some v) : EvGet rest evs i v := by
  obtain ⟨e, hei, t, nt, kt, hvl, rfl, hmt, hheld⟩ := hp.get hv
  cases e with
  | settings z => obtain ⟨zt, rfl⟩ := hheld; exact .settings z t nt kt zt hei hmt
  | other z => obtain ⟨zt, rfl⟩ := hheld; exact .other z t nt kt zt hei hmt
  | data z => obtain ⟨zt, rfl, hz2, hz3⟩ := hheld; exact .data z t nt kt zt hei hz2 hz3 hmt
  | heads fl =>
    obtain ⟨fa, rfl, hf, wf, hsm⟩ := hheld
    obtain ⟨f, tl, rfl⟩ := wf.ne
    obtain ⟨t0, vs0, k1, nt1, tn1, tx1, hm1, hm2⟩ := fields_cons hf
    exact .heads f tl fa t nt kt t0 vs0 k1 nt1 tn1 tx1 hei hmt hf wf hsm hm1 hm2
inductive StGet (n : Nat) : Int → Prop
  | two : n = 2 → StGet n 2
  | one : n = 1 → StGet n 1
  | zero : n = 0 → StGet n 0
theorem st_get {n : Nat} {g : Int} (hg : stI n = g) (hle : n ≤ 2) : StGet n g := by
  subst hg
  match n, hle with
  | 0, _ => exact .zero rfl
  | 1, _ => exact .one rfl
  | 2, _ => exact .two rfl
inductive DueInv (rest : Led) (limit : Option Int) (me : Array UInt8) (evs : List Ev) (R : Res) (m₀ : Str → Option Value) (i : Nat) : (Str → Option Value) → Led → Prop
  | mk (S : St) (kv hv fv lv : Option Value) (sv tv : Value) (zt gt : Tok) : R = run limit me (evs.drop i) S → StOk S i → optInt S.status sv → optInt (clenOf S.fl) tv → DueInv rest limit me evs R m₀ i (over [("kind", kv), ("held", hv), ("found", fv), ("lengths", lv), ("status", some sv), ("told", some tv), ("size", some (.int S.size zt)), ("stage", some (.int (stI S.stage) gt))] m₀) rest
theorem due_mk {limit : Option Int} {me : Array UInt8} {evs : List Ev} {R : Res} {m₀ m : Str → Option Value} {i : Nat} (S : St) (kv hv fv lv : Option Value) (sv tv : Value) (zt gt : Tok) (h1 : R = run limit me (evs.drop i) S) (h2 : StOk S i) (h3 : optInt S.status sv) (h4 : optInt (clenOf S.fl) tv)
    (h : m = over [("kind", kv), ("held", hv), ("found", fv), ("lengths", lv), ("status", some sv), ("told", some tv), ("size", some (.int S.size zt)), ("stage", some (.int (stI S.stage) gt))] m₀) : DueInv rest limit me evs R m₀ i m rest := by rw [h]; exact .mk S kv hv fv lv sv tv zt gt h1 h2 h3 h4
theorem due_walk {ev : Addr} {lv : Value} {limit : Option Int} {me : Array UInt8} {mt : Tok} {evs : List Ev} (hev : EventsAt rest evs ev) (hl : LimV limit lv) (hm : me = getB ∨ me = headB) :
    Does w mean mg mb 278 6 [.ref ev, lv, .bytes me mt] rest (ResV rest (run limit me evs S₀)) := by
  obtain ⟨its, k0, hmm, hp, hz⟩ := hev
  have hlen : evs.length ≤ 8 := by rw [← hp.length]; simpa using hz
  generalize hR : run limit me evs S₀ = R
  unfold Does
  k_fill
  (intro dp un gd cn cs a ccd cl outer A₀ base h₀ L m s Q E B F X N T hk hdp hu hret; refine wpAny_call ?_; k_dflt cell_enter)
  k_steps
  rename Fr _ _ _ _ => F9
  rename News _ _ _ _ => N9
  refine iter_inv (DueInv rest limit me evs R) rfl F9 (News.cut N9 fun p hp => .tail _ hp) hmm
    (due_mk S₀ _ _ _ _ .none .none _ _ hR.symm StOk.init rfl rfl (over_self2 _ (by repeat (first | exact agr_nil | refine agr_cons rfl ?_)))) (fun i m n h => by cases h; exact hmm) ?step ?done
  case step =>
    intro i v I oI h tk m n hv hI9 hoff F N
    cases hI9 with | mk S kv hvv fv lgv sv tv zt gt hrun hok hsv htv =>
    have hi : i < its.toList.length := (List.getElem?_eq_some_iff.mp hv).1
    rw [hp.length] at hi
    have hz0 : 0 ≤ S.size := hok.size0
    have hz1 : S.size ≤ 40 := by have := hok.size1; omega
    have hg9 := ev_get hp hv
    clear hv
    cases hg9 with
    | settings z t nt kt zt9 hei hmt =>
      replace N := News.with1 N (.tail _ hmt)
      k_steps
      exact hret _ _ _ _ (by rw [run_drop_err hrun hei rfl]; exact ⟨⟨_, rfl⟩, rfl⟩) (by assumption) (News.cut (by assumption) (by intro p hp; repeat (first | exact hp | apply List.mem_cons_of_mem)))
    | other z t nt kt zt9 hei hmt =>
      replace N := News.with1 N (.tail _ hmt)
      k_steps
      exact turn_end (by assumption) (by assumption) rest (fun p hp => by simp only [List.mem_cons] at hp ⊢; exact .inr hp) (fun p hp => hoff p hp) (due_mk S _ _ _ _ sv tv _ _ (run_drop_ok hrun hei rfl) hok.same hsv htv (over_end2 _ (by repeat (first | exact agr_nil | refine agr_cons rfl ?_)) (fun z hz => by (repeat (first | with_reducible exact rfl | with_reducible exact over_nil | refine (if_neg (by first | with_reducible exact off1 hz | with_reducible exact off1 (off2 hz) | with_reducible exact off1 (off2 (off2 hz)) | with_reducible exact off1 (off2 (off2 (off2 hz))) | with_reducible exact off1 (off2 (off2 (off2 (off2 hz)))) | with_reducible exact off1 (off2 (off2 (off2 (off2 (off2 hz))))) | with_reducible exact off1 (off2 (off2 (off2 (off2 (off2 (off2 hz)))))) | with_reducible exact off1 (off2 (off2 (off2 (off2 (off2 (off2 (off2 hz))))))) | with_reducible exact off1 (off2 (off2 (off2 (off2 (off2 (off2 (off2 (off2 hz)))))))) | with_reducible exact off1 (off2 (off2 (off2 (off2 (off2 (off2 (off2 (off2 (off2 hz))))))))))).trans ?_)) <;> exact rfl)))
    | data z t nt kt zt9 hei hz2 hz3 hmt =>
      replace N := News.with1 N (.tail _ hmt)
      k_steps
      · exact hret _ _ _ _ (by rw [run_drop_err hrun hei (if_neg (stI_ne1 (by assumption)))]; exact ⟨⟨_, rfl⟩, rfl⟩) (by assumption) (News.cut (by assumption) (by intro p hp; repeat (first | exact hp | apply List.mem_cons_of_mem)))
      · have h1 := stI_one (by assumption)
        exact turn_end (by assumption) (by assumption) rest (fun p hp => by simp only [List.mem_cons] at hp ⊢; exact .inr hp) (fun p hp => hoff p hp) (due_mk ⟨S.stage, S.status, S.size + z, S.fl⟩ _ _ _ _ sv tv _ _ (run_drop_ok hrun hei (if_pos h1)) (hok.more h1 hz2 hz3) hsv htv (over_end2 _ (by repeat (first | exact agr_nil | refine agr_cons rfl ?_)) (fun z hz => by (repeat (first | with_reducible exact rfl | with_reducible exact over_nil | refine (if_neg (by first | with_reducible exact off1 hz | with_reducible exact off1 (off2 hz) | with_reducible exact off1 (off2 (off2 hz)) | with_reducible exact off1 (off2 (off2 (off2 hz))) | with_reducible exact off1 (off2 (off2 (off2 (off2 hz)))) | with_reducible exact off1 (off2 (off2 (off2 (off2 (off2 hz))))) | with_reducible exact off1 (off2 (off2 (off2 (off2 (off2 (off2 hz)))))) | with_reducible exact off1 (off2 (off2 (off2 (off2 (off2 (off2 (off2 hz))))))) | with_reducible exact off1 (off2 (off2 (off2 (off2 (off2 (off2 (off2 (off2 hz)))))))) | with_reducible exact off1 (off2 (off2 (off2 (off2 (off2 (off2 (off2 (off2 (off2 hz))))))))))).trans ?_)) <;> exact rfl)))
    | heads f tl fa t nt kt t0 vs0 k1 nt1 tn1 tx1 hei hmt hf wf hsm hm1 hm2 =>
      replace N := News.with1 (News.with1 (News.with1 N (.tail _ hmt)) (.tail _ (.tail _ hm1))) (.tail _ (.tail _ (.tail _ hm2)))
      generalize hn9 : stI S.stage = n9 at F
      have hg8 := st_get hn9 hok.le
      clear hn9
      cases hg8 with
      | two h2 =>
        k_steps
        · exact hno9 rfl _ _ (by assumption) (by assumption)
        · exact hyes9 (big_yes (by assumption)) _ _ _ (by assumption) (by assumption)
        · exact hno9 (big_some (by assumption)) _ _ (by assumption) (by assumption)
        · exact hret _ _ _ _ (by rw [run_drop_err hrun hei (show step limit S (.heads (f :: tl)) = .error (.code 261) from hs_late h2 hb9)]; exact ⟨⟨_, rfl⟩, rfl⟩) (by assumption) (News.cut (by assumption) (by intro p hp; repeat (first | exact hp | apply List.mem_cons_of_mem)))
        · exact hret _ _ _ _ (by rw [run_drop_err hrun hei (show step limit S (.heads (f :: tl)) = .error .great from hs_big hb9)]; exact ⟨⟨_, rfl⟩, rfl⟩) (by assumption) (News.cut (by assumption) (by intro p hp; repeat (first | exact hp | apply List.mem_cons_of_mem)))
      | one h2 =>
        k_steps
        · exact hno9 rfl _ _ (by assumption) (by assumption)
        · exact hyes9 (big_yes (by assumption)) _ _ _ (by assumption) (by assumption)
        · exact hno9 (big_some (by assumption)) _ _ (by assumption) (by assumption)
        · exact hret _ _ _ _ (by rw [run_drop_err hrun hei (show step limit S (.heads (f :: tl)) = .error (.code 270) from hs_col h2 hb9 ‹(f.1.toList == (#[58, 115, 116, 97, 116, 117, 115] : Array UInt8).toList) = true›)]; exact ⟨⟨_, rfl⟩, rfl⟩) (by assumption) (News.cut (by assumption) (by intro p hp; repeat (first | exact hp | apply List.mem_cons_of_mem)))
        · exact turn_end (by assumption) (by assumption) rest (by intro p hp; repeat (first | exact hp | apply List.mem_cons_of_mem)) (fun p hp => hoff p hp) (due_mk ⟨2, S.status, S.size, S.fl⟩ _ _ _ _ sv tv _ _ (run_drop_ok hrun hei (show step limit S (.heads (f :: tl)) = .ok _ from hs_trail h2 hb9 ‹(f.1.toList == (#[58, 115, 116, 97, 116, 117, 115] : Array UInt8).toList) = false›)) (hok.trail h2) hsv htv (over_end2 _ (by repeat (first | exact agr_nil | refine agr_cons rfl ?_)) (fun z hz => by (repeat (first | with_reducible exact rfl | with_reducible exact over_nil | refine (if_neg (by first | with_reducible exact off1 hz | with_reducible exact off1 (off2 hz) | with_reducible exact off1 (off2 (off2 hz)) | with_reducible exact off1 (off2 (off2 (off2 hz))) | with_reducible exact off1 (off2 (off2 (off2 (off2 hz)))) | with_reducible exact off1 (off2 (off2 (off2 (off2 (off2 hz))))) | with_reducible exact off1 (off2 (off2 (off2 (off2 (off2 (off2 hz)))))) | with_reducible exact off1 (off2 (off2 (off2 (off2 (off2 (off2 (off2 hz))))))) | with_reducible exact off1 (off2 (off2 (off2 (off2 (off2 (off2 (off2 (off2 hz)))))))) | with_reducible exact off1 (off2 (off2 (off2 (off2 (off2 (off2 (off2 (off2 (off2 hz))))))))))).trans ?_)) <;> exact rfl)))
        · exact hret _ _ _ _ (by rw [run_drop_err hrun hei (show step limit S (.heads (f :: tl)) = .error .great from hs_big hb9)]; exact ⟨⟨_, rfl⟩, rfl⟩) (by assumption) (News.cut (by assumption) (by intro p hp; repeat (first | exact hp | apply List.mem_cons_of_mem)))
      | zero h2 =>
        k_steps
        · exact hno9 rfl _ _ (by assumption) (by assumption)
        · exact hyes9 (big_yes (by assumption)) _ _ _ (by assumption) (by assumption)
        · exact hno9 (big_some (by assumption)) _ _ (by assumption) (by assumption)
        · exact hret _ _ _ _ (by rw [run_drop_err hrun hei (show step limit S (.heads (f :: tl)) = .error (.code 270) from hs_dueNone h2 hb9 (by assumption))]; exact ⟨⟨_, rfl⟩, rfl⟩) (by assumption) (News.cut (by assumption) (by intro p hp; repeat (first | exact hp | apply List.mem_cons_of_mem)))
        · exact turn_end (by assumption) (by assumption) rest (by intro p hp; repeat (first | exact hp | apply List.mem_cons_of_mem)) (fun p hp => hoff p hp) (due_mk ⟨1, some _, S.size, f :: tl⟩ _ _ _ _ _ _ _ _ (run_drop_ok hrun hei (show step limit S (.heads (f :: tl)) = .ok _ from hs_dueHead h2 hb9 (by assumption) (by assumption))) (hok.head1 wf (due_stat (by assumption)) (by assumption) (by assumption)) ⟨_, rfl⟩ (clen_nil (by assumption)) (over_end2 _ (by repeat (first | exact agr_nil | refine agr_cons rfl ?_)) (fun z hz => by (repeat (first | with_reducible exact rfl | with_reducible exact over_nil | refine (if_neg (by first | with_reducible exact off1 hz | with_reducible exact off1 (off2 hz) | with_reducible exact off1 (off2 (off2 hz)) | with_reducible exact off1 (off2 (off2 (off2 hz))) | with_reducible exact off1 (off2 (off2 (off2 (off2 hz)))) | with_reducible exact off1 (off2 (off2 (off2 (off2 (off2 hz))))) | with_reducible exact off1 (off2 (off2 (off2 (off2 (off2 (off2 hz)))))) | with_reducible exact off1 (off2 (off2 (off2 (off2 (off2 (off2 (off2 hz))))))) | with_reducible exact off1 (off2 (off2 (off2 (off2 (off2 (off2 (off2 (off2 hz)))))))) | with_reducible exact off1 (off2 (off2 (off2 (off2 (off2 (off2 (off2 (off2 (off2 hz))))))))))).trans ?_)) <;> exact rfl)))
        · exact turn_end (by assumption) (by assumption) rest (by intro p hp; repeat (first | exact hp | apply List.mem_cons_of_mem)) (fun p hp => hoff p hp) (due_mk ⟨1, some _, S.size, f :: tl⟩ _ _ _ _ _ _ _ _ (run_drop_ok hrun hei (show step limit S (.heads (f :: tl)) = .ok _ from hs_dueHead h2 hb9 (by assumption) (by assumption))) (hok.head1 wf (due_stat (by assumption)) (by assumption) (by assumption)) ⟨_, rfl⟩ (clen_b (by assumption) (by assumption)) (over_end2 _ (by repeat (first | exact agr_nil | refine agr_cons rfl ?_)) (fun z hz => by (repeat (first | with_reducible exact rfl | with_reducible exact over_nil | refine (if_neg (by first | with_reducible exact off1 hz | with_reducible exact off1 (off2 hz) | with_reducible exact off1 (off2 (off2 hz)) | with_reducible exact off1 (off2 (off2 (off2 hz))) | with_reducible exact off1 (off2 (off2 (off2 (off2 hz)))) | with_reducible exact off1 (off2 (off2 (off2 (off2 (off2 hz))))) | with_reducible exact off1 (off2 (off2 (off2 (off2 (off2 (off2 hz)))))) | with_reducible exact off1 (off2 (off2 (off2 (off2 (off2 (off2 (off2 hz))))))) | with_reducible exact off1 (off2 (off2 (off2 (off2 (off2 (off2 (off2 (off2 hz)))))))) | with_reducible exact off1 (off2 (off2 (off2 (off2 (off2 (off2 (off2 (off2 (off2 hz))))))))))).trans ?_)) <;> exact rfl)))
        · exact turn_end (by assumption) (by assumption) rest (by intro p hp; repeat (first | exact hp | apply List.mem_cons_of_mem)) (fun p hp => hoff p hp) (due_mk S _ _ _ _ sv tv _ _ (run_drop_ok hrun hei (show step limit S (.heads (f :: tl)) = .ok _ from hs_dueInter h2 hb9 (by assumption) (by assumption))) hok.same hsv htv (by rw [show stI S.stage = 0 by rw [h2]; rfl]; exact (over_end2 _ (by repeat (first | exact agr_nil | refine agr_cons rfl ?_)) (fun z hz => by (repeat (first | with_reducible exact rfl | with_reducible exact over_nil | refine (if_neg (by first | with_reducible exact off1 hz | with_reducible exact off1 (off2 hz) | with_reducible exact off1 (off2 (off2 hz)) | with_reducible exact off1 (off2 (off2 (off2 hz))) | with_reducible exact off1 (off2 (off2 (off2 (off2 hz)))) | with_reducible exact off1 (off2 (off2 (off2 (off2 (off2 hz))))) | with_reducible exact off1 (off2 (off2 (off2 (off2 (off2 (off2 hz)))))) | with_reducible exact off1 (off2 (off2 (off2 (off2 (off2 (off2 (off2 hz))))))) | with_reducible exact off1 (off2 (off2 (off2 (off2 (off2 (off2 (off2 (off2 hz)))))))) | with_reducible exact off1 (off2 (off2 (off2 (off2 (off2 (off2 (off2 (off2 (off2 hz))))))))))).trans ?_)) <;> exact rfl))))
        · exact hret _ _ _ _ (by rw [run_drop_err hrun hei (show step limit S (.heads (f :: tl)) = .error .great from hs_big hb9)]; exact ⟨⟨_, rfl⟩, rfl⟩) (by assumption) (News.cut (by assumption) (by intro p hp; repeat (first | exact hp | apply List.mem_cons_of_mem)))
  case done =>
    intro h tk m n hI9 F N
    cases hI9 with | mk S kv hvv fv lgv sv tv zt gt hrun hok hsv htv =>
    have hz0 : 0 ≤ S.size := hok.size0
    have hz1 : S.size ≤ 40 := by have := hok.size1; rw [hp.length] at this; omega
    rw [List.drop_eq_nil_of_le (by rw [hp.length]; exact Nat.le_refl _)] at hrun
    replace hrun : R = fin me S := hrun
    obtain hs | hs : stI S.stage = 0 ∨ stI S.stage ≠ 0 := by omega
    · rw [hs] at F
      k_steps
      exact hret _ _ _ _ (by rw [hrun, fin_0 (stI_zero hs)]; exact ⟨⟨_, rfl⟩, rfl⟩) (by assumption) (News.cut (by assumption) (by intro p hp; repeat (first | exact hp | apply List.mem_cons_of_mem)))
    · have hst : S.stage ≠ 0 := fun e => hs (by rw [e]; rfl)
      obtain ⟨wf, k, hk1, hk2, hk3, hk4⟩ := hok.head hst
      rw [hk1] at hsv
      obtain ⟨st, rfl⟩ := hsv
      rcases hm with rfl | rfl
      · cases hc : clenOf S.fl with
        | none =>
          rw [hc] at htv
          have htv' : tv = .none := htv
          subst htv'
          unfold getB at F
          k_steps
          · exact absurd (by assumption) hs
          · exact hret _ ((_, tupo [.int k _, .int S.size _]) :: rest) _ _ (by rw [hrun, fin_ok hst hk1 (lo_bare (bareG_t (by assumption)) (by assumption))]; exact ⟨_, _, _, rfl, rfl, by first | exact fun q hq => Nat.ne_of_lt ((by assumption : ∀ (p : Addr × Obj), p ∈ rest → p.1 < _) q hq) | exact fun q hq => Nat.ne_of_lt (allLt_mem (‹_ ∧ AllLt _ rest›).2 q hq)⟩) (by assumption) (News.cut (by assumption) (by intro p hp; rcases List.mem_cons.mp hp with rfl | hp; exact List.mem_cons_self; repeat (first | exact hp | apply List.mem_cons_of_mem)))
          · exact hret _ _ _ _ (by rw [hrun, fin_bad hst hk1 (lo_bare_not (bareG_t (by assumption)) (by assumption))]; exact ⟨⟨_, rfl⟩, rfl⟩) (by assumption) (News.cut (by assumption) (by intro p hp; repeat (first | exact hp | apply List.mem_cons_of_mem)))
          · exact hret _ ((_, tupo [.int k _, .int S.size _]) :: rest) _ _ (by rw [hrun, fin_ok hst hk1 (lo_none (bareG_f (by assumption)) hc)]; exact ⟨_, _, _, rfl, rfl, by first | exact fun q hq => Nat.ne_of_lt ((by assumption : ∀ (p : Addr × Obj), p ∈ rest → p.1 < _) q hq) | exact fun q hq => Nat.ne_of_lt (allLt_mem (‹_ ∧ AllLt _ rest›).2 q hq)⟩) (by assumption) (News.cut (by assumption) (by intro p hp; rcases List.mem_cons.mp hp with rfl | hp; exact List.mem_cons_self; repeat (first | exact hp | apply List.mem_cons_of_mem)))
        | some cn =>
          rw [hc] at htv
          obtain ⟨ct, rfl⟩ := htv
          unfold getB at F
          k_steps
          · exact absurd (by assumption) hs
          · exact hret _ ((_, tupo [.int k _, .int S.size _]) :: rest) _ _ (by rw [hrun, fin_ok hst hk1 (lo_bare (bareG_t (by assumption)) (by assumption))]; exact ⟨_, _, _, rfl, rfl, by first | exact fun q hq => Nat.ne_of_lt ((by assumption : ∀ (p : Addr × Obj), p ∈ rest → p.1 < _) q hq) | exact fun q hq => Nat.ne_of_lt (allLt_mem (‹_ ∧ AllLt _ rest›).2 q hq)⟩) (by assumption) (News.cut (by assumption) (by intro p hp; rcases List.mem_cons.mp hp with rfl | hp; exact List.mem_cons_self; repeat (first | exact hp | apply List.mem_cons_of_mem)))
          · exact hret _ _ _ _ (by rw [hrun, fin_bad hst hk1 (lo_bare_not (bareG_t (by assumption)) (by assumption))]; exact ⟨⟨_, rfl⟩, rfl⟩) (by assumption) (News.cut (by assumption) (by intro p hp; repeat (first | exact hp | apply List.mem_cons_of_mem)))
          · exact hret _ ((_, tupo [.int k _, .int S.size _]) :: rest) _ _ (by rw [hrun, fin_ok hst hk1 (lo_some (bareG_f (by assumption)) hc (by assumption))]; exact ⟨_, _, _, rfl, rfl, by first | exact fun q hq => Nat.ne_of_lt ((by assumption : ∀ (p : Addr × Obj), p ∈ rest → p.1 < _) q hq) | exact fun q hq => Nat.ne_of_lt (allLt_mem (‹_ ∧ AllLt _ rest›).2 q hq)⟩) (by assumption) (News.cut (by assumption) (by intro p hp; rcases List.mem_cons.mp hp with rfl | hp; exact List.mem_cons_self; repeat (first | exact hp | apply List.mem_cons_of_mem)))
          · exact hret _ _ _ _ (by rw [hrun, fin_bad hst hk1 (lo_some_not (bareG_f (by assumption)) hc (by assumption))]; exact ⟨⟨_, rfl⟩, rfl⟩) (by assumption) (News.cut (by assumption) (by intro p hp; repeat (first | exact hp | apply List.mem_cons_of_mem)))
      · unfold headB at F
        k_steps
        · exact absurd (by assumption) hs
        · exact hret _ ((_, tupo [.int k _, .int S.size _]) :: rest) _ _ (by rw [hrun, fin_ok hst hk1 (lo_bare rfl (by assumption))]; exact ⟨_, _, _, rfl, rfl, by first | exact fun q hq => Nat.ne_of_lt ((by assumption : ∀ (p : Addr × Obj), p ∈ rest → p.1 < _) q hq) | exact fun q hq => Nat.ne_of_lt (allLt_mem (‹_ ∧ AllLt _ rest›).2 q hq)⟩) (by assumption) (News.cut (by assumption) (by intro p hp; rcases List.mem_cons.mp hp with rfl | hp; exact List.mem_cons_self; repeat (first | exact hp | apply List.mem_cons_of_mem)))
        · exact hret _ _ _ _ (by rw [hrun, fin_bad hst hk1 (lo_bare_not rfl (by assumption))]; exact ⟨⟨_, rfl⟩, rfl⟩) (by assumption) (News.cut (by assumption) (by intro p hp; repeat (first | exact hp | apply List.mem_cons_of_mem)))

/-- a contract of a def that catches: its caller is the outermost frame -/
def DoesL (w : World) (mean : ExcName → Option Value) (mg mb : Str → Option Value) (f : Addr) (k : Nat) (args : List Value) (news : Led) (Post : Value → Led → Prop) : Prop :=
  ∀ (dp un : Nat) (gd : Option (List Code)) (cn : Str) (cs : Scope) (a : Addr) (ccd : Value) (A₀ : Around) (h₀ : Heap) (L : Addr) (m : Str → Option Value) (s : Shared) (Q E : Value → Shared → Prop),
    Below A₀ h₀ [] h₀ → Fr h₀ L s.heap m → (hd.heap_39 w.params).In h₀ → News h₀ L s.heap news → Top hd.view_39 (looseW hd.view_39 []) mean mg mb h₀ → cs.kind = .function →
    dp + k < recursionLimit → un + 8 * k + 80 < cLine →
    (∀ v news' h' tk', Post v news' → Fr h₀ L h' m → News h₀ L h' news' → Q v { s with heap := h', toks := tk' }) →
    wpAny (model PySem.Challenge.rw_nz0351_01.row.prog w) (ktrTop dp un gd cn cs L a ccd [] []) (call (.ref f) args) Q E s
def ExcTo (R : Res) (rest : Led) (base : Heap) (l : List Env) (g : Heap) (L : Addr) (s : Shared) (E : Value → Shared → Prop) : Prop :=
  ∀ e c G h2 tk2 m2, R = .code c → Fr g L G m2 → Fly base G l e c rest h2 → G.UpToSlots h2 → E (.ref e) { s with heap := h2, toks := tk2 }
section
variable {prog : Program} {w : World} {M : Model} {A : Around} {E : Value → Shared → Prop} {s : Shared} {env : Env} {h₀ base : Heap} {target : Expr} {body : List Stmt} {Q : Flow → Shared → Prop} {x : Value} {outer : List Env}
theorem exc_turns (R : Res) (rest : Led) (h : ExcTo R rest base (env :: outer) h₀ env.locals s E)
    (k : ExcTo R rest base (env :: outer) h₀ env.locals s E → ∀ E', ExcTo R rest base (env :: outer) h₀ env.locals s E' → wpAny (model prog w) A (pyIter x) (fun it s₂ => TurnsAt prog w A h₀ env target body Q E' it s₂) E' s) :
    wpAny (model prog w) A (pyIter x) (fun it s₂ => TurnsAt prog w A h₀ env target body Q E it s₂) E s := k h E h
end
example : True := by (k_with "getAttr ref" => (k_here; (with_reducible show wpAny _ _ (getAttr (Value.ref _) (Str.ofString "code") _) _ _ _); k_dflt (refine get_code (h3_at (by k_asm)) (by k_asm) (by k_asm) (by k_mem) (by k_mem) (by assumption) (by rfl) (by rfl) ?_))); trivial
example : True := by (k_with "call ref" => (k_here; (with_reducible show wpAny _ _ (call (Value.ref 141) _) _ _ _); k_dflt (refine' dz1 (end_ok ?zzq) (u_eq) ?_; (case zzq => first | assumption | exact .inl rfl | exact .inr rfl)); (intro  h' tk' F' N'; (skip); (try k_sweep)))); trivial
example : True := by (k_with "call ref" => (k_here; (with_reducible show wpAny _ _ (call (Value.ref 141) _) _ _ _); k_dflt (refine' dzXn (end_bad) ?_; (skip)); intro e' c' g' h' tk' hXc' FG' R' U'; (try dsimp only))); trivial
example : True := by (k_with "call ref" => (k_here; (with_reducible show wpAny _ _ (call (Value.ref 120) _) _ _ _); k_dflt (refine' dzXn (take_settings ?zzqr ?zzqd ?zzqf) ?_; ((case zzqr => k_mem); (case zzqd => k_mem); (case zzqf => k_mem))); intro e' c' g' h' tk' hXc' FG' R' U'; (try dsimp only))); trivial
example : True := by (k_with "call ref" => (k_here; (with_reducible show wpAny _ _ (call (Value.ref 120) _) _ _ _); k_dflt (refine' dz1 (take_unknown ?zzqr ?zzqd ?zzqf) (u_ex) ?_; ((case zzqr => k_mem); (case zzqd => k_mem); (case zzqf => k_mem))); (intro ot' h' tk' F' N'; (skip); (try k_sweep)))); trivial
example : True := by (k_with "call ref" => (k_here; (with_reducible show wpAny _ _ (call (Value.ref 120) _) _ _ _); k_dflt (refine' dz1 (take_data_ok ?zzqr ?zzqd ?zzqf) (u_ex) ?_; ((case zzqr => k_mem); (case zzqd => k_mem); (case zzqf => k_mem))); (intro ot' h' tk' F' N'; (skip); (try k_sweep)))); trivial
example : True := by (k_with "call ref" => (k_here; (with_reducible show wpAny _ _ (call (Value.ref 120) _) _ _ _); k_dflt (refine' dzXn (take_data_bad ?zzqs ?zzqr ?zzqd ?zzqf) ?_; ((case zzqr => k_mem); (case zzqd => k_mem); (case zzqf => k_mem); (case zzqs => first | assumption | exact .inl rfl | exact .inr rfl))); intro e' c' g' h' tk' hXc' FG' R' U'; (try dsimp only))); trivial
theorem hs_ok_stat {S : St} {fl : List Fld} {limit : Option Int} {k z : Int} (hS : S.stage = 0) (wf : WF fl) (h : headStep limit S fl = .ok ⟨1, some k, z, fl⟩) : statOf fl = some k ∧ 100 ≤ k ∧ k ≤ 404 := by
  cases hb : tooBig limit fl with
  | true => rw [hs_big hb] at h; cases h
  | false =>
    cases hd : dueStat fl with
    | none => rw [hs_dueNone hS hb hd] at h; cases h
    | some n =>
      by_cases h2 : 200 ≤ n
      · rw [hs_dueHead hS hb hd h2] at h
        cases h
        refine ⟨due_stat hd, ?_⟩
        have hs := due_stat hd
        cases wf with
        | stat st tl hst hp hv =>
          rcases hst with hst | rfl
          · rw [statOf_stat hst] at hs
            cases hs
            exact ⟨(statC_good st hst).2.2.2.1, (statC_good st hst).2.2.2.2⟩
          · rw [statOf_bad] at hs; cases hs
        | plain _ hp hne hpv => rw [statOf_plain hp] at hs; cases hs
      · rw [hs_dueInter hS hb hd h2] at h
        cases h
        cases hS
theorem stg_n0 {S : St} (h : S.stage ≠ 0) (h2 : S.stage ≤ 2) : stg S.stage = "body" ∨ stg S.stage = "trailer" := by
  obtain h0 | h0 : S.stage = 1 ∨ S.stage = 2 := by omega
  · rw [h0]; exact .inl rfl
  · rw [h0]; exact .inr rfl
theorem code_bad {R : Res} {me : Array UInt8} {S : St} {k c : Int} (hrun : R = fin me S) (h0 : S.stage ≠ 0) (hk : S.status = some k) (h : c = 270 ∧ lenOk (clenOf S.fl) S.size (isBare me k) = false) : R = .code c := by rw [hrun, fin_bad h0 hk h.2, h.1]
theorem code_is {R : Res} {c k : Int} (h : R = .code k) (hc : c = k) : R = .code c := by rw [h, hc]
theorem stg0 {S : St} (h : S.stage = 0) : stg S.stage = "head" := by rw [h]; rfl
theorem stg1 {S : St} (h : S.stage = 1) : stg S.stage = "body" := by rw [h]; rfl
theorem stg2 {S : St} (h : S.stage = 2) : stg S.stage = "trailer" := by rw [h]; rfl
theorem stg_ne {S : St} (h : S.stage ≠ 1) (h2 : S.stage ≤ 2) : stg S.stage = "head" ∨ stg S.stage = "trailer" := by
  obtain h0 | h0 : S.stage = 0 ∨ S.stage = 2 := by omega
  · exact .inl (stg0 h0)
  · exact .inr (stg2 h0)
example : True := by (k_with "call ref" => (k_here; (with_reducible show wpAny _ _ (call (Value.ref 285) _) _ _ _); k_dflt (refine' dzY1 (heads2 ?zzqS ?zzql ?zzq1 ?zzq2 ?zzq3 ?zzq4 ?zzq5 ?zzqf ?zzqw ?zzqm) (u_h2) ?_ ?_; ((case zzqS => assumption); (case zzql => assumption); (case zzq1 => k_ne); (case zzq2 => k_ne); (case zzq3 => k_ne); (case zzq4 => k_all); (case zzq5 => k_all); (case zzqf => (first | assumption | (refine FieldsAt.mono ?_ (by assumption); intro p hp; repeat (first | exact hp | apply List.mem_cons_of_mem)))); (case zzqw => assumption); (case zzqm => assumption))); (intro ot' hh' h' tk' F' N'; (skip); (try k_sweep)); rotate_left; (intro e' c' g' h' tk' hXc' FG' R' U'; (try dsimp only)); rotate_left)); trivial
example : True := by (k_with "call ref" => (k_here; (with_reducible show wpAny _ _ (call (Value.ref 285) _) _ _ _); k_dflt (refine' dzY2 (heads1 ?zzqS ?zzql ?zzq1 ?zzq2 ?zzq3 ?zzq4 ?zzq5 ?zzqf ?zzqw ?zzqm) (u_h1) ?_ ?_ ?_; ((case zzqS => assumption); (case zzql => assumption); (case zzq1 => k_ne); (case zzq2 => k_ne); (case zzq3 => k_ne); (case zzq4 => k_all); (case zzq5 => k_all); (case zzqf => (first | assumption | (refine FieldsAt.mono ?_ (by assumption); intro p hp; repeat (first | exact hp | apply List.mem_cons_of_mem)))); (case zzqw => assumption); (case zzqm => assumption))); (intro ot' hh' h' tk' F' N'; (skip); (try k_sweep)); rotate_left; (intro hts' hh' h' tk' F' N'; (skip); (try k_sweep)); rotate_left; (intro e' c' g' h' tk' hXc' FG' R' U'; (try dsimp only)); rotate_left)); trivial
example : True := by (k_with "call ref" => (k_here; (with_reducible show wpAny _ _ (call (Value.ref 285) _) _ _ _); k_dflt (refine' dzY3 (heads0 ?zzqS ?zzql ?zzq1 ?zzq2 ?zzq3 ?zzq4 ?zzq5 ?zzq6 ?zzqf ?zzqw ?zzqm ?zzqo) (u_h0) ?_ ?_ ?_ ?_; ((case zzqS => assumption); (case zzql => assumption); (case zzq1 => k_ne); (case zzq2 => k_ne); (case zzq3 => k_ne); (case zzq4 => k_all); (case zzq5 => k_all); (case zzq6 => assumption); (case zzqf => (first | assumption | (refine FieldsAt.mono ?_ (by assumption); intro p hp; repeat (first | exact hp | apply List.mem_cons_of_mem)))); (case zzqw => assumption); (case zzqm => assumption); (case zzqo => assumption))); (intro ot' hh' h' tk' F' N'; (skip); (try k_sweep)); rotate_left; (intro hh' h' tk' F' N'; (skip); (try k_sweep)); rotate_left; (intro hk' hts' hso' ht' hh' hsd' h' tk' F' N'; (skip); (try k_sweep)); rotate_left; (intro e' c' g' h' tk' hXc' FG' R' U'; (try dsimp only)); rotate_left)); trivial
variable {w : World} {mean : ExcName → Option Value} {mg mb : Str → Option Value} {rest news : Led}
inductive PlayInv (w : World) (rest : Led) (r d sd : Addr) (limit : Option Int) (me : Array UInt8) (evs : List Ev) (R : Res) (m₀ : Str → Option Value) (i : Nat) : (Str → Option Value) → Led → Prop
  | mk (S : St) (ka kb kc ts : Tok) (so : Obj) (v1 : Value) (zt : Tok) (v3 : Value) (kv hv : Option Value) : R = run limit me (evs.drop i) S → StOk S i → sdict w v1 (.int S.size zt) v3 so → (S.stage ≠ 0 → ∃ k t fa, S.status = some k ∧ v1 = .int k t ∧ v3 = .ref fa ∧ FieldsAt rest S.fl fa) → PlayInv w rest r d sd limit me evs R m₀ i (over [("kind", kv), ("held", hv)] m₀) ((r, instObj 144 d) :: (d, rulesD w ka kb kc (.str (stg S.stage) ts)) :: (sd, so) :: rest)
theorem play_mk {r d sd : Addr} {limit : Option Int} {me : Array UInt8} {evs : List Ev} {R : Res} {m₀ m : Str → Option Value} {i : Nat} {n : Led} (S : St) (ka kb kc ts : Tok) (so : Obj) (v1 : Value) (zt : Tok) (v3 : Value) (kv hv : Option Value) (h1 : R = run limit me (evs.drop i) S) (h2 : StOk S i)
    (hn : n = ((r, instObj 144 d) :: (d, rulesD w ka kb kc (.str (stg S.stage) ts)) :: (sd, so) :: rest)) (h3 : sdict w v1 (.int S.size zt) v3 so) (h4 : (S.stage ≠ 0 → ∃ k t fa, S.status = some k ∧ v1 = .int k t ∧ v3 = .ref fa ∧ FieldsAt rest S.fl fa)) (h : m = over [("kind", kv), ("held", hv)] m₀) : PlayInv w rest r d sd limit me evs R m₀ i m n := by rw [h, hn]; exact .mk S ka kb kc ts so v1 zt v3 kv hv h1 h2 h3 h4
inductive StgGet (n : Nat) : Str → Prop
  | zero : n = 0 → StgGet n "head"
  | one : n = 1 → StgGet n "body"
  | two : n = 2 → StgGet n "trailer"
theorem stg_get {n : Nat} {g : Str} (hg : stg n = g) (hle : n ≤ 2) : StgGet n g := by
  subst hg
  match n, hle with
  | 0, _ => exact .zero rfl
  | 1, _ => exact .one rfl
  | 2, _ => exact .two rfl
theorem played_walk {ev : Addr} {lv : Value} {limit : Option Int} {me : Array UInt8} {mt : Tok} {evs : List Ev} (hev : EventsAt rest evs ev) (hl : LimV limit lv) (hm : me = getB ∨ me = headB) :
    DoesL w mean mg mb 292 22 [.ref ev, lv, .bytes me mt] rest (ResV rest (run limit me evs S₀)) := by
  obtain ⟨its, k0, hmm, hp, hz⟩ := hev
  have hlen : evs.length ≤ 8 := by rw [← hp.length]; simpa using hz
  generalize hR : run limit me evs S₀ = R
  unfold DoesL
  k_fill
  intro dp un gd cn cs a ccd A₀ h₀ L m s Q E B F X N T hk hdp hu hret
  refine wpAny_call ?_
  k_dflt (refine' code_defS0 ?k1 ?k2 ?k3 ?k4 ?k5 ?kA ?k6 ?k7 ?k8 ?k9 ?kB ?_ ?cK ?c2 ?c3 ?c4 ?c5; (case kA => exact rfl); (case k2 => k_asm); (case k1 => k_asm); (case k3 => k_asm); (case k4 => k_asm); (case k5 => k_asm); (case k6 => k_is); (case k7 => k_is); (case k8 => ktr_room); (case k9 => exact BindsTo.of_eq rfl); (case kB => exact locs rfl); (case cK => assumption); (case c2 => exact rfl); (case c3 => exact rfl); (case c4 => exact rfl); (case c5 => decide); k_whole; intro g' L' h' FG' F' N' B' X' T' D'; (try dsimp only); (try k_lift B'); (try k_fold))
  k_steps
  rename_i n20 n19 n18 n17 n16 n15 n14 n13 n12 n11 n10 n9 n8 n7 n6 n5 n4 n3 n1
  have hrd : @Ne Nat x9 d9 := Nat.ne_of_gt l29
  have hrs : @Ne Nat x9 n20 := Nat.ne_of_lt n15.1
  have hds : @Ne Nat d9 n20 := Nat.ne_of_lt n15.2.1
  have hne1 : ∀ p ∈ rest, p.1 ≠ d9 := fun p hp => Nat.ne_of_lt (l19 p hp)
  have hne2 : ∀ p ∈ rest, p.1 ≠ n20 := fun p hp => Nat.ne_of_lt (allLt_mem n15.2.2 p hp)
  refine exc_turns (base := h₀) (outer := [envX cn cs L a ccd []]) R rest ?hE ?k
  case hE =>
    intro e9 c9 G9 h9 tk9 m9 hR9 F9 R9 U9
    dsimp only
    refine caught_F R9 F9 B' U9 X T D' KtsTurn.refl (by k_is) ?_
    intro h8 g8 d8 od8 tc8 x8 tx8 t8 T8 tk8 KT8 F8 ho8 N8 B8 X8 P8 D8
    k_steps
    exact hret _ rest _ _ (by rw [hR9]; exact ⟨⟨_, rfl⟩, rfl⟩) (by assumption) (News.cut (by assumption) (by intro p hp; repeat (first | exact hp | apply List.mem_cons_of_mem)))
  case k =>
    intro hE E9 hE9
    obtain ⟨ka, kb, kc, ts, N1⟩ : ∃ ka kb kc ts, News g' L' n3 ((x9, instObj 144 d9) :: (d9, rulesD w ka kb kc (.str "head" ts)) :: (n20, n10) :: rest) :=
      ⟨_, _, _, _, News.cut n1 (by intro p hp; simp only [List.mem_cons] at hp ⊢; rcases hp with h | h | h | h; exact .inr (.inr (.inr (.inl h))); exact .inr (.inr (.inr (.inr (.inl h)))); exact .inr (.inr (.inl h)); exact .inr (.inr (.inr (.inr (.inr h)))))⟩
    refine iter_inv (PlayInv w rest x9 d9 n20 limit me evs R) rfl lF' N1 (.tail _ (.tail _ (.tail _ hmm)))
      (play_mk S₀ ka kb kc ts n10 _ _ _ _ _ hR.symm StOk.init rfl n9 (fun h => absurd rfl h) (over_self2 _ (by repeat (first | exact agr_nil | refine agr_cons rfl ?_)))) (fun i m n h => by cases h; exact .tail _ (.tail _ (.tail _ hmm))) ?step ?done
    case step =>
      intro i v I oI h tk m n hv hI9 hoff F N
      cases hI9 with | mk S ka kb kc ts so v1 zt v3 kv hvv hrun hok hso hfa =>
      have hi : i < its.toList.length := (List.getElem?_eq_some_iff.mp hv).1
      rw [hp.length] at hi
      have hI1 : @Ne Nat I d9 := fun q => hoff _ (.tail _ (.head _)) q.symm
      have hI2 : @Ne Nat I n20 := fun q => hoff _ (.tail _ (.tail _ (.head _))) q.symm
      have hI0 : @Ne Nat I x9 := fun q => hoff _ (.head _) q.symm
      have hz0 : 0 ≤ S.size := hok.size0
      have hz1 : S.size ≤ 40 := by have := hok.size1; omega
      have hg9 := ev_get hp hv
      clear hv
      cases hg9 with
      | settings z t nt kt zt9 hei hmt =>
        have ht1 : @Ne Nat t d9 := hne1 _ hmt
        have ht2 : @Ne Nat t n20 := hne2 _ hmt
        replace N : News _ _ _ ((x9, instObj 144 d9) :: (d9, rulesD w ka kb kc (.str (stg S.stage) ts)) :: (n20, so) :: (I, oI) :: (t, ({ cls := .type "tuple", data := .seq #[.str "settings" kt, .int z zt9] nt } : Obj)) :: rest) := News.cut (News.with1 N (.tail _ (.tail _ (.tail _ (.tail _ hmt))))) (sub_cons (by k_mem) (sub_cons (by k_mem) (sub_cons (by k_mem) (sub_cons (by k_mem) (sub_cons (by k_mem) fun p hp => .tail _ (.tail _ (.tail _ (.tail _ (.tail _ hp)))))))))
        k_steps
        exact hE9 _ _ _ _ _ _ (code_is (run_drop_err hrun hei rfl) (by assumption)) (by assumption) (Fly.mono (by assumption) (by intro p hp; repeat (first | exact hp | apply List.mem_cons_of_mem))) (by assumption)
      | other z t nt kt zt9 hei hmt =>
        have ht1 : @Ne Nat t d9 := hne1 _ hmt
        have ht2 : @Ne Nat t n20 := hne2 _ hmt
        replace N : News _ _ _ ((x9, instObj 144 d9) :: (d9, rulesD w ka kb kc (.str (stg S.stage) ts)) :: (n20, so) :: (I, oI) :: (t, ({ cls := .type "tuple", data := .seq #[.str "other" kt, .int z zt9] nt } : Obj)) :: rest) := News.cut (News.with1 N (.tail _ (.tail _ (.tail _ (.tail _ hmt))))) (sub_cons (by k_mem) (sub_cons (by k_mem) (sub_cons (by k_mem) (sub_cons (by k_mem) (sub_cons (by k_mem) fun p hp => .tail _ (.tail _ (.tail _ (.tail _ (.tail _ hp)))))))))
        k_steps
        exact turn_end (by assumption) (by assumption) ((x9, instObj 144 d9) :: (d9, _) :: (n20, so) :: rest) (sub_cons (by k_mem) (sub_cons (by k_mem) (sub_cons (by k_mem) (sub_cons (by k_mem) (by intro p hp; repeat (first | exact hp | apply List.mem_cons_of_mem)))))) (off_cons hI0.symm (off_cons hI1.symm (off_cons hI2.symm fun p hp => hoff _ (.tail _ (.tail _ (.tail _ hp)))))) (play_mk S ka kb kc ts so v1 zt v3 _ _ (run_drop_ok hrun hei rfl) hok.same rfl hso hfa (over_end2 _ (by repeat (first | exact agr_nil | refine agr_cons rfl ?_)) (fun z hz => by (repeat (first | with_reducible exact rfl | with_reducible exact over_nil | refine (if_neg (by first | with_reducible exact off1 hz | with_reducible exact off1 (off2 hz) | with_reducible exact off1 (off2 (off2 hz)) | with_reducible exact off1 (off2 (off2 (off2 hz))) | with_reducible exact off1 (off2 (off2 (off2 (off2 hz)))) | with_reducible exact off1 (off2 (off2 (off2 (off2 (off2 hz))))) | with_reducible exact off1 (off2 (off2 (off2 (off2 (off2 (off2 hz)))))) | with_reducible exact off1 (off2 (off2 (off2 (off2 (off2 (off2 (off2 hz))))))) | with_reducible exact off1 (off2 (off2 (off2 (off2 (off2 (off2 (off2 (off2 hz)))))))) | with_reducible exact off1 (off2 (off2 (off2 (off2 (off2 (off2 (off2 (off2 (off2 hz))))))))))).trans ?_)) <;> exact rfl)))
      | data z t nt kt zt9 hei hz2 hz3 hmt =>
        have ht1 : @Ne Nat t d9 := hne1 _ hmt
        have ht2 : @Ne Nat t n20 := hne2 _ hmt
        replace N : News _ _ _ ((x9, instObj 144 d9) :: (d9, rulesD w ka kb kc (.str (stg S.stage) ts)) :: (n20, so) :: (I, oI) :: (t, ({ cls := .type "tuple", data := .seq #[.str "data" kt, .int z zt9] nt } : Obj)) :: rest) := News.cut (News.with1 N (.tail _ (.tail _ (.tail _ (.tail _ hmt))))) (sub_cons (by k_mem) (sub_cons (by k_mem) (sub_cons (by k_mem) (sub_cons (by k_mem) (sub_cons (by k_mem) fun p hp => .tail _ (.tail _ (.tail _ (.tail _ (.tail _ hp)))))))))
        by_cases h1 : S.stage = 1
        · rw [stg1 h1] at N
          unfold sdict at hso
          k_steps
          rename Obj.IsDictOf _ _ _ => hd9
          exact turn_end (by assumption) (by assumption) ((x9, instObj 144 d9) :: (d9, rulesD w ka kb kc (.str "body" ts)) :: (n20, _) :: rest) (sub_cons (by k_mem) (sub_cons (by k_mem) (sub_cons (by k_mem) (sub_cons (by k_mem) (by intro p hp; repeat (first | exact hp | apply List.mem_cons_of_mem)))))) (off_cons hI0.symm (off_cons hI1.symm (off_cons hI2.symm fun p hp => hoff _ (.tail _ (.tail _ (.tail _ hp)))))) (play_mk ⟨S.stage, S.status, S.size + z, S.fl⟩ ka kb kc ts _ v1 _ v3 _ _ (run_drop_ok hrun hei (if_pos h1)) (hok.more h1 hz2 hz3) (by rw [show stg (St.mk S.stage S.status (S.size + z) S.fl).stage = "body" from stg1 h1]) hd9 hfa (over_end2 _ (by repeat (first | exact agr_nil | refine agr_cons rfl ?_)) (fun z hz => by (repeat (first | with_reducible exact rfl | with_reducible exact over_nil | refine (if_neg (by first | with_reducible exact off1 hz | with_reducible exact off1 (off2 hz) | with_reducible exact off1 (off2 (off2 hz)) | with_reducible exact off1 (off2 (off2 (off2 hz))) | with_reducible exact off1 (off2 (off2 (off2 (off2 hz)))) | with_reducible exact off1 (off2 (off2 (off2 (off2 (off2 hz))))) | with_reducible exact off1 (off2 (off2 (off2 (off2 (off2 (off2 hz)))))) | with_reducible exact off1 (off2 (off2 (off2 (off2 (off2 (off2 (off2 hz))))))) | with_reducible exact off1 (off2 (off2 (off2 (off2 (off2 (off2 (off2 (off2 hz)))))))) | with_reducible exact off1 (off2 (off2 (off2 (off2 (off2 (off2 (off2 (off2 (off2 hz))))))))))).trans ?_)) <;> exact rfl)))
        · have hs9 := stg_ne h1 hok.le
          k_steps
          exact hE9 _ _ _ _ _ _ (code_is (run_drop_err hrun hei (if_neg h1)) (by assumption)) (by assumption) (Fly.mono (by assumption) (by intro p hp; repeat (first | exact hp | apply List.mem_cons_of_mem))) (by assumption)
      | heads f tl fa t nt kt t0 vs0 k1 nt1 tn1 tx1 hei hmt hf wf hsm hm1 hm2 =>
        have ht1 : @Ne Nat t d9 := hne1 _ hmt
        have ht2 : @Ne Nat t n20 := hne2 _ hmt
        replace N : News _ _ _ ((x9, instObj 144 d9) :: (d9, rulesD w ka kb kc (.str (stg S.stage) ts)) :: (n20, so) :: (I, oI) :: (t, ({ cls := .type "tuple", data := .seq #[.str "heads" kt, .ref fa] nt } : Obj)) :: rest) := News.cut (News.with1 N (.tail _ (.tail _ (.tail _ (.tail _ hmt))))) (sub_cons (by k_mem) (sub_cons (by k_mem) (sub_cons (by k_mem) (sub_cons (by k_mem) (sub_cons (by k_mem) fun p hp => .tail _ (.tail _ (.tail _ (.tail _ (.tail _ hp)))))))))
        generalize hn9 : stg S.stage = n99 at N
        have hg8 := stg_get hn9 hok.le
        clear hn9 hm1 hm2
        cases hg8 with
        | zero h0 =>
          k_steps
          · exact hret _ rest _ _ (by rw [run_drop_err hrun hei (show headStep limit S (f :: tl) = .error .great by assumption)]; exact ⟨⟨_, rfl⟩, rfl⟩) (by assumption) (News.cut (by assumption) (by intro p hp; repeat (first | exact hp | apply List.mem_cons_of_mem)))
          · exact turn_end (by assumption) (by assumption) ((x9, instObj 144 d9) :: (d9, rulesD w ka kb kc (.str "head" ts)) :: (n20, so) :: rest) (sub_cons (by k_mem) (sub_cons (by k_mem) (sub_cons (by k_mem) (sub_cons (by k_mem) (by intro p hp; repeat (first | exact hp | apply List.mem_cons_of_mem)))))) (off_cons hI0.symm (off_cons hI1.symm (off_cons hI2.symm fun p hp => hoff _ (.tail _ (.tail _ (.tail _ hp)))))) (play_mk S ka kb kc ts so v1 zt v3 _ _ (run_drop_ok hrun hei (show headStep limit S (f :: tl) = .ok _ by assumption)) hok.same (by rw [stg0 h0]) hso hfa (over_end2 _ (by repeat (first | exact agr_nil | refine agr_cons rfl ?_)) (fun z hz => by (repeat (first | with_reducible exact rfl | with_reducible exact over_nil | refine (if_neg (by first | with_reducible exact off1 hz | with_reducible exact off1 (off2 hz) | with_reducible exact off1 (off2 (off2 hz)) | with_reducible exact off1 (off2 (off2 (off2 hz))) | with_reducible exact off1 (off2 (off2 (off2 (off2 hz)))) | with_reducible exact off1 (off2 (off2 (off2 (off2 (off2 hz))))) | with_reducible exact off1 (off2 (off2 (off2 (off2 (off2 (off2 hz)))))) | with_reducible exact off1 (off2 (off2 (off2 (off2 (off2 (off2 (off2 hz))))))) | with_reducible exact off1 (off2 (off2 (off2 (off2 (off2 (off2 (off2 (off2 hz)))))))) | with_reducible exact off1 (off2 (off2 (off2 (off2 (off2 (off2 (off2 (off2 (off2 hz))))))))))).trans ?_)) <;> exact rfl)))
          · have hg9 := hs_ok_stat h0 wf (by assumption)
            exact turn_end (by assumption) (by assumption) ((x9, instObj 144 d9) :: (d9, rulesD w ka kb kc (.str "body" _)) :: (n20, _) :: rest) (sub_cons (by k_mem) (sub_cons (by k_mem) (sub_cons (by k_mem) (sub_cons (by k_mem) (by intro p hp; repeat (first | exact hp | apply List.mem_cons_of_mem)))))) (off_cons hI0.symm (off_cons hI1.symm (off_cons hI2.symm fun p hp => hoff _ (.tail _ (.tail _ (.tail _ hp)))))) (play_mk ⟨1, some _, S.size, f :: tl⟩ ka kb kc _ _ _ zt _ _ _ (run_drop_ok hrun hei (show headStep limit S (f :: tl) = .ok _ by assumption)) (hok.head1 wf hg9.1 hg9.2.1 hg9.2.2) rfl (by assumption) (fun _ => ⟨_, _, fa, rfl, rfl, rfl, hf⟩) (over_end2 _ (by repeat (first | exact agr_nil | refine agr_cons rfl ?_)) (fun z hz => by (repeat (first | with_reducible exact rfl | with_reducible exact over_nil | refine (if_neg (by first | with_reducible exact off1 hz | with_reducible exact off1 (off2 hz) | with_reducible exact off1 (off2 (off2 hz)) | with_reducible exact off1 (off2 (off2 (off2 hz))) | with_reducible exact off1 (off2 (off2 (off2 (off2 hz)))) | with_reducible exact off1 (off2 (off2 (off2 (off2 (off2 hz))))) | with_reducible exact off1 (off2 (off2 (off2 (off2 (off2 (off2 hz)))))) | with_reducible exact off1 (off2 (off2 (off2 (off2 (off2 (off2 (off2 hz))))))) | with_reducible exact off1 (off2 (off2 (off2 (off2 (off2 (off2 (off2 (off2 hz)))))))) | with_reducible exact off1 (off2 (off2 (off2 (off2 (off2 (off2 (off2 (off2 (off2 hz))))))))))).trans ?_)) <;> exact rfl)))
          · exact hE9 _ _ _ _ _ _ (run_drop_err hrun hei (show headStep limit S (f :: tl) = .error _ by assumption)) (by assumption) (Fly.mono (by assumption) (by intro p hp; repeat (first | exact hp | apply List.mem_cons_of_mem))) (by assumption)
        | one h0 =>
          k_steps
          · exact hret _ rest _ _ (by rw [run_drop_err hrun hei (show headStep limit S (f :: tl) = .error .great by assumption)]; exact ⟨⟨_, rfl⟩, rfl⟩) (by assumption) (News.cut (by assumption) (by intro p hp; repeat (first | exact hp | apply List.mem_cons_of_mem)))
          · exact turn_end (by assumption) (by assumption) ((x9, instObj 144 d9) :: (d9, rulesD w ka kb kc (.str "trailer" _)) :: (n20, so) :: rest) (sub_cons (by k_mem) (sub_cons (by k_mem) (sub_cons (by k_mem) (sub_cons (by k_mem) (by intro p hp; repeat (first | exact hp | apply List.mem_cons_of_mem)))))) (off_cons hI0.symm (off_cons hI1.symm (off_cons hI2.symm fun p hp => hoff _ (.tail _ (.tail _ (.tail _ hp)))))) (play_mk ⟨2, S.status, S.size, S.fl⟩ ka kb kc _ so v1 zt v3 _ _ (run_drop_ok hrun hei (show headStep limit S (f :: tl) = .ok _ by assumption)) (hok.trail h0) rfl hso (fun _ => hfa (by rw [h0]; decide)) (over_end2 _ (by repeat (first | exact agr_nil | refine agr_cons rfl ?_)) (fun z hz => by (repeat (first | with_reducible exact rfl | with_reducible exact over_nil | refine (if_neg (by first | with_reducible exact off1 hz | with_reducible exact off1 (off2 hz) | with_reducible exact off1 (off2 (off2 hz)) | with_reducible exact off1 (off2 (off2 (off2 hz))) | with_reducible exact off1 (off2 (off2 (off2 (off2 hz)))) | with_reducible exact off1 (off2 (off2 (off2 (off2 (off2 hz))))) | with_reducible exact off1 (off2 (off2 (off2 (off2 (off2 (off2 hz)))))) | with_reducible exact off1 (off2 (off2 (off2 (off2 (off2 (off2 (off2 hz))))))) | with_reducible exact off1 (off2 (off2 (off2 (off2 (off2 (off2 (off2 (off2 hz)))))))) | with_reducible exact off1 (off2 (off2 (off2 (off2 (off2 (off2 (off2 (off2 (off2 hz))))))))))).trans ?_)) <;> exact rfl)))
          · exact hE9 _ _ _ _ _ _ (run_drop_err hrun hei (show headStep limit S (f :: tl) = .error _ by assumption)) (by assumption) (Fly.mono (by assumption) (by intro p hp; repeat (first | exact hp | apply List.mem_cons_of_mem))) (by assumption)
        | two h0 =>
          k_steps
          · exact hret _ rest _ _ (by rw [run_drop_err hrun hei (show headStep limit S (f :: tl) = .error .great by assumption)]; exact ⟨⟨_, rfl⟩, rfl⟩) (by assumption) (News.cut (by assumption) (by intro p hp; repeat (first | exact hp | apply List.mem_cons_of_mem)))
          · exact hE9 _ _ _ _ _ _ (run_drop_err hrun hei (show headStep limit S (f :: tl) = .error _ by assumption)) (by assumption) (Fly.mono (by assumption) (by intro p hp; repeat (first | exact hp | apply List.mem_cons_of_mem))) (by assumption)
    case done =>
      intro h tk m n hI9 F N
      cases hI9 with | mk S ka kb kc ts so v1 zt v3 kv hvv hrun hok hso hfa =>
      have hz0 : 0 ≤ S.size := hok.size0
      have hz1 : S.size ≤ 1000 := by have := hok.size1; rw [hp.length] at this; omega
      rw [List.drop_eq_nil_of_le (by rw [hp.length]; exact Nat.le_refl _)] at hrun
      replace hrun : R = fin me S := hrun
      by_cases h0 : S.stage = 0
      · rw [stg0 h0] at N
        k_steps
        exact hE _ _ _ _ _ _ (code_is (by rw [hrun, fin_0 h0]) (by assumption)) (by assumption) (Fly.mono (by assumption) (by intro p hp; repeat (first | exact hp | apply List.mem_cons_of_mem))) (by assumption)
      · have hq9 := stg_n0 h0 hok.le
        obtain ⟨wf, k, hk1, hk2, hk3, hk4⟩ := hok.head h0
        obtain ⟨k', t', fa, hk1', rfl, rfl, hf⟩ := hfa h0
        rw [hk1] at hk1'
        cases hk1'
        have hs9 : (statOf S.fl).isSome = true := by rw [hk2]; rfl
        unfold sdict at hso
        k_steps
        · exact hret _ ((_, tupo [.int k _, .int S.size _]) :: rest) _ _ (by rw [hrun, fin_ok h0 hk1 (by assumption)]; exact ⟨_, _, _, rfl, rfl, fun q hq => Nat.ne_of_lt (allLt_mem (by rename _ < _ ∧ _ => l9; repeat (first | exact l9 | replace l9 := l9.2)) q hq)⟩) (by assumption) (News.cut (by assumption) (by intro p hp; rcases List.mem_cons.mp hp with rfl | hp; exact List.mem_cons_self; repeat (first | exact hp | apply List.mem_cons_of_mem)))
        · exact hE _ _ _ _ _ _ (code_bad hrun h0 hk1 (by assumption)) (by assumption) (Fly.mono (by assumption) (by intro p hp; repeat (first | exact hp | apply List.mem_cons_of_mem))) (by assumption)

variable {w : World} {mean : ExcName → Option Value} {mg mb : Str → Option Value} {rest news : Led}
def BoxO (sl : Addr) (o : Obj) : Prop := ∃ i x t1 t2 n, o = W.listOf #[.ref sl, .int i t1, .int x t2] n ∧ 0 ≤ i ∧ i ≤ 40 ∧ 0 ≤ x ∧ x < 1009
theorem take0 {b sl : Addr} {o : Obj} {many : Int} {c tk : Nat} {vs : List Value} {ns : List Int} (hI : IntsAre vs ns) (hl : ns.length ≤ 40) (hm0 : 0 < many) (hm1 : many ≤ 8) (hb : BoxO sl o) (hbs : @Ne Nat sl b) (hne : ∀ p ∈ rest, p.1 ≠ b) :
    Does w mean mg mb 249 1 [.ref b, .int many tk] ((sl, W.listOf vs.toArray c) :: (b, o) :: rest) (fun v n => (∃ r t, v = .int r t ∧ 0 ≤ r ∧ r < many) ∧ ∃ o', BoxO sl o' ∧ n = (sl, W.listOf vs.toArray c) :: (b, o') :: rest) := by
  obtain ⟨i, x, t1, t2, n, rfl, h0, hi, hx0, hx1⟩ := hb
  unfold Does
  k_fill
  (intro dp un gd cn cs a ccd cl outer A₀ base h₀ L m s Q E B F X N T hk hdp hu hret; refine wpAny_call ?_; k_dflt cell_enter)
  k_steps
  · exact hret _ ((sl, W.listOf vs.toArray c) :: (b, W.listOf #[.ref sl, .int (i + 1) _, .int ((x * 31 + (ns.getD (i + 1 - 1).toNat 0).fmod 997 + 7).fmod 1009) _] n) :: rest) _ _ ⟨⟨_, _, rfl, Int.fmod_nonneg_of_pos _ hm0, Int.fmod_lt_of_pos _ hm0⟩, _, ⟨_, _, _, _, _, rfl, by omega, by omega, Int.fmod_nonneg_of_pos _ (by decide), Int.fmod_lt_of_pos _ (by decide)⟩, rfl⟩ (by assumption) (by assumption)
  · exact hret _ ((sl, W.listOf vs.toArray c) :: (b, W.listOf #[.ref sl, .int i _, .int ((x * 31 + 7).fmod 1009) _] n) :: rest) _ _ ⟨⟨_, _, rfl, Int.fmod_nonneg_of_pos _ hm0, Int.fmod_lt_of_pos _ hm0⟩, _, ⟨_, _, _, _, _, rfl, by omega, by omega, Int.fmod_nonneg_of_pos _ (by decide), Int.fmod_lt_of_pos _ (by decide)⟩, rfl⟩ (by assumption) (by assumption)
theorem take_any {b sl : Addr} {o : Obj} {g : Obj → Led} {many : Int} {c tk : Nat} {vs : List Value} {ns : List Int} (U : UpdF b o news g) (hb : BoxO sl o) (hs : (sl, W.listOf vs.toArray c) ∈ news) (hI : IntsAre vs ns) (hl : ns.length ≤ 40) (hm0 : 0 < many) (hm1 : many ≤ 8) (hbs : @Ne Nat sl b) :
    Does w mean mg mb 249 1 [.ref b, .int many tk] news (fun v n => (∃ r t, v = .int r t ∧ 0 ≤ r ∧ r < many) ∧ ∃ o', BoxO sl o' ∧ n = g o') :=
  Does.at (P := fun v => ∃ r t, v = .int r t ∧ 0 ≤ r ∧ r < many) (R := BoxO sl) (S := fun _ => True) (fun rest _ hne => take0 hI hl hm0 hm1 hb hbs hne) U hs hbs fun _ _ _ => trivial
example : True := by (k_with "call ref" => (k_here; (with_reducible show wpAny _ _ (call (Value.ref 249) _) _ _ _); k_dflt (refine' dz1 (take_any ?zzqU ?zzqb ?zzqs ?zzqI ?zzql ?zzq0 ?zzq1 ?zzqn) (u_bx) ?_; ((case zzqU => k_updF); (case zzqb => assumption); (case zzqs => k_mem); (case zzqI => assumption); (case zzql => assumption); (case zzq0 => first | decide | omega); (case zzq1 => first | decide | omega); (case zzqn => first | assumption | k_ne))); (intro r9' t9' o9' hr0' hr1' hbo' h' tk' F' N'; ((try dsimp only at N')); (try k_sweep)))); trivial
theorem take_two {b sl : Addr} {o : Obj} {g : Obj → Led} {c tk : Nat} {vs : List Value} {ns : List Int} (U : UpdF b o news g) (hb : BoxO sl o) (hs : (sl, W.listOf vs.toArray c) ∈ news) (hI : IntsAre vs ns) (hl : ns.length ≤ 40) (hbs : @Ne Nat sl b) :
    Does w mean mg mb 249 1 [.ref b, .int 2 tk] news (fun v n => (∃ t, v = .int 0 t ∨ v = .int 1 t) ∧ ∃ o', BoxO sl o' ∧ n = g o') :=
  Does.mono (take_any U hb hs hI hl (by decide) (by decide) hbs) fun v n ⟨⟨r, t, e, h0, h1⟩, h2⟩ => ⟨⟨t, by
    obtain rfl | rfl : r = 0 ∨ r = 1 := by omega
    · exact .inl e
    · exact .inr e⟩, h2⟩
theorem take_three {b sl : Addr} {o : Obj} {g : Obj → Led} {c tk : Nat} {vs : List Value} {ns : List Int} (U : UpdF b o news g) (hb : BoxO sl o) (hs : (sl, W.listOf vs.toArray c) ∈ news) (hI : IntsAre vs ns) (hl : ns.length ≤ 40) (hbs : @Ne Nat sl b) :
    Does w mean mg mb 249 1 [.ref b, .int 3 tk] news (fun v n => (∃ t, v = .int 0 t ∨ v = .int 1 t ∨ v = .int 2 t) ∧ ∃ o', BoxO sl o' ∧ n = g o') :=
  Does.mono (take_any U hb hs hI hl (by decide) (by decide) hbs) fun v n ⟨⟨r, t, e, h0, h1⟩, h2⟩ => ⟨⟨t, by
    obtain rfl | rfl | rfl : r = 0 ∨ r = 1 ∨ r = 2 := by omega
    · exact .inl e
    · exact .inr (.inl e)
    · exact .inr (.inr e)⟩, h2⟩
example : True := by (k_with "call ref" => (k_here; (with_reducible show wpAny _ _ (call (Value.ref 249) _) _ _ _); k_dflt (refine' dz2 (take_two ?zzqU ?zzqb ?zzqs ?zzqI ?zzql ?zzqn) (u_b2) ?_ ?_; ((case zzqU => k_updF); (case zzqb => assumption); (case zzqs => k_mem); (case zzqI => assumption); (case zzql => assumption); (case zzqn => first | assumption | k_ne))); (intro t9' o9' hbo' h' tk' F' N'; ((try dsimp only at N')); (try k_sweep)); rotate_left; (intro t9' o9' hbo' h' tk' F' N'; ((try dsimp only at N')); (try k_sweep)); rotate_left)); trivial
example : True := by (k_with "call ref" => (k_here; (with_reducible show wpAny _ _ (call (Value.ref 249) _) _ _ _); k_dflt (refine' dz3 (take_three ?zzqU ?zzqb ?zzqs ?zzqI ?zzql ?zzqn) (u_b3) ?_ ?_ ?_; ((case zzqU => k_updF); (case zzqb => assumption); (case zzqs => k_mem); (case zzqI => assumption); (case zzql => assumption); (case zzqn => first | assumption | k_ne))); (intro t9' o9' hbo' h' tk' F' N'; ((try dsimp only at N')); (try k_sweep)); rotate_left; (intro t9' o9' hbo' h' tk' F' N'; ((try dsimp only at N')); (try k_sweep)); rotate_left; (intro t9' o9' hbo' h' tk' F' N'; ((try dsimp only at N')); (try k_sweep)); rotate_left)); trivial

inductive Pick (p : Addr × Obj) : Led → Led → Prop
  | head {r} : (∀ q ∈ r, q.1 ≠ p.1) → Pick p (p :: r) r
  | tail {q r r'} : q.1 ≠ p.1 → Pick p r r' → Pick p (q :: r) (q :: r')
theorem Pick.mem {p : Addr × Obj} {l l' : Led} (h : Pick p l l') : (∀ q ∈ p :: l', q ∈ l) ∧ ∀ q ∈ l', q.1 ≠ p.1 := by
  induction h with
  | head h => exact ⟨fun q hq => hq, h⟩
  | tail h _ ih =>
    refine ⟨fun q hq => ?_, fun q hq => ?_⟩
    · rcases List.mem_cons.mp hq with rfl | hq
      · exact .tail _ (ih.1 _ (.head _))
      · rcases List.mem_cons.mp hq with rfl | hq
        · exact .head _
        · exact .tail _ (ih.1 _ (.tail _ hq))
    · rcases List.mem_cons.mp hq with rfl | hq
      · exact h
      · exact ih.2 _ hq
theorem unrEnd_pick {h₀ : Heap} {L I : Addr} {it : Obj} {rest : (Str → Option Value) → Led → Prop} {s₁ : Shared} {h' : Heap} {tk : Nat} {m' : Str → Option Value} {al news' : Led} (F : Fr h₀ L h' m') (N : News h₀ L h' al) (P : Pick (I, it) al news') (r : rest m' news') : UnrEnd h₀ L s₁ I it rest { s₁ with heap := h', toks := tk } :=
  UnrEnd.intro F N news' P.mem.1 P.mem.2 r
example : True := by (k_with "k9all" => first | assumption | exact fun p hp => Nat.ne_of_lt (allLt_mem (And.right (by assumption)) p hp) | exact fun p hp => Nat.ne_of_lt (allLt_mem (And.right (And.right (by assumption))) p hp) | exact fun p hp => Nat.ne_of_lt (allLt_mem (And.right (And.right (And.right (by assumption)))) p hp) | exact fun p hp => Nat.ne_of_lt (allLt_mem (And.right (And.right (And.right (And.right (by assumption))))) p hp) | exact fun p hp => Nat.ne_of_lt (allLt_mem (And.right (And.right (And.right (And.right (And.right (by assumption)))))) p hp) | exact fun p hp => Nat.ne_of_lt (allLt_mem (And.right (And.right (And.right (And.right (And.right (And.right (by assumption))))))) p hp) | exact fun p hp => Nat.ne_of_lt (allLt_mem (And.right (And.right (And.right (And.right (And.right (And.right (And.right (by assumption)))))))) p hp) | exact fun p hp => Nat.ne_of_lt (allLt_mem (And.right (And.right (And.right (And.right (And.right (And.right (And.right (And.right (by assumption))))))))) p hp) | exact fun p hp => Nat.ne_of_lt (allLt_mem (And.right (And.right (And.right (And.right (And.right (And.right (And.right (And.right (And.right (by assumption)))))))))) p hp) | exact fun p hp => Nat.ne_of_lt (allLt_mem (And.right (And.right (And.right (And.right (And.right (And.right (And.right (And.right (And.right (And.right (by assumption))))))))))) p hp) | exact fun p hp => Nat.ne_of_lt (allLt_mem (And.right (And.right (And.right (And.right (And.right (And.right (And.right (And.right (And.right (And.right (And.right (by assumption)))))))))))) p hp) | exact fun p hp => Nat.ne_of_lt (allLt_mem (And.right (And.right (And.right (And.right (And.right (And.right (And.right (And.right (And.right (And.right (And.right (And.right (by assumption))))))))))))) p hp) | exact fun p hp => Nat.ne_of_lt (allLt_mem (And.right (And.right (And.right (And.right (And.right (And.right (And.right (And.right (And.right (And.right (And.right (And.right (And.right (by assumption)))))))))))))) p hp) | exact fun p hp => Nat.ne_of_lt (allLt_mem (And.right (And.right (And.right (And.right (And.right (And.right (And.right (And.right (And.right (And.right (And.right (And.right (And.right (And.right (by assumption))))))))))))))) p hp) | exact fun p hp => Nat.ne_of_lt (allLt_mem (And.right (And.right (And.right (And.right (And.right (And.right (And.right (And.right (And.right (And.right (And.right (And.right (And.right (And.right (And.right (by assumption)))))))))))))))) p hp)); trivial
example : True := by (k_with "k9updF" => first | (refine' Pick.head ?zza; (case zza => k_all)) | (refine' Pick.tail ?zza ?zzb; (case zza => k_ne); (case zzb => k_updF))); trivial
example : True := by (k_with "UnrEnd" => (k_here; k_dflt (refine' unrEnd_pick ?zzF ?zzN ?zzP ?_; (case zzF => k_asm); (case zzN => k_asm); (case zzP => k_updF)))); trivial
example : True := by (k_with "callWith" => (k_here; (with_reducible show wpAny _ _ (callWith _ (Value.builtin _) (_ :: _) _ []) _ _ _); k_dflt (refine callWith_method1 ?_))); trivial
variable {w : World} {mean : ExcName → Option Value} {mg mb : Str → Option Value} {rest news : Led}
inductive CF
  | set (l : Option Int)
  | unk
  | go (k : Int)
def CfAt (news : Led) : CF → Value → Prop
  | .set none, v => ∃ t a k l, v = .ref t ∧ (t, tupo [.str "settings" a, .ref l]) ∈ news ∧ (l, W.listOf #[] k) ∈ news
  | .set (some x), v => ∃ t a k l p u1 u2, v = .ref t ∧ (t, tupo [.str "settings" a, .ref l]) ∈ news ∧ (l, W.listOf #[.ref p] k) ∈ news ∧ (p, tupo [.int 6 u1, .int x u2]) ∈ news
  | .unk, v => ∃ t a u1 u2, v = .ref t ∧ (t, tupo [.str "unknown" a, .int 33 u1, .bytes #[] u2]) ∈ news
  | .go k, v => ∃ t a u, v = .ref t ∧ (t, tupo [.str "goaway" a, .int k u]) ∈ news
theorem cf_set0 {news : Led} {t l : Addr} {a : Tok} {k : Nat} (h1 : (t, tupo [.str "settings" a, .ref l]) ∈ news) (h2 : (l, W.listOf #[] k) ∈ news) : CfAt news (.set none) (.ref t) := ⟨_, _, _, _, rfl, h1, h2⟩
theorem cf_set1 {news : Led} {t l p : Addr} {a u1 u2 : Tok} {k : Nat} {x : Int} (h1 : (t, tupo [.str "settings" a, .ref l]) ∈ news) (h2 : (l, W.listOf #[.ref p] k) ∈ news) (h3 : (p, tupo [.int 6 u1, .int x u2]) ∈ news) : CfAt news (.set (some x)) (.ref t) := ⟨_, _, _, _, _, _, _, rfl, h1, h2, h3⟩
theorem cf_unk {news : Led} {t : Addr} {a u1 u2 : Tok} (h1 : (t, tupo [.str "unknown" a, .int 33 u1, .bytes #[] u2]) ∈ news) : CfAt news .unk (.ref t) := ⟨_, _, _, _, rfl, h1⟩
theorem cf_go {news : Led} {t : Addr} {a u : Tok} {k : Int} (h1 : (t, tupo [.str "goaway" a, .int k u]) ∈ news) : CfAt news (.go k) (.ref t) := ⟨_, _, _, rfl, h1⟩
theorem CfAt.mono {a b : Led} (hs : ∀ p ∈ a, p ∈ b) : ∀ {f : CF} {v : Value}, CfAt a f v → CfAt b f v
  | .set none, _, ⟨t, x, k, l, h1, h2, h3⟩ => ⟨t, x, k, l, h1, hs _ h2, hs _ h3⟩
  | .set (some _), _, ⟨t, x, k, l, p, u1, u2, h1, h2, h3, h4⟩ => ⟨t, x, k, l, p, u1, u2, h1, hs _ h2, hs _ h3, hs _ h4⟩
  | .unk, _, ⟨t, x, u1, u2, h1, h2⟩ => ⟨t, x, u1, u2, h1, hs _ h2⟩
  | .go _, _, ⟨t, x, u, h1, h2⟩ => ⟨t, x, u, h1, hs _ h2⟩
def CfsAt (news : Led) (fs : List CF) (a : Addr) : Prop := ∃ its k, (a, W.listOf its k) ∈ news ∧ Prs (CfAt news) its.toList fs ∧ its.size ≤ 8
theorem CfsAt.mono {a b : Led} (hs : ∀ p ∈ a, p ∈ b) {f v} (h : CfsAt a f v) : CfsAt b f v := by
  obtain ⟨its, k, h1, h2, h3⟩ := h
  exact ⟨its, k, hs _ h1, h2.mono fun _ _ => CfAt.mono hs, h3⟩
/-- the state of the control stream's rules: settings taken?, the goaway -/
structure CS where
  set : Option (Option Int)
  go : Option Int
def ctlStep (c : CS) : CF → Option CS
  | .set l => if c.set.isSome then none else some ⟨some l, c.go⟩
  | .unk => if c.set.isSome then some c else none
  | .go k => if c.set.isSome && decide (k % 4 = 0) && decide (0 ≤ k) && decide (k ≤ 20) && (match c.go with | none => true | some g => decide (k ≤ g)) then some ⟨c.set, some k⟩ else none
def ctl : List CF → CS → Option CS
  | [], c => some c
  | f :: r, c => match ctlStep c f with | none => none | some c' => ctl r c'
def CtlPost (sl b : Addr) (so : Obj) (rest : Led) (v : Value) (n : Led) : Prop := ∃ D fa lv av limit last fs X o', v = .ref D ∧ n = (b, o') :: X ∧ (∀ p ∈ X, p.1 ≠ b) ∧ BoxO sl o' ∧ (sl, so) ∈ X ∧ (∀ p ∈ rest, p ∈ X) ∧ (D, tupo [.ref fa, lv, av]) ∈ X ∧
  CfsAt X fs fa ∧ LimV limit lv ∧ LimV last av ∧ (∀ k, limit = some k → 0 ≤ k ∧ k ≤ 200) ∧ (∀ k, last = some k → 0 ≤ k ∧ k ≤ 20) ∧ ctl fs ⟨none, none⟩ = some ⟨some limit, last⟩
theorem ctl_fin {Q : Value → Shared → Prop} {s : Shared} {h₀ h : Heap} {L b sl D fa : Addr} {m : Str → Option Value} {al X rest : Led} {tk : Nat} {o' so : Obj} {lv av : Value} {limit last : Option Int} {fs : List CF}
    (hret : ∀ v n h' tk', CtlPost sl b so rest v n → Fr h₀ L h' m → News h₀ L h' n → Q v { s with heap := h', toks := tk' }) (F : Fr h₀ L h m) (N : News h₀ L h al) (P : Pick (b, o') al X) (hb : BoxO sl o') (hD : (D, tupo [.ref fa, lv, av]) ∈ X) (hsl : (sl, so) ∈ X) (hrest : ∀ p ∈ rest, p ∈ X)
    (hC : CfsAt X fs fa) (hl : LimV limit lv) (ha : LimV last av) (h1 : ∀ k, limit = some k → 0 ≤ k ∧ k ≤ 200) (h2 : ∀ k, last = some k → 0 ≤ k ∧ k ≤ 20) (hk : ctl fs ⟨none, none⟩ = some ⟨some limit, last⟩) : Q (.ref D) { s with heap := h, toks := tk } :=
  hret _ _ _ _ ⟨D, fa, lv, av, limit, last, fs, X, o', rfl, rfl, P.mem.2, hb, hsl, hrest, hD, hC, hl, ha, h1, h2, hk⟩ F (News.cut N P.mem.1)
section
variable {M : Model} {A : Around} {E : Value → Shared → Prop} {s : Shared} {env : Env} {st : Stmt} {more : List Stmt} {Q : Flow → Shared → Prop}
theorem execs_app {l2 : List Stmt} (l1 : List Stmt) {s : Shared} (h : wpAny M A (execs l1 env) (fun f s' => match f with | .next => wpAny M A (execs l2 env) Q E s' | f => Q f s') E s) : wpAny M A (execs (l1 ++ l2) env) Q E s := by
  intro Γ p hΓ
  have key : ∀ (l1 : List Stmt) p s, Sem.wp M Γ (execs l1 env) (fun f _ s' => match f with | .next => wpAny M A (execs l2 env) Q E s' | f => Q f s') (fun e _ s' => E e s') p s → Sem.wp M Γ (execs (l1 ++ l2) env) (fun f _ s' => Q f s') (fun e _ s' => E e s') p s := by
    intro l1
    induction l1 with
    | nil => exact fun p s h => (show wpAny M A (execs l2 env) Q E s from h) Γ p hΓ
    | cons a r ih =>
      intro p s h
      rw [List.cons_append, execs_cons, Sem.wp_bind']
      rw [execs_cons, Sem.wp_bind'] at h
      refine Sem.wp_mono M Γ _ (fun f p' s' h' => ?_) (fun _ _ _ h' => h') _ _ h
      cases f with
      | next => exact ih p' s' h'
      | brk => exact h'
      | cont => exact h'
      | ret v => exact h'
  exact key l1 p s (h Γ p hΓ)
theorem execs_cutL (l1 : List Stmt) {l2 : List Stmt} (Mid : Shared → Prop) (h1 : ∀ Q' : Flow → Shared → Prop, (∀ s', Mid s' → Q' .next s') → wpAny M A (execs l1 env) Q' E s) (h2 : ∀ s', Mid s' → wpAny M A (execs l2 env) Q E s') : wpAny M A (execs (l1 ++ l2) env) Q E s :=
  execs_app l1 (wpAny_mono (h1 (fun f s' => f = .next ∧ Mid s') fun s' h => ⟨rfl, h⟩) (fun f s' h => by obtain ⟨rfl, h⟩ := h; exact h2 s' h) fun _ _ e => e)
theorem execs_cut (Mid : Shared → Prop) (h1 : ∀ Q' : Flow → Shared → Prop, (∀ s', Mid s' → Q' .next s') → wpAny M A (exec st env) Q' E s) (h2 : ∀ s', Mid s' → wpAny M A (execs more env) Q E s') : wpAny M A (execs (st :: more) env) Q E s :=
  wpAny_execs_cons (wpAny_mono (h1 (fun f s' => f = .next ∧ Mid s') fun s' h => ⟨rfl, h⟩) (fun f s' h => by obtain ⟨rfl, h⟩ := h; exact h2 s' h) fun _ _ e => e)
/-- the state behind the two statements that draw the limit and the settings frame -/
inductive CtlMid (h₀ : Heap) (L : Addr) (m₀ : Str → Option Value) (b sl : Addr) (so : Obj) (rst : Led) (s : Shared) : Shared → Prop
  | mk (h' : Heap) (tk' : Nat) (fa : Addr) (k : Nat) (v : Value) (o' : Obj) (X : Led) (lv : Value) (limit : Option Int) : Fr h₀ L h' (over [("limit", some lv), ("frames", some (.ref fa)), ("last", some .none)] m₀) → News h₀ L h' ((fa, W.listOf #[v] k) :: (b, o') :: X) → @Ne Nat fa b → (∀ p ∈ X, p.1 ≠ b) → (∀ p ∈ X, p.1 ≠ fa) →
    BoxO sl o' → (sl, so) ∈ X → (∀ p ∈ rst, p ∈ X) → CfAt X (.set limit) v → LimV limit lv → (∀ k, limit = some k → 0 ≤ k ∧ k ≤ 200) → CtlMid h₀ L m₀ b sl so rst s { s with heap := h', toks := tk' }
theorem ctl_cut2 {st2 : Stmt} {h₀ : Heap} {m₀ : Str → Option Value} (_F : Fr h₀ env.locals s.heap m₀) (b sl : Addr) (so : Obj) (rst : Led)
    (h1 : ∀ Q' : Flow → Shared → Prop, (∀ s', CtlMid h₀ env.locals m₀ b sl so rst s s' → Q' .next s') → wpAny M A (execs [st, st2] env) Q' E s)
    (h2 : ∀ h' tk' fa k v o' X lv limit, Fr h₀ env.locals h' (over [("limit", some lv), ("frames", some (.ref fa)), ("last", some .none)] m₀) → News h₀ env.locals h' ((sl, so) :: (fa, W.listOf #[v] k) :: (b, o') :: X) → @Ne Nat fa b → @Ne Nat sl b → @Ne Nat sl fa → (∀ p ∈ X, p.1 ≠ b) → (∀ p ∈ X, p.1 ≠ fa) →
      BoxO sl o' → (∀ p ∈ rst, p ∈ X) → CfAt X (.set limit) v → LimV limit lv → (∀ k, limit = some k → 0 ≤ k ∧ k ≤ 200) → wpAny M A (execs more env) Q E { s with heap := h', toks := tk' }) :
    wpAny M A (execs (st :: st2 :: more) env) Q E s :=
  execs_cutL (l2 := more) [st, st2] _ h1 fun s' h9 => by
    cases h9 with
    | mk h' tk' fa k v o' X lv limit x1 x2 x3 x4 x5 x6 x7 x8 x9 x10 x11 => exact h2 h' tk' fa k v o' X lv limit x1 (News.with1 x2 (.tail _ (.tail _ x7))) x3 (x4 _ x7) (x5 _ x7) x4 x5 x6 x8 x9 x10 x11
theorem ctlmid_mk {h₀ h : Heap} {L b sl fa : Addr} {m₀ m : Str → Option Value} {so o' : Obj} {rst al X1 X : Led} {k tk : Nat} {v lv : Value} {limit : Option Int} (F : Fr h₀ L h m) (N : News h₀ L h al) (hm : m = over [("limit", some lv), ("frames", some (.ref fa)), ("last", some .none)] m₀) (P1 : Pick (b, o') al X1) (P2 : Pick (fa, W.listOf #[v] k) X1 X)
    (hb : BoxO sl o') (hs : (sl, so) ∈ X) (hr : ∀ p ∈ rst, p ∈ X) (hC : CfAt X (.set limit) v) (hl : LimV limit lv) (hb1 : ∀ k, limit = some k → 0 ≤ k ∧ k ≤ 200) : CtlMid h₀ L m₀ b sl so rst s { s with heap := h, toks := tk } := by
  subst hm
  have h1 := P1.mem
  have h2 := P2.mem
  exact .mk h tk fa k v o' X lv limit F (News.cut N (by
    intro p hp
    rcases List.mem_cons.mp hp with rfl | hp
    · exact h1.1 _ (.tail _ (h2.1 _ (.head _)))
    · rcases List.mem_cons.mp hp with rfl | hp
      · exact h1.1 _ (.head _)
      · exact h1.1 _ (.tail _ (h2.1 _ (.tail _ hp))))) (h1.2 _ (h2.1 _ (.head _))) (fun p hp => h1.2 p (h2.1 _ (.tail _ hp))) h2.2 hb hs hr hC hl hb1
end
theorem control_spec {b sl : Addr} {o : Obj} {c : Nat} {vs : List Value} {ns : List Int} (hI : IntsAre vs ns) (hl : ns.length ≤ 40) (hb : BoxO sl o) (hbs : @Ne Nat sl b) (hne : ∀ p ∈ rest, p.1 ≠ b) :
    Does w mean mg mb 256 3 [.ref b] ((sl, W.listOf vs.toArray c) :: (b, o) :: rest) (CtlPost sl b (W.listOf vs.toArray c) rest) := by
  unfold Does
  k_fill
  (intro dp un gd cn cs a ccd cl outer A₀ base h₀ L m s Q E B F X N T hk hdp hu hret; refine wpAny_call ?_; k_dflt cell_enter)
  rename Fr _ _ _ _ => F9
  refine ctl_cut2 F9 b sl (W.listOf vs.toArray c) rest ?_ ?_
  · intro Q1 hQ1
    k_steps
    all_goals exact hQ1 _ (ctlmid_mk (by assumption) (by assumption) (over_end2 _ (by repeat (first | exact agr_nil | refine agr_cons rfl ?_)) (fun z hz => by (repeat (first | with_reducible exact rfl | with_reducible exact over_nil | refine (if_neg (by first | with_reducible exact off1 hz | with_reducible exact off1 (off2 hz) | with_reducible exact off1 (off2 (off2 hz)) | with_reducible exact off1 (off2 (off2 (off2 hz))) | with_reducible exact off1 (off2 (off2 (off2 (off2 hz)))) | with_reducible exact off1 (off2 (off2 (off2 (off2 (off2 hz))))) | with_reducible exact off1 (off2 (off2 (off2 (off2 (off2 (off2 hz)))))) | with_reducible exact off1 (off2 (off2 (off2 (off2 (off2 (off2 (off2 hz))))))) | with_reducible exact off1 (off2 (off2 (off2 (off2 (off2 (off2 (off2 (off2 hz)))))))) | with_reducible exact off1 (off2 (off2 (off2 (off2 (off2 (off2 (off2 (off2 (off2 hz))))))))))).trans ?_)) <;> exact rfl)) (by k_updF) (by k_updF) (by assumption) (by k_mem) (by intro p hp; repeat (first | exact hp | apply List.mem_cons_of_mem)) (by first | exact cf_set1 (by k_mem) (by k_mem) (by k_mem) | exact cf_set0 (by k_mem) (by k_mem)) (by first | exact (show LimV none Value.none from rfl) | exact (show LimV (some _) _ from ⟨_, rfl⟩)) (by first | (intro k e; cases e; done) | (intro k e; cases e; decide)))
  · intro h8 tk8 fa k8 v8 o8 X8 lv8 limit F8 N8 hfb hsb hsf hXb hXf hbo hrst hcf hlv hb1
    clear F9
    k_steps
    all_goals exact ctl_fin hret (by assumption) (by assumption) (by k_updF) (by assumption) (by k_mem) (by k_mem) (by intro p hp; replace hp := hrst p hp; repeat (first | exact hp | apply List.mem_cons_of_mem)) (by refine ⟨_, _, by k_mem, ?_, Nat.le_of_ble_eq_true rfl⟩; apply Prs.cons; exact CfAt.mono (by intro p hp; repeat (first | exact hp | apply List.mem_cons_of_mem)) hcf; repeat (first | exact Prs.nil | (apply Prs.cons; (first | exact cf_unk (by k_mem) | exact cf_go (by k_mem))))) hlv (by first | exact (show LimV none Value.none from rfl) | exact (show LimV (some _) _ from ⟨_, rfl⟩)) hb1 (by first | (intro k e; cases e; done) | (intro k e; cases e; decide)) (by rfl)

variable {w : World} {mean : ExcName → Option Value} {mg mb : Str → Option Value} {rest news : Led}
abbrev ctlD (w : World) (k1 k2 k3 k4 k5 pt : Tok) (sv gv : Value) : Obj := dictOf [{ hash := PyData.keyHash w.params (Str.ofString "peer"), key := .str "peer" k1, val := .str "server" pt }, { hash := PyData.keyHash w.params (Str.ofString "most_push"), key := .str "most_push" k2, val := .none }, { hash := PyData.keyHash w.params (Str.ofString "settings"), key := .str "settings" k3, val := sv }, { hash := PyData.keyHash w.params (Str.ofString "goaway"), key := .str "goaway" k4, val := gv }, { hash := PyData.keyHash w.params (Str.ofString "told_most"), key := .str "told_most" k5, val := .none }] 5
section
variable {r d f l : Addr} {k1 k2 k3 k4 k5 pt ts t0 u1 u2 : Tok} {sv gv : Value} {k : Nat} {x : Int}
theorem goaway_none (hx0 : 0 ≤ x) (hx1 : x ≤ 20) (hx2 : x.fmod 4 = 0) (hrd : @Ne Nat r d) (hne : ∀ p ∈ rest, p.1 ≠ d) : Does w mean mg mb 64 1 [.ref r, .int x u1] ((r, instObj 88 d) :: (d, ctlD w k1 k2 k3 k4 k5 pt sv .none) :: rest) (fun v n => v = .none ∧ n = ((r, instObj 88 d) :: (d, ctlD w k1 k2 k3 k4 k5 pt sv (.int x u1)) :: rest)) := by
  unfold Does
  k_fill
  intro dp un gd cn cs a ccd cl outer A₀ base h₀ L m s Q E B F X N T hk hdp hu hret
  refine wpAny_call ?_
  k_dflt cell_enter
  k_steps
  all_goals first | exact absurd hx2 (by assumption) | exact hret _ _ _ _ ⟨rfl, rfl⟩ (by assumption) (News.cut (by assumption) (by intro p hp; repeat (first | exact hp | apply List.mem_cons_of_mem)))
theorem goaway_some {g : Int} (hxg : x ≤ g) (hg : g ≤ 20) (hx0 : 0 ≤ x) (hx1 : x ≤ 20) (hx2 : x.fmod 4 = 0) (hrd : @Ne Nat r d) (hne : ∀ p ∈ rest, p.1 ≠ d) : Does w mean mg mb 64 1 [.ref r, .int x u1] ((r, instObj 88 d) :: (d, ctlD w k1 k2 k3 k4 k5 pt sv (.int g u2)) :: rest) (fun v n => v = .none ∧ n = ((r, instObj 88 d) :: (d, ctlD w k1 k2 k3 k4 k5 pt sv (.int x u1)) :: rest)) := by
  unfold Does
  k_fill
  intro dp un gd cn cs a ccd cl outer A₀ base h₀ L m s Q E B F X N T hk hdp hu hret
  refine wpAny_call ?_
  k_dflt cell_enter
  k_steps
  all_goals first | exact absurd hx2 (by assumption) | exact hret _ _ _ _ ⟨rfl, rfl⟩ (by assumption) (News.cut (by assumption) (by intro p hp; repeat (first | exact hp | apply List.mem_cons_of_mem)))
example : True := by (k_with "call ref" => (k_here; (with_reducible show wpAny _ _ (call (Value.ref 64) _) _ _ _); k_dflt (refine' dz1 (goaway_none ?zzq0 ?zzq1 ?zzq2 ?zzq3 ?zzq4) (u_eq) ?_; ((case zzq0 => assumption); (case zzq1 => assumption); (case zzq2 => assumption); (case zzq3 => first | assumption | k_ne); (case zzq4 => k_all))); (intro  h' tk' F' N'; (skip); (try k_sweep)))); trivial
example : True := by (k_with "call ref" => (k_here; (with_reducible show wpAny _ _ (call (Value.ref 64) _) _ _ _); k_dflt (refine' dz1 (goaway_some ?zzqa ?zzqb ?zzq0 ?zzq1 ?zzq2 ?zzq3 ?zzq4) (u_eq) ?_; ((case zzqa => assumption); (case zzqb => assumption); (case zzq0 => assumption); (case zzq1 => assumption); (case zzq2 => assumption); (case zzq3 => first | assumption | k_ne); (case zzq4 => k_all))); (intro  h' tk' F' N'; (skip); (try k_sweep)))); trivial
theorem ctake_set0 {ka9 : Tok} (hf : (f, tupo [.str "settings" ka9, .ref l]) ∈ rest) (hl : (l, W.listOf #[] k) ∈ rest) (hrd : @Ne Nat r d) (hne : ∀ p ∈ rest, p.1 ≠ d) : Does w mean mg mb 57 3 [.ref r, .ref f] ((r, instObj 88 d) :: (d, ctlD w k1 k2 k3 k4 k5 pt .none gv) :: rest) (fun v n => v = .none ∧ ∃ l' k', @Ne Nat l' d ∧ (∀ p ∈ rest, p.1 ≠ l') ∧ n = (r, instObj 88 d) :: (d, ctlD w k1 k2 k3 k4 k5 pt (.ref l') gv) :: (l', W.listOf #[] k') :: rest) := by
  unfold Does
  k_fill
  intro dp un gd cn cs a ccd cl outer A₀ base h₀ L m s Q E B F X N T hk hdp hu hret
  have hfd : @Ne Nat f d := hne _ hf
  have hld : @Ne Nat l d := hne _ hl
  replace N := News.with1 (News.with1 N (.tail _ (.tail _ hf))) (.tail _ (.tail _ (.tail _ hl)))
  refine wpAny_call ?_
  k_dflt cell_enter
  k_steps
  all_goals (refine hret _ ((r, instObj 88 d) :: (d, ctlD w k1 k2 k3 k4 k5 pt (.ref _) gv) :: (_, W.listOf #[] _) :: rest) _ _ ⟨rfl, _, _, ?_, ?_, rfl⟩ (by assumption) (News.cut (by assumption) (by intro p hp; simp only [List.mem_cons] at hp ⊢; rcases hp with rfl | rfl | rfl | hp <;> repeat (first | exact Or.inl rfl | assumption | apply Or.inr))); k_ne; k_all)
theorem ctake_set1 {ka9 : Tok} {q : Addr} (hf : (f, tupo [.str "settings" ka9, .ref l]) ∈ rest) (hl : (l, W.listOf #[.ref q] k) ∈ rest) (hrd : @Ne Nat r d) (hne : ∀ p ∈ rest, p.1 ≠ d) : Does w mean mg mb 57 3 [.ref r, .ref f] ((r, instObj 88 d) :: (d, ctlD w k1 k2 k3 k4 k5 pt .none gv) :: rest) (fun v n => v = .none ∧ ∃ l' k', @Ne Nat l' d ∧ (∀ p ∈ rest, p.1 ≠ l') ∧ n = (r, instObj 88 d) :: (d, ctlD w k1 k2 k3 k4 k5 pt (.ref l') gv) :: (l', W.listOf #[.ref q] k') :: rest) := by
  unfold Does
  k_fill
  intro dp un gd cn cs a ccd cl outer A₀ base h₀ L m s Q E B F X N T hk hdp hu hret
  have hfd : @Ne Nat f d := hne _ hf
  have hld : @Ne Nat l d := hne _ hl
  replace N := News.with1 (News.with1 N (.tail _ (.tail _ hf))) (.tail _ (.tail _ (.tail _ hl)))
  refine wpAny_call ?_
  k_dflt cell_enter
  k_steps
  all_goals (refine hret _ ((r, instObj 88 d) :: (d, ctlD w k1 k2 k3 k4 k5 pt (.ref _) gv) :: (_, W.listOf #[.ref q] _) :: rest) _ _ ⟨rfl, _, _, ?_, ?_, rfl⟩ (by assumption) (News.cut (by assumption) (by intro p hp; simp only [List.mem_cons] at hp ⊢; rcases hp with rfl | rfl | rfl | hp <;> repeat (first | exact Or.inl rfl | assumption | apply Or.inr))); k_ne; k_all)
theorem ctake_unk {ka9 : Tok} (hf : (f, tupo [.str "unknown" ka9, .int 33 u1, .bytes #[] u2]) ∈ rest) (hrd : @Ne Nat r d) (hne : ∀ p ∈ rest, p.1 ≠ d) : Does w mean mg mb 57 3 [.ref r, .ref f] ((r, instObj 88 d) :: (d, ctlD w k1 k2 k3 k4 k5 pt (.ref l) gv) :: rest) (fun v n => v = .none ∧ n = ((r, instObj 88 d) :: (d, ctlD w k1 k2 k3 k4 k5 pt (.ref l) gv) :: rest)) := by
  unfold Does
  k_fill
  intro dp un gd cn cs a ccd cl outer A₀ base h₀ L m s Q E B F X N T hk hdp hu hret
  have hfd : @Ne Nat f d := hne _ hf
  replace N := News.cut (b := (r, instObj 88 d) :: (d, ctlD w k1 k2 k3 k4 k5 pt (.ref l) gv) :: (f, tupo [.str "unknown" ka9, .int 33 u1, .bytes #[] u2]) :: rest) (News.with1 N (.tail _ (.tail _ hf))) (by intro p hp; simp only [List.mem_cons] at hp ⊢; rcases hp with h | h | h | h; exact .inr (.inl h); exact .inr (.inr (.inl h)); exact .inl h; exact .inr (.inr (.inr h)))
  refine wpAny_call ?_
  k_dflt cell_enter
  k_steps
  all_goals exact hret _ _ _ _ ⟨rfl, rfl⟩ (by assumption) (News.cut (by assumption) (by intro p hp; simp only [List.mem_cons] at hp ⊢; rcases hp with rfl | rfl | hp <;> repeat (first | exact Or.inl rfl | assumption | apply Or.inr)))
theorem ctake_go0 {ka9 : Tok} (hf : (f, tupo [.str "goaway" ka9, .int x u1]) ∈ rest) (hx0 : 0 ≤ x) (hx1 : x ≤ 20) (hx2 : x.fmod 4 = 0) (hrd : @Ne Nat r d) (hne : ∀ p ∈ rest, p.1 ≠ d) : Does w mean mg mb 57 3 [.ref r, .ref f] ((r, instObj 88 d) :: (d, ctlD w k1 k2 k3 k4 k5 pt (.ref l) .none) :: rest) (fun v n => v = .none ∧ n = ((r, instObj 88 d) :: (d, ctlD w k1 k2 k3 k4 k5 pt (.ref l) (.int x u1)) :: rest)) := by
  unfold Does
  k_fill
  intro dp un gd cn cs a ccd cl outer A₀ base h₀ L m s Q E B F X N T hk hdp hu hret
  have hfd : @Ne Nat f d := hne _ hf
  replace N := News.cut (b := (r, instObj 88 d) :: (d, ctlD w k1 k2 k3 k4 k5 pt (.ref l) .none) :: (f, tupo [.str "goaway" ka9, .int x u1]) :: rest) (News.with1 N (.tail _ (.tail _ hf))) (by intro p hp; simp only [List.mem_cons] at hp ⊢; rcases hp with h | h | h | h; exact .inr (.inl h); exact .inr (.inr (.inl h)); exact .inl h; exact .inr (.inr (.inr h)))
  refine wpAny_call ?_
  k_dflt cell_enter
  k_steps
  all_goals exact hret _ _ _ _ ⟨rfl, rfl⟩ (by assumption) (News.cut (by assumption) (by intro p hp; simp only [List.mem_cons] at hp ⊢; rcases hp with rfl | rfl | hp <;> repeat (first | exact Or.inl rfl | assumption | apply Or.inr)))
theorem ctake_go1 {ka9 : Tok} {g : Int} (hxg : x ≤ g) (hg : g ≤ 20) (hf : (f, tupo [.str "goaway" ka9, .int x u1]) ∈ rest) (hx0 : 0 ≤ x) (hx1 : x ≤ 20) (hx2 : x.fmod 4 = 0) (hrd : @Ne Nat r d) (hne : ∀ p ∈ rest, p.1 ≠ d) : Does w mean mg mb 57 3 [.ref r, .ref f] ((r, instObj 88 d) :: (d, ctlD w k1 k2 k3 k4 k5 pt (.ref l) (.int g u2)) :: rest) (fun v n => v = .none ∧ n = ((r, instObj 88 d) :: (d, ctlD w k1 k2 k3 k4 k5 pt (.ref l) (.int x u1)) :: rest)) := by
  unfold Does
  k_fill
  intro dp un gd cn cs a ccd cl outer A₀ base h₀ L m s Q E B F X N T hk hdp hu hret
  have hfd : @Ne Nat f d := hne _ hf
  replace N := News.cut (b := (r, instObj 88 d) :: (d, ctlD w k1 k2 k3 k4 k5 pt (.ref l) (.int g u2)) :: (f, tupo [.str "goaway" ka9, .int x u1]) :: rest) (News.with1 N (.tail _ (.tail _ hf))) (by intro p hp; simp only [List.mem_cons] at hp ⊢; rcases hp with h | h | h | h; exact .inr (.inl h); exact .inr (.inr (.inl h)); exact .inl h; exact .inr (.inr (.inr h)))
  refine wpAny_call ?_
  k_dflt cell_enter
  k_steps
  all_goals exact hret _ _ _ _ ⟨rfl, rfl⟩ (by assumption) (News.cut (by assumption) (by intro p hp; simp only [List.mem_cons] at hp ⊢; rcases hp with rfl | rfl | hp <;> repeat (first | exact Or.inl rfl | assumption | apply Or.inr)))
end

example : True := by (k_with "exec For Tuple IfExp cons nil" => (k_here; (rename Fr _ _ _ _ => lF'); (with_unfolding_all refine' For_turns lF' ?_; k_whole))); trivial
variable {w : World} {mean : ExcName → Option Value} {mg mb : Str → Option Value} {rest news : Led}
section
variable {r d l q : Addr} {k1 k2 k3 k4 k5 pt u1 u2 u3 : Tok} {sv gv : Value} {k : Nat} {x z : Int}
theorem let_none : Does w mean mg mb 85 1 [.ref r, .int z u1] ((r, instObj 88 d) :: (d, ctlD w k1 k2 k3 k4 k5 pt sv .none) :: rest) (fun v n => v = .bool true ∧ n = (r, instObj 88 d) :: (d, ctlD w k1 k2 k3 k4 k5 pt sv .none) :: rest) := by
  unfold Does
  k_fill
  (intro dp un gd cn cs a ccd cl outer A₀ base h₀ L m s Q E B F X N T hk hdp hu hret; refine wpAny_call ?_; k_dflt cell_enter)
  k_steps
  all_goals exact hret _ _ _ _ ⟨rfl, rfl⟩ (by assumption) (News.cut (by assumption) (by intro p hp; repeat (first | exact hp | apply List.mem_cons_of_mem)))
theorem let_some : Does w mean mg mb 85 1 [.ref r, .int z u1] ((r, instObj 88 d) :: (d, ctlD w k1 k2 k3 k4 k5 pt sv (.int x u2)) :: rest) (fun v n => v = .bool (decide (z < x)) ∧ n = (r, instObj 88 d) :: (d, ctlD w k1 k2 k3 k4 k5 pt sv (.int x u2)) :: rest) := by
  unfold Does
  k_fill
  (intro dp un gd cn cs a ccd cl outer A₀ base h₀ L m s Q E B F X N T hk hdp hu hret; refine wpAny_call ?_; k_dflt cell_enter)
  k_steps
  all_goals exact hret _ _ _ _ ⟨rfl, rfl⟩ (by assumption) (News.cut (by assumption) (by intro p hp; repeat (first | exact hp | apply List.mem_cons_of_mem)))
theorem setting0 (hl : (l, W.listOf #[] k) ∈ rest) : Does w mean mg mb 78 1 [.ref r, .int 6 u1, .none] ((r, instObj 88 d) :: (d, ctlD w k1 k2 k3 k4 k5 pt (.ref l) gv) :: rest) (fun v n => v = .none ∧ n = (r, instObj 88 d) :: (d, ctlD w k1 k2 k3 k4 k5 pt (.ref l) gv) :: rest) := by
  unfold Does
  k_fill
  intro dp un gd cn cs a ccd cl outer A₀ base h₀ L m s Q E B F X N T hk hdp hu hret
  replace N := News.with1 N (.tail _ (.tail _ hl))
  refine wpAny_call ?_
  k_dflt cell_enter
  k_steps
  rename Fr _ _ _ _ => F9
  rename News _ _ _ _ => N9
  refine iter_inv (Inv0 ((l, W.listOf #[] k) :: (r, instObj 88 d) :: (d, ctlD w k1 k2 k3 k4 k5 pt (.ref l) gv) :: rest)) rfl F9 N9 (.head _) (.mk rfl) (fun i m n h => by cases h; exact .head _) ?step ?done
  case step =>
    rintro i v I oI h tk m n hv
    simp at hv
  case done =>
    intro h tk m n hI9 F N
    cases hI9 with | mk hi0 =>
    k_steps
    all_goals exact hret _ _ _ _ ⟨rfl, rfl⟩ (by assumption) (News.cut (by assumption) (by intro p hp; repeat (first | exact hp | apply List.mem_cons_of_mem)))
theorem setting1 (hl : (l, W.listOf #[.ref q] k) ∈ rest) (hq : (q, tupo [.int 6 u2, .int x u3]) ∈ rest) : Does w mean mg mb 78 1 [.ref r, .int 6 u1, .none] ((r, instObj 88 d) :: (d, ctlD w k1 k2 k3 k4 k5 pt (.ref l) gv) :: rest) (fun v n => v = .int x u3 ∧ n = (r, instObj 88 d) :: (d, ctlD w k1 k2 k3 k4 k5 pt (.ref l) gv) :: rest) := by
  unfold Does
  k_fill
  intro dp un gd cn cs a ccd cl outer A₀ base h₀ L m s Q E B F X N T hk hdp hu hret
  replace N := News.with1 (News.with1 N (.tail _ (.tail _ hl))) (.tail _ (.tail _ (.tail _ hq)))
  refine wpAny_call ?_
  k_dflt cell_enter
  k_steps
  rename Fr _ _ _ _ => F9
  rename News _ _ _ _ => N9
  refine iter_inv (Inv0 ((q, tupo [.int 6 u2, .int x u3]) :: (l, W.listOf #[.ref q] k) :: (r, instObj 88 d) :: (d, ctlD w k1 k2 k3 k4 k5 pt (.ref l) gv) :: rest)) rfl F9 N9 (.tail _ (.head _)) (.mk rfl) (fun i m n h => by cases h; exact .tail _ (.head _)) ?step ?done
  case step =>
    intro i v I oI h tk m n hv hI9 hoff F N
    rw [hI9.z] at hv
    cases hI9 with | mk hi0 =>
    have hv' : v = .ref q := by simpa using hv.symm
    subst hv'
    k_steps
    all_goals exact hret _ _ _ _ ⟨rfl, rfl⟩ (by assumption) (News.cut (by assumption) (by intro p hp; repeat (first | exact hp | apply List.mem_cons_of_mem)))
  case done =>
    intro h tk m n hI9
    have e := hI9.z
    simp at e
end

section
variable {prog : Program} {w : World} {A : Around} {E : Value → Shared → Prop} {s : Shared}
theorem BytesAre.get {vs : List Value} {bs : List (Array UInt8)} (h : BytesAre vs bs) : ∀ {i : Nat}, i < bs.length → ∃ b t, vs[i]? = some (.bytes b t) ∧ b ∈ bs := by
  induction h with
  | nil => intro i hi; cases hi
  | cons y t _ ih =>
    intro i hi
    cases i with
    | zero => exact ⟨y, t, by simp, .head _⟩
    | succ i =>
      obtain ⟨b, t', h1, h2⟩ := ih (i := i) (by simpa using hi)
      exact ⟨b, t', by simpa using h1, .tail _ h2⟩
theorem BytesAre.length {vs : List Value} {bs : List (Array UInt8)} (h : BytesAre vs bs) : vs.length = bs.length := by
  induction h with
  | nil => rfl
  | cons _ _ _ ih => simp [ih]
theorem menu_bytes {value slice : PySem.Expr} {l : Addr} {vs : List Value} {bs : List (Array UInt8)} {r : Int} {u : Tok} {Q : Value → Shared → Prop} (hl : s.heap.IsList l vs.toArray) (hb : BytesAre vs bs) (h0 : 0 ≤ r) (h1 : r < bs.length) (h2 : bs.length ≤ 100) (h : ∀ b t, b ∈ bs → Q (.bytes b t) s)
    (hs : subscripted slice false (.ref l) (.int r u) = operate [.ref l, .int r u] (getItem (.ref l) (.int r u)) := by with_unfolding_all rfl) :
    wpAny (model prog w) A (subscriptTail value slice (.ref l) (.int r u)) Q E s := by
  obtain ⟨b, t, e, hm⟩ := hb.get (i := r.toNat) (by omega)
  exact tail_any hl.typeIs slot_list_getitem.lookup (wpAny_getItem_list hl h0 (by omega) (by simpa using e) (h b t hm)) hs
theorem menu_opt {value slice : PySem.Expr} {l : Addr} {vs : List Value} {bs : List (Array UInt8)} {r : Int} {u : Tok} {Q : Value → Shared → Prop} (hl : s.heap.IsList l (Value.none :: vs).toArray) (hb : BytesAre vs bs) (h0 : 0 ≤ r) (h1 : r < bs.length + 1) (h2 : bs.length ≤ 100) (ha : Q .none s) (h : ∀ b t, b ∈ bs → Q (.bytes b t) s)
    (hs : subscripted slice false (.ref l) (.int r u) = operate [.ref l, .int r u] (getItem (.ref l) (.int r u)) := by with_unfolding_all rfl) :
    wpAny (model prog w) A (subscriptTail value slice (.ref l) (.int r u)) Q E s := by
  by_cases hr : r = 0
  · subst hr
    exact tail_any hl.typeIs slot_list_getitem.lookup (wpAny_getItem_list hl (by decide) (by decide) (by simp) ha) hs
  · obtain ⟨b, t, e, hm⟩ := hb.get (i := r.toNat - 1) (by omega)
    refine tail_any hl.typeIs slot_list_getitem.lookup (wpAny_getItem_list hl h0 (by omega) ?_ (h b t hm)) hs
    obtain ⟨n, hn⟩ : ∃ n, r.toNat = n + 1 := ⟨r.toNat - 1, by omega⟩
    rw [hn] at e ⊢
    simpa using e
theorem menu_refs3 {value slice : PySem.Expr} {l : Addr} {x0 x1 x2 : Addr} {r : Int} {u : Tok} {Q : Value → Shared → Prop} (hl : s.heap.IsList l #[.ref x0, .ref x1, .ref x2]) (h0 : 0 ≤ r) (h1 : r < 3) (ha : Q (.ref x0) s) (hb : Q (.ref x1) s) (hc : Q (.ref x2) s)
    (hs : subscripted slice false (.ref l) (.int r u) = operate [.ref l, .int r u] (getItem (.ref l) (.int r u)) := by with_unfolding_all rfl) :
    wpAny (model prog w) A (subscriptTail value slice (.ref l) (.int r u)) Q E s := by
  obtain rfl | rfl | rfl : r = 0 ∨ r = 1 ∨ r = 2 := by omega
  · exact tail_any hl.typeIs slot_list_getitem.lookup (wpAny_getItem_list hl (by decide) (by decide) rfl ha) hs
  · exact tail_any hl.typeIs slot_list_getitem.lookup (wpAny_getItem_list hl (by decide) (by decide) rfl hb) hs
  · exact tail_any hl.typeIs slot_list_getitem.lookup (wpAny_getItem_list hl (by decide) (by decide) rfl hc) hs
end
example : True := by (k_with "subscriptTail Name Call ref int" => (k_here; k_dflt (refine menu_refs3 (News.isList (by k_asm) (by k_mem)) (by assumption) (by assumption) ?_ ?_ ?_))); trivial
example : True := by (k_with "call builtin:list.insert" => (k_here; (with_reducible show wpAny _ _ (call (Value.builtin _) [Value.ref _, Value.int _ _, _]) _ _ _); k_dflt (refine' kl_insert ?zzF ?zzN ?zzf rfl ?zzU ?zzz ?_; (case zzF => k_asm); (case zzN => k_asm); (case zzU => k_upd); (case zzf => (simp only [Builtin.List.listFitsIndex, Bool.and_eq_true, decide_eq_true_eq]; omega)); (case zzz => (rw [Array.length_toList, sizeLine_eq]; omega))); kl_rest)); trivial
example : True := by (k_with "subscriptTail Name Call ref int" => (k_here; k_dflt (refine menu_bytes (News.isList (by k_asm) (by k_mem)) (by repeat (first | exact BytesAre.nil | apply BytesAre.cons)) (by assumption) (by simp only [List.length_cons, List.length_nil]; omega) (by decide) ?_; intro mb' mt' mm'))); trivial
example : True := by (k_with "subscriptTail Name Call ref int" => (k_here; k_dflt (refine menu_opt (News.isList (by k_asm) (by k_mem)) (by repeat (first | exact BytesAre.nil | apply BytesAre.cons)) (by assumption) (by simp only [List.length_cons, List.length_nil]; omega) (by decide) ?_ ?_; rotate_left; intro mb' mt' mm'; rotate_right))); trivial
theorem rep_mul {prog : Program} {w : World} {A : Around} {E : Value → Shared → Prop} {s : Shared} {h₀ : Heap} {L l : Addr} {m : Str → Option Value} {news : Led} {v : Value} {k : Nat} {r : Int} {u : Tok} {Q : Value → Shared → Prop} (F : Fr h₀ L s.heap m) (N : News h₀ L s.heap news) (hm : (l, W.listOf #[v] k) ∈ news) (h0 : 0 ≤ r) (h1 : r < 3)
    (h : ∀ D h', Fr h₀ L h' m → News h₀ L h' ((D, W.listOf (List.replicate r.toNat v).toArray 0) :: news) → (∀ p ∈ news, p.1 < D) → Q (.ref D) { s with heap := h' }) : wpAny (model prog w) A (binaryOp .Mult (.ref l) (.int r u)) Q E s := by
  have hl : s.heap.IsList l [v].toArray := News.isList N hm
  exact KMa.mul F N hl (by omega) (by omega) (by simp; omega) (by simp) h
example : True := by (k_with "binaryOp Mult ref int" => (k_here; k_dflt (refine rep_mul (by k_asm) (by k_asm) (by k_mem) (by assumption) (by assumption) ?_); intro D' h' F' N' l1; (try k_lt l1))); trivial
example : True := by (k_with "binaryOp Add ref ref" => (k_here; k_dflt (refine' kmk_add_lit ?zzF ?zzN (News.isList ?zzN1 ?zzm1) (News.isList ?zzN2 ?zzm2) rfl ?_ ?zzz; (case zzF => k_asm); (case zzN => k_asm); (case zzN1 => k_asm); (case zzm1 => k_mem); (case zzN2 => k_asm); (case zzm2 => k_mem); (case zzz => (simp only [List.length_append, List.length_replicate, List.length_cons, List.length_nil, List.toList_toArray]; (have := sizeLine_eq); omega)); intro D' h' F' N' l1; (try k_lt l1)))); trivial
example : True := by (k_with "call ref" => (k_here; (with_reducible show wpAny _ _ (call (Value.ref 249) _) _ _ _); k_dflt (refine' dz1 (take_any ?zzqU ?zzqb ?zzqs ?zzqI ?zzql ?zzq0 ?zzq1 ?zzqn) (u_bx) ?_; ((case zzqU => k_updF); (case zzqb => assumption); (case zzqs => k_mem); (case zzqI => assumption); (case zzql => assumption); (case zzq0 => first | decide | omega); (case zzq1 => first | decide | omega); (case zzqn => first | assumption | k_ne))); (intro r9' t9' o9' hr0' hr1' hbo' h' tk' F' N'; ((try dsimp only at N')); (try k_sweep)))); trivial
section
variable {M : Model} {A : Around} {E : Value → Shared → Prop} {s : Shared} {env : Env} {st : Stmt} {more : List Stmt} {Q : Flow → Shared → Prop}
def evNames (fa : Addr) (v1 v2 v3 v4 : Option Value) : List (Str × Option Value) := [("found", some (.ref fa)), ("turn", v1), ("status", v2), ("fields", v3), ("length", v4)]
/-- the state between two statements of the def that draws events -/
inductive EvMid (h₀ : Heap) (L : Addr) (m₀ : Str → Option Value) (b sl : Addr) (so : Obj) (rst : Led) (n : Nat) (s : Shared) : Shared → Prop
  | mk (h' : Heap) (tk' : Nat) (fa : Addr) (its : Array Value) (k : Nat) (evs : List Ev) (o' : Obj) (X : Led) (v1 v2 v3 v4 : Option Value) : Fr h₀ L h' (over (evNames fa v1 v2 v3 v4) m₀) → News h₀ L h' ((fa, W.listOf its k) :: (b, o') :: X) → @Ne Nat fa b → (∀ p ∈ X, p.1 ≠ b) → (∀ p ∈ X, p.1 ≠ fa) →
    BoxO sl o' → (sl, so) ∈ X → (∀ p ∈ rst, p ∈ X) → Prs (EvAt X) its.toList evs → its.size ≤ n → EvMid h₀ L m₀ b sl so rst n s { s with heap := h', toks := tk' }
theorem ev_cut {h₀ : Heap} {m₀ : Str → Option Value} (b sl : Addr) (so : Obj) (rst : Led) (n : Nat)
    (h1 : ∀ Q' : Flow → Shared → Prop, (∀ s', EvMid h₀ env.locals m₀ b sl so rst n s s' → Q' .next s') → wpAny M A (exec st env) Q' E s)
    (h2 : ∀ h' tk' fa its k evs o' X v1 v2 v3 v4, Fr h₀ env.locals h' (over (evNames fa v1 v2 v3 v4) m₀) → News h₀ env.locals h' ((fa, W.listOf its k) :: (b, o') :: X) → @Ne Nat fa b → (∀ p ∈ X, p.1 ≠ b) → (∀ p ∈ X, p.1 ≠ fa) →
      BoxO sl o' → (sl, so) ∈ X → (∀ p ∈ rst, p ∈ X) → Prs (EvAt X) its.toList evs → its.size ≤ n → wpAny M A (execs more env) Q E { s with heap := h', toks := tk' }) :
    wpAny M A (execs (st :: more) env) Q E s :=
  execs_cut _ h1 fun s' h9 => by
    cases h9 with
    | mk h' tk' fa its k evs o' X v1 v2 v3 v4 x1 x2 x3 x4 x5 x6 x7 x8 x9 x10 => exact h2 h' tk' fa its k evs o' X v1 v2 v3 v4 x1 x2 x3 x4 x5 x6 x7 x8 x9 x10
theorem ev_cut1 {h₀ : Heap} {m₀ : Str → Option Value} (_F : Fr h₀ env.locals s.heap m₀) (b sl : Addr) (so : Obj) (rst : Led) (n : Nat)
    (h1 : ∀ Q' : Flow → Shared → Prop, (∀ s', EvMid h₀ env.locals m₀ b sl so rst n s s' → Q' .next s') → wpAny M A (exec st env) Q' E s)
    (h2 : ∀ h' tk' fa its k evs o' X v1 v2 v3 v4, Fr h₀ env.locals h' (over (evNames fa v1 v2 v3 v4) m₀) → News h₀ env.locals h' ((fa, W.listOf its k) :: (b, o') :: (sl, so) :: X) → @Ne Nat fa b → @Ne Nat sl b → @Ne Nat sl fa → (∀ p ∈ X, p.1 ≠ b) → (∀ p ∈ X, p.1 ≠ fa) →
      BoxO sl o' → (sl, so) ∈ X → (∀ p ∈ rst, p ∈ X) → Prs (EvAt X) its.toList evs → its.size ≤ n → wpAny M A (execs more env) Q E { s with heap := h', toks := tk' }) :
    wpAny M A (execs (st :: more) env) Q E s := ev_cut b sl so rst n h1 fun h' tk' fa its k evs o' X v1 v2 v3 v4 x1 x2 x3 x4 x5 x6 x7 x8 x9 x10 => h2 h' tk' fa its k evs o' X v1 v2 v3 v4 x1 (fun p hp => x2 p (by
    rcases List.mem_cons.mp hp with rfl | hp
    · exact .head _
    · rcases List.mem_cons.mp hp with rfl | hp
      · exact .tail _ (.head _)
      · rcases List.mem_cons.mp hp with rfl | hp
        · exact .tail _ (.tail _ x7)
        · exact .tail _ (.tail _ hp))) x3 (x4 _ x7) (x5 _ x7) x4 x5 x6 x7 x8 x9 x10
theorem ev_cut2 {h₀ : Heap} {m₀ : Str → Option Value} {fa : Addr} {v1 v2 v3 v4 : Option Value} (_F : Fr h₀ env.locals s.heap (over (evNames fa v1 v2 v3 v4) m₀)) (b sl : Addr) (so : Obj) (rst : Led) (n : Nat)
    (h1 : ∀ Q' : Flow → Shared → Prop, (∀ s', EvMid h₀ env.locals m₀ b sl so rst n s s' → Q' .next s') → wpAny M A (exec st env) Q' E s)
    (h2 : ∀ h' tk' fa its k evs o' X v1 v2 v3 v4, Fr h₀ env.locals h' (over (evNames fa v1 v2 v3 v4) m₀) → News h₀ env.locals h' ((fa, W.listOf its k) :: (b, o') :: (sl, so) :: X) → @Ne Nat fa b → @Ne Nat sl b → @Ne Nat sl fa → (∀ p ∈ X, p.1 ≠ b) → (∀ p ∈ X, p.1 ≠ fa) →
      BoxO sl o' → (sl, so) ∈ X → (∀ p ∈ rst, p ∈ X) → Prs (EvAt X) its.toList evs → its.size ≤ n → wpAny M A (execs more env) Q E { s with heap := h', toks := tk' }) :
    wpAny M A (execs (st :: more) env) Q E s := ev_cut b sl so rst n h1 fun h' tk' fa its k evs o' X v1 v2 v3 v4 x1 x2 x3 x4 x5 x6 x7 x8 x9 x10 => h2 h' tk' fa its k evs o' X v1 v2 v3 v4 x1 (fun p hp => x2 p (by
    rcases List.mem_cons.mp hp with rfl | hp
    · exact .head _
    · rcases List.mem_cons.mp hp with rfl | hp
      · exact .tail _ (.head _)
      · rcases List.mem_cons.mp hp with rfl | hp
        · exact .tail _ (.tail _ x7)
        · exact .tail _ (.tail _ hp))) x3 (x4 _ x7) (x5 _ x7) x4 x5 x6 x7 x8 x9 x10
theorem ev_cut4 {st2 st3 st4 : Stmt} {h₀ : Heap} {m₀ : Str → Option Value} {fa : Addr} {v1 v2 v3 v4 : Option Value} (_F : Fr h₀ env.locals s.heap (over (evNames fa v1 v2 v3 v4) m₀)) (b sl : Addr) (so : Obj) (rst : Led) (n : Nat)
    (h1 : ∀ Q' : Flow → Shared → Prop, (∀ s', EvMid h₀ env.locals m₀ b sl so rst n s s' → Q' .next s') → wpAny M A (execs [st, st2, st3, st4] env) Q' E s)
    (h2 : ∀ h' tk' fa its k evs o' X v1 v2 v3 v4, Fr h₀ env.locals h' (over (evNames fa v1 v2 v3 v4) m₀) → News h₀ env.locals h' ((fa, W.listOf its k) :: (b, o') :: (sl, so) :: X) → @Ne Nat fa b → @Ne Nat sl b → @Ne Nat sl fa → (∀ p ∈ X, p.1 ≠ b) → (∀ p ∈ X, p.1 ≠ fa) →
      BoxO sl o' → (sl, so) ∈ X → (∀ p ∈ rst, p ∈ X) → Prs (EvAt X) its.toList evs → its.size ≤ n → wpAny M A (execs more env) Q E { s with heap := h', toks := tk' }) :
    wpAny M A (execs (st :: st2 :: st3 :: st4 :: more) env) Q E s := execs_cutL (l2 := more) [st, st2, st3, st4] (EvMid h₀ env.locals m₀ b sl so rst n s) h1 fun s9 h9 => by
  cases h9 with
  | mk h' tk' fa its k evs o' X v1 v2 v3 v4 x1 x2 x3 x4 x5 x6 x7 x8 x9 x10 =>
    exact h2 h' tk' fa its k evs o' X v1 v2 v3 v4 x1 (fun p hp => x2 p (by
      rcases List.mem_cons.mp hp with rfl | hp
      · exact .head _
      · rcases List.mem_cons.mp hp with rfl | hp
        · exact .tail _ (.head _)
        · rcases List.mem_cons.mp hp with rfl | hp
          · exact .tail _ (.tail _ x7)
          · exact .tail _ (.tail _ hp))) x3 (x4 _ x7) (x5 _ x7) x4 x5 x6 x7 x8 x9 x10
end
theorem ev_mk {h₀ h : Heap} {L : Addr} {m₀ m : Str → Option Value} {b sl fa : Addr} {so o' : Obj} {rst al al1 X : Led} {n k tk : Nat} {its : Array Value} {evs : List Ev} {v1 v2 v3 v4 : Option Value} {s : Shared}
    (F : Fr h₀ L h m) (N : News h₀ L h al) (hm : m = over (evNames fa v1 v2 v3 v4) m₀) (P : Pick (fa, W.listOf its k) al al1) (P2 : Pick (b, o') al1 X) (hb : BoxO sl o') (hsl : (sl, so) ∈ X)
    (hr : ∀ p ∈ rst, p ∈ X) (hE : Prs (EvAt X) its.toList evs) (hz : its.size ≤ n) : EvMid h₀ L m₀ b sl so rst n s { s with heap := h, toks := tk } := by
  subst hm
  exact (.mk h tk fa its k evs o' X v1 v2 v3 v4 F (News.cut N fun p hp => P.mem.1 p (by
    rcases List.mem_cons.mp hp with rfl | hp
    · exact .head _
    · exact .tail _ (P2.mem.1 p hp))) (P.mem.2 _ (P2.mem.1 _ (.head _))).symm P2.mem.2 (fun p hp => P.mem.2 p (P2.mem.1 p (.tail _ hp))) hb hsl hr hE hz)
theorem Prs.push {α : Type} {R : α → Value → Prop} {its : Array Value} {as : List α} {v : Value} {a : α} (h : Prs R its.toList as) (hv : R a v) : Prs R (its.push v).toList (as ++ [a]) := by
  rw [Array.toList_push]
  exact h.append (.cons hv .nil)
theorem pair_at {X : Led} {t : Addr} {n x : Array UInt8} {tn tx : Tok} {vs : List Value} (h : (t, tupo vs) ∈ X) (e : vs = [.bytes n tn, .bytes x tx]) : PairAt X (n, x) (.ref t) := ⟨t, _, 0, tn, tx, rfl, h, by rw [e]⟩
theorem ev_heads {X : Led} {t fa : Addr} {kt : Tok} {fl : List Fld} (h : (t, tupo [.str "heads" kt, .ref fa]) ∈ X) (hf : FieldsAt X fl fa) (wf : WF fl) (hs : Small fl) : EvAt X (.heads fl) (.ref t) := ⟨t, 0, kt, .ref fa, rfl, h, fa, rfl, hf, wf, hs⟩
theorem ev_data {X : Led} {t : Addr} {kt u : Tok} {n : Int} (h : (t, tupo [.str "data" kt, .int n u]) ∈ X) (h0 : 0 ≤ n) (h1 : n ≤ 5) : EvAt X (.data n) (.ref t) := ⟨t, 0, kt, _, rfl, h, u, rfl, h0, h1⟩
theorem ev_other {X : Led} {t : Addr} {kt u : Tok} {n : Int} (h : (t, tupo [.str "other" kt, .int n u]) ∈ X) : EvAt X (.other n) (.ref t) := ⟨t, 0, kt, _, rfl, h, u, rfl⟩
theorem ev_settings {X : Led} {t : Addr} {kt u : Tok} {n : Int} (h : (t, tupo [.str "settings" kt, .int n u]) ∈ X) : EvAt X (.settings n) (.ref t) := ⟨t, 0, kt, _, rfl, h, u, rfl⟩
abbrev clenN' : Array UInt8 := #[99,111,110,116,101,110,116,45,108,101,110,103,116,104]
theorem small_of {fl : List Fld} (h : ∀ p ∈ fl, (p.1 ∈ namesC ∨ p.1 = colS) ∧ p.2 ∈ valsC) : Small fl := by
  intro p hp
  obtain ⟨h1, h2⟩ := h p hp
  refine ⟨?_, (valsC_good _ h2).1⟩
  rcases h1 with h1 | h1
  · exact (namesC_good _ h1).1.2
  · rw [h1]; decide
theorem stat_val {st : Array UInt8} (h : st ∈ statC ∨ st = #[50, 48, 120]) : st ∈ valsC := by
  rcases h with h | rfl
  · exact (statC_good st h).2.1
  · decide +kernel
theorem vals_stat {st : Array UInt8} {tl : List Fld} : valsOf ((colS, st) :: tl) clenN = valsOf tl clenN := by
  unfold valsOf
  have e : (colS.toList == clenN.toList) = false := by decide +kernel
  simp only [List.filter_cons, e, Bool.false_eq_true, if_false]
theorem ev_stat {X : Led} {t fa : Addr} {kt : Tok} {st : Array UInt8} {tl : List Fld} (h : (t, tupo [.str "heads" kt, .ref fa]) ∈ X) (hf : FieldsAt X ((colS, st) :: tl) fa) (hst : st ∈ statC ∨ st = #[50, 48, 120]) (hp : Plain tl) (hv : valsOf tl clenN = [] ∨ ∃ b ∈ clensC, valsOf tl clenN = [b]) : EvAt X (.heads ((colS, st) :: tl)) (.ref t) :=
  ev_heads h hf (.stat st tl hst hp (by rw [vals_stat]; exact hv)) (small_of fun p hp' => by
    rcases List.mem_cons.mp hp' with rfl | hp'
    · exact ⟨.inr rfl, stat_val hst⟩
    · exact ⟨.inl (hp _ hp').1, (hp _ hp').2⟩)
theorem ev_plain {X : Led} {t fa : Addr} {kt : Tok} {fl : List Fld} (h : (t, tupo [.str "heads" kt, .ref fa]) ∈ X) (hf : FieldsAt X fl fa) (hp : Plain fl) (hne : fl ≠ []) (hv : valsOf fl clenN = []) : EvAt X (.heads fl) (.ref t) :=
  ev_heads h hf (.plain fl hp hne hv) (small_of fun p hp' => ⟨.inl (hp _ hp').1, (hp _ hp').2⟩)
theorem plain_nil : Plain [] := fun _ h => nomatch h
theorem plain_cons {n x : Array UInt8} {tl : List Fld} (h1 : n ∈ namesC) (h2 : x ∈ valsC) (h : Plain tl) : Plain ((n, x) :: tl) := fun p hp => by
  rcases List.mem_cons.mp hp with rfl | hp
  · exact ⟨h1, h2⟩
  · exact h p hp
def nameF : Fld := (#[110,97,109,101], #[97,97,97,97,97,97,97,97,97,97,97,97,97,97,97,97,97,97,97,97,97,97,97,97,97,97,97,97,97,97])
theorem plain_rep {k : Nat} {tl : List Fld} (h : Plain tl) : Plain (List.replicate k nameF ++ tl) := by
  induction k with
  | zero => exact h
  | succ k ih => exact plain_cons (by decide +kernel) (by decide +kernel) ih
theorem vals_rep {k : Nat} {tl : List Fld} : valsOf (List.replicate k nameF ++ tl) clenN = valsOf tl clenN := by
  induction k with
  | zero => rfl
  | succ k ih =>
    rw [← ih]
    show valsOf (nameF :: (List.replicate k nameF ++ tl)) clenN = _
    unfold valsOf
    rw [List.filter_cons_of_neg (by decide +kernel)]
theorem prs_rep {α : Type} {R : α → Value → Prop} {v : Value} {a : α} (h : R a v) : ∀ k : Nat, Prs R (List.replicate k v) (List.replicate k a)
  | 0 => .nil
  | k + 1 => .cons h (prs_rep h k)
theorem ev_main {X : Led} {t fa d5 d4 : Addr} {kt tn tx un ux : Tok} {st : Array UInt8} {k j : Nat} {extv : List Value} {ext : List Fld} (hst : st ∈ statC ∨ st = #[50, 48, 120]) (hext : Prs (PairAt X) extv ext) (hp : Plain ext) (hv : valsOf ext clenN = [] ∨ ∃ b ∈ clensC, valsOf ext clenN = [b]) (hj : ext.length ≤ 8)
    (h : (t, tupo [.str "heads" kt, .ref fa]) ∈ X) (hfa : (fa, W.listOf ((Value.ref d5 :: List.replicate k (Value.ref d4)) ++ extv).toArray j) ∈ X) (h5 : (d5, tupo [.bytes colS tn, .bytes st tx]) ∈ X) (h4 : (d4, tupo [.bytes nameF.1 un, .bytes nameF.2 ux]) ∈ X) (hk : k ≤ 20) :
    EvAt X (.heads ((colS, st) :: (List.replicate k nameF ++ ext))) (.ref t) := by
  refine ev_stat h ⟨_, _, hfa, ?_, ?_⟩ hst (plain_rep hp) (by rw [vals_rep]; exact hv)
  · exact (Prs.cons (pair_at h5 rfl) (prs_rep (pair_at h4 rfl) k)).append hext
  · have := hext.length
    simp only [List.size_toArray, List.length_append, List.length_cons, List.length_replicate]
    omega
theorem dmenu : ∀ n : Nat, (0 : Int) ≤ ([5, 2, 3, 0] : List Int).getD n 0 ∧ ([5, 2, 3, 0] : List Int).getD n 0 ≤ 5
  | 0 => by decide
  | 1 => by decide
  | 2 => by decide
  | 3 => by decide
  | n + 4 => by simp
theorem Prs.take {α : Type} {R : α → Value → Prop} {vs as} (h : Prs R vs as) (i : Nat) : Prs R (vs.take i) (as.take i) := by
  induction h generalizing i with
  | nil => simp; exact .nil
  | cons hr _ ih =>
    cases i with
    | zero => simp; exact .nil
    | succ i => simp; exact .cons hr (ih i)
theorem Prs.drop {α : Type} {R : α → Value → Prop} {vs as} (h : Prs R vs as) (i : Nat) : Prs R (vs.drop i) (as.drop i) := by
  induction h generalizing i with
  | nil => simp; exact .nil
  | cons hr h' ih =>
    cases i with
    | zero => simp; exact .cons hr h'
    | succ i => simp; exact ih i
theorem Prs.ins {α : Type} {R : α → Value → Prop} {vs as} (h : Prs R vs as) {x : Int} {y : Value} {a : α} (hy : R a y) : ∃ bs, Prs R (kl_ins vs x y) bs := ⟨_, (h.take _).append (.cons hy (h.drop _))⟩
example : True := by (k_with "k9ze_fits" => ((with_reducible show Array.size _ ≤ sizeLine); (rw [sizeLine_eq]); (try rw [Array.size_push]); omega)); trivial

variable {w : World} {mean : ExcName → Option Value} {mg mb : Str → Option Value} {rest news : Led}
def EvPost (sl b : Addr) (so : Obj) (rst : Led) (v : Value) (n : Led) : Prop := ∃ fa evs X o', v = .ref fa ∧ n = (b, o') :: X ∧ (∀ p ∈ X, p.1 ≠ b) ∧ BoxO sl o' ∧ (sl, so) ∈ X ∧ (∀ p ∈ rst, p ∈ X) ∧ EventsAt X evs fa
theorem st_menu3 : ∀ x ∈ ([#[49, 48, 51], #[49, 48, 48], #[49, 48, 49]] : List (Array UInt8)), x ∈ statC ∨ x = #[50, 48, 120] := by decide +kernel
theorem st_menu7 : ∀ x ∈ ([#[50, 48, 48], #[52, 48, 52], #[50, 48, 52], #[50, 48, 120], #[50, 48, 48], #[51, 48, 52], #[49, 48, 51]] : List (Array UInt8)), x ∈ statC ∨ x = #[50, 48, 120] := by decide +kernel
theorem len_menu4 : ∀ x ∈ ([#[53], #[51], #[48], #[53]] : List (Array UInt8)), x ∈ clensC ∧ x ∈ valsC := by decide +kernel
theorem vals_len {x : Array UInt8} : valsOf [(clenN, x)] clenN = [x] := by
  unfold valsOf
  have e : (clenN.toList == clenN.toList) = true := by decide +kernel
  simp only [List.filter_cons, e, if_true, List.filter_nil, List.map_cons, List.map_nil]
theorem events_spec {b sl : Addr} {o : Obj} {c : Nat} {vs : List Value} {ns : List Int} (hI : IntsAre vs ns) (hl : ns.length ≤ 40) (hb : BoxO sl o) (hbs : @Ne Nat sl b) (hs : (sl, W.listOf vs.toArray c) ∈ rest) (hne : ∀ p ∈ rest, p.1 ≠ b) :
    Does w mean mg mb 263 3 [.ref b] ((b, o) :: rest) (EvPost sl b (W.listOf vs.toArray c) rest) := by
  unfold Does
  k_fill
  (intro dp un gd cn cs a ccd cl outer A₀ base h₀ L m s Q E B F X N T hk hdp hu hret; refine wpAny_call ?_; k_dflt cell_enter)
  rename Fr _ _ _ _ => F9
  refine ev_cut1 F9 b sl (W.listOf vs.toArray c) rest 0 ?_ ?_
  · intro Q1 hQ1
    have hrst : ∀ p ∈ rest, p ∈ rest := fun _ h => h
    k_steps
    exact hQ1 _ (ev_mk (by assumption) (by assumption) (over_end2 _ (by unfold evNames; repeat (first | exact agr_nil | refine agr_cons rfl ?_)) (fun z hz => by unfold evNames at hz; (repeat (first | with_reducible exact rfl | with_reducible exact over_nil | refine (if_neg (by first | with_reducible exact off1 hz | with_reducible exact off1 (off2 hz) | with_reducible exact off1 (off2 (off2 hz)) | with_reducible exact off1 (off2 (off2 (off2 hz))) | with_reducible exact off1 (off2 (off2 (off2 (off2 hz)))) | with_reducible exact off1 (off2 (off2 (off2 (off2 (off2 hz))))) | with_reducible exact off1 (off2 (off2 (off2 (off2 (off2 (off2 hz)))))) | with_reducible exact off1 (off2 (off2 (off2 (off2 (off2 (off2 (off2 hz))))))) | with_reducible exact off1 (off2 (off2 (off2 (off2 (off2 (off2 (off2 (off2 hz)))))))) | with_reducible exact off1 (off2 (off2 (off2 (off2 (off2 (off2 (off2 (off2 (off2 hz))))))))))).trans ?_)) <;> exact rfl)) (by k_updF) (by k_updF) (by assumption) (by k_mem) (by intro p hp; replace hp := hrst p hp; repeat (first | exact hp | apply List.mem_cons_of_mem)) (.nil) (by first | exact Nat.le_refl _ | ((repeat rw [Array.size_push]) <;> omega) | (simp only [List.size_toArray, List.length_append, List.length_cons, List.length_take, List.length_drop, Array.length_toList]; omega)))
  · intro h8 tk8 fa its k evs o8 X8 v1 v2 v3 v4 F8 N8 hfb hsb hsf hXb hXf hbo hsl hrst hE hz
    replace F8 : Fr _ _ _ (over [("found", some (.ref fa)), ("turn", v1), ("status", v2), ("fields", v3), ("length", v4)] _) := F8
    clear F9
    refine ev_cut2 F8 b sl (W.listOf vs.toArray c) rest 1 ?_ ?_
    · intro Q1 hQ1
      k_steps
      · exact hQ1 _ (ev_mk (by assumption) (by assumption) (over_end2 _ (by unfold evNames; repeat (first | exact agr_nil | refine agr_cons rfl ?_)) (fun z hz => by unfold evNames at hz; (repeat (first | with_reducible exact rfl | with_reducible exact over_nil | refine (if_neg (by first | with_reducible exact off1 hz | with_reducible exact off1 (off2 hz) | with_reducible exact off1 (off2 (off2 hz)) | with_reducible exact off1 (off2 (off2 (off2 hz))) | with_reducible exact off1 (off2 (off2 (off2 (off2 hz)))) | with_reducible exact off1 (off2 (off2 (off2 (off2 (off2 hz))))) | with_reducible exact off1 (off2 (off2 (off2 (off2 (off2 (off2 hz)))))) | with_reducible exact off1 (off2 (off2 (off2 (off2 (off2 (off2 (off2 hz))))))) | with_reducible exact off1 (off2 (off2 (off2 (off2 (off2 (off2 (off2 (off2 hz)))))))) | with_reducible exact off1 (off2 (off2 (off2 (off2 (off2 (off2 (off2 (off2 (off2 hz))))))))))).trans ?_)) <;> exact rfl)) (by k_updF) (by k_updF) (by assumption) (by k_mem) (by intro p hp; replace hp := hrst p hp; repeat (first | exact hp | apply List.mem_cons_of_mem)) ((hE.mono fun _ _ => EvAt.mono (by intro p hp; repeat (first | exact hp | apply List.mem_cons_of_mem))).push (ev_stat (by k_mem) ⟨_, _, by k_mem, .cons (pair_at (by k_mem) rfl) (.cons (pair_at (by k_mem) rfl) .nil), Nat.le_of_ble_eq_true rfl⟩ (st_menu3 _ (by assumption)) (plain_cons (by decide +kernel) (by decide +kernel) plain_nil) (.inl (by decide +kernel)))) (by first | exact Nat.le_refl _ | ((repeat rw [Array.size_push]) <;> omega) | (simp only [List.size_toArray, List.length_append, List.length_cons, List.length_take, List.length_drop, Array.length_toList]; omega)))
      · exact hQ1 _ (ev_mk (by assumption) (by assumption) (over_end2 _ (by unfold evNames; repeat (first | exact agr_nil | refine agr_cons rfl ?_)) (fun z hz => by unfold evNames at hz; (repeat (first | with_reducible exact rfl | with_reducible exact over_nil | refine (if_neg (by first | with_reducible exact off1 hz | with_reducible exact off1 (off2 hz) | with_reducible exact off1 (off2 (off2 hz)) | with_reducible exact off1 (off2 (off2 (off2 hz))) | with_reducible exact off1 (off2 (off2 (off2 (off2 hz)))) | with_reducible exact off1 (off2 (off2 (off2 (off2 (off2 hz))))) | with_reducible exact off1 (off2 (off2 (off2 (off2 (off2 (off2 hz)))))) | with_reducible exact off1 (off2 (off2 (off2 (off2 (off2 (off2 (off2 hz))))))) | with_reducible exact off1 (off2 (off2 (off2 (off2 (off2 (off2 (off2 (off2 hz)))))))) | with_reducible exact off1 (off2 (off2 (off2 (off2 (off2 (off2 (off2 (off2 (off2 hz))))))))))).trans ?_)) <;> exact rfl)) (by k_updF) (by k_updF) (by assumption) (by k_mem) (by intro p hp; replace hp := hrst p hp; repeat (first | exact hp | apply List.mem_cons_of_mem)) ((hE.mono fun _ _ => EvAt.mono (by intro p hp; repeat (first | exact hp | apply List.mem_cons_of_mem)))) (by first | exact Nat.le_refl _ | ((repeat rw [Array.size_push]) <;> omega) | (simp only [List.size_toArray, List.length_append, List.length_cons, List.length_take, List.length_drop, Array.length_toList]; omega)))
    · clear F8 N8 hfb hsb hsf hXb hXf hbo hsl hrst hE hz
      clear v1 v2 v3 v4 X8 o8 evs k its fa
      intro h8 tk8 fa its k evs o8 X8 v1 v2 v3 v4 F8 N8 hfb hsb hsf hXb hXf hbo hsl hrst hE hz
      replace F8 : Fr _ _ _ (over [("found", some (.ref fa)), ("turn", v1), ("status", v2), ("fields", v3), ("length", v4)] _) := F8
      refine ev_cut4 F8 b sl (W.listOf vs.toArray c) rest 2 ?_ ?_
      · intro Q1 hQ1
        k_steps
        · exact hQ1 _ (ev_mk (by assumption) (by assumption) (over_end2 _ (by unfold evNames; repeat (first | exact agr_nil | refine agr_cons rfl ?_)) (fun z hz => by unfold evNames at hz; (repeat (first | with_reducible exact rfl | with_reducible exact over_nil | refine (if_neg (by first | with_reducible exact off1 hz | with_reducible exact off1 (off2 hz) | with_reducible exact off1 (off2 (off2 hz)) | with_reducible exact off1 (off2 (off2 (off2 hz))) | with_reducible exact off1 (off2 (off2 (off2 (off2 hz)))) | with_reducible exact off1 (off2 (off2 (off2 (off2 (off2 hz))))) | with_reducible exact off1 (off2 (off2 (off2 (off2 (off2 (off2 hz)))))) | with_reducible exact off1 (off2 (off2 (off2 (off2 (off2 (off2 (off2 hz))))))) | with_reducible exact off1 (off2 (off2 (off2 (off2 (off2 (off2 (off2 (off2 hz)))))))) | with_reducible exact off1 (off2 (off2 (off2 (off2 (off2 (off2 (off2 (off2 (off2 hz))))))))))).trans ?_)) <;> exact rfl)) (by k_updF) (by k_updF) (by assumption) (by k_mem) (by intro p hp; replace hp := hrst p hp; repeat (first | exact hp | apply List.mem_cons_of_mem)) ((hE.mono fun _ _ => EvAt.mono (by intro p hp; repeat (first | exact hp | apply List.mem_cons_of_mem))).push (ev_main (st_menu7 _ (by assumption)) .nil plain_nil (.inl rfl) (by decide) (by k_mem) (by k_mem) (by k_mem) (by k_mem) (by omega))) (by first | exact Nat.le_refl _ | ((repeat rw [Array.size_push]) <;> omega) | (simp only [List.size_toArray, List.length_append, List.length_cons, List.length_take, List.length_drop, Array.length_toList]; omega)))
        · have hlen := len_menu4 _ (by assumption)
          exact hQ1 _ (ev_mk (by assumption) (by assumption) (over_end2 _ (by unfold evNames; repeat (first | exact agr_nil | refine agr_cons rfl ?_)) (fun z hz => by unfold evNames at hz; (repeat (first | with_reducible exact rfl | with_reducible exact over_nil | refine (if_neg (by first | with_reducible exact off1 hz | with_reducible exact off1 (off2 hz) | with_reducible exact off1 (off2 (off2 hz)) | with_reducible exact off1 (off2 (off2 (off2 hz))) | with_reducible exact off1 (off2 (off2 (off2 (off2 hz)))) | with_reducible exact off1 (off2 (off2 (off2 (off2 (off2 hz))))) | with_reducible exact off1 (off2 (off2 (off2 (off2 (off2 (off2 hz)))))) | with_reducible exact off1 (off2 (off2 (off2 (off2 (off2 (off2 (off2 hz))))))) | with_reducible exact off1 (off2 (off2 (off2 (off2 (off2 (off2 (off2 (off2 hz)))))))) | with_reducible exact off1 (off2 (off2 (off2 (off2 (off2 (off2 (off2 (off2 (off2 hz))))))))))).trans ?_)) <;> exact rfl)) (by k_updF) (by k_updF) (by assumption) (by k_mem) (by intro p hp; replace hp := hrst p hp; repeat (first | exact hp | apply List.mem_cons_of_mem)) ((hE.mono fun _ _ => EvAt.mono (by intro p hp; repeat (first | exact hp | apply List.mem_cons_of_mem))).push (ev_main (st_menu7 _ (by assumption)) (.cons (pair_at (by k_mem) rfl) .nil) (plain_cons (by decide +kernel) hlen.2 plain_nil) (.inr ⟨_, hlen.1, vals_len⟩) (Nat.le_of_ble_eq_true rfl) (by k_mem) (by k_mem) (by k_mem) (by k_mem) (by omega))) (by first | exact Nat.le_refl _ | ((repeat rw [Array.size_push]) <;> omega) | (simp only [List.size_toArray, List.length_append, List.length_cons, List.length_take, List.length_drop, Array.length_toList]; omega)))
      · clear F8 N8 hfb hsb hsf hXb hXf hbo hsl hrst hE hz
        clear v1 v2 v3 v4 X8 o8 evs k its fa
        intro h8 tk8 fa its k evs o8 X8 v1 v2 v3 v4 F8 N8 hfb hsb hsf hXb hXf hbo hsl hrst hE hz
        replace F8 : Fr _ _ _ (over [("found", some (.ref fa)), ("turn", v1), ("status", v2), ("fields", v3), ("length", v4)] _) := F8
        refine ev_cut2 F8 b sl (W.listOf vs.toArray c) rest 4 ?_ ?_
        · intro Q1 hQ1
          k_steps
          · exact hQ1 _ (ev_mk (by assumption) (by assumption) (over_end2 _ (by unfold evNames; repeat (first | exact agr_nil | refine agr_cons rfl ?_)) (fun z hz => by unfold evNames at hz; (repeat (first | with_reducible exact rfl | with_reducible exact over_nil | refine (if_neg (by first | with_reducible exact off1 hz | with_reducible exact off1 (off2 hz) | with_reducible exact off1 (off2 (off2 hz)) | with_reducible exact off1 (off2 (off2 (off2 hz))) | with_reducible exact off1 (off2 (off2 (off2 (off2 hz)))) | with_reducible exact off1 (off2 (off2 (off2 (off2 (off2 hz))))) | with_reducible exact off1 (off2 (off2 (off2 (off2 (off2 (off2 hz)))))) | with_reducible exact off1 (off2 (off2 (off2 (off2 (off2 (off2 (off2 hz))))))) | with_reducible exact off1 (off2 (off2 (off2 (off2 (off2 (off2 (off2 (off2 hz)))))))) | with_reducible exact off1 (off2 (off2 (off2 (off2 (off2 (off2 (off2 (off2 (off2 hz))))))))))).trans ?_)) <;> exact rfl)) (by k_updF) (by k_updF) (by assumption) (by k_mem) (by intro p hp; replace hp := hrst p hp; repeat (first | exact hp | apply List.mem_cons_of_mem)) (((hE.mono fun _ _ => EvAt.mono (by intro p hp; repeat (first | exact hp | apply List.mem_cons_of_mem))).push (ev_data (by k_mem) (dmenu _).1 (dmenu _).2)).push (ev_data (by k_mem) (dmenu _).1 (dmenu _).2)) (by first | exact Nat.le_refl _ | ((repeat rw [Array.size_push]) <;> omega) | (simp only [List.size_toArray, List.length_append, List.length_cons, List.length_take, List.length_drop, Array.length_toList]; omega)))
          · exact hQ1 _ (ev_mk (by assumption) (by assumption) (over_end2 _ (by unfold evNames; repeat (first | exact agr_nil | refine agr_cons rfl ?_)) (fun z hz => by unfold evNames at hz; (repeat (first | with_reducible exact rfl | with_reducible exact over_nil | refine (if_neg (by first | with_reducible exact off1 hz | with_reducible exact off1 (off2 hz) | with_reducible exact off1 (off2 (off2 hz)) | with_reducible exact off1 (off2 (off2 (off2 hz))) | with_reducible exact off1 (off2 (off2 (off2 (off2 hz)))) | with_reducible exact off1 (off2 (off2 (off2 (off2 (off2 hz))))) | with_reducible exact off1 (off2 (off2 (off2 (off2 (off2 (off2 hz)))))) | with_reducible exact off1 (off2 (off2 (off2 (off2 (off2 (off2 (off2 hz))))))) | with_reducible exact off1 (off2 (off2 (off2 (off2 (off2 (off2 (off2 (off2 hz)))))))) | with_reducible exact off1 (off2 (off2 (off2 (off2 (off2 (off2 (off2 (off2 (off2 hz))))))))))).trans ?_)) <;> exact rfl)) (by k_updF) (by k_updF) (by assumption) (by k_mem) (by intro p hp; replace hp := hrst p hp; repeat (first | exact hp | apply List.mem_cons_of_mem)) ((hE.mono fun _ _ => EvAt.mono (by intro p hp; repeat (first | exact hp | apply List.mem_cons_of_mem)))) (by first | exact Nat.le_refl _ | ((repeat rw [Array.size_push]) <;> omega) | (simp only [List.size_toArray, List.length_append, List.length_cons, List.length_take, List.length_drop, Array.length_toList]; omega)))
          · exact hQ1 _ (ev_mk (by assumption) (by assumption) (over_end2 _ (by unfold evNames; repeat (first | exact agr_nil | refine agr_cons rfl ?_)) (fun z hz => by unfold evNames at hz; (repeat (first | with_reducible exact rfl | with_reducible exact over_nil | refine (if_neg (by first | with_reducible exact off1 hz | with_reducible exact off1 (off2 hz) | with_reducible exact off1 (off2 (off2 hz)) | with_reducible exact off1 (off2 (off2 (off2 hz))) | with_reducible exact off1 (off2 (off2 (off2 (off2 hz)))) | with_reducible exact off1 (off2 (off2 (off2 (off2 (off2 hz))))) | with_reducible exact off1 (off2 (off2 (off2 (off2 (off2 (off2 hz)))))) | with_reducible exact off1 (off2 (off2 (off2 (off2 (off2 (off2 (off2 hz))))))) | with_reducible exact off1 (off2 (off2 (off2 (off2 (off2 (off2 (off2 (off2 hz)))))))) | with_reducible exact off1 (off2 (off2 (off2 (off2 (off2 (off2 (off2 (off2 (off2 hz))))))))))).trans ?_)) <;> exact rfl)) (by k_updF) (by k_updF) (by assumption) (by k_mem) (by intro p hp; replace hp := hrst p hp; repeat (first | exact hp | apply List.mem_cons_of_mem)) ((hE.mono fun _ _ => EvAt.mono (by intro p hp; repeat (first | exact hp | apply List.mem_cons_of_mem))).push (ev_data (by k_mem) (dmenu _).1 (dmenu _).2)) (by first | exact Nat.le_refl _ | ((repeat rw [Array.size_push]) <;> omega) | (simp only [List.size_toArray, List.length_append, List.length_cons, List.length_take, List.length_drop, Array.length_toList]; omega)))
        · clear F8 N8 hfb hsb hsf hXb hXf hbo hsl hrst hE hz
          clear v1 v2 v3 v4 X8 o8 evs k its fa
          intro h8 tk8 fa its k evs o8 X8 v1 v2 v3 v4 F8 N8 hfb hsb hsf hXb hXf hbo hsl hrst hE hz
          replace F8 : Fr _ _ _ (over [("found", some (.ref fa)), ("turn", v1), ("status", v2), ("fields", v3), ("length", v4)] _) := F8
          refine ev_cut2 F8 b sl (W.listOf vs.toArray c) rest 5 ?_ ?_
          · intro Q1 hQ1
            k_steps
            · exact hQ1 _ (ev_mk (by assumption) (by assumption) (over_end2 _ (by unfold evNames; repeat (first | exact agr_nil | refine agr_cons rfl ?_)) (fun z hz => by unfold evNames at hz; (repeat (first | with_reducible exact rfl | with_reducible exact over_nil | refine (if_neg (by first | with_reducible exact off1 hz | with_reducible exact off1 (off2 hz) | with_reducible exact off1 (off2 (off2 hz)) | with_reducible exact off1 (off2 (off2 (off2 hz))) | with_reducible exact off1 (off2 (off2 (off2 (off2 hz)))) | with_reducible exact off1 (off2 (off2 (off2 (off2 (off2 hz))))) | with_reducible exact off1 (off2 (off2 (off2 (off2 (off2 (off2 hz)))))) | with_reducible exact off1 (off2 (off2 (off2 (off2 (off2 (off2 (off2 hz))))))) | with_reducible exact off1 (off2 (off2 (off2 (off2 (off2 (off2 (off2 (off2 hz)))))))) | with_reducible exact off1 (off2 (off2 (off2 (off2 (off2 (off2 (off2 (off2 (off2 hz))))))))))).trans ?_)) <;> exact rfl)) (by k_updF) (by k_updF) (by assumption) (by k_mem) (by intro p hp; replace hp := hrst p hp; repeat (first | exact hp | apply List.mem_cons_of_mem)) ((hE.mono fun _ _ => EvAt.mono (by intro p hp; repeat (first | exact hp | apply List.mem_cons_of_mem))).push (ev_plain (by k_mem) ⟨_, _, by k_mem, .cons (pair_at (by k_mem) rfl) .nil, Nat.le_of_ble_eq_true rfl⟩ (plain_cons (by decide +kernel) (by decide +kernel) plain_nil) (List.cons_ne_nil _ _) (by decide +kernel))) (by first | exact Nat.le_refl _ | ((repeat rw [Array.size_push]) <;> omega) | (simp only [List.size_toArray, List.length_append, List.length_cons, List.length_take, List.length_drop, Array.length_toList]; omega)))
            · exact hQ1 _ (ev_mk (by assumption) (by assumption) (over_end2 _ (by unfold evNames; repeat (first | exact agr_nil | refine agr_cons rfl ?_)) (fun z hz => by unfold evNames at hz; (repeat (first | with_reducible exact rfl | with_reducible exact over_nil | refine (if_neg (by first | with_reducible exact off1 hz | with_reducible exact off1 (off2 hz) | with_reducible exact off1 (off2 (off2 hz)) | with_reducible exact off1 (off2 (off2 (off2 hz))) | with_reducible exact off1 (off2 (off2 (off2 (off2 hz)))) | with_reducible exact off1 (off2 (off2 (off2 (off2 (off2 hz))))) | with_reducible exact off1 (off2 (off2 (off2 (off2 (off2 (off2 hz)))))) | with_reducible exact off1 (off2 (off2 (off2 (off2 (off2 (off2 (off2 hz))))))) | with_reducible exact off1 (off2 (off2 (off2 (off2 (off2 (off2 (off2 (off2 hz)))))))) | with_reducible exact off1 (off2 (off2 (off2 (off2 (off2 (off2 (off2 (off2 (off2 hz))))))))))).trans ?_)) <;> exact rfl)) (by k_updF) (by k_updF) (by assumption) (by k_mem) (by intro p hp; replace hp := hrst p hp; repeat (first | exact hp | apply List.mem_cons_of_mem)) ((hE.mono fun _ _ => EvAt.mono (by intro p hp; repeat (first | exact hp | apply List.mem_cons_of_mem))).push (ev_stat (by k_mem) ⟨_, _, by k_mem, .cons (pair_at (by k_mem) rfl) .nil, Nat.le_of_ble_eq_true rfl⟩ (.inl (by decide +kernel)) plain_nil (.inl (by decide +kernel)))) (by first | exact Nat.le_refl _ | ((repeat rw [Array.size_push]) <;> omega) | (simp only [List.size_toArray, List.length_append, List.length_cons, List.length_take, List.length_drop, Array.length_toList]; omega)))
            · exact hQ1 _ (ev_mk (by assumption) (by assumption) (over_end2 _ (by unfold evNames; repeat (first | exact agr_nil | refine agr_cons rfl ?_)) (fun z hz => by unfold evNames at hz; (repeat (first | with_reducible exact rfl | with_reducible exact over_nil | refine (if_neg (by first | with_reducible exact off1 hz | with_reducible exact off1 (off2 hz) | with_reducible exact off1 (off2 (off2 hz)) | with_reducible exact off1 (off2 (off2 (off2 hz))) | with_reducible exact off1 (off2 (off2 (off2 (off2 hz)))) | with_reducible exact off1 (off2 (off2 (off2 (off2 (off2 hz))))) | with_reducible exact off1 (off2 (off2 (off2 (off2 (off2 (off2 hz)))))) | with_reducible exact off1 (off2 (off2 (off2 (off2 (off2 (off2 (off2 hz))))))) | with_reducible exact off1 (off2 (off2 (off2 (off2 (off2 (off2 (off2 (off2 hz)))))))) | with_reducible exact off1 (off2 (off2 (off2 (off2 (off2 (off2 (off2 (off2 (off2 hz))))))))))).trans ?_)) <;> exact rfl)) (by k_updF) (by k_updF) (by assumption) (by k_mem) (by intro p hp; replace hp := hrst p hp; repeat (first | exact hp | apply List.mem_cons_of_mem)) ((hE.mono fun _ _ => EvAt.mono (by intro p hp; repeat (first | exact hp | apply List.mem_cons_of_mem)))) (by first | exact Nat.le_refl _ | ((repeat rw [Array.size_push]) <;> omega) | (simp only [List.size_toArray, List.length_append, List.length_cons, List.length_take, List.length_drop, Array.length_toList]; omega)))
          · clear F8 N8 hfb hsb hsf hXb hXf hbo hsl hrst hE hz
            clear v1 v2 v3 v4 X8 o8 evs k its fa
            intro h8 tk8 fa its k evs o8 X8 v1 v2 v3 v4 F8 N8 hfb hsb hsf hXb hXf hbo hsl hrst hE hz
            replace F8 : Fr _ _ _ (over [("found", some (.ref fa)), ("turn", v1), ("status", v2), ("fields", v3), ("length", v4)] _) := F8
            refine ev_cut2 F8 b sl (W.listOf vs.toArray c) rest 6 ?_ ?_
            · intro Q1 hQ1
              k_steps
              · exact hQ1 _ (ev_mk (by assumption) (by assumption) (over_end2 _ (by unfold evNames; repeat (first | exact agr_nil | refine agr_cons rfl ?_)) (fun z hz => by unfold evNames at hz; (repeat (first | with_reducible exact rfl | with_reducible exact over_nil | refine (if_neg (by first | with_reducible exact off1 hz | with_reducible exact off1 (off2 hz) | with_reducible exact off1 (off2 (off2 hz)) | with_reducible exact off1 (off2 (off2 (off2 hz))) | with_reducible exact off1 (off2 (off2 (off2 (off2 hz)))) | with_reducible exact off1 (off2 (off2 (off2 (off2 (off2 hz))))) | with_reducible exact off1 (off2 (off2 (off2 (off2 (off2 (off2 hz)))))) | with_reducible exact off1 (off2 (off2 (off2 (off2 (off2 (off2 (off2 hz))))))) | with_reducible exact off1 (off2 (off2 (off2 (off2 (off2 (off2 (off2 (off2 hz)))))))) | with_reducible exact off1 (off2 (off2 (off2 (off2 (off2 (off2 (off2 (off2 (off2 hz))))))))))).trans ?_)) <;> exact rfl)) (by k_updF) (by k_updF) (by assumption) (by k_mem) (by intro p hp; replace hp := hrst p hp; repeat (first | exact hp | apply List.mem_cons_of_mem)) ((Prs.ins (hE.mono fun _ _ => EvAt.mono (by intro p hp; repeat (first | exact hp | apply List.mem_cons_of_mem))) (ev_data (by k_mem) (by decide) (by decide))).choose_spec) (by first | exact Nat.le_refl _ | ((repeat rw [Array.size_push]) <;> omega) | (simp only [List.size_toArray, List.length_append, List.length_cons, List.length_take, List.length_drop, Array.length_toList]; omega)))
              · exact hQ1 _ (ev_mk (by assumption) (by assumption) (over_end2 _ (by unfold evNames; repeat (first | exact agr_nil | refine agr_cons rfl ?_)) (fun z hz => by unfold evNames at hz; (repeat (first | with_reducible exact rfl | with_reducible exact over_nil | refine (if_neg (by first | with_reducible exact off1 hz | with_reducible exact off1 (off2 hz) | with_reducible exact off1 (off2 (off2 hz)) | with_reducible exact off1 (off2 (off2 (off2 hz))) | with_reducible exact off1 (off2 (off2 (off2 (off2 hz)))) | with_reducible exact off1 (off2 (off2 (off2 (off2 (off2 hz))))) | with_reducible exact off1 (off2 (off2 (off2 (off2 (off2 (off2 hz)))))) | with_reducible exact off1 (off2 (off2 (off2 (off2 (off2 (off2 (off2 hz))))))) | with_reducible exact off1 (off2 (off2 (off2 (off2 (off2 (off2 (off2 (off2 hz)))))))) | with_reducible exact off1 (off2 (off2 (off2 (off2 (off2 (off2 (off2 (off2 (off2 hz))))))))))).trans ?_)) <;> exact rfl)) (by k_updF) (by k_updF) (by assumption) (by k_mem) (by intro p hp; replace hp := hrst p hp; repeat (first | exact hp | apply List.mem_cons_of_mem)) ((Prs.ins (hE.mono fun _ _ => EvAt.mono (by intro p hp; repeat (first | exact hp | apply List.mem_cons_of_mem))) (ev_other (by k_mem))).choose_spec) (by first | exact Nat.le_refl _ | ((repeat rw [Array.size_push]) <;> omega) | (simp only [List.size_toArray, List.length_append, List.length_cons, List.length_take, List.length_drop, Array.length_toList]; omega)))
              · exact hQ1 _ (ev_mk (by assumption) (by assumption) (over_end2 _ (by unfold evNames; repeat (first | exact agr_nil | refine agr_cons rfl ?_)) (fun z hz => by unfold evNames at hz; (repeat (first | with_reducible exact rfl | with_reducible exact over_nil | refine (if_neg (by first | with_reducible exact off1 hz | with_reducible exact off1 (off2 hz) | with_reducible exact off1 (off2 (off2 hz)) | with_reducible exact off1 (off2 (off2 (off2 hz))) | with_reducible exact off1 (off2 (off2 (off2 (off2 hz)))) | with_reducible exact off1 (off2 (off2 (off2 (off2 (off2 hz))))) | with_reducible exact off1 (off2 (off2 (off2 (off2 (off2 (off2 hz)))))) | with_reducible exact off1 (off2 (off2 (off2 (off2 (off2 (off2 (off2 hz))))))) | with_reducible exact off1 (off2 (off2 (off2 (off2 (off2 (off2 (off2 (off2 hz)))))))) | with_reducible exact off1 (off2 (off2 (off2 (off2 (off2 (off2 (off2 (off2 (off2 hz))))))))))).trans ?_)) <;> exact rfl)) (by k_updF) (by k_updF) (by assumption) (by k_mem) (by intro p hp; replace hp := hrst p hp; repeat (first | exact hp | apply List.mem_cons_of_mem)) ((Prs.ins (hE.mono fun _ _ => EvAt.mono (by intro p hp; repeat (first | exact hp | apply List.mem_cons_of_mem))) (ev_settings (by k_mem))).choose_spec) (by first | exact Nat.le_refl _ | ((repeat rw [Array.size_push]) <;> omega) | (simp only [List.size_toArray, List.length_append, List.length_cons, List.length_take, List.length_drop, Array.length_toList]; omega)))
              · exact hQ1 _ (ev_mk (by assumption) (by assumption) (over_end2 _ (by unfold evNames; repeat (first | exact agr_nil | refine agr_cons rfl ?_)) (fun z hz => by unfold evNames at hz; (repeat (first | with_reducible exact rfl | with_reducible exact over_nil | refine (if_neg (by first | with_reducible exact off1 hz | with_reducible exact off1 (off2 hz) | with_reducible exact off1 (off2 (off2 hz)) | with_reducible exact off1 (off2 (off2 (off2 hz))) | with_reducible exact off1 (off2 (off2 (off2 (off2 hz)))) | with_reducible exact off1 (off2 (off2 (off2 (off2 (off2 hz))))) | with_reducible exact off1 (off2 (off2 (off2 (off2 (off2 (off2 hz)))))) | with_reducible exact off1 (off2 (off2 (off2 (off2 (off2 (off2 (off2 hz))))))) | with_reducible exact off1 (off2 (off2 (off2 (off2 (off2 (off2 (off2 (off2 hz)))))))) | with_reducible exact off1 (off2 (off2 (off2 (off2 (off2 (off2 (off2 (off2 (off2 hz))))))))))).trans ?_)) <;> exact rfl)) (by k_updF) (by k_updF) (by assumption) (by k_mem) (by intro p hp; replace hp := hrst p hp; repeat (first | exact hp | apply List.mem_cons_of_mem)) ((hE.mono fun _ _ => EvAt.mono (by intro p hp; repeat (first | exact hp | apply List.mem_cons_of_mem)))) (by first | exact Nat.le_refl _ | ((repeat rw [Array.size_push]) <;> omega) | (simp only [List.size_toArray, List.length_append, List.length_cons, List.length_take, List.length_drop, Array.length_toList]; omega)))
            · clear F8 N8 hfb hsb hsf hXb hXf hbo hsl hrst hE hz
              clear v1 v2 v3 v4 X8 o8 evs k its fa
              intro h8 tk8 fa its k evs o8 X8 v1 v2 v3 v4 F8 N8 hfb hsb hsf hXb hXf hbo hsl hrst hE hz
              replace F8 : Fr _ _ _ (over [("found", some (.ref fa)), ("turn", v1), ("status", v2), ("fields", v3), ("length", v4)] _) := F8
              k_steps
              exact hret _ ((b, o8) :: (fa, W.listOf its k) :: (sl, W.listOf vs.toArray c) :: X8) _ _ ⟨fa, evs, _, o8, rfl, rfl, List.forall_mem_cons.mpr ⟨hfb, List.forall_mem_cons.mpr ⟨hsb, hXb⟩⟩, hbo, .tail _ (.head _), fun p hp => .tail _ (.tail _ (hrst p hp)), its, k, .head _, hE.mono fun _ _ => EvAt.mono fun p hp => .tail _ (.tail _ hp), by omega⟩ (by assumption) (News.cut (by assumption) (by intro p hp; simp only [List.mem_cons] at hp ⊢; rcases hp with h | h | h | h; exact .inr (.inl h); exact .inl h; exact .inr (.inr (.inl h)); exact .inr (.inr (.inr h))))

def Hold (P : Prop) : Prop := P
theorem hold {P : Prop} (h : Hold P) : P := h
section
variable {prog : Program} {w : World} {A : Around} {E : Value → Shared → Prop} {s : Shared} {env : Env} {h₀ : Heap} {x : Str} {body : List Stmt} {Q : Flow → Shared → Prop}
theorem rangeRest_inv {I : Addr} {N : Nat} (Inv : Nat → (Str → Option Value) → Led → Prop)
    (step : ∀ i oI t h tk m n, i < N → Inv i m n → (∀ p ∈ n, p.1 ≠ I) → Fr h₀ env.locals h (fun y => if y = x then some (.int (0 + (i : Int)) t) else m y) → News h₀ env.locals h ((I, oI) :: n) →
      wpAny (model prog w) A (execs body env) (UnrPost h₀ env.locals { s with heap := h, toks := tk } I oI (Inv (i + 1)) Q) E { s with heap := h, toks := tk })
    (done : ∀ h tk m n, Inv N m n → Fr h₀ env.locals h m → News h₀ env.locals h n → Q .next { s with heap := h, toks := tk }) :
    ∀ k i m n, k + i = N → Inv i m n → (∀ p ∈ n, p.1 ≠ I) → RangeRest prog w A E h₀ env x body Q s I 0 N k i m n
  | 0, i, m, n, hk, hI, _ => RangeRest.zero fun h tk F Nw => done h tk m n ((show i = N by omega) ▸ hI) F Nw
  | k + 1, i, m, n, hk, hI, off => RangeRest.succ fun t h tk F Nw => by
    refine wpAny_mono (step i _ t h tk m n (by omega) hI off F Nw) (fun f s' hp => ?_) fun _ _ e => e
    have go : UnrEnd h₀ env.locals { s with heap := h, toks := tk } I (itR (0 + ((i + 1 : Nat) : Int)) ((N : Int) - ((i + 1 : Nat) : Int))) (Inv (i + 1)) s' → UnrEnd h₀ env.locals { s with heap := h, toks := tk } I (itR (0 + ((i + 1 : Nat) : Int)) ((N : Int) - ((i + 1 : Nat) : Int))) (RangeRest prog w A E h₀ env x body Q s I 0 N k (i + 1)) s' := by
      rintro ⟨h', tk', m', n', e, F', N', off', r⟩
      exact ⟨h', tk', m', n', e, F', N', off', rangeRest_inv Inv step done k (i + 1) m' n' (by omega) r off'⟩
    cases f with
    | ret v => exact hp
    | brk => exact hp
    | next => exact go hp
    | cont => exact go hp
theorem range_inv {r : Addr} {b₀ : Int} {t₀ u₀ v₀ : Tok} {m₀ : Str → Option Value} {news : Led} (Inv : (Str → Option Value) → Nat → (Str → Option Value) → Led → Prop)
    (hh : A.handled = none) (hr : IsRange s.heap r 0 b₀ 1 t₀ u₀ v₀) (hb0 : 0 ≤ b₀) (hb1 : b₀ ≤ 1000) (F : Fr h₀ env.locals s.heap m₀) (N : News h₀ env.locals s.heap news) (h0 : Inv m₀ 0 m₀ news)
    (step : ∀ (i : Nat) I oI t h tk m n, (i : Int) < b₀ → Inv m₀ i m n → (∀ p ∈ n, p.1 ≠ I) → Fr h₀ env.locals h (fun y => if y = x then some (.int (0 + (i : Int)) t) else m y) → News h₀ env.locals h ((I, oI) :: n) →
      wpAny (model prog w) A (execs body env) (UnrPost h₀ env.locals { s with heap := h, toks := tk } I oI (Inv m₀ (i + 1)) Q) E { s with heap := h, toks := tk })
    (done : ∀ h tk m n, Inv m₀ b₀.toNat m n → Fr h₀ env.locals h m → News h₀ env.locals h n → Q .next { s with heap := h, toks := tk }) :
    wpAny (model prog w) A (pyIter (.ref r)) (fun it s₂ => LoopAtV prog w A h₀ env x body Q E it s₂) E s := by
  refine iter_rangeUnr (n := b₀.toNat) hh hr (small_one (by omega) (by omega) (by omega) (by omega)) ?_ F N fun I hI => ?_
  · unfold Builtin.Range.rangeSize
    rw [if_pos (by decide)]
    split
    · rw [Int.ediv_one]; omega
    · omega
  · exact rangeRest_inv (Inv m₀) (fun i oI t h tk m n hi => step i I oI t h tk m n (by omega)) done b₀.toNat 0 m₀ news rfl h0 fun p hp => Nat.ne_of_lt (hI p hp)
end
variable {w : World} {mean : ExcName → Option Value} {mg mb : Str → Option Value} {rest news : Led}
theorem Does.cut {f : Addr} {k : Nat} {args : List Value} {a b : Led} {Post : Value → Led → Prop} (H : Does w mean mg mb f k args a Post) (hs : ∀ p ∈ a, p ∈ b) : Does w mean mg mb f k args b Post := by
  intro dp un gd cn cs ad ccd cl outer A₀ base h₀ L m s Q E B F X N T hk hdp hu hret
  exact does_use H B F X (News.cut N hs) T hk hdp hu hret
/-- a contract that only reads, at a ledger that holds what it reads -/
theorem Does.reads {f : Addr} {k : Nat} {args : List Value} {a b : Led} {P : Value → Prop} (H : Does w mean mg mb f k args (a ++ b) (fun v n => P v ∧ n = a ++ b)) (hs : ∀ p ∈ a, p ∈ b) : Does w mean mg mb f k args b (fun v n => P v ∧ n = b) := by
  intro dp un gd cn cs ad ccd cl outer A₀ base h₀ L m s Q E B F X N T hk hdp hu hret
  refine does_use H B F X (News.cut N fun p hp => (List.mem_append.mp hp).elim (hs p) id) T hk hdp hu fun v news' h' tk' hP F' N' => ?_
  obtain ⟨hp, rfl⟩ := hP
  exact hret v b h' tk' ⟨hp, rfl⟩ F' (News.cut N' fun p hp => List.mem_append_right _ hp)
structure CtlFacts (X : Led) (b sl : Addr) (so : Obj) (fs : List CF) (fa : Addr) (limit last : Option Int) (lv av : Value) : Prop where
  off : ∀ p ∈ X, p.1 ≠ b
  sl : (sl, so) ∈ X
  cfs : CfsAt X fs fa
  lv : LimV limit lv
  av : LimV last av
  b1 : ∀ k, limit = some k → 0 ≤ k ∧ k ≤ 200
  b2 : ∀ k, last = some k → 0 ≤ k ∧ k ≤ 20
  ct : ctl fs ⟨none, none⟩ = some ⟨some limit, last⟩
theorem control_any {b sl : Addr} {o : Obj} {c : Nat} {vs : List Value} {ns : List Int} {X : Led} (P : Pick (b, o) news X) (hs : (sl, W.listOf vs.toArray c) ∈ X) (hI : IntsAre vs ns) (hl : ns.length ≤ 40) (hb : BoxO sl o) (hbs : @Ne Nat sl b) :
    Does w mean mg mb 256 3 [.ref b] news (fun v n => ∃ D fa lv av limit last fs X o', v = .ref D ∧ n = (D, tupo [.ref fa, lv, av]) :: (b, o') :: X ∧ BoxO sl o' ∧ CtlFacts X b sl (W.listOf vs.toArray c) fs fa limit last lv av) := by
  have H := Does.cut (mean := mean) (mg := mg) (mb := mb) (w := w) (control_spec hI hl hb hbs P.mem.2) (b := news) fun p hp => by
    rcases List.mem_cons.mp hp with rfl | hp
    · exact P.mem.1 _ (.tail _ hs)
    · exact P.mem.1 _ hp
  intro dp un gd cn cs ad ccd cl outer A₀ base h₀ L m s Q E B F X N T hk hdp hu hret
  refine does_use H B F X N T hk hdp hu fun v news' h' tk' hP F' N' => ?_
  obtain ⟨D, fa, lv, av, limit, last, fs, X, o', p1, rfl, hXb, hbo, hsl, hrs, hD, hC, hlv, hav, hb1, hb2, hct⟩ := hP
  exact hret v _ h' tk' ⟨D, fa, lv, av, limit, last, fs, X, o', p1, rfl, hbo, hXb, hsl, hC, hlv, hav, hb1, hb2, hct⟩ F' (News.with1 N' (.tail _ hD))
theorem events_any {b sl : Addr} {o : Obj} {c : Nat} {vs : List Value} {ns : List Int} {X : Led} (P : Pick (b, o) news X) (hs : (sl, W.listOf vs.toArray c) ∈ X) (hI : IntsAre vs ns) (hl : ns.length ≤ 40) (hb : BoxO sl o) (hbs : @Ne Nat sl b) :
    Does w mean mg mb 263 3 [.ref b] news (EvPost sl b (W.listOf vs.toArray c) X) :=
  Does.cut (events_spec hI hl hb hbs hs P.mem.2) P.mem.1
def SetAt (n : Led) : Option (Option Int) → Value → Prop
  | none, v => v = .none
  | some none, v => ∃ l k, v = .ref l ∧ (l, W.listOf #[] k) ∈ n
  | some (some x), v => ∃ l k p u1 u2, v = .ref l ∧ (l, W.listOf #[.ref p] k) ∈ n ∧ (p, tupo [.int 6 u1, .int x u2]) ∈ n
theorem SetAt.mono {a b : Led} (hs : ∀ p ∈ a, p ∈ b) : ∀ {f : Option (Option Int)} {v : Value}, SetAt a f v → SetAt b f v
  | none, _, h => h
  | some none, _, ⟨l, k, h1, h2⟩ => ⟨l, k, h1, hs _ h2⟩
  | some (some _), _, ⟨l, k, p, u1, u2, h1, h2, h3⟩ => ⟨l, k, p, u1, u2, h1, hs _ h2, hs _ h3⟩
section
variable {r d : Addr} {k1 k2 k3 k4 k5 pt u1 u2 : Tok} {sv gv : Value} {z : Int}
def isLet : Option Int → Int → Bool
  | none, _ => true
  | some x, z => decide (z < x)
theorem let_any {last : Option Int} (hg : LimV last gv) (hr : (r, instObj 88 d) ∈ news) (hd : (d, ctlD w k1 k2 k3 k4 k5 pt sv gv) ∈ news) : Does w mean mg mb 85 1 [.ref r, .int z u1] news (fun v n => v = .bool (isLet last z) ∧ n = news) := by
  refine Does.reads (a := [(r, instObj 88 d), (d, ctlD w k1 k2 k3 k4 k5 pt sv gv)]) (P := fun v => v = .bool (isLet last z)) ?_ (by
    intro p hp
    rcases List.mem_cons.mp hp with rfl | hp
    · exact hr
    · rcases List.mem_cons.mp hp with rfl | hp
      · exact hd
      · nomatch hp)
  cases last with
  | none =>
    have e : gv = .none := hg
    subst e
    exact let_none
  | some x =>
    obtain ⟨t, rfl⟩ : ∃ t, gv = .int x t := hg
    exact let_some
theorem setting_any {limit : Option Int} (hs : SetAt news (some limit) sv) (hr : (r, instObj 88 d) ∈ news) (hd : (d, ctlD w k1 k2 k3 k4 k5 pt sv gv) ∈ news) : Does w mean mg mb 78 1 [.ref r, .int 6 u1, .none] news (fun v n => LimV limit v ∧ n = news) := by
  refine Does.reads (a := [(r, instObj 88 d), (d, ctlD w k1 k2 k3 k4 k5 pt sv gv)]) (P := fun v => LimV limit v) ?_ (by
    intro p hp
    rcases List.mem_cons.mp hp with rfl | hp
    · exact hr
    · rcases List.mem_cons.mp hp with rfl | hp
      · exact hd
      · nomatch hp)
  cases limit with
  | none =>
    obtain ⟨l, k, rfl, hl⟩ := hs
    exact Does.mono (setting0 hl) fun v n h => ⟨h.1, h.2⟩
  | some x =>
    obtain ⟨l, k, p, u1, u2, rfl, hl, hp⟩ := hs
    exact Does.mono (setting1 hl hp) fun v n h => ⟨⟨_, h.1⟩, h.2⟩
end
section
variable {r d : Addr} {k1 k2 k3 k4 k5 pt u1 : Tok} {sv gv : Value} {x : Int}
theorem setting_none (hs : SetAt news (some none) sv) (hr : (r, instObj 88 d) ∈ news) (hd : (d, ctlD w k1 k2 k3 k4 k5 pt sv gv) ∈ news) : Does w mean mg mb 78 1 [.ref r, .int 6 u1, .none] news (fun v n => v = .none ∧ n = news) := setting_any (limit := none) hs hr hd
theorem setting_some (hs : SetAt news (some (some x)) sv) (hr : (r, instObj 88 d) ∈ news) (hd : (d, ctlD w k1 k2 k3 k4 k5 pt sv gv) ∈ news) : Does w mean mg mb 78 1 [.ref r, .int 6 u1, .none] news (fun v n => (∃ t, v = .int x t) ∧ n = news) := setting_any (limit := some x) hs hr hd
end
theorem doesL_use {f : Addr} {k : Nat} {args : List Value} {news : Led} {Post : Value → Led → Prop} (H : DoesL w mean mg mb f k args news Post) {dp un : Nat} {gd : Option (List Code)} {cn : Str} {cs : Scope} {a : Addr} {ccd : Value} {A₀ : Around} {h₀ : Heap} {L : Addr} {m : Str → Option Value} {s : Shared} {Q E : Value → Shared → Prop}
    (B : Below A₀ h₀ [] h₀) (F : Fr h₀ L s.heap m) (X : (hd.heap_39 w.params).In h₀) (N : News h₀ L s.heap news) (T : Top hd.view_39 (looseW hd.view_39 []) mean mg mb h₀) (hk : cs.kind = .function)
    (d : dp + k < recursionLimit) (u : un + 8 * k + 80 < cLine)
    (r : ∀ v news' h' tk', Post v news' → Fr h₀ L h' m → News h₀ L h' news' → Q v { s with heap := h', toks := tk' }) :
    wpAny (model PySem.Challenge.rw_nz0351_01.row.prog w) (ktrTop dp un gd cn cs L a ccd [] []) (call (.ref f) args) Q E s := H _ _ _ _ _ _ _ _ _ _ _ _ _ _ B F X N T hk d u r
theorem dzL1 {f : Addr} {k : Nat} {args : List Value} {news : Led} {Post : Value → Led → Prop} (H : DoesL w mean mg mb f k args news Post) {G0 : (Value → Led → Prop) → Prop} (hG : ∀ R, G0 R → ∀ v n, Post v n → R v n) {dp un : Nat} {gd : Option (List Code)} {cn : Str} {cs : Scope} {a : Addr} {ccd : Value} {A₀ : Around} {h₀ : Heap} {L : Addr} {m : Str → Option Value} {s : Shared} {Q E : Value → Shared → Prop}
    (r0 : G0 (fun v news' => ∀ h' tk', Fr h₀ L h' m → News h₀ L h' news' → Q v { s with heap := h', toks := tk' }))
    (B : Below A₀ h₀ [] h₀ := by k_asm) (F : Fr h₀ L s.heap m := by k_asm) (X : (hd.heap_39 w.params).In h₀ := by k_asm) (N : News h₀ L s.heap news := by k_asm) (T : Top hd.view_39 (looseW hd.view_39 []) mean mg mb h₀ := by k_asm) (hk : cs.kind = .function := by rfl)
    (d : dp + k < recursionLimit := by ktr_room) (u : un + 8 * k + 80 < cLine := by ktr_units) :
    wpAny (model PySem.Challenge.rw_nz0351_01.row.prog w) (ktrTop dp un gd cn cs L a ccd [] []) (call (.ref f) args) Q E s := H _ _ _ _ _ _ _ _ _ _ _ _ _ _ B F X N T hk d u (fun v n h' tk' p f nw => hG (fun v news' => ∀ h' tk', Fr h₀ L h' m → News h₀ L h' news' → Q v { s with heap := h', toks := tk' }) r0 v n p h' tk' f nw)
section
variable {M : Model} {A : Around} {E : Value → Shared → Prop} {s : Shared} {env : Env} {st : Stmt} {more : List Stmt} {Q : Flow → Shared → Prop}
inductive LM0 (h₀ : Heap) (L : Addr) (m₀ : Str → Option Value) (s : Shared) : Shared → Prop
  | mk (h' : Heap) (tk' : Nat) (b sl : Addr) (vs : List Value) (ns : List Int) (c : Nat) (o : Obj) : Fr h₀ L h' (over [("box", some (.ref b))] m₀) → News h₀ L h' [(b, o), (sl, W.listOf (List.toArray vs) c)] → IntsAre vs ns → ns.length ≤ 40 → BoxO sl o → @Ne Nat sl b → LM0 h₀ L m₀ s { s with heap := h', toks := tk' }
theorem law_cut0 {h₀ : Heap} {m₀ : Str → Option Value} (_F : Fr h₀ env.locals s.heap m₀) (h1 : ∀ Q' : Flow → Shared → Prop, (∀ s', LM0 h₀ env.locals m₀ s s' → Q' .next s') → wpAny M A (exec st env) Q' E s)
    (h2 : ∀ h' tk' b sl vs ns c o, Fr h₀ env.locals h' (over [("box", some (.ref b))] m₀) → News h₀ env.locals h' [(b, o), (sl, W.listOf (List.toArray vs) c)] → IntsAre vs ns → ns.length ≤ 40 → BoxO sl o → @Ne Nat sl b → wpAny M A (execs more env) Q E { s with heap := h', toks := tk' }) :
    wpAny M A (execs (st :: more) env) Q E s :=
  execs_cut _ h1 fun s' h9 => by
    cases h9 with
    | mk h' tk' b sl vs ns c o x1 x2 x3 x4 x5 x6 => exact h2 h' tk' b sl vs ns c o x1 x2 x3 x4 x5 x6
theorem lm0_mk {h₀ h : Heap} {L b sl : Addr} {m₀ m : Str → Option Value} {al : Led} {vs : List Value} {ns : List Int} {c n tk : Nat} {t1 t2 : Tok} {s : Shared} (F : Fr h₀ L h m) (N : News h₀ L h al) (hm : m = over [("box", some (.ref b))] m₀)
    (h1 : (b, W.listOf #[.ref sl, .int 0 t1, .int 47 t2] n) ∈ al) (h2 : (sl, W.listOf (List.toArray vs) c) ∈ al) (hI : IntsAre vs ns) (hl : ns.length ≤ 40) (hn : @Ne Nat sl b) : LM0 h₀ L m₀ s { s with heap := h, toks := tk } := by
  subst hm
  exact (.mk h tk b sl vs ns c _ F (News.cut N (by
    intro p hp
    rcases List.mem_cons.mp hp with rfl | hp
    · exact h1
    · rcases List.mem_cons.mp hp with rfl | hp
      · exact h2
      · nomatch hp)) hI hl ⟨0, 47, t1, t2, n, rfl, by decide, by decide, by decide, by decide⟩ hn)
def lawNames (b r : Addr) (lv av : Value) (v1 v2 v3 v4 v5 : Option Value) : List (Str × Option Value) := [("control", some (.ref r)), ("limit", some lv), ("last", some av), ("frames", v1), ("frame", v2), ("number", v3), ("method", v4), ("events", v5), ("box", some (.ref b))]
structure CtlAt (w : World) (X : Led) (b sl r d : Addr) (so : Obj) (k1 k2 k3 k4 k5 pt : Tok) (sv gv lv av : Value) (limit last : Option Int) : Prop where
  off : ∀ p ∈ X, p.1 ≠ b
  sl : (sl, so) ∈ X
  r : (r, instObj 88 d) ∈ X
  d : (d, ctlD w k1 k2 k3 k4 k5 pt sv gv) ∈ X
  set : SetAt X (some limit) sv
  go : LimV last gv
  lv : LimV limit lv
  av : LimV last av
  b1 : ∀ k, limit = some k → 0 ≤ k ∧ k ≤ 200
  b2 : ∀ k, last = some k → 0 ≤ k ∧ k ≤ 20
inductive LawMid (w : World) (h₀ : Heap) (L : Addr) (m₀ : Str → Option Value) (b sl : Addr) (so : Obj) (s : Shared) : Shared → Prop
  | mk (h' : Heap) (tk' : Nat) (r d : Addr) (k1 k2 k3 k4 k5 pt : Tok) (sv gv lv av : Value) (limit last : Option Int) (o : Obj) (X : Led) (v1 v2 v3 v4 v5 : Option Value) : Fr h₀ L h' (over (lawNames b r lv av v1 v2 v3 v4 v5) m₀) → News h₀ L h' ((b, o) :: X) → BoxO sl o → CtlAt w X b sl r d so k1 k2 k3 k4 k5 pt sv gv lv av limit last → LawMid w h₀ L m₀ b sl so s { s with heap := h', toks := tk' }
theorem law_cut3 {w : World} {st2 st3 : Stmt} {h₀ : Heap} {m₀ : Str → Option Value} {b sl : Addr} {so : Obj} (_F : Fr h₀ env.locals s.heap (over [("box", some (.ref b))] m₀)) (_N : (sl, so) ∈ (sl, so) :: ([] : Led)) (h1 : ∀ Q' : Flow → Shared → Prop, (∀ s', LawMid w h₀ env.locals m₀ b sl so s s' → Q' .next s') → wpAny (model PySem.Challenge.rw_nz0351_01.row.prog w) A (execs [st, st2, st3] env) Q' E s)
    (h2 : ∀ h' tk' r d k1 k2 k3 k4 k5 pt sv gv lv av limit last o X v1 v2 v3 v4 v5, Fr h₀ env.locals h' (over (lawNames b r lv av v1 v2 v3 v4 v5) m₀) → News h₀ env.locals h' ((b, o) :: X) → BoxO sl o → CtlAt w X b sl r d so k1 k2 k3 k4 k5 pt sv gv lv av limit last → wpAny (model PySem.Challenge.rw_nz0351_01.row.prog w) A (execs more env) Q E { s with heap := h', toks := tk' }) :
    wpAny (model PySem.Challenge.rw_nz0351_01.row.prog w) A (execs (st :: st2 :: st3 :: more) env) Q E s :=
  execs_cutL (l2 := more) [st, st2, st3] _ h1 fun s' h9 => by
    cases h9 with
    | mk h' tk' r d k1 k2 k3 k4 k5 pt sv gv lv av limit last o X v1 v2 v3 v4 v5 x1 x2 x3 x4 => exact h2 h' tk' r d k1 k2 k3 k4 k5 pt sv gv lv av limit last o X v1 v2 v3 v4 v5 x1 x2 x3 x4
theorem same_cut {h₀ : Heap} {m : Str → Option Value} {al : Led} (_F : Fr h₀ env.locals s.heap m) (_N : News h₀ env.locals s.heap al) (h1 : ∀ Q' : Flow → Shared → Prop, (∀ h' tk', Fr h₀ env.locals h' m → News h₀ env.locals h' al → Q' .next { s with heap := h', toks := tk' }) → wpAny M A (exec st env) Q' E s)
    (h2 : ∀ h' tk', Fr h₀ env.locals h' m → News h₀ env.locals h' al → wpAny M A (execs more env) Q E { s with heap := h', toks := tk' }) : wpAny M A (execs (st :: more) env) Q E s :=
  execs_cut (fun s' => ∃ h' tk', s' = { s with heap := h', toks := tk' } ∧ Fr h₀ env.locals h' m ∧ News h₀ env.locals h' al) (fun Q' hQ => h1 Q' fun h' tk' F N => hQ _ ⟨h', tk', rfl, F, N⟩) fun s' ⟨h', tk', e, F, N⟩ => e ▸ h2 h' tk' F N
inductive Mid5 (h₀ : Heap) (L : Addr) (m₁ : Str → Option Value) (b sl : Addr) (R : Led) (s : Shared) : Shared → Prop
  | mk (h' : Heap) (tk' : Nat) (me : Array UInt8) (mt : Tok) (ev : Addr) (evs : List Ev) (o : Obj) (X : Led) : Fr h₀ L h' (over [("method", some (.bytes me mt)), ("events", some (.ref ev))] m₁) → News h₀ L h' ((b, o) :: X) → (∀ p ∈ X, p.1 ≠ b) → BoxO sl o → (∀ p ∈ R, p ∈ X) → EventsAt X evs ev → (me = getB ∨ me = headB) → Mid5 h₀ L m₁ b sl R s { s with heap := h', toks := tk' }
theorem cut5 {h₀ : Heap} {m₁ : Str → Option Value} {b : Addr} {o : Obj} {R : Led} (_F : Fr h₀ env.locals s.heap m₁) (_N : News h₀ env.locals s.heap ((b, o) :: R)) (sl : Addr) (h1 : ∀ Q' : Flow → Shared → Prop, (∀ s', Mid5 h₀ env.locals m₁ b sl R s s' → Q' .next s') → wpAny M A (exec st env) Q' E s)
    (h2 : ∀ h' tk' me mt ev evs o X, Fr h₀ env.locals h' (over [("method", some (.bytes me mt)), ("events", some (.ref ev))] m₁) → News h₀ env.locals h' ((b, o) :: X) → (∀ p ∈ X, p.1 ≠ b) → BoxO sl o → (∀ p ∈ R, p ∈ X) → EventsAt X evs ev → (me = getB ∨ me = headB) → wpAny M A (execs more env) Q E { s with heap := h', toks := tk' }) :
    wpAny M A (execs (st :: more) env) Q E s :=
  execs_cut _ h1 fun s' h9 => by
    cases h9 with
    | mk h' tk' me mt ev evs o X x1 x2 x3 x4 x5 x6 x7 => exact h2 h' tk' me mt ev evs o X x1 x2 x3 x4 x5 x6 x7
end
theorem law_mk {w : World} {h₀ h : Heap} {L b sl r d : Addr} {m₀ m : Str → Option Value} {so o : Obj} {k1 k2 k3 k4 k5 pt : Tok} {sv gv lv av : Value} {limit last : Option Int} {X al : Led} {v1 v2 v3 v4 v5 : Option Value} {tk : Nat} {s : Shared}
    (F : Fr h₀ L h m) (N : News h₀ L h al) (hm : m = over (lawNames b r lv av v1 v2 v3 v4 v5) m₀) (C : CtlAt w X b sl r d so k1 k2 k3 k4 k5 pt sv gv lv av limit last) (hb : BoxO sl o) (hs : ∀ p ∈ (b, o) :: X, p ∈ al) : LawMid w h₀ L m₀ b sl so s { s with heap := h, toks := tk } := by
  subst hm
  exact (.mk h tk r d k1 k2 k3 k4 k5 pt sv gv lv av limit last o X v1 v2 v3 v4 v5 F (News.cut N hs) hb C)
theorem ctl_drop {fs : List CF} {i : Nat} {cs R : CS} {f : CF} (h : ctl (fs.drop i) cs = some R) (he : fs[i]? = some f) : ∃ cs', ctlStep cs f = some cs' ∧ ctl (fs.drop (i + 1)) cs' = some R := by
  have hlt := (List.getElem?_eq_some_iff.mp he).1
  have hd : fs.drop i = f :: fs.drop (i + 1) := by
    rw [List.drop_eq_getElem_cons hlt]
    congr 1
    exact (List.getElem?_eq_some_iff.mp he).2
  rw [hd] at h
  simp only [ctl] at h
  cases hs : ctlStep cs f with
  | none => rw [hs] at h; cases h
  | some c' => rw [hs] at h; exact ⟨c', rfl, h⟩
theorem step_set {cs cs' : CS} {l : Option Int} (h : ctlStep cs (.set l) = some cs') : cs.set = none ∧ cs' = ⟨some l, cs.go⟩ := by
  cases hs : cs.set with
  | none => simp [ctlStep, hs] at h; exact ⟨rfl, h.symm⟩
  | some x => simp [ctlStep, hs] at h
theorem step_unk {cs cs' : CS} (h : ctlStep cs .unk = some cs') : cs.set.isSome = true ∧ cs' = cs := by
  cases hs : cs.set with
  | none => simp [ctlStep, hs] at h
  | some x => simp [ctlStep, hs] at h; exact ⟨rfl, h.symm⟩
theorem ite_some {α : Type} {c : Bool} {a b : α} (h : (if c = true then some a else none) = some b) : c = true ∧ b = a := by
  cases c with
  | true => rw [if_pos rfl] at h; exact ⟨rfl, (Option.some.inj h).symm⟩
  | false => rw [if_neg (by decide)] at h; cases h
theorem step_go {cs cs' : CS} {k : Int} (h : ctlStep cs (.go k) = some cs') : cs.set.isSome = true ∧ k.fmod 4 = 0 ∧ 0 ≤ k ∧ k ≤ 20 ∧ (∀ g, cs.go = some g → k ≤ g) ∧ cs' = ⟨cs.set, some k⟩ := by
  obtain ⟨hc, e⟩ := ite_some (show (if (cs.set.isSome && decide (k % 4 = 0) && decide (0 ≤ k) && decide (k ≤ 20) && (match cs.go with | none => true | some g => decide (k ≤ g))) = true then some (⟨cs.set, some k⟩ : CS) else none) = some cs' from h)
  simp only [Bool.and_eq_true, decide_eq_true_eq] at hc
  obtain ⟨⟨⟨⟨h1, h2⟩, h3⟩, h4⟩, h5⟩ := hc
  refine ⟨h1, by rw [Int.fmod_eq_emod_of_nonneg _ (by decide)]; exact h2, h3, h4, fun g hg => ?_, e⟩
  rw [hg] at h5
  simpa using h5
theorem set_ref {n : Led} {s : Option (Option Int)} {v : Value} (h : SetAt n s v) (hs : s.isSome = true) : ∃ l, v = .ref l := by
  match s, h with
  | none, _ => cases hs
  | some none, ⟨l, _, e, _⟩ => exact ⟨l, e⟩
  | some (some _), ⟨l, _, _, _, _, e, _⟩ => exact ⟨l, e⟩
section
variable {ev : Addr} {lv : Value} {limit : Option Int} {me : Array UInt8} {mt : Tok} {evs : List Ev} {c x y : Int}
theorem played_great (hev : EventsAt rest evs ev) (hl : LimV limit lv) (hm : me = getB ∨ me = headB) (hR : run limit me evs S₀ = .great) : DoesL w mean mg mb 292 22 [.ref ev, lv, .bytes me mt] rest (fun v n => (∃ t, v = .str "too great" t) ∧ n = rest) := by
  have h := played_walk (w := w) (mean := mean) (mg := mg) (mb := mb) (mt := mt) hev hl hm; rw [hR] at h; exact h
theorem played_code (hev : EventsAt rest evs ev) (hl : LimV limit lv) (hm : me = getB ∨ me = headB) (hR : run limit me evs S₀ = .code c) : DoesL w mean mg mb 292 22 [.ref ev, lv, .bytes me mt] rest (fun v n => (∃ t, v = .int c t) ∧ n = rest) := by
  have h := played_walk (w := w) (mean := mean) (mg := mg) (mb := mb) (mt := mt) hev hl hm; rw [hR] at h; exact h
theorem played_pair (hev : EventsAt rest evs ev) (hl : LimV limit lv) (hm : me = getB ∨ me = headB) (hR : run limit me evs S₀ = .pair x y) : DoesL w mean mg mb 292 22 [.ref ev, lv, .bytes me mt] rest (fun v n => ∃ p t u, v = .ref p ∧ n = (p, tupo [.int x t, .int y u]) :: rest ∧ ∀ q ∈ rest, q.1 ≠ p) := by
  have h := played_walk (w := w) (mean := mean) (mg := mg) (mb := mb) (mt := mt) hev hl hm; rw [hR] at h; exact h
theorem due_great (hev : EventsAt rest evs ev) (hl : LimV limit lv) (hm : me = getB ∨ me = headB) (hR : run limit me evs S₀ = .great) : Does w mean mg mb 278 6 [.ref ev, lv, .bytes me mt] rest (fun v n => (∃ t, v = .str "too great" t) ∧ n = rest) := by
  have h := due_walk (w := w) (mean := mean) (mg := mg) (mb := mb) (mt := mt) hev hl hm; rw [hR] at h; exact h
theorem due_code (hev : EventsAt rest evs ev) (hl : LimV limit lv) (hm : me = getB ∨ me = headB) (hR : run limit me evs S₀ = .code c) : Does w mean mg mb 278 6 [.ref ev, lv, .bytes me mt] rest (fun v n => (∃ t, v = .int c t) ∧ n = rest) := by
  have h := due_walk (w := w) (mean := mean) (mg := mg) (mb := mb) (mt := mt) hev hl hm; rw [hR] at h; exact h
theorem due_pair (hev : EventsAt rest evs ev) (hl : LimV limit lv) (hm : me = getB ∨ me = headB) (hR : run limit me evs S₀ = .pair x y) : Does w mean mg mb 278 6 [.ref ev, lv, .bytes me mt] rest (fun v n => ∃ p t u, v = .ref p ∧ n = (p, tupo [.int x t, .int y u]) :: rest ∧ ∀ q ∈ rest, q.1 ≠ p) := by
  have h := due_walk (w := w) (mean := mean) (mg := mg) (mb := mb) (mt := mt) hev hl hm; rw [hR] at h; exact h
end
theorem mid5_mk {h₀ h : Heap} {L b sl ev : Addr} {m₁ m : Str → Option Value} {R X : Led} {o : Obj} {q : Addr × Obj} {me : Array UInt8} {mt : Tok} {evs : List Ev} {tk : Nat} {s : Shared} (F : Fr h₀ L h m) (N : News h₀ L h (q :: (b, o) :: X))
    (hm : m = over [("method", some (.bytes me mt)), ("events", some (.ref ev))] m₁) (hX : ∀ p ∈ X, p.1 ≠ b) (hb : BoxO sl o) (hE : EventsAt X evs ev) (hme : me ∈ ([#[71, 69, 84], #[72, 69, 65, 68]] : List (Array UInt8))) (hR : ∀ p ∈ R, p ∈ X) : Mid5 h₀ L m₁ b sl R s { s with heap := h, toks := tk } := by
  subst hm
  have e : ∀ x ∈ ([#[71, 69, 84], #[72, 69, 65, 68]] : List (Array UInt8)), x = getB ∨ x = headB := by decide +kernel
  exact (.mk h tk me mt ev evs o X F (News.cut N fun p hp => .tail _ hp) hX hb hR hE (e _ hme))

theorem u_ctl {b sl : Addr} {so : Obj} (R : Value → Led → Prop) (r : ∀ D fa lv av limit last fs X o', BoxO sl o' → CtlFacts X b sl so fs fa limit last lv av → R (.ref D) ((D, tupo [.ref fa, lv, av]) :: (b, o') :: X)) (v : Value) (n : Led)
    (h : ∃ D fa lv av limit last fs X o', v = .ref D ∧ n = (D, tupo [.ref fa, lv, av]) :: (b, o') :: X ∧ BoxO sl o' ∧ CtlFacts X b sl so fs fa limit last lv av) : R v n := by
  obtain ⟨D, fa, lv, av, limit, last, fs, X, o', rfl, rfl, h1, h2⟩ := h
  exact r D fa lv av limit last fs X o' h1 h2
theorem u_evs {sl b : Addr} {so : Obj} {rst : Led} (R : Value → Led → Prop) (r : ∀ fa evs X o', (∀ p ∈ X, p.1 ≠ b) → BoxO sl o' → (sl, so) ∈ X → (∀ p ∈ rst, p ∈ X) → EventsAt X evs fa → R (.ref fa) ((b, o') :: X)) (v : Value) (n : Led) (h : EvPost sl b so rst v n) : R v n := by
  obtain ⟨fa, evs, X, o', rfl, rfl, h1, h2, h3, h4, h5⟩ := h
  exact r fa evs X o' h1 h2 h3 h4 h5
example : True := by (k_with "pyIter ref" => (k_here; refine hold ?_)); trivial
example : True := by (k_with "call type:range" => ((rename Fr _ _ _ _ => F'); (rename News _ _ _ _ => N'); (with_unfolding_all refine range1_rows F' N' ?_); intro _ _ _ _ _ _ _ _ _)); trivial
example : True := by (k_with "call ref" => (k_here; (with_reducible show wpAny _ _ (call (Value.ref 88) _) _ _ _); k_dflt (refine' call_cls ?zzk1 ?zzk2 ?zzk3 ?zzk4 ?zzk5 ?zzk6 ?_; (case zzk1 => k_asm); (case zzk2 => k_asm); (case zzk3 => k_asm); (case zzk4 => k_is); (case zzk5 => k_is); (case zzk6 => k_is); k_whole; intro x9 d9 h' F' N' l19 l29; (try k_lt l19); (try k_lt2 l29); (try k_sweep); (refine' code_def ?zzk1 ?zzk2 ?zzk3 ?zzk4 ?zzk5 ?zzkA ?zzkF ?zzkK ?zzk6 ?zzk7 ?zzk8 ?zzk9 ?zzkB ?_ ?zzc2 ?zzc3 ?zzc4 ?zzc5; (case zzkA => exact rfl); (case zzkF => exact rfl); (case zzkK => exact rfl); (case zzk1 => k_asm); (case zzk2 => k_asm); (case zzk3 => k_asm); (case zzk4 => k_asm); (case zzk5 => k_asm); (case zzk6 => k_is); (case zzk7 => k_is); (case zzk8 => ktr_room); (case zzk9 => exact BindsTo.of_eq rfl); (case zzc5 => decide); (case zzkB => exact locs rfl); (case zzc2 => exact rfl); (case zzc3 => exact rfl); (case zzc4 => exact rfl); k_whole; intro g' L' h' FG' F' N' B' X' T'; (try dsimp only); (try k_lift B'); (try k_fold))))); trivial
example : True := by (k_with "exec For Name Name cons nil" => (k_here; (rename Fr _ _ _ _ => lF'); (with_unfolding_all refine' For_turns lF' ?_; k_whole))); trivial
example : True := by (k_with "call ref" => (k_here; (with_reducible show wpAny _ _ (call (Value.ref 256) _) _ _ _); k_dflt (refine' dz1 (control_any ?zzqP ?zzqs ?zzqI ?zzql ?zzqb ?zzqn) (u_ctl) ?_; ((case zzqP => k_updF); (case zzqs => k_mem); (case zzqI => assumption); (case zzql => assumption); (case zzqb => assumption); (case zzqn => first | assumption | k_ne))); (intro D9 fa9 lv9 av9 limit last fs X9 o9 hbo9 hC9 h' tk' F' N'; (skip); (try k_sweep)))); trivial
example : True := by (k_with "call ref" => (k_here; (with_reducible show wpAny _ _ (call (Value.ref 57) _) _ _ _); k_dflt (refine' dz1 (ctake_set0 ?zzqf ?zzql ?zzq1 ?zzq2) (u_nl) ?_; ((case zzqf => (repeat (first | assumption | apply List.mem_cons_of_mem))); (case zzql => (repeat (first | assumption | apply List.mem_cons_of_mem))); (case zzq1 => first | assumption | k_ne); (case zzq2 => k_all))); (intro l9' k9' hn1' hn2' h' tk' F' N'; (skip); (try k_sweep)))); trivial
example : True := by (k_with "call ref" => (k_here; (with_reducible show wpAny _ _ (call (Value.ref 57) _) _ _ _); k_dflt (refine' dz1 (ctake_set1 ?zzqf ?zzql ?zzq1 ?zzq2) (u_nl) ?_; ((case zzqf => (repeat (first | assumption | apply List.mem_cons_of_mem))); (case zzql => (repeat (first | assumption | apply List.mem_cons_of_mem))); (case zzq1 => first | assumption | k_ne); (case zzq2 => k_all))); (intro l9' k9' hn1' hn2' h' tk' F' N'; (skip); (try k_sweep)))); trivial
example : True := by (k_with "call ref" => (k_here; (with_reducible show wpAny _ _ (call (Value.ref 57) _) _ _ _); k_dflt (refine' dz1 (ctake_unk ?zzqf ?zzq1 ?zzq2) (u_eq) ?_; ((case zzqf => (repeat (first | assumption | apply List.mem_cons_of_mem))); (case zzq1 => first | assumption | k_ne); (case zzq2 => k_all))); (intro  h' tk' F' N'; (skip); (try k_sweep)))); trivial
example : True := by (k_with "call ref" => (k_here; (with_reducible show wpAny _ _ (call (Value.ref 57) _) _ _ _); k_dflt (refine' dz1 (ctake_go0 ?zzqf ?zzqa ?zzqb ?zzqc ?zzq1 ?zzq2) (u_eq) ?_; ((case zzqf => (repeat (first | assumption | apply List.mem_cons_of_mem))); (case zzqa => assumption); (case zzqb => assumption); (case zzqc => assumption); (case zzq1 => first | assumption | k_ne); (case zzq2 => k_all))); (intro  h' tk' F' N'; (skip); (try k_sweep)))); trivial
example : True := by (k_with "call ref" => (k_here; (with_reducible show wpAny _ _ (call (Value.ref 57) _) _ _ _); k_dflt (refine' dz1 (ctake_go1 ?zzqd ?zzqe ?zzqf ?zzqa ?zzqb ?zzqc ?zzq1 ?zzq2) (u_eq) ?_; ((case zzqf => (repeat (first | assumption | apply List.mem_cons_of_mem))); (case zzqa => assumption); (case zzqb => assumption); (case zzqc => assumption); (case zzqd => assumption); (case zzqe => assumption); (case zzq1 => first | assumption | k_ne); (case zzq2 => k_all))); (intro  h' tk' F' N'; (skip); (try k_sweep)))); trivial
example : True := by (k_with "call ref" => (k_here; (with_reducible show wpAny _ _ (call (Value.ref 78) _) _ _ _); k_dflt (refine' dz1 (setting_any ?zzqs ?zzqr ?zzqd) (u_pr) ?_; ((case zzqr => k_mem); (case zzqd => k_mem); (case zzqs => (first | assumption | (refine SetAt.mono ?_ (by assumption); intro p hp; repeat (first | exact hp | apply List.mem_cons_of_mem)))))); (intro sv' hlv' h' tk' F' N'; (skip); (try k_sweep)))); trivial
example : True := by (k_with "call ref" => (k_here; (with_reducible show wpAny _ _ (call (Value.ref 78) _) _ _ _); k_dflt (refine' dz1 (setting_some ?zzqs ?zzqr ?zzqd) (u_ex) ?_; ((case zzqr => k_mem); (case zzqd => k_mem); (case zzqs => (first | assumption | (refine SetAt.mono ?_ (by assumption); intro p hp; repeat (first | exact hp | apply List.mem_cons_of_mem)))))); (intro t9' h' tk' F' N'; (skip); (try k_sweep)))); trivial
example : True := by (k_with "call ref" => (k_here; (with_reducible show wpAny _ _ (call (Value.ref 78) _) _ _ _); k_dflt (refine' dz1 (setting_none ?zzqs ?zzqr ?zzqd) (u_eq) ?_; ((case zzqr => k_mem); (case zzqd => k_mem); (case zzqs => (first | assumption | (refine SetAt.mono ?_ (by assumption); intro p hp; repeat (first | exact hp | apply List.mem_cons_of_mem)))))); (intro  h' tk' F' N'; (skip); (try k_sweep)))); trivial
example : True := by (k_with "call ref" => (k_here; (with_reducible show wpAny _ _ (call (Value.ref 85) _) _ _ _); k_dflt (refine' dz1 (let_any ?zzqg ?zzqr ?zzqd) (u_eq) ?_; ((case zzqr => k_mem); (case zzqd => k_mem); (case zzqg => assumption))); (intro  h' tk' F' N'; ((try dsimp only [isLet])); (try k_sweep)))); trivial
example : True := by (k_with "call ref" => (k_here; (with_reducible show wpAny _ _ (call (Value.ref 263) _) _ _ _); k_dflt (refine' dz1 (events_any ?zzqP ?zzqs ?zzqI ?zzql ?zzqb ?zzqn) (u_evs) ?_; ((case zzqP => k_updF); (case zzqs => (repeat (first | assumption | apply List.mem_cons_of_mem))); (case zzqI => assumption); (case zzql => assumption); (case zzqb => assumption); (case zzqn => first | assumption | k_ne))); (intro fa' evs' X' o' hX' hbo' hsl' hrs' hE' h' tk' F' N'; (skip); (try k_sweep)))); trivial
example : True := by (k_with "call ref" => (k_here; (with_reducible show wpAny _ _ (call (Value.ref 292) _) _ _ _); k_dflt (refine' dzL1 (played_great ?zzqe ?zzql ?zzqm ?zzqR) (u_ex) ?_; ((case zzqR => assumption); (case zzqe => (first | assumption | (refine EventsAt.mono ?_ (by assumption); intro p hp; repeat (first | exact hp | apply List.mem_cons_of_mem)))); (case zzql => assumption); (case zzqm => assumption))); (intro t9' h' tk' F' N'; (skip); (try k_sweep)))); trivial
example : True := by (k_with "call ref" => (k_here; (with_reducible show wpAny _ _ (call (Value.ref 292) _) _ _ _); k_dflt (refine' dzL1 (played_code ?zzqe ?zzql ?zzqm ?zzqR) (u_ex) ?_; ((case zzqR => assumption); (case zzqe => (first | assumption | (refine EventsAt.mono ?_ (by assumption); intro p hp; repeat (first | exact hp | apply List.mem_cons_of_mem)))); (case zzql => assumption); (case zzqm => assumption))); (intro t9' h' tk' F' N'; (skip); (try k_sweep)))); trivial
example : True := by (k_with "call ref" => (k_here; (with_reducible show wpAny _ _ (call (Value.ref 292) _) _ _ _); k_dflt (refine' dzL1 (played_pair ?zzqe ?zzql ?zzqm ?zzqR) (u_e3) ?_; ((case zzqR => assumption); (case zzqe => (first | assumption | (refine EventsAt.mono ?_ (by assumption); intro p hp; repeat (first | exact hp | apply List.mem_cons_of_mem)))); (case zzql => assumption); (case zzqm => assumption))); (intro p9' t9' u9' hn9' h' tk' F' N'; (skip); (try k_sweep)))); trivial
example : True := by (k_with "call ref" => (k_here; (with_reducible show wpAny _ _ (call (Value.ref 278) _) _ _ _); k_dflt (refine' dz1 (due_great ?zzqe ?zzql ?zzqm ?zzqR) (u_ex) ?_; ((case zzqR => assumption); (case zzqe => (first | assumption | (refine EventsAt.mono ?_ (by assumption); intro p hp; repeat (first | exact hp | apply List.mem_cons_of_mem)))); (case zzql => assumption); (case zzqm => assumption))); (intro t9' h' tk' F' N'; (skip); (try k_sweep)))); trivial
example : True := by (k_with "call ref" => (k_here; (with_reducible show wpAny _ _ (call (Value.ref 278) _) _ _ _); k_dflt (refine' dz1 (due_code ?zzqe ?zzql ?zzqm ?zzqR) (u_ex) ?_; ((case zzqR => assumption); (case zzqe => (first | assumption | (refine EventsAt.mono ?_ (by assumption); intro p hp; repeat (first | exact hp | apply List.mem_cons_of_mem)))); (case zzql => assumption); (case zzqm => assumption))); (intro t9' h' tk' F' N'; (skip); (try k_sweep)))); trivial
example : True := by (k_with "call ref" => (k_here; (with_reducible show wpAny _ _ (call (Value.ref 278) _) _ _ _); k_dflt (refine' dz1 (due_pair ?zzqe ?zzql ?zzqm ?zzqR) (u_e3) ?_; ((case zzqR => assumption); (case zzqe => (first | assumption | (refine EventsAt.mono ?_ (by assumption); intro p hp; repeat (first | exact hp | apply List.mem_cons_of_mem)))); (case zzql => assumption); (case zzqm => assumption))); (intro p9' t9' u9' hn9' h' tk' F' N'; (skip); (try k_sweep)))); trivial
def premOf {P Q : Prop} (_ : P → Q) : Prop := P
inductive CtlInv (ww : World) (limit : Option Int) (last : Option Int) (fs : List CF) (x d b : Addr) (o : Obj) (X : Led) (m₀ : Str → Option Value) (i : Nat) : (Str → Option Value) → Led → Prop
  | mk (cs : CS) (sv gv : Value) (k1 k2 k3 k4 k5 pt : Tok) (fv : Option Value) (Y : Led) : ctl (fs.drop i) cs = some ⟨some limit, last⟩ → (∀ p ∈ Y, p.1 ≠ d) → (∀ p ∈ Y, p.1 ≠ b) → (∀ p ∈ X, p ∈ Y) → SetAt Y cs.set sv → LimV cs.go gv → (∀ g, cs.go = some g → 0 ≤ g ∧ g ≤ 20) → CtlInv ww limit last fs x d b o X m₀ i (over [("frame", fv)] m₀) ((x, instObj 88 d) :: (d, ctlD ww k1 k2 k3 k4 k5 pt sv gv) :: (b, o) :: Y)
theorem ctl_mk {ww : World} {limit last : Option Int} {fs : List CF} {x d b : Addr} {o : Obj} {X : Led} {m₀ m : Str → Option Value} {i : Nat} {n : Led} (cs : CS) (sv gv : Value) (k1 k2 k3 k4 k5 pt : Tok) (fv : Option Value) (Y : Led) (h1 : ctl (fs.drop i) cs = some ⟨some limit, last⟩) (hn : n = ((x, instObj 88 d) :: (d, ctlD ww k1 k2 k3 k4 k5 pt sv gv) :: (b, o) :: Y)) (h2 : ∀ p ∈ Y, p.1 ≠ d) (h3 : ∀ p ∈ Y, p.1 ≠ b) (h4 : ∀ p ∈ X, p ∈ Y) (h5 : SetAt Y cs.set sv) (h6 : LimV cs.go gv) (h7 : ∀ g, cs.go = some g → 0 ≤ g ∧ g ≤ 20)
    (h : m = over [("frame", fv)] m₀) : CtlInv ww limit last fs x d b o X m₀ i m n := by rw [h, hn]; exact .mk cs sv gv k1 k2 k3 k4 k5 pt fv Y h1 h2 h3 h4 h5 h6 h7
inductive CtlGet (X : Led) (fs : List CF) (i : Nat) (R cs : CS) : Value → Value → Value → Prop
  | set0 (t : Addr) (a : Tok) (l : Addr) (kk : Nat) (gv : Value) : (t, tupo [.str "settings" a, .ref l]) ∈ X → (l, W.listOf #[] kk) ∈ X → ctl (fs.drop (i + 1)) ⟨some none, cs.go⟩ = some R → CtlGet X fs i R cs (.ref t) .none gv
  | set1 (t : Addr) (a : Tok) (l : Addr) (kk : Nat) (q : Addr) (u1 u2 : Tok) (z : Int) (gv : Value) : (t, tupo [.str "settings" a, .ref l]) ∈ X → (l, W.listOf #[.ref q] kk) ∈ X → (q, tupo [.int 6 u1, .int z u2]) ∈ X → ctl (fs.drop (i + 1)) ⟨some (some z), cs.go⟩ = some R → CtlGet X fs i R cs (.ref t) .none gv
  | unk (t : Addr) (a u1 u2 : Tok) (l : Addr) (gv : Value) : (t, tupo [.str "unknown" a, .int 33 u1, .bytes #[] u2]) ∈ X → ctl (fs.drop (i + 1)) cs = some R → CtlGet X fs i R cs (.ref t) (.ref l) gv
  | go0 (t : Addr) (a u : Tok) (l : Addr) (k : Int) : (t, tupo [.str "goaway" a, .int k u]) ∈ X → k.fmod 4 = 0 → 0 ≤ k → k ≤ 20 → ctl (fs.drop (i + 1)) ⟨cs.set, some k⟩ = some R → CtlGet X fs i R cs (.ref t) (.ref l) .none
  | go1 (t : Addr) (a u : Tok) (l : Addr) (k g : Int) (gt : Tok) : (t, tupo [.str "goaway" a, .int k u]) ∈ X → k.fmod 4 = 0 → 0 ≤ k → k ≤ 20 → k ≤ g → g ≤ 20 → ctl (fs.drop (i + 1)) ⟨cs.set, some k⟩ = some R → CtlGet X fs i R cs (.ref t) (.ref l) (.int g gt)
theorem ctl_get {X Y : Led} {its : List Value} {fs : List CF} {i : Nat} {R cs : CS} {v sv gv : Value} (hp : Prs (CfAt X) its fs) (hv : its[i]? = some v) (hct : ctl (fs.drop i) cs = some R) (hset : SetAt Y cs.set sv) (hgo : LimV cs.go gv) (hgb : ∀ g, cs.go = some g → 0 ≤ g ∧ g ≤ 20) : CtlGet X fs i R cs v sv gv := by
  obtain ⟨f, hfi, hcf⟩ := hp.get hv
  obtain ⟨cs', hst, hct'⟩ := ctl_drop hct hfi
  cases f with
  | set l =>
    obtain ⟨e1, rfl⟩ := step_set hst
    rw [e1] at hset
    obtain rfl : sv = .none := hset
    cases l with
    | none => obtain ⟨t, a, kk, l, rfl, ht, hl9⟩ := hcf; exact .set0 _ _ _ _ _ ht hl9 hct'
    | some z => obtain ⟨t, a, kk, l, q, u1, u2, rfl, ht, hl9, hq9⟩ := hcf; exact .set1 _ _ _ _ _ _ _ _ _ ht hl9 hq9 hct'
  | unk =>
    obtain ⟨e1, rfl⟩ := step_unk hst
    obtain ⟨l, rfl⟩ := set_ref hset e1
    obtain ⟨t, a, u1, u2, rfl, ht⟩ := hcf
    exact .unk _ _ _ _ _ _ ht hct'
  | go k =>
    obtain ⟨e1, hk4, hk0, hk20, hkg, rfl⟩ := step_go hst
    obtain ⟨l, rfl⟩ := set_ref hset e1
    obtain ⟨t, a, u, rfl, ht⟩ := hcf
    cases hcg : cs.go with
    | none =>
      rw [hcg] at hgo
      obtain rfl : gv = .none := hgo
      exact .go0 _ _ _ _ _ ht hk4 hk0 hk20 hct'
    | some g =>
      rw [hcg] at hgo
      obtain ⟨gt, rfl⟩ : ∃ t, gv = .int g t := hgo
      exact .go1 _ _ _ _ _ _ _ ht hk4 hk0 hk20 (hkg g hcg) (hgb g hcg).2 hct'
inductive NumInv (b sl : Addr) (X : Led) (m₀ : Str → Option Value) (i : Nat) : (Str → Option Value) → Led → Prop
  | mk (o : Obj) (v3 v4 v5 : Option Value) : BoxO sl o → NumInv b sl X m₀ i (over [("number", v3), ("method", v4), ("events", v5)] m₀) ((b, o) :: X)
theorem num_mk {b sl : Addr} {X : Led} {m₀ m : Str → Option Value} {i : Nat} (o : Obj) (v3 v4 v5 : Option Value) (hb : BoxO sl o) (h : m = over [("number", v3), ("method", v4), ("events", v5)] m₀) : NumInv b sl X m₀ i m ((b, o) :: X) := by rw [h]; exact .mk o v3 v4 v5 hb
local macro_rules | `(tactic| k_qdec) => `(tactic| decide +kernel)
set_option maxHeartbeats 8000000 in
theorem law_core : premOf hd := by
  show premOf hd
  unfold premOf
  k_go0
  rename World => ww
  refine law_cut0 (by assumption) ?_ ?_
  · intro Q1 hQ1
    k_steps
    exact hQ1 _ (lm0_mk (by assumption) (by assumption) (over_end2 _ (by repeat (first | exact agr_nil | refine agr_cons rfl ?_)) (fun z hz => by (repeat (first | with_reducible exact rfl | with_reducible exact over_nil | refine (if_neg (by first | with_reducible exact off1 hz | with_reducible exact off1 (off2 hz) | with_reducible exact off1 (off2 (off2 hz)) | with_reducible exact off1 (off2 (off2 (off2 hz))) | with_reducible exact off1 (off2 (off2 (off2 (off2 hz)))) | with_reducible exact off1 (off2 (off2 (off2 (off2 (off2 hz))))) | with_reducible exact off1 (off2 (off2 (off2 (off2 (off2 (off2 hz)))))) | with_reducible exact off1 (off2 (off2 (off2 (off2 (off2 (off2 (off2 hz))))))) | with_reducible exact off1 (off2 (off2 (off2 (off2 (off2 (off2 (off2 (off2 hz)))))))) | with_reducible exact off1 (off2 (off2 (off2 (off2 (off2 (off2 (off2 (off2 (off2 hz))))))))))).trans ?_)) <;> exact rfl)) (by k_mem) (by k_mem) (by assumption) (by omega) (by k_ne))
  · intro h8 tk8 b sl vs ns c o F8 N8 hI hl hbo hsb
    refine law_cut3 (sl := sl) (so := W.listOf vs.toArray c) F8 (.head _) ?_ ?_
    · intro Q1 hQ1
      --DONE{
      k_steps
      unfold Hold
      rename Fr _ _ _ _ => F9
      rename News _ _ _ _ => N9
      have hdX : ∀ p ∈ X9, p.1 ≠ d9 := fun p hp => Nat.ne_of_lt (allLt_mem l19.2.2 p hp)
      have hxX : ∀ p ∈ X9, p.1 ≠ x9 := fun p hp => Nat.ne_of_lt (Nat.lt_trans (allLt_mem l19.2.2 p hp) l29)
      have hxd : @Ne Nat x9 d9 := Nat.ne_of_gt l29
      have hbd : @Ne Nat b d9 := Nat.ne_of_lt l19.2.1
      have hxb : @Ne Nat x9 b := Nat.ne_of_gt (Nat.lt_trans l19.2.1 l29)
      have N1 := News.cut (b := (x9, instObj 88 d9) :: (d9, ctlD ww _ _ _ _ _ _ .none .none) :: (b, o9) :: X9) N9 (by
        intro p hp
        rcases List.mem_cons.mp hp with rfl | hp
        · exact .head _
        · rcases List.mem_cons.mp hp with rfl | hp
          · exact .tail _ (.head _)
          · exact .tail _ (.tail _ (.tail _ hp)))
      obtain ⟨its, k0, hmm, hp, hz⟩ := hC9.cfs
      refine iter_inv (CtlInv ww limit last fs x9 d9 b o9 X9) rfl F9 N1 (.tail _ (.tail _ (.tail _ hmm)))
        (ctl_mk ⟨none, none⟩ .none .none _ _ _ _ _ _ _ X9 hC9.ct rfl hdX hC9.off (fun _ h => h) rfl rfl (fun g e => nomatch e) (over_self2 _ (by repeat (first | exact agr_nil | refine agr_cons rfl ?_)))) (fun i m n h => by cases h; exact .tail _ (.tail _ (.tail _ ((by assumption : ∀ p ∈ X9, p ∈ _) _ hmm)))) ?step ?done
      case step =>
        intro i v I oI h tk m n hv hI9 hoff F N
        cases hI9 with | mk cs sv gv k1 k2 k3 k4 k5 pt fv Y hct hYd hYb hXY hset hgo hgb =>
        have hg9 := ctl_get hp hv hct hset hgo hgb
        clear hv hct
        have hIx : @Ne Nat I x9 := (hoff _ (.head _)).symm
        have hId : @Ne Nat I d9 := (hoff _ (.tail _ (.head _))).symm
        have hIb : @Ne Nat I b := (hoff _ (.tail _ (.tail _ (.head _)))).symm
        replace N := News.cut (b := (x9, instObj 88 d9) :: (d9, ctlD ww k1 k2 k3 k4 k5 pt sv gv) :: (b, o9) :: (I, oI) :: Y) N (sub_cons (by k_mem) (sub_cons (by k_mem) (sub_cons (by k_mem) (sub_cons (by k_mem) fun p hp => .tail _ (.tail _ (.tail _ (.tail _ hp)))))))
        cases hg9 with
        | set0 t a l kk gv ht hl9 hct' =>
          have htY := hXY _ ht
          have hlY := hXY _ hl9
          k_steps
          exact turn_end (by assumption) (by assumption) ((x9, instObj 88 d9) :: (d9, ctlD ww _ _ _ _ _ _ (.ref l9') gv) :: (b, o9) :: (l9', W.listOf #[] k9') :: Y) (sub_cons (by k_mem) (sub_cons (by k_mem) (sub_cons (by k_mem) (sub_cons (by k_mem) (sub_cons (by k_mem) (by intro p hp; repeat (first | exact hp | apply List.mem_cons_of_mem))))))) (off_cons hIx.symm (off_cons hId.symm (off_cons hIb.symm (off_cons (hn2' _ (.tail _ (.head _))).symm fun p hp => hoff p (.tail _ (.tail _ (.tail _ hp)))))))
            (ctl_mk ⟨some none, cs.go⟩ _ gv _ _ _ _ _ _ _ _ hct' rfl (off_cons hn1' hYd) (off_cons (hn2' _ (.head _)).symm hYb) (fun p hp => .tail _ (hXY p hp)) ⟨_, _, rfl, .head _⟩ hgo hgb (over_end2 _ (by repeat (first | exact agr_nil | refine agr_cons rfl ?_)) (fun z hz => by (repeat (first | with_reducible exact rfl | with_reducible exact over_nil | refine (if_neg (by first | with_reducible exact off1 hz | with_reducible exact off1 (off2 hz) | with_reducible exact off1 (off2 (off2 hz)) | with_reducible exact off1 (off2 (off2 (off2 hz))) | with_reducible exact off1 (off2 (off2 (off2 (off2 hz)))) | with_reducible exact off1 (off2 (off2 (off2 (off2 (off2 hz))))) | with_reducible exact off1 (off2 (off2 (off2 (off2 (off2 (off2 hz)))))) | with_reducible exact off1 (off2 (off2 (off2 (off2 (off2 (off2 (off2 hz))))))) | with_reducible exact off1 (off2 (off2 (off2 (off2 (off2 (off2 (off2 (off2 hz)))))))) | with_reducible exact off1 (off2 (off2 (off2 (off2 (off2 (off2 (off2 (off2 (off2 hz))))))))))).trans ?_)) <;> exact rfl)))
        | set1 t a l kk q u1 u2 z gv ht hl9 hq9 hct' =>
          have htY := hXY _ ht
          have hlY := hXY _ hl9
          have hqY := hXY _ hq9
          k_steps
          exact turn_end (by assumption) (by assumption) ((x9, instObj 88 d9) :: (d9, ctlD ww _ _ _ _ _ _ (.ref l9') gv) :: (b, o9) :: (l9', W.listOf #[.ref q] k9') :: Y) (sub_cons (by k_mem) (sub_cons (by k_mem) (sub_cons (by k_mem) (sub_cons (by k_mem) (sub_cons (by k_mem) (by intro p hp; repeat (first | exact hp | apply List.mem_cons_of_mem))))))) (off_cons hIx.symm (off_cons hId.symm (off_cons hIb.symm (off_cons (hn2' _ (.tail _ (.head _))).symm fun p hp => hoff p (.tail _ (.tail _ (.tail _ hp)))))))
            (ctl_mk ⟨some (some z), cs.go⟩ _ gv _ _ _ _ _ _ _ _ hct' rfl (off_cons hn1' hYd) (off_cons (hn2' _ (.head _)).symm hYb) (fun p hp => .tail _ (hXY p hp)) ⟨_, _, q, u1, u2, rfl, .head _, .tail _ hqY⟩ hgo hgb (over_end2 _ (by repeat (first | exact agr_nil | refine agr_cons rfl ?_)) (fun z hz => by (repeat (first | with_reducible exact rfl | with_reducible exact over_nil | refine (if_neg (by first | with_reducible exact off1 hz | with_reducible exact off1 (off2 hz) | with_reducible exact off1 (off2 (off2 hz)) | with_reducible exact off1 (off2 (off2 (off2 hz))) | with_reducible exact off1 (off2 (off2 (off2 (off2 hz)))) | with_reducible exact off1 (off2 (off2 (off2 (off2 (off2 hz))))) | with_reducible exact off1 (off2 (off2 (off2 (off2 (off2 (off2 hz)))))) | with_reducible exact off1 (off2 (off2 (off2 (off2 (off2 (off2 (off2 hz))))))) | with_reducible exact off1 (off2 (off2 (off2 (off2 (off2 (off2 (off2 (off2 hz)))))))) | with_reducible exact off1 (off2 (off2 (off2 (off2 (off2 (off2 (off2 (off2 (off2 hz))))))))))).trans ?_)) <;> exact rfl)))
        | unk t a u1 u2 l gv ht hct' =>
          have htY := hXY _ ht
          k_steps
          exact turn_end (by assumption) (by assumption) ((x9, instObj 88 d9) :: (d9, ctlD ww _ _ _ _ _ _ (.ref l) gv) :: (b, o9) :: Y) (sub_cons (by k_mem) (sub_cons (by k_mem) (sub_cons (by k_mem) (sub_cons (by k_mem) (by intro p hp; repeat (first | exact hp | apply List.mem_cons_of_mem)))))) (off_cons hIx.symm (off_cons hId.symm (off_cons hIb.symm fun p hp => hoff p (.tail _ (.tail _ (.tail _ hp))))))
            (ctl_mk cs _ gv _ _ _ _ _ _ _ _ hct' rfl hYd hYb hXY hset hgo hgb (over_end2 _ (by repeat (first | exact agr_nil | refine agr_cons rfl ?_)) (fun z hz => by (repeat (first | with_reducible exact rfl | with_reducible exact over_nil | refine (if_neg (by first | with_reducible exact off1 hz | with_reducible exact off1 (off2 hz) | with_reducible exact off1 (off2 (off2 hz)) | with_reducible exact off1 (off2 (off2 (off2 hz))) | with_reducible exact off1 (off2 (off2 (off2 (off2 hz)))) | with_reducible exact off1 (off2 (off2 (off2 (off2 (off2 hz))))) | with_reducible exact off1 (off2 (off2 (off2 (off2 (off2 (off2 hz)))))) | with_reducible exact off1 (off2 (off2 (off2 (off2 (off2 (off2 (off2 hz))))))) | with_reducible exact off1 (off2 (off2 (off2 (off2 (off2 (off2 (off2 (off2 hz)))))))) | with_reducible exact off1 (off2 (off2 (off2 (off2 (off2 (off2 (off2 (off2 (off2 hz))))))))))).trans ?_)) <;> exact rfl)))
        | go0 t a u l k ht hk4 hk0 hk20 hct' =>
          have htY := hXY _ ht
          k_steps
          exact turn_end (by assumption) (by assumption) ((x9, instObj 88 d9) :: (d9, ctlD ww _ _ _ _ _ _ (.ref l) (.int k _)) :: (b, o9) :: Y) (sub_cons (by k_mem) (sub_cons (by k_mem) (sub_cons (by k_mem) (sub_cons (by k_mem) (by intro p hp; repeat (first | exact hp | apply List.mem_cons_of_mem)))))) (off_cons hIx.symm (off_cons hId.symm (off_cons hIb.symm fun p hp => hoff p (.tail _ (.tail _ (.tail _ hp))))))
            (ctl_mk ⟨cs.set, some k⟩ _ _ _ _ _ _ _ _ _ _ hct' rfl hYd hYb hXY hset ⟨_, rfl⟩ (fun g e => by cases e; exact ⟨hk0, hk20⟩) (over_end2 _ (by repeat (first | exact agr_nil | refine agr_cons rfl ?_)) (fun z hz => by (repeat (first | with_reducible exact rfl | with_reducible exact over_nil | refine (if_neg (by first | with_reducible exact off1 hz | with_reducible exact off1 (off2 hz) | with_reducible exact off1 (off2 (off2 hz)) | with_reducible exact off1 (off2 (off2 (off2 hz))) | with_reducible exact off1 (off2 (off2 (off2 (off2 hz)))) | with_reducible exact off1 (off2 (off2 (off2 (off2 (off2 hz))))) | with_reducible exact off1 (off2 (off2 (off2 (off2 (off2 (off2 hz)))))) | with_reducible exact off1 (off2 (off2 (off2 (off2 (off2 (off2 (off2 hz))))))) | with_reducible exact off1 (off2 (off2 (off2 (off2 (off2 (off2 (off2 (off2 hz)))))))) | with_reducible exact off1 (off2 (off2 (off2 (off2 (off2 (off2 (off2 (off2 (off2 hz))))))))))).trans ?_)) <;> exact rfl)))
        | go1 t a u l k g gt ht hk4 hk0 hk20 hkg' hg20 hct' =>
          have htY := hXY _ ht
          k_steps
          exact turn_end (by assumption) (by assumption) ((x9, instObj 88 d9) :: (d9, ctlD ww _ _ _ _ _ _ (.ref l) (.int k _)) :: (b, o9) :: Y) (sub_cons (by k_mem) (sub_cons (by k_mem) (sub_cons (by k_mem) (sub_cons (by k_mem) (by intro p hp; repeat (first | exact hp | apply List.mem_cons_of_mem)))))) (off_cons hIx.symm (off_cons hId.symm (off_cons hIb.symm fun p hp => hoff p (.tail _ (.tail _ (.tail _ hp))))))
            (ctl_mk ⟨cs.set, some k⟩ _ _ _ _ _ _ _ _ _ _ hct' rfl hYd hYb hXY hset ⟨_, rfl⟩ (fun g e => by cases e; exact ⟨hk0, hk20⟩) (over_end2 _ (by repeat (first | exact agr_nil | refine agr_cons rfl ?_)) (fun z hz => by (repeat (first | with_reducible exact rfl | with_reducible exact over_nil | refine (if_neg (by first | with_reducible exact off1 hz | with_reducible exact off1 (off2 hz) | with_reducible exact off1 (off2 (off2 hz)) | with_reducible exact off1 (off2 (off2 (off2 hz))) | with_reducible exact off1 (off2 (off2 (off2 (off2 hz)))) | with_reducible exact off1 (off2 (off2 (off2 (off2 (off2 hz))))) | with_reducible exact off1 (off2 (off2 (off2 (off2 (off2 (off2 hz)))))) | with_reducible exact off1 (off2 (off2 (off2 (off2 (off2 (off2 (off2 hz))))))) | with_reducible exact off1 (off2 (off2 (off2 (off2 (off2 (off2 (off2 (off2 hz)))))))) | with_reducible exact off1 (off2 (off2 (off2 (off2 (off2 (off2 (off2 (off2 (off2 hz))))))))))).trans ?_)) <;> exact rfl)))
      case done =>
        intro h tk m n hI9 F N
        cases hI9 with | mk cs sv gv k1 k2 k3 k4 k5 pt fv Y hct hYd hYb hXY hset hgo hgb =>
        rw [List.drop_eq_nil_of_le (by rw [hp.length]; exact Nat.le_refl _)] at hct
        obtain rfl : cs = ⟨some limit, last⟩ := Option.some.inj hct
        k_steps
        exact hQ1 _ (law_mk (X := (x9, instObj 88 d9) :: (d9, ctlD ww k1 k2 k3 k4 k5 pt sv gv) :: Y) (by assumption) (by assumption) (over_end2 _ (by unfold lawNames; repeat (first | exact agr_nil | refine agr_cons rfl ?_)) (fun z hz => by unfold lawNames at hz; (repeat (first | with_reducible exact rfl | with_reducible exact over_nil | refine (if_neg (by first | with_reducible exact off1 hz | with_reducible exact off1 (off2 hz) | with_reducible exact off1 (off2 (off2 hz)) | with_reducible exact off1 (off2 (off2 (off2 hz))) | with_reducible exact off1 (off2 (off2 (off2 (off2 hz)))) | with_reducible exact off1 (off2 (off2 (off2 (off2 (off2 hz))))) | with_reducible exact off1 (off2 (off2 (off2 (off2 (off2 (off2 hz)))))) | with_reducible exact off1 (off2 (off2 (off2 (off2 (off2 (off2 (off2 hz))))))) | with_reducible exact off1 (off2 (off2 (off2 (off2 (off2 (off2 (off2 (off2 hz)))))))) | with_reducible exact off1 (off2 (off2 (off2 (off2 (off2 (off2 (off2 (off2 (off2 hz))))))))))).trans ?_)) <;> exact rfl))
          ⟨List.forall_mem_cons.mpr ⟨hxb, List.forall_mem_cons.mpr ⟨hbd.symm, hYb⟩⟩, .tail _ (.tail _ (hXY _ hC9.sl)), .head _, .tail _ (.head _), hset.mono fun p hp => .tail _ (.tail _ hp), hgo, hC9.lv, hC9.av, hC9.b1, hC9.b2⟩ hbo9 (by intro p hp; simp only [List.mem_cons] at hp ⊢; rcases hp with h | h | h | h; exact .inr (.inr (.inl h)); exact .inl h; exact .inr (.inl h); exact .inr (.inr (.inr h))))
      --}DONE
    · intro h9 tk9 r d k1 k2 k3 k4 k5 pt sv gv lv av limit last o X v1 v2 v3 v4 v5 F9 N9 hbo9 C
      replace F9 : Fr _ _ _ (over [("control", some (.ref r)), ("limit", some lv), ("last", some av), ("frames", v1), ("frame", v2), ("number", v3), ("method", v4), ("events", v5), ("box", some (.ref b))] _) := F9
      have hrb : @Ne Nat r b := C.off _ C.r
      have hdb : @Ne Nat d b := C.off _ C.d
      have hXb := C.off
      replace N9 := News.with1 (News.with1 (News.with1 N9 (.tail _ C.d)) (.tail _ (.tail _ C.r))) (.tail _ (.tail _ (.tail _ C.sl)))
      refine same_cut F9 N9 ?_ ?_
      · intro Q1 hQ1
        --DONE{
        have hset := C.set
        have hgo := C.go
        have hlv := C.lv
        have hav := C.av
        have hb1 := C.b1
        have hb2 := C.b2
        clear C
        cases limit with
        | none =>
          obtain rfl : lv = .none := hlv
          cases last with
          | none =>
            obtain rfl : av = .none := hav
            obtain rfl : gv = .none := hgo
            k_steps
            all_goals first | exact hQ1 _ _ (by assumption) (by assumption) | (exfalso; omega)
          | some x =>
            obtain ⟨t1, rfl⟩ : ∃ t, av = .int x t := hav
            obtain ⟨t2, rfl⟩ : ∃ t, gv = .int x t := hgo
            have hx := hb2 x rfl
            k_steps
            all_goals first | exact hQ1 _ _ (by assumption) (by assumption) | (exfalso; omega)
        | some z =>
          obtain ⟨t0, rfl⟩ : ∃ t, lv = .int z t := hlv
          have hz9 := hb1 z rfl
          cases last with
          | none =>
            obtain rfl : av = .none := hav
            obtain rfl : gv = .none := hgo
            k_steps
            all_goals first | exact hQ1 _ _ (by assumption) (by assumption) | (exfalso; omega)
          | some x =>
            obtain ⟨t1, rfl⟩ : ∃ t, av = .int x t := hav
            obtain ⟨t2, rfl⟩ : ∃ t, gv = .int x t := hgo
            have hx := hb2 x rfl
            k_steps
            all_goals first | exact hQ1 _ _ (by assumption) (by assumption) | (exfalso; omega)
        --}DONE
      · intro h10 tk10 F10 N10
        clear F9 N9
        have hso := C.sl
        k_steps
        unfold Hold
        rename Fr _ _ _ _ => F11
        rename News _ _ _ _ => N11
        rename IsRange _ _ _ _ _ _ _ _ => R11
        rename BoxO _ _ => hb11
        have N12 := News.cut (b := (b, _) :: X) N11 (by intro p hp; simp only [List.mem_cons] at hp ⊢; rcases hp with h | h; exact .inr (.inr (.inr (.inl h))); exact .inr (.inr (.inr (.inr h))))
        refine range_inv (NumInv b sl X) rfl R11 (by omega) (by omega) F11 N12 (num_mk _ _ _ _ hb11 (over_self2 _ (by repeat (first | exact agr_nil | refine agr_cons rfl ?_)))) ?step ?done
        case step =>
          intro i I oI t h tk m n hi hI9 hoff F N
          cases hI9 with | mk o5 v6 v7 v8 hbo5 =>
          have hIb : @Ne Nat I b := (hoff _ (.head _)).symm
          have hIX : ∀ p ∈ X, p.1 ≠ I := fun p hp => hoff p (.tail _ hp)
          have N13 := News.with1 (News.with1 N (.tail _ (.tail _ C.d))) (.tail _ (.tail _ (.tail _ C.r)))
          replace N13 := News.cut (b := (b, o5) :: (sl, W.listOf vs.toArray c) :: (r, instObj 88 d) :: (d, ctlD ww k1 k2 k3 k4 k5 pt sv gv) :: (I, oI) :: X) N13 (by intro p hp; simp only [List.mem_cons] at hp ⊢; rcases hp with h | h | h | h | h | h; exact .inr (.inr (.inr (.inl h))); exact .inr (.inr (.inr (.inr (h ▸ C.sl)))); exact .inl h; exact .inr (.inl h); exact .inr (.inr (.inl h)); exact .inr (.inr (.inr (.inr h))))
          clear N
          refine same_cut F N13 ?_ ?_
          · intro Q1 hQ1
            --DONE{
            have hgo := C.go
            have hav := C.av
            have hb2 := C.b2
            have hi3 : (i : Int) < 3 := by omega
            clear C hi
            cases last with
            | none =>
              have e1 : av = .none := hav
              have e2 : gv = .none := hgo
              subst e1
              subst e2
              k_steps
              all_goals exact hQ1 _ _ (by assumption) (by assumption)
            | some x =>
              obtain ⟨t1, rfl⟩ : ∃ t, av = .int x t := id hav
              obtain ⟨t2, rfl⟩ : ∃ t, gv = .int x t := id hgo
              have hx := hb2 x rfl
              k_steps
              all_goals first | exact hQ1 _ _ (by assumption) (by assumption) | (rename ((_ != _) = true) => hne9; simp at hne9)
            --}DONE
          · intro h14 tk14 F14 N14
            clear F N13
            refine cut5 F14 N14 sl ?_ ?_
            · intro Q1 hQ1
              k_steps
              rename (∀ p : Addr × Obj, p ∈ (_ : Led) → p ∈ (_ : Led)) => hrs9
              exact hQ1 _ (mid5_mk (by assumption) (by assumption) (over_end2 _ (by repeat (first | exact agr_nil | refine agr_cons rfl ?_)) (fun z hz => by (repeat (first | with_reducible exact rfl | with_reducible exact over_nil | refine (if_neg (by first | with_reducible exact off1 hz | with_reducible exact off1 (off2 hz) | with_reducible exact off1 (off2 (off2 hz)) | with_reducible exact off1 (off2 (off2 (off2 hz))) | with_reducible exact off1 (off2 (off2 (off2 (off2 hz)))) | with_reducible exact off1 (off2 (off2 (off2 (off2 (off2 hz))))) | with_reducible exact off1 (off2 (off2 (off2 (off2 (off2 (off2 hz)))))) | with_reducible exact off1 (off2 (off2 (off2 (off2 (off2 (off2 (off2 hz))))))) | with_reducible exact off1 (off2 (off2 (off2 (off2 (off2 (off2 (off2 (off2 hz)))))))) | with_reducible exact off1 (off2 (off2 (off2 (off2 (off2 (off2 (off2 (off2 (off2 hz))))))))))).trans ?_)) <;> exact rfl)) (by assumption) (by assumption) (by assumption) (by assumption) (fun p hp => hrs9 p (.tail _ hp)))
            · intro h15 tk15 me mt ev evs o15 X15 F15 N15 hX15 hbo15 hR15 hE15 hme
              clear F14 N14
              have hrm := hR15 _ (.tail _ (.head _))
              have hdm := hR15 _ (.tail _ (.tail _ (.head _)))
              have hIm := hR15 _ (.tail _ (.tail _ (.tail _ (.head _))))
              have hXm : ∀ p ∈ X, p ∈ X15 := fun p hp => hR15 _ (.tail _ (.tail _ (.tail _ (.tail _ hp))))
              have hset : SetAt X15 (some limit) sv := C.set.mono hXm
              have hlv := C.lv
              replace N15 := News.with1 (News.with1 N15 (.tail _ hdm)) (.tail _ (.tail _ hrm))
              cases hRR : run limit me evs S₀ with
              | great =>
                k_steps
                all_goals exact UnrEnd.intro (by assumption) (by assumption) ((b, o15) :: X) (by
                  intro p hp
                  rcases List.mem_cons.mp hp with rfl | hp
                  · repeat (first | exact hIm | apply List.mem_cons_of_mem)
                  · rcases List.mem_cons.mp hp with rfl | hp
                    · k_mem
                    · replace hp := hXm p hp
                      repeat (first | exact hp | apply List.mem_cons_of_mem)) (List.forall_mem_cons.mpr ⟨hIb.symm, hIX⟩) (num_mk o15 _ _ _ hbo15 (over_end2 _ (by repeat (first | exact agr_nil | refine agr_cons rfl ?_)) (fun z hz => by (repeat (first | with_reducible exact rfl | with_reducible exact over_nil | refine (if_neg (by first | with_reducible exact off1 hz | with_reducible exact off1 (off2 hz) | with_reducible exact off1 (off2 (off2 hz)) | with_reducible exact off1 (off2 (off2 (off2 hz))) | with_reducible exact off1 (off2 (off2 (off2 (off2 hz)))) | with_reducible exact off1 (off2 (off2 (off2 (off2 (off2 hz))))) | with_reducible exact off1 (off2 (off2 (off2 (off2 (off2 (off2 hz)))))) | with_reducible exact off1 (off2 (off2 (off2 (off2 (off2 (off2 (off2 hz))))))) | with_reducible exact off1 (off2 (off2 (off2 (off2 (off2 (off2 (off2 (off2 hz)))))))) | with_reducible exact off1 (off2 (off2 (off2 (off2 (off2 (off2 (off2 (off2 (off2 hz))))))))))).trans ?_)) <;> exact rfl)))
              | code c9 =>
                k_steps
                all_goals exact UnrEnd.intro (by assumption) (by assumption) ((b, o15) :: X) (by
                  intro p hp
                  rcases List.mem_cons.mp hp with rfl | hp
                  · repeat (first | exact hIm | apply List.mem_cons_of_mem)
                  · rcases List.mem_cons.mp hp with rfl | hp
                    · k_mem
                    · replace hp := hXm p hp
                      repeat (first | exact hp | apply List.mem_cons_of_mem)) (List.forall_mem_cons.mpr ⟨hIb.symm, hIX⟩) (num_mk o15 _ _ _ hbo15 (over_end2 _ (by repeat (first | exact agr_nil | refine agr_cons rfl ?_)) (fun z hz => by (repeat (first | with_reducible exact rfl | with_reducible exact over_nil | refine (if_neg (by first | with_reducible exact off1 hz | with_reducible exact off1 (off2 hz) | with_reducible exact off1 (off2 (off2 hz)) | with_reducible exact off1 (off2 (off2 (off2 hz))) | with_reducible exact off1 (off2 (off2 (off2 (off2 hz)))) | with_reducible exact off1 (off2 (off2 (off2 (off2 (off2 hz))))) | with_reducible exact off1 (off2 (off2 (off2 (off2 (off2 (off2 hz)))))) | with_reducible exact off1 (off2 (off2 (off2 (off2 (off2 (off2 (off2 hz))))))) | with_reducible exact off1 (off2 (off2 (off2 (off2 (off2 (off2 (off2 (off2 hz)))))))) | with_reducible exact off1 (off2 (off2 (off2 (off2 (off2 (off2 (off2 (off2 (off2 hz))))))))))).trans ?_)) <;> exact rfl)))
              | pair z9 y9 =>
                k_steps
                all_goals exact UnrEnd.intro (by assumption) (by assumption) ((b, o15) :: X) (by
                  intro p hp
                  rcases List.mem_cons.mp hp with rfl | hp
                  · repeat (first | exact hIm | apply List.mem_cons_of_mem)
                  · rcases List.mem_cons.mp hp with rfl | hp
                    · k_mem
                    · replace hp := hXm p hp
                      repeat (first | exact hp | apply List.mem_cons_of_mem)) (List.forall_mem_cons.mpr ⟨hIb.symm, hIX⟩) (num_mk o15 _ _ _ hbo15 (over_end2 _ (by repeat (first | exact agr_nil | refine agr_cons rfl ?_)) (fun z hz => by (repeat (first | with_reducible exact rfl | with_reducible exact over_nil | refine (if_neg (by first | with_reducible exact off1 hz | with_reducible exact off1 (off2 hz) | with_reducible exact off1 (off2 (off2 hz)) | with_reducible exact off1 (off2 (off2 (off2 hz))) | with_reducible exact off1 (off2 (off2 (off2 (off2 hz)))) | with_reducible exact off1 (off2 (off2 (off2 (off2 (off2 hz))))) | with_reducible exact off1 (off2 (off2 (off2 (off2 (off2 (off2 hz)))))) | with_reducible exact off1 (off2 (off2 (off2 (off2 (off2 (off2 (off2 hz))))))) | with_reducible exact off1 (off2 (off2 (off2 (off2 (off2 (off2 (off2 (off2 hz)))))))) | with_reducible exact off1 (off2 (off2 (off2 (off2 (off2 (off2 (off2 (off2 (off2 hz))))))))))).trans ?_)) <;> exact rfl)))
        case done =>
          intro h tk m n hI9 F N
          cases hI9 with | mk o5 v6 v7 v8 hbo5 =>
          k_steps

end Mine
set_option maxRecDepth 100000 in
set_option maxHeartbeats 8000000 in
theorem PySem.Challenge.cw_nz0351_01_holds : PySem.Challenge.rw_nz0351_01.Holds := by
  exact Mine.hd Mine.law_core

