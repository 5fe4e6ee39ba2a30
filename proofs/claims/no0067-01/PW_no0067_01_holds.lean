import PyProof.Rows.All
import Wide.All
import OpenK.AllK
import Wide.FinOn
import PySem.Challenge.RW_no0067_01
open PySem PySem.W PyProof.Rows PySem.Calls
set_option Elab.async false
set_option maxRecDepth 100000
set_option linter.unusedVariables false
namespace Mine
local macro_rules | `(tactic| walk_at $s:str) => `(tactic| k_extra $s)
local macro_rules | `(tactic| k_room) => `(tactic| k_extra "k_room")
local macro_rules | `(tactic| k_units) => `(tactic| k_extra "k_units")
local macro_rules | `(tactic| k_all) => `(tactic| k_extra "k_all")
local macro_rules | `(tactic| k_ne) => `(tactic| k_extra "k_ne")
local macro_rules | `(tactic| kst_facts) => `(tactic| k_extra "kst_facts")
local macro_rules | `(tactic| k_handed) => `(tactic| k_extra "k_handed")
section HD
noncomputable def hdAt (i : Nat) : Option Stmt := PySem.Challenge.pw_no0067_01.main.body[i]?
def hdFn : Option Stmt → Option (Arguments × List Stmt × Scope)
  | some (.FunctionDef _ a b _ _ _ s _ _ _) => some (a, b, s)
  | _ => none
def hdIn : Option Stmt → Nat → Option Stmt
  | some (.ClassDef _ _ _ b _ _ _ _ _ _ _), j => b[j]?
  | _, _ => none
noncomputable def hd.heap_39 : Params → Frag := by
  refine (?f : ∀ {a28 b28 s28 a50 b50 s50 a57 b57 s57 a64 b64 s64 a71 b71 s71 a78 b78 s78 a85 b85 s85 a99 b99 s99 a113 b113 s113 a120 b120 s120 a127 b127 s127 a134 b134 s134 a141 b141 s141 a155 b155 s155 a162 b162 s162 a169 b169 s169 a176 b176 s176 a183 b183 s183 a190 b190 s190 a197 b197 s197 a204 b204 s204}, hdFn (hdIn (hdAt 1) 0) = some (a28, b28, s28) → hdFn (hdIn (hdAt 9) 0) = some (a50, b50, s50) → hdFn (hdIn (hdAt 9) 1) = some (a57, b57, s57) → hdFn (hdIn (hdAt 9) 2) = some (a64, b64, s64) → hdFn (hdIn (hdAt 9) 3) = some (a71, b71, s71) → hdFn (hdIn (hdAt 9) 4) = some (a78, b78, s78) → hdFn (hdIn (hdAt 9) 5) = some (a85, b85, s85) → hdFn (hdAt 10) = some (a99, b99, s99) → hdFn (hdIn (hdAt 11) 0) = some (a113, b113, s113) → hdFn (hdIn (hdAt 11) 1) = some (a120, b120, s120) → hdFn (hdIn (hdAt 11) 2) = some (a127, b127, s127) → hdFn (hdIn (hdAt 11) 3) = some (a134, b134, s134) → hdFn (hdIn (hdAt 11) 4) = some (a141, b141, s141) → hdFn (hdAt 13) = some (a155, b155, s155) → hdFn (hdAt 14) = some (a162, b162, s162) → hdFn (hdAt 15) = some (a169, b169, s169) → hdFn (hdAt 16) = some (a176, b176, s176) → hdFn (hdAt 17) = some (a183, b183, s183) → hdFn (hdAt 18) = some (a190, b190, s190) → hdFn (hdAt 19) = some (a197, b197, s197) → hdFn (hdAt 20) = some (a204, b204, s204) → Params → Frag) rfl rfl rfl rfl rfl rfl rfl rfl rfl rfl rfl rfl rfl rfl rfl rfl rfl rfl rfl rfl rfl
  exact fun {a28 b28 s28 a50 b50 s50 a57 b57 s57 a64 b64 s64 a71 b71 s71 a78 b78 s78 a85 b85 s85 a99 b99 s99 a113 b113 s113 a120 b120 s120 a127 b127 s127 a134 b134 s134 a141 b141 s141 a155 b155 s155 a162 b162 s162 a169 b169 s169 a176 b176 s176 a183 b183 s183 a190 b190 s190 a197 b197 s197 a204 b204 s204} _ _ _ _ _ _ _ _ _ _ _ _ _ _ _ _ _ _ _ _ _ P =>
    @List.cons (Nat × Obj) (@Prod.mk Nat Obj (nat_lit 2) { cls := Value.none, dict := (none : Option Nat), data := Data.dict #[{ hash := PyData.keyHash P (Str.ofString "type.__subclasses__.Exception.0"), key := Value.str (Str.ofString "type.__subclasses__.Exception.0") (216 : Nat), val := Value.int 31 (0 : Nat) }, { hash := PyData.keyHash P (Str.ofString "type.__subclasses__.Exception.n"), key := Value.str (Str.ofString "type.__subclasses__.Exception.n") (217 : Nat), val := Value.int 1 (0 : Nat) }] 2 }) <|
    @List.cons (Nat × Obj) (@Prod.mk Nat Obj (nat_lit 3) { cls := Value.type "dict", dict := (none : Option Nat), data := Data.dict #[{ hash := PyData.keyHash P (Str.ofString "__name__"), key := Value.str (Str.ofString "__name__") (165 : Nat), val := Value.str (Str.ofString "law_no0067_01") (391 : Nat) }, { hash := PyData.keyHash P (Str.ofString "__doc__"), key := Value.str (Str.ofString "__doc__") (166 : Nat), val := Value.none }, { hash := PyData.keyHash P (Str.ofString "__package__"), key := Value.str (Str.ofString "__package__") (167 : Nat), val := Value.none }, { hash := PyData.keyHash P (Str.ofString "__loader__"), key := Value.str (Str.ofString "__loader__") (168 : Nat), val := Value.builtin "__main__.__loader__#opaque" }, { hash := PyData.keyHash P (Str.ofString "__spec__"), key := Value.str (Str.ofString "__spec__") (169 : Nat), val := Value.none }, { hash := PyData.keyHash P (Str.ofString "__annotations__"), key := Value.str (Str.ofString "__annotations__") (170 : Nat), val := Value.ref (6 : Nat) }, { hash := PyData.keyHash P (Str.ofString "__builtins__"), key := Value.str (Str.ofString "__builtins__") (171 : Nat), val := Value.ref (4 : Nat) }, { hash := PyData.keyHash P (Str.ofString "__file__"), key := Value.str (Str.ofString "__file__") (173 : Nat), val := Value.str (Str.ofString "/claim/cut.py") (172 : Nat) }, { hash := PyData.keyHash P (Str.ofString "__cached__"), key := Value.str (Str.ofString "__cached__") (174 : Nat), val := Value.none }, { hash := PyData.keyHash P (Str.ofString "H3Error"), key := Value.str (Str.ofString "H3Error") (219 : Nat), val := Value.ref (31 : Nat) }, { hash := PyData.keyHash P (Str.ofString "H3_FRAME_UNEXPECTED"), key := Value.str (Str.ofString "H3_FRAME_UNEXPECTED") (221 : Nat), val := Value.int 261 (220 : Nat) }, { hash := PyData.keyHash P (Str.ofString "H3_ID_ERROR"), key := Value.str (Str.ofString "H3_ID_ERROR") (223 : Nat), val := Value.int 264 (222 : Nat) }, { hash := PyData.keyHash P (Str.ofString "H3_MISSING_SETTINGS"), key := Value.str (Str.ofString "H3_MISSING_SETTINGS") (225 : Nat), val := Value.int 266 (224 : Nat) }, { hash := PyData.keyHash P (Str.ofString "H3_REQUEST_INCOMPLETE"), key := Value.str (Str.ofString "H3_REQUEST_INCOMPLETE") (227 : Nat), val := Value.int 269 (226 : Nat) }, { hash := PyData.keyHash P (Str.ofString "ON_CONTROL"), key := Value.str (Str.ofString "ON_CONTROL") (235 : Nat), val := Value.ref (35 : Nat) }, { hash := PyData.keyHash P (Str.ofString "ON_REQUEST"), key := Value.str (Str.ofString "ON_REQUEST") (240 : Nat), val := Value.ref (36 : Nat) }, { hash := PyData.keyHash P (Str.ofString "ControlRules"), key := Value.str (Str.ofString "ControlRules") (318 : Nat), val := Value.ref (88 : Nat) }, { hash := PyData.keyHash P (Str.ofString "check_push"), key := Value.str (Str.ofString "check_push") (326 : Nat), val := Value.ref (99 : Nat) }, { hash := PyData.keyHash P (Str.ofString "MessageRules"), key := Value.str (Str.ofString "MessageRules") (390 : Nat), val := Value.ref (144 : Nat) }, { hash := PyData.keyHash P (Str.ofString "_law_take"), key := Value.str (Str.ofString "_law_take") (401 : Nat), val := Value.ref (155 : Nat) }, { hash := PyData.keyHash P (Str.ofString "_law_code"), key := Value.str (Str.ofString "_law_code") (410 : Nat), val := Value.ref (162 : Nat) }, { hash := PyData.keyHash P (Str.ofString "_law_control_frame"), key := Value.str (Str.ofString "_law_control_frame") (419 : Nat), val := Value.ref (169 : Nat) }, { hash := PyData.keyHash P (Str.ofString "_law_control_due"), key := Value.str (Str.ofString "_law_control_due") (431 : Nat), val := Value.ref (176 : Nat) }, { hash := PyData.keyHash P (Str.ofString "_law_control_right"), key := Value.str (Str.ofString "_law_control_right") (447 : Nat), val := Value.ref (183 : Nat) }, { hash := PyData.keyHash P (Str.ofString "_law_message_due"), key := Value.str (Str.ofString "_law_message_due") (459 : Nat), val := Value.ref (190 : Nat) }, { hash := PyData.keyHash P (Str.ofString "_law_message_right"), key := Value.str (Str.ofString "_law_message_right") (476 : Nat), val := Value.ref (197 : Nat) }, { hash := PyData.keyHash P (Str.ofString "law"), key := Value.str (Str.ofString "law") (484 : Nat), val := Value.ref (204 : Nat) }] 27 }) <|
    @List.cons (Nat × Obj) (@Prod.mk Nat Obj (nat_lit 15) { cls := Value.type "tuple", dict := (none : Option Nat), data := Data.seq #[Value.type "Exception"] }) <|
    @List.cons (Nat × Obj) (@Prod.mk Nat Obj (nat_lit 22) { cls := Value.type "tuple", dict := (none : Option Nat), data := Data.seq #[] }) <|
    @List.cons (Nat × Obj) (@Prod.mk Nat Obj (nat_lit 24) { cls := Value.type "tuple", dict := (none : Option Nat), data := Data.seq #[Value.str (Str.ofString "self") (204 : Nat), Value.str (Str.ofString "code") (205 : Nat), Value.str (Str.ofString "text") (206 : Nat)] }) <|
    @List.cons (Nat × Obj) (@Prod.mk Nat Obj (nat_lit 25) { cls := Value.type "tuple", dict := (none : Option Nat), data := Data.seq #[] }) <|
    @List.cons (Nat × Obj) (@Prod.mk Nat Obj (nat_lit 27) { cls := Value.type "code", dict := (none : Option Nat), data := Data.fields #[Value.str (Str.ofString "__init__") (201 : Nat), Value.str (Str.ofString "H3Error.__init__") (202 : Nat), Value.str (Str.ofString "/claim/cut.py") (203 : Nat), Value.int 4 (0 : Nat), Value.int 3 (0 : Nat), Value.int 0 (0 : Nat), Value.int 0 (0 : Nat), Value.int 3 (0 : Nat), Value.ref (22 : Nat), Value.bool true, Value.int 181 (0 : Nat), Value.ref (23 : Nat), Value.none, Value.ref (24 : Nat), Value.ref (25 : Nat), Value.ref (26 : Nat), Value.int 207 (0 : Nat), Value.int 4 (0 : Nat), Value.str (Str.ofString "/claim/cut.py") (208 : Nat)] }) <|
    @List.cons (Nat × Obj) (@Prod.mk Nat Obj (nat_lit 28) { cls := Value.type "function", dict := (none : Option Nat), data := Data.func { name := Str.ofString "__init__", qualname := Str.ofString "H3Error.__init__", params := a28, body := FuncBody.stmts b28, scope := s28, globals := (3 : Nat), closure := ([] : List (Str × Nat)), defaults := Value.none, kwdefaults := Value.none, pyModule := Value.str (Str.ofString "quic.errors") (187 : Nat), annotations := (none : Option Nat), builtins := (0 : Nat), code := Value.ref (27 : Nat) } }) <|
    @List.cons (Nat × Obj) (@Prod.mk Nat Obj (nat_lit 29) { cls := Value.type "tuple", dict := (none : Option Nat), data := Data.seq #[Value.str (Str.ofString "code") (210 : Nat), Value.str (Str.ofString "text") (211 : Nat)] }) <|
    @List.cons (Nat × Obj) (@Prod.mk Nat Obj (nat_lit 30) { cls := Value.type "dict", dict := (none : Option Nat), data := Data.dict #[{ hash := PyData.keyHash P (Str.ofString "__module__"), key := Value.str (Str.ofString "__module__") (196 : Nat), val := Value.str (Str.ofString "quic.errors") (187 : Nat) }, { hash := PyData.keyHash P (Str.ofString "__firstlineno__"), key := Value.str (Str.ofString "__firstlineno__") (200 : Nat), val := Value.int 2 (199 : Nat) }, { hash := PyData.keyHash P (Str.ofString "__init__"), key := Value.str (Str.ofString "__init__") (209 : Nat), val := Value.ref (28 : Nat) }, { hash := PyData.keyHash P (Str.ofString "__static_attributes__"), key := Value.str (Str.ofString "__static_attributes__") (212 : Nat), val := Value.ref (29 : Nat) }, { hash := PyData.keyHash P (Str.ofString "__weakref__"), key := Value.str (Str.ofString "__weakref__") (214 : Nat), val := Value.ref (32 : Nat) }, { hash := PyData.keyHash P (Str.ofString "__doc__"), key := Value.str (Str.ofString "__doc__") (215 : Nat), val := Value.none }] 3 }) <|
    @List.cons (Nat × Obj) (@Prod.mk Nat Obj (nat_lit 31) { cls := Value.type "type", dict := (none : Option Nat), data := Data.cls { name := Str.ofString "H3Error", bases := [Value.type "Exception"], mro := [Value.ref (31 : Nat), Value.type "Exception", Value.type "BaseException", Value.type "object"], ns := (30 : Nat), qualname := Str.ofString "H3Error" }, slots := #[some (Value.ref (15 : Nat)), none, some (Value.str (Str.ofString "H3Error") (189 : Nat)), some (Value.str (Str.ofString "H3Error") (197 : Nat)), some (Value.builtin "Exception.__new__"), some (Value.bool true)] }) <|
    @List.cons (Nat × Obj) (@Prod.mk Nat Obj (nat_lit 32) { cls := Value.type "getset_descriptor", dict := (none : Option Nat), data := Data.fields #[Value.str (Str.ofString "__weakref__") (213 : Nat), Value.ref (31 : Nat), Value.builtin "ExceptionGroup.__weakref__", Value.none] }) <|
    @List.cons (Nat × Obj) (@Prod.mk Nat Obj (nat_lit 35) { cls := Value.type "tuple", dict := (none : Option Nat), data := Data.seq #[Value.str (Str.ofString "settings") (230 : Nat), Value.str (Str.ofString "cancel_push") (231 : Nat), Value.str (Str.ofString "goaway") (232 : Nat), Value.str (Str.ofString "max_push") (233 : Nat), Value.str (Str.ofString "unknown") (234 : Nat)] }) <|
    @List.cons (Nat × Obj) (@Prod.mk Nat Obj (nat_lit 36) { cls := Value.type "tuple", dict := (none : Option Nat), data := Data.seq #[Value.str (Str.ofString "headers") (236 : Nat), Value.str (Str.ofString "data") (237 : Nat), Value.str (Str.ofString "push_promise") (238 : Nat), Value.str (Str.ofString "unknown") (239 : Nat)] }) <|
    @List.cons (Nat × Obj) (@Prod.mk Nat Obj (nat_lit 44) { cls := Value.type "tuple", dict := (none : Option Nat), data := Data.seq #[] }) <|
    @List.cons (Nat × Obj) (@Prod.mk Nat Obj (nat_lit 46) { cls := Value.type "tuple", dict := (none : Option Nat), data := Data.seq #[Value.str (Str.ofString "self") (256 : Nat), Value.str (Str.ofString "peer") (257 : Nat), Value.str (Str.ofString "most_push") (258 : Nat)] }) <|
    @List.cons (Nat × Obj) (@Prod.mk Nat Obj (nat_lit 47) { cls := Value.type "tuple", dict := (none : Option Nat), data := Data.seq #[] }) <|
    @List.cons (Nat × Obj) (@Prod.mk Nat Obj (nat_lit 49) { cls := Value.type "code", dict := (none : Option Nat), data := Data.fields #[Value.str (Str.ofString "__init__") (253 : Nat), Value.str (Str.ofString "ControlRules.__init__") (254 : Nat), Value.str (Str.ofString "/claim/cut.py") (255 : Nat), Value.int 17 (0 : Nat), Value.int 3 (0 : Nat), Value.int 0 (0 : Nat), Value.int 0 (0 : Nat), Value.int 3 (0 : Nat), Value.ref (44 : Nat), Value.bool true, Value.int 181 (0 : Nat), Value.ref (45 : Nat), Value.none, Value.ref (46 : Nat), Value.ref (47 : Nat), Value.ref (48 : Nat), Value.int 259 (0 : Nat), Value.int 17 (0 : Nat), Value.str (Str.ofString "/claim/cut.py") (260 : Nat)] }) <|
    @List.cons (Nat × Obj) (@Prod.mk Nat Obj (nat_lit 50) { cls := Value.type "function", dict := (none : Option Nat), data := Data.func { name := Str.ofString "__init__", qualname := Str.ofString "ControlRules.__init__", params := a50, body := FuncBody.stmts b50, scope := s50, globals := (3 : Nat), closure := ([] : List (Str × Nat)), defaults := Value.none, kwdefaults := Value.none, pyModule := Value.str (Str.ofString "quic.h3rules") (228 : Nat), annotations := (none : Option Nat), builtins := (0 : Nat), code := Value.ref (49 : Nat) } }) <|
    @List.cons (Nat × Obj) (@Prod.mk Nat Obj (nat_lit 51) { cls := Value.type "tuple", dict := (none : Option Nat), data := Data.seq #[] }) <|
    @List.cons (Nat × Obj) (@Prod.mk Nat Obj (nat_lit 53) { cls := Value.type "tuple", dict := (none : Option Nat), data := Data.seq #[Value.str (Str.ofString "self") (265 : Nat), Value.str (Str.ofString "frame") (266 : Nat), Value.str (Str.ofString "kind") (267 : Nat)] }) <|
    @List.cons (Nat × Obj) (@Prod.mk Nat Obj (nat_lit 54) { cls := Value.type "tuple", dict := (none : Option Nat), data := Data.seq #[] }) <|
    @List.cons (Nat × Obj) (@Prod.mk Nat Obj (nat_lit 56) { cls := Value.type "code", dict := (none : Option Nat), data := Data.fields #[Value.str (Str.ofString "take") (262 : Nat), Value.str (Str.ofString "ControlRules.take") (263 : Nat), Value.str (Str.ofString "/claim/cut.py") (264 : Nat), Value.int 24 (0 : Nat), Value.int 2 (0 : Nat), Value.int 0 (0 : Nat), Value.int 0 (0 : Nat), Value.int 3 (0 : Nat), Value.ref (51 : Nat), Value.bool true, Value.int 181 (0 : Nat), Value.ref (52 : Nat), Value.none, Value.ref (53 : Nat), Value.ref (54 : Nat), Value.ref (55 : Nat), Value.int 268 (0 : Nat), Value.int 24 (0 : Nat), Value.str (Str.ofString "/claim/cut.py") (269 : Nat)] }) <|
    @List.cons (Nat × Obj) (@Prod.mk Nat Obj (nat_lit 57) { cls := Value.type "function", dict := (none : Option Nat), data := Data.func { name := Str.ofString "take", qualname := Str.ofString "ControlRules.take", params := a57, body := FuncBody.stmts b57, scope := s57, globals := (3 : Nat), closure := ([] : List (Str × Nat)), defaults := Value.none, kwdefaults := Value.none, pyModule := Value.str (Str.ofString "quic.h3rules") (228 : Nat), annotations := (none : Option Nat), builtins := (0 : Nat), code := Value.ref (56 : Nat) } }) <|
    @List.cons (Nat × Obj) (@Prod.mk Nat Obj (nat_lit 58) { cls := Value.type "tuple", dict := (none : Option Nat), data := Data.seq #[] }) <|
    @List.cons (Nat × Obj) (@Prod.mk Nat Obj (nat_lit 60) { cls := Value.type "tuple", dict := (none : Option Nat), data := Data.seq #[Value.str (Str.ofString "self") (274 : Nat), Value.str (Str.ofString "number") (275 : Nat)] }) <|
    @List.cons (Nat × Obj) (@Prod.mk Nat Obj (nat_lit 61) { cls := Value.type "tuple", dict := (none : Option Nat), data := Data.seq #[] }) <|
    @List.cons (Nat × Obj) (@Prod.mk Nat Obj (nat_lit 63) { cls := Value.type "code", dict := (none : Option Nat), data := Data.fields #[Value.str (Str.ofString "take_goaway") (271 : Nat), Value.str (Str.ofString "ControlRules.take_goaway") (272 : Nat), Value.str (Str.ofString "/claim/cut.py") (273 : Nat), Value.int 39 (0 : Nat), Value.int 2 (0 : Nat), Value.int 0 (0 : Nat), Value.int 0 (0 : Nat), Value.int 3 (0 : Nat), Value.ref (58 : Nat), Value.bool true, Value.int 181 (0 : Nat), Value.ref (59 : Nat), Value.none, Value.ref (60 : Nat), Value.ref (61 : Nat), Value.ref (62 : Nat), Value.int 276 (0 : Nat), Value.int 39 (0 : Nat), Value.str (Str.ofString "/claim/cut.py") (277 : Nat)] }) <|
    @List.cons (Nat × Obj) (@Prod.mk Nat Obj (nat_lit 64) { cls := Value.type "function", dict := (none : Option Nat), data := Data.func { name := Str.ofString "take_goaway", qualname := Str.ofString "ControlRules.take_goaway", params := a64, body := FuncBody.stmts b64, scope := s64, globals := (3 : Nat), closure := ([] : List (Str × Nat)), defaults := Value.none, kwdefaults := Value.none, pyModule := Value.str (Str.ofString "quic.h3rules") (228 : Nat), annotations := (none : Option Nat), builtins := (0 : Nat), code := Value.ref (63 : Nat) } }) <|
    @List.cons (Nat × Obj) (@Prod.mk Nat Obj (nat_lit 65) { cls := Value.type "tuple", dict := (none : Option Nat), data := Data.seq #[] }) <|
    @List.cons (Nat × Obj) (@Prod.mk Nat Obj (nat_lit 67) { cls := Value.type "tuple", dict := (none : Option Nat), data := Data.seq #[Value.str (Str.ofString "self") (282 : Nat), Value.str (Str.ofString "number") (283 : Nat)] }) <|
    @List.cons (Nat × Obj) (@Prod.mk Nat Obj (nat_lit 68) { cls := Value.type "tuple", dict := (none : Option Nat), data := Data.seq #[] }) <|
    @List.cons (Nat × Obj) (@Prod.mk Nat Obj (nat_lit 70) { cls := Value.type "code", dict := (none : Option Nat), data := Data.fields #[Value.str (Str.ofString "take_most") (279 : Nat), Value.str (Str.ofString "ControlRules.take_most") (280 : Nat), Value.str (Str.ofString "/claim/cut.py") (281 : Nat), Value.int 46 (0 : Nat), Value.int 2 (0 : Nat), Value.int 0 (0 : Nat), Value.int 0 (0 : Nat), Value.int 3 (0 : Nat), Value.ref (65 : Nat), Value.bool true, Value.int 181 (0 : Nat), Value.ref (66 : Nat), Value.none, Value.ref (67 : Nat), Value.ref (68 : Nat), Value.ref (69 : Nat), Value.int 284 (0 : Nat), Value.int 46 (0 : Nat), Value.str (Str.ofString "/claim/cut.py") (285 : Nat)] }) <|
    @List.cons (Nat × Obj) (@Prod.mk Nat Obj (nat_lit 71) { cls := Value.type "function", dict := (none : Option Nat), data := Data.func { name := Str.ofString "take_most", qualname := Str.ofString "ControlRules.take_most", params := a71, body := FuncBody.stmts b71, scope := s71, globals := (3 : Nat), closure := ([] : List (Str × Nat)), defaults := Value.none, kwdefaults := Value.none, pyModule := Value.str (Str.ofString "quic.h3rules") (228 : Nat), annotations := (none : Option Nat), builtins := (0 : Nat), code := Value.ref (70 : Nat) } }) <|
    @List.cons (Nat × Obj) (@Prod.mk Nat Obj (nat_lit 72) { cls := Value.type "tuple", dict := (none : Option Nat), data := Data.seq #[] }) <|
    @List.cons (Nat × Obj) (@Prod.mk Nat Obj (nat_lit 74) { cls := Value.type "tuple", dict := (none : Option Nat), data := Data.seq #[Value.str (Str.ofString "self") (290 : Nat), Value.str (Str.ofString "number") (291 : Nat), Value.str (Str.ofString "default") (292 : Nat), Value.str (Str.ofString "other") (293 : Nat), Value.str (Str.ofString "value") (294 : Nat)] }) <|
    @List.cons (Nat × Obj) (@Prod.mk Nat Obj (nat_lit 75) { cls := Value.type "tuple", dict := (none : Option Nat), data := Data.seq #[] }) <|
    @List.cons (Nat × Obj) (@Prod.mk Nat Obj (nat_lit 77) { cls := Value.type "code", dict := (none : Option Nat), data := Data.fields #[Value.str (Str.ofString "setting") (287 : Nat), Value.str (Str.ofString "ControlRules.setting") (288 : Nat), Value.str (Str.ofString "/claim/cut.py") (289 : Nat), Value.int 53 (0 : Nat), Value.int 3 (0 : Nat), Value.int 0 (0 : Nat), Value.int 0 (0 : Nat), Value.int 3 (0 : Nat), Value.ref (72 : Nat), Value.bool true, Value.int 181 (0 : Nat), Value.ref (73 : Nat), Value.none, Value.ref (74 : Nat), Value.ref (75 : Nat), Value.ref (76 : Nat), Value.int 295 (0 : Nat), Value.int 53 (0 : Nat), Value.str (Str.ofString "/claim/cut.py") (296 : Nat)] }) <|
    @List.cons (Nat × Obj) (@Prod.mk Nat Obj (nat_lit 78) { cls := Value.type "function", dict := (none : Option Nat), data := Data.func { name := Str.ofString "setting", qualname := Str.ofString "ControlRules.setting", params := a78, body := FuncBody.stmts b78, scope := s78, globals := (3 : Nat), closure := ([] : List (Str × Nat)), defaults := Value.none, kwdefaults := Value.none, pyModule := Value.str (Str.ofString "quic.h3rules") (228 : Nat), annotations := (none : Option Nat), builtins := (0 : Nat), code := Value.ref (77 : Nat) } }) <|
    @List.cons (Nat × Obj) (@Prod.mk Nat Obj (nat_lit 79) { cls := Value.type "tuple", dict := (none : Option Nat), data := Data.seq #[] }) <|
    @List.cons (Nat × Obj) (@Prod.mk Nat Obj (nat_lit 81) { cls := Value.type "tuple", dict := (none : Option Nat), data := Data.seq #[Value.str (Str.ofString "self") (301 : Nat), Value.str (Str.ofString "stream_id") (302 : Nat)] }) <|
    @List.cons (Nat × Obj) (@Prod.mk Nat Obj (nat_lit 82) { cls := Value.type "tuple", dict := (none : Option Nat), data := Data.seq #[] }) <|
    @List.cons (Nat × Obj) (@Prod.mk Nat Obj (nat_lit 84) { cls := Value.type "code", dict := (none : Option Nat), data := Data.fields #[Value.str (Str.ofString "is_let") (298 : Nat), Value.str (Str.ofString "ControlRules.is_let") (299 : Nat), Value.str (Str.ofString "/claim/cut.py") (300 : Nat), Value.int 59 (0 : Nat), Value.int 2 (0 : Nat), Value.int 0 (0 : Nat), Value.int 0 (0 : Nat), Value.int 3 (0 : Nat), Value.ref (79 : Nat), Value.bool true, Value.int 181 (0 : Nat), Value.ref (80 : Nat), Value.none, Value.ref (81 : Nat), Value.ref (82 : Nat), Value.ref (83 : Nat), Value.int 303 (0 : Nat), Value.int 59 (0 : Nat), Value.str (Str.ofString "/claim/cut.py") (304 : Nat)] }) <|
    @List.cons (Nat × Obj) (@Prod.mk Nat Obj (nat_lit 85) { cls := Value.type "function", dict := (none : Option Nat), data := Data.func { name := Str.ofString "is_let", qualname := Str.ofString "ControlRules.is_let", params := a85, body := FuncBody.stmts b85, scope := s85, globals := (3 : Nat), closure := ([] : List (Str × Nat)), defaults := Value.none, kwdefaults := Value.none, pyModule := Value.str (Str.ofString "quic.h3rules") (228 : Nat), annotations := (none : Option Nat), builtins := (0 : Nat), code := Value.ref (84 : Nat) } }) <|
    @List.cons (Nat × Obj) (@Prod.mk Nat Obj (nat_lit 86) { cls := Value.type "tuple", dict := (none : Option Nat), data := Data.seq #[Value.str (Str.ofString "goaway") (306 : Nat), Value.str (Str.ofString "most_push") (307 : Nat), Value.str (Str.ofString "peer") (308 : Nat), Value.str (Str.ofString "settings") (309 : Nat), Value.str (Str.ofString "told_most") (310 : Nat)] }) <|
    @List.cons (Nat × Obj) (@Prod.mk Nat Obj (nat_lit 87) { cls := Value.type "dict", dict := (none : Option Nat), data := Data.dict #[{ hash := PyData.keyHash P (Str.ofString "__module__"), key := Value.str (Str.ofString "__module__") (248 : Nat), val := Value.str (Str.ofString "quic.h3rules") (228 : Nat) }, { hash := PyData.keyHash P (Str.ofString "__firstlineno__"), key := Value.str (Str.ofString "__firstlineno__") (252 : Nat), val := Value.int 15 (251 : Nat) }, { hash := PyData.keyHash P (Str.ofString "__init__"), key := Value.str (Str.ofString "__init__") (261 : Nat), val := Value.ref (50 : Nat) }, { hash := PyData.keyHash P (Str.ofString "take"), key := Value.str (Str.ofString "take") (270 : Nat), val := Value.ref (57 : Nat) }, { hash := PyData.keyHash P (Str.ofString "take_goaway"), key := Value.str (Str.ofString "take_goaway") (278 : Nat), val := Value.ref (64 : Nat) }, { hash := PyData.keyHash P (Str.ofString "take_most"), key := Value.str (Str.ofString "take_most") (286 : Nat), val := Value.ref (71 : Nat) }, { hash := PyData.keyHash P (Str.ofString "setting"), key := Value.str (Str.ofString "setting") (297 : Nat), val := Value.ref (78 : Nat) }, { hash := PyData.keyHash P (Str.ofString "is_let"), key := Value.str (Str.ofString "is_let") (305 : Nat), val := Value.ref (85 : Nat) }, { hash := PyData.keyHash P (Str.ofString "__static_attributes__"), key := Value.str (Str.ofString "__static_attributes__") (311 : Nat), val := Value.ref (86 : Nat) }, { hash := PyData.keyHash P (Str.ofString "__dict__"), key := Value.str (Str.ofString "__dict__") (313 : Nat), val := Value.ref (89 : Nat) }, { hash := PyData.keyHash P (Str.ofString "__weakref__"), key := Value.str (Str.ofString "__weakref__") (315 : Nat), val := Value.ref (90 : Nat) }, { hash := PyData.keyHash P (Str.ofString "__doc__"), key := Value.str (Str.ofString "__doc__") (316 : Nat), val := Value.none }] 4 }) <|
    @List.cons (Nat × Obj) (@Prod.mk Nat Obj (nat_lit 88) { cls := Value.type "type", dict := (none : Option Nat), data := Data.cls { name := Str.ofString "ControlRules", bases := [Value.type "object"], mro := [Value.ref (88 : Nat), Value.type "object"], ns := (87 : Nat), qualname := Str.ofString "ControlRules" }, slots := #[none, none, some (Value.str (Str.ofString "ControlRules") (241 : Nat)), some (Value.str (Str.ofString "ControlRules") (249 : Nat)), some (Value.builtin "object.__new__"), some (Value.bool true)] }) <|
    @List.cons (Nat × Obj) (@Prod.mk Nat Obj (nat_lit 89) { cls := Value.type "getset_descriptor", dict := (none : Option Nat), data := Data.fields #[Value.str (Str.ofString "__dict__") (312 : Nat), Value.ref (88 : Nat), Value.builtin "function.__dict__", Value.builtin "function.__dict__#set"] }) <|
    @List.cons (Nat × Obj) (@Prod.mk Nat Obj (nat_lit 90) { cls := Value.type "getset_descriptor", dict := (none : Option Nat), data := Data.fields #[Value.str (Str.ofString "__weakref__") (314 : Nat), Value.ref (88 : Nat), Value.builtin "ExceptionGroup.__weakref__", Value.none] }) <|
    @List.cons (Nat × Obj) (@Prod.mk Nat Obj (nat_lit 93) { cls := Value.type "tuple", dict := (none : Option Nat), data := Data.seq #[] }) <|
    @List.cons (Nat × Obj) (@Prod.mk Nat Obj (nat_lit 95) { cls := Value.type "tuple", dict := (none : Option Nat), data := Data.seq #[Value.str (Str.ofString "number") (322 : Nat), Value.str (Str.ofString "most") (323 : Nat)] }) <|
    @List.cons (Nat × Obj) (@Prod.mk Nat Obj (nat_lit 96) { cls := Value.type "tuple", dict := (none : Option Nat), data := Data.seq #[] }) <|
    @List.cons (Nat × Obj) (@Prod.mk Nat Obj (nat_lit 98) { cls := Value.type "code", dict := (none : Option Nat), data := Data.fields #[Value.str (Str.ofString "check_push") (319 : Nat), Value.str (Str.ofString "check_push") (320 : Nat), Value.str (Str.ofString "/claim/cut.py") (321 : Nat), Value.int 61 (0 : Nat), Value.int 2 (0 : Nat), Value.int 0 (0 : Nat), Value.int 0 (0 : Nat), Value.int 3 (0 : Nat), Value.ref (93 : Nat), Value.bool true, Value.int 181 (0 : Nat), Value.ref (94 : Nat), Value.none, Value.ref (95 : Nat), Value.ref (96 : Nat), Value.ref (97 : Nat), Value.int 324 (0 : Nat), Value.int 61 (0 : Nat), Value.str (Str.ofString "/claim/cut.py") (325 : Nat)] }) <|
    @List.cons (Nat × Obj) (@Prod.mk Nat Obj (nat_lit 99) { cls := Value.type "function", dict := (none : Option Nat), data := Data.func { name := Str.ofString "check_push", qualname := Str.ofString "check_push", params := a99, body := FuncBody.stmts b99, scope := s99, globals := (3 : Nat), closure := ([] : List (Str × Nat)), defaults := Value.none, kwdefaults := Value.none, pyModule := Value.str (Str.ofString "quic.h3rules") (228 : Nat), annotations := (none : Option Nat), builtins := (0 : Nat), code := Value.ref (98 : Nat) } }) <|
    @List.cons (Nat × Obj) (@Prod.mk Nat Obj (nat_lit 107) { cls := Value.type "tuple", dict := (none : Option Nat), data := Data.seq #[] }) <|
    @List.cons (Nat × Obj) (@Prod.mk Nat Obj (nat_lit 109) { cls := Value.type "tuple", dict := (none : Option Nat), data := Data.seq #[Value.str (Str.ofString "self") (342 : Nat), Value.str (Str.ofString "is_answer") (343 : Nat), Value.str (Str.ofString "most_push") (344 : Nat)] }) <|
    @List.cons (Nat × Obj) (@Prod.mk Nat Obj (nat_lit 110) { cls := Value.type "tuple", dict := (none : Option Nat), data := Data.seq #[] }) <|
    @List.cons (Nat × Obj) (@Prod.mk Nat Obj (nat_lit 112) { cls := Value.type "code", dict := (none : Option Nat), data := Data.fields #[Value.str (Str.ofString "__init__") (339 : Nat), Value.str (Str.ofString "MessageRules.__init__") (340 : Nat), Value.str (Str.ofString "/claim/cut.py") (341 : Nat), Value.int 66 (0 : Nat), Value.int 3 (0 : Nat), Value.int 0 (0 : Nat), Value.int 0 (0 : Nat), Value.int 3 (0 : Nat), Value.ref (107 : Nat), Value.bool true, Value.int 181 (0 : Nat), Value.ref (108 : Nat), Value.none, Value.ref (109 : Nat), Value.ref (110 : Nat), Value.ref (111 : Nat), Value.int 345 (0 : Nat), Value.int 66 (0 : Nat), Value.str (Str.ofString "/claim/cut.py") (346 : Nat)] }) <|
    @List.cons (Nat × Obj) (@Prod.mk Nat Obj (nat_lit 113) { cls := Value.type "function", dict := (none : Option Nat), data := Data.func { name := Str.ofString "__init__", qualname := Str.ofString "MessageRules.__init__", params := a113, body := FuncBody.stmts b113, scope := s113, globals := (3 : Nat), closure := ([] : List (Str × Nat)), defaults := Value.none, kwdefaults := Value.none, pyModule := Value.str (Str.ofString "quic.h3rules") (228 : Nat), annotations := (none : Option Nat), builtins := (0 : Nat), code := Value.ref (112 : Nat) } }) <|
    @List.cons (Nat × Obj) (@Prod.mk Nat Obj (nat_lit 114) { cls := Value.type "tuple", dict := (none : Option Nat), data := Data.seq #[] }) <|
    @List.cons (Nat × Obj) (@Prod.mk Nat Obj (nat_lit 116) { cls := Value.type "tuple", dict := (none : Option Nat), data := Data.seq #[Value.str (Str.ofString "self") (351 : Nat), Value.str (Str.ofString "frame") (352 : Nat), Value.str (Str.ofString "is_interim") (353 : Nat), Value.str (Str.ofString "kind") (354 : Nat)] }) <|
    @List.cons (Nat × Obj) (@Prod.mk Nat Obj (nat_lit 117) { cls := Value.type "tuple", dict := (none : Option Nat), data := Data.seq #[] }) <|
    @List.cons (Nat × Obj) (@Prod.mk Nat Obj (nat_lit 119) { cls := Value.type "code", dict := (none : Option Nat), data := Data.fields #[Value.str (Str.ofString "take") (348 : Nat), Value.str (Str.ofString "MessageRules.take") (349 : Nat), Value.str (Str.ofString "/claim/cut.py") (350 : Nat), Value.int 71 (0 : Nat), Value.int 3 (0 : Nat), Value.int 0 (0 : Nat), Value.int 0 (0 : Nat), Value.int 3 (0 : Nat), Value.ref (114 : Nat), Value.bool true, Value.int 181 (0 : Nat), Value.ref (115 : Nat), Value.none, Value.ref (116 : Nat), Value.ref (117 : Nat), Value.ref (118 : Nat), Value.int 355 (0 : Nat), Value.int 71 (0 : Nat), Value.str (Str.ofString "/claim/cut.py") (356 : Nat)] }) <|
    @List.cons (Nat × Obj) (@Prod.mk Nat Obj (nat_lit 120) { cls := Value.type "function", dict := (none : Option Nat), data := Data.func { name := Str.ofString "take", qualname := Str.ofString "MessageRules.take", params := a120, body := FuncBody.stmts b120, scope := s120, globals := (3 : Nat), closure := ([] : List (Str × Nat)), defaults := Value.none, kwdefaults := Value.none, pyModule := Value.str (Str.ofString "quic.h3rules") (228 : Nat), annotations := (none : Option Nat), builtins := (0 : Nat), code := Value.ref (119 : Nat) } }) <|
    @List.cons (Nat × Obj) (@Prod.mk Nat Obj (nat_lit 121) { cls := Value.type "tuple", dict := (none : Option Nat), data := Data.seq #[] }) <|
    @List.cons (Nat × Obj) (@Prod.mk Nat Obj (nat_lit 123) { cls := Value.type "tuple", dict := (none : Option Nat), data := Data.seq #[Value.str (Str.ofString "self") (361 : Nat)] }) <|
    @List.cons (Nat × Obj) (@Prod.mk Nat Obj (nat_lit 124) { cls := Value.type "tuple", dict := (none : Option Nat), data := Data.seq #[] }) <|
    @List.cons (Nat × Obj) (@Prod.mk Nat Obj (nat_lit 126) { cls := Value.type "code", dict := (none : Option Nat), data := Data.fields #[Value.str (Str.ofString "take_data") (358 : Nat), Value.str (Str.ofString "MessageRules.take_data") (359 : Nat), Value.str (Str.ofString "/claim/cut.py") (360 : Nat), Value.int 86 (0 : Nat), Value.int 1 (0 : Nat), Value.int 0 (0 : Nat), Value.int 0 (0 : Nat), Value.int 3 (0 : Nat), Value.ref (121 : Nat), Value.bool true, Value.int 181 (0 : Nat), Value.ref (122 : Nat), Value.none, Value.ref (123 : Nat), Value.ref (124 : Nat), Value.ref (125 : Nat), Value.int 362 (0 : Nat), Value.int 86 (0 : Nat), Value.str (Str.ofString "/claim/cut.py") (363 : Nat)] }) <|
    @List.cons (Nat × Obj) (@Prod.mk Nat Obj (nat_lit 127) { cls := Value.type "function", dict := (none : Option Nat), data := Data.func { name := Str.ofString "take_data", qualname := Str.ofString "MessageRules.take_data", params := a127, body := FuncBody.stmts b127, scope := s127, globals := (3 : Nat), closure := ([] : List (Str × Nat)), defaults := Value.none, kwdefaults := Value.none, pyModule := Value.str (Str.ofString "quic.h3rules") (228 : Nat), annotations := (none : Option Nat), builtins := (0 : Nat), code := Value.ref (126 : Nat) } }) <|
    @List.cons (Nat × Obj) (@Prod.mk Nat Obj (nat_lit 128) { cls := Value.type "tuple", dict := (none : Option Nat), data := Data.seq #[] }) <|
    @List.cons (Nat × Obj) (@Prod.mk Nat Obj (nat_lit 130) { cls := Value.type "tuple", dict := (none : Option Nat), data := Data.seq #[Value.str (Str.ofString "self") (368 : Nat), Value.str (Str.ofString "is_interim") (369 : Nat)] }) <|
    @List.cons (Nat × Obj) (@Prod.mk Nat Obj (nat_lit 131) { cls := Value.type "tuple", dict := (none : Option Nat), data := Data.seq #[] }) <|
    @List.cons (Nat × Obj) (@Prod.mk Nat Obj (nat_lit 133) { cls := Value.type "code", dict := (none : Option Nat), data := Data.fields #[Value.str (Str.ofString "take_heads") (365 : Nat), Value.str (Str.ofString "MessageRules.take_heads") (366 : Nat), Value.str (Str.ofString "/claim/cut.py") (367 : Nat), Value.int 91 (0 : Nat), Value.int 2 (0 : Nat), Value.int 0 (0 : Nat), Value.int 0 (0 : Nat), Value.int 3 (0 : Nat), Value.ref (128 : Nat), Value.bool true, Value.int 181 (0 : Nat), Value.ref (129 : Nat), Value.none, Value.ref (130 : Nat), Value.ref (131 : Nat), Value.ref (132 : Nat), Value.int 370 (0 : Nat), Value.int 91 (0 : Nat), Value.str (Str.ofString "/claim/cut.py") (371 : Nat)] }) <|
    @List.cons (Nat × Obj) (@Prod.mk Nat Obj (nat_lit 134) { cls := Value.type "function", dict := (none : Option Nat), data := Data.func { name := Str.ofString "take_heads", qualname := Str.ofString "MessageRules.take_heads", params := a134, body := FuncBody.stmts b134, scope := s134, globals := (3 : Nat), closure := ([] : List (Str × Nat)), defaults := Value.none, kwdefaults := Value.none, pyModule := Value.str (Str.ofString "quic.h3rules") (228 : Nat), annotations := (none : Option Nat), builtins := (0 : Nat), code := Value.ref (133 : Nat) } }) <|
    @List.cons (Nat × Obj) (@Prod.mk Nat Obj (nat_lit 135) { cls := Value.type "tuple", dict := (none : Option Nat), data := Data.seq #[] }) <|
    @List.cons (Nat × Obj) (@Prod.mk Nat Obj (nat_lit 137) { cls := Value.type "tuple", dict := (none : Option Nat), data := Data.seq #[Value.str (Str.ofString "self") (376 : Nat)] }) <|
    @List.cons (Nat × Obj) (@Prod.mk Nat Obj (nat_lit 138) { cls := Value.type "tuple", dict := (none : Option Nat), data := Data.seq #[] }) <|
    @List.cons (Nat × Obj) (@Prod.mk Nat Obj (nat_lit 140) { cls := Value.type "code", dict := (none : Option Nat), data := Data.fields #[Value.str (Str.ofString "end") (373 : Nat), Value.str (Str.ofString "MessageRules.end") (374 : Nat), Value.str (Str.ofString "/claim/cut.py") (375 : Nat), Value.int 102 (0 : Nat), Value.int 1 (0 : Nat), Value.int 0 (0 : Nat), Value.int 0 (0 : Nat), Value.int 3 (0 : Nat), Value.ref (135 : Nat), Value.bool true, Value.int 181 (0 : Nat), Value.ref (136 : Nat), Value.none, Value.ref (137 : Nat), Value.ref (138 : Nat), Value.ref (139 : Nat), Value.int 377 (0 : Nat), Value.int 102 (0 : Nat), Value.str (Str.ofString "/claim/cut.py") (378 : Nat)] }) <|
    @List.cons (Nat × Obj) (@Prod.mk Nat Obj (nat_lit 141) { cls := Value.type "function", dict := (none : Option Nat), data := Data.func { name := Str.ofString "end", qualname := Str.ofString "MessageRules.end", params := a141, body := FuncBody.stmts b141, scope := s141, globals := (3 : Nat), closure := ([] : List (Str × Nat)), defaults := Value.none, kwdefaults := Value.none, pyModule := Value.str (Str.ofString "quic.h3rules") (228 : Nat), annotations := (none : Option Nat), builtins := (0 : Nat), code := Value.ref (140 : Nat) } }) <|
    @List.cons (Nat × Obj) (@Prod.mk Nat Obj (nat_lit 142) { cls := Value.type "tuple", dict := (none : Option Nat), data := Data.seq #[Value.str (Str.ofString "is_answer") (380 : Nat), Value.str (Str.ofString "most_push") (381 : Nat), Value.str (Str.ofString "stage") (382 : Nat)] }) <|
    @List.cons (Nat × Obj) (@Prod.mk Nat Obj (nat_lit 143) { cls := Value.type "dict", dict := (none : Option Nat), data := Data.dict #[{ hash := PyData.keyHash P (Str.ofString "__module__"), key := Value.str (Str.ofString "__module__") (334 : Nat), val := Value.str (Str.ofString "quic.h3rules") (228 : Nat) }, { hash := PyData.keyHash P (Str.ofString "__firstlineno__"), key := Value.str (Str.ofString "__firstlineno__") (338 : Nat), val := Value.int 64 (337 : Nat) }, { hash := PyData.keyHash P (Str.ofString "__init__"), key := Value.str (Str.ofString "__init__") (347 : Nat), val := Value.ref (113 : Nat) }, { hash := PyData.keyHash P (Str.ofString "take"), key := Value.str (Str.ofString "take") (357 : Nat), val := Value.ref (120 : Nat) }, { hash := PyData.keyHash P (Str.ofString "take_data"), key := Value.str (Str.ofString "take_data") (364 : Nat), val := Value.ref (127 : Nat) }, { hash := PyData.keyHash P (Str.ofString "take_heads"), key := Value.str (Str.ofString "take_heads") (372 : Nat), val := Value.ref (134 : Nat) }, { hash := PyData.keyHash P (Str.ofString "end"), key := Value.str (Str.ofString "end") (379 : Nat), val := Value.ref (141 : Nat) }, { hash := PyData.keyHash P (Str.ofString "__static_attributes__"), key := Value.str (Str.ofString "__static_attributes__") (383 : Nat), val := Value.ref (142 : Nat) }, { hash := PyData.keyHash P (Str.ofString "__dict__"), key := Value.str (Str.ofString "__dict__") (385 : Nat), val := Value.ref (145 : Nat) }, { hash := PyData.keyHash P (Str.ofString "__weakref__"), key := Value.str (Str.ofString "__weakref__") (387 : Nat), val := Value.ref (146 : Nat) }, { hash := PyData.keyHash P (Str.ofString "__doc__"), key := Value.str (Str.ofString "__doc__") (388 : Nat), val := Value.none }] 4 }) <|
    @List.cons (Nat × Obj) (@Prod.mk Nat Obj (nat_lit 144) { cls := Value.type "type", dict := (none : Option Nat), data := Data.cls { name := Str.ofString "MessageRules", bases := [Value.type "object"], mro := [Value.ref (144 : Nat), Value.type "object"], ns := (143 : Nat), qualname := Str.ofString "MessageRules" }, slots := #[none, none, some (Value.str (Str.ofString "MessageRules") (327 : Nat)), some (Value.str (Str.ofString "MessageRules") (335 : Nat)), some (Value.builtin "object.__new__"), some (Value.bool true)] }) <|
    @List.cons (Nat × Obj) (@Prod.mk Nat Obj (nat_lit 145) { cls := Value.type "getset_descriptor", dict := (none : Option Nat), data := Data.fields #[Value.str (Str.ofString "__dict__") (384 : Nat), Value.ref (144 : Nat), Value.builtin "function.__dict__", Value.builtin "function.__dict__#set"] }) <|
    @List.cons (Nat × Obj) (@Prod.mk Nat Obj (nat_lit 146) { cls := Value.type "getset_descriptor", dict := (none : Option Nat), data := Data.fields #[Value.str (Str.ofString "__weakref__") (386 : Nat), Value.ref (144 : Nat), Value.builtin "ExceptionGroup.__weakref__", Value.none] }) <|
    @List.cons (Nat × Obj) (@Prod.mk Nat Obj (nat_lit 149) { cls := Value.type "tuple", dict := (none : Option Nat), data := Data.seq #[] }) <|
    @List.cons (Nat × Obj) (@Prod.mk Nat Obj (nat_lit 151) { cls := Value.type "tuple", dict := (none : Option Nat), data := Data.seq #[Value.str (Str.ofString "box") (396 : Nat), Value.str (Str.ofString "many") (397 : Nat), Value.str (Str.ofString "drawn") (398 : Nat)] }) <|
    @List.cons (Nat × Obj) (@Prod.mk Nat Obj (nat_lit 152) { cls := Value.type "tuple", dict := (none : Option Nat), data := Data.seq #[] }) <|
    @List.cons (Nat × Obj) (@Prod.mk Nat Obj (nat_lit 154) { cls := Value.type "code", dict := (none : Option Nat), data := Data.fields #[Value.str (Str.ofString "_law_take") (393 : Nat), Value.str (Str.ofString "_law_take") (394 : Nat), Value.str (Str.ofString "/claim/cut.py") (395 : Nat), Value.int 106 (0 : Nat), Value.int 2 (0 : Nat), Value.int 0 (0 : Nat), Value.int 0 (0 : Nat), Value.int 3 (0 : Nat), Value.ref (149 : Nat), Value.bool true, Value.int 181 (0 : Nat), Value.ref (150 : Nat), Value.none, Value.ref (151 : Nat), Value.ref (152 : Nat), Value.ref (153 : Nat), Value.int 399 (0 : Nat), Value.int 106 (0 : Nat), Value.str (Str.ofString "/claim/cut.py") (400 : Nat)] }) <|
    @List.cons (Nat × Obj) (@Prod.mk Nat Obj (nat_lit 155) { cls := Value.type "function", dict := (none : Option Nat), data := Data.func { name := Str.ofString "_law_take", qualname := Str.ofString "_law_take", params := a155, body := FuncBody.stmts b155, scope := s155, globals := (3 : Nat), closure := ([] : List (Str × Nat)), defaults := Value.none, kwdefaults := Value.none, pyModule := Value.str (Str.ofString "law_no0067_01") (391 : Nat), annotations := (none : Option Nat), builtins := (0 : Nat), code := Value.ref (154 : Nat) } }) <|
    @List.cons (Nat × Obj) (@Prod.mk Nat Obj (nat_lit 156) { cls := Value.type "tuple", dict := (none : Option Nat), data := Data.seq #[] }) <|
    @List.cons (Nat × Obj) (@Prod.mk Nat Obj (nat_lit 158) { cls := Value.type "tuple", dict := (none : Option Nat), data := Data.seq #[Value.str (Str.ofString "act") (405 : Nat), Value.str (Str.ofString "args") (406 : Nat), Value.str (Str.ofString "e") (407 : Nat)] }) <|
    @List.cons (Nat × Obj) (@Prod.mk Nat Obj (nat_lit 159) { cls := Value.type "tuple", dict := (none : Option Nat), data := Data.seq #[] }) <|
    @List.cons (Nat × Obj) (@Prod.mk Nat Obj (nat_lit 161) { cls := Value.type "code", dict := (none : Option Nat), data := Data.fields #[Value.str (Str.ofString "_law_code") (402 : Nat), Value.str (Str.ofString "_law_code") (403 : Nat), Value.str (Str.ofString "/claim/cut.py") (404 : Nat), Value.int 114 (0 : Nat), Value.int 2 (0 : Nat), Value.int 0 (0 : Nat), Value.int 0 (0 : Nat), Value.int 3 (0 : Nat), Value.ref (156 : Nat), Value.bool true, Value.int 181 (0 : Nat), Value.ref (157 : Nat), Value.none, Value.ref (158 : Nat), Value.ref (159 : Nat), Value.ref (160 : Nat), Value.int 408 (0 : Nat), Value.int 114 (0 : Nat), Value.str (Str.ofString "/claim/cut.py") (409 : Nat)] }) <|
    @List.cons (Nat × Obj) (@Prod.mk Nat Obj (nat_lit 162) { cls := Value.type "function", dict := (none : Option Nat), data := Data.func { name := Str.ofString "_law_code", qualname := Str.ofString "_law_code", params := a162, body := FuncBody.stmts b162, scope := s162, globals := (3 : Nat), closure := ([] : List (Str × Nat)), defaults := Value.none, kwdefaults := Value.none, pyModule := Value.str (Str.ofString "law_no0067_01") (391 : Nat), annotations := (none : Option Nat), builtins := (0 : Nat), code := Value.ref (161 : Nat) } }) <|
    @List.cons (Nat × Obj) (@Prod.mk Nat Obj (nat_lit 163) { cls := Value.type "tuple", dict := (none : Option Nat), data := Data.seq #[] }) <|
    @List.cons (Nat × Obj) (@Prod.mk Nat Obj (nat_lit 165) { cls := Value.type "tuple", dict := (none : Option Nat), data := Data.seq #[Value.str (Str.ofString "box") (414 : Nat), Value.str (Str.ofString "at") (415 : Nat), Value.str (Str.ofString "form") (416 : Nat)] }) <|
    @List.cons (Nat × Obj) (@Prod.mk Nat Obj (nat_lit 166) { cls := Value.type "tuple", dict := (none : Option Nat), data := Data.seq #[] }) <|
    @List.cons (Nat × Obj) (@Prod.mk Nat Obj (nat_lit 168) { cls := Value.type "code", dict := (none : Option Nat), data := Data.fields #[Value.str (Str.ofString "_law_control_frame") (411 : Nat), Value.str (Str.ofString "_law_control_frame") (412 : Nat), Value.str (Str.ofString "/claim/cut.py") (413 : Nat), Value.int 119 (0 : Nat), Value.int 2 (0 : Nat), Value.int 0 (0 : Nat), Value.int 0 (0 : Nat), Value.int 3 (0 : Nat), Value.ref (163 : Nat), Value.bool true, Value.int 181 (0 : Nat), Value.ref (164 : Nat), Value.none, Value.ref (165 : Nat), Value.ref (166 : Nat), Value.ref (167 : Nat), Value.int 417 (0 : Nat), Value.int 119 (0 : Nat), Value.str (Str.ofString "/claim/cut.py") (418 : Nat)] }) <|
    @List.cons (Nat × Obj) (@Prod.mk Nat Obj (nat_lit 169) { cls := Value.type "function", dict := (none : Option Nat), data := Data.func { name := Str.ofString "_law_control_frame", qualname := Str.ofString "_law_control_frame", params := a169, body := FuncBody.stmts b169, scope := s169, globals := (3 : Nat), closure := ([] : List (Str × Nat)), defaults := Value.none, kwdefaults := Value.none, pyModule := Value.str (Str.ofString "law_no0067_01") (391 : Nat), annotations := (none : Option Nat), builtins := (0 : Nat), code := Value.ref (168 : Nat) } }) <|
    @List.cons (Nat × Obj) (@Prod.mk Nat Obj (nat_lit 170) { cls := Value.type "tuple", dict := (none : Option Nat), data := Data.seq #[] }) <|
    @List.cons (Nat × Obj) (@Prod.mk Nat Obj (nat_lit 172) { cls := Value.type "tuple", dict := (none : Option Nat), data := Data.seq #[Value.str (Str.ofString "known") (423 : Nat), Value.str (Str.ofString "frame") (424 : Nat), Value.str (Str.ofString "peer") (425 : Nat), Value.str (Str.ofString "most") (426 : Nat), Value.str (Str.ofString "kind") (427 : Nat), Value.str (Str.ofString "limit") (428 : Nat)] }) <|
    @List.cons (Nat × Obj) (@Prod.mk Nat Obj (nat_lit 173) { cls := Value.type "tuple", dict := (none : Option Nat), data := Data.seq #[] }) <|
    @List.cons (Nat × Obj) (@Prod.mk Nat Obj (nat_lit 175) { cls := Value.type "code", dict := (none : Option Nat), data := Data.fields #[Value.str (Str.ofString "_law_control_due") (420 : Nat), Value.str (Str.ofString "_law_control_due") (421 : Nat), Value.str (Str.ofString "/claim/cut.py") (422 : Nat), Value.int 130 (0 : Nat), Value.int 4 (0 : Nat), Value.int 0 (0 : Nat), Value.int 0 (0 : Nat), Value.int 3 (0 : Nat), Value.ref (170 : Nat), Value.bool true, Value.int 181 (0 : Nat), Value.ref (171 : Nat), Value.none, Value.ref (172 : Nat), Value.ref (173 : Nat), Value.ref (174 : Nat), Value.int 429 (0 : Nat), Value.int 130 (0 : Nat), Value.str (Str.ofString "/claim/cut.py") (430 : Nat)] }) <|
    @List.cons (Nat × Obj) (@Prod.mk Nat Obj (nat_lit 176) { cls := Value.type "function", dict := (none : Option Nat), data := Data.func { name := Str.ofString "_law_control_due", qualname := Str.ofString "_law_control_due", params := a176, body := FuncBody.stmts b176, scope := s176, globals := (3 : Nat), closure := ([] : List (Str × Nat)), defaults := Value.none, kwdefaults := Value.none, pyModule := Value.str (Str.ofString "law_no0067_01") (391 : Nat), annotations := (none : Option Nat), builtins := (0 : Nat), code := Value.ref (175 : Nat) } }) <|
    @List.cons (Nat × Obj) (@Prod.mk Nat Obj (nat_lit 177) { cls := Value.type "tuple", dict := (none : Option Nat), data := Data.seq #[] }) <|
    @List.cons (Nat × Obj) (@Prod.mk Nat Obj (nat_lit 179) { cls := Value.type "tuple", dict := (none : Option Nat), data := Data.seq #[Value.str (Str.ofString "box") (435 : Nat), Value.str (Str.ofString "peer") (436 : Nat), Value.str (Str.ofString "most") (437 : Nat), Value.str (Str.ofString "rules") (438 : Nat), Value.str (Str.ofString "known") (439 : Nat), Value.str (Str.ofString "first") (440 : Nat), Value.str (Str.ofString "at") (441 : Nat), Value.str (Str.ofString "frame") (442 : Nat), Value.str (Str.ofString "due") (443 : Nat), Value.str (Str.ofString "number") (444 : Nat)] }) <|
    @List.cons (Nat × Obj) (@Prod.mk Nat Obj (nat_lit 180) { cls := Value.type "tuple", dict := (none : Option Nat), data := Data.seq #[] }) <|
    @List.cons (Nat × Obj) (@Prod.mk Nat Obj (nat_lit 182) { cls := Value.type "code", dict := (none : Option Nat), data := Data.fields #[Value.str (Str.ofString "_law_control_right") (432 : Nat), Value.str (Str.ofString "_law_control_right") (433 : Nat), Value.str (Str.ofString "/claim/cut.py") (434 : Nat), Value.int 153 (0 : Nat), Value.int 1 (0 : Nat), Value.int 0 (0 : Nat), Value.int 0 (0 : Nat), Value.int 3 (0 : Nat), Value.ref (177 : Nat), Value.bool true, Value.int 181 (0 : Nat), Value.ref (178 : Nat), Value.none, Value.ref (179 : Nat), Value.ref (180 : Nat), Value.ref (181 : Nat), Value.int 445 (0 : Nat), Value.int 153 (0 : Nat), Value.str (Str.ofString "/claim/cut.py") (446 : Nat)] }) <|
    @List.cons (Nat × Obj) (@Prod.mk Nat Obj (nat_lit 183) { cls := Value.type "function", dict := (none : Option Nat), data := Data.func { name := Str.ofString "_law_control_right", qualname := Str.ofString "_law_control_right", params := a183, body := FuncBody.stmts b183, scope := s183, globals := (3 : Nat), closure := ([] : List (Str × Nat)), defaults := Value.none, kwdefaults := Value.none, pyModule := Value.str (Str.ofString "law_no0067_01") (391 : Nat), annotations := (none : Option Nat), builtins := (0 : Nat), code := Value.ref (182 : Nat) } }) <|
    @List.cons (Nat × Obj) (@Prod.mk Nat Obj (nat_lit 184) { cls := Value.type "tuple", dict := (none : Option Nat), data := Data.seq #[] }) <|
    @List.cons (Nat × Obj) (@Prod.mk Nat Obj (nat_lit 186) { cls := Value.type "tuple", dict := (none : Option Nat), data := Data.seq #[Value.str (Str.ofString "stage") (451 : Nat), Value.str (Str.ofString "frame") (452 : Nat), Value.str (Str.ofString "is_answer") (453 : Nat), Value.str (Str.ofString "is_early") (454 : Nat), Value.str (Str.ofString "most") (455 : Nat), Value.str (Str.ofString "kind") (456 : Nat)] }) <|
    @List.cons (Nat × Obj) (@Prod.mk Nat Obj (nat_lit 187) { cls := Value.type "tuple", dict := (none : Option Nat), data := Data.seq #[] }) <|
    @List.cons (Nat × Obj) (@Prod.mk Nat Obj (nat_lit 189) { cls := Value.type "code", dict := (none : Option Nat), data := Data.fields #[Value.str (Str.ofString "_law_message_due") (448 : Nat), Value.str (Str.ofString "_law_message_due") (449 : Nat), Value.str (Str.ofString "/claim/cut.py") (450 : Nat), Value.int 171 (0 : Nat), Value.int 5 (0 : Nat), Value.int 0 (0 : Nat), Value.int 0 (0 : Nat), Value.int 3 (0 : Nat), Value.ref (184 : Nat), Value.bool true, Value.int 181 (0 : Nat), Value.ref (185 : Nat), Value.none, Value.ref (186 : Nat), Value.ref (187 : Nat), Value.ref (188 : Nat), Value.int 457 (0 : Nat), Value.int 171 (0 : Nat), Value.str (Str.ofString "/claim/cut.py") (458 : Nat)] }) <|
    @List.cons (Nat × Obj) (@Prod.mk Nat Obj (nat_lit 190) { cls := Value.type "function", dict := (none : Option Nat), data := Data.func { name := Str.ofString "_law_message_due", qualname := Str.ofString "_law_message_due", params := a190, body := FuncBody.stmts b190, scope := s190, globals := (3 : Nat), closure := ([] : List (Str × Nat)), defaults := Value.none, kwdefaults := Value.none, pyModule := Value.str (Str.ofString "law_no0067_01") (391 : Nat), annotations := (none : Option Nat), builtins := (0 : Nat), code := Value.ref (189 : Nat) } }) <|
    @List.cons (Nat × Obj) (@Prod.mk Nat Obj (nat_lit 191) { cls := Value.type "tuple", dict := (none : Option Nat), data := Data.seq #[] }) <|
    @List.cons (Nat × Obj) (@Prod.mk Nat Obj (nat_lit 193) { cls := Value.type "tuple", dict := (none : Option Nat), data := Data.seq #[Value.str (Str.ofString "box") (463 : Nat), Value.str (Str.ofString "is_answer") (464 : Nat), Value.str (Str.ofString "most") (465 : Nat), Value.str (Str.ofString "stage") (466 : Nat), Value.str (Str.ofString "turn") (467 : Nat), Value.str (Str.ofString "some") (468 : Nat), Value.str (Str.ofString "frame") (469 : Nat), Value.str (Str.ofString "due") (470 : Nat), Value.str (Str.ofString "told") (471 : Nat)] }) <|
    @List.cons (Nat × Obj) (@Prod.mk Nat Obj (nat_lit 194) { cls := Value.type "tuple", dict := (none : Option Nat), data := Data.seq #[Value.str (Str.ofString "is_early") (472 : Nat), Value.str (Str.ofString "rules") (473 : Nat)] }) <|
    @List.cons (Nat × Obj) (@Prod.mk Nat Obj (nat_lit 196) { cls := Value.type "code", dict := (none : Option Nat), data := Data.fields #[Value.str (Str.ofString "_law_message_right") (460 : Nat), Value.str (Str.ofString "_law_message_right") (461 : Nat), Value.str (Str.ofString "/claim/cut.py") (462 : Nat), Value.int 186 (0 : Nat), Value.int 1 (0 : Nat), Value.int 0 (0 : Nat), Value.int 0 (0 : Nat), Value.int 3 (0 : Nat), Value.ref (191 : Nat), Value.bool true, Value.int 181 (0 : Nat), Value.ref (192 : Nat), Value.none, Value.ref (193 : Nat), Value.ref (194 : Nat), Value.ref (195 : Nat), Value.int 474 (0 : Nat), Value.int 186 (0 : Nat), Value.str (Str.ofString "/claim/cut.py") (475 : Nat)] }) <|
    @List.cons (Nat × Obj) (@Prod.mk Nat Obj (nat_lit 197) { cls := Value.type "function", dict := (none : Option Nat), data := Data.func { name := Str.ofString "_law_message_right", qualname := Str.ofString "_law_message_right", params := a197, body := FuncBody.stmts b197, scope := s197, globals := (3 : Nat), closure := ([] : List (Str × Nat)), defaults := Value.none, kwdefaults := Value.none, pyModule := Value.str (Str.ofString "law_no0067_01") (391 : Nat), annotations := (none : Option Nat), builtins := (0 : Nat), code := Value.ref (196 : Nat) } }) <|
    @List.cons (Nat × Obj) (@Prod.mk Nat Obj (nat_lit 198) { cls := Value.type "tuple", dict := (none : Option Nat), data := Data.seq #[] }) <|
    @List.cons (Nat × Obj) (@Prod.mk Nat Obj (nat_lit 200) { cls := Value.type "tuple", dict := (none : Option Nat), data := Data.seq #[Value.str (Str.ofString "script") (480 : Nat), Value.str (Str.ofString "box") (481 : Nat)] }) <|
    @List.cons (Nat × Obj) (@Prod.mk Nat Obj (nat_lit 201) { cls := Value.type "tuple", dict := (none : Option Nat), data := Data.seq #[] }) <|
    @List.cons (Nat × Obj) (@Prod.mk Nat Obj (nat_lit 203) { cls := Value.type "code", dict := (none : Option Nat), data := Data.fields #[Value.str (Str.ofString "law") (477 : Nat), Value.str (Str.ofString "law") (478 : Nat), Value.str (Str.ofString "/claim/cut.py") (479 : Nat), Value.int 201 (0 : Nat), Value.int 1 (0 : Nat), Value.int 0 (0 : Nat), Value.int 0 (0 : Nat), Value.int 3 (0 : Nat), Value.ref (198 : Nat), Value.bool true, Value.int 181 (0 : Nat), Value.ref (199 : Nat), Value.none, Value.ref (200 : Nat), Value.ref (201 : Nat), Value.ref (202 : Nat), Value.int 482 (0 : Nat), Value.int 201 (0 : Nat), Value.str (Str.ofString "/claim/cut.py") (483 : Nat)] }) <|
    @List.cons (Nat × Obj) (@Prod.mk Nat Obj (nat_lit 204) { cls := Value.type "function", dict := (none : Option Nat), data := Data.func { name := Str.ofString "law", qualname := Str.ofString "law", params := a204, body := FuncBody.stmts b204, scope := s204, globals := (3 : Nat), closure := ([] : List (Str × Nat)), defaults := Value.none, kwdefaults := Value.none, pyModule := Value.str (Str.ofString "law_no0067_01") (391 : Nat), annotations := (none : Option Nat), builtins := (0 : Nat), code := Value.ref (203 : Nat) } }) <|
    @List.nil (Nat × Obj)
noncomputable def hd.view_39 : Program := by
  refine (?f : ∀ {t1 t2 t3 t4 t5 t7 t8 t9 t10 t11 t13 t14 t15 t16 t17 t18 t19 t20}, hdAt 1 = some t1 → hdAt 2 = some t2 → hdAt 3 = some t3 → hdAt 4 = some t4 → hdAt 5 = some t5 → hdAt 7 = some t7 → hdAt 8 = some t8 → hdAt 9 = some t9 → hdAt 10 = some t10 → hdAt 11 = some t11 → hdAt 13 = some t13 → hdAt 14 = some t14 → hdAt 15 = some t15 → hdAt 16 = some t16 → hdAt 17 = some t17 → hdAt 18 = some t18 → hdAt 19 = some t19 → hdAt 20 = some t20 → Program) rfl rfl rfl rfl rfl rfl rfl rfl rfl rfl rfl rfl rfl rfl rfl rfl rfl rfl
  exact fun {t1 t2 t3 t4 t5 t7 t8 t9 t10 t11 t13 t14 t15 t16 t17 t18 t19 t20} _ _ _ _ _ _ _ _ _ _ _ _ _ _ _ _ _ _ => { PySem.Challenge.rw_no0067_01.row.toRowW.1 with main := { PySem.Challenge.rw_no0067_01.row.toRowW.1.main with body := [t1, t2, t3, t4, t5, t7, t8, t9, t10, t11, t13, t14, t15, t16, t17, t18, t19, t20] } }
noncomputable abbrev hd.hook : Hook := kmHook hd.heap_39 (2 :: 3 :: 15 :: 22 :: 24 :: 25 :: 27 :: 28 :: 29 :: 30 :: 31 :: 32 :: 35 :: 36 :: 44 :: 46 :: 47 :: 49 :: 50 :: 51 :: 53 :: 54 :: 56 :: 57 :: 58 :: 60 :: 61 :: 63 :: 64 :: 65 :: 67 :: 68 :: 70 :: 71 :: 72 :: 74 :: 75 :: 77 :: 78 :: 79 :: 81 :: 82 :: 84 :: 85 :: 86 :: 87 :: 88 :: 89 :: 90 :: 93 :: 95 :: 96 :: 98 :: 99 :: 107 :: 109 :: 110 :: 112 :: 113 :: 114 :: 116 :: 117 :: 119 :: 120 :: 121 :: 123 :: 124 :: 126 :: 127 :: 128 :: 130 :: 131 :: 133 :: 134 :: 135 :: 137 :: 138 :: 140 :: 141 :: 142 :: 143 :: 144 :: 145 :: 146 :: 149 :: 151 :: 152 :: 154 :: 155 :: 156 :: 158 :: 159 :: 161 :: 162 :: 163 :: 165 :: 166 :: 168 :: 169 :: 170 :: 172 :: 173 :: 175 :: 176 :: 177 :: 179 :: 180 :: 182 :: 183 :: 184 :: 186 :: 187 :: 189 :: 190 :: 191 :: 193 :: 194 :: 196 :: 197 :: 198 :: 200 :: 201 :: 203 :: 204 :: []) (fun _ => by kernel_rfl) [192]
end HD
def Fill_top (_ : OpenLaw) (_ : Params → Frag) : Prop := True
theorem fill_top : Fill_top PySem.Challenge.rw_no0067_01 Mine.hd.heap_39 := by
  k_fill
  trivial
section HP
set_option maxHeartbeats 8000000
noncomputable def hdK (P : Params) (i : Nat) : Obj := ((hd.heap_39 P).getD i default).2
noncomputable def hdTpl (o : Obj) : Obj := match o.data with
  | .func f => { cls := .none, data := .func { f with globals := 0, pyModule := .none, code := .none } }
  | _ => o
abbrev hdP : Program := PySem.Challenge.rw_no0067_01.row.toRowW.1
noncomputable abbrev hdB : List Stmt := behindTheImports hdP
noncomputable def hdE : Env := { scope := hdP.main.scope, locals := mainNs, globals := mainNs, cells := [], code := .ref 13, frame := some 14 }
noncomputable abbrev hdC : Code := .body hdB hdE
abbrev hdF : List Frame := [topFrame ⟨0, 0, 0, 0⟩]
noncomputable def hdo43 (P : Params) : Obj := { cls := Value.type "tuple", data := Data.seq #[] }
noncomputable def hdo45 (P : Params) : Obj := { cls := Value.type "code", data := Data.fields #[Value.str (Str.ofString "<module>") 182, Value.str (Str.ofString "<module>") 183, Value.str (Str.ofString "/claim/cut.py") 184, Value.int 1 0, Value.int 0 0, Value.int 0 0, Value.int 0 0, Value.int 0 0, Value.ref 11, Value.bool false, Value.int 181 0, Value.ref 12, Value.none, Value.none, Value.none, Value.none, Value.int 185 0, Value.int 1 0, Value.str (Str.ofString "/claim/cut.py") 186] }
noncomputable def hdo44 (P : Params) : Obj := { cls := Value.none, data := Data.fields #[] }
noncomputable def hdo46 (P : Params) : Obj := { cls := Value.type "frame", slots := #[some (Value.ref 13), some (Value.ref 3), some (Value.ref 3), none, some (Value.str (Str.ofString "__main__") 164), none, some (Value.ref 0)] }
noncomputable def hdo50 (P : Params) : Obj := { cls := Value.type "dict", data := Data.dict #[{ hash := PyData.keyHash P (Str.ofString "__name__"), key := Value.str (Str.ofString "__name__") 165, val := Value.str (Str.ofString "quic.h3rules") 228 }, { hash := PyData.keyHash P (Str.ofString "__doc__"), key := Value.str (Str.ofString "__doc__") 166, val := Value.none }, { hash := PyData.keyHash P (Str.ofString "__package__"), key := Value.str (Str.ofString "__package__") 167, val := Value.none }, { hash := PyData.keyHash P (Str.ofString "__loader__"), key := Value.str (Str.ofString "__loader__") 168, val := Value.builtin "__main__.__loader__#opaque" }, { hash := PyData.keyHash P (Str.ofString "__spec__"), key := Value.str (Str.ofString "__spec__") 169, val := Value.none }, { hash := PyData.keyHash P (Str.ofString "__annotations__"), key := Value.str (Str.ofString "__annotations__") 170, val := Value.ref 6 }, { hash := PyData.keyHash P (Str.ofString "__builtins__"), key := Value.str (Str.ofString "__builtins__") 171, val := Value.ref 4 }, { hash := PyData.keyHash P (Str.ofString "__file__"), key := Value.str (Str.ofString "__file__") 173, val := Value.str (Str.ofString "/claim/cut.py") 172 }, { hash := PyData.keyHash P (Str.ofString "__cached__"), key := Value.str (Str.ofString "__cached__") 174, val := Value.none }, { hash := PyData.keyHash P (Str.ofString "H3Error"), key := Value.str (Str.ofString "H3Error") 219, val := Value.ref 31 }, { hash := PyData.keyHash P (Str.ofString "H3_FRAME_UNEXPECTED"), key := Value.str (Str.ofString "H3_FRAME_UNEXPECTED") 221, val := Value.int 261 220 }, { hash := PyData.keyHash P (Str.ofString "H3_ID_ERROR"), key := Value.str (Str.ofString "H3_ID_ERROR") 223, val := Value.int 264 222 }, { hash := PyData.keyHash P (Str.ofString "H3_MISSING_SETTINGS"), key := Value.str (Str.ofString "H3_MISSING_SETTINGS") 225, val := Value.int 266 224 }, { hash := PyData.keyHash P (Str.ofString "H3_REQUEST_INCOMPLETE"), key := Value.str (Str.ofString "H3_REQUEST_INCOMPLETE") 227, val := Value.int 269 226 }, { hash := PyData.keyHash P (Str.ofString "ON_CONTROL"), key := Value.str (Str.ofString "ON_CONTROL") 235, val := Value.ref 35 }, { hash := PyData.keyHash P (Str.ofString "ON_REQUEST"), key := Value.str (Str.ofString "ON_REQUEST") 240, val := Value.ref 36 }] 16 }
noncomputable def hdo60 (P : Params) : Obj := { cls := Value.none, data := Data.fields #[] }
noncomputable def hdo56 (P : Params) : Obj := { cls := Value.none, data := Data.fields #[Value.int 4 0, Value.int 4 0, Value.ref 27] }
noncomputable def hdo54 (P : Params) : Obj := { cls := Value.type "dict", data := Data.dict #[{ hash := PyData.keyHash P (Str.ofString "__module__"), key := Value.str (Str.ofString "__module__") 196, val := Value.str (Str.ofString "quic.errors") 187 }, { hash := PyData.keyHash P (Str.ofString "__qualname__"), key := Value.str (Str.ofString "__qualname__") 198, val := Value.str (Str.ofString "H3Error") 197 }, { hash := PyData.keyHash P (Str.ofString "__firstlineno__"), key := Value.str (Str.ofString "__firstlineno__") 200, val := Value.int 2 199 }, { hash := PyData.keyHash P (Str.ofString "__init__"), key := Value.str (Str.ofString "__init__") 209, val := Value.ref 28 }, { hash := PyData.keyHash P (Str.ofString "__static_attributes__"), key := Value.str (Str.ofString "__static_attributes__") 212, val := Value.ref 29 }] 5 }
noncomputable def hdo70 (P : Params) : Obj := { cls := Value.type "super", data := Data.fields #[Value.ref 31, Value.ref 31, Value.ref 31] }
noncomputable def hdo58 (P : Params) : Obj := { cls := Value.type "frame", slots := #[some (Value.ref 20), some (Value.ref 3), some (Value.ref 17), none, some (Value.str (Str.ofString "quic.errors") 187), none, some (Value.ref 0)] }
noncomputable def hdo53 (P : Params) : Obj := { cls := Value.type "builtin_function_or_method", data := Data.fields #[Value.builtin "type.__prepare__", Value.type "type"] }
noncomputable def hdo51 (P : Params) : Obj := { cls := Value.none, data := Data.fields #[Value.int 2 0, Value.int 0 0, Value.ref 20] }
noncomputable def hdo57 (P : Params) : Obj := { cls := Value.type "code", data := Data.fields #[Value.str (Str.ofString "H3Error") 191, Value.str (Str.ofString "H3Error") 192, Value.str (Str.ofString "/claim/cut.py") 193, Value.int 2 0, Value.int 0 0, Value.int 0 0, Value.int 0 0, Value.int 0 0, Value.ref 18, Value.bool false, Value.int 181 0, Value.ref 19, Value.none, Value.none, Value.none, Value.none, Value.int 194 0, Value.int 2 0, Value.str (Str.ofString "/claim/cut.py") 195] }
noncomputable def hdo55 (P : Params) : Obj := { cls := Value.type "tuple", data := Data.seq #[] }
noncomputable def hdo71 (P : Params) : Obj := { cls := Value.type "builtin_function_or_method", data := Data.fields #[Value.builtin "object.__init_subclass__", Value.ref 31] }
noncomputable def hdo63 (P : Params) : Obj := hdTpl (hdK P 7)
noncomputable def hdo74 (P : Params) : Obj := { cls := Value.type "dict", data := Data.dict #[{ hash := PyData.keyHash P (Str.ofString "__name__"), key := Value.str (Str.ofString "__name__") 165, val := Value.str (Str.ofString "quic.h3rules") 228 }, { hash := PyData.keyHash P (Str.ofString "__doc__"), key := Value.str (Str.ofString "__doc__") 166, val := Value.none }, { hash := PyData.keyHash P (Str.ofString "__package__"), key := Value.str (Str.ofString "__package__") 167, val := Value.none }, { hash := PyData.keyHash P (Str.ofString "__loader__"), key := Value.str (Str.ofString "__loader__") 168, val := Value.builtin "__main__.__loader__#opaque" }, { hash := PyData.keyHash P (Str.ofString "__spec__"), key := Value.str (Str.ofString "__spec__") 169, val := Value.none }, { hash := PyData.keyHash P (Str.ofString "__annotations__"), key := Value.str (Str.ofString "__annotations__") 170, val := Value.ref 6 }, { hash := PyData.keyHash P (Str.ofString "__builtins__"), key := Value.str (Str.ofString "__builtins__") 171, val := Value.ref 4 }, { hash := PyData.keyHash P (Str.ofString "__file__"), key := Value.str (Str.ofString "__file__") 173, val := Value.str (Str.ofString "/claim/cut.py") 172 }, { hash := PyData.keyHash P (Str.ofString "__cached__"), key := Value.str (Str.ofString "__cached__") 174, val := Value.none }, { hash := PyData.keyHash P (Str.ofString "H3Error"), key := Value.str (Str.ofString "H3Error") 219, val := Value.ref 31 }, { hash := PyData.keyHash P (Str.ofString "H3_FRAME_UNEXPECTED"), key := Value.str (Str.ofString "H3_FRAME_UNEXPECTED") 221, val := Value.int 261 220 }, { hash := PyData.keyHash P (Str.ofString "H3_ID_ERROR"), key := Value.str (Str.ofString "H3_ID_ERROR") 223, val := Value.int 264 222 }, { hash := PyData.keyHash P (Str.ofString "H3_MISSING_SETTINGS"), key := Value.str (Str.ofString "H3_MISSING_SETTINGS") 225, val := Value.int 266 224 }, { hash := PyData.keyHash P (Str.ofString "H3_REQUEST_INCOMPLETE"), key := Value.str (Str.ofString "H3_REQUEST_INCOMPLETE") 227, val := Value.int 269 226 }, { hash := PyData.keyHash P (Str.ofString "ON_CONTROL"), key := Value.str (Str.ofString "ON_CONTROL") 235, val := Value.ref 35 }, { hash := PyData.keyHash P (Str.ofString "ON_REQUEST"), key := Value.str (Str.ofString "ON_REQUEST") 240, val := Value.ref 36 }, { hash := PyData.keyHash P (Str.ofString "ControlRules"), key := Value.str (Str.ofString "ControlRules") 318, val := Value.ref 88 }] 17 }
noncomputable def hdo78 (P : Params) : Obj := { cls := Value.type "dict", data := Data.dict #[{ hash := PyData.keyHash P (Str.ofString "__module__"), key := Value.str (Str.ofString "__module__") 248, val := Value.str (Str.ofString "quic.h3rules") 228 }, { hash := PyData.keyHash P (Str.ofString "__qualname__"), key := Value.str (Str.ofString "__qualname__") 250, val := Value.str (Str.ofString "ControlRules") 249 }, { hash := PyData.keyHash P (Str.ofString "__firstlineno__"), key := Value.str (Str.ofString "__firstlineno__") 252, val := Value.int 15 251 }, { hash := PyData.keyHash P (Str.ofString "__init__"), key := Value.str (Str.ofString "__init__") 261, val := Value.ref 50 }, { hash := PyData.keyHash P (Str.ofString "take"), key := Value.str (Str.ofString "take") 270, val := Value.ref 57 }, { hash := PyData.keyHash P (Str.ofString "take_goaway"), key := Value.str (Str.ofString "take_goaway") 278, val := Value.ref 64 }, { hash := PyData.keyHash P (Str.ofString "take_most"), key := Value.str (Str.ofString "take_most") 286, val := Value.ref 71 }, { hash := PyData.keyHash P (Str.ofString "setting"), key := Value.str (Str.ofString "setting") 297, val := Value.ref 78 }, { hash := PyData.keyHash P (Str.ofString "is_let"), key := Value.str (Str.ofString "is_let") 305, val := Value.ref 85 }, { hash := PyData.keyHash P (Str.ofString "__static_attributes__"), key := Value.str (Str.ofString "__static_attributes__") 311, val := Value.ref 86 }] 10 }
noncomputable def hdo94 (P : Params) : Obj := hdTpl (hdK P 23)
noncomputable def hdo122 (P : Params) : Obj := hdTpl (hdK P 43)
noncomputable def hdo82 (P : Params) : Obj := { cls := Value.type "frame", slots := #[some (Value.ref 42), some (Value.ref 3), some (Value.ref 39), none, some (Value.str (Str.ofString "quic.h3rules") 228), none, some (Value.ref 0)] }
noncomputable def hdo98 (P : Params) : Obj := { cls := Value.none, data := Data.fields #[] }
noncomputable def hdo130 (P : Params) : Obj := { cls := Value.type "super", data := Data.fields #[Value.ref 88, Value.ref 88, Value.ref 88] }
noncomputable def hdo80 (P : Params) : Obj := { cls := Value.none, data := Data.fields #[Value.int 17 0, Value.int 4 0, Value.ref 49, Value.int 24 0, Value.int 4 0, Value.ref 56, Value.int 39 0, Value.int 4 0, Value.ref 63, Value.int 46 0, Value.int 4 0, Value.ref 70, Value.int 53 0, Value.int 4 0, Value.ref 77, Value.int 59 0, Value.int 4 0, Value.ref 84] }
noncomputable def hdo112 (P : Params) : Obj := { cls := Value.none, data := Data.fields #[] }
noncomputable def hdo76 (P : Params) : Obj := { cls := Value.type "tuple", data := Data.seq #[] }
noncomputable def hdo108 (P : Params) : Obj := hdTpl (hdK P 33)
noncomputable def hdo84 (P : Params) : Obj := { cls := Value.none, data := Data.fields #[] }
noncomputable def hdo87 (P : Params) : Obj := hdTpl (hdK P 18)
noncomputable def hdo119 (P : Params) : Obj := { cls := Value.none, data := Data.fields #[] }
noncomputable def hdo79 (P : Params) : Obj := { cls := Value.type "tuple", data := Data.seq #[] }
noncomputable def hdo75 (P : Params) : Obj := { cls := Value.none, data := Data.fields #[Value.int 2 0, Value.int 0 0, Value.ref 20, Value.int 15 0, Value.int 0 0, Value.ref 42] }
noncomputable def hdo91 (P : Params) : Obj := { cls := Value.none, data := Data.fields #[] }
noncomputable def hdo115 (P : Params) : Obj := hdTpl (hdK P 38)
noncomputable def hdo131 (P : Params) : Obj := { cls := Value.type "builtin_function_or_method", data := Data.fields #[Value.builtin "object.__init_subclass__", Value.ref 88] }
noncomputable def hdo105 (P : Params) : Obj := { cls := Value.none, data := Data.fields #[] }
noncomputable def hdo81 (P : Params) : Obj := { cls := Value.type "code", data := Data.fields #[Value.str (Str.ofString "ControlRules") 243, Value.str (Str.ofString "ControlRules") 244, Value.str (Str.ofString "/claim/cut.py") 245, Value.int 15 0, Value.int 0 0, Value.int 0 0, Value.int 0 0, Value.int 0 0, Value.ref 40, Value.bool false, Value.int 181 0, Value.ref 41, Value.none, Value.none, Value.none, Value.none, Value.int 246 0, Value.int 15 0, Value.str (Str.ofString "/claim/cut.py") 247] }
noncomputable def hdo77 (P : Params) : Obj := { cls := Value.type "builtin_function_or_method", data := Data.fields #[Value.builtin "type.__prepare__", Value.type "type"] }
noncomputable def hdo101 (P : Params) : Obj := hdTpl (hdK P 28)
noncomputable def hdo132 (P : Params) : Obj := { cls := Value.type "dict", data := Data.dict #[{ hash := PyData.keyHash P (Str.ofString "__name__"), key := Value.str (Str.ofString "__name__") 165, val := Value.str (Str.ofString "law_no0067_01") 391 }, { hash := PyData.keyHash P (Str.ofString "__doc__"), key := Value.str (Str.ofString "__doc__") 166, val := Value.none }, { hash := PyData.keyHash P (Str.ofString "__package__"), key := Value.str (Str.ofString "__package__") 167, val := Value.none }, { hash := PyData.keyHash P (Str.ofString "__loader__"), key := Value.str (Str.ofString "__loader__") 168, val := Value.builtin "__main__.__loader__#opaque" }, { hash := PyData.keyHash P (Str.ofString "__spec__"), key := Value.str (Str.ofString "__spec__") 169, val := Value.none }, { hash := PyData.keyHash P (Str.ofString "__annotations__"), key := Value.str (Str.ofString "__annotations__") 170, val := Value.ref 6 }, { hash := PyData.keyHash P (Str.ofString "__builtins__"), key := Value.str (Str.ofString "__builtins__") 171, val := Value.ref 4 }, { hash := PyData.keyHash P (Str.ofString "__file__"), key := Value.str (Str.ofString "__file__") 173, val := Value.str (Str.ofString "/claim/cut.py") 172 }, { hash := PyData.keyHash P (Str.ofString "__cached__"), key := Value.str (Str.ofString "__cached__") 174, val := Value.none }, { hash := PyData.keyHash P (Str.ofString "H3Error"), key := Value.str (Str.ofString "H3Error") 219, val := Value.ref 31 }, { hash := PyData.keyHash P (Str.ofString "H3_FRAME_UNEXPECTED"), key := Value.str (Str.ofString "H3_FRAME_UNEXPECTED") 221, val := Value.int 261 220 }, { hash := PyData.keyHash P (Str.ofString "H3_ID_ERROR"), key := Value.str (Str.ofString "H3_ID_ERROR") 223, val := Value.int 264 222 }, { hash := PyData.keyHash P (Str.ofString "H3_MISSING_SETTINGS"), key := Value.str (Str.ofString "H3_MISSING_SETTINGS") 225, val := Value.int 266 224 }, { hash := PyData.keyHash P (Str.ofString "H3_REQUEST_INCOMPLETE"), key := Value.str (Str.ofString "H3_REQUEST_INCOMPLETE") 227, val := Value.int 269 226 }, { hash := PyData.keyHash P (Str.ofString "ON_CONTROL"), key := Value.str (Str.ofString "ON_CONTROL") 235, val := Value.ref 35 }, { hash := PyData.keyHash P (Str.ofString "ON_REQUEST"), key := Value.str (Str.ofString "ON_REQUEST") 240, val := Value.ref 36 }, { hash := PyData.keyHash P (Str.ofString "ControlRules"), key := Value.str (Str.ofString "ControlRules") 318, val := Value.ref 88 }, { hash := PyData.keyHash P (Str.ofString "check_push"), key := Value.str (Str.ofString "check_push") 326, val := Value.ref 99 }, { hash := PyData.keyHash P (Str.ofString "MessageRules"), key := Value.str (Str.ofString "MessageRules") 390, val := Value.ref 144 }] 19 }
noncomputable def hdo152 (P : Params) : Obj := hdTpl (hdK P 58)
noncomputable def hdo144 (P : Params) : Obj := { cls := Value.type "tuple", data := Data.seq #[] }
noncomputable def hdo188 (P : Params) : Obj := { cls := Value.type "super", data := Data.fields #[Value.ref 144, Value.ref 144, Value.ref 144] }
noncomputable def hdo156 (P : Params) : Obj := { cls := Value.none, data := Data.fields #[] }
noncomputable def hdo180 (P : Params) : Obj := hdTpl (hdK P 78)
noncomputable def hdo170 (P : Params) : Obj := { cls := Value.none, data := Data.fields #[] }
noncomputable def hdo138 (P : Params) : Obj := hdTpl (hdK P 53)
noncomputable def hdo146 (P : Params) : Obj := { cls := Value.type "code", data := Data.fields #[Value.str (Str.ofString "MessageRules") 329, Value.str (Str.ofString "MessageRules") 330, Value.str (Str.ofString "/claim/cut.py") 331, Value.int 64 0, Value.int 0 0, Value.int 0 0, Value.int 0 0, Value.int 0 0, Value.ref 103, Value.bool false, Value.int 181 0, Value.ref 104, Value.none, Value.none, Value.none, Value.none, Value.int 332 0, Value.int 64 0, Value.str (Str.ofString "/claim/cut.py") 333] }
noncomputable def hdo142 (P : Params) : Obj := { cls := Value.type "builtin_function_or_method", data := Data.fields #[Value.builtin "type.__prepare__", Value.type "type"] }
noncomputable def hdo166 (P : Params) : Obj := hdTpl (hdK P 68)
noncomputable def hdo177 (P : Params) : Obj := { cls := Value.none, data := Data.fields #[] }
noncomputable def hdo145 (P : Params) : Obj := { cls := Value.none, data := Data.fields #[Value.int 66 0, Value.int 4 0, Value.ref 112, Value.int 71 0, Value.int 4 0, Value.ref 119, Value.int 86 0, Value.int 4 0, Value.ref 126, Value.int 91 0, Value.int 4 0, Value.ref 133, Value.int 102 0, Value.int 4 0, Value.ref 140] }
noncomputable def hdo133 (P : Params) : Obj := { cls := Value.none, data := Data.fields #[Value.int 2 0, Value.int 0 0, Value.ref 20, Value.int 15 0, Value.int 0 0, Value.ref 42, Value.int 61 0, Value.int 0 0, Value.ref 98, Value.int 64 0, Value.int 0 0, Value.ref 105] }
noncomputable def hdo173 (P : Params) : Obj := hdTpl (hdK P 73)
noncomputable def hdo141 (P : Params) : Obj := { cls := Value.type "tuple", data := Data.seq #[] }
noncomputable def hdo189 (P : Params) : Obj := { cls := Value.type "builtin_function_or_method", data := Data.fields #[Value.builtin "object.__init_subclass__", Value.ref 144] }
noncomputable def hdo149 (P : Params) : Obj := { cls := Value.none, data := Data.fields #[] }
noncomputable def hdo147 (P : Params) : Obj := { cls := Value.type "frame", slots := #[some (Value.ref 105), some (Value.ref 3), some (Value.ref 102), none, some (Value.str (Str.ofString "quic.h3rules") 228), none, some (Value.ref 0)] }
noncomputable def hdo163 (P : Params) : Obj := { cls := Value.none, data := Data.fields #[] }
noncomputable def hdo143 (P : Params) : Obj := { cls := Value.type "dict", data := Data.dict #[{ hash := PyData.keyHash P (Str.ofString "__module__"), key := Value.str (Str.ofString "__module__") 334, val := Value.str (Str.ofString "quic.h3rules") 228 }, { hash := PyData.keyHash P (Str.ofString "__qualname__"), key := Value.str (Str.ofString "__qualname__") 336, val := Value.str (Str.ofString "MessageRules") 335 }, { hash := PyData.keyHash P (Str.ofString "__firstlineno__"), key := Value.str (Str.ofString "__firstlineno__") 338, val := Value.int 64 337 }, { hash := PyData.keyHash P (Str.ofString "__init__"), key := Value.str (Str.ofString "__init__") 347, val := Value.ref 113 }, { hash := PyData.keyHash P (Str.ofString "take"), key := Value.str (Str.ofString "take") 357, val := Value.ref 120 }, { hash := PyData.keyHash P (Str.ofString "take_data"), key := Value.str (Str.ofString "take_data") 364, val := Value.ref 127 }, { hash := PyData.keyHash P (Str.ofString "take_heads"), key := Value.str (Str.ofString "take_heads") 372, val := Value.ref 134 }, { hash := PyData.keyHash P (Str.ofString "end"), key := Value.str (Str.ofString "end") 379, val := Value.ref 141 }, { hash := PyData.keyHash P (Str.ofString "__static_attributes__"), key := Value.str (Str.ofString "__static_attributes__") 383, val := Value.ref 142 }] 9 }
noncomputable def hdo159 (P : Params) : Obj := hdTpl (hdK P 63)
noncomputable def hdo135 (P : Params) : Obj := { cls := Value.none, data := Data.fields #[] }
noncomputable def hdo242 (P : Params) : Obj := { cls := Value.none, data := Data.fields #[] }
noncomputable def hdo210 (P : Params) : Obj := hdTpl (hdK P 98)
noncomputable def hdo238 (P : Params) : Obj := hdTpl (hdK P 118)
noncomputable def hdo214 (P : Params) : Obj := { cls := Value.none, data := Data.fields #[] }
noncomputable def hdo196 (P : Params) : Obj := hdTpl (hdK P 88)
noncomputable def hdo228 (P : Params) : Obj := { cls := Value.none, data := Data.fields #[] }
noncomputable def hdo224 (P : Params) : Obj := hdTpl (hdK P 108)
noncomputable def hdo200 (P : Params) : Obj := { cls := Value.none, data := Data.fields #[] }
noncomputable def hdo235 (P : Params) : Obj := { cls := Value.none, data := Data.fields #[] }
noncomputable def hdo203 (P : Params) : Obj := hdTpl (hdK P 93)
noncomputable def hdo191 (P : Params) : Obj := { cls := Value.none, data := Data.fields #[Value.int 2 0, Value.int 0 0, Value.ref 20, Value.int 15 0, Value.int 0 0, Value.ref 42, Value.int 61 0, Value.int 0 0, Value.ref 98, Value.int 64 0, Value.int 0 0, Value.ref 105, Value.int 106 0, Value.int 0 0, Value.ref 154, Value.int 114 0, Value.int 0 0, Value.ref 161, Value.int 119 0, Value.int 0 0, Value.ref 168, Value.int 130 0, Value.int 0 0, Value.ref 175, Value.int 153 0, Value.int 0 0, Value.ref 182, Value.int 171 0, Value.int 0 0, Value.ref 189, Value.int 186 0, Value.int 0 0, Value.ref 196, Value.int 201 0, Value.int 0 0, Value.ref 203] }
noncomputable def hdo207 (P : Params) : Obj := { cls := Value.none, data := Data.fields #[] }
noncomputable def hdo231 (P : Params) : Obj := hdTpl (hdK P 113)
noncomputable def hdo221 (P : Params) : Obj := { cls := Value.none, data := Data.fields #[] }
noncomputable def hdo245 (P : Params) : Obj := hdTpl (hdK P 123)
noncomputable def hdo193 (P : Params) : Obj := { cls := Value.none, data := Data.fields #[] }
noncomputable def hdo217 (P : Params) : Obj := hdTpl (hdK P 103)
noncomputable def hdT0 (P : Params) : BT := .node (boot_o_0 P) (.node (boot_o_1 P) (.node (boot_o_3 P) (.node (boot_o_7 P) (.nil) (.nil)) (.node (hdo43 P) (.nil) (.nil))) (.node (boot_o_5 P) (.node (boot_o_9 P) (.nil) (.nil)) (.node (hdo45 P) (.nil) (.nil)))) (.node (boot_o_2 P) (.node (boot_o_4 P) (.node (boot_o_8 P) (.nil) (.nil)) (.node (hdo44 P) (.nil) (.nil))) (.node (boot_o_6 P) (.node (boot_o_10 P) (.nil) (.nil)) (.node (hdo46 P) (.nil) (.nil))))
noncomputable def hdT1 (P : Params) : BT := .node (boot_o_0 P) (.node (boot_o_1 P) (.node (hdo50 P) (.node (boot_o_7 P) (.node (hdK P 2) (.node (hdK P 10) (.nil) (.nil)) (.nil)) (.node (hdo60 P) (.nil) (.nil))) (.node (hdo43 P) (.node (hdo56 P) (.node (hdK P 12) (.nil) (.nil)) (.nil)) (.node (hdK P 6) (.nil) (.nil)))) (.node (boot_o_5 P) (.node (boot_o_9 P) (.node (hdo54 P) (.node (hdo70 P) (.nil) (.nil)) (.nil)) (.node (hdK P 5) (.nil) (.nil))) (.node (hdo45 P) (.node (hdo58 P) (.nil) (.nil)) (.node (hdK P 8) (.nil) (.nil))))) (.node (hdK P 0) (.node (boot_o_4 P) (.node (boot_o_8 P) (.node (hdo53 P) (.node (hdK P 11) (.nil) (.nil)) (.nil)) (.node (hdK P 4) (.nil) (.nil))) (.node (hdo51 P) (.node (hdo57 P) (.node (hdK P 13) (.nil) (.nil)) (.nil)) (.node (hdK P 7) (.nil) (.nil)))) (.node (boot_o_6 P) (.node (boot_o_10 P) (.node (hdo55 P) (.node (hdo71 P) (.nil) (.nil)) (.nil)) (.node (hdo63 P) (.nil) (.nil))) (.node (hdo46 P) (.node (hdK P 3) (.nil) (.nil)) (.node (hdK P 9) (.nil) (.nil)))))
noncomputable def hdT2 (P : Params) : BT := .node (boot_o_0 P) (.node (boot_o_1 P) (.node (hdo74 P) (.node (boot_o_7 P) (.node (hdK P 2) (.node (hdK P 10) (.node (hdK P 27) (.nil) (.nil)) (.nil)) (.node (hdK P 16) (.node (hdK P 39) (.nil) (.nil)) (.nil))) (.node (hdo60 P) (.node (hdo78 P) (.node (hdK P 33) (.nil) (.nil)) (.nil)) (.node (hdo94 P) (.node (hdK P 45) (.nil) (.nil)) (.nil)))) (.node (hdo43 P) (.node (hdo56 P) (.node (hdK P 12) (.node (hdK P 30) (.nil) (.nil)) (.nil)) (.node (hdK P 19) (.node (hdo122 P) (.nil) (.nil)) (.nil))) (.node (hdK P 6) (.node (hdo82 P) (.node (hdK P 36) (.nil) (.nil)) (.nil)) (.node (hdo98 P) (.node (hdo130 P) (.nil) (.nil)) (.nil))))) (.node (boot_o_5 P) (.node (boot_o_9 P) (.node (hdo54 P) (.node (hdo70 P) (.node (hdK P 29) (.nil) (.nil)) (.nil)) (.node (hdK P 17) (.node (hdK P 40) (.nil) (.nil)) (.nil))) (.node (hdK P 5) (.node (hdo80 P) (.node (hdo112 P) (.nil) (.nil)) (.nil)) (.node (hdK P 23) (.node (hdK P 47) (.nil) (.nil)) (.nil)))) (.node (hdo45 P) (.node (hdo58 P) (.node (hdo76 P) (.node (hdo108 P) (.nil) (.nil)) (.nil)) (.node (hdK P 20) (.node (hdK P 43) (.nil) (.nil)) (.nil))) (.node (hdK P 8) (.node (hdo84 P) (.node (hdK P 37) (.nil) (.nil)) (.nil)) (.node (hdK P 26) (.nil) (.nil)))))) (.node (hdK P 0) (.node (boot_o_4 P) (.node (boot_o_8 P) (.node (hdo53 P) (.node (hdK P 11) (.node (hdK P 28) (.nil) (.nil)) (.nil)) (.node (hdo87 P) (.node (hdo119 P) (.nil) (.nil)) (.nil))) (.node (hdK P 4) (.node (hdo79 P) (.node (hdK P 34) (.nil) (.nil)) (.nil)) (.node (hdK P 22) (.node (hdK P 46) (.nil) (.nil)) (.nil)))) (.node (hdo75 P) (.node (hdo57 P) (.node (hdK P 13) (.node (hdK P 31) (.nil) (.nil)) (.nil)) (.node (hdo91 P) (.node (hdK P 42) (.nil) (.nil)) (.nil))) (.node (hdK P 7) (.node (hdK P 14) (.node (hdo115 P) (.nil) (.nil)) (.nil)) (.node (hdK P 25) (.node (hdo131 P) (.nil) (.nil)) (.nil))))) (.node (boot_o_6 P) (.node (boot_o_10 P) (.node (hdo55 P) (.node (hdo71 P) (.node (hdo105 P) (.nil) (.nil)) (.nil)) (.node (hdK P 18) (.node (hdK P 41) (.nil) (.nil)) (.nil))) (.node (hdo63 P) (.node (hdo81 P) (.node (hdK P 35) (.nil) (.nil)) (.nil)) (.node (hdK P 24) (.node (hdK P 48) (.nil) (.nil)) (.nil)))) (.node (hdo46 P) (.node (hdK P 3) (.node (hdo77 P) (.node (hdK P 32) (.nil) (.nil)) (.nil)) (.node (hdK P 21) (.node (hdK P 44) (.nil) (.nil)) (.nil))) (.node (hdK P 9) (.node (hdK P 15) (.node (hdK P 38) (.nil) (.nil)) (.nil)) (.node (hdo101 P) (.nil) (.nil))))))
noncomputable def hdT3 (P : Params) : BT := .node (boot_o_0 P) (.node (boot_o_1 P) (.node (hdo132 P) (.node (boot_o_7 P) (.node (hdK P 2) (.node (hdK P 10) (.node (hdK P 27) (.node (hdK P 68) (.nil) (.nil)) (.nil)) (.node (hdK P 50) (.nil) (.nil))) (.node (hdK P 16) (.node (hdK P 39) (.node (hdK P 80) (.nil) (.nil)) (.nil)) (.node (hdo152 P) (.nil) (.nil)))) (.node (hdo60 P) (.node (hdo78 P) (.node (hdK P 33) (.node (hdK P 74) (.nil) (.nil)) (.nil)) (.node (hdo144 P) (.nil) (.nil))) (.node (hdo94 P) (.node (hdK P 45) (.nil) (.nil)) (.node (hdK P 62) (.nil) (.nil))))) (.node (hdo43 P) (.node (hdo56 P) (.node (hdK P 12) (.node (hdK P 30) (.node (hdK P 71) (.nil) (.nil)) (.nil)) (.node (hdK P 53) (.nil) (.nil))) (.node (hdK P 19) (.node (hdo122 P) (.node (hdo188 P) (.nil) (.nil)) (.nil)) (.node (hdo156 P) (.nil) (.nil)))) (.node (hdK P 6) (.node (hdo82 P) (.node (hdK P 36) (.node (hdo180 P) (.nil) (.nil)) (.nil)) (.node (hdK P 54) (.nil) (.nil))) (.node (hdo98 P) (.node (hdo130 P) (.nil) (.nil)) (.node (hdK P 65) (.nil) (.nil)))))) (.node (boot_o_5 P) (.node (boot_o_9 P) (.node (hdo54 P) (.node (hdo70 P) (.node (hdK P 29) (.node (hdo170 P) (.nil) (.nil)) (.nil)) (.node (hdo138 P) (.nil) (.nil))) (.node (hdK P 17) (.node (hdK P 40) (.node (hdK P 82) (.nil) (.nil)) (.nil)) (.node (hdK P 58) (.nil) (.nil)))) (.node (hdK P 5) (.node (hdo80 P) (.node (hdo112 P) (.node (hdK P 75) (.nil) (.nil)) (.nil)) (.node (hdo146 P) (.nil) (.nil))) (.node (hdK P 23) (.node (hdK P 47) (.nil) (.nil)) (.node (hdK P 64) (.nil) (.nil))))) (.node (hdo45 P) (.node (hdo58 P) (.node (hdo76 P) (.node (hdo108 P) (.node (hdK P 72) (.nil) (.nil)) (.nil)) (.node (hdo142 P) (.nil) (.nil))) (.node (hdK P 20) (.node (hdK P 43) (.nil) (.nil)) (.node (hdK P 61) (.nil) (.nil)))) (.node (hdK P 8) (.node (hdo84 P) (.node (hdK P 37) (.node (hdK P 78) (.nil) (.nil)) (.nil)) (.node (hdK P 55) (.nil) (.nil))) (.node (hdK P 26) (.node (hdK P 49) (.nil) (.nil)) (.node (hdo166 P) (.nil) (.nil))))))) (.node (hdK P 0) (.node (boot_o_4 P) (.node (boot_o_8 P) (.node (hdo53 P) (.node (hdK P 11) (.node (hdK P 28) (.node (hdK P 69) (.nil) (.nil)) (.nil)) (.node (hdK P 51) (.nil) (.nil))) (.node (hdo87 P) (.node (hdo119 P) (.node (hdK P 81) (.nil) (.nil)) (.nil)) (.node (hdK P 57) (.nil) (.nil)))) (.node (hdK P 4) (.node (hdo79 P) (.node (hdK P 34) (.node (hdo177 P) (.nil) (.nil)) (.nil)) (.node (hdo145 P) (.nil) (.nil))) (.node (hdK P 22) (.node (hdK P 46) (.nil) (.nil)) (.node (hdK P 63) (.nil) (.nil))))) (.node (hdo133 P) (.node (hdo57 P) (.node (hdK P 13) (.node (hdK P 31) (.node (hdo173 P) (.nil) (.nil)) (.nil)) (.node (hdo141 P) (.nil) (.nil))) (.node (hdo91 P) (.node (hdK P 42) (.node (hdo189 P) (.nil) (.nil)) (.nil)) (.node (hdK P 60) (.nil) (.nil)))) (.node (hdK P 7) (.node (hdK P 14) (.node (hdo115 P) (.node (hdK P 77) (.nil) (.nil)) (.nil)) (.node (hdo149 P) (.nil) (.nil))) (.node (hdK P 25) (.node (hdo131 P) (.nil) (.nil)) (.node (hdK P 66) (.nil) (.nil)))))) (.node (boot_o_6 P) (.node (boot_o_10 P) (.node (hdo55 P) (.node (hdo71 P) (.node (hdo105 P) (.node (hdK P 70) (.nil) (.nil)) (.nil)) (.node (hdK P 52) (.nil) (.nil))) (.node (hdK P 18) (.node (hdK P 41) (.node (hdK P 83) (.nil) (.nil)) (.nil)) (.node (hdK P 59) (.nil) (.nil)))) (.node (hdo63 P) (.node (hdo81 P) (.node (hdK P 35) (.node (hdK P 76) (.nil) (.nil)) (.nil)) (.node (hdo147 P) (.nil) (.nil))) (.node (hdK P 24) (.node (hdK P 48) (.nil) (.nil)) (.node (hdo163 P) (.nil) (.nil))))) (.node (hdo46 P) (.node (hdK P 3) (.node (hdo77 P) (.node (hdK P 32) (.node (hdK P 73) (.nil) (.nil)) (.nil)) (.node (hdo143 P) (.nil) (.nil))) (.node (hdK P 21) (.node (hdK P 44) (.nil) (.nil)) (.node (hdo159 P) (.nil) (.nil)))) (.node (hdK P 9) (.node (hdK P 15) (.node (hdK P 38) (.node (hdK P 79) (.nil) (.nil)) (.nil)) (.node (hdK P 56) (.nil) (.nil))) (.node (hdo101 P) (.node (hdo135 P) (.nil) (.nil)) (.node (hdK P 67) (.nil) (.nil)))))))
noncomputable def hdT4 (P : Params) : BT := .node (boot_o_0 P) (.node (boot_o_1 P) (.node (hdK P 1) (.node (boot_o_7 P) (.node (hdK P 2) (.node (hdK P 10) (.node (hdK P 27) (.node (hdK P 68) (.nil) (.nil)) (.node (hdK P 114) (.nil) (.nil))) (.node (hdK P 50) (.node (hdK P 91) (.nil) (.nil)) (.nil))) (.node (hdK P 16) (.node (hdK P 39) (.node (hdK P 80) (.nil) (.nil)) (.nil)) (.node (hdo152 P) (.node (hdK P 102) (.nil) (.nil)) (.nil)))) (.node (hdo60 P) (.node (hdo78 P) (.node (hdK P 33) (.node (hdK P 74) (.nil) (.nil)) (.node (hdo242 P) (.nil) (.nil))) (.node (hdo144 P) (.node (hdo210 P) (.nil) (.nil)) (.nil))) (.node (hdo94 P) (.node (hdK P 45) (.node (hdK P 85) (.nil) (.nil)) (.nil)) (.node (hdK P 62) (.node (hdK P 108) (.nil) (.nil)) (.nil))))) (.node (hdo43 P) (.node (hdo56 P) (.node (hdK P 12) (.node (hdK P 30) (.node (hdK P 71) (.nil) (.nil)) (.node (hdo238 P) (.nil) (.nil))) (.node (hdK P 53) (.node (hdK P 94) (.nil) (.nil)) (.nil))) (.node (hdK P 19) (.node (hdo122 P) (.node (hdo188 P) (.nil) (.nil)) (.nil)) (.node (hdo156 P) (.node (hdK P 105) (.nil) (.nil)) (.nil)))) (.node (hdK P 6) (.node (hdo82 P) (.node (hdK P 36) (.node (hdo180 P) (.nil) (.nil)) (.node (hdK P 122) (.nil) (.nil))) (.node (hdK P 54) (.node (hdo214 P) (.nil) (.nil)) (.nil))) (.node (hdo98 P) (.node (hdo130 P) (.node (hdK P 88) (.nil) (.nil)) (.nil)) (.node (hdK P 65) (.node (hdK P 111) (.nil) (.nil)) (.nil)))))) (.node (boot_o_5 P) (.node (boot_o_9 P) (.node (hdo54 P) (.node (hdo70 P) (.node (hdK P 29) (.node (hdo170 P) (.nil) (.nil)) (.node (hdK P 115) (.nil) (.nil))) (.node (hdo138 P) (.node (hdK P 92) (.nil) (.nil)) (.nil))) (.node (hdK P 17) (.node (hdK P 40) (.node (hdK P 82) (.nil) (.nil)) (.nil)) (.node (hdK P 58) (.node (hdK P 104) (.nil) (.nil)) (.nil)))) (.node (hdK P 5) (.node (hdo80 P) (.node (hdo112 P) (.node (hdK P 75) (.nil) (.nil)) (.node (hdK P 121) (.nil) (.nil))) (.node (hdo146 P) (.node (hdK P 98) (.nil) (.nil)) (.nil))) (.node (hdK P 23) (.node (hdK P 47) (.node (hdo196 P) (.nil) (.nil)) (.nil)) (.node (hdK P 64) (.node (hdo228 P) (.nil) (.nil)) (.nil))))) (.node (hdo45 P) (.node (hdo58 P) (.node (hdo76 P) (.node (hdo108 P) (.node (hdK P 72) (.nil) (.nil)) (.node (hdK P 118) (.nil) (.nil))) (.node (hdo142 P) (.node (hdK P 95) (.nil) (.nil)) (.nil))) (.node (hdK P 20) (.node (hdK P 43) (.node (hdK P 84) (.nil) (.nil)) (.nil)) (.node (hdK P 61) (.node (hdo224 P) (.nil) (.nil)) (.nil)))) (.node (hdK P 8) (.node (hdo84 P) (.node (hdK P 37) (.node (hdK P 78) (.nil) (.nil)) (.nil)) (.node (hdK P 55) (.node (hdK P 101) (.nil) (.nil)) (.nil))) (.node (hdK P 26) (.node (hdK P 49) (.node (hdo200 P) (.nil) (.nil)) (.nil)) (.node (hdo166 P) (.node (hdK P 112) (.nil) (.nil)) (.nil))))))) (.node (hdK P 0) (.node (boot_o_4 P) (.node (boot_o_8 P) (.node (hdo53 P) (.node (hdK P 11) (.node (hdK P 28) (.node (hdK P 69) (.nil) (.nil)) (.node (hdo235 P) (.nil) (.nil))) (.node (hdK P 51) (.node (hdo203 P) (.nil) (.nil)) (.nil))) (.node (hdo87 P) (.node (hdo119 P) (.node (hdK P 81) (.nil) (.nil)) (.nil)) (.node (hdK P 57) (.node (hdK P 103) (.nil) (.nil)) (.nil)))) (.node (hdK P 4) (.node (hdo79 P) (.node (hdK P 34) (.node (hdo177 P) (.nil) (.nil)) (.node (hdK P 120) (.nil) (.nil))) (.node (hdo145 P) (.node (hdK P 97) (.nil) (.nil)) (.nil))) (.node (hdK P 22) (.node (hdK P 46) (.node (hdK P 86) (.nil) (.nil)) (.nil)) (.node (hdK P 63) (.node (hdK P 109) (.nil) (.nil)) (.nil))))) (.node (hdo191 P) (.node (hdo57 P) (.node (hdK P 13) (.node (hdK P 31) (.node (hdo173 P) (.nil) (.nil)) (.node (hdK P 117) (.nil) (.nil))) (.node (hdo141 P) (.node (hdo207 P) (.nil) (.nil)) (.nil))) (.node (hdo91 P) (.node (hdK P 42) (.node (hdo189 P) (.nil) (.nil)) (.nil)) (.node (hdK P 60) (.node (hdK P 106) (.nil) (.nil)) (.nil)))) (.node (hdK P 7) (.node (hdK P 14) (.node (hdo115 P) (.node (hdK P 77) (.nil) (.nil)) (.node (hdK P 123) (.nil) (.nil))) (.node (hdo149 P) (.node (hdK P 100) (.nil) (.nil)) (.nil))) (.node (hdK P 25) (.node (hdo131 P) (.node (hdK P 89) (.nil) (.nil)) (.nil)) (.node (hdK P 66) (.node (hdo231 P) (.nil) (.nil)) (.nil)))))) (.node (boot_o_6 P) (.node (boot_o_10 P) (.node (hdo55 P) (.node (hdo71 P) (.node (hdo105 P) (.node (hdK P 70) (.nil) (.nil)) (.node (hdK P 116) (.nil) (.nil))) (.node (hdK P 52) (.node (hdK P 93) (.nil) (.nil)) (.nil))) (.node (hdK P 18) (.node (hdK P 41) (.node (hdK P 83) (.nil) (.nil)) (.nil)) (.node (hdK P 59) (.node (hdo221 P) (.nil) (.nil)) (.nil)))) (.node (hdo63 P) (.node (hdo81 P) (.node (hdK P 35) (.node (hdK P 76) (.nil) (.nil)) (.node (hdo245 P) (.nil) (.nil))) (.node (hdo147 P) (.node (hdK P 99) (.nil) (.nil)) (.nil))) (.node (hdK P 24) (.node (hdK P 48) (.node (hdK P 87) (.nil) (.nil)) (.nil)) (.node (hdo163 P) (.node (hdK P 110) (.nil) (.nil)) (.nil))))) (.node (hdo46 P) (.node (hdK P 3) (.node (hdo77 P) (.node (hdK P 32) (.node (hdK P 73) (.nil) (.nil)) (.node (hdK P 119) (.nil) (.nil))) (.node (hdo143 P) (.node (hdK P 96) (.nil) (.nil)) (.nil))) (.node (hdK P 21) (.node (hdK P 44) (.node (hdo193 P) (.nil) (.nil)) (.nil)) (.node (hdo159 P) (.node (hdK P 107) (.nil) (.nil)) (.nil)))) (.node (hdK P 9) (.node (hdK P 15) (.node (hdK P 38) (.node (hdK P 79) (.nil) (.nil)) (.nil)) (.node (hdK P 56) (.node (hdo217 P) (.nil) (.nil)) (.nil))) (.node (hdo101 P) (.node (hdo135 P) (.node (hdK P 90) (.nil) (.nil)) (.nil)) (.node (hdK P 67) (.node (hdK P 113) (.nil) (.nil)) (.nil)))))))
noncomputable def hdH0 (P : Params) : Heap := ⟨⟨[boot_o_0 P, boot_o_1 P, boot_o_2 P, boot_o_3 P, boot_o_4 P, boot_o_5 P, boot_o_6 P, boot_o_7 P, boot_o_8 P, boot_o_9 P, boot_o_10 P, hdo43 P, hdo44 P, hdo45 P, hdo46 P]⟩, {}⟩
noncomputable def hdH1 (P : Params) : Heap := ⟨⟨boot_o_0 P :: boot_o_1 P :: hdK P 0 :: hdK P 1 :: boot_o_4 P :: boot_o_5 P :: boot_o_6 P :: boot_o_7 P :: boot_o_8 P :: boot_o_9 P :: boot_o_10 P :: hdo43 P :: hdo191 P :: hdo45 P :: hdo46 P :: hdK P 2 :: hdo53 P :: hdo54 P :: hdo55 P :: hdo56 P :: hdo57 P :: hdo58 P :: hdK P 3 :: hdo60 P :: hdK P 4 :: hdK P 5 :: hdo63 P :: hdK P 6 :: hdK P 7 :: hdK P 8 :: hdK P 9 :: hdK P 10 :: hdK P 11 :: hdo70 P :: hdo71 P :: hdK P 12 :: hdK P 13 :: hdo76 P :: hdo77 P :: hdo78 P :: hdo79 P :: hdo80 P :: hdo81 P :: hdo82 P :: hdK P 14 :: hdo84 P :: hdK P 15 :: hdK P 16 :: hdo87 P :: hdK P 17 :: hdK P 18 :: hdK P 19 :: hdo91 P :: hdK P 20 :: hdK P 21 :: hdo94 P :: hdK P 22 :: hdK P 23 :: hdK P 24 :: hdo98 P :: hdK P 25 :: hdK P 26 :: hdo101 P :: hdK P 27 :: hdK P 28 :: hdK P 29 :: hdo105 P :: hdK P 30 :: hdK P 31 :: hdo108 P :: hdK P 32 :: hdK P 33 :: hdK P 34 :: hdo112 P :: hdK P 35 :: hdK P 36 :: hdo115 P :: hdK P 37 :: hdK P 38 :: hdK P 39 :: hdo119 P :: hdK P 40 :: hdK P 41 :: hdo122 P :: hdK P 42 :: hdK P 43 :: hdK P 44 :: hdK P 45 :: hdK P 46 :: hdK P 47 :: hdK P 48 :: hdo130 P :: hdo131 P :: hdK P 49 :: hdo135 P :: hdK P 50 :: hdK P 51 :: hdo138 P :: hdK P 52 :: hdK P 53 :: hdo141 P :: hdo142 P :: hdo143 P :: hdo144 P :: hdo145 P :: hdo146 P :: hdo147 P :: hdK P 54 :: hdo149 P :: hdK P 55 :: hdK P 56 :: hdo152 P :: hdK P 57 :: hdK P 58 :: hdK P 59 :: hdo156 P :: hdK P 60 :: hdK P 61 :: hdo159 P :: hdK P 62 :: hdK P 63 :: hdK P 64 :: hdo163 P :: hdK P 65 :: hdK P 66 :: hdo166 P :: hdK P 67 :: hdK P 68 :: hdK P 69 :: hdo170 P :: hdK P 70 :: hdK P 71 :: hdo173 P :: hdK P 72 :: hdK P 73 :: hdK P 74 :: hdo177 P :: hdK P 75 :: hdK P 76 :: hdo180 P :: hdK P 77 :: hdK P 78 :: hdK P 79 :: hdK P 80 :: hdK P 81 :: hdK P 82 :: hdK P 83 :: hdo188 P :: hdo189 P :: hdK P 84 :: hdo193 P :: hdK P 85 :: hdK P 86 :: hdo196 P :: hdK P 87 :: hdK P 88 :: hdK P 89 :: hdo200 P :: hdK P 90 :: hdK P 91 :: hdo203 P :: hdK P 92 :: hdK P 93 :: hdK P 94 :: hdo207 P :: hdK P 95 :: hdK P 96 :: hdo210 P :: hdK P 97 :: hdK P 98 :: hdK P 99 :: hdo214 P :: hdK P 100 :: hdK P 101 :: hdo217 P :: hdK P 102 :: hdK P 103 :: hdK P 104 :: hdo221 P :: hdK P 105 :: hdK P 106 :: hdo224 P :: hdK P 107 :: hdK P 108 :: hdK P 109 :: hdo228 P :: hdK P 110 :: hdK P 111 :: hdo231 P :: hdK P 112 :: hdK P 113 :: hdK P 114 :: hdo235 P :: hdK P 115 :: hdK P 116 :: hdo238 P :: hdK P 117 :: hdK P 118 :: hdK P 119 :: hdo242 P :: hdK P 120 :: hdK P 121 :: hdo245 P :: hdK P 122 :: hdK P 123 :: []⟩, {}⟩
noncomputable abbrev hdS0 (w : World) (os : OsState) : SharedT := ⟨hdT0 w.params, 15, {}, #[], {}, 187, os⟩
noncomputable abbrev hdS1 (w : World) (os : OsState) : SharedT := ⟨hdT1 w.params, 37, {}, #[], {}, 241, os⟩
noncomputable abbrev hdS2 (w : World) (os : OsState) : SharedT := ⟨hdT2 w.params, 93, {}, #[], {}, 319, os⟩
noncomputable abbrev hdS3 (w : World) (os : OsState) : SharedT := ⟨hdT3 w.params, 149, {}, #[], {}, 393, os⟩
noncomputable abbrev hdS4 (w : World) (os : OsState) : SharedT := ⟨hdT4 w.params, 205, {}, #[], {}, 485, os⟩
noncomputable def hdL0 : List Stmt := (hdB.drop 0).take 9
noncomputable def hdL1 : List Stmt := (hdB.drop 9).take 1
noncomputable def hdL2 : List Stmt := (hdB.drop 10).take 3
noncomputable def hdL3 : List Stmt := (hdB.drop 13).take 8
theorem hd_pre (w : World) (os : OsState) : topGo treeTable hdP w 11 (some (.ref 6)) 12 ⟨boot_heap w.params, #[], boot_drawn, boot_toks, os⟩ (topStub hdP) =
    some (⟨hdH0 w.params, #[], {}, 187, os⟩, ⟨denote treeTable hdC, hdC, ⟨0, 0, 0, 0⟩, hdF⟩) := by kernel_rfl
theorem hd_block (w : World) (os : OsState) : segRun treeTable hdP w 11 (some (.ref 6)) 1 1 ⟨hdH0 w.params, #[], {}, 187, os⟩ (blockOf hdB hdE hdC ⟨0, 0, 0, 0⟩ hdF) =
    some (.next, (hdS0 w os).abs, hdC, ⟨0, 0, 0, 0⟩) := by kernel_rfl
theorem hd_run0 (w : World) (os : OsState) : segRunT treeTable hdP w 11 (some (.ref 6)) 1 314 (hdS0 w os) (piecesOf hdL0 hdE hdC ⟨0, 0, 0, 0⟩ hdF) =
    some (.next, hdS1 w os, hdC, ⟨14, 0, 14, 10⟩) := by
  rw [PySem.W.Fast.te10110043849684766642, PySem.W.Fast.te14364793385576792824]
  kernel_rfl
theorem hd_run1 (w : World) (os : OsState) : segRunT treeTable hdP w 11 (some (.ref 6)) 1 392 (hdS1 w os) (piecesOf hdL1 hdE hdC ⟨14, 0, 14, 10⟩ hdF) =
    some (.next, hdS2 w os, hdC, ⟨15, 0, 60, 61⟩) := by
  rw [PySem.W.Fast.te10110043849684766642, PySem.W.Fast.te14364793385576792824]
  kernel_rfl
theorem hd_run2 (w : World) (os : OsState) : segRunT treeTable hdP w 11 (some (.ref 6)) 1 393 (hdS2 w os) (piecesOf hdL2 hdE hdC ⟨15, 0, 60, 61⟩ hdF) =
    some (.next, hdS3 w os, hdC, ⟨105, 0, 105, 8⟩) := by
  rw [PySem.W.Fast.te10110043849684766642, PySem.W.Fast.te14364793385576792824]
  kernel_rfl
theorem hd_run3 (w : World) (os : OsState) : segRunT treeTable hdP w 11 (some (.ref 6)) 1 269 (hdS3 w os) (piecesOf hdL3 hdE hdC ⟨105, 0, 105, 8⟩ hdF) =
    some (.next, hdS4 w os, hdC, ⟨201, 0, 203, 62⟩) := by
  rw [PySem.W.Fast.te10110043849684766642, PySem.W.Fast.te14364793385576792824]
  kernel_rfl
theorem hd_fin (w : World) (os : OsState) : topRun treeTable hdP w 11 (some (.ref 6)) 2 (hdS4 w os).abs ⟨doneF .next, hdC, ⟨201, 0, 203, 62⟩, hdF⟩ =
    some ⟨hdH1 w.params, #[], {}, 485, os⟩ := by kernel_rfl
theorem hd_body : hdL0 ++ (hdL1 ++ (hdL2 ++ (hdL3 ++ []))) = hdB := by kernel_rfl
abbrev hdM : Nat := Nat.add 12 (Nat.add 1 (Nat.add 314 (Nat.add 392 (Nat.add 393 (Nat.add 269 2)))))
theorem hd_run (w : World) (os : OsState) : topRun treeTable hdP w 11 (some (.ref 6)) hdM ⟨boot_heap w.params, #[], boot_drawn, boot_toks, os⟩ (topStub hdP) =
    some ⟨hdH1 w.params, #[], {}, 485, os⟩ := by
  refine go_top (hd_pre w os) (piece_block (env := hdE) (hd_block w os) ?_)
  have h := piece_app (segRun_of (hd_run0 w os)) (piece_app (segRun_of (hd_run1 w os)) (piece_app (segRun_of (hd_run2 w os)) (piece_app (segRun_of (hd_run3 w os)) (piece_nil (hd_fin w os)))))
  rw [hd_body] at h
  exact h
theorem hd_size (w : World) : ((boot_heap w.params).isNs mainGlobals && (#[] : Array GenState).size == 0, (boot_heap w.params).objs.size, (boot_heap w.params).nsMap mainGlobals "__annotations__") = (true, 11, some (.ref 6)) := by kernel_rfl
theorem hd_look1 (w : World) (os : OsState) : (staticsOk (importedModules hdP.main.body) (boot_heap w.params) (hdH1 w.params) && namesBound hdP (hdH1 w.params) && gensDone ⟨hdH1 w.params, #[], {}, 485, os⟩ && laidKept (boot_heap w.params) (hdH1 w.params)) = true := by kernel_rfl
theorem hd_look2 (w : World) (os : OsState) : openSeen hd.view_39 [] (importedModules hdP.main.body) (fun s => xlAt hd.view_39 [] s && recOk PySem.Challenge.rw_no0067_01.row.records s) true ⟨hdH1 w.params, #[], {}, 485, os⟩ = openGood hd.view_39 [] := by
  rw [PySem.W.Fast.te4187177175401517315]
  kernel_rfl
theorem hd_look3 (w : World) (os : OsState) : hd.hook.obs ⟨hdH1 w.params, #[], {}, 485, os⟩ = hd.hook.val w := by kernel_rfl
theorem hd_opening : opening hdP = plainProg hdP.main.scope.names := by kernel_rfl
theorem hd_fence (s : Shared) : fenceModules? hdP s = some s := by kernel_rfl
theorem hd_left : LeftO PySem.Challenge.rw_no0067_01.row.toRowW.1 hd.view_39 [] (fun s => xlAt hd.view_39 [] s && recOk PySem.Challenge.rw_no0067_01.row.records s) hd.hook.obs hd.hook.val 2854 :=
  LeftO.of_pieces (H₁ := hdH1) (boot_open hd_opening (by decide) hd_fence) hd_size hd_run (by decide) fun w => funext fun os => looks_pair (hd_look1 w os) (looks_pair (hd_look2 w os) (hd_look3 w os))
theorem hd_said : OpenLaw.wellSaid PySem.Challenge.rw_no0067_01 = true := by
  rw [PySem.W.Fast.te9446332074065402090]
  delta PySem.W.Fast.tw9446332074065402090
  repeat' (with_reducible refine look_both ?_ ?_)
  all_goals (try delta PySem.W.Fast.tw17960256430627541270)
  repeat' (with_reducible refine look_both ?_ ?_)
  all_goals (try delta PySem.W.Fast.tw2436336058641802641)
  repeat' (with_reducible refine look_both ?_ ?_)
  all_goals (try delta PySem.W.Fast.tw12908688711261696721)
  repeat' (with_reducible refine look_both ?_ ?_)
  all_goals (as_aux_lemma => kernel_rfl)
end HP
section X1
abbrev VTok := Tok
abbrev VAddr := Addr
theorem ns_some_of {K : Frag} {h : Heap} {N : Addr} {mg : Str → Option Value} {n : Str} {v : Value} (X : K.In h) (G : h.Ns N mg) (e : nsIn K N n = some (some v)) : mg n = some v := by
  obtain ⟨o, es, ep, ho, hd, _, hf⟩ := G
  unfold nsIn at e
  split at e
  · rename_i c d es' n' sl q
    have z := X _ _ q
    rw [ho] at z
    cases z
    cases hd
    split at e
    · rename_i en he
      cases e
      rw [← hf]
      unfold nsFind findBy
      rw [← Array.find?_toList, he]
      rfl
    · split at e <;> cases e
  · cases e
abbrev h3Cls : Obj := excClassObj (Str.ofString "H3Error") (Str.ofString "H3Error") 31 30 [.type "Exception"] [.type "Exception", .type "BaseException", .type "object"] true [] [] false none none (some (.ref 15)) none (some (.str (Str.ofString "H3Error") 189)) (some (.str (Str.ofString "H3Error") 197)) (some (.bool true)) "Exception.__new__"
theorem h3_at {P : Params} {h : Heap} (X : (Mine.hd.heap_39 P).In h) : h.get? 31 = some h3Cls := X _ _ rfl
theorem h3_ns {P : Params} {h : Heap} (X : (Mine.hd.heap_39 P).In h) : ∃ mN, h.Ns 30 mN ∧ mN "__init__" = some (.ref 28) ∧ mN "__setattr__" = none ∧ mN "code" = none ∧ mN "text" = none ∧ mN "__getattribute__" = none ∧ mN "__getattr__" = none := by
  have G : h.Ns 30 (h.nsMap 30) := .of_isNs (isNs_of_in X (by kernel_rfl))
  exact ⟨_, G, ns_some_of X G (by k_is), ns_none_of X G (by k_is), ns_none_of X G (by k_is), ns_none_of X G (by k_is), ns_none_of X G (by k_is), ns_none_of X G (by k_is)⟩
theorem h3_fn {P : Params} {h : Heap} (X : (Mine.hd.heap_39 P).In h) : ∃ o, h.get? 28 = some o ∧ o.cls = .type "function" := ⟨_, X _ _ rfl, rfl⟩
end X1
section X2
open PySem.Builtin PySem.Builtin.ObjectAttr
abbrev excRaw (C t : Addr) (d : Option Addr) : Obj := { cls := .ref C, dict := d, data := .fields #[.ref t, .none, .none, .none, .bool false, .none] }
theorem news_made {h₀ h h' : Heap} {L e : Addr} {m : Str → Option Value} {news : List (Addr × Obj)} {C : Addr} {args : List Value} (F : Fr h₀ L h m) (N : News h₀ L h news) (x : Heap.MadeExcOf h h' e (.ref C) args) :
    ∃ t, News h₀ L h' ((e, excRaw C t none) :: (t, { cls := .type "tuple", data := .seq args.toArray }) :: news) ∧ h.get? e = none ∧ h.get? t = none := by
  obtain ⟨t, he, ht, htt⟩ := x.there
  have fresh : ∀ b, h.get? b = none → b ≠ L ∧ h₀.get? b = none := fun b hb => by
    constructor
    · intro q
      obtain ⟨o, _, _, ho, _⟩ := F.ns
      rw [q, ho] at hb
      cases hb
    · cases q : h₀.get? b with
      | none => rfl
      | some o => rw [F.keep _ _ q] at hb; cases hb
  refine ⟨t, ?_, x.new, ht⟩
  intro p hp
  rcases List.mem_cons.mp hp with rfl | hp
  · exact ⟨he, fresh _ x.new⟩
  · rcases List.mem_cons.mp hp with rfl | hp
    · exact ⟨htt, fresh _ ht⟩
    · exact ⟨x.keeps _ _ (N p hp).1, (N p hp).2⟩
section
variable {prog : Program} {w : World} {A : Around} {E : Value → Shared → Prop} {s : Shared} {h₀ : Heap} {L e t0 dx : Addr} {m : Str → Option Value} {rest : List (Addr × Obj)} {v : Value} {name : Str}
theorem exc_init_h3 {Q : Value → Shared → Prop} (F : Fr h₀ L s.heap m) (X : (Mine.hd.heap_39 w.params).In h₀) (N : News h₀ L s.heap ((e, excRaw 31 t0 none) :: rest)) (hne : ∀ p ∈ rest, p.1 ≠ e)
    (h : ∀ t1 h', Fr h₀ L h' m → News h₀ L h' ((e, excRaw 31 t1 none) :: (t1, { cls := .type "tuple", data := .seq #[v] }) :: rest) → (∀ p ∈ rest, p.1 < t1) → e < t1 → Q .none { s with heap := h' }) :
    wpAny (model prog w) A (call (.builtin "Exception.__init__") [.ref e, v]) Q E s := by
  obtain ⟨hh, gg, dd, tk, os⟩ := s
  have XS := X.keeps F.keep
  have he := (N _ (.head _)).1
  have f := PySem.F.excBase_Exception.toExcCallFacts
  refine wpAny_call (codeAny_call_builtin f.init.plain f.initEntry (wpAny_check_init_sub PySem.F.excBase_Exception (h3_at XS) he rfl ?_))
  unfold Builtin.«BaseException.__init__»
  dsimp only
  rw [if_neg (by simp)]
  unfold newTuple Builtin.BaseException.bexcPut
  have N1 := News.push F N { cls := .type "tuple", data := .seq #[v] }
  have F1 := F.push { cls := .type "tuple", data := .seq #[v] }
  have he₁ := (N1 _ (.tail _ (.head _))).1
  have lt : ∀ p ∈ (e, excRaw 31 t0 none) :: rest, p.1 < hh.objs.size := fun p hp => Heap.lt_size (N p hp).1
  refine wpAny_bind (wpAny_newObj_type (wpAny_bind (wpAny_bind (wpAny_field he₁ rfl rfl (wpAny_bind (wpAny_setField he₁ rfl (Nat.zero_lt_succ _) ?_))))) (by show [v].toArray.size ≤ sizeLine; rw [List.size_toArray, sizeLine_eq, List.length_cons, List.length_nil]; omega))
  refine wpAny_letGo (wpAny_pure ?_)
  have U := news_upd (pre := [(hh.objs.size, ({ cls := .type "tuple", data := .seq #[v] } : Obj))]) (d := e) (o := excRaw 31 t0 none) (o' := excRaw 31 hh.objs.size none) (post := rest) (f := Obj.mapFields (·.setIfInBounds 0 (Value.ref hh.objs.size))) F1 N1
    (fun p hp => by rw [List.mem_singleton.mp hp]; exact Nat.ne_of_gt (lt _ (.head _))) hne rfl rfl
  refine h hh.objs.size _ U.1 (fun p hp => U.2 p ?_) (fun p hp => lt p (.tail _ hp)) (lt _ (.head _))
  rcases List.mem_cons.mp hp with rfl | hp
  · exact .tail _ (.head _)
  · rcases List.mem_cons.mp hp with rfl | hp
    · exact .head _
    · exact .tail _ (.tail _ hp)
theorem inst_h3 {h : Heap} {ox : Obj} {od : Option Obj} (hx : h.get? e = some ox) (hc : ox.cls = .ref 31) (hn : notCls ox = true) (hd : match ox.dict, od with | some dx, some o => h.get? dx = some o | none, none => True | _, _ => False) : W.InstAt h e ox 31 od := ⟨hx, hc, hn, hd⟩
theorem osa_open31 {ox : Obj} {od : Option Obj} {tk : Tok} {R : Result → Shared → Prop} (X : (Mine.hd.heap_39 w.params).In s.heap) (I : W.InstAt s.heap e ox 31 od) (ha : findIn (Mine.hd.heap_39 w.params) (.ref 31) name = some none)
    (h : wpAny (model prog w) A.in1 (storeInOwnDict (.ref e) (.ref 31) (.str name tk) name v false)
      (fun fin s' => match fin with | .done f => R (.ok f) s' | .again c' => c'.quiet = true ∧ codeAny (model prog w) A c' R s') (fun e s' => R (.error e) s') s) :
    codeAny (model prog w) A (.call (.builtin "object.__setattr__") ⟨[.ref e, .str name tk, v], []⟩) R s := by
  have SF := PySem.F.store_object
  have hc : ∃ cd, clsIn (Mine.hd.heap_39 w.params) 31 = some cd ∧ cd.mro = [.ref 31, .type "Exception", .type "BaseException", .type "object"] := ⟨_, rfl, rfl⟩
  obtain ⟨cd, hc, hmro⟩ := hc
  have sub : Looks (model prog w) s.heap (isInstance (.ref e) (.type "object")) true := I.type.andThen (looks_mroIn X (by unfold mroIn; rw [hc, Option.bind_some, hmro]; rfl))
  refine codeAny_call_builtin SF.slot.plain SF.entry (@check_slot (model prog w) _ _ s "object.__setattr__" "object" "__setattr__" (.ref e) [.str name tk, v] [] _ SF.kind SF.split sub (SF.args (.ref e) (.str name tk) v) ?_)
  have hm : Looks (model prog w) s.heap (mroOf (.ref 31)) cd.mro := (looks_clsIn X hc).andThen .now
  have L3 : Looks (model prog w) s.heap (storeTaker? none) none := .now
  rw [osa_eq, refuse_eq]
  refine wpAny_bind (wpAny_bind (I.type.here (wpAny_bind (hm.here ?_))))
  rw [hmro, refuseLoop_ref, PySem.F.store_Exception.passes]
  refine wpAny_pure (wpAny_bind (I.type.here (wpAny_bind ((looks_findIn X ha).here (wpAny_bind (L3.here ?_))))))
  exact h

theorem storeIn31 {eo : Obj} {es es' : List DictEntry} {n n' : Nat} {tk : Tok} {Q : Fin → Shared → Prop} (F : Fr h₀ L s.heap m) (N : News h₀ L s.heap ((e, eo) :: (dx, dictOf es n) :: rest)) (h1 : e ≠ dx) (h2 : ∀ p ∈ rest, p.1 ≠ dx)
    (hl : (getL name es).isSome = true) (he : (putL name (PyData.keyHash w.params name) (.str name s.toks) v es, putN name es n) = (es', n')) (hz : es'.length ≤ 1000)
    (h : ∀ h', Fr h₀ L h' m → News h₀ L h' ((e, eo) :: (dx, dictOf es' n') :: rest) → Q (.done (.ret .none)) { s with heap := h', toks := s.toks + 1 }) :
    wpAny (model prog w) A (storeInDict dx (.str name tk) name v) Q E s := by
  obtain ⟨e1, e2⟩ := Prod.mk.inj he
  have e3 : Obj.putName name (PyData.keyHash w.params name) (.str name s.toks) v (dictOf es n) = dictOf es' n' := by rw [putName_dict, e1, e2]
  obtain ⟨U1, U2⟩ := news_upd (pre := [(e, eo)]) (d := dx) (o := dictOf es n) (o' := dictOf es' n') (post := rest) (f := Obj.putName name (PyData.keyHash w.params name) (.str name s.toks) v) F N
    (fun p hp => by rw [List.mem_singleton.mp hp]; exact h1) h2 e3 rfl
  have D := (N (dx, dictOf es n) (.tail _ (.head _))).1
  have D' := (U2 (dx, dictOf es' n') (.tail _ (.head _))).1
  unfold storeInDict
  refine wpAny_bind (wpAny_pure (wpAny_bind ?_))
  unfold nsSet
  refine wpAny_bind (wpAny_bind (wpAny_askSetting (wpAny_pure (wpAny_bind (wpAny_mkText (wpAny_bind (wpAny_loadPart D ?_)))))))
  dsimp only
  have c : (!es.toArray.any (·.key.isStr name) && es.toArray.any (·.refKey)) = false := by
    rw [← Array.any_toList, ← Array.any_toList]
    unfold getL at hl
    split at hl
    · rename_i en hen
      rw [List.any_eq_true.mpr ⟨en, List.mem_of_find?_eq_some hen, List.find?_some hen⟩]; rfl
    · split at hl
      · cases hl
      · rename_i z; rw [Bool.not_eq_true] at z; rw [z, Bool.and_false]
  rw [aRefKeyMayBeTheName_at, c]
  refine wpAny_updatePart D ?_
  refine wpAny_bind (wpAny_lookBehind D' (pastItsLine_dict (by rw [List.size_toArray, sizeLine_eq]; omega)) ?_)
  exact wpAny_pure (h _ U1 U2)
theorem set31_first {Q : Unit → Shared → Prop} (F : Fr h₀ L s.heap m) (X : (Mine.hd.heap_39 w.params).In h₀) (N : News h₀ L s.heap ((e, excRaw 31 t0 none) :: rest)) (hne : ∀ p ∈ rest, p.1 ≠ e)
    (ha : findIn (Mine.hd.heap_39 w.params) (.ref 31) name = some none)
    (h : ∀ dx h' tk, Fr h₀ L h' m → News h₀ L h' ((e, excRaw 31 t0 (some dx)) :: (dx, dictOf [⟨PyData.keyHash w.params name, .str name tk, v⟩] 1) :: rest) → (∀ p ∈ rest, p.1 ≠ dx) → e ≠ dx → Q () { s with heap := h', toks := s.toks + 2 }) :
    wpAny (model prog w) A (setAttr (.ref e) name v) Q E s := by
  obtain ⟨hh, gg, dd, tk, os⟩ := s
  have XS : (Mine.hd.heap_39 w.params).In hh := X.keeps F.keep
  have he := (N _ (.head _)).1
  have I : W.InstAt hh e (excRaw 31 t0 none) 31 none := inst_h3 he rfl rfl trivial
  refine set_plain XS I (by k_is) (osa_open31 (s := ⟨hh, gg, dd, tk + 1, os⟩) XS I ha ?_)
  have hc : ∃ cd, clsIn (Mine.hd.heap_39 w.params) 31 = some cd ∧ cd.hasDict = true := ⟨_, rfl, rfl⟩
  obtain ⟨cd, hc, hd'⟩ := hc
  refine wpAny_bind (wpAny_pure (wpAny_bind (wpAny_bind (wpAny_loadPart he (wpAny_bind ((looks_clsIn XS hc).at ?_))))))
  rw [hd']
  have N1 := News.push F N { cls := .type "dict", data := .dict #[] }
  have F1 := F.push { cls := .type "dict", data := .dict #[] }
  have he₁ := (N1 _ (.tail _ (.head _))).1
  have lt : ∀ p ∈ (e, excRaw 31 t0 none) :: rest, p.1 < hh.objs.size := fun p hp => Heap.lt_size (N p hp).1
  have N2 : News h₀ L (hh.push { cls := .type "dict", data := .dict #[] }) ((e, excRaw 31 t0 none) :: (hh.objs.size, dictOf [] 0) :: rest) := fun p hp => by
    rcases List.mem_cons.mp hp with rfl | hp
    · exact N1 _ (.tail _ (.head _))
    · rcases List.mem_cons.mp hp with rfl | hp
      · exact N1 _ (.head _)
      · exact N1 _ (.tail _ (.tail _ hp))
  have hne' : ∀ p ∈ (hh.objs.size, dictOf [] 0) :: rest, p.1 ≠ e := fun p hp => by
    rcases List.mem_cons.mp hp with rfl | hp
    · exact Nat.ne_of_gt (lt _ (.head _))
    · exact hne p hp
  obtain ⟨U1, U2⟩ := news_upd (pre := []) (d := e) (o := excRaw 31 t0 none) (o' := excRaw 31 t0 (some hh.objs.size)) (post := (hh.objs.size, dictOf [] 0) :: rest) (f := fun o => { cls := o.cls, dict := some hh.objs.size, data := o.data, slots := o.slots }) F1 N2
    (fun p hp => nomatch hp) hne' rfl rfl
  show wpAny _ _ (alloc { cls := .type "dict", data := .dict #[] } >>= fun d => update e (fun o => { cls := o.cls, dict := some d, data := o.data, slots := o.slots }) >>= fun _ => dictMade (.ref 31) e d) _ _ _
  refine wpAny_bind (wpAny_alloc' ?_)
  refine wpAny_bind (wpAny_update' he₁ ?_)
  refine wpAny_pure ?_
  refine storeIn31 (s := ⟨_, gg, dd, tk + 1, os⟩) U1 U2 (Nat.ne_of_lt (lt _ (.head _))) (fun p hp => Nat.ne_of_lt (lt p (.tail _ hp))) rfl rfl (Nat.le_of_ble_eq_true rfl) (fun h' F' N' => ?_)
  exact h _ _ _ F' N' (fun p hp => Nat.ne_of_lt (lt p (.tail _ hp))) (Nat.ne_of_lt (lt _ (.head _)))
theorem set31_next {es es' : List DictEntry} {n n' : Nat} {Q : Unit → Shared → Prop} (F : Fr h₀ L s.heap m) (X : (Mine.hd.heap_39 w.params).In h₀) (N : News h₀ L s.heap ((e, excRaw 31 t0 (some dx)) :: (dx, dictOf es n) :: rest)) (hne : e ≠ dx) (h2 : ∀ p ∈ rest, p.1 ≠ dx)
    (ha : findIn (Mine.hd.heap_39 w.params) (.ref 31) name = some none)
    (hl : (getL name es).isSome = true) (he' : (putL name (PyData.keyHash w.params name) (.str name (s.toks + 1)) v es, putN name es n) = (es', n')) (hz : es'.length ≤ 1000)
    (h : ∀ h', Fr h₀ L h' m → News h₀ L h' ((e, excRaw 31 t0 (some dx)) :: (dx, dictOf es' n') :: rest) → Q () { s with heap := h', toks := s.toks + 2 }) :
    wpAny (model prog w) A (setAttr (.ref e) name v) Q E s := by
  obtain ⟨hh, gg, dd, tk, os⟩ := s
  have XS : (Mine.hd.heap_39 w.params).In hh := X.keeps F.keep
  have he := (N _ (.head _)).1
  have hdx := (N _ (.tail _ (.head _))).1
  have I : W.InstAt hh e (excRaw 31 t0 (some dx)) 31 (some (dictOf es n)) := inst_h3 he rfl rfl hdx
  refine set_plain XS I (by k_is) (osa_open31 (s := ⟨hh, gg, dd, tk + 1, os⟩) XS I ha ?_)
  have hc : ∃ cd, clsIn (Mine.hd.heap_39 w.params) 31 = some cd ∧ cd.hasDict = true := ⟨_, rfl, rfl⟩
  obtain ⟨cd, hc, hd'⟩ := hc
  refine wpAny_bind (wpAny_pure (wpAny_bind (wpAny_bind (wpAny_loadPart he (wpAny_bind ((looks_clsIn XS hc).at ?_))))))
  rw [hd']
  refine wpAny_pure (a := some dx) ?_
  refine storeIn31 (s := ⟨hh, gg, dd, tk + 1, os⟩) F N hne h2 hl he' hz (fun h' F' N' => ?_)
  exact h _ F' N'
end
end X2
section X3
open PySem.Builtin PySem.Builtin.ObjectAttr
section
variable {prog : Program} {w : World} {A : Around} {E : Value → Shared → Prop} {s : Shared} {h₀ : Heap} {L e t0 dx : Addr} {m : Str → Option Value} {rest : List (Addr × Obj)} {v : Value} {name : Str}
theorem get31 {ox : Obj} {es : List DictEntry} {n : Nat} {expr : Bool} {Q : Value → Shared → Prop} (XS : (Mine.hd.heap_39 w.params).In s.heap) (I : W.InstAt s.heap e ox 31 (some (dictOf es n)))
    (ha : findIn (Mine.hd.heap_39 w.params) (.ref 31) name = some none) (hl : getL name es = some (some v)) (hv : handedIn v = true) (h : Q v { s with toks := s.toks + 1 }) :
    wpAny (model prog w) A (getAttr (.ref e) name expr) Q E s := by
  obtain ⟨hh, gg, dd, tk, os⟩ := s
  have XS' : (Mine.hd.heap_39 w.params).In hh := XS
  have I' : W.InstAt hh e ox 31 (some (dictOf es n)) := I
  have L0 := I'.type (M := model prog w)
  have hga : findIn (Mine.hd.heap_39 w.params) (.ref 31) "__getattribute__" = some (some (.builtin "BaseException.__getattribute__")) := by k_is
  have hgb : findIn (Mine.hd.heap_39 w.params) (.ref 31) "__getattr__" = some none := by k_is
  have L1 := looks_findIn (M := model prog w) XS' hga
  have L2 := looks_findIn (M := model prog w) XS' hgb
  have LF := looks_find (M := model prog w) XS' I' (findObj_own (by k_is) ha (by rfl) hl)
  have FB := PySem.F.attrBase_Exception
  have hc : ∃ cd, clsIn (Mine.hd.heap_39 w.params) 31 = some cd ∧ cd.mro = [.ref 31, .type "Exception", .type "BaseException", .type "object"] := ⟨_, rfl, rfl⟩
  obtain ⟨cd, hc, hmro⟩ := hc
  have sub : Looks (model prog w) hh (isInstance (.ref e) (.type "BaseException")) true := L0.andThen (looks_mroIn XS' (by unfold mroIn; rw [hc, Option.bind_some, hmro]; rfl))
  unfold getAttr getAttrBy
  refine wpAny_bind (wpAny_mkText (wpAny_holding (wpAny_bind (L0.at (wpAny_bind (L1.at ?_))))))
  show wpAny _ _ (getAttrByItsOwn (.ref e) (.str name tk) (.ref 31) (.builtin "BaseException.__getattribute__") true expr) _ _ _
  unfold getAttrByItsOwn
  refine wpAny_bind ?_
  show wpAny _ _ (typeLookup (.ref 31) "__getattr__") _ _ _
  refine L2.at ?_
  refine wpAny_bind (wpAny_attempt (wpAny_holding ?_))
  unfold callGetattribute
  rw [if_neg (by cases expr <;> decide)]
  unfold boundAndCalled
  rw [FB.ga.bind (.ref e)]
  refine wpAny_bind (wpAny_pure ?_)
  refine wpAny_call (codeAny_call_builtin FB.ga.plain PySem.F.entry_bexc_ga (@check_slot (model prog w) _ _ ⟨hh, gg, dd, tk + 1, os⟩ "BaseException.__getattribute__" "BaseException" "__getattribute__" (.ref e) [.str name tk] [] _ (by decide +kernel) (by decide +kernel) sub (PySem.F.args_bexc_ga (.ref e) (.str name tk)) ?_))
  unfold Builtin.«object.__getattribute__»
  refine wpAny_bind (wpAny_pure (wpAny_bind (wpAny_pure (wpAny_bind (L0.at (wpAny_bind (LF.at ?_)))))))
  refine wpAny_pure ?_
  show wpAny _ _ (handedOut v) _ _ _
  rw [handedOut_of hv]
  exact wpAny_pure h
end
end X3
theorem said_X4 : True := by
  k_with_none
  k_with "k_all" => assumption
  k_with "getMethod type:Exception" => (k_here; refine' method_type ?F ?X ?m (by decide +kernel) ?e ?h ?_; (case F => k_asm); (case X => k_asm); (case m => first | rfl | kernel_rfl); (case e => k_dflt k_is); (case h => k_handed))
  k_with "call builtin:Exception.__init__" => (k_here; (with_unfolding_all refine' exc_init_h3 ?F ?X ?N ?hne ?_; (case F => k_asm); (case X => k_asm); (case N => k_asm); (case hne => k_all); k_whole); intro t1' h' F' N' l1' l2'; (try k_lt2 l2'))
  k_with "setAttr ref" => (k_here; k_dflt (first
  | (refine' set31_first ?F ?X ?N ?hne ?ha ?_; (case F => k_asm); (case X => k_asm); (case N => k_asm); (case hne => k_all); (case ha => k_is); k_whole; intro dx' h' tk' F' N' l1' l2'; (try k_lt2 l2'))
  | (refine' set31_next ?F ?X ?N ?hne ?h2 ?ha ?hl ?he ?hz ?_; (case F => k_asm); (case X => k_asm); (case N => k_asm); (case hne => first | assumption | k_ne); (case h2 => k_all); (case ha => k_is); (case hl => k_get); (case he => k_put); (case hz => exact Nat.le_of_ble_eq_true rfl); k_whole; intro h' F' N')))
  trivial
section X4
theorem news_two {h₀ h : Heap} {L : Addr} {a b c d : Addr × Obj} {news : List (Addr × Obj)} (N : News h₀ L h (a :: b :: c :: d :: news)) : News h₀ L h (a :: b :: news) := fun p hp => by
  rcases List.mem_cons.mp hp with rfl | hp
  · exact N _ (.head _)
  · rcases List.mem_cons.mp hp with rfl | hp
    · exact N _ (.tail _ (.head _))
    · exact N _ (.tail _ (.tail _ (.tail _ (.tail _ hp))))
section
variable {M : Model} {A : Around} {E : Value → Shared → Prop} {s : Shared} {env : Env}
def Raisable31 (E : Value → Shared → Prop) (v : Value) (s₁ : Shared) : Prop := ∃ e t d, v = .ref e ∧ s₁.heap.get? 31 = some h3Cls ∧ s₁.heap.get? e = some (excRaw 31 t d) ∧ E (.ref e) s₁
theorem raise31 {x : Sem Value} {Q : Flow → Shared → Prop} (hh : A.handled = none) (h : wpAny M A x (Raisable31 E) E s) : wpAny M A (raiseStmt env (some x) none) Q E s := by
  have hcB : (Value.ref 31 :: [Value.type "Exception", .type "BaseException", .type "object"]).contains (.type "BaseException") = true := by decide +kernel
  unfold raiseStmt
  refine wpAny_bind (wpAny_mono h (fun v s₁ h₁ => ?_) fun _ _ x => x)
  obtain ⟨e, t, d, rfl, hC, he, hE⟩ := h₁
  obtain ⟨hp, g, d, tk, os⟩ := s₁
  repeat (first | with_reducible refine wpAny_loadPart_at he ?_ | with_reducible refine wpAny_loadPart_at hC ?_ | (with_reducible refine wpAny_isSubtype_exc hC ?_; rw [hcB]) | wp_step)
  exact wpAny_raiseNew_none hh hE
theorem Raise_31 {e : Expr} {pos : Pos} {Q : Flow → Shared → Prop} (hh : A.handled = none)
    (h : wpAny M A (eval e env) (Raisable31 E) E s) : wpAny M A (exec (.Raise (some e) none pos) env) Q E s := by
  show wpAny M A (do standAt pos; raiseStmt env (some (do let v ← eval e env; standAt pos; pure v)) none) Q E s
  exact wpAny_bind (wpAny_standAt (raise31 hh (wpAny_bind (wpAny_mono h (fun v s₁ h₁ => wpAny_bind (wpAny_standAt (wpAny_pure h₁))) fun _ _ x => x))))
end
set_option maxHeartbeats 8000000 in
theorem h3_make {prog : Program} {w : World} {p : Program} {loose : List Str} {mean : ExcName → Option Value} {mg mb : Str → Option Value}
    {c : Int} {tc tt : Tok} {txt : Str} {news : List (Addr × Obj)}
    {dp un : Nat} {gd : Option (List Code)} {cn : Str} {cs : Scope} {a : Addr} {ccd : Value} {cl : List (Str × Addr)} {outer : List Env} {A₀ : Around} {base h₀ : Heap} {L : Addr} {m : Str → Option Value} {s : Shared} {Q E : Value → Shared → Prop}
    (B : Below A₀ base outer h₀) (F : Fr h₀ L s.heap m) (X : (Mine.hd.heap_39 w.params).In h₀)
    (N : News h₀ L s.heap news) (T : Top p loose mean mg mb h₀) (hk : cs.kind = .function) (hc0 : 0 ≤ c) (hc1 : c < 1000) (hlen : txt.length ≤ 1000)
    (hd : dp + 3 < recursionLimit) (hu : un + 28 < cLine)
    (hret : ∀ (e dx t : VAddr) (es : List DictEntry) (n : Nat) (h' : Heap) (tk' : Nat), Fr h₀ L h' m → News h₀ L h' ((e, excRaw 31 t (some dx)) :: (dx, dictOf es n) :: news) → getL "code" es = some (some (.int c tc)) →
      (∀ p ∈ news, p.1 ≠ e) → e ≠ dx → Q (.ref e) { s with heap := h', toks := tk' }) :
    wpAny (model prog w) (ktrTop dp un gd cn cs L a ccd cl outer) (call (.ref 31) [.int c tc, .str txt tt]) Q E s := by
  have XS := X.keeps F.keep
  obtain ⟨mN, hN, hni, -, -, -, -, -⟩ := h3_ns XS
  obtain ⟨oF, hoF, hoFc⟩ := h3_fn XS
  obtain ⟨hh, gg, dd, tk, os⟩ := s
  refine wpAny_call_exc_init PySem.F.excBase_Exception (h3_at XS) hN hni hoF hoFc (fun h' e hm => ?_) (by size_fits)
  obtain ⟨t0, N1, hen, htn⟩ := news_made F N hm
  have F1 := F.keeps hm.keeps
  have het : e ≠ t0 := fun q => by
    obtain ⟨t, he, _, htt⟩ := hm.there
    have z := (N1 _ (.tail _ (.head _))).1
    rw [← q, he] at z
    cases z
  have hne0 : ∀ p ∈ news, p.1 ≠ e := fun p hp q => by
    have z := (N p hp).1
    rw [q] at z
    rw [show hh.get? e = none from hen] at z
    cases z
  replace het := neN het
  clear N F hm hN hni hoF hoFc hen htn XS
  refine wpAny_call ?_
  k_dflt cell_enter
  k_steps
  rename News _ _ _ _ => nL
  exact hret _ _ _ _ _ _ _ (by assumption) (news_two nL) rfl hne0 (by assumption)
end X4
theorem said_X0 : True := by
  k_with_none
  trivial
section X0
def Calm {α : Type} : Sem α → Prop
  | .pure _ => True
  | .raise _ => True
  | .unsupported _ => True
  | .finish _ => True
  | .rule _ k => ∀ x, Calm (k x)
  | .at _ k => ∀ x, Calm (k x)
  | .load _ _ k => ∀ x, Calm (k x)
  | .update _ _ f k => (∀ o, (f o).dict = o.dict) ∧ ∀ x, Calm (k x)
  | .alloc _ k => ∀ x, Calm (k x)
  | .loadIfAlive _ k => ∀ x, Calm (k x)
  | .point _ k => ∀ x, Calm (k x)
  | .register _ _ => True
  | .fresh k => ∀ x, Calm (k x)
  | .ask k => ∀ x, Calm (k x)
  | .choose _ _ k => ∀ x, Calm (k x)
  | .os _ _ k => ∀ x, Calm (k x)
  | .call .. => False
  | .handled _ k => ∀ x, Calm (k x)
  | .newGen _ k => ∀ x, Calm (k x)
  | .genState _ k => ∀ x, Calm (k x)
  | .resume .. => False
  | .yield .. => True
  | .stack k => ∀ x, Calm (k x)
  | .fork .. => True
  | .thread k => ∀ x, Calm (k x)
  | .await .. => True
theorem calm_bind {α β : Type} {f : α → Sem β} (hf : ∀ a, Calm (f a)) : ∀ {m : Sem α}, Calm m → Calm (m.bind f) := by
  intro m
  induction m with
  | pure a => intro _; exact hf a
  | raise | unsupported | finish => intro _; exact trivial
  | rule t k ih => intro h x; exact ih x (h x)
  | «at» t k ih => intro h x; exact ih x (h x)
  | load a p k ih => intro h x; exact ih x (h x)
  | update a p g k ih => intro h; exact ⟨h.1, fun x => ih x (h.2 x)⟩
  | alloc o k ih => intro h x; exact ih x (h x)
  | loadIfAlive a k ih => intro h x; exact ih x (h x)
  | point l k ih => intro h x; exact ih x (h x)
  | register => intro _; exact trivial
  | fresh k ih => intro h x; exact ih x (h x)
  | ask k ih => intro h x; exact ih x (h x)
  | choose s n k ih => intro h x; exact ih x (h x)
  | os q l k ih => intro h x; exact ih x (h x)
  | call => intro h; exact h.elim
  | handled o k ih => intro h x; exact ih x (h x)
  | newGen c k ih => intro h x; exact ih x (h x)
  | genState g k ih => intro h x; exact ih x (h x)
  | resume => intro h; exact h.elim
  | yield => intro _; exact trivial
  | stack k ih => intro h x; exact ih x (h x)
  | fork => intro _; exact trivial
  | thread k ih => intro h x; exact ih x (h x)
  | await => intro _; exact trivial
def SameDicts (h h' : Heap) : Prop := ∀ (a : Nat) (o : Obj), h.objs[a]? = some o → ∃ o' : Obj, h'.objs[a]? = some o' ∧ o'.dict = o.dict
theorem SameDicts.refl (h : Heap) : SameDicts h h := fun _ o e => ⟨o, e, rfl⟩
theorem SameDicts.push {h₀ h : Heap} (x : SameDicts h₀ h) (o : Obj) : SameDicts h₀ (h.push o) := fun a o₁ e => by
  obtain ⟨o', h1, h2⟩ := x a o₁ e
  refine ⟨o', ?_, h2⟩
  show (h.objs.push o)[a]? = some o'
  obtain ⟨hlt, _⟩ := Array.getElem?_eq_some_iff.mp h1
  rw [Array.getElem?_push_lt hlt, ← h1]
  simp [hlt]
theorem SameDicts.update {h₀ h : Heap} (x : SameDicts h₀ h) {b : Addr} {f : Obj → Obj} (hf : ∀ o, (f o).dict = o.dict) : SameDicts h₀ (h.update b f) := fun a o₁ e => by
  obtain ⟨o', h1, h2⟩ := x a o₁ e
  by_cases q : b = a
  · subst q
    refine ⟨f o', ?_, (hf o').trans h2⟩
    show (h.objs.modify b f)[b]? = some (f o')
    rw [Array.getElem?_modify]
    simp [h1]
  · refine ⟨o', ?_, h2⟩
    show (h.objs.modify b f)[a]? = some o'
    rw [Array.getElem?_modify]
    simp [q, h1]
theorem calm_wp {α : Type} {M : Model} {Γ : Ctx} (h₀ : Heap) : ∀ (t : Sem α), Calm t → ∀ (Q : α → Pos → Shared → Prop) (E : Value → Pos → Shared → Prop) (p : Pos) (s : Shared), SameDicts h₀ s.heap → Sem.wp M Γ t Q E p s →
    Sem.wp M Γ t (fun a p' s' => Q a p' s' ∧ SameDicts h₀ s'.heap) (fun e p' s' => E e p' s' ∧ SameDicts h₀ s'.heap) p s := by
  intro t
  induction t with
  | pure a => intro _ Q E p s d h; exact ⟨h, d⟩
  | raise a => intro _ Q E p s d h; exact ⟨h, d⟩
  | unsupported => intro _ Q E p s d h; exact h
  | finish => intro _ Q E p s d h; exact h
  | rule t k ih => intro c Q E p s d h; exact ih _ (c _) Q E p s d h
  | «at» t k ih => intro c Q E p s d h; exact ih _ (c _) Q E _ s d h
  | load a p k ih => intro c Q E p s d h; obtain ⟨o, h1, h2⟩ := h; exact ⟨o, h1, ih _ (c _) Q E p s d h2⟩
  | update a pp g k ih => intro c Q E p s d h; exact ⟨h.1, ih _ (c.2 _) Q E p _ (d.update c.1) h.2⟩
  | alloc o k ih => intro c Q E p s d h; exact ih _ (c _) Q E p _ (d.push o) h
  | loadIfAlive a k ih => intro c Q E p s d h; exact ih _ (c _) Q E p s d h
  | point l k ih => intro c Q E p s d h; exact ih _ (c _) Q E p s d h
  | register => intro _ Q E p s d h; exact h
  | fresh k ih => intro c Q E p s d h; exact ih _ (c _) Q E p _ d h
  | ask k ih => intro c Q E p s d h; exact ih _ (c _) Q E p s d h
  | choose sr n k ih => intro c Q E p s d h; exact ⟨h.1, ih _ (c _) Q E p _ d h.2⟩
  | os q l k ih => intro c Q E p s d h; exact ih _ (c _) Q E p _ d h
  | call => intro c; exact c.elim
  | handled o k ih => intro c Q E p s d h; exact ih _ (c _) Q E p s d h
  | newGen cc k ih => intro c Q E p s d h; exact ih _ (c _) Q E p _ d h
  | genState g k ih => intro c Q E p s d h; obtain ⟨st, h1, h2⟩ := h; exact ⟨st, h1, ih _ (c _) Q E p s d h2⟩
  | resume => intro c; exact c.elim
  | yield => intro _ Q E p s d h; exact h
  | stack k ih => intro c Q E p s d h; exact ih _ (c _) Q E p s d h
  | fork => intro _ Q E p s d h; exact h
  | thread k ih => intro c Q E p s d h; exact ih _ (c _) Q E p s d h
  | await => intro _ Q E p s d h; exact h
theorem calm_any {α : Type} {M : Model} {A : Around} {t : Sem α} {Q : α → Shared → Prop} {E : Value → Shared → Prop} {s : Shared} (c : Calm t) (h : wpAny M A t Q E s) :
    wpAny M A t (fun a s' => Q a s' ∧ SameDicts s.heap s'.heap) (fun e s' => E e s' ∧ SameDicts s.heap s'.heap) s :=
  fun Γ p hΓ => calm_wp s.heap t c _ _ p s (SameDicts.refl _) (h Γ p hΓ)

theorem mapFields_dict (g : Array Value → Array Value) (o : Obj) : (Obj.mapFields g o).dict = o.dict := by
  obtain ⟨c, d, dt, sl⟩ := o
  cases dt <;> rfl
theorem calm_field (v : Value) (i : Nat) : Calm (field v i) := by
  unfold field fieldsOf
  repeat' (first | exact trivial | (refine calm_bind (fun _ => ?_) ?_) | (intro _) | split)
theorem calm_updateField (a : Addr) (i : Nat) (x : Value) : Calm (updateField a i x) := by
  unfold updateField
  repeat' (first | exact trivial | exact ⟨fun o => mapFields_dict _ o, fun _ => trivial⟩ | (refine calm_bind (fun _ => ?_) ?_) | (intro _) | split)
theorem calm_setField (v : Value) (i : Nat) (x : Value) : Calm (setField v i x) := by
  unfold setField
  split
  · exact calm_updateField _ _ _
  · exact trivial
theorem calm_setFlight (e : Value) (f : Option Addr) : Calm (setFlight e f) := by
  unfold setFlight
  repeat' (first | exact calm_field _ _ | exact calm_setField _ _ _ | exact trivial | (refine calm_bind (fun _ => ?_) ?_) | split)
theorem calm_readyFrames : ∀ l : List Env, Calm (readyFrames l)
  | [] => trivial
  | env :: outer => by
    have ih := calm_readyFrames outer
    unfold readyFrames
    split
    · refine calm_bind (fun _ => ?_) (fun _ => trivial)
      split
      · exact trivial
      · refine calm_bind (fun _ => ?_) ?_
        · refine calm_bind (fun _ => ?_) ?_
          · exact calm_bind (fun _ => ih) ⟨fun _ => rfl, fun _ => trivial⟩
          · unfold keptBack underTheClaimsCaller
            repeat' (first | exact trivial | (refine calm_bind (fun _ => ?_) ?_) | (intro _) | split)
        · unfold behindIsImport
          repeat' (first | exact calm_field _ _ | exact trivial | (refine calm_bind (fun _ => ?_) ?_) | split)
    · exact trivial
theorem calm_frameOf (env : Env) : Calm (PySem.frameOf env) := by
  unfold PySem.frameOf frameEnvs
  refine calm_bind (fun x => ?_) ?_
  · refine calm_bind (fun y => ?_) ?_
    · split <;> exact trivial
    · unfold frameObject
      split
      · exact trivial
      · refine calm_bind (fun _ => ?_) (calm_readyFrames _)
        exact trivial
  · refine calm_bind (fun _ => ?_) (fun _ => ?_)
    · exact trivial
    · exact trivial
theorem calm_newEntry (a b c d e : Value) (l : List Value) : Calm (EntryCells.newEntry a b c d e l) := by
  unfold EntryCells.newEntry newFields newObj newObjAsIs
  dsimp only
  generalize ([a, b, c, d, e] ++ if l.isEmpty = true then List.replicate 6 Value.none else l).toArray = vs
  split
  · exact trivial
  · refine calm_bind (fun _ => ?_) (fun _ => ?_)
    · exact trivial
    · exact trivial
theorem calm_entryPlaceOf (f : Addr) (b : Bool) : Calm (entryPlaceOf f b) := by
  unfold entryPlaceOf
  refine calm_bind (fun x => ?_) (fun _ => ?_)
  · split <;> exact trivial
  · exact trivial
theorem calm_noteFrame (e : Value) (env : Env) : Calm (noteFrame e env) := by
  unfold noteFrame
  split
  · rename_i f _
    refine calm_bind (fun x => ?_) (calm_field _ _)
    dsimp only
    have jp : Calm (do
          let __do_lift ← PySem.frameOf env
          let __do_lift_1 ← entryPlaceOf f (x != Value.none)
          let __do_lift ← EntryCells.newEntry x __do_lift Value.none (rawInt f) Value.none __do_lift_1
          setField e 1 __do_lift : Sem Unit) := by
      refine calm_bind (fun _ => ?_) (calm_frameOf _)
      refine calm_bind (fun _ => ?_) (calm_entryPlaceOf _ _)
      refine calm_bind (fun _ => ?_) (calm_newEntry _ _ _ _ _ _)
      exact calm_setField _ _ _
    split
    · refine calm_bind (fun y => ?_) (calm_field _ _)
      split
      · exact trivial
      · exact calm_bind (fun _ => jp) (calm_setField _ _ _)
    · exact jp
  · exact trivial
theorem calm_leaving (env : Env) (e : Value) : Calm (leaving env e) := by
  unfold leaving
  exact calm_bind (fun _ => calm_setFlight _ _) (calm_noteFrame _ _)
end X0
section X5
def RaisedD (base G : Heap) (l : List Env) (e dx : Addr) (es : List DictEntry) (n : Nat) (news : List (Addr × Obj)) (h : Heap) : Prop :=
  ∃ B a0, base.StaysIn B ∧ (∀ b o, G.get? b = some o → b ∉ l.filterMap (·.frame) → B.get? b = some o) ∧ (∀ q ∈ (dx, dictOf es n) :: news, B.get? q.1 = some q.2 ∧ G.get? q.1 = none ∧ base.get? q.1 = none) ∧
    Heap.FlyingW B l e (.ref 31) a0 h ∧ ∃ oe, h.get? e = some oe ∧ oe.dict = some dx
theorem get_objs {h : Heap} {a : Addr} {o : Obj} (e : h.get? a = some o) : h.objs[a]? = some o := (Heap.get?_some_iff.mp e).1
theorem same_get {h h' : Heap} {a : Addr} {o o' : Obj} (S : SameDicts h h') (e : h.get? a = some o) (e' : h'.get? a = some o') : o'.dict = o.dict := by
  obtain ⟨o₁, h1, h2⟩ := S a o (get_objs e)
  rw [get_objs e'] at h1
  cases h1
  exact h2
theorem mem_frames {env : Env} {L b : Addr} {outer : List Env} (hf : env.frame = some L) (hm : b ∈ (env :: outer).filterMap (·.frame)) : b = L ∨ b ∈ outer.filterMap (·.frame) := by
  obtain ⟨ev, he, hfe⟩ := List.mem_filterMap.mp hm
  rcases List.mem_cons.mp he with rfl | he
  · rw [hf] at hfe
    exact .inl (Option.some.inj hfe).symm
  · exact .inr (List.mem_filterMap.mpr ⟨ev, he, hfe⟩)
theorem below_pushE {A : Around} {base h₀ h : Heap} {outer : List Env} {L : Addr} {m : Str → Option Value} {env : Env} (K : Below A base outer h₀) (F : Fr h₀ L h m) (hf : env.frame = some L) (hk : env.scope.kind = .function) : Below (A.deeper env) base (env :: outer) h := by
  have hnew : base.get? L = none := by
    cases hq : base.get? L with
    | none => rfl
    | some o => exact absurd (Nat.lt_of_lt_of_le (Heap.lt_size (K.stays L o hq)) F.above) (Nat.lt_irrefl _)
  obtain ⟨oL, esL, epL, hoL, hdL, _⟩ := F.ns
  refine ⟨Around.frames_deeper K.stack, fun b o e => F.keep b o (K.stays b o e), ?_, ?_, ?_⟩
  · rw [hk]; intro q; cases q
  · exact ⟨L, oL, hf, hnew, hoL, fun vs q => by rw [hdL] at q; cases q⟩
  · exact K.frames.of_keeps fun b o e _ => ⟨o, F.keep b o e, rfl⟩
section
variable {M : Model} {A : Around} {E : Value → Shared → Prop} {s' : Shared} {base g g₂ : Heap} {outer : List Env} {L e t dx : Addr} {m : Str → Option Value} {env : Env} {Q : Unit → Shared → Prop} {news : List (Addr × Obj)} {es : List DictEntry} {n : Nat}
theorem leave_firstD (K : Below A base outer g) (F : Fr g L s'.heap m) (N : News g L s'.heap ((e, excRaw 31 t (some dx)) :: (dx, dictOf es n) :: news)) (hne : ∀ p ∈ news, p.1 ≠ e) (hed : e ≠ dx) (hf : env.frame = some L) (hk : env.scope.kind = .function)
    (hQ : ∀ h', RaisedD base g outer e dx es n news h' → g.UpToSlots h' → Q () { s' with heap := h' }) :
    wpAny M (A.deeper env) (leaving env (.ref e)) Q E s' := by
  have K' := below_pushE (env := env) K F hf hk
  have hin : ∀ ev ∈ (env :: outer), ∀ b, ev.frame = some b → b ∈ e :: (env :: outer).filterMap (·.frame) := fun ev he b hb => .tail _ (List.mem_filterMap.mpr ⟨ev, he, hb⟩)
  have Ne := N _ (.head _)
  have offFrames : ∀ b o, s'.heap.get? b = some o → g.get? b = none → b ≠ L → b ∉ (env :: outer).filterMap (·.frame) := fun b o ho hg hL hm => by
    rcases mem_frames hf hm with z | z
    · exact hL z
    · obtain ⟨o', ho', _⟩ := (K.frames.mem z).2
      rw [hg] at ho'
      cases ho'
  have gNotFrame : ∀ b o, g.get? b = some o → b ∉ outer.filterMap (·.frame) → b ∉ e :: (env :: outer).filterMap (·.frame) := fun b o q nm hm => by
    rcases List.mem_cons.mp hm with rfl | hm
    · rw [Ne.2.2] at q; cases q
    · rcases mem_frames hf hm with z | z
      · rw [z, kts_self F] at q; cases q
      · exact nm z
  have st : base.StaysIn (hideAll s'.heap (e :: (env :: outer).filterMap (·.frame))) := fun b o q => hideAll_get _ (K'.stays b o q) (gNotFrame b o (K.stays b o q) fun hm => by
    rw [(K.frames.mem hm).1] at q; cases q)
  have sg : ∀ b o, g.get? b = some o → b ∉ outer.filterMap (·.frame) → (hideAll s'.heap (e :: (env :: outer).filterMap (·.frame))).get? b = some o := fun b o q nm => hideAll_get _ (F.keep b o q) (gNotFrame b o q nm)
  have hl : ∀ q ∈ (dx, dictOf es n) :: news, (hideAll s'.heap (e :: (env :: outer).filterMap (·.frame))).get? q.1 = some q.2 ∧ g.get? q.1 = none ∧ base.get? q.1 = none := fun q hq => by
    have Nq := N q (.tail _ hq)
    refine ⟨hideAll_get _ Nq.1 fun hm => ?_, Nq.2.2, fresh_of_stays K.stays Nq.2.2⟩
    rcases List.mem_cons.mp hm with z | hm
    · rcases List.mem_cons.mp hq with rfl | hq
      · exact hed z.symm
      · exact hne q hq z
    · exact offFrames _ _ Nq.1 Nq.2.2 Nq.2.1 hm
  refine wpAny_mono (calm_any (calm_leaving _ _) (wpAny_leaving_firstW (base := hideAll s'.heap (e :: (env :: outer).filterMap (·.frame))) (a0 := .ref t) (Q := fun _ s => ∃ h', Heap.LeftW (hideAll s'.heap (e :: (env :: outer).filterMap (·.frame))) (env :: outer) e (.ref 31) (.ref t) s'.heap h' ∧ s = { s' with heap := h' }) (E := E)
    K'.stack (funFrames_hide K'.frames hin) hf Ne.1 (fun b o q => of_hideAll _ q) (hideAll_none _ (.head _)) rfl rfl rfl fun h' hL => ⟨h', hL, rfl⟩)) (fun _ s hs => ?_) fun _ _ x => x.1
  obtain ⟨⟨h', ⟨k1, ⟨_, _, k2⟩, k3, k4⟩, rfl⟩, hsd⟩ := hs
  refine hQ h' ⟨_, _, st, sg, hl, ⟨k1, hideAll_none _ (.head _), k2, k3⟩, ?_⟩ ((Heap.UpToSlots.of_keeps F.keep).trans k4)
  obtain ⟨oe, _, _, _, _, he, _⟩ := k3
  exact ⟨oe, he, same_get hsd Ne.1 he⟩
theorem leave_onD (K : Below A base outer g) (F : Fr g L g₂ m) (R : RaisedD base g₂ (env :: outer) e dx es n news s'.heap) (hsm : g₂.UpToSlots s'.heap) (hf : env.frame = some L)
    (hQ : ∀ h', RaisedD base g outer e dx es n news h' → g.UpToSlots h' → Q () { s' with heap := h' }) :
    wpAny M (A.deeper env) (leaving env (.ref e)) Q E s' := by
  obtain ⟨B, a0, hB, hBG, hl, hfl, oe, he, hed⟩ := R
  refine wpAny_mono (calm_any (calm_leaving _ _) (wpAny_leaves_onW (Q := fun _ s => ∃ h', (Heap.FlyingW B outer e (.ref 31) a0 h' ∧ s'.heap.UpToSlots h') ∧ s = { s' with heap := h' }) (E := E) (Around.frames_deeper K.stack) hf hfl fun h' x1 x2 => ⟨h', ⟨x1, x2⟩, rfl⟩)) (fun _ s hs => ?_) fun _ _ x => x.1
  obtain ⟨⟨h', ⟨x1, x2⟩, rfl⟩, hsd⟩ := hs
  refine hQ h' ⟨B, a0, hB, fun b o q nm => hBG b o (F.keep b o q) (fun hm => by
      rcases mem_frames hf hm with z | z
      · rw [z, kts_self F] at q
        cases q
      · exact nm z), fun q hq => ⟨(hl q hq).1, kts_none F.keep (hl q hq).2.1, (hl q hq).2.2⟩, x1, ?_⟩ ((Heap.UpToSlots.of_keeps F.keep).trans (hsm.trans x2))
  obtain ⟨oe', _, he', _⟩ := x1.first
  exact ⟨oe', he', (same_get hsd he he').trans hed⟩
end
section
variable {prog : Program} {w : World} {A₀ A : Around} {s : Shared} {base h₀ g₀ : Heap} {outer : List Env} {L : Addr} {m : Str → Option Value} {env : Env} {news : List (Addr × Obj)} {K : Frag} {p : Program} {loose : List Str} {mean : ExcName → Option Value} {mg mb : Str → Option Value}
    {R : Result → Shared → Prop} {name qual : Str} {params : Arguments} {body : List Stmt} {scope : Scope} {dV kV doc pm cdv ct oc : Value} {an od : Option Addr} {osl : Array (Option Value)} {f : Addr} {args : Args} {binds : List (Str × Value)}
theorem enterE (B : Below A₀ base outer h₀) (F : Fr h₀ L s.heap m) (N : News h₀ L s.heap news) (hA : A.frames = some (env :: outer)) (hf : env.frame = some L) (hck : env.scope.kind = .function) :
    ∃ oL es ep, (hideAll s.heap (news.map (·.1))).get? L = some oL ∧ oL.data = .dict es ep ∧ (∀ (sl : Array (Option Value)) h', h'.get? L = some { oL with slots := sl } → Heap.Ns h' L m) ∧
      h₀.StaysIn (hideAll s.heap (news.map (·.1))) ∧ Below A base (env :: outer) (hideAll s.heap (news.map (·.1))) := by
  have nm : ∀ b o, h₀.get? b = some o → b ∉ news.map (·.1) := fun b o e q => by
    obtain ⟨p, hp, rfl⟩ := List.mem_map.mp q
    rw [(N p hp).2.2] at e; cases e
  have st : h₀.StaysIn (hideAll s.heap (news.map (·.1))) := fun b o e => hideAll_get _ (F.keep b o e) (nm b o e)
  obtain ⟨oL, es, ep, hL, hLd, hLk, hLf⟩ := F.ns
  have nL : L ∉ news.map (·.1) := fun q => by
    obtain ⟨p, hp, e⟩ := List.mem_map.mp q
    exact (N p hp).2.1 e
  have hLg := hideAll_get (news.map (·.1)) hL nL
  have B₁ := below_pushE (env := env) B F hf hck
  refine ⟨oL, es, ep, hLg, hLd, fun sl h' e => ⟨_, es, ep, e, hLd, hLk, hLf⟩, st, ⟨hA, fun b o e => st b o (B.stays b o e), funFrames_hideAll B₁.frames fun ev he b hb hfe => ?_⟩⟩
  rcases List.mem_cons.mp he with rfl | he
  · rw [hf] at hfe
    exact nL ((Option.some.inj hfe : L = b) ▸ hb)
  · obtain ⟨L₁, o₁, hf₁, ho₁⟩ := funFrames_in B.frames ev he
    rw [hf₁] at hfe
    exact nm L₁ o₁ ho₁ ((Option.some.inj hfe : L₁ = b) ▸ hb)
theorem code_defE (B : Below A₀ base outer h₀) (F : Fr h₀ L s.heap m) (X₀ : K.In h₀) (N : News h₀ L s.heap news) (T : Top p loose mean mg mb h₀) (XB : K.In base) (TB : Top p loose mean mg mb base) (D : KtsDicts (outer.filterMap (·.frame)) h₀)
    (T0 : KtsTurn (outer.filterMap (·.frame)) g₀ h₀) (hA : A.frames = some (env :: outer)) (hf : env.frame = some L) (hck : env.scope.kind = .function)
    (ho : K.lookup f = some ⟨oc, od, .func (fnOf name qual params body scope dV kV doc pm an cdv ct), osl⟩) (hcd : codeIn K cdv qual = true) (hroom : A.depth < recursionLimit)
    (hbind : BindsTo s (fnOf name qual params body scope dV kV doc pm an cdv ct) args binds) (hloc : ∀ y ∈ binds, scope.names.lookup y.1 = some .local)
    (h : ∀ g L' h₁, Fr h₀ L g m → Fr g L' h₁ (fun y => binds.reverse.lookup y) → News g L' h₁ news → Below A base (env :: outer) g → K.In g → Top p loose mean mg mb g → KtsDicts ((env :: outer).filterMap (·.frame)) g →
      wpAny (model prog w) (A.deeper (envOf qual scope L' f cdv)) (execs body (envOf qual scope L' f cdv))
        (fun fl s' => LeaveS ((env :: outer).filterMap (·.frame)) A₀ base outer K p loose mean mg mb g₀ h₀ L m g R (match fl with | .ret v => v | _ => .none) s')
        (fun e s' => wpAny (model prog w) (A.deeper (envOf qual scope L' f cdv)) (leaving (envOf qual scope L' f cdv) e) (fun _ s'' => R (.error e) s'') (fun e' s'' => R (.error e') s'') s')
        { s with heap := h₁, toks := s.toks + binds.length })
    (hco : scope.isCoroutine = false) (hgen : scope.isGenerator = false) (hk : scope.kind = .function)
    (hcell : ∀ x ∈ scope.names, x.2 ≠ .cell) : codeAny (model prog w) A (.call (.ref f) args) R s := by
  have X := X₀.keeps F.keep
  refine codeAny_call_def (fd := fnOf name qual params body scope dV kV doc pm an cdv ct) (body := body) (binds := binds) hroom (X _ _ ho) rfl (T.nolimit.keeps F.keep) (codeRec_of X hcd) rfl hbind hcell hloc (fun h₁ hns hk₁ => ?_) hco hgen hk
  obtain ⟨oL, es, ep, hLg, hLd, hNs, st, B₂⟩ := enterE B F N hA hf hck
  refine wpAny_mono (h _ s.heap.objs.size h₁ ⟨hNs oL.slots _ hLg, st, F.above⟩ ⟨hns, fun b o e => hk₁ b o (of_hideAll _ e), Nat.le_of_eq (hideAll_size _ _)⟩
    (fun p hp => ⟨hk₁ _ _ (N p hp).1, Nat.ne_of_lt (Heap.lt_size (N p hp).1), hideAll_none _ (List.mem_map_of_mem hp)⟩) B₂ (X₀.keeps st) (T.keeps st) (fun b hb => by
      rcases mem_frames hf hb with rfl | hb
      · exact ⟨oL, es, ep, hLg, hLd⟩
      · obtain ⟨o, es', n', ho', hd'⟩ := D b hb
        exact ⟨o, es', n', st b o ho', hd'⟩)) (fun fl s' hl => ?_) fun _ _ y => y
  have nL₀ : h₀.get? L = none := kts_self F
  rcases hl with ⟨L', m', news', F', N', k⟩ | ⟨g', L', m', news', T', F', N', k⟩
  · refine k ⟨hNs oL.slots _ (F'.keep _ _ hLg), fun b o e => F'.keep b o (st b o e), F.above⟩ fun p hp => ⟨(N' p hp).1, fun q => ?_, ?_⟩
    · have := (N' p hp).2.2; rw [q, hLg] at this; cases this
    · cases q : h₀.get? p.1 with
      | none => rfl
      | some o => have := (N' p hp).2.2; rw [st _ _ q] at this; cases this
  obtain ⟨sl, hs⟩ := T'.up hLg
  obtain ⟨T₁, S₁⟩ := kts_turn_at (h := s'.heap) (fs := outer.filterMap (·.frame)) (g := h₀)
    (fun b hb => by
      obtain ⟨_, o, ho', _⟩ := B.frames.mem hb
      exact ⟨o, ho'⟩)
    (fun b o e nmem => F'.keep b o (T'.other b o (st b o e) (fun q => by
      rcases mem_frames hf q with z | z
      · rw [z, nL₀] at e
        cases e
      · exact nmem z)))
    (fun b o e hm => by
      obtain ⟨sl', hs'⟩ := T'.up (st b o e)
      exact ⟨sl', F'.keep _ _ hs'⟩)
  have B₃ : Below A₀ base outer (ktsHeap s'.heap (outer.filterMap (·.frame)) h₀) := ⟨B.stack, fun b o e => T₁.other b o (B.stays b o e) (fun hm => by
    rw [(B.frames.mem hm).1] at e
    cases e), B.frames.of_keeps fun b o e _ => by
    obtain ⟨sl', hs'⟩ := T₁.up e
    exact ⟨_, hs', rfl⟩⟩
  refine k _ (T0.trans T₁) ⟨hNs sl _ (F'.keep _ _ hs), S₁, by rw [T₁.size]; exact F.above⟩ (fun p hp => ⟨(N' p hp).1, fun q => ?_, ?_⟩) B₃ (XB.keeps B₃.stays) (TB.keeps B₃.stays) (D.turn T₁)
  · have := (N' p hp).2.2; rw [q, hs] at this; cases this
  · refine T₁.none_ _ ?_
    cases q : h₀.get? p.1 with
    | none => rfl
    | some o =>
      obtain ⟨sl', hs'⟩ := T'.up (st _ _ q)
      have := (N' p hp).2.2
      rw [hs'] at this
      cases this
end
end X5
section X6
section
variable {prog : Program} {w : World} {A₀ : Around} {E : Value → Shared → Prop} {s' : Shared} {base g g₀ G : Heap} {outer : List Env} {L a e dx : Addr} {m : Str → Option Value} {name : Str} {scope : Scope} {cd : Value}
  {es : List DictEntry} {ne : Nat} {n : Str} {b₀ : Stmt} {suite : List Stmt} {pos np : Pos} {rest : List ExceptHandler} {Q : Flow → Shared → Prop} {news : List (Addr × Obj)}
  {p : Program} {loose : List Str} {mean : ExcName → Option Value} {mg mb : Str → Option Value} {x : Str}
theorem caught_D (R : RaisedD base G (envOf name scope L a cd :: outer) e dx es ne news s'.heap) (F : Fr g L G m) (K : Below A₀ base outer g) (hsm : G.UpToSlots s'.heap) (XB : (Mine.hd.heap_39 w.params).In base) (TB : Top p loose mean mg mb base)
    (D : KtsDicts (outer.filterMap (·.frame)) g) (T0 : KtsTurn (outer.filterMap (·.frame)) g₀ g)
    (ex : nsIn (Mine.hd.heap_39 w.params) mainGlobals x = some (some (.ref 31)))
    (k : ∀ h' g' ws sl tk, KtsTurn (outer.filterMap (·.frame)) g₀ g' → Fr g' L h' (fun y => if y = n then some (.ref e) else m y) → News g' L h' ((e, { cls := .ref 31, dict := some dx, data := .fields ws, slots := sl }) :: (dx, dictOf es ne) :: news) → Below A₀ base outer g' → (Mine.hd.heap_39 w.params).In g' → Top p loose mean mg mb g' → KtsDicts (outer.filterMap (·.frame)) g' →
      wpAny (model prog w) ((A₀.deeper (envOf name scope L a cd)).mark (some (.ref e))) (execs (b₀ :: suite) (envOf name scope L a cd))
        (fun f s₄ => wpAny (model prog w) (A₀.deeper (envOf name scope L a cd)) (do bindName (envOf name scope L a cd) n .none; unbindBehindTheSuite (envOf name scope L a cd) n pos) (fun _ s₅ => Q f s₅) E s₄)
        (AsSuiteRaised (model prog w) ((A₀.deeper (envOf name scope L a cd)).mark (some (.ref e))) (envOf name scope L a cd) n pos (notedBy (model prog w) ((A₀.deeper (envOf name scope L a cd)).mark (some (.ref e))) (envOf name scope L a cd) (cameBackBy (model prog w) (A₀.deeper (envOf name scope L a cd)) (envOf name scope L a cd) E)))
        { s' with heap := h', toks := tk })
    (hk : scope.kind = .function := by rfl) (hlo : (envOf name scope L a cd).kindOf n = some .local := by rfl) (hx : (envOf name scope L a cd).kindOf x = some .globalImplicit := by rfl) (hd : (x == ("__debug__" : Str)) = false := by decide) :
    wpAny (model prog w) (A₀.deeper (envOf name scope L a cd)) (noteFrame (.ref e) (envOf name scope L a cd))
      (fun _ s₂ => wpAny (model prog w) (A₀.deeper (envOf name scope L a cd)) (setFlight (.ref e) none) (fun _ s₃ =>
        wpAny (model prog w) (A₀.deeper (envOf name scope L a cd)) (handleBy (.ref e) (envOf name scope L a cd) (.ExceptHandler (some (.Name x np)) (some n) (b₀ :: suite) pos :: rest)) Q E s₃) E s₂) E s' := by
  obtain ⟨B, a0, hB, hBG, hl, hfl, oe0, hoe0, hdict0⟩ := R
  have hL : B.get? L = none := by
    obtain ⟨_, ⟨L', _, hf, hn', _⟩, _⟩ := hfl.2.2.1
    obtain rfl : L = L' := Option.some.inj hf
    exact hn'
  refine wpAny_mono (calm_any (calm_noteFrame _ _) (wpAny_looks_onW (Q := fun _ s => ∃ h', (Heap.HeldW B (envOf name scope L a cd :: outer) e (.ref 31) a0 L h' ∧ s'.heap.UpToSlots h') ∧ s = { s' with heap := h' }) (E := E) (Around.frames_deeper K.stack) rfl hfl fun h' x1 x2 => ⟨h', ⟨x1, x2⟩, rfl⟩)) (fun _ s hs => ?_) fun _ _ x => x.1
  obtain ⟨⟨h₄, ⟨hheld₄, hsm₄⟩, rfl⟩, hsd₄⟩ := hs
  obtain ⟨ob₄, hob₄, -⟩ := hheld₄.there
  have hdict₄ : ob₄.dict = some dx := (same_get hsd₄ hoe0 hob₄).trans hdict0
  refine wpAny_mono (calm_any (calm_setFlight _ _) (wpAny_landsW (Q := fun _ s => ∃ h', (Heap.FlyingW B (envOf name scope L a cd :: outer) e (.ref 31) a0 h' ∧ Heap.UpToSlots h₄ h') ∧ s = { s' with heap := h' }) (E := E) hheld₄ fun h' x1 x2 => ⟨h', ⟨x1, x2⟩, rfl⟩)) (fun _ s hs => ?_) fun _ _ x => x.1
  obtain ⟨⟨h₅, ⟨hheld, hsm₅'⟩, rfl⟩, hsd₅⟩ := hs
  have hsm₅ := hsm₄.trans hsm₅'
  obtain ⟨g₅, T₅, F₅, K₅⟩ := kts_ground K F hBG hheld.1 (hsm.trans hsm₅)
  have X₅ : (Mine.hd.heap_39 w.params).In g₅ := XB.keeps K₅.stays
  have P₅ : TopRead p loose mg mb g₅ := topRead_of (TB.keeps K₅.stays)
  obtain ⟨ob, hob, hobc⟩ := hheld.there
  have hdict₅ : ob.dict = some dx := (same_get hsd₅ hob₄ hob).trans hdict₄
  have hC₅ := F₅.keep _ _ (h3_at X₅)
  refine wpAny_handleBy_cons (codeAny_handlers_test (name_K F₅ X₅ P₅ ex ?_ hk hx hd)) (by intro q; cases q)
  refine wpAny_excMatches_sub_self hC₅ hob hobc (by decide +kernel) (codeAny_handlers_suite_as ?_)
  refine wpAny_mono (calm_any (calm_setFlight _ _) (lands_againW (s := { s' with heap := h₅ }) (Q := fun _ s => ∃ h', (Heap.FlyingW B (envOf name scope L a cd :: outer) e (.ref 31) a0 h' ∧ Heap.UpToSlots h₅ h') ∧ s = { s' with heap := h' }) (E := fun _ _ => False) hheld fun h' x1 x2 => ⟨h', ⟨x1, x2⟩, rfl⟩)) (fun _ s hs => ?_) fun _ _ x => x.1.elim
  obtain ⟨⟨h₆, ⟨hfl₆, hsm₆⟩, rfl⟩, hsd₆⟩ := hs
  obtain ⟨g₆, T₆, F₆, K₆⟩ := kts_ground K F hBG hfl₆.1 ((hsm.trans hsm₅).trans hsm₆)
  obtain ⟨oe, ws, hoe, hoec, hoed, hoe0'⟩ := hfl₆.first
  have hdict₆ : oe.dict = some dx := (same_get hsd₆ hob hoe).trans hdict₅
  obtain ⟨oc, od, odt, osl⟩ := oe
  dsimp only at hoec hoed hdict₆
  subst hoec hoed hdict₆
  have ne₆ : g₆.get? e = none := T₆.none_ _ (kts_fresh F hBG hfl₆.2.1 fun o ho m => by
    obtain ⟨_, o', ho', hd⟩ := K.frames.mem m
    rw [ho] at ho'
    cases ho'
    obtain ⟨sl, hs⟩ := ((hsm.trans hsm₅).trans hsm₆) _ _ (F.keep _ _ ho) hd
    rw [hoe] at hs
    exact hd _ (congrArg Obj.data (Option.some.inj hs)).symm)
  have Nl : News g₆ L h₆ ((dx, dictOf es ne) :: news) := fun q hq => ⟨hfl₆.1 _ _ (hl q hq).1, (fun z => by have := (hl q hq).1; rw [z, hL] at this; cases this), T₆.none_ _ (kts_none F.keep (hl q hq).2.1)⟩
  have N₆ := News.more F₆ Nl hoe (fun es n q => by cases q) ne₆
  have X₆ : (Mine.hd.heap_39 w.params).In g₆ := XB.keeps K₆.stays
  have P₆ : Top p loose mean mg mb g₆ := TB.keeps K₆.stays
  have D₆ : KtsDicts (outer.filterMap (·.frame)) g₆ := D.turn T₆
  refine stN F₆ N₆ (fun h₇ F₇ N₇ => ?_) hk hlo
  exact k h₇ g₆ _ _ _ (T0.trans T₆) F₇ N₇ K₆ X₆ P₆ D₆
end
end X6
section X7
abbrev tupOf (vs : List Value) : Obj := { cls := .type "tuple", data := .seq vs.toArray }
theorem notin35 {prog : Program} {w : World} {A : Around} {E : Value → Shared → Prop} {s : Shared} {x : Str} {u : Tok} {b : Bool} {Q : Value → Shared → Prop} (X : (Mine.hd.heap_39 w.params).In s.heap)
    (hb : (!(([Str.ofString "settings", Str.ofString "cancel_push", Str.ofString "goaway", Str.ofString "max_push", Str.ofString "unknown"] : List Str).any (· == x))) = b) (h : Q (.bool b) s) : wpAny (model prog w) A (compareOp .NotIn (.str x u) (.ref 35)) Q E s := by
  subst hb
  exact notin_tuple_strs (items := #[.str (Str.ofString "settings") 230, .str (Str.ofString "cancel_push") 231, .str (Str.ofString "goaway") 232, .str (Str.ofString "max_push") 233, .str (Str.ofString "unknown") 234]) ⟨_, X _ _ rfl, rfl, _, rfl⟩ (by repeat constructor) h
theorem notin36 {prog : Program} {w : World} {A : Around} {E : Value → Shared → Prop} {s : Shared} {x : Str} {u : Tok} {b : Bool} {Q : Value → Shared → Prop} (X : (Mine.hd.heap_39 w.params).In s.heap)
    (hb : (!(([Str.ofString "headers", Str.ofString "data", Str.ofString "push_promise", Str.ofString "unknown"] : List Str).any (· == x))) = b) (h : Q (.bool b) s) : wpAny (model prog w) A (compareOp .NotIn (.str x u) (.ref 36)) Q E s := by
  subst hb
  exact notin_tuple_strs (items := #[.str (Str.ofString "headers") 236, .str (Str.ofString "data") 237, .str (Str.ofString "push_promise") 238, .str (Str.ofString "unknown") 239]) ⟨_, X _ _ rfl, rfl, _, rfl⟩ (by repeat constructor) h
theorem inst_news31 {h₀ h : Heap} {L e dx : Addr} {ws : Array Value} {sl : Array (Option Value)} {es : List DictEntry} {n : Nat} {news : List (Addr × Obj)} (N : News h₀ L h news) (h1 : (e, ({ cls := .ref 31, dict := some dx, data := .fields ws, slots := sl } : Obj)) ∈ news) (h2 : (dx, dictOf es n) ∈ news) :
    W.InstAt h e { cls := .ref 31, dict := some dx, data := .fields ws, slots := sl } 31 (some (dictOf es n)) := inst_h3 (N _ h1).1 rfl rfl (N _ h2).1
theorem news_pull {h₀ h : Heap} {L : Addr} (pre : List (Addr × Obj)) {a b : Addr × Obj} {rest : List (Addr × Obj)} (N : News h₀ L h (pre ++ a :: b :: rest)) : News h₀ L h (a :: b :: (pre ++ rest)) := fun p hp => by
  refine N p ?_
  rcases List.mem_cons.mp hp with rfl | hp
  · exact List.mem_append_right _ (.head _)
  · rcases List.mem_cons.mp hp with rfl | hp
    · exact List.mem_append_right _ (.tail _ (.head _))
    · rcases List.mem_append.mp hp with hp | hp
      · exact List.mem_append_left _ hp
      · exact List.mem_append_right _ (.tail _ (.tail _ hp))
theorem allLt_mem {d : Nat} : ∀ {l : List (Addr × Obj)}, AllLt d l → ∀ p ∈ l, p.1 < d
  | [], _, _, h => nomatch h
  | p :: r, h, q, hq => by
    rcases List.mem_cons.mp hq with rfl | hq
    · exact h.1
    · exact allLt_mem h.2 q hq
theorem allLt_ne {d : Nat} {l l' : List (Addr × Obj)} (h : AllLt d l) (hs : ∀ p ∈ l', p ∈ l) : ∀ p ∈ l', p.1 ≠ d := fun p hp => Nat.ne_of_lt (allLt_mem h p (hs p hp))
theorem allLt_sub {d : Nat} {l l' : List (Addr × Obj)} (h : AllLt d l) (hs : ∀ p ∈ l', p ∈ l) : AllLt d l' := allLt_of fun p hp => allLt_mem h p (hs p hp)
theorem sub_two {M : Model} {A : Around} {E : Value → Shared → Prop} {s : Shared} {v sl : PySem.Expr} {l : Addr} {r : Int} {t : Tok} {Q : Value → Shared → Prop} (h0 : 0 ≤ r) (h2 : r < 2)
    (x : r = 0 → wpAny M A (subscriptTail v sl (.ref l) (.int 0 t)) Q E s) (y : r = 1 → wpAny M A (subscriptTail v sl (.ref l) (.int 1 t)) Q E s) : wpAny M A (subscriptTail v sl (.ref l) (.int r t)) Q E s := by
  rcases (by omega : r = 0 ∨ r = 1) with e | e
  · subst e; exact x rfl
  · subst e; exact y rfl
theorem gen_toks {α : Type} {M : Model} {A : Around} {E : Value → Shared → Prop} {t : Sem α} {Q : α → Shared → Prop} {h : Heap} {g : Array GenState} {d : Drawn} {tk : Nat} {os : OsState}
    (H : ∀ tk' : Nat, wpAny M A t Q E ⟨h, g, d, tk', os⟩) : wpAny M A t Q E ⟨h, g, d, tk, os⟩ := H tk
end X7
theorem said_C1 : True := by
  k_with_none
  k_with "k_all" => assumption
  trivial
section C1
set_option maxHeartbeats 8000000 in
theorem take_spec {prog : Program} {w : World} {p : Program} {loose : List Str} {mean : ExcName → Option Value} {mg mb : Str → Option Value}
    {b D : Addr} {ws : List Value} {ns : List Int} {i x : Int} {ti tx : Tok} {many : Int} {tm : Tok} {rest : List (Addr × Obj)}
    {dp un : Nat} {gd : Option (List Code)} {cn : Str} {cs : Scope} {a : Addr} {ccd : Value} {cl : List (Str × Addr)} {outer : List Env} {A₀ : Around} {base h₀ : Heap} {L : Addr} {m : Str → Option Value} {s : Shared} {Q E : Value → Shared → Prop}
    (B : Below A₀ base outer h₀) (F : Fr h₀ L s.heap m) (X : (Mine.hd.heap_39 w.params).In h₀)
    (N : News h₀ L s.heap ((b, W.listOf #[.ref D, .int i ti, .int x tx] 0) :: (D, W.listOf ws.toArray 0) :: rest))
    (T : Top p loose mean mg mb h₀) (hk : cs.kind = .function)
    (hI : IntsAre ws ns) (hn : ns.length ≤ 40) (hi : 0 ≤ i) (hx : 0 ≤ x) (hx2 : x < 4294967296) (hm : 0 < many) (hm2 : many ≤ 100) (hbD : b ≠ D) (hoff : ∀ p ∈ rest, p.1 ≠ b)
    (hd : dp + 1 < recursionLimit) (hu : un + 8 < cLine)
    (hret : ∀ (r i' x' : Int) (tr ti' tx' : VTok) (h' : Heap) (tk' : Nat), 0 ≤ r → r < many → 0 ≤ i' → 0 ≤ x' → x' < 4294967296 → Fr h₀ L h' m →
      News h₀ L h' ((b, W.listOf #[.ref D, .int i' ti', .int x' tx'] 0) :: (D, W.listOf ws.toArray 0) :: rest) → Q (.int r tr) { s with heap := h', toks := tk' }) :
    wpAny (model prog w) (ktrTop dp un gd cn cs L a ccd cl outer) (call (.ref 155) [.ref b, .int many tm]) Q E s := by
  refine wpAny_call ?_
  have hbD' := neN hbD
  k_dflt cell_enter
  k_steps
  all_goals (
    refine hret _ _ _ _ _ _ _ _ (fmod_lo _ hm) (fmod_hi _ hm) ?_ ?_ ?_ (by assumption) (by assumption)
    · omega
    · exact fmod_lo _ (by decide)
    · exact fmod_hi _ (by decide))
end C1
theorem said_B1 : True := by
  k_with_none
  trivial
section B1
def Stop (P : Prop) : Prop := P
theorem Stop.out {P : Prop} (h : Stop P) : P := h
theorem Stop.in {P : Prop} (h : P) : Stop P := h
theorem gen_qe {α : Type} {M : Model} {A : Around} {t : Sem α} {Q : α → Shared → Prop} {E : Value → Shared → Prop} {s : Shared} (h : ∀ Q' E', Q' = Q → E' = E → wpAny M A t Q' E' s) : wpAny M A t Q E s := h Q E rfl rfl
theorem gen_qn {α : Type} {M : Model} {A : Around} {t : Sem α} {Q : α → Shared → Prop} {E : Value → Shared → Prop} {s : Shared} (h : ∀ Q', Q' = Q → wpAny M A t Q' (fun _ _ => False) s) : wpAny M A t Q E s := wpAny_noRaise (h Q rfl)
theorem stop_call {f : Nat} {M : Model} {A : Around} {args : List Value} {Q E : Value → Shared → Prop} {s : Shared} (_ : ([57, 78, 79, 88, 120, 141, 144, 155, 162, 169, 176, 183, 190, 197] : List Nat).contains f = true) (h : Stop (wpAny M A (call (.ref f) args) Q E s)) : wpAny M A (call (.ref f) args) Q E s := h
theorem stop_sub {M : Model} {A : Around} {v sl : PySem.Expr} {l : Addr} {r : Int} {u : VTok} {Q E : Value → Shared → Prop} {s : Shared} (_ : 0 ≤ r) (h : Stop (wpAny M A (subscriptTail v sl (.ref l) (.int r u)) Q E s)) : wpAny M A (subscriptTail v sl (.ref l) (.int r u)) Q E s := h
theorem allLt_at {d x : Nat} {o : Obj} {l : List (Addr × Obj)} (h : AllLt d l) (hm : (x, o) ∈ l) : x < d := allLt_mem h _ hm
theorem allLt_drop {d : Nat} : ∀ (n : Nat) {l : List (Addr × Obj)}, AllLt d l → AllLt d (l.drop n)
  | 0, _, h => h
  | _ + 1, [], h => h
  | n + 1, _ :: _, h => allLt_drop n h.2
theorem pk_lt (n : Nat) {f b : Nat} {bo : Obj} {l rest : List (Addr × Obj)} (h : AllLt f l) (hb : (b, bo) ∈ l) (e : l.drop n = rest) : b < f ∧ AllLt f rest := ⟨allLt_at h hb, e ▸ allLt_drop n h⟩
end B1
local macro_rules | `(tactic| k_lt $h:ident) => `(tactic| (replace $h := allLt_of $h))
theorem said_C2 : True := by
  k_with_none
  k_with "k_room" => ktr_room
  k_with "k_units" => ktr_units
  k_with "k_all" => assumption
  k_with "k_all" => exact allLt_ne (by assumption) (by intro q hq; repeat (first | exact hq | refine List.Mem.tail _ ?_))
  k_with "k_ne" => (refine neN ?_; (try dsimp only); first | assumption | exact Ne.symm (by assumption) | exact Nat.ne_of_gt (allLt_at (by assumption) (by k_mem)) | exact Nat.ne_of_lt (allLt_at (by assumption) (by k_mem)) | omega)
  k_with "exec Raise some none" => (k_here; (with_reducible show wpAny _ _ (exec (Stmt.Raise (some (Expr.Call (Expr.Name ("H3Error" : Str) _) (_ :: _) [] _)) none _) _) _ _ _); (refine Raise_31 rfl ?_))
  k_with "call ref" => (k_here; (with_reducible show wpAny _ _ (call (Value.ref 31) [Value.int _ _, Value.str _ _]) (Raisable31 _) _ _); k_dflt (refine' h3_make ?B ?F ?X ?N ?T ?hk ?c0 ?c1 ?hl ?hd ?hu ?_; (case B => k_asm); (case F => k_asm); (case X => k_asm); (case N => k_asm); (case T => k_asm); (case hk => first | exact rfl | assumption); (case c0 => decide); (case c1 => decide); (case hl => first | decide | assumption); (case hd => ktr_room); (case hu => ktr_units); k_whole); intro e' dx' t' es' n' h' tk' F' N' g' hne' hed'; refine ⟨_, _, _, rfl, h3_at (by k_in), (N' _ (List.Mem.head _)).1, ?_⟩; (try dsimp only))
  k_with "leaving ref" => (k_here; first
  | ((rename RaisedD _ _ _ _ _ _ _ _ _ => rdX); (refine' leave_onD ?k1 ?k2 ?k3 ?k4 ?k5 ?_; (case k3 => exact rdX); (case k2 => assumption); (case k1 => assumption); (case k4 => assumption); (case k5 => exact rfl); k_whole); intro h' R' U'; (try dsimp only at R' U' ⊢))
  | ((refine' leave_firstD ?k1 ?k2 ?k3 ?k4 ?k5 ?k6 ?k7 ?_; (case k3 => k_asm); (case k2 => assumption); (case k1 => assumption); (case k4 => assumption); (case k5 => assumption); (case k6 => exact rfl); (case k7 => exact rfl); k_whole); intro h' R' U'; (try dsimp only at R' U' ⊢)))
  k_with "noteFrame ref" => (k_here; k_dflt (refine' caught_D ?R ?F ?K ?U ?XB ?TB ?D ?T0 ?ex ?_; (case R => assumption); (case F => assumption); (case K => assumption); (case U => assumption); (case XB => assumption); (case TB => assumption); (case D => assumption); (case T0 => first | assumption | exact KtsTurn.refl); (case ex => k_is); k_whole); intro h' g' ws' sl' tk' T' F' N' K' X' P' D'; (try k_lift K'); (try k_sweep))
  k_with "getAttr ref" => (k_here; (with_reducible show wpAny _ _ (getAttr (Value.ref _) (Str.ofString "code") _) _ _ _); k_dflt (refine' get31 ?X ?I ?ha ?hl ?hv ?_; (case X => k_in); (case I => exact inst_news31 (by k_asm) (by k_mem) (by k_mem)); (case ha => k_is); (case hl => assumption); (case hv => exact rfl); k_whole))
  k_with "compareOp NotIn str ref" => (k_here; first
  | (refine' notin35 (b := false) ?X ?hb ?_; (case X => k_in); (case hb => decide +kernel))
  | (refine' notin35 (b := true) ?X ?hb ?_; (case X => k_in); (case hb => decide +kernel))
  | (refine' notin36 (b := false) ?X ?hb ?_; (case X => k_in); (case hb => decide +kernel))
  | (refine' notin36 (b := true) ?X ?hb ?_; (case X => k_in); (case hb => decide +kernel)))
  k_with "call ref" => (k_here; (with_reducible show wpAny _ _ (call (Value.ref 155) [Value.ref _, Value.int _ _]) _ _ _); k_dflt (refine' take_spec ?B ?F ?X ?N ?T ?hk ?hI ?hn ?hi ?hx ?hx2 ?hm ?hm2 ?hbD ?hoff ?hd ?hu ?_; (case B => k_asm); (case F => k_asm); (case X => k_asm); (case N => first | k_asm | exact news_pull [_] (by k_asm) | exact news_pull [_, _] (by k_asm) | exact news_pull [_, _, _] (by k_asm) | exact news_pull [_, _, _, _] (by k_asm) | exact news_pull [_, _, _, _, _] (by k_asm) | exact news_pull [_, _, _, _, _, _] (by k_asm)); (case T => k_asm); (case hk => first | exact rfl | assumption); (case hI => assumption); (case hn => assumption); (case hi => first | assumption | decide); (case hx => first | assumption | decide); (case hx2 => first | assumption | decide); (case hm => first | decide | assumption); (case hm2 => first | decide | assumption); (case hbD => first | assumption | k_ne); (case hoff => k_all); (case hd => ktr_room); (case hu => ktr_units); k_whole); intro r' i' x' tr' ti' tx' h' tk' hr0' hr1' hi0' hx0' hx1' F' N'; (try dsimp only [List.cons_append, List.nil_append] at N'))
  k_with "subscriptTail" => (k_here; (with_reducible show wpAny _ _ (subscriptTail _ _ (Value.ref _) (Value.int _ _)) _ _ _); (refine' sub_two ?h0 ?h2 ?_ ?_; (case h0 => with_reducible assumption); (case h2 => with_reducible assumption); all_goals intro e2'))
  k_with "execs cons" => (k_here; (with_reducible show wpAny _ _ _ _ _ (Shared.mk _ _ _ (_ + 1) _)); refine gen_toks ?_; intro tk)
  k_with "execs nil" => (k_here; (with_reducible show wpAny _ _ _ _ _ (Shared.mk _ _ _ (_ + 1) _)); refine gen_toks ?_; intro tk)
  k_with "kst_facts" => ((repeat' (first | exact List.forall_mem_nil _ | refine List.forall_mem_cons.mpr ⟨?_, ?_⟩)); (all_goals (refine ⟨allLt_at (by assumption) (by k_memK), allLt_at (by assumption) (by k_memK), ?_⟩; exact allLt_sub (by assumption) (by intro q hq; repeat (first | exact hq | refine List.Mem.tail _ ?_)))); done)
  trivial
section C2
inductive CF where
  | settings (a b : Int)
  | goaway (n : Int)
  | maxPush (n : Int)
  | cancelPush (n : Int)
  | unknown
  | data
  | headers
def CFrame (fl : List (Addr × Obj)) (f : VAddr) : CF → Prop
  | .settings a b => ∃ (ls p1 p2 : VAddr) (t t1 t2 t3 t4 : VTok), fl = [(f, tupOf [.str (Str.ofString "settings") t, .ref ls]), (ls, W.listOf #[.ref p1, .ref p2] 0), (p2, tupOf [.int 1 t1, .int b t2]), (p1, tupOf [.int 6 t3, .int a t4])]
  | .goaway n => ∃ (t tn : VTok), fl = [(f, tupOf [.str (Str.ofString "goaway") t, .int n tn])]
  | .maxPush n => ∃ (t tn : VTok), fl = [(f, tupOf [.str (Str.ofString "max_push") t, .int n tn])]
  | .cancelPush n => ∃ (t tn : VTok), fl = [(f, tupOf [.str (Str.ofString "cancel_push") t, .int n tn])]
  | .unknown => ∃ (t t1 : VTok) (v : Value), fl = [(f, tupOf [.str (Str.ofString "unknown") t, .int 33 t1, v])]
  | .data => ∃ (t : VTok) (v : Value), fl = [(f, tupOf [.str (Str.ofString "data") t, v])]
  | .headers => ∃ (t : VTok) (v : Value), fl = [(f, tupOf [.str (Str.ofString "headers") t, v])]
set_option maxHeartbeats 8000000 in
theorem frame_later {prog : Program} {w : World} {p : Program} {loose : List Str} {mean : ExcName → Option Value} {mg mb : Str → Option Value}
    {b D : Addr} {ws : List Value} {ns : List Int} {i x : Int} {ti tx : Tok} {at_ : Int} {ta : Tok} {rest : List (Addr × Obj)}
    {dp un : Nat} {gd : Option (List Code)} {cn : Str} {cs : Scope} {a : Addr} {ccd : Value} {cl : List (Str × Addr)} {outer : List Env} {A₀ : Around} {base h₀ : Heap} {L : Addr} {m : Str → Option Value} {s : Shared} {Q E : Value → Shared → Prop}
    (B : Below A₀ base outer h₀) (F : Fr h₀ L s.heap m) (X : (Mine.hd.heap_39 w.params).In h₀)
    (N : News h₀ L s.heap ((b, W.listOf #[.ref D, .int i ti, .int x tx] 0) :: (D, W.listOf ws.toArray 0) :: rest))
    (T : Top p loose mean mg mb h₀) (hk : cs.kind = .function)
    (hI : IntsAre ws ns) (hn : ns.length ≤ 40) (hi : 0 ≤ i) (hx : 0 ≤ x) (hx2 : x < 4294967296) (hbD : b ≠ D) (hoff : ∀ p ∈ rest, p.1 ≠ b) (hat : 0 < at_)
    (hd : dp + 3 < recursionLimit) (hu : un + 28 < cLine)
    (hret : ∀ (cf : CF) (fl : List (Addr × Obj)) (f : VAddr) (i' x' : Int) (ti' tx' : VTok) (h' : Heap) (tk' : Nat), CFrame fl f cf → Fr h₀ L h' m →
      News h₀ L h' (fl ++ (b, W.listOf #[.ref D, .int i' ti', .int x' tx'] 0) :: (D, W.listOf ws.toArray 0) :: rest) → (∀ q ∈ fl, AllLt q.1 ((b, W.listOf #[.ref D, .int i' ti', .int x' tx'] 0) :: (D, W.listOf ws.toArray 0) :: rest)) → 0 ≤ i' → 0 ≤ x' → x' < 4294967296 → Q (.ref f) { s with heap := h', toks := tk' }) :
    wpAny (model prog w) (ktrTop dp un gd cn cs L a ccd cl outer) (call (.ref 169) [.ref b, .int at_ ta]) Q E s := by
  refine wpAny_call ?_
  replace hbD := neN hbD
  have hoff' := hoff
  k_dflt cell_enter
  refine gen_qn ?_
  intro QF hQF
  k_steps
  all_goals (subst hQF; (try dsimp only); k_steps)
  · (rename News _ _ _ _ => nL; (exact hret (.settings _ _) [_, _, _, _] _ _ _ _ _ _ _ ⟨_, _, _, _, _, _, _, _, rfl⟩ (by assumption) (kst_newsOf nL (by simp only [List.cons_append, List.nil_append]; kst_allIn)) (by kst_facts) (by assumption) (by assumption) (by assumption)))
  · (rename News _ _ _ _ => nL; (exact hret (.goaway _) [_] _ _ _ _ _ _ _ ⟨_, _, rfl⟩ (by assumption) (kst_newsOf nL (by simp only [List.cons_append, List.nil_append]; kst_allIn)) (by kst_facts) (by assumption) (by assumption) (by assumption)))
  · (rename News _ _ _ _ => nL; (exact hret (.maxPush _) [_] _ _ _ _ _ _ _ ⟨_, _, rfl⟩ (by assumption) (kst_newsOf nL (by simp only [List.cons_append, List.nil_append]; kst_allIn)) (by kst_facts) (by assumption) (by assumption) (by assumption)))
  · (rename News _ _ _ _ => nL; (exact hret (.cancelPush _) [_] _ _ _ _ _ _ _ ⟨_, _, rfl⟩ (by assumption) (kst_newsOf nL (by simp only [List.cons_append, List.nil_append]; kst_allIn)) (by kst_facts) (by assumption) (by assumption) (by assumption)))
  · (rename News _ _ _ _ => nL; (exact hret .unknown [_] _ _ _ _ _ _ _ ⟨_, _, _, rfl⟩ (by assumption) (kst_newsOf nL (by simp only [List.cons_append, List.nil_append]; kst_allIn)) (by kst_facts) (by assumption) (by assumption) (by assumption)))
  · (rename News _ _ _ _ => nL; (exact hret .data [_] _ _ _ _ _ _ _ ⟨_, _, rfl⟩ (by assumption) (kst_newsOf nL (by simp only [List.cons_append, List.nil_append]; kst_allIn)) (by kst_facts) (by assumption) (by assumption) (by assumption)))
  · (rename News _ _ _ _ => nL; (exact hret .headers [_] _ _ _ _ _ _ _ ⟨_, _, rfl⟩ (by assumption) (kst_newsOf nL (by simp only [List.cons_append, List.nil_append]; kst_allIn)) (by kst_facts) (by assumption) (by assumption) (by assumption)))
end C2
section C3
theorem menu5 {r : Int} (h0 : 0 ≤ r) (h5 : r < 5) : ([0, 0, 0, 0, 2] : List Int).getD r.toNat 0 < 4 := by
  have h : r.toNat < 5 := by omega
  generalize r.toNat = n at h
  match n, h with
  | 0, _ => decide
  | 1, _ => decide
  | 2, _ => decide
  | 3, _ => decide
  | 4, _ => decide
set_option maxHeartbeats 8000000 in
theorem frame_first {prog : Program} {w : World} {p : Program} {loose : List Str} {mean : ExcName → Option Value} {mg mb : Str → Option Value}
    {b D : Addr} {ws : List Value} {ns : List Int} {i x : Int} {ti tx : Tok} {at_ : Int} {ta : Tok} {rest : List (Addr × Obj)}
    {dp un : Nat} {gd : Option (List Code)} {cn : Str} {cs : Scope} {a : Addr} {ccd : Value} {cl : List (Str × Addr)} {outer : List Env} {A₀ : Around} {base h₀ : Heap} {L : Addr} {m : Str → Option Value} {s : Shared} {Q E : Value → Shared → Prop}
    (B : Below A₀ base outer h₀) (F : Fr h₀ L s.heap m) (X : (Mine.hd.heap_39 w.params).In h₀)
    (N : News h₀ L s.heap ((b, W.listOf #[.ref D, .int i ti, .int x tx] 0) :: (D, W.listOf ws.toArray 0) :: rest))
    (T : Top p loose mean mg mb h₀) (hk : cs.kind = .function)
    (hI : IntsAre ws ns) (hn : ns.length ≤ 40) (hi : 0 ≤ i) (hx : 0 ≤ x) (hx2 : x < 4294967296) (hbD : b ≠ D) (hoff : ∀ p ∈ rest, p.1 ≠ b) (hat : at_ = 0)
    (hd : dp + 3 < recursionLimit) (hu : un + 28 < cLine)
    (hret : ∀ (cf : CF) (fl : List (Addr × Obj)) (f : VAddr) (i' x' : Int) (ti' tx' : VTok) (h' : Heap) (tk' : Nat), CFrame fl f cf → ((∃ a b, cf = .settings a b) ∨ ∃ n, cf = .goaway n) → Fr h₀ L h' m →
      News h₀ L h' (fl ++ (b, W.listOf #[.ref D, .int i' ti', .int x' tx'] 0) :: (D, W.listOf ws.toArray 0) :: rest) → (∀ q ∈ fl, AllLt q.1 ((b, W.listOf #[.ref D, .int i' ti', .int x' tx'] 0) :: (D, W.listOf ws.toArray 0) :: rest)) → 0 ≤ i' → 0 ≤ x' → x' < 4294967296 → Q (.ref f) { s with heap := h', toks := tk' }) :
    wpAny (model prog w) (ktrTop dp un gd cn cs L a ccd cl outer) (call (.ref 169) [.ref b, .int at_ ta]) Q E s := by
  refine wpAny_call ?_
  replace hbD := neN hbD
  have hoff' := hoff
  subst hat
  k_dflt cell_enter
  refine gen_qn ?_
  intro QF hQF
  k_steps
  all_goals (subst hQF; (try dsimp only); k_steps)
  · (rename News _ _ _ _ => nL; (exact hret (.settings _ _) [_, _, _, _] _ _ _ _ _ _ _ ⟨_, _, _, _, _, _, _, _, rfl⟩ (.inl ⟨_, _, rfl⟩) (by assumption) (kst_newsOf nL (by simp only [List.cons_append, List.nil_append]; kst_allIn)) (by kst_facts) (by assumption) (by assumption) (by assumption)))
  · (rename News _ _ _ _ => nL; (exact hret (.goaway _) [_] _ _ _ _ _ _ _ ⟨_, _, rfl⟩ (.inr ⟨_, rfl⟩) (by assumption) (kst_newsOf nL (by simp only [List.cons_append, List.nil_append]; kst_allIn)) (by kst_facts) (by assumption) (by assumption) (by assumption)))
  all_goals (rename (¬ (_ : Int) < 4) => hb; exact absurd (menu5 (by assumption) (by assumption)) hb)
end C3
theorem said_C4 : True := by
  k_with_none
  trivial
section C4
inductive OptIs : Value → Option Int → Prop
  | none : OptIs .none none
  | some (n : Int) (t : VTok) : OptIs (.int n t) (some n)
def cdue (client : Bool) (most g t : Option Int) : CF → Option Int × Option Int × Option Int
  | .settings _ _ => (some 261, g, t)
  | .data => (some 261, g, t)
  | .headers => (some 261, g, t)
  | .unknown => (none, g, t)
  | .goaway n => if client = false ∧ Int.fmod n 4 ≠ 0 then (some 264, g, t) else
    match g with
    | some x => if n > x then (some 264, g, t) else (none, some n, t)
    | none => (none, some n, t)
  | .maxPush n => if client = false then (some 261, g, t) else
    match t with
    | some x => if n < x then (some 264, g, t) else (none, g, some n)
    | none => (none, g, some n)
  | .cancelPush n =>
    match (if client = true then t else most) with
    | some x => if n > x then (some 264, g, t) else (none, g, t)
    | none => (some 264, g, t)
section
variable {client : Bool} {most g t : Option Int} {n x : Int}
theorem cd_g1 (h : n > x) : cdue true most (some x) t (.goaway n) = (some 264, some x, t) := by simp only [cdue]; rw [if_neg (by simp), if_pos h]
theorem cd_g2 (h : ¬ n > x) : cdue true most (some x) t (.goaway n) = (none, some n, t) := by simp only [cdue]; rw [if_neg (by simp), if_neg h]
theorem cd_g3 : cdue true most none t (.goaway n) = (none, some n, t) := rfl
theorem cd_g4 (h : Int.fmod n 4 ≠ 0) : cdue false most g t (.goaway n) = (some 264, g, t) := by simp [cdue, h]
theorem cd_g5 (h : Int.fmod n 4 = 0) (h2 : n > x) : cdue false most (some x) t (.goaway n) = (some 264, some x, t) := by simp only [cdue]; rw [if_neg (fun q => q.2 h), if_pos h2]
theorem cd_g6 (h : Int.fmod n 4 = 0) (h2 : ¬ n > x) : cdue false most (some x) t (.goaway n) = (none, some n, t) := by simp only [cdue]; rw [if_neg (fun q => q.2 h), if_neg h2]
theorem cd_g7 (h : Int.fmod n 4 = 0) : cdue false most none t (.goaway n) = (none, some n, t) := by simp only [cdue]; rw [if_neg (fun q => q.2 h)]
theorem cd_m1 : cdue false most g t (.maxPush n) = (some 261, g, t) := rfl
theorem cd_m2 : cdue true most g none (.maxPush n) = (none, g, some n) := rfl
theorem cd_m3 (h : n < x) : cdue true most g (some x) (.maxPush n) = (some 264, g, some x) := by simp only [cdue]; rw [if_neg (by simp), if_pos h]
theorem cd_m4 (h : ¬ n < x) : cdue true most g (some x) (.maxPush n) = (none, g, some n) := by simp only [cdue]; rw [if_neg (by simp), if_neg h]
theorem cd_c1 : cdue true most g none (.cancelPush n) = (some 264, g, none) := rfl
theorem cd_c2 (h : n > x) : cdue true most g (some x) (.cancelPush n) = (some 264, g, some x) := by simp [cdue, h]
theorem cd_c3 (h : ¬ n > x) : cdue true most g (some x) (.cancelPush n) = (none, g, some x) := by simp only [cdue]; simp [h]
theorem cd_c4 : cdue false none g t (.cancelPush n) = (some 264, g, t) := rfl
theorem cd_c5 (h : n > x) : cdue false (some x) g t (.cancelPush n) = (some 264, g, t) := by simp [cdue, h]
theorem cd_c6 (h : ¬ n > x) : cdue false (some x) g t (.cancelPush n) = (none, g, t) := by simp only [cdue]; simp [h]
end
def KnownIs (prog : Program) (w : World) (ko : Obj) (bv gv tv : Value) : Prop := ko.IsDictOf (PySem.strKind prog w) [(Str.ofString "begun", bv), (Str.ofString "goaway", gv), (Str.ofString "most", tv)]
section
variable {prog : Program} {w : World} {A : Around} {E : Value → Shared → Prop} {s : Shared} {h₀ : Heap} {L kd : Addr} {m : Str → Option Value} {news : List (Addr × Obj)} {g : Obj → List (Addr × Obj)} {ko : Obj} {bv gv tv v : Value} {tk : Tok}
theorem known_get_begun {value slice : PySem.Expr} {Q : Value → Shared → Prop} (N : News h₀ L s.heap news) (hp : (kd, ko) ∈ news) (hd : KnownIs prog w ko bv gv tv) (h : Q bv { s with toks := s.toks + 1 })
    (hs : subscripted slice false (.ref kd) (.str (Str.ofString "begun") tk) = operate [.ref kd, .str (Str.ofString "begun") tk] (getItem (.ref kd) (.str (Str.ofString "begun") tk)) := by with_unfolding_all rfl) (hg : ∀ r, letTemporaryGo value (.ref kd) r = pure () := by intro _; with_unfolding_all rfl) :
    wpAny (model prog w) A (subscriptTail value slice (.ref kd) (.str (Str.ofString "begun") tk)) Q E s := kda_item (knd := PySem.strKind prog w) N hp hd (strKind_is _ _ _ _) (by rfl) h hs hg
theorem known_get_goaway {value slice : PySem.Expr} {Q : Value → Shared → Prop} (N : News h₀ L s.heap news) (hp : (kd, ko) ∈ news) (hd : KnownIs prog w ko bv gv tv) (h : Q gv { s with toks := s.toks + 1 })
    (hs : subscripted slice false (.ref kd) (.str (Str.ofString "goaway") tk) = operate [.ref kd, .str (Str.ofString "goaway") tk] (getItem (.ref kd) (.str (Str.ofString "goaway") tk)) := by with_unfolding_all rfl) (hg : ∀ r, letTemporaryGo value (.ref kd) r = pure () := by intro _; with_unfolding_all rfl) :
    wpAny (model prog w) A (subscriptTail value slice (.ref kd) (.str (Str.ofString "goaway") tk)) Q E s := kda_item (knd := PySem.strKind prog w) N hp hd (strKind_is _ _ _ _) (by rfl) h hs hg
theorem known_get_most {value slice : PySem.Expr} {Q : Value → Shared → Prop} (N : News h₀ L s.heap news) (hp : (kd, ko) ∈ news) (hd : KnownIs prog w ko bv gv tv) (h : Q tv { s with toks := s.toks + 1 })
    (hs : subscripted slice false (.ref kd) (.str (Str.ofString "most") tk) = operate [.ref kd, .str (Str.ofString "most") tk] (getItem (.ref kd) (.str (Str.ofString "most") tk)) := by with_unfolding_all rfl) (hg : ∀ r, letTemporaryGo value (.ref kd) r = pure () := by intro _; with_unfolding_all rfl) :
    wpAny (model prog w) A (subscriptTail value slice (.ref kd) (.str (Str.ofString "most") tk)) Q E s := kda_item (knd := PySem.strKind prog w) N hp hd (strKind_is _ _ _ _) (by rfl) h hs hg
theorem size3 {a b c : PySem.Str × Value} : [a, b, c].length ≤ sizeLine := by rw [sizeLine_eq]; exact Nat.le_of_ble_eq_true rfl
theorem known_set_begun {Q : Unit → Shared → Prop} (F : Fr h₀ L s.heap m) (N : News h₀ L s.heap news) (U : UpdF kd ko news g) (hd : KnownIs prog w ko bv gv tv)
    (h : ∀ h' o', Fr h₀ L h' m → News h₀ L h' (g o') → KnownIs prog w o' v gv tv → Q () { s with heap := h', toks := s.toks + 1 }) : wpAny (model prog w) A (setItem (.ref kd) (.str (Str.ofString "begun") tk) v) Q E s :=
  kda_set (knd := PySem.strKind prog w) F N U hd (strKind_is _ _ _ _) size3 h
theorem known_set_goaway {Q : Unit → Shared → Prop} (F : Fr h₀ L s.heap m) (N : News h₀ L s.heap news) (U : UpdF kd ko news g) (hd : KnownIs prog w ko bv gv tv)
    (h : ∀ h' o', Fr h₀ L h' m → News h₀ L h' (g o') → KnownIs prog w o' bv v tv → Q () { s with heap := h', toks := s.toks + 1 }) : wpAny (model prog w) A (setItem (.ref kd) (.str (Str.ofString "goaway") tk) v) Q E s :=
  kda_set (knd := PySem.strKind prog w) F N U hd (strKind_is _ _ _ _) size3 h
theorem known_set_most {Q : Unit → Shared → Prop} (F : Fr h₀ L s.heap m) (N : News h₀ L s.heap news) (U : UpdF kd ko news g) (hd : KnownIs prog w ko bv gv tv)
    (h : ∀ h' o', Fr h₀ L h' m → News h₀ L h' (g o') → KnownIs prog w o' bv gv v → Q () { s with heap := h', toks := s.toks + 1 }) : wpAny (model prog w) A (setItem (.ref kd) (.str (Str.ofString "most") tk) v) Q E s :=
  kda_set (knd := PySem.strKind prog w) F N U hd (strKind_is _ _ _ _) size3 h
end
end C4
theorem said_C6 : True := by
  k_with_none
  k_with "k_room" => ktr_room
  k_with "k_units" => ktr_units
  k_with "k_all" => assumption
  k_with "k_all" => exact allLt_ne (by assumption) (by intro q hq; repeat (first | exact hq | refine List.Mem.tail _ ?_))
  k_with "k_ne" => (refine neN ?_; (try dsimp only); first | assumption | exact Ne.symm (by assumption) | exact Nat.ne_of_gt (allLt_at (by assumption) (by k_mem)) | exact Nat.ne_of_lt (allLt_at (by assumption) (by k_mem)) | omega)
  k_with "exec Raise some none" => (k_here; (with_reducible show wpAny _ _ (exec (Stmt.Raise (some (Expr.Call (Expr.Name ("H3Error" : Str) _) (_ :: _) [] _)) none _) _) _ _ _); (refine Raise_31 rfl ?_))
  k_with "call ref" => (k_here; (with_reducible show wpAny _ _ (call (Value.ref 31) [Value.int _ _, Value.str _ _]) (Raisable31 _) _ _); k_dflt (refine' h3_make ?B ?F ?X ?N ?T ?hk ?c0 ?c1 ?hl ?hd ?hu ?_; (case B => k_asm); (case F => k_asm); (case X => k_asm); (case N => k_asm); (case T => k_asm); (case hk => first | exact rfl | assumption); (case c0 => decide); (case c1 => decide); (case hl => first | decide | assumption); (case hd => ktr_room); (case hu => ktr_units); k_whole); intro e' dx' t' es' n' h' tk' F' N' g' hne' hed'; refine ⟨_, _, _, rfl, h3_at (by k_in), (N' _ (List.Mem.head _)).1, ?_⟩; (try dsimp only))
  k_with "leaving ref" => (k_here; first
  | ((rename RaisedD _ _ _ _ _ _ _ _ _ => rdX); (refine' leave_onD ?k1 ?k2 ?k3 ?k4 ?k5 ?_; (case k3 => exact rdX); (case k2 => assumption); (case k1 => assumption); (case k4 => assumption); (case k5 => exact rfl); k_whole); intro h' R' U'; (try dsimp only at R' U' ⊢))
  | ((refine' leave_firstD ?k1 ?k2 ?k3 ?k4 ?k5 ?k6 ?k7 ?_; (case k3 => k_asm); (case k2 => assumption); (case k1 => assumption); (case k4 => assumption); (case k5 => assumption); (case k6 => exact rfl); (case k7 => exact rfl); k_whole); intro h' R' U'; (try dsimp only at R' U' ⊢)))
  k_with "noteFrame ref" => (k_here; k_dflt (refine' caught_D ?R ?F ?K ?U ?XB ?TB ?D ?T0 ?ex ?_; (case R => assumption); (case F => assumption); (case K => assumption); (case U => assumption); (case XB => assumption); (case TB => assumption); (case D => assumption); (case T0 => first | assumption | exact KtsTurn.refl); (case ex => k_is); k_whole); intro h' g' ws' sl' tk' T' F' N' K' X' P' D'; (try k_lift K'); (try k_sweep))
  k_with "getAttr ref" => (k_here; (with_reducible show wpAny _ _ (getAttr (Value.ref _) (Str.ofString "code") _) _ _ _); k_dflt (refine' get31 ?X ?I ?ha ?hl ?hv ?_; (case X => k_in); (case I => exact inst_news31 (by k_asm) (by k_mem) (by k_mem)); (case ha => k_is); (case hl => assumption); (case hv => exact rfl); k_whole))
  k_with "compareOp NotIn str ref" => (k_here; first
  | (refine' notin35 (b := false) ?X ?hb ?_; (case X => k_in); (case hb => decide +kernel))
  | (refine' notin35 (b := true) ?X ?hb ?_; (case X => k_in); (case hb => decide +kernel))
  | (refine' notin36 (b := false) ?X ?hb ?_; (case X => k_in); (case hb => decide +kernel))
  | (refine' notin36 (b := true) ?X ?hb ?_; (case X => k_in); (case hb => decide +kernel)))
  k_with "call ref" => (k_here; (with_reducible show wpAny _ _ (call (Value.ref 155) [Value.ref _, Value.int _ _]) _ _ _); k_dflt (refine' take_spec ?B ?F ?X ?N ?T ?hk ?hI ?hn ?hi ?hx ?hx2 ?hm ?hm2 ?hbD ?hoff ?hd ?hu ?_; (case B => k_asm); (case F => k_asm); (case X => k_asm); (case N => first | k_asm | exact news_pull [_] (by k_asm) | exact news_pull [_, _] (by k_asm) | exact news_pull [_, _, _] (by k_asm) | exact news_pull [_, _, _, _] (by k_asm) | exact news_pull [_, _, _, _, _] (by k_asm) | exact news_pull [_, _, _, _, _, _] (by k_asm)); (case T => k_asm); (case hk => first | exact rfl | assumption); (case hI => assumption); (case hn => assumption); (case hi => first | assumption | decide); (case hx => first | assumption | decide); (case hx2 => first | assumption | decide); (case hm => first | decide | assumption); (case hm2 => first | decide | assumption); (case hbD => first | assumption | k_ne); (case hoff => k_all); (case hd => ktr_room); (case hu => ktr_units); k_whole); intro r' i' x' tr' ti' tx' h' tk' hr0' hr1' hi0' hx0' hx1' F' N'; (try dsimp only [List.cons_append, List.nil_append] at N'))
  k_with "subscriptTail" => (k_here; (with_reducible show wpAny _ _ (subscriptTail _ _ (Value.ref _) (Value.int _ _)) _ _ _); (refine' sub_two ?h0 ?h2 ?_ ?_; (case h0 => with_reducible assumption); (case h2 => with_reducible assumption); all_goals intro e2'))
  k_with "execs cons" => (k_here; (with_reducible show wpAny _ _ _ _ _ (Shared.mk _ _ _ (_ + 1) _)); refine gen_toks ?_; intro tk)
  k_with "execs nil" => (k_here; (with_reducible show wpAny _ _ _ _ _ (Shared.mk _ _ _ (_ + 1) _)); refine gen_toks ?_; intro tk)
  trivial
section C6
theorem news_front {h₀ h : Heap} {L : Addr} {l l' : List (Addr × Obj)} (N : News h₀ L h l) (hs : ∀ p ∈ l', p ∈ l) : News h₀ L h l' := fun p hp => N p (hs p hp)
def peerOf : Bool → PySem.Str
  | true => Str.ofString "client"
  | false => Str.ofString "server"
def rulesD (w : World) (t1 t2 t3 t4 t5 : VTok) (pv mv sv gv tv : Value) : Obj :=
  dictOf [⟨PyData.keyHash w.params (Str.ofString "peer"), .str (Str.ofString "peer") t1, pv⟩, ⟨PyData.keyHash w.params (Str.ofString "most_push"), .str (Str.ofString "most_push") t2, mv⟩,
    ⟨PyData.keyHash w.params (Str.ofString "settings"), .str (Str.ofString "settings") t3, sv⟩, ⟨PyData.keyHash w.params (Str.ofString "goaway"), .str (Str.ofString "goaway") t4, gv⟩, ⟨PyData.keyHash w.params (Str.ofString "told_most"), .str (Str.ofString "told_most") t5, tv⟩] 5
end C6
theorem said_D0 : True := by
  k_with_none
  k_with "k_room" => ktr_room
  k_with "k_units" => ktr_units
  k_with "k_all" => assumption
  k_with "k_all" => exact allLt_ne (by assumption) (by intro q hq; repeat (first | exact hq | refine List.Mem.tail _ ?_))
  k_with "k_ne" => (refine neN ?_; (try dsimp only); first | assumption | exact Ne.symm (by assumption) | exact Nat.ne_of_gt (allLt_at (by assumption) (by k_mem)) | exact Nat.ne_of_lt (allLt_at (by assumption) (by k_mem)) | omega)
  k_with "exec Raise some none" => (k_here; (with_reducible show wpAny _ _ (exec (Stmt.Raise (some (Expr.Call (Expr.Name ("H3Error" : Str) _) (_ :: _) [] _)) none _) _) _ _ _); (refine Raise_31 rfl ?_))
  k_with "call ref" => (k_here; (with_reducible show wpAny _ _ (call (Value.ref 31) [Value.int _ _, Value.str _ _]) (Raisable31 _) _ _); k_dflt (refine' h3_make ?B ?F ?X ?N ?T ?hk ?c0 ?c1 ?hl ?hd ?hu ?_; (case B => k_asm); (case F => k_asm); (case X => k_asm); (case N => k_asm); (case T => k_asm); (case hk => first | exact rfl | assumption); (case c0 => decide); (case c1 => decide); (case hl => first | decide | assumption); (case hd => ktr_room); (case hu => ktr_units); k_whole); intro e' dx' t' es' n' h' tk' F' N' g' hne' hed'; refine ⟨_, _, _, rfl, h3_at (by k_in), (N' _ (List.Mem.head _)).1, ?_⟩; (try dsimp only))
  k_with "leaving ref" => (k_here; first
  | ((rename RaisedD _ _ _ _ _ _ _ _ _ => rdX); (refine' leave_onD ?k1 ?k2 ?k3 ?k4 ?k5 ?_; (case k3 => exact rdX); (case k2 => assumption); (case k1 => assumption); (case k4 => assumption); (case k5 => exact rfl); k_whole); intro h' R' U'; (try dsimp only at R' U' ⊢))
  | ((refine' leave_firstD ?k1 ?k2 ?k3 ?k4 ?k5 ?k6 ?k7 ?_; (case k3 => k_asm); (case k2 => assumption); (case k1 => assumption); (case k4 => assumption); (case k5 => assumption); (case k6 => exact rfl); (case k7 => exact rfl); k_whole); intro h' R' U'; (try dsimp only at R' U' ⊢)))
  k_with "noteFrame ref" => (k_here; k_dflt (refine' caught_D ?R ?F ?K ?U ?XB ?TB ?D ?T0 ?ex ?_; (case R => assumption); (case F => assumption); (case K => assumption); (case U => assumption); (case XB => assumption); (case TB => assumption); (case D => assumption); (case T0 => first | assumption | exact KtsTurn.refl); (case ex => k_is); k_whole); intro h' g' ws' sl' tk' T' F' N' K' X' P' D'; (try k_lift K'); (try k_sweep))
  k_with "getAttr ref" => (k_here; (with_reducible show wpAny _ _ (getAttr (Value.ref _) (Str.ofString "code") _) _ _ _); k_dflt (refine' get31 ?X ?I ?ha ?hl ?hv ?_; (case X => k_in); (case I => exact inst_news31 (by k_asm) (by k_mem) (by k_mem)); (case ha => k_is); (case hl => assumption); (case hv => exact rfl); k_whole))
  k_with "compareOp NotIn str ref" => (k_here; first
  | (refine' notin35 (b := false) ?X ?hb ?_; (case X => k_in); (case hb => decide +kernel))
  | (refine' notin35 (b := true) ?X ?hb ?_; (case X => k_in); (case hb => decide +kernel))
  | (refine' notin36 (b := false) ?X ?hb ?_; (case X => k_in); (case hb => decide +kernel))
  | (refine' notin36 (b := true) ?X ?hb ?_; (case X => k_in); (case hb => decide +kernel)))
  k_with "call ref" => (k_here; (with_reducible show wpAny _ _ (call (Value.ref 155) [Value.ref _, Value.int _ _]) _ _ _); k_dflt (refine' take_spec ?B ?F ?X ?N ?T ?hk ?hI ?hn ?hi ?hx ?hx2 ?hm ?hm2 ?hbD ?hoff ?hd ?hu ?_; (case B => k_asm); (case F => k_asm); (case X => k_asm); (case N => first | k_asm | exact news_pull [_] (by k_asm) | exact news_pull [_, _] (by k_asm) | exact news_pull [_, _, _] (by k_asm) | exact news_pull [_, _, _, _] (by k_asm) | exact news_pull [_, _, _, _, _] (by k_asm) | exact news_pull [_, _, _, _, _, _] (by k_asm)); (case T => k_asm); (case hk => first | exact rfl | assumption); (case hI => assumption); (case hn => assumption); (case hi => first | assumption | decide); (case hx => first | assumption | decide); (case hx2 => first | assumption | decide); (case hm => first | decide | assumption); (case hm2 => first | decide | assumption); (case hbD => first | assumption | k_ne); (case hoff => k_all); (case hd => ktr_room); (case hu => ktr_units); k_whole); intro r' i' x' tr' ti' tx' h' tk' hr0' hr1' hi0' hx0' hx1' F' N'; (try dsimp only [List.cons_append, List.nil_append] at N'))
  k_with "subscriptTail" => (k_here; (with_reducible show wpAny _ _ (subscriptTail _ _ (Value.ref _) (Value.int _ _)) _ _ _); (refine' sub_two ?h0 ?h2 ?_ ?_; (case h0 => with_reducible assumption); (case h2 => with_reducible assumption); all_goals intro e2'))
  k_with "execs cons" => (k_here; (with_reducible show wpAny _ _ _ _ _ (Shared.mk _ _ _ (_ + 1) _)); refine gen_toks ?_; intro tk)
  k_with "execs nil" => (k_here; (with_reducible show wpAny _ _ _ _ _ (Shared.mk _ _ _ (_ + 1) _)); refine gen_toks ?_; intro tk)
  k_with "subscriptTail" => (k_here; first
  | ((with_reducible show wpAny _ _ (subscriptTail _ _ (Value.ref _) (Value.str (Str.ofString "begun") _)) _ _ _); k_dflt (refine' known_get_begun ?N ?m ?d ?_; (case N => k_asm); (case m => k_mem); (case d => assumption)))
  | ((with_reducible show wpAny _ _ (subscriptTail _ _ (Value.ref _) (Value.str (Str.ofString "goaway") _)) _ _ _); k_dflt (refine' known_get_goaway ?N ?m ?d ?_; (case N => k_asm); (case m => k_mem); (case d => assumption)))
  | ((with_reducible show wpAny _ _ (subscriptTail _ _ (Value.ref _) (Value.str (Str.ofString "most") _)) _ _ _); k_dflt (refine' known_get_most ?N ?m ?d ?_; (case N => k_asm); (case m => k_mem); (case d => assumption))))
  k_with "setItem ref str" => (k_here; (first
  | ((with_reducible show wpAny _ _ (setItem (Value.ref _) (Value.str (Str.ofString "begun") _) _) _ _ _); k_dflt (refine' known_set_begun ?F ?N ?U ?d ?_; (case F => k_asm); (case N => k_asm); (case U => k_updF); (case d => assumption)))
  | ((with_reducible show wpAny _ _ (setItem (Value.ref _) (Value.str (Str.ofString "goaway") _) _) _ _ _); k_dflt (refine' known_set_goaway ?F ?N ?U ?d ?_; (case F => k_asm); (case N => k_asm); (case U => k_updF); (case d => assumption)))
  | ((with_reducible show wpAny _ _ (setItem (Value.ref _) (Value.str (Str.ofString "most") _) _) _ _ _); k_dflt (refine' known_set_most ?F ?N ?U ?d ?_; (case F => k_asm); (case N => k_asm); (case U => k_updF); (case d => assumption)))); intro h' o' F' N' hd'; (try dsimp only at N'))
  trivial
section D0
set_option maxHeartbeats 16000000 in
theorem due_settings {prog : Program} {w : World} {p : Program} {loose : List Str} {mean : ExcName → Option Value} {mg mb : Str → Option Value}
    {kd f : Addr} {ko : Obj} {gv tv mv : Value} {client : Bool} {most g t : Option Int} {x y : Int} {tp : Tok} {fl rest : List (Addr × Obj)}
    {dp un : Nat} {gd : Option (List Code)} {cn : Str} {cs : Scope} {a : Addr} {ccd : Value} {cl : List (Str × Addr)} {outer : List Env} {A₀ : Around} {base h₀ : Heap} {L : Addr} {m : Str → Option Value} {s : Shared} {Q E : Value → Shared → Prop}
    (B : Below A₀ base outer h₀) (F : Fr h₀ L s.heap m) (X : (Mine.hd.heap_39 w.params).In h₀)
    (N : News h₀ L s.heap ((kd, ko) :: (fl ++ rest))) (hK : KnownIs prog w ko (.bool true) gv tv) (hg : OptIs gv g) (ht : OptIs tv t) (hmo : OptIs mv most) (hfl : CFrame fl f (.settings x y))
    (hne : ∀ p ∈ fl ++ rest, p.1 ≠ kd)
    (T : Top p loose mean mg mb h₀) (hk : cs.kind = .function)
    (hd : dp + 3 < recursionLimit) (hu : un + 28 < cLine)
    (hret : ∀ (v gv' tv' : Value) (du g' t' : Option Int) (ko' : Obj) (h' : Heap) (tk' : Nat), Fr h₀ L h' m → News h₀ L h' ((kd, ko') :: (fl ++ rest)) → KnownIs prog w ko' (.bool true) gv' tv' → OptIs v du → OptIs gv' g' → OptIs tv' t' →
      cdue client most g t (.settings x y) = (du, g', t') → Q v { s with heap := h', toks := tk' }) :
    wpAny (model prog w) (ktrTop dp un gd cn cs L a ccd cl outer) (call (.ref 176) [.ref kd, .ref f, .str (peerOf client) tp, mv]) Q E s := by
  refine wpAny_call ?_
  obtain ⟨_, _, _, _, _, _, _, _, rfl⟩ := hfl
  simp only [List.cons_append, List.nil_append] at N hne hret
  all_goals (k_dflt cell_enter; refine gen_qn ?_; intro QF hQF; k_steps)
  all_goals (subst hQF; (try dsimp only); k_steps)
  all_goals (rename News _ _ _ _ => nL; first
    | exact hret _ _ _ (some 261) _ _ _ _ _ (by assumption) (kst_newsOf nL (by kst_allIn)) (by assumption) (OptIs.some _ _) (by (first | assumption | exact OptIs.none | exact OptIs.some _ _)) (by (first | assumption | exact OptIs.none | exact OptIs.some _ _)) (by (first | rfl | exact cd_g4 (by omega) | exact cd_g1 (by omega) | exact cd_g2 (by omega) | exact cd_g5 (by omega) (by omega) | exact cd_g6 (by omega) (by omega) | exact cd_g7 (by omega) | exact cd_m3 (by omega) | exact cd_m4 (by omega) | exact cd_c2 (by omega) | exact cd_c3 (by omega) | exact cd_c5 (by omega) | exact cd_c6 (by omega)))
    | exact hret _ _ _ (some 264) _ _ _ _ _ (by assumption) (kst_newsOf nL (by kst_allIn)) (by assumption) (OptIs.some _ _) (by (first | assumption | exact OptIs.none | exact OptIs.some _ _)) (by (first | assumption | exact OptIs.none | exact OptIs.some _ _)) (by (first | rfl | exact cd_g4 (by omega) | exact cd_g1 (by omega) | exact cd_g2 (by omega) | exact cd_g5 (by omega) (by omega) | exact cd_g6 (by omega) (by omega) | exact cd_g7 (by omega) | exact cd_m3 (by omega) | exact cd_m4 (by omega) | exact cd_c2 (by omega) | exact cd_c3 (by omega) | exact cd_c5 (by omega) | exact cd_c6 (by omega)))
    | exact hret _ _ _ none _ _ _ _ _ (by assumption) (kst_newsOf nL (by kst_allIn)) (by assumption) OptIs.none (by (first | assumption | exact OptIs.none | exact OptIs.some _ _)) (by (first | assumption | exact OptIs.none | exact OptIs.some _ _)) (by (first | rfl | exact cd_g4 (by omega) | exact cd_g1 (by omega) | exact cd_g2 (by omega) | exact cd_g5 (by omega) (by omega) | exact cd_g6 (by omega) (by omega) | exact cd_g7 (by omega) | exact cd_m3 (by omega) | exact cd_m4 (by omega) | exact cd_c2 (by omega) | exact cd_c3 (by omega) | exact cd_c5 (by omega) | exact cd_c6 (by omega))))
end D0
section D1
set_option maxHeartbeats 16000000 in
theorem due_data {prog : Program} {w : World} {p : Program} {loose : List Str} {mean : ExcName → Option Value} {mg mb : Str → Option Value}
    {kd f : Addr} {ko : Obj} {gv tv mv : Value} {client : Bool} {most g t : Option Int} {tp : Tok} {fl rest : List (Addr × Obj)}
    {dp un : Nat} {gd : Option (List Code)} {cn : Str} {cs : Scope} {a : Addr} {ccd : Value} {cl : List (Str × Addr)} {outer : List Env} {A₀ : Around} {base h₀ : Heap} {L : Addr} {m : Str → Option Value} {s : Shared} {Q E : Value → Shared → Prop}
    (B : Below A₀ base outer h₀) (F : Fr h₀ L s.heap m) (X : (Mine.hd.heap_39 w.params).In h₀)
    (N : News h₀ L s.heap ((kd, ko) :: (fl ++ rest))) (hK : KnownIs prog w ko (.bool true) gv tv) (hg : OptIs gv g) (ht : OptIs tv t) (hmo : OptIs mv most) (hfl : CFrame fl f (.data))
    (hne : ∀ p ∈ fl ++ rest, p.1 ≠ kd)
    (T : Top p loose mean mg mb h₀) (hk : cs.kind = .function)
    (hd : dp + 3 < recursionLimit) (hu : un + 28 < cLine)
    (hret : ∀ (v gv' tv' : Value) (du g' t' : Option Int) (ko' : Obj) (h' : Heap) (tk' : Nat), Fr h₀ L h' m → News h₀ L h' ((kd, ko') :: (fl ++ rest)) → KnownIs prog w ko' (.bool true) gv' tv' → OptIs v du → OptIs gv' g' → OptIs tv' t' →
      cdue client most g t (.data) = (du, g', t') → Q v { s with heap := h', toks := tk' }) :
    wpAny (model prog w) (ktrTop dp un gd cn cs L a ccd cl outer) (call (.ref 176) [.ref kd, .ref f, .str (peerOf client) tp, mv]) Q E s := by
  refine wpAny_call ?_
  obtain ⟨_, _, rfl⟩ := hfl
  simp only [List.cons_append, List.nil_append] at N hne hret
  all_goals (k_dflt cell_enter; refine gen_qn ?_; intro QF hQF; k_steps)
  all_goals (subst hQF; (try dsimp only); k_steps)
  all_goals (rename News _ _ _ _ => nL; first
    | exact hret _ _ _ (some 261) _ _ _ _ _ (by assumption) (kst_newsOf nL (by kst_allIn)) (by assumption) (OptIs.some _ _) (by (first | assumption | exact OptIs.none | exact OptIs.some _ _)) (by (first | assumption | exact OptIs.none | exact OptIs.some _ _)) (by (first | rfl | exact cd_g4 (by omega) | exact cd_g1 (by omega) | exact cd_g2 (by omega) | exact cd_g5 (by omega) (by omega) | exact cd_g6 (by omega) (by omega) | exact cd_g7 (by omega) | exact cd_m3 (by omega) | exact cd_m4 (by omega) | exact cd_c2 (by omega) | exact cd_c3 (by omega) | exact cd_c5 (by omega) | exact cd_c6 (by omega)))
    | exact hret _ _ _ (some 264) _ _ _ _ _ (by assumption) (kst_newsOf nL (by kst_allIn)) (by assumption) (OptIs.some _ _) (by (first | assumption | exact OptIs.none | exact OptIs.some _ _)) (by (first | assumption | exact OptIs.none | exact OptIs.some _ _)) (by (first | rfl | exact cd_g4 (by omega) | exact cd_g1 (by omega) | exact cd_g2 (by omega) | exact cd_g5 (by omega) (by omega) | exact cd_g6 (by omega) (by omega) | exact cd_g7 (by omega) | exact cd_m3 (by omega) | exact cd_m4 (by omega) | exact cd_c2 (by omega) | exact cd_c3 (by omega) | exact cd_c5 (by omega) | exact cd_c6 (by omega)))
    | exact hret _ _ _ none _ _ _ _ _ (by assumption) (kst_newsOf nL (by kst_allIn)) (by assumption) OptIs.none (by (first | assumption | exact OptIs.none | exact OptIs.some _ _)) (by (first | assumption | exact OptIs.none | exact OptIs.some _ _)) (by (first | rfl | exact cd_g4 (by omega) | exact cd_g1 (by omega) | exact cd_g2 (by omega) | exact cd_g5 (by omega) (by omega) | exact cd_g6 (by omega) (by omega) | exact cd_g7 (by omega) | exact cd_m3 (by omega) | exact cd_m4 (by omega) | exact cd_c2 (by omega) | exact cd_c3 (by omega) | exact cd_c5 (by omega) | exact cd_c6 (by omega))))
end D1
section D2
set_option maxHeartbeats 16000000 in
theorem due_headers {prog : Program} {w : World} {p : Program} {loose : List Str} {mean : ExcName → Option Value} {mg mb : Str → Option Value}
    {kd f : Addr} {ko : Obj} {gv tv mv : Value} {client : Bool} {most g t : Option Int} {tp : Tok} {fl rest : List (Addr × Obj)}
    {dp un : Nat} {gd : Option (List Code)} {cn : Str} {cs : Scope} {a : Addr} {ccd : Value} {cl : List (Str × Addr)} {outer : List Env} {A₀ : Around} {base h₀ : Heap} {L : Addr} {m : Str → Option Value} {s : Shared} {Q E : Value → Shared → Prop}
    (B : Below A₀ base outer h₀) (F : Fr h₀ L s.heap m) (X : (Mine.hd.heap_39 w.params).In h₀)
    (N : News h₀ L s.heap ((kd, ko) :: (fl ++ rest))) (hK : KnownIs prog w ko (.bool true) gv tv) (hg : OptIs gv g) (ht : OptIs tv t) (hmo : OptIs mv most) (hfl : CFrame fl f (.headers))
    (hne : ∀ p ∈ fl ++ rest, p.1 ≠ kd)
    (T : Top p loose mean mg mb h₀) (hk : cs.kind = .function)
    (hd : dp + 3 < recursionLimit) (hu : un + 28 < cLine)
    (hret : ∀ (v gv' tv' : Value) (du g' t' : Option Int) (ko' : Obj) (h' : Heap) (tk' : Nat), Fr h₀ L h' m → News h₀ L h' ((kd, ko') :: (fl ++ rest)) → KnownIs prog w ko' (.bool true) gv' tv' → OptIs v du → OptIs gv' g' → OptIs tv' t' →
      cdue client most g t (.headers) = (du, g', t') → Q v { s with heap := h', toks := tk' }) :
    wpAny (model prog w) (ktrTop dp un gd cn cs L a ccd cl outer) (call (.ref 176) [.ref kd, .ref f, .str (peerOf client) tp, mv]) Q E s := by
  refine wpAny_call ?_
  obtain ⟨_, _, rfl⟩ := hfl
  simp only [List.cons_append, List.nil_append] at N hne hret
  all_goals (k_dflt cell_enter; refine gen_qn ?_; intro QF hQF; k_steps)
  all_goals (subst hQF; (try dsimp only); k_steps)
  all_goals (rename News _ _ _ _ => nL; first
    | exact hret _ _ _ (some 261) _ _ _ _ _ (by assumption) (kst_newsOf nL (by kst_allIn)) (by assumption) (OptIs.some _ _) (by (first | assumption | exact OptIs.none | exact OptIs.some _ _)) (by (first | assumption | exact OptIs.none | exact OptIs.some _ _)) (by (first | rfl | exact cd_g4 (by omega) | exact cd_g1 (by omega) | exact cd_g2 (by omega) | exact cd_g5 (by omega) (by omega) | exact cd_g6 (by omega) (by omega) | exact cd_g7 (by omega) | exact cd_m3 (by omega) | exact cd_m4 (by omega) | exact cd_c2 (by omega) | exact cd_c3 (by omega) | exact cd_c5 (by omega) | exact cd_c6 (by omega)))
    | exact hret _ _ _ (some 264) _ _ _ _ _ (by assumption) (kst_newsOf nL (by kst_allIn)) (by assumption) (OptIs.some _ _) (by (first | assumption | exact OptIs.none | exact OptIs.some _ _)) (by (first | assumption | exact OptIs.none | exact OptIs.some _ _)) (by (first | rfl | exact cd_g4 (by omega) | exact cd_g1 (by omega) | exact cd_g2 (by omega) | exact cd_g5 (by omega) (by omega) | exact cd_g6 (by omega) (by omega) | exact cd_g7 (by omega) | exact cd_m3 (by omega) | exact cd_m4 (by omega) | exact cd_c2 (by omega) | exact cd_c3 (by omega) | exact cd_c5 (by omega) | exact cd_c6 (by omega)))
    | exact hret _ _ _ none _ _ _ _ _ (by assumption) (kst_newsOf nL (by kst_allIn)) (by assumption) OptIs.none (by (first | assumption | exact OptIs.none | exact OptIs.some _ _)) (by (first | assumption | exact OptIs.none | exact OptIs.some _ _)) (by (first | rfl | exact cd_g4 (by omega) | exact cd_g1 (by omega) | exact cd_g2 (by omega) | exact cd_g5 (by omega) (by omega) | exact cd_g6 (by omega) (by omega) | exact cd_g7 (by omega) | exact cd_m3 (by omega) | exact cd_m4 (by omega) | exact cd_c2 (by omega) | exact cd_c3 (by omega) | exact cd_c5 (by omega) | exact cd_c6 (by omega))))
end D2
section D3
set_option maxHeartbeats 16000000 in
theorem due_unknown {prog : Program} {w : World} {p : Program} {loose : List Str} {mean : ExcName → Option Value} {mg mb : Str → Option Value}
    {kd f : Addr} {ko : Obj} {gv tv mv : Value} {client : Bool} {most g t : Option Int} {tp : Tok} {fl rest : List (Addr × Obj)}
    {dp un : Nat} {gd : Option (List Code)} {cn : Str} {cs : Scope} {a : Addr} {ccd : Value} {cl : List (Str × Addr)} {outer : List Env} {A₀ : Around} {base h₀ : Heap} {L : Addr} {m : Str → Option Value} {s : Shared} {Q E : Value → Shared → Prop}
    (B : Below A₀ base outer h₀) (F : Fr h₀ L s.heap m) (X : (Mine.hd.heap_39 w.params).In h₀)
    (N : News h₀ L s.heap ((kd, ko) :: (fl ++ rest))) (hK : KnownIs prog w ko (.bool true) gv tv) (hg : OptIs gv g) (ht : OptIs tv t) (hmo : OptIs mv most) (hfl : CFrame fl f (.unknown))
    (hne : ∀ p ∈ fl ++ rest, p.1 ≠ kd)
    (T : Top p loose mean mg mb h₀) (hk : cs.kind = .function)
    (hd : dp + 3 < recursionLimit) (hu : un + 28 < cLine)
    (hret : ∀ (v gv' tv' : Value) (du g' t' : Option Int) (ko' : Obj) (h' : Heap) (tk' : Nat), Fr h₀ L h' m → News h₀ L h' ((kd, ko') :: (fl ++ rest)) → KnownIs prog w ko' (.bool true) gv' tv' → OptIs v du → OptIs gv' g' → OptIs tv' t' →
      cdue client most g t (.unknown) = (du, g', t') → Q v { s with heap := h', toks := tk' }) :
    wpAny (model prog w) (ktrTop dp un gd cn cs L a ccd cl outer) (call (.ref 176) [.ref kd, .ref f, .str (peerOf client) tp, mv]) Q E s := by
  refine wpAny_call ?_
  obtain ⟨_, _, _, rfl⟩ := hfl
  simp only [List.cons_append, List.nil_append] at N hne hret
  all_goals (k_dflt cell_enter; refine gen_qn ?_; intro QF hQF; k_steps)
  all_goals (subst hQF; (try dsimp only); k_steps)
  all_goals (rename News _ _ _ _ => nL; first
    | exact hret _ _ _ (some 261) _ _ _ _ _ (by assumption) (kst_newsOf nL (by kst_allIn)) (by assumption) (OptIs.some _ _) (by (first | assumption | exact OptIs.none | exact OptIs.some _ _)) (by (first | assumption | exact OptIs.none | exact OptIs.some _ _)) (by (first | rfl | exact cd_g4 (by omega) | exact cd_g1 (by omega) | exact cd_g2 (by omega) | exact cd_g5 (by omega) (by omega) | exact cd_g6 (by omega) (by omega) | exact cd_g7 (by omega) | exact cd_m3 (by omega) | exact cd_m4 (by omega) | exact cd_c2 (by omega) | exact cd_c3 (by omega) | exact cd_c5 (by omega) | exact cd_c6 (by omega)))
    | exact hret _ _ _ (some 264) _ _ _ _ _ (by assumption) (kst_newsOf nL (by kst_allIn)) (by assumption) (OptIs.some _ _) (by (first | assumption | exact OptIs.none | exact OptIs.some _ _)) (by (first | assumption | exact OptIs.none | exact OptIs.some _ _)) (by (first | rfl | exact cd_g4 (by omega) | exact cd_g1 (by omega) | exact cd_g2 (by omega) | exact cd_g5 (by omega) (by omega) | exact cd_g6 (by omega) (by omega) | exact cd_g7 (by omega) | exact cd_m3 (by omega) | exact cd_m4 (by omega) | exact cd_c2 (by omega) | exact cd_c3 (by omega) | exact cd_c5 (by omega) | exact cd_c6 (by omega)))
    | exact hret _ _ _ none _ _ _ _ _ (by assumption) (kst_newsOf nL (by kst_allIn)) (by assumption) OptIs.none (by (first | assumption | exact OptIs.none | exact OptIs.some _ _)) (by (first | assumption | exact OptIs.none | exact OptIs.some _ _)) (by (first | rfl | exact cd_g4 (by omega) | exact cd_g1 (by omega) | exact cd_g2 (by omega) | exact cd_g5 (by omega) (by omega) | exact cd_g6 (by omega) (by omega) | exact cd_g7 (by omega) | exact cd_m3 (by omega) | exact cd_m4 (by omega) | exact cd_c2 (by omega) | exact cd_c3 (by omega) | exact cd_c5 (by omega) | exact cd_c6 (by omega))))
end D3
section D4
set_option maxHeartbeats 16000000 in
theorem due_goaway {prog : Program} {w : World} {p : Program} {loose : List Str} {mean : ExcName → Option Value} {mg mb : Str → Option Value}
    {kd f : Addr} {ko : Obj} {gv tv mv : Value} {client : Bool} {most g t : Option Int} {n : Int} {tp : Tok} {fl rest : List (Addr × Obj)}
    {dp un : Nat} {gd : Option (List Code)} {cn : Str} {cs : Scope} {a : Addr} {ccd : Value} {cl : List (Str × Addr)} {outer : List Env} {A₀ : Around} {base h₀ : Heap} {L : Addr} {m : Str → Option Value} {s : Shared} {Q E : Value → Shared → Prop}
    (B : Below A₀ base outer h₀) (F : Fr h₀ L s.heap m) (X : (Mine.hd.heap_39 w.params).In h₀)
    (N : News h₀ L s.heap ((kd, ko) :: (fl ++ rest))) (hK : KnownIs prog w ko (.bool true) gv tv) (hg : OptIs gv g) (ht : OptIs tv t) (hmo : OptIs mv most) (hfl : CFrame fl f (.goaway n))
    (hne : ∀ p ∈ fl ++ rest, p.1 ≠ kd)
    (T : Top p loose mean mg mb h₀) (hk : cs.kind = .function)
    (hd : dp + 3 < recursionLimit) (hu : un + 28 < cLine)
    (hret : ∀ (v gv' tv' : Value) (du g' t' : Option Int) (ko' : Obj) (h' : Heap) (tk' : Nat), Fr h₀ L h' m → News h₀ L h' ((kd, ko') :: (fl ++ rest)) → KnownIs prog w ko' (.bool true) gv' tv' → OptIs v du → OptIs gv' g' → OptIs tv' t' →
      cdue client most g t (.goaway n) = (du, g', t') → Q v { s with heap := h', toks := tk' }) :
    wpAny (model prog w) (ktrTop dp un gd cn cs L a ccd cl outer) (call (.ref 176) [.ref kd, .ref f, .str (peerOf client) tp, mv]) Q E s := by
  refine wpAny_call ?_
  obtain ⟨_, _, rfl⟩ := hfl
  simp only [List.cons_append, List.nil_append] at N hne hret
  cases client <;> cases hg
  all_goals (k_dflt cell_enter; refine gen_qn ?_; intro QF hQF; k_steps)
  all_goals (subst hQF; (try dsimp only); k_steps)
  all_goals (rename News _ _ _ _ => nL; first
    | exact hret _ _ _ (some 261) _ _ _ _ _ (by assumption) (kst_newsOf nL (by kst_allIn)) (by assumption) (OptIs.some _ _) (by (first | assumption | exact OptIs.none | exact OptIs.some _ _)) (by (first | assumption | exact OptIs.none | exact OptIs.some _ _)) (by (first | rfl | exact cd_g4 (by omega) | exact cd_g1 (by omega) | exact cd_g2 (by omega) | exact cd_g5 (by omega) (by omega) | exact cd_g6 (by omega) (by omega) | exact cd_g7 (by omega) | exact cd_m3 (by omega) | exact cd_m4 (by omega) | exact cd_c2 (by omega) | exact cd_c3 (by omega) | exact cd_c5 (by omega) | exact cd_c6 (by omega)))
    | exact hret _ _ _ (some 264) _ _ _ _ _ (by assumption) (kst_newsOf nL (by kst_allIn)) (by assumption) (OptIs.some _ _) (by (first | assumption | exact OptIs.none | exact OptIs.some _ _)) (by (first | assumption | exact OptIs.none | exact OptIs.some _ _)) (by (first | rfl | exact cd_g4 (by omega) | exact cd_g1 (by omega) | exact cd_g2 (by omega) | exact cd_g5 (by omega) (by omega) | exact cd_g6 (by omega) (by omega) | exact cd_g7 (by omega) | exact cd_m3 (by omega) | exact cd_m4 (by omega) | exact cd_c2 (by omega) | exact cd_c3 (by omega) | exact cd_c5 (by omega) | exact cd_c6 (by omega)))
    | exact hret _ _ _ none _ _ _ _ _ (by assumption) (kst_newsOf nL (by kst_allIn)) (by assumption) OptIs.none (by (first | assumption | exact OptIs.none | exact OptIs.some _ _)) (by (first | assumption | exact OptIs.none | exact OptIs.some _ _)) (by (first | rfl | exact cd_g4 (by omega) | exact cd_g1 (by omega) | exact cd_g2 (by omega) | exact cd_g5 (by omega) (by omega) | exact cd_g6 (by omega) (by omega) | exact cd_g7 (by omega) | exact cd_m3 (by omega) | exact cd_m4 (by omega) | exact cd_c2 (by omega) | exact cd_c3 (by omega) | exact cd_c5 (by omega) | exact cd_c6 (by omega))))
end D4
section D5
set_option maxHeartbeats 16000000 in
theorem due_maxPush {prog : Program} {w : World} {p : Program} {loose : List Str} {mean : ExcName → Option Value} {mg mb : Str → Option Value}
    {kd f : Addr} {ko : Obj} {gv tv mv : Value} {client : Bool} {most g t : Option Int} {n : Int} {tp : Tok} {fl rest : List (Addr × Obj)}
    {dp un : Nat} {gd : Option (List Code)} {cn : Str} {cs : Scope} {a : Addr} {ccd : Value} {cl : List (Str × Addr)} {outer : List Env} {A₀ : Around} {base h₀ : Heap} {L : Addr} {m : Str → Option Value} {s : Shared} {Q E : Value → Shared → Prop}
    (B : Below A₀ base outer h₀) (F : Fr h₀ L s.heap m) (X : (Mine.hd.heap_39 w.params).In h₀)
    (N : News h₀ L s.heap ((kd, ko) :: (fl ++ rest))) (hK : KnownIs prog w ko (.bool true) gv tv) (hg : OptIs gv g) (ht : OptIs tv t) (hmo : OptIs mv most) (hfl : CFrame fl f (.maxPush n))
    (hne : ∀ p ∈ fl ++ rest, p.1 ≠ kd)
    (T : Top p loose mean mg mb h₀) (hk : cs.kind = .function)
    (hd : dp + 3 < recursionLimit) (hu : un + 28 < cLine)
    (hret : ∀ (v gv' tv' : Value) (du g' t' : Option Int) (ko' : Obj) (h' : Heap) (tk' : Nat), Fr h₀ L h' m → News h₀ L h' ((kd, ko') :: (fl ++ rest)) → KnownIs prog w ko' (.bool true) gv' tv' → OptIs v du → OptIs gv' g' → OptIs tv' t' →
      cdue client most g t (.maxPush n) = (du, g', t') → Q v { s with heap := h', toks := tk' }) :
    wpAny (model prog w) (ktrTop dp un gd cn cs L a ccd cl outer) (call (.ref 176) [.ref kd, .ref f, .str (peerOf client) tp, mv]) Q E s := by
  refine wpAny_call ?_
  obtain ⟨_, _, rfl⟩ := hfl
  simp only [List.cons_append, List.nil_append] at N hne hret
  cases client
  rotate_left
  cases ht
  all_goals (k_dflt cell_enter; refine gen_qn ?_; intro QF hQF; k_steps)
  all_goals (subst hQF; (try dsimp only); k_steps)
  all_goals (rename News _ _ _ _ => nL; first
    | exact hret _ _ _ (some 261) _ _ _ _ _ (by assumption) (kst_newsOf nL (by kst_allIn)) (by assumption) (OptIs.some _ _) (by (first | assumption | exact OptIs.none | exact OptIs.some _ _)) (by (first | assumption | exact OptIs.none | exact OptIs.some _ _)) (by (first | rfl | exact cd_g4 (by omega) | exact cd_g1 (by omega) | exact cd_g2 (by omega) | exact cd_g5 (by omega) (by omega) | exact cd_g6 (by omega) (by omega) | exact cd_g7 (by omega) | exact cd_m3 (by omega) | exact cd_m4 (by omega) | exact cd_c2 (by omega) | exact cd_c3 (by omega) | exact cd_c5 (by omega) | exact cd_c6 (by omega)))
    | exact hret _ _ _ (some 264) _ _ _ _ _ (by assumption) (kst_newsOf nL (by kst_allIn)) (by assumption) (OptIs.some _ _) (by (first | assumption | exact OptIs.none | exact OptIs.some _ _)) (by (first | assumption | exact OptIs.none | exact OptIs.some _ _)) (by (first | rfl | exact cd_g4 (by omega) | exact cd_g1 (by omega) | exact cd_g2 (by omega) | exact cd_g5 (by omega) (by omega) | exact cd_g6 (by omega) (by omega) | exact cd_g7 (by omega) | exact cd_m3 (by omega) | exact cd_m4 (by omega) | exact cd_c2 (by omega) | exact cd_c3 (by omega) | exact cd_c5 (by omega) | exact cd_c6 (by omega)))
    | exact hret _ _ _ none _ _ _ _ _ (by assumption) (kst_newsOf nL (by kst_allIn)) (by assumption) OptIs.none (by (first | assumption | exact OptIs.none | exact OptIs.some _ _)) (by (first | assumption | exact OptIs.none | exact OptIs.some _ _)) (by (first | rfl | exact cd_g4 (by omega) | exact cd_g1 (by omega) | exact cd_g2 (by omega) | exact cd_g5 (by omega) (by omega) | exact cd_g6 (by omega) (by omega) | exact cd_g7 (by omega) | exact cd_m3 (by omega) | exact cd_m4 (by omega) | exact cd_c2 (by omega) | exact cd_c3 (by omega) | exact cd_c5 (by omega) | exact cd_c6 (by omega))))
end D5
section D6
set_option maxHeartbeats 16000000 in
theorem due_cancelPush {prog : Program} {w : World} {p : Program} {loose : List Str} {mean : ExcName → Option Value} {mg mb : Str → Option Value}
    {kd f : Addr} {ko : Obj} {gv tv mv : Value} {client : Bool} {most g t : Option Int} {n : Int} {tp : Tok} {fl rest : List (Addr × Obj)}
    {dp un : Nat} {gd : Option (List Code)} {cn : Str} {cs : Scope} {a : Addr} {ccd : Value} {cl : List (Str × Addr)} {outer : List Env} {A₀ : Around} {base h₀ : Heap} {L : Addr} {m : Str → Option Value} {s : Shared} {Q E : Value → Shared → Prop}
    (B : Below A₀ base outer h₀) (F : Fr h₀ L s.heap m) (X : (Mine.hd.heap_39 w.params).In h₀)
    (N : News h₀ L s.heap ((kd, ko) :: (fl ++ rest))) (hK : KnownIs prog w ko (.bool true) gv tv) (hg : OptIs gv g) (ht : OptIs tv t) (hmo : OptIs mv most) (hfl : CFrame fl f (.cancelPush n))
    (hne : ∀ p ∈ fl ++ rest, p.1 ≠ kd)
    (T : Top p loose mean mg mb h₀) (hk : cs.kind = .function)
    (hd : dp + 3 < recursionLimit) (hu : un + 28 < cLine)
    (hret : ∀ (v gv' tv' : Value) (du g' t' : Option Int) (ko' : Obj) (h' : Heap) (tk' : Nat), Fr h₀ L h' m → News h₀ L h' ((kd, ko') :: (fl ++ rest)) → KnownIs prog w ko' (.bool true) gv' tv' → OptIs v du → OptIs gv' g' → OptIs tv' t' →
      cdue client most g t (.cancelPush n) = (du, g', t') → Q v { s with heap := h', toks := tk' }) :
    wpAny (model prog w) (ktrTop dp un gd cn cs L a ccd cl outer) (call (.ref 176) [.ref kd, .ref f, .str (peerOf client) tp, mv]) Q E s := by
  refine wpAny_call ?_
  obtain ⟨_, _, rfl⟩ := hfl
  simp only [List.cons_append, List.nil_append] at N hne hret
  cases client
  cases hmo
  rotate_left 2
  cases ht
  all_goals (k_dflt cell_enter; refine gen_qn ?_; intro QF hQF; k_steps)
  all_goals (subst hQF; (try dsimp only); k_steps)
  all_goals (rename News _ _ _ _ => nL; first
    | exact hret _ _ _ (some 261) _ _ _ _ _ (by assumption) (kst_newsOf nL (by kst_allIn)) (by assumption) (OptIs.some _ _) (by (first | assumption | exact OptIs.none | exact OptIs.some _ _)) (by (first | assumption | exact OptIs.none | exact OptIs.some _ _)) (by (first | rfl | exact cd_g4 (by omega) | exact cd_g1 (by omega) | exact cd_g2 (by omega) | exact cd_g5 (by omega) (by omega) | exact cd_g6 (by omega) (by omega) | exact cd_g7 (by omega) | exact cd_m3 (by omega) | exact cd_m4 (by omega) | exact cd_c2 (by omega) | exact cd_c3 (by omega) | exact cd_c5 (by omega) | exact cd_c6 (by omega)))
    | exact hret _ _ _ (some 264) _ _ _ _ _ (by assumption) (kst_newsOf nL (by kst_allIn)) (by assumption) (OptIs.some _ _) (by (first | assumption | exact OptIs.none | exact OptIs.some _ _)) (by (first | assumption | exact OptIs.none | exact OptIs.some _ _)) (by (first | rfl | exact cd_g4 (by omega) | exact cd_g1 (by omega) | exact cd_g2 (by omega) | exact cd_g5 (by omega) (by omega) | exact cd_g6 (by omega) (by omega) | exact cd_g7 (by omega) | exact cd_m3 (by omega) | exact cd_m4 (by omega) | exact cd_c2 (by omega) | exact cd_c3 (by omega) | exact cd_c5 (by omega) | exact cd_c6 (by omega)))
    | exact hret _ _ _ none _ _ _ _ _ (by assumption) (kst_newsOf nL (by kst_allIn)) (by assumption) OptIs.none (by (first | assumption | exact OptIs.none | exact OptIs.some _ _)) (by (first | assumption | exact OptIs.none | exact OptIs.some _ _)) (by (first | rfl | exact cd_g4 (by omega) | exact cd_g1 (by omega) | exact cd_g2 (by omega) | exact cd_g5 (by omega) (by omega) | exact cd_g6 (by omega) (by omega) | exact cd_g7 (by omega) | exact cd_m3 (by omega) | exact cd_m4 (by omega) | exact cd_c2 (by omega) | exact cd_c3 (by omega) | exact cd_c5 (by omega) | exact cd_c6 (by omega))))
end D6
section S0
set_option maxHeartbeats 16000000 in
theorem due0_settings {prog : Program} {w : World} {p : Program} {loose : List Str} {mean : ExcName → Option Value} {mg mb : Str → Option Value} {kd f : Addr} {ko : Obj} {mv : Value} {client : Bool} {x y : Int} {tp : Tok} {fl rest : List (Addr × Obj)}
    {dp un : Nat} {gd : Option (List Code)} {cn : Str} {cs : Scope} {a : Addr} {ccd : Value} {cl : List (Str × Addr)} {outer : List Env} {A₀ : Around} {base h₀ : Heap} {L : Addr} {m : Str → Option Value} {s : Shared} {Q E : Value → Shared → Prop} (B : Below A₀ base outer h₀) (F : Fr h₀ L s.heap m) (X : (Mine.hd.heap_39 w.params).In h₀)
    (N : News h₀ L s.heap ((kd, ko) :: (fl ++ rest))) (hK : KnownIs prog w ko (.bool false) .none .none) (hfl : CFrame fl f (.settings x y))
    (hne : ∀ p ∈ fl ++ rest, p.1 ≠ kd)
    (T : Top p loose mean mg mb h₀) (hk : cs.kind = .function)
    (hd : dp + 3 < recursionLimit) (hu : un + 28 < cLine)
    (hret : ∀ (ko' : Obj) (h' : Heap) (tk' : Nat), Fr h₀ L h' m → News h₀ L h' ((kd, ko') :: (fl ++ rest)) → KnownIs prog w ko' (.bool true) .none .none → Q .none { s with heap := h', toks := tk' }) :
    wpAny (model prog w) (ktrTop dp un gd cn cs L a ccd cl outer) (call (.ref 176) [.ref kd, .ref f, .str (peerOf client) tp, mv]) Q E s := by
  refine wpAny_call ?_
  obtain ⟨_, _, _, _, _, _, _, _, rfl⟩ := hfl
  simp only [List.cons_append, List.nil_append] at N hne hret
  all_goals (k_dflt cell_enter; k_steps)
  all_goals (rename News _ _ _ _ => nL; exact hret _ _ _ (by assumption) (kst_newsOf nL (by kst_allIn)) (by assumption))
set_option maxHeartbeats 16000000 in
theorem due0_goaway {prog : Program} {w : World} {p : Program} {loose : List Str} {mean : ExcName → Option Value} {mg mb : Str → Option Value} {kd f : Addr} {ko : Obj} {mv : Value} {client : Bool} {n : Int} {tp : Tok} {fl rest : List (Addr × Obj)}
    {dp un : Nat} {gd : Option (List Code)} {cn : Str} {cs : Scope} {a : Addr} {ccd : Value} {cl : List (Str × Addr)} {outer : List Env} {A₀ : Around} {base h₀ : Heap} {L : Addr} {m : Str → Option Value} {s : Shared} {Q E : Value → Shared → Prop} (B : Below A₀ base outer h₀) (F : Fr h₀ L s.heap m) (X : (Mine.hd.heap_39 w.params).In h₀)
    (N : News h₀ L s.heap ((kd, ko) :: (fl ++ rest))) (hK : KnownIs prog w ko (.bool false) .none .none) (hfl : CFrame fl f (.goaway n))
    (hne : ∀ p ∈ fl ++ rest, p.1 ≠ kd)
    (T : Top p loose mean mg mb h₀) (hk : cs.kind = .function)
    (hd : dp + 3 < recursionLimit) (hu : un + 28 < cLine)
    (hret : ∀ (tc : VTok) (h' : Heap) (tk' : Nat), Fr h₀ L h' m → News h₀ L h' ((kd, ko) :: (fl ++ rest)) → Q (.int 266 tc) { s with heap := h', toks := tk' }) :
    wpAny (model prog w) (ktrTop dp un gd cn cs L a ccd cl outer) (call (.ref 176) [.ref kd, .ref f, .str (peerOf client) tp, mv]) Q E s := by
  refine wpAny_call ?_
  obtain ⟨_, _, rfl⟩ := hfl
  simp only [List.cons_append, List.nil_append] at N hne hret
  all_goals (k_dflt cell_enter; k_steps)
  all_goals (rename News _ _ _ _ => nL; exact hret _ _ _ (by assumption) (kst_newsOf nL (by kst_allIn)))
end S0
theorem said_L1 : True := by
  k_with_none
  k_with "k_room" => ktr_room
  k_with "k_units" => ktr_units
  k_with "k_all" => assumption
  k_with "k_all" => exact allLt_ne (by assumption) (by intro q hq; repeat (first | exact hq | refine List.Mem.tail _ ?_))
  k_with "k_ne" => (refine neN ?_; (try dsimp only); first | assumption | exact Ne.symm (by assumption) | exact Nat.ne_of_gt (allLt_at (by assumption) (by k_mem)) | exact Nat.ne_of_lt (allLt_at (by assumption) (by k_mem)) | omega)
  k_with "exec Raise some none" => (k_here; (with_reducible show wpAny _ _ (exec (Stmt.Raise (some (Expr.Call (Expr.Name ("H3Error" : Str) _) (_ :: _) [] _)) none _) _) _ _ _); (refine Raise_31 rfl ?_))
  k_with "call ref" => (k_here; (with_reducible show wpAny _ _ (call (Value.ref 31) [Value.int _ _, Value.str _ _]) (Raisable31 _) _ _); k_dflt (refine' h3_make ?B ?F ?X ?N ?T ?hk ?c0 ?c1 ?hl ?hd ?hu ?_; (case B => k_asm); (case F => k_asm); (case X => k_asm); (case N => k_asm); (case T => k_asm); (case hk => first | exact rfl | assumption); (case c0 => decide); (case c1 => decide); (case hl => first | decide | assumption); (case hd => ktr_room); (case hu => ktr_units); k_whole); intro e' dx' t' es' n' h' tk' F' N' g' hne' hed'; refine ⟨_, _, _, rfl, h3_at (by k_in), (N' _ (List.Mem.head _)).1, ?_⟩; (try dsimp only))
  k_with "leaving ref" => (k_here; first
  | ((rename RaisedD _ _ _ _ _ _ _ _ _ => rdX); (refine' leave_onD ?k1 ?k2 ?k3 ?k4 ?k5 ?_; (case k3 => exact rdX); (case k2 => assumption); (case k1 => assumption); (case k4 => assumption); (case k5 => exact rfl); k_whole); intro h' R' U'; (try dsimp only at R' U' ⊢))
  | ((refine' leave_firstD ?k1 ?k2 ?k3 ?k4 ?k5 ?k6 ?k7 ?_; (case k3 => k_asm); (case k2 => assumption); (case k1 => assumption); (case k4 => assumption); (case k5 => assumption); (case k6 => exact rfl); (case k7 => exact rfl); k_whole); intro h' R' U'; (try dsimp only at R' U' ⊢)))
  k_with "noteFrame ref" => (k_here; k_dflt (refine' caught_D ?R ?F ?K ?U ?XB ?TB ?D ?T0 ?ex ?_; (case R => assumption); (case F => assumption); (case K => assumption); (case U => assumption); (case XB => assumption); (case TB => assumption); (case D => assumption); (case T0 => first | assumption | exact KtsTurn.refl); (case ex => k_is); k_whole); intro h' g' ws' sl' tk' T' F' N' K' X' P' D'; (try k_lift K'); (try k_sweep))
  k_with "getAttr ref" => (k_here; (with_reducible show wpAny _ _ (getAttr (Value.ref _) (Str.ofString "code") _) _ _ _); k_dflt (refine' get31 ?X ?I ?ha ?hl ?hv ?_; (case X => k_in); (case I => exact inst_news31 (by k_asm) (by k_mem) (by k_mem)); (case ha => k_is); (case hl => assumption); (case hv => exact rfl); k_whole))
  k_with "compareOp NotIn str ref" => (k_here; first
  | (refine' notin35 (b := false) ?X ?hb ?_; (case X => k_in); (case hb => decide +kernel))
  | (refine' notin35 (b := true) ?X ?hb ?_; (case X => k_in); (case hb => decide +kernel))
  | (refine' notin36 (b := false) ?X ?hb ?_; (case X => k_in); (case hb => decide +kernel))
  | (refine' notin36 (b := true) ?X ?hb ?_; (case X => k_in); (case hb => decide +kernel)))
  k_with "call ref" => (k_here; (with_reducible show wpAny _ _ (call (Value.ref 155) [Value.ref _, Value.int _ _]) _ _ _); k_dflt (refine' take_spec ?B ?F ?X ?N ?T ?hk ?hI ?hn ?hi ?hx ?hx2 ?hm ?hm2 ?hbD ?hoff ?hd ?hu ?_; (case B => k_asm); (case F => k_asm); (case X => k_asm); (case N => first | k_asm | exact news_pull [_] (by k_asm) | exact news_pull [_, _] (by k_asm) | exact news_pull [_, _, _] (by k_asm) | exact news_pull [_, _, _, _] (by k_asm) | exact news_pull [_, _, _, _, _] (by k_asm) | exact news_pull [_, _, _, _, _, _] (by k_asm)); (case T => k_asm); (case hk => first | exact rfl | assumption); (case hI => assumption); (case hn => assumption); (case hi => first | assumption | decide); (case hx => first | assumption | decide); (case hx2 => first | assumption | decide); (case hm => first | decide | assumption); (case hm2 => first | decide | assumption); (case hbD => first | assumption | k_ne); (case hoff => k_all); (case hd => ktr_room); (case hu => ktr_units); k_whole); intro r' i' x' tr' ti' tx' h' tk' hr0' hr1' hi0' hx0' hx1' F' N'; (try dsimp only [List.cons_append, List.nil_append] at N'))
  k_with "subscriptTail" => (k_here; (with_reducible show wpAny _ _ (subscriptTail _ _ (Value.ref _) (Value.int _ _)) _ _ _); (refine' sub_two ?h0 ?h2 ?_ ?_; (case h0 => with_reducible assumption); (case h2 => with_reducible assumption); all_goals intro e2'))
  k_with "execs cons" => (k_here; (with_reducible show wpAny _ _ _ _ _ (Shared.mk _ _ _ (_ + 1) _)); refine gen_toks ?_; intro tk)
  k_with "execs nil" => (k_here; (with_reducible show wpAny _ _ _ _ _ (Shared.mk _ _ _ (_ + 1) _)); refine gen_toks ?_; intro tk)
  k_with "callWith ref" => (k_here; refine Stop.out ?_)
  k_with "And" => (k_here; refine Stop.out ?_)
  k_with "a third, that the number of lines be another one" => skip
  trivial
section L1
theorem RaisedD.mono {base G : Heap} {l : List Env} {e dx : Addr} {es : List DictEntry} {n : Nat} {news news' : List (Addr × Obj)} {h : Heap} (R : RaisedD base G l e dx es n news h) (hs : ∀ q ∈ news', q ∈ news) : RaisedD base G l e dx es n news' h := by
  obtain ⟨B, a0, h1, h2, h3, h4⟩ := R
  refine ⟨B, a0, h1, h2, fun q hq => ?_, h4⟩
  rcases List.mem_cons.mp hq with rfl | hq
  · exact h3 _ (.head _)
  · exact h3 q (.tail _ (hs q hq))
def CalleeOk (prog : Program) (w : World) (p : Program) (loose : List Str) (mean : ExcName → Option Value) (mg mb : Str → Option Value) (q : Addr) (args : List Value) (news : List (Addr × Obj)) (Good : Value → List (Addr × Obj) → Prop) (Bad : Int → List (Addr × Obj) → Prop) : Prop :=
  ∀ {dp un : Nat} {gd : Option (List Code)} {cn : Str} {cs : Scope} {a : Addr} {ccd : Value} {cl : List (Str × Addr)} {outer : List Env} {A₀ : Around} {base h₀ : Heap} {L : Addr} {m : Str → Option Value} {s : Shared} {Q E : Value → Shared → Prop},
    Below A₀ base outer h₀ → Fr h₀ L s.heap m → (Mine.hd.heap_39 w.params).In h₀ → News h₀ L s.heap news → Top p loose mean mg mb h₀ → cs.kind = .function → dp + 7 < recursionLimit → un + 56 < cLine →
    (∀ (v : Value) (news1 : List (Addr × Obj)) (h' : Heap) (tk' : Nat), Good v news1 → Fr h₀ L h' m → News h₀ L h' news1 → Q v { s with heap := h', toks := tk' }) →
    (∀ (c : Int) (tc : VTok) (e dx : VAddr) (es : List DictEntry) (nd : Nat) (news2 : List (Addr × Obj)) (g₂ h' : Heap) (tk' : Nat), Bad c news2 → Fr h₀ L g₂ m → RaisedD base g₂ (envX cn cs L a ccd cl :: outer) e dx es nd news2 h' → g₂.UpToSlots h' →
      getL (Str.ofString "code") es = some (some (.int c tc)) → E (.ref e) { s with heap := h', toks := tk' }) →
    wpAny (model prog w) (ktrTop dp un gd cn cs L a ccd cl outer) (call (.ref q) args) Q E s
def Kept (prog : Program) (w : World) (q : Addr) (oq : Obj) : Prop := ∀ h : Heap, (h.get? q = some oq ∧ (Mine.hd.heap_39 w.params).In h) → ∃ k, (k = Keeper.frame ∨ k = Keeper.machine ∨ k = Keeper.boundFrame) ∧ Looks (model prog w) h (keeperOf (.ref q)) k
theorem callWith_P {prog : Program} {w : World} {A : Around} {E : Value → Shared → Prop} {s : Shared} {env : Env} {pos : Pos} {first : List Value} {Q : Value → Shared → Prop} {q : Addr} {oq : Obj} {e : PySem.Expr} {rest : List PySem.Expr} (hk : Kept prog w q oq)
    (h : wpAny (model prog w) A (spliced (backTo pos (starEach (e :: rest) env))) (fun vs s₁ => (s₁.heap.get? q = some oq ∧ (Mine.hd.heap_39 w.params).In s₁.heap) ∧ wpAny (model prog w) A (call (.ref q) (first ++ vs)) Q E s₁) E s)
    (he : starEach (e :: rest) env = (false, eval e env) :: starEach rest env := by rfl) (hplain : (backTo pos (starEach rest env)).any (·.1) = false := by rfl) :
    wpAny (model prog w) A (callWith pos (.ref q) first (backTo pos (starEach (e :: rest) env)) []) Q E s := by
  rw [he] at h ⊢
  exact callWith_of (by show ((false || (backTo pos (starEach rest env)).any (·.1)) || false) = false; rw [hplain]; rfl) hk (evalArgs_plain h)
set_option maxHeartbeats 16000000 in
theorem law_code_gen {prog : Program} {w : World} {p : Program} {loose : List Str} {mean : ExcName → Option Value} {mg mb : Str → Option Value} {q : Addr} {oq : Obj} {vv : Value} {news : List (Addr × Obj)} {Good : Value → List (Addr × Obj) → Prop} {Bad : Int → List (Addr × Obj) → Prop}
    {dp un : Nat} {gd : Option (List Code)} {cn : Str} {cs : Scope} {a : Addr} {ccd : Value} {cl : List (Str × Addr)} {outer : List Env} {A₀ : Around} {base h₀ : Heap} {L : Addr} {m : Str → Option Value} {s : Shared} {Q E : Value → Shared → Prop} (B : Below A₀ base outer h₀) (F : Fr h₀ L s.heap m) (X : (Mine.hd.heap_39 w.params).In h₀) (XB : (Mine.hd.heap_39 w.params).In base) (TB : Top p loose mean mg mb base) (D : KtsDicts (outer.filterMap (·.frame)) h₀)
    (N : News h₀ L s.heap news) (hq : (q, oq) ∈ news) (hkq : Kept prog w q oq) (T : Top p loose mean mg mb h₀) (hk : cs.kind = .function)
    (hd : dp + 8 < recursionLimit) (hu : un + 64 < cLine) (ok : CalleeOk prog w p loose mean mg mb q [vv] news Good Bad)
    (hgiv : ∀ (v : Value) (news1 : List (Addr × Obj)) (tup : VAddr) (tg : VTok) (h' : Heap) (tk' : Nat), Good v news1 → Fr h₀ L h' m → News h₀ L h' ((tup, tupOf [.str (Str.ofString "given") tg, v]) :: news1) → Q (.ref tup) { s with heap := h', toks := tk' })
    (href : ∀ (c : Int) (news2 : List (Addr × Obj)) (h₁ : Heap) (tup : VAddr) (tg tc : VTok) (h' : Heap) (tk' : Nat), Bad c news2 → KtsTurn (outer.filterMap (·.frame)) h₀ h₁ → Below A₀ base outer h₁ → (Mine.hd.heap_39 w.params).In h₁ → Top p loose mean mg mb h₁ → KtsDicts (outer.filterMap (·.frame)) h₁ → Fr h₁ L h' m →
      News h₁ L h' ((tup, tupOf [.str (Str.ofString "refused") tg, .int c tc]) :: news2) → Q (.ref tup) { s with heap := h', toks := tk' }) :
    wpAny (model prog w) (ktrTop dp un gd cn cs L a ccd cl outer) (call (.ref 162) [.ref q, vv]) Q E s := by
  refine wpAny_call ?_
  ((k_dflt (refine' code_defE ?B ?F ?X ?N ?T ?XB ?TB ?D KtsTurn.refl rfl rfl ?hk ?k6 ?k7 ?k8 ?k9 ?kB ?_ ?c2 ?c3 ?c4 ?c5; (case B => assumption); (case F => assumption); (case X => assumption); (case N => assumption); (case T => assumption); (case XB => assumption); (case TB => assumption); (case D => assumption); (case hk => assumption); (case k6 => k_is); (case k7 => k_is); (case k8 => ktr_room); (case k9 => exact BindsTo.of_eq rfl); (case kB => exact locs rfl); (case c2 => exact rfl); (case c3 => exact rfl); (case c4 => exact rfl); (case c5 => decide); k_whole); intro g' L' h' FG' F' N' B' X' T' D'; (try dsimp only); (try k_lift B'); (try k_fold)))
  k_steps
  refine Stop.in ?_
  refine callWith_P hkq ?_
  k_steps
  refine Stop.in ?_
  refine ⟨⟨News.get (by assumption) hq, Frag.In.keeps (by assumption) (Fr.keep (by assumption))⟩, ?_⟩
  (try dsimp only [List.nil_append, List.cons_append])
  k_dflt (refine' ok (by assumption) (by assumption) (by assumption) (by assumption) (by assumption) ?hk ?hd ?hu ?_ ?_)
  case hk => exact rfl
  case hd => ktr_room
  case hu => ktr_units
  · intro v n1 h1 tk1 hG F1 N1
    k_steps
    (rename News h₀ _ _ _ => nL)
    exact hgiv _ _ _ _ _ _ hG (by assumption) nL
  · intro c tc e dx es nd n2 g₂ h1 tk1 hB F1 R1 U1 hes
    k_steps
    (rename News _ _ _ _ => nL)
    exact href _ _ _ _ _ _ _ _ hB (by assumption) (by assumption) (by assumption) (by assumption) (by assumption) (by assumption) (kst_newsOf nL (by kst_allIn))
end L1
theorem said_G1 : True := by
  k_with_none
  trivial
section G1
theorem sub_app {l rest : List (Addr × Obj)} {a : Addr × Obj} (hs : ∀ p ∈ l, p ∈ rest) : ∀ p ∈ a :: (l ++ rest), p ∈ a :: rest := fun p hp => by
  rcases List.mem_cons.mp hp with rfl | hp
  · exact .head _
  · exact .tail _ ((List.mem_append.mp hp).elim (hs p) id)
theorem sub_app0 {l rest : List (Addr × Obj)} (hs : ∀ p ∈ l, p ∈ rest) : ∀ p ∈ l ++ rest, p ∈ rest := fun p hp => (List.mem_append.mp hp).elim (hs p) id
theorem sub_pap {l rest : List (Addr × Obj)} {a : Addr × Obj} : ∀ p ∈ a :: rest, p ∈ a :: (l ++ rest) := fun p hp => by
  rcases List.mem_cons.mp hp with rfl | hp
  · exact .head _
  · exact .tail _ (List.mem_append_right _ hp)
theorem due_any {prog : Program} {w : World} {p : Program} {loose : List Str} {mean : ExcName → Option Value} {mg mb : Str → Option Value} {kd f : Addr} {ko : Obj} {gv tv mv : Value} {client : Bool} {most g t : Option Int} {cf : CF} {tp : Tok} {fl rest : List (Addr × Obj)}
    {dp un : Nat} {gd : Option (List Code)} {cn : Str} {cs : Scope} {a : Addr} {ccd : Value} {cl : List (Str × Addr)} {outer : List Env} {A₀ : Around} {base h₀ : Heap} {L : Addr} {m : Str → Option Value} {s : Shared} {Q E : Value → Shared → Prop} (B : Below A₀ base outer h₀) (F : Fr h₀ L s.heap m) (X : (Mine.hd.heap_39 w.params).In h₀)
    (N : News h₀ L s.heap ((kd, ko) :: rest)) (hK : KnownIs prog w ko (.bool true) gv tv) (hg : OptIs gv g) (ht : OptIs tv t) (hmo : OptIs mv most) (hfl : CFrame fl f cf) (hsub : ∀ p ∈ fl, p ∈ rest)
    (hne : ∀ p ∈ rest, p.1 ≠ kd)
    (T : Top p loose mean mg mb h₀) (hk : cs.kind = .function)
    (hd : dp + 3 < recursionLimit) (hu : un + 28 < cLine)
    (hret : ∀ (v gv' tv' : Value) (du g' t' : Option Int) (ko' : Obj) (h' : Heap) (tk' : Nat), Fr h₀ L h' m → News h₀ L h' ((kd, ko') :: rest) → KnownIs prog w ko' (.bool true) gv' tv' → OptIs v du → OptIs gv' g' → OptIs tv' t' →
      cdue client most g t cf = (du, g', t') → Q v { s with heap := h', toks := tk' }) :
    wpAny (model prog w) (ktrTop dp un gd cn cs L a ccd cl outer) (call (.ref 176) [.ref kd, .ref f, .str (peerOf client) tp, mv]) Q E s := by
  have N' : News h₀ L s.heap ((kd, ko) :: (fl ++ rest)) := kst_newsOf N (sub_app hsub)
  have hne' : ∀ p ∈ fl ++ rest, p.1 ≠ kd := fun p hp => hne p (sub_app0 hsub p hp)
  have hr : ∀ (v gv' tv' : Value) (du g' t' : Option Int) (ko' : Obj) (h' : Heap) (tk' : Nat), Fr h₀ L h' m → News h₀ L h' ((kd, ko') :: (fl ++ rest)) → KnownIs prog w ko' (.bool true) gv' tv' → OptIs v du → OptIs gv' g' → OptIs tv' t' →
      cdue client most g t cf = (du, g', t') → Q v { s with heap := h', toks := tk' } := fun v gv' tv' du g' t' ko' h' tk' F' M' => hret v gv' tv' du g' t' ko' h' tk' F' (kst_newsOf M' sub_pap)
  cases cf with
  | settings x y => exact due_settings B F X N' hK hg ht hmo hfl hne' T hk hd hu hr
  | data => exact due_data B F X N' hK hg ht hmo hfl hne' T hk hd hu hr
  | headers => exact due_headers B F X N' hK hg ht hmo hfl hne' T hk hd hu hr
  | unknown => exact due_unknown B F X N' hK hg ht hmo hfl hne' T hk hd hu hr
  | goaway n => exact due_goaway B F X N' hK hg ht hmo hfl hne' T hk hd hu hr
  | maxPush n => exact due_maxPush B F X N' hK hg ht hmo hfl hne' T hk hd hu hr
  | cancelPush n => exact due_cancelPush B F X N' hK hg ht hmo hfl hne' T hk hd hu hr
end G1
theorem said_K0 : True := by
  k_with_none
  k_with "k_room" => ktr_room
  k_with "k_units" => ktr_units
  k_with "k_all" => assumption
  k_with "k_all" => exact allLt_ne (by assumption) (by intro q hq; repeat (first | exact hq | refine List.Mem.tail _ ?_))
  k_with "k_ne" => (refine neN ?_; (try dsimp only); first | assumption | exact Ne.symm (by assumption) | exact Nat.ne_of_gt (allLt_at (by assumption) (by k_mem)) | exact Nat.ne_of_lt (allLt_at (by assumption) (by k_mem)) | omega)
  k_with "exec Raise some none" => (k_here; (with_reducible show wpAny _ _ (exec (Stmt.Raise (some (Expr.Call (Expr.Name ("H3Error" : Str) _) (_ :: _) [] _)) none _) _) _ _ _); (refine Raise_31 rfl ?_))
  k_with "call ref" => (k_here; (with_reducible show wpAny _ _ (call (Value.ref 31) [Value.int _ _, Value.str _ _]) (Raisable31 _) _ _); k_dflt (refine' h3_make ?B ?F ?X ?N ?T ?hk ?c0 ?c1 ?hl ?hd ?hu ?_; (case B => k_asm); (case F => k_asm); (case X => k_asm); (case N => k_asm); (case T => k_asm); (case hk => first | exact rfl | assumption); (case c0 => decide); (case c1 => decide); (case hl => first | decide | assumption); (case hd => ktr_room); (case hu => ktr_units); k_whole); intro e' dx' t' es' n' h' tk' F' N' g' hne' hed'; refine ⟨_, _, _, rfl, h3_at (by k_in), (N' _ (List.Mem.head _)).1, ?_⟩; (try dsimp only))
  k_with "leaving ref" => (k_here; first
  | ((rename RaisedD _ _ _ _ _ _ _ _ _ => rdX); (refine' leave_onD ?k1 ?k2 ?k3 ?k4 ?k5 ?_; (case k3 => exact rdX); (case k2 => assumption); (case k1 => assumption); (case k4 => assumption); (case k5 => exact rfl); k_whole); intro h' R' U'; (try dsimp only at R' U' ⊢))
  | ((refine' leave_firstD ?k1 ?k2 ?k3 ?k4 ?k5 ?k6 ?k7 ?_; (case k3 => k_asm); (case k2 => assumption); (case k1 => assumption); (case k4 => assumption); (case k5 => assumption); (case k6 => exact rfl); (case k7 => exact rfl); k_whole); intro h' R' U'; (try dsimp only at R' U' ⊢)))
  k_with "noteFrame ref" => (k_here; k_dflt (refine' caught_D ?R ?F ?K ?U ?XB ?TB ?D ?T0 ?ex ?_; (case R => assumption); (case F => assumption); (case K => assumption); (case U => assumption); (case XB => assumption); (case TB => assumption); (case D => assumption); (case T0 => first | assumption | exact KtsTurn.refl); (case ex => k_is); k_whole); intro h' g' ws' sl' tk' T' F' N' K' X' P' D'; (try k_lift K'); (try k_sweep))
  k_with "getAttr ref" => (k_here; (with_reducible show wpAny _ _ (getAttr (Value.ref _) (Str.ofString "code") _) _ _ _); k_dflt (refine' get31 ?X ?I ?ha ?hl ?hv ?_; (case X => k_in); (case I => exact inst_news31 (by k_asm) (by k_mem) (by k_mem)); (case ha => k_is); (case hl => assumption); (case hv => exact rfl); k_whole))
  k_with "compareOp NotIn str ref" => (k_here; first
  | (refine' notin35 (b := false) ?X ?hb ?_; (case X => k_in); (case hb => decide +kernel))
  | (refine' notin35 (b := true) ?X ?hb ?_; (case X => k_in); (case hb => decide +kernel))
  | (refine' notin36 (b := false) ?X ?hb ?_; (case X => k_in); (case hb => decide +kernel))
  | (refine' notin36 (b := true) ?X ?hb ?_; (case X => k_in); (case hb => decide +kernel)))
  k_with "call ref" => (k_here; (with_reducible show wpAny _ _ (call (Value.ref 155) [Value.ref _, Value.int _ _]) _ _ _); k_dflt (refine' take_spec ?B ?F ?X ?N ?T ?hk ?hI ?hn ?hi ?hx ?hx2 ?hm ?hm2 ?hbD ?hoff ?hd ?hu ?_; (case B => k_asm); (case F => k_asm); (case X => k_asm); (case N => first | k_asm | exact news_pull [_] (by k_asm) | exact news_pull [_, _] (by k_asm) | exact news_pull [_, _, _] (by k_asm) | exact news_pull [_, _, _, _] (by k_asm) | exact news_pull [_, _, _, _, _] (by k_asm) | exact news_pull [_, _, _, _, _, _] (by k_asm)); (case T => k_asm); (case hk => first | exact rfl | assumption); (case hI => assumption); (case hn => assumption); (case hi => first | assumption | decide); (case hx => first | assumption | decide); (case hx2 => first | assumption | decide); (case hm => first | decide | assumption); (case hm2 => first | decide | assumption); (case hbD => first | assumption | k_ne); (case hoff => k_all); (case hd => ktr_room); (case hu => ktr_units); k_whole); intro r' i' x' tr' ti' tx' h' tk' hr0' hr1' hi0' hx0' hx1' F' N'; (try dsimp only [List.cons_append, List.nil_append] at N'))
  k_with "subscriptTail" => (k_here; (with_reducible show wpAny _ _ (subscriptTail _ _ (Value.ref _) (Value.int _ _)) _ _ _); (refine' sub_two ?h0 ?h2 ?_ ?_; (case h0 => with_reducible assumption); (case h2 => with_reducible assumption); all_goals intro e2'))
  k_with "execs cons" => (k_here; (with_reducible show wpAny _ _ _ _ _ (Shared.mk _ _ _ (_ + 1) _)); refine gen_toks ?_; intro tk)
  k_with "execs nil" => (k_here; (with_reducible show wpAny _ _ _ _ _ (Shared.mk _ _ _ (_ + 1) _)); refine gen_toks ?_; intro tk)
  k_with "compareOp Eq str str" => (k_here; (with_reducible show wpAny _ _ (compareOp _ (Value.str (peerOf _) _) _) _ _ _); refine Stop.out ?_)
  k_with "compareOp NotEq str str" => (k_here; (with_reducible show wpAny _ _ (compareOp _ (Value.str (peerOf _) _) _) _ _ _); refine Stop.out ?_)
  trivial
section K0
set_option maxHeartbeats 16000000 in
theorem ctake_settings {prog : Program} {w : World} {p : Program} {loose : List Str} {mean : ExcName → Option Value} {mg mb : Str → Option Value} {r d f : Addr} {sl : Addr} {gv tv mv : Value} {client : Bool} {most g t : Option Int} {x y : Int} {t1 t2 t3 t4 t5 tp : VTok} {fl rest : List (Addr × Obj)}
    {dp un : Nat} {gd : Option (List Code)} {cn : Str} {cs : Scope} {a : Addr} {ccd : Value} {cl : List (Str × Addr)} {outer : List Env} {A₀ : Around} {base h₀ : Heap} {L : Addr} {m : Str → Option Value} {s : Shared} {Q E : Value → Shared → Prop} (B : Below A₀ base outer h₀) (F : Fr h₀ L s.heap m) (X : (Mine.hd.heap_39 w.params).In h₀)
    (N : News h₀ L s.heap ((r, instObj 88 d) :: (d, rulesD w t1 t2 t3 t4 t5 (.str (peerOf client) tp) mv (.ref sl) gv tv) :: (fl ++ rest))) (hg : OptIs gv g) (ht : OptIs tv t) (hmo : OptIs mv most) (hfl : CFrame fl f (.settings x y))
    (hrd : r ≠ d) (hne : ∀ p ∈ fl ++ rest, p.1 ≠ d)
    (T : Top p loose mean mg mb h₀) (hk : cs.kind = .function)
    (hd : dp + 6 < recursionLimit) (hu : un + 48 < cLine)
    (hgiv : ∀ (gv' tv' : Value) (g' t' : Option Int) (h' : Heap) (tk' : Nat), cdue client most g t (.settings x y) = (none, g', t') → OptIs gv' g' → OptIs tv' t' → Fr h₀ L h' m →
      News h₀ L h' ((r, instObj 88 d) :: (d, rulesD w t1 t2 t3 t4 t5 (.str (peerOf client) tp) mv (.ref sl) gv' tv') :: (fl ++ rest)) → Q .none { s with heap := h', toks := tk' })
    (hrais : ∀ (c : Int) (tc : VTok) (e dx : VAddr) (es : List DictEntry) (nd : Nat) (g₂ h' : Heap) (tk' : Nat), cdue client most g t (.settings x y) = (some c, g, t) → Fr h₀ L g₂ m →
      RaisedD base g₂ (envX cn cs L a ccd cl :: outer) e dx es nd ((r, instObj 88 d) :: (d, rulesD w t1 t2 t3 t4 t5 (.str (peerOf client) tp) mv (.ref sl) gv tv) :: (fl ++ rest)) h' → g₂.UpToSlots h' →
      getL (Str.ofString "code") es = some (some (.int c tc)) → E (.ref e) { s with heap := h', toks := tk' }) :
    codeAny (model prog w) (ktrTop dp un gd cn cs L a ccd cl outer) (.call (.ref 57) ⟨[.ref r, .ref f], []⟩) (fun r s' => match r with | .ok (.ret v) => Q v s' | .ok _ => False | .error e => E e s') s := by
  obtain ⟨_, _, _, _, _, _, _, _, rfl⟩ := hfl
  simp only [List.cons_append, List.nil_append] at N hne hgiv hrais
  dsimp only [rulesD] at N hgiv hrais
  replace hrd := neN hrd
  k_dflt cell_enter
  refine gen_qe ?_
  intro QF EF hQF hEF
  k_steps
  all_goals (subst hQF hEF; (try dsimp only); k_steps)
  all_goals (first | (rename RaisedD _ _ _ _ _ _ _ _ _ => rdX; first | exact hrais 261 _ _ _ _ _ _ _ _ (by (first | rfl | exact cd_g4 (by omega) | exact cd_g1 (by omega) | exact cd_g2 (by omega) | exact cd_g5 (by omega) (by omega) | exact cd_g6 (by omega) (by omega) | exact cd_g7 (by omega) | exact cd_m3 (by omega) | exact cd_m4 (by omega) | exact cd_c2 (by omega) | exact cd_c3 (by omega) | exact cd_c5 (by omega) | exact cd_c6 (by omega))) (by assumption) (RaisedD.mono rdX (by kst_allIn)) (by assumption) (by assumption) | exact hrais 264 _ _ _ _ _ _ _ _ (by (first | rfl | exact cd_g4 (by omega) | exact cd_g1 (by omega) | exact cd_g2 (by omega) | exact cd_g5 (by omega) (by omega) | exact cd_g6 (by omega) (by omega) | exact cd_g7 (by omega) | exact cd_m3 (by omega) | exact cd_m4 (by omega) | exact cd_c2 (by omega) | exact cd_c3 (by omega) | exact cd_c5 (by omega) | exact cd_c6 (by omega))) (by assumption) (RaisedD.mono rdX (by kst_allIn)) (by assumption) (by assumption)) | ((rename News h₀ _ _ _ => nL); (refine' hgiv _ _ _ _ _ _ ?zp ?za ?zb ?zF ?zN); (case zF => assumption); (case zN => exact kst_newsOf nL (by kst_allIn)); (case zp => (first | rfl | exact cd_g4 (by omega) | exact cd_g1 (by omega) | exact cd_g2 (by omega) | exact cd_g5 (by omega) (by omega) | exact cd_g6 (by omega) (by omega) | exact cd_g7 (by omega) | exact cd_m3 (by omega) | exact cd_m4 (by omega) | exact cd_c2 (by omega) | exact cd_c3 (by omega) | exact cd_c5 (by omega) | exact cd_c6 (by omega))); (case za => (first | assumption | exact OptIs.none | exact OptIs.some _ _)); (case zb => (first | assumption | exact OptIs.none | exact OptIs.some _ _))))
end K0
section K1
set_option maxHeartbeats 16000000 in
theorem ctake_data {prog : Program} {w : World} {p : Program} {loose : List Str} {mean : ExcName → Option Value} {mg mb : Str → Option Value} {r d f : Addr} {sl : Addr} {gv tv mv : Value} {client : Bool} {most g t : Option Int} {t1 t2 t3 t4 t5 tp : VTok} {fl rest : List (Addr × Obj)}
    {dp un : Nat} {gd : Option (List Code)} {cn : Str} {cs : Scope} {a : Addr} {ccd : Value} {cl : List (Str × Addr)} {outer : List Env} {A₀ : Around} {base h₀ : Heap} {L : Addr} {m : Str → Option Value} {s : Shared} {Q E : Value → Shared → Prop} (B : Below A₀ base outer h₀) (F : Fr h₀ L s.heap m) (X : (Mine.hd.heap_39 w.params).In h₀)
    (N : News h₀ L s.heap ((r, instObj 88 d) :: (d, rulesD w t1 t2 t3 t4 t5 (.str (peerOf client) tp) mv (.ref sl) gv tv) :: (fl ++ rest))) (hg : OptIs gv g) (ht : OptIs tv t) (hmo : OptIs mv most) (hfl : CFrame fl f (.data))
    (hrd : r ≠ d) (hne : ∀ p ∈ fl ++ rest, p.1 ≠ d)
    (T : Top p loose mean mg mb h₀) (hk : cs.kind = .function)
    (hd : dp + 6 < recursionLimit) (hu : un + 48 < cLine)
    (hgiv : ∀ (gv' tv' : Value) (g' t' : Option Int) (h' : Heap) (tk' : Nat), cdue client most g t (.data) = (none, g', t') → OptIs gv' g' → OptIs tv' t' → Fr h₀ L h' m →
      News h₀ L h' ((r, instObj 88 d) :: (d, rulesD w t1 t2 t3 t4 t5 (.str (peerOf client) tp) mv (.ref sl) gv' tv') :: (fl ++ rest)) → Q .none { s with heap := h', toks := tk' })
    (hrais : ∀ (c : Int) (tc : VTok) (e dx : VAddr) (es : List DictEntry) (nd : Nat) (g₂ h' : Heap) (tk' : Nat), cdue client most g t (.data) = (some c, g, t) → Fr h₀ L g₂ m →
      RaisedD base g₂ (envX cn cs L a ccd cl :: outer) e dx es nd ((r, instObj 88 d) :: (d, rulesD w t1 t2 t3 t4 t5 (.str (peerOf client) tp) mv (.ref sl) gv tv) :: (fl ++ rest)) h' → g₂.UpToSlots h' →
      getL (Str.ofString "code") es = some (some (.int c tc)) → E (.ref e) { s with heap := h', toks := tk' }) :
    codeAny (model prog w) (ktrTop dp un gd cn cs L a ccd cl outer) (.call (.ref 57) ⟨[.ref r, .ref f], []⟩) (fun r s' => match r with | .ok (.ret v) => Q v s' | .ok _ => False | .error e => E e s') s := by
  obtain ⟨_, _, rfl⟩ := hfl
  simp only [List.cons_append, List.nil_append] at N hne hgiv hrais
  dsimp only [rulesD] at N hgiv hrais
  replace hrd := neN hrd
  k_dflt cell_enter
  refine gen_qe ?_
  intro QF EF hQF hEF
  k_steps
  all_goals (subst hQF hEF; (try dsimp only); k_steps)
  all_goals (first | (rename RaisedD _ _ _ _ _ _ _ _ _ => rdX; first | exact hrais 261 _ _ _ _ _ _ _ _ (by (first | rfl | exact cd_g4 (by omega) | exact cd_g1 (by omega) | exact cd_g2 (by omega) | exact cd_g5 (by omega) (by omega) | exact cd_g6 (by omega) (by omega) | exact cd_g7 (by omega) | exact cd_m3 (by omega) | exact cd_m4 (by omega) | exact cd_c2 (by omega) | exact cd_c3 (by omega) | exact cd_c5 (by omega) | exact cd_c6 (by omega))) (by assumption) (RaisedD.mono rdX (by kst_allIn)) (by assumption) (by assumption) | exact hrais 264 _ _ _ _ _ _ _ _ (by (first | rfl | exact cd_g4 (by omega) | exact cd_g1 (by omega) | exact cd_g2 (by omega) | exact cd_g5 (by omega) (by omega) | exact cd_g6 (by omega) (by omega) | exact cd_g7 (by omega) | exact cd_m3 (by omega) | exact cd_m4 (by omega) | exact cd_c2 (by omega) | exact cd_c3 (by omega) | exact cd_c5 (by omega) | exact cd_c6 (by omega))) (by assumption) (RaisedD.mono rdX (by kst_allIn)) (by assumption) (by assumption)) | ((rename News h₀ _ _ _ => nL); (refine' hgiv _ _ _ _ _ _ ?zp ?za ?zb ?zF ?zN); (case zF => assumption); (case zN => exact kst_newsOf nL (by kst_allIn)); (case zp => (first | rfl | exact cd_g4 (by omega) | exact cd_g1 (by omega) | exact cd_g2 (by omega) | exact cd_g5 (by omega) (by omega) | exact cd_g6 (by omega) (by omega) | exact cd_g7 (by omega) | exact cd_m3 (by omega) | exact cd_m4 (by omega) | exact cd_c2 (by omega) | exact cd_c3 (by omega) | exact cd_c5 (by omega) | exact cd_c6 (by omega))); (case za => (first | assumption | exact OptIs.none | exact OptIs.some _ _)); (case zb => (first | assumption | exact OptIs.none | exact OptIs.some _ _))))
end K1
section K2
set_option maxHeartbeats 16000000 in
theorem ctake_headers {prog : Program} {w : World} {p : Program} {loose : List Str} {mean : ExcName → Option Value} {mg mb : Str → Option Value} {r d f : Addr} {sl : Addr} {gv tv mv : Value} {client : Bool} {most g t : Option Int} {t1 t2 t3 t4 t5 tp : VTok} {fl rest : List (Addr × Obj)}
    {dp un : Nat} {gd : Option (List Code)} {cn : Str} {cs : Scope} {a : Addr} {ccd : Value} {cl : List (Str × Addr)} {outer : List Env} {A₀ : Around} {base h₀ : Heap} {L : Addr} {m : Str → Option Value} {s : Shared} {Q E : Value → Shared → Prop} (B : Below A₀ base outer h₀) (F : Fr h₀ L s.heap m) (X : (Mine.hd.heap_39 w.params).In h₀)
    (N : News h₀ L s.heap ((r, instObj 88 d) :: (d, rulesD w t1 t2 t3 t4 t5 (.str (peerOf client) tp) mv (.ref sl) gv tv) :: (fl ++ rest))) (hg : OptIs gv g) (ht : OptIs tv t) (hmo : OptIs mv most) (hfl : CFrame fl f (.headers))
    (hrd : r ≠ d) (hne : ∀ p ∈ fl ++ rest, p.1 ≠ d)
    (T : Top p loose mean mg mb h₀) (hk : cs.kind = .function)
    (hd : dp + 6 < recursionLimit) (hu : un + 48 < cLine)
    (hgiv : ∀ (gv' tv' : Value) (g' t' : Option Int) (h' : Heap) (tk' : Nat), cdue client most g t (.headers) = (none, g', t') → OptIs gv' g' → OptIs tv' t' → Fr h₀ L h' m →
      News h₀ L h' ((r, instObj 88 d) :: (d, rulesD w t1 t2 t3 t4 t5 (.str (peerOf client) tp) mv (.ref sl) gv' tv') :: (fl ++ rest)) → Q .none { s with heap := h', toks := tk' })
    (hrais : ∀ (c : Int) (tc : VTok) (e dx : VAddr) (es : List DictEntry) (nd : Nat) (g₂ h' : Heap) (tk' : Nat), cdue client most g t (.headers) = (some c, g, t) → Fr h₀ L g₂ m →
      RaisedD base g₂ (envX cn cs L a ccd cl :: outer) e dx es nd ((r, instObj 88 d) :: (d, rulesD w t1 t2 t3 t4 t5 (.str (peerOf client) tp) mv (.ref sl) gv tv) :: (fl ++ rest)) h' → g₂.UpToSlots h' →
      getL (Str.ofString "code") es = some (some (.int c tc)) → E (.ref e) { s with heap := h', toks := tk' }) :
    codeAny (model prog w) (ktrTop dp un gd cn cs L a ccd cl outer) (.call (.ref 57) ⟨[.ref r, .ref f], []⟩) (fun r s' => match r with | .ok (.ret v) => Q v s' | .ok _ => False | .error e => E e s') s := by
  obtain ⟨_, _, rfl⟩ := hfl
  simp only [List.cons_append, List.nil_append] at N hne hgiv hrais
  dsimp only [rulesD] at N hgiv hrais
  replace hrd := neN hrd
  k_dflt cell_enter
  refine gen_qe ?_
  intro QF EF hQF hEF
  k_steps
  all_goals (subst hQF hEF; (try dsimp only); k_steps)
  all_goals (first | (rename RaisedD _ _ _ _ _ _ _ _ _ => rdX; first | exact hrais 261 _ _ _ _ _ _ _ _ (by (first | rfl | exact cd_g4 (by omega) | exact cd_g1 (by omega) | exact cd_g2 (by omega) | exact cd_g5 (by omega) (by omega) | exact cd_g6 (by omega) (by omega) | exact cd_g7 (by omega) | exact cd_m3 (by omega) | exact cd_m4 (by omega) | exact cd_c2 (by omega) | exact cd_c3 (by omega) | exact cd_c5 (by omega) | exact cd_c6 (by omega))) (by assumption) (RaisedD.mono rdX (by kst_allIn)) (by assumption) (by assumption) | exact hrais 264 _ _ _ _ _ _ _ _ (by (first | rfl | exact cd_g4 (by omega) | exact cd_g1 (by omega) | exact cd_g2 (by omega) | exact cd_g5 (by omega) (by omega) | exact cd_g6 (by omega) (by omega) | exact cd_g7 (by omega) | exact cd_m3 (by omega) | exact cd_m4 (by omega) | exact cd_c2 (by omega) | exact cd_c3 (by omega) | exact cd_c5 (by omega) | exact cd_c6 (by omega))) (by assumption) (RaisedD.mono rdX (by kst_allIn)) (by assumption) (by assumption)) | ((rename News h₀ _ _ _ => nL); (refine' hgiv _ _ _ _ _ _ ?zp ?za ?zb ?zF ?zN); (case zF => assumption); (case zN => exact kst_newsOf nL (by kst_allIn)); (case zp => (first | rfl | exact cd_g4 (by omega) | exact cd_g1 (by omega) | exact cd_g2 (by omega) | exact cd_g5 (by omega) (by omega) | exact cd_g6 (by omega) (by omega) | exact cd_g7 (by omega) | exact cd_m3 (by omega) | exact cd_m4 (by omega) | exact cd_c2 (by omega) | exact cd_c3 (by omega) | exact cd_c5 (by omega) | exact cd_c6 (by omega))); (case za => (first | assumption | exact OptIs.none | exact OptIs.some _ _)); (case zb => (first | assumption | exact OptIs.none | exact OptIs.some _ _))))
end K2
section K3
set_option maxHeartbeats 16000000 in
theorem ctake_unknown {prog : Program} {w : World} {p : Program} {loose : List Str} {mean : ExcName → Option Value} {mg mb : Str → Option Value} {r d f : Addr} {sl : Addr} {gv tv mv : Value} {client : Bool} {most g t : Option Int} {t1 t2 t3 t4 t5 tp : VTok} {fl rest : List (Addr × Obj)}
    {dp un : Nat} {gd : Option (List Code)} {cn : Str} {cs : Scope} {a : Addr} {ccd : Value} {cl : List (Str × Addr)} {outer : List Env} {A₀ : Around} {base h₀ : Heap} {L : Addr} {m : Str → Option Value} {s : Shared} {Q E : Value → Shared → Prop} (B : Below A₀ base outer h₀) (F : Fr h₀ L s.heap m) (X : (Mine.hd.heap_39 w.params).In h₀)
    (N : News h₀ L s.heap ((r, instObj 88 d) :: (d, rulesD w t1 t2 t3 t4 t5 (.str (peerOf client) tp) mv (.ref sl) gv tv) :: (fl ++ rest))) (hg : OptIs gv g) (ht : OptIs tv t) (hmo : OptIs mv most) (hfl : CFrame fl f (.unknown))
    (hrd : r ≠ d) (hne : ∀ p ∈ fl ++ rest, p.1 ≠ d)
    (T : Top p loose mean mg mb h₀) (hk : cs.kind = .function)
    (hd : dp + 6 < recursionLimit) (hu : un + 48 < cLine)
    (hgiv : ∀ (gv' tv' : Value) (g' t' : Option Int) (h' : Heap) (tk' : Nat), cdue client most g t (.unknown) = (none, g', t') → OptIs gv' g' → OptIs tv' t' → Fr h₀ L h' m →
      News h₀ L h' ((r, instObj 88 d) :: (d, rulesD w t1 t2 t3 t4 t5 (.str (peerOf client) tp) mv (.ref sl) gv' tv') :: (fl ++ rest)) → Q .none { s with heap := h', toks := tk' })
    (hrais : ∀ (c : Int) (tc : VTok) (e dx : VAddr) (es : List DictEntry) (nd : Nat) (g₂ h' : Heap) (tk' : Nat), cdue client most g t (.unknown) = (some c, g, t) → Fr h₀ L g₂ m →
      RaisedD base g₂ (envX cn cs L a ccd cl :: outer) e dx es nd ((r, instObj 88 d) :: (d, rulesD w t1 t2 t3 t4 t5 (.str (peerOf client) tp) mv (.ref sl) gv tv) :: (fl ++ rest)) h' → g₂.UpToSlots h' →
      getL (Str.ofString "code") es = some (some (.int c tc)) → E (.ref e) { s with heap := h', toks := tk' }) :
    codeAny (model prog w) (ktrTop dp un gd cn cs L a ccd cl outer) (.call (.ref 57) ⟨[.ref r, .ref f], []⟩) (fun r s' => match r with | .ok (.ret v) => Q v s' | .ok _ => False | .error e => E e s') s := by
  obtain ⟨_, _, _, rfl⟩ := hfl
  simp only [List.cons_append, List.nil_append] at N hne hgiv hrais
  dsimp only [rulesD] at N hgiv hrais
  replace hrd := neN hrd
  k_dflt cell_enter
  refine gen_qe ?_
  intro QF EF hQF hEF
  k_steps
  all_goals (subst hQF hEF; (try dsimp only); k_steps)
  all_goals (first | (rename RaisedD _ _ _ _ _ _ _ _ _ => rdX; first | exact hrais 261 _ _ _ _ _ _ _ _ (by (first | rfl | exact cd_g4 (by omega) | exact cd_g1 (by omega) | exact cd_g2 (by omega) | exact cd_g5 (by omega) (by omega) | exact cd_g6 (by omega) (by omega) | exact cd_g7 (by omega) | exact cd_m3 (by omega) | exact cd_m4 (by omega) | exact cd_c2 (by omega) | exact cd_c3 (by omega) | exact cd_c5 (by omega) | exact cd_c6 (by omega))) (by assumption) (RaisedD.mono rdX (by kst_allIn)) (by assumption) (by assumption) | exact hrais 264 _ _ _ _ _ _ _ _ (by (first | rfl | exact cd_g4 (by omega) | exact cd_g1 (by omega) | exact cd_g2 (by omega) | exact cd_g5 (by omega) (by omega) | exact cd_g6 (by omega) (by omega) | exact cd_g7 (by omega) | exact cd_m3 (by omega) | exact cd_m4 (by omega) | exact cd_c2 (by omega) | exact cd_c3 (by omega) | exact cd_c5 (by omega) | exact cd_c6 (by omega))) (by assumption) (RaisedD.mono rdX (by kst_allIn)) (by assumption) (by assumption)) | ((rename News h₀ _ _ _ => nL); (refine' hgiv _ _ _ _ _ _ ?zp ?za ?zb ?zF ?zN); (case zF => assumption); (case zN => exact kst_newsOf nL (by kst_allIn)); (case zp => (first | rfl | exact cd_g4 (by omega) | exact cd_g1 (by omega) | exact cd_g2 (by omega) | exact cd_g5 (by omega) (by omega) | exact cd_g6 (by omega) (by omega) | exact cd_g7 (by omega) | exact cd_m3 (by omega) | exact cd_m4 (by omega) | exact cd_c2 (by omega) | exact cd_c3 (by omega) | exact cd_c5 (by omega) | exact cd_c6 (by omega))); (case za => (first | assumption | exact OptIs.none | exact OptIs.some _ _)); (case zb => (first | assumption | exact OptIs.none | exact OptIs.some _ _))))
end K3
section K4
set_option maxHeartbeats 16000000 in
theorem ctake_goaway {prog : Program} {w : World} {p : Program} {loose : List Str} {mean : ExcName → Option Value} {mg mb : Str → Option Value} {r d f : Addr} {sl : Addr} {gv tv mv : Value} {client : Bool} {most g t : Option Int} {n : Int} {t1 t2 t3 t4 t5 tp : VTok} {fl rest : List (Addr × Obj)}
    {dp un : Nat} {gd : Option (List Code)} {cn : Str} {cs : Scope} {a : Addr} {ccd : Value} {cl : List (Str × Addr)} {outer : List Env} {A₀ : Around} {base h₀ : Heap} {L : Addr} {m : Str → Option Value} {s : Shared} {Q E : Value → Shared → Prop} (B : Below A₀ base outer h₀) (F : Fr h₀ L s.heap m) (X : (Mine.hd.heap_39 w.params).In h₀)
    (N : News h₀ L s.heap ((r, instObj 88 d) :: (d, rulesD w t1 t2 t3 t4 t5 (.str (peerOf client) tp) mv (.ref sl) gv tv) :: (fl ++ rest))) (hg : OptIs gv g) (ht : OptIs tv t) (hmo : OptIs mv most) (hfl : CFrame fl f (.goaway n))
    (hrd : r ≠ d) (hne : ∀ p ∈ fl ++ rest, p.1 ≠ d)
    (T : Top p loose mean mg mb h₀) (hk : cs.kind = .function)
    (hd : dp + 6 < recursionLimit) (hu : un + 48 < cLine)
    (hgiv : ∀ (gv' tv' : Value) (g' t' : Option Int) (h' : Heap) (tk' : Nat), cdue client most g t (.goaway n) = (none, g', t') → OptIs gv' g' → OptIs tv' t' → Fr h₀ L h' m →
      News h₀ L h' ((r, instObj 88 d) :: (d, rulesD w t1 t2 t3 t4 t5 (.str (peerOf client) tp) mv (.ref sl) gv' tv') :: (fl ++ rest)) → Q .none { s with heap := h', toks := tk' })
    (hrais : ∀ (c : Int) (tc : VTok) (e dx : VAddr) (es : List DictEntry) (nd : Nat) (g₂ h' : Heap) (tk' : Nat), cdue client most g t (.goaway n) = (some c, g, t) → Fr h₀ L g₂ m →
      RaisedD base g₂ (envX cn cs L a ccd cl :: outer) e dx es nd ((r, instObj 88 d) :: (d, rulesD w t1 t2 t3 t4 t5 (.str (peerOf client) tp) mv (.ref sl) gv tv) :: (fl ++ rest)) h' → g₂.UpToSlots h' →
      getL (Str.ofString "code") es = some (some (.int c tc)) → E (.ref e) { s with heap := h', toks := tk' }) :
    codeAny (model prog w) (ktrTop dp un gd cn cs L a ccd cl outer) (.call (.ref 57) ⟨[.ref r, .ref f], []⟩) (fun r s' => match r with | .ok (.ret v) => Q v s' | .ok _ => False | .error e => E e s') s := by
  obtain ⟨_, _, rfl⟩ := hfl
  simp only [List.cons_append, List.nil_append] at N hne hgiv hrais
  dsimp only [rulesD] at N hgiv hrais
  replace hrd := neN hrd
  k_dflt cell_enter
  refine gen_qe ?_
  intro QF EF hQF hEF
  k_steps
  refine Stop.in ?_
  cases client <;> dsimp only [peerOf]
  all_goals k_steps
  all_goals (try (cases hg <;> k_steps))
  all_goals (subst hQF hEF; (try dsimp only); k_steps)
  all_goals (first | (rename RaisedD _ _ _ _ _ _ _ _ _ => rdX; first | exact hrais 261 _ _ _ _ _ _ _ _ (by (first | rfl | exact cd_g4 (by omega) | exact cd_g1 (by omega) | exact cd_g2 (by omega) | exact cd_g5 (by omega) (by omega) | exact cd_g6 (by omega) (by omega) | exact cd_g7 (by omega) | exact cd_m3 (by omega) | exact cd_m4 (by omega) | exact cd_c2 (by omega) | exact cd_c3 (by omega) | exact cd_c5 (by omega) | exact cd_c6 (by omega))) (by assumption) (RaisedD.mono rdX (by kst_allIn)) (by assumption) (by assumption) | exact hrais 264 _ _ _ _ _ _ _ _ (by (first | rfl | exact cd_g4 (by omega) | exact cd_g1 (by omega) | exact cd_g2 (by omega) | exact cd_g5 (by omega) (by omega) | exact cd_g6 (by omega) (by omega) | exact cd_g7 (by omega) | exact cd_m3 (by omega) | exact cd_m4 (by omega) | exact cd_c2 (by omega) | exact cd_c3 (by omega) | exact cd_c5 (by omega) | exact cd_c6 (by omega))) (by assumption) (RaisedD.mono rdX (by kst_allIn)) (by assumption) (by assumption)) | ((rename News h₀ _ _ _ => nL); (refine' hgiv _ _ _ _ _ _ ?zp ?za ?zb ?zF ?zN); (case zF => assumption); (case zN => exact kst_newsOf nL (by kst_allIn)); (case zp => (first | rfl | exact cd_g4 (by omega) | exact cd_g1 (by omega) | exact cd_g2 (by omega) | exact cd_g5 (by omega) (by omega) | exact cd_g6 (by omega) (by omega) | exact cd_g7 (by omega) | exact cd_m3 (by omega) | exact cd_m4 (by omega) | exact cd_c2 (by omega) | exact cd_c3 (by omega) | exact cd_c5 (by omega) | exact cd_c6 (by omega))); (case za => (first | assumption | exact OptIs.none | exact OptIs.some _ _)); (case zb => (first | assumption | exact OptIs.none | exact OptIs.some _ _))))
end K4
section K5
set_option maxHeartbeats 16000000 in
theorem ctake_maxPush {prog : Program} {w : World} {p : Program} {loose : List Str} {mean : ExcName → Option Value} {mg mb : Str → Option Value} {r d f : Addr} {sl : Addr} {gv tv mv : Value} {client : Bool} {most g t : Option Int} {n : Int} {t1 t2 t3 t4 t5 tp : VTok} {fl rest : List (Addr × Obj)}
    {dp un : Nat} {gd : Option (List Code)} {cn : Str} {cs : Scope} {a : Addr} {ccd : Value} {cl : List (Str × Addr)} {outer : List Env} {A₀ : Around} {base h₀ : Heap} {L : Addr} {m : Str → Option Value} {s : Shared} {Q E : Value → Shared → Prop} (B : Below A₀ base outer h₀) (F : Fr h₀ L s.heap m) (X : (Mine.hd.heap_39 w.params).In h₀)
    (N : News h₀ L s.heap ((r, instObj 88 d) :: (d, rulesD w t1 t2 t3 t4 t5 (.str (peerOf client) tp) mv (.ref sl) gv tv) :: (fl ++ rest))) (hg : OptIs gv g) (ht : OptIs tv t) (hmo : OptIs mv most) (hfl : CFrame fl f (.maxPush n))
    (hrd : r ≠ d) (hne : ∀ p ∈ fl ++ rest, p.1 ≠ d)
    (T : Top p loose mean mg mb h₀) (hk : cs.kind = .function)
    (hd : dp + 6 < recursionLimit) (hu : un + 48 < cLine)
    (hgiv : ∀ (gv' tv' : Value) (g' t' : Option Int) (h' : Heap) (tk' : Nat), cdue client most g t (.maxPush n) = (none, g', t') → OptIs gv' g' → OptIs tv' t' → Fr h₀ L h' m →
      News h₀ L h' ((r, instObj 88 d) :: (d, rulesD w t1 t2 t3 t4 t5 (.str (peerOf client) tp) mv (.ref sl) gv' tv') :: (fl ++ rest)) → Q .none { s with heap := h', toks := tk' })
    (hrais : ∀ (c : Int) (tc : VTok) (e dx : VAddr) (es : List DictEntry) (nd : Nat) (g₂ h' : Heap) (tk' : Nat), cdue client most g t (.maxPush n) = (some c, g, t) → Fr h₀ L g₂ m →
      RaisedD base g₂ (envX cn cs L a ccd cl :: outer) e dx es nd ((r, instObj 88 d) :: (d, rulesD w t1 t2 t3 t4 t5 (.str (peerOf client) tp) mv (.ref sl) gv tv) :: (fl ++ rest)) h' → g₂.UpToSlots h' →
      getL (Str.ofString "code") es = some (some (.int c tc)) → E (.ref e) { s with heap := h', toks := tk' }) :
    codeAny (model prog w) (ktrTop dp un gd cn cs L a ccd cl outer) (.call (.ref 57) ⟨[.ref r, .ref f], []⟩) (fun r s' => match r with | .ok (.ret v) => Q v s' | .ok _ => False | .error e => E e s') s := by
  obtain ⟨_, _, rfl⟩ := hfl
  simp only [List.cons_append, List.nil_append] at N hne hgiv hrais
  dsimp only [rulesD] at N hgiv hrais
  replace hrd := neN hrd
  k_dflt cell_enter
  refine gen_qe ?_
  intro QF EF hQF hEF
  k_steps
  refine Stop.in ?_
  cases client <;> dsimp only [peerOf]
  all_goals k_steps
  all_goals (try (cases ht <;> k_steps))
  all_goals (subst hQF hEF; (try dsimp only); k_steps)
  all_goals (first | (rename RaisedD _ _ _ _ _ _ _ _ _ => rdX; first | exact hrais 261 _ _ _ _ _ _ _ _ (by (first | rfl | exact cd_g4 (by omega) | exact cd_g1 (by omega) | exact cd_g2 (by omega) | exact cd_g5 (by omega) (by omega) | exact cd_g6 (by omega) (by omega) | exact cd_g7 (by omega) | exact cd_m3 (by omega) | exact cd_m4 (by omega) | exact cd_c2 (by omega) | exact cd_c3 (by omega) | exact cd_c5 (by omega) | exact cd_c6 (by omega))) (by assumption) (RaisedD.mono rdX (by kst_allIn)) (by assumption) (by assumption) | exact hrais 264 _ _ _ _ _ _ _ _ (by (first | rfl | exact cd_g4 (by omega) | exact cd_g1 (by omega) | exact cd_g2 (by omega) | exact cd_g5 (by omega) (by omega) | exact cd_g6 (by omega) (by omega) | exact cd_g7 (by omega) | exact cd_m3 (by omega) | exact cd_m4 (by omega) | exact cd_c2 (by omega) | exact cd_c3 (by omega) | exact cd_c5 (by omega) | exact cd_c6 (by omega))) (by assumption) (RaisedD.mono rdX (by kst_allIn)) (by assumption) (by assumption)) | ((rename News h₀ _ _ _ => nL); (refine' hgiv _ _ _ _ _ _ ?zp ?za ?zb ?zF ?zN); (case zF => assumption); (case zN => exact kst_newsOf nL (by kst_allIn)); (case zp => (first | rfl | exact cd_g4 (by omega) | exact cd_g1 (by omega) | exact cd_g2 (by omega) | exact cd_g5 (by omega) (by omega) | exact cd_g6 (by omega) (by omega) | exact cd_g7 (by omega) | exact cd_m3 (by omega) | exact cd_m4 (by omega) | exact cd_c2 (by omega) | exact cd_c3 (by omega) | exact cd_c5 (by omega) | exact cd_c6 (by omega))); (case za => (first | assumption | exact OptIs.none | exact OptIs.some _ _)); (case zb => (first | assumption | exact OptIs.none | exact OptIs.some _ _))))
end K5
section K6
set_option maxHeartbeats 16000000 in
theorem ctake_cancelPush {prog : Program} {w : World} {p : Program} {loose : List Str} {mean : ExcName → Option Value} {mg mb : Str → Option Value} {r d f : Addr} {sl : Addr} {gv tv mv : Value} {client : Bool} {most g t : Option Int} {n : Int} {t1 t2 t3 t4 t5 tp : VTok} {fl rest : List (Addr × Obj)}
    {dp un : Nat} {gd : Option (List Code)} {cn : Str} {cs : Scope} {a : Addr} {ccd : Value} {cl : List (Str × Addr)} {outer : List Env} {A₀ : Around} {base h₀ : Heap} {L : Addr} {m : Str → Option Value} {s : Shared} {Q E : Value → Shared → Prop} (B : Below A₀ base outer h₀) (F : Fr h₀ L s.heap m) (X : (Mine.hd.heap_39 w.params).In h₀)
    (N : News h₀ L s.heap ((r, instObj 88 d) :: (d, rulesD w t1 t2 t3 t4 t5 (.str (peerOf client) tp) mv (.ref sl) gv tv) :: (fl ++ rest))) (hg : OptIs gv g) (ht : OptIs tv t) (hmo : OptIs mv most) (hfl : CFrame fl f (.cancelPush n))
    (hrd : r ≠ d) (hne : ∀ p ∈ fl ++ rest, p.1 ≠ d)
    (T : Top p loose mean mg mb h₀) (hk : cs.kind = .function)
    (hd : dp + 6 < recursionLimit) (hu : un + 48 < cLine)
    (hgiv : ∀ (gv' tv' : Value) (g' t' : Option Int) (h' : Heap) (tk' : Nat), cdue client most g t (.cancelPush n) = (none, g', t') → OptIs gv' g' → OptIs tv' t' → Fr h₀ L h' m →
      News h₀ L h' ((r, instObj 88 d) :: (d, rulesD w t1 t2 t3 t4 t5 (.str (peerOf client) tp) mv (.ref sl) gv' tv') :: (fl ++ rest)) → Q .none { s with heap := h', toks := tk' })
    (hrais : ∀ (c : Int) (tc : VTok) (e dx : VAddr) (es : List DictEntry) (nd : Nat) (g₂ h' : Heap) (tk' : Nat), cdue client most g t (.cancelPush n) = (some c, g, t) → Fr h₀ L g₂ m →
      RaisedD base g₂ (envX cn cs L a ccd cl :: outer) e dx es nd ((r, instObj 88 d) :: (d, rulesD w t1 t2 t3 t4 t5 (.str (peerOf client) tp) mv (.ref sl) gv tv) :: (fl ++ rest)) h' → g₂.UpToSlots h' →
      getL (Str.ofString "code") es = some (some (.int c tc)) → E (.ref e) { s with heap := h', toks := tk' }) :
    codeAny (model prog w) (ktrTop dp un gd cn cs L a ccd cl outer) (.call (.ref 57) ⟨[.ref r, .ref f], []⟩) (fun r s' => match r with | .ok (.ret v) => Q v s' | .ok _ => False | .error e => E e s') s := by
  obtain ⟨_, _, rfl⟩ := hfl
  simp only [List.cons_append, List.nil_append] at N hne hgiv hrais
  dsimp only [rulesD] at N hgiv hrais
  replace hrd := neN hrd
  k_dflt cell_enter
  refine gen_qe ?_
  intro QF EF hQF hEF
  k_steps
  refine Stop.in ?_
  cases client <;> dsimp only [peerOf]
  all_goals k_steps
  cases hmo
  rotate_left 2
  cases ht
  all_goals k_steps
  all_goals (subst hQF hEF; (try dsimp only); k_steps)
  all_goals (first | (rename RaisedD _ _ _ _ _ _ _ _ _ => rdX; first | exact hrais 261 _ _ _ _ _ _ _ _ (by (first | rfl | exact cd_g4 (by omega) | exact cd_g1 (by omega) | exact cd_g2 (by omega) | exact cd_g5 (by omega) (by omega) | exact cd_g6 (by omega) (by omega) | exact cd_g7 (by omega) | exact cd_m3 (by omega) | exact cd_m4 (by omega) | exact cd_c2 (by omega) | exact cd_c3 (by omega) | exact cd_c5 (by omega) | exact cd_c6 (by omega))) (by assumption) (RaisedD.mono rdX (by kst_allIn)) (by assumption) (by assumption) | exact hrais 264 _ _ _ _ _ _ _ _ (by (first | rfl | exact cd_g4 (by omega) | exact cd_g1 (by omega) | exact cd_g2 (by omega) | exact cd_g5 (by omega) (by omega) | exact cd_g6 (by omega) (by omega) | exact cd_g7 (by omega) | exact cd_m3 (by omega) | exact cd_m4 (by omega) | exact cd_c2 (by omega) | exact cd_c3 (by omega) | exact cd_c5 (by omega) | exact cd_c6 (by omega))) (by assumption) (RaisedD.mono rdX (by kst_allIn)) (by assumption) (by assumption)) | ((rename News h₀ _ _ _ => nL); (refine' hgiv _ _ _ _ _ _ ?zp ?za ?zb ?zF ?zN); (case zF => assumption); (case zN => exact kst_newsOf nL (by kst_allIn)); (case zp => (first | rfl | exact cd_g4 (by omega) | exact cd_g1 (by omega) | exact cd_g2 (by omega) | exact cd_g5 (by omega) (by omega) | exact cd_g6 (by omega) (by omega) | exact cd_g7 (by omega) | exact cd_m3 (by omega) | exact cd_m4 (by omega) | exact cd_c2 (by omega) | exact cd_c3 (by omega) | exact cd_c5 (by omega) | exact cd_c6 (by omega))); (case za => (first | assumption | exact OptIs.none | exact OptIs.some _ _)); (case zb => (first | assumption | exact OptIs.none | exact OptIs.some _ _))))
end K6
theorem said_G2 : True := by
  k_with_none
  trivial
section G2
theorem sub_pap3 {l rest : List (Addr × Obj)} {a b c : Addr × Obj} : ∀ p ∈ a :: b :: c :: rest, p ∈ a :: b :: c :: (l ++ rest) := fun p hp => by
  rcases List.mem_cons.mp hp with rfl | hp
  · exact .head _
  · rcases List.mem_cons.mp hp with rfl | hp
    · exact .tail _ (.head _)
    · exact .tail _ (.tail _ (sub_pap p hp))
theorem sub_app3 {l rest : List (Addr × Obj)} {a b c : Addr × Obj} (hs : ∀ p ∈ l, p ∈ rest) : ∀ p ∈ a :: b :: c :: (l ++ rest), p ∈ a :: b :: c :: rest := fun p hp => by
  rcases List.mem_cons.mp hp with rfl | hp
  · exact .head _
  · rcases List.mem_cons.mp hp with rfl | hp
    · exact .tail _ (.head _)
    · exact .tail _ (.tail _ (sub_app hs p hp))
theorem sub_pap2 {l rest : List (Addr × Obj)} {a b : Addr × Obj} : ∀ p ∈ a :: b :: rest, p ∈ a :: b :: (l ++ rest) := List.forall_mem_cons.mpr ⟨.head _, fun p hp => .tail _ (sub_pap p hp)⟩
theorem sub_app2 {l rest : List (Addr × Obj)} {a b : Addr × Obj} (hs : ∀ p ∈ l, p ∈ rest) : ∀ p ∈ a :: b :: (l ++ rest), p ∈ a :: b :: rest := List.forall_mem_cons.mpr ⟨.head _, fun p hp => .tail _ (sub_app hs p hp)⟩
theorem ctake_any {prog : Program} {w : World} {p : Program} {loose : List Str} {mean : ExcName → Option Value} {mg mb : Str → Option Value} {r d f : Addr} {sl : Addr} {gv tv mv : Value} {client : Bool} {most g t : Option Int} {cf : CF} {t1 t2 t3 t4 t5 tp : VTok} {fl rest : List (Addr × Obj)}
    {dp un : Nat} {gd : Option (List Code)} {cn : Str} {cs : Scope} {a : Addr} {ccd : Value} {cl : List (Str × Addr)} {outer : List Env} {A₀ : Around} {base h₀ : Heap} {L : Addr} {m : Str → Option Value} {s : Shared} {Q E : Value → Shared → Prop} (B : Below A₀ base outer h₀) (F : Fr h₀ L s.heap m) (X : (Mine.hd.heap_39 w.params).In h₀)
    (N : News h₀ L s.heap ((r, instObj 88 d) :: (d, rulesD w t1 t2 t3 t4 t5 (.str (peerOf client) tp) mv (.ref sl) gv tv) :: rest)) (hg : OptIs gv g) (ht : OptIs tv t) (hmo : OptIs mv most) (hfl : CFrame fl f cf) (hsub : ∀ p ∈ fl, p ∈ rest)
    (hrd : r ≠ d) (hne : ∀ p ∈ rest, p.1 ≠ d)
    (T : Top p loose mean mg mb h₀) (hk : cs.kind = .function)
    (hd : dp + 6 < recursionLimit) (hu : un + 48 < cLine)
    (hgiv : ∀ (gv' tv' : Value) (g' t' : Option Int) (h' : Heap) (tk' : Nat), cdue client most g t cf = (none, g', t') → OptIs gv' g' → OptIs tv' t' → Fr h₀ L h' m →
      News h₀ L h' ((r, instObj 88 d) :: (d, rulesD w t1 t2 t3 t4 t5 (.str (peerOf client) tp) mv (.ref sl) gv' tv') :: rest) → Q .none { s with heap := h', toks := tk' })
    (hrais : ∀ (c : Int) (tc : VTok) (e dx : VAddr) (es : List DictEntry) (nd : Nat) (g₂ h' : Heap) (tk' : Nat), cdue client most g t cf = (some c, g, t) → Fr h₀ L g₂ m →
      RaisedD base g₂ (envX cn cs L a ccd cl :: outer) e dx es nd ((r, instObj 88 d) :: (d, rulesD w t1 t2 t3 t4 t5 (.str (peerOf client) tp) mv (.ref sl) gv tv) :: rest) h' → g₂.UpToSlots h' →
      getL (Str.ofString "code") es = some (some (.int c tc)) → E (.ref e) { s with heap := h', toks := tk' }) :
    codeAny (model prog w) (ktrTop dp un gd cn cs L a ccd cl outer) (.call (.ref 57) ⟨[.ref r, .ref f], []⟩) (fun r s' => match r with | .ok (.ret v) => Q v s' | .ok _ => False | .error e => E e s') s := by
  have N' := kst_newsOf N (sub_app2 hsub)
  have hne' : ∀ p ∈ fl ++ rest, p.1 ≠ d := fun p hp => hne p (sub_app0 hsub p hp)
  have hgiv' : ∀ (gv' tv' : Value) (g' t' : Option Int) (h' : Heap) (tk' : Nat), cdue client most g t cf = (none, g', t') → OptIs gv' g' → OptIs tv' t' → Fr h₀ L h' m →
      News h₀ L h' ((r, instObj 88 d) :: (d, rulesD w t1 t2 t3 t4 t5 (.str (peerOf client) tp) mv (.ref sl) gv' tv') :: (fl ++ rest)) → Q .none { s with heap := h', toks := tk' } :=
    fun gv' tv' g' t' h' tk' c1 c2 c3 F' M' => hgiv gv' tv' g' t' h' tk' c1 c2 c3 F' (kst_newsOf M' sub_pap2)
  have hrais' : ∀ (c : Int) (tc : VTok) (e dx : VAddr) (es : List DictEntry) (nd : Nat) (g₂ h' : Heap) (tk' : Nat), cdue client most g t cf = (some c, g, t) → Fr h₀ L g₂ m →
      RaisedD base g₂ (envX cn cs L a ccd cl :: outer) e dx es nd ((r, instObj 88 d) :: (d, rulesD w t1 t2 t3 t4 t5 (.str (peerOf client) tp) mv (.ref sl) gv tv) :: (fl ++ rest)) h' → g₂.UpToSlots h' →
      getL (Str.ofString "code") es = some (some (.int c tc)) → E (.ref e) { s with heap := h', toks := tk' } :=
    fun c tc e dx es nd g₂ h' tk' c1 F' R' => hrais c tc e dx es nd g₂ h' tk' c1 F' (RaisedD.mono R' sub_pap2)
  cases cf with
  | settings x y => exact ctake_settings B F X N' hg ht hmo hfl hrd hne' T hk hd hu hgiv' hrais'
  | data => exact ctake_data B F X N' hg ht hmo hfl hrd hne' T hk hd hu hgiv' hrais'
  | headers => exact ctake_headers B F X N' hg ht hmo hfl hrd hne' T hk hd hu hgiv' hrais'
  | unknown => exact ctake_unknown B F X N' hg ht hmo hfl hrd hne' T hk hd hu hgiv' hrais'
  | goaway n => exact ctake_goaway B F X N' hg ht hmo hfl hrd hne' T hk hd hu hgiv' hrais'
  | maxPush n => exact ctake_maxPush B F X N' hg ht hmo hfl hrd hne' T hk hd hu hgiv' hrais'
  | cancelPush n => exact ctake_cancelPush B F X N' hg ht hmo hfl hrd hne' T hk hd hu hgiv' hrais'
theorem kept_take (prog : Program) (w : World) (q r : Addr) : Kept prog w q (methodObj (.ref 57) (.ref r)) := fun h hh => keeps_M (by k_is) h ⟨hh.1, hh.2⟩
theorem code_any {prog : Program} {w : World} {p : Program} {loose : List Str} {mean : ExcName → Option Value} {mg mb : Str → Option Value} {q r d f : Addr} {sl : Addr} {gv tv mv : Value} {client : Bool} {most g t : Option Int} {cf : CF} {t1 t2 t3 t4 t5 tp : VTok} {fl rest : List (Addr × Obj)}
    {dp un : Nat} {gd : Option (List Code)} {cn : Str} {cs : Scope} {a : Addr} {ccd : Value} {cl : List (Str × Addr)} {outer : List Env} {A₀ : Around} {base h₀ : Heap} {L : Addr} {m : Str → Option Value} {s : Shared} {Q E : Value → Shared → Prop} (B : Below A₀ base outer h₀) (F : Fr h₀ L s.heap m) (X : (Mine.hd.heap_39 w.params).In h₀) (XB : (Mine.hd.heap_39 w.params).In base) (TB : Top p loose mean mg mb base) (D : KtsDicts (outer.filterMap (·.frame)) h₀)
    (N : News h₀ L s.heap ((q, methodObj (.ref 57) (.ref r)) :: (r, instObj 88 d) :: (d, rulesD w t1 t2 t3 t4 t5 (.str (peerOf client) tp) mv (.ref sl) gv tv) :: rest)) (hg : OptIs gv g) (ht : OptIs tv t) (hmo : OptIs mv most) (hfl : CFrame fl f cf) (hsub : ∀ p ∈ fl, p ∈ rest)
    (hqd : q ≠ d) (hrd : r ≠ d) (hne : ∀ p ∈ rest, p.1 ≠ d)
    (T : Top p loose mean mg mb h₀) (hk : cs.kind = .function)
    (hd : dp + 8 < recursionLimit) (hu : un + 64 < cLine)
    (hgiv : ∀ (gv' tv' : Value) (g' t' : Option Int) (tup : VAddr) (tg : VTok) (h' : Heap) (tk' : Nat), cdue client most g t cf = (none, g', t') → OptIs gv' g' → OptIs tv' t' → Fr h₀ L h' m →
      News h₀ L h' ((tup, tupOf [.str (Str.ofString "given") tg, .none]) :: (r, instObj 88 d) :: (d, rulesD w t1 t2 t3 t4 t5 (.str (peerOf client) tp) mv (.ref sl) gv' tv') :: rest) → Q (.ref tup) { s with heap := h', toks := tk' })
    (href : ∀ (c : Int) (h₁ : Heap) (tup : VAddr) (tg tc : VTok) (h' : Heap) (tk' : Nat), cdue client most g t cf = (some c, g, t) → KtsTurn (outer.filterMap (·.frame)) h₀ h₁ → Below A₀ base outer h₁ → (Mine.hd.heap_39 w.params).In h₁ → Top p loose mean mg mb h₁ → KtsDicts (outer.filterMap (·.frame)) h₁ → Fr h₁ L h' m →
      News h₁ L h' ((tup, tupOf [.str (Str.ofString "refused") tg, .int c tc]) :: (r, instObj 88 d) :: (d, rulesD w t1 t2 t3 t4 t5 (.str (peerOf client) tp) mv (.ref sl) gv tv) :: rest) → Q (.ref tup) { s with heap := h', toks := tk' }) :
    wpAny (model prog w) (ktrTop dp un gd cn cs L a ccd cl outer) (call (.ref 162) [.ref q, .ref f]) Q E s := by
  refine law_code_gen (Good := fun v n1 => ∃ gv' tv' g' t', cdue client most g t cf = (none, g', t') ∧ OptIs gv' g' ∧ OptIs tv' t' ∧ v = .none ∧ n1 = (r, instObj 88 d) :: (d, rulesD w t1 t2 t3 t4 t5 (.str (peerOf client) tp) mv (.ref sl) gv' tv') :: rest)
    (Bad := fun c n2 => cdue client most g t cf = (some c, g, t) ∧ n2 = (r, instObj 88 d) :: (d, rulesD w t1 t2 t3 t4 t5 (.str (peerOf client) tp) mv (.ref sl) gv tv) :: rest) B F X XB TB D N (.head _) (kept_take _ _ _ _) T hk hd hu ?_ ?_ ?_
  · intro dp1 un1 gd1 cn1 cs1 a1 ccd1 cl1 outer1 A1 base1 g1 L1 m1 s1 Q1 E1 B1 F1 X1 N1 T1 hk1 hd1 hu1 hg1 hb1
    refine call_meth N1 (.head _) ?_
    exact ctake_any B1 F1 X1 (kst_newsOf N1 fun p hp => .tail _ hp) hg ht hmo hfl hsub hrd hne T1 hk1 (by omega) (by omega) (fun gv' tv' g' t' h' tk' c1 c2 c3 F2 N2 => hg1 _ _ _ _ ⟨gv', tv', g', t', c1, c2, c3, rfl, rfl⟩ F2 N2)
      (fun c tc e dx es nd g₂ h' tk' c1 F2 R2 U2 he => hb1 c tc e dx es nd _ g₂ h' tk' ⟨c1, rfl⟩ F2 R2 U2 he)
  · rintro v n1 tup tg h' tk' ⟨gv', tv', g', t', c1, c2, c3, rfl, rfl⟩ F2 N2
    exact hgiv gv' tv' g' t' tup tg h' tk' c1 c2 c3 F2 N2
  · rintro c n2 h₁ tup tg tc h' tk' ⟨c1, rfl⟩ K1 B1 X1 T1 D1 F2 N2
    exact href c h₁ tup tg tc h' tk' c1 K1 B1 X1 T1 D1 F2 N2
end G2
theorem said_S1 : True := by
  k_with_none
  k_with "k_room" => ktr_room
  k_with "k_units" => ktr_units
  k_with "k_all" => assumption
  k_with "k_all" => exact allLt_ne (by assumption) (by intro q hq; repeat (first | exact hq | refine List.Mem.tail _ ?_))
  k_with "k_ne" => (refine neN ?_; (try dsimp only); first | assumption | exact Ne.symm (by assumption) | exact Nat.ne_of_gt (allLt_at (by assumption) (by k_mem)) | exact Nat.ne_of_lt (allLt_at (by assumption) (by k_mem)) | omega)
  k_with "exec Raise some none" => (k_here; (with_reducible show wpAny _ _ (exec (Stmt.Raise (some (Expr.Call (Expr.Name ("H3Error" : Str) _) (_ :: _) [] _)) none _) _) _ _ _); (refine Raise_31 rfl ?_))
  k_with "call ref" => (k_here; (with_reducible show wpAny _ _ (call (Value.ref 31) [Value.int _ _, Value.str _ _]) (Raisable31 _) _ _); k_dflt (refine' h3_make ?B ?F ?X ?N ?T ?hk ?c0 ?c1 ?hl ?hd ?hu ?_; (case B => k_asm); (case F => k_asm); (case X => k_asm); (case N => k_asm); (case T => k_asm); (case hk => first | exact rfl | assumption); (case c0 => decide); (case c1 => decide); (case hl => first | decide | assumption); (case hd => ktr_room); (case hu => ktr_units); k_whole); intro e' dx' t' es' n' h' tk' F' N' g' hne' hed'; refine ⟨_, _, _, rfl, h3_at (by k_in), (N' _ (List.Mem.head _)).1, ?_⟩; (try dsimp only))
  k_with "leaving ref" => (k_here; first
  | ((rename RaisedD _ _ _ _ _ _ _ _ _ => rdX); (refine' leave_onD ?k1 ?k2 ?k3 ?k4 ?k5 ?_; (case k3 => exact rdX); (case k2 => assumption); (case k1 => assumption); (case k4 => assumption); (case k5 => exact rfl); k_whole); intro h' R' U'; (try dsimp only at R' U' ⊢))
  | ((refine' leave_firstD ?k1 ?k2 ?k3 ?k4 ?k5 ?k6 ?k7 ?_; (case k3 => k_asm); (case k2 => assumption); (case k1 => assumption); (case k4 => assumption); (case k5 => assumption); (case k6 => exact rfl); (case k7 => exact rfl); k_whole); intro h' R' U'; (try dsimp only at R' U' ⊢)))
  k_with "noteFrame ref" => (k_here; k_dflt (refine' caught_D ?R ?F ?K ?U ?XB ?TB ?D ?T0 ?ex ?_; (case R => assumption); (case F => assumption); (case K => assumption); (case U => assumption); (case XB => assumption); (case TB => assumption); (case D => assumption); (case T0 => first | assumption | exact KtsTurn.refl); (case ex => k_is); k_whole); intro h' g' ws' sl' tk' T' F' N' K' X' P' D'; (try k_lift K'); (try k_sweep))
  k_with "getAttr ref" => (k_here; (with_reducible show wpAny _ _ (getAttr (Value.ref _) (Str.ofString "code") _) _ _ _); k_dflt (refine' get31 ?X ?I ?ha ?hl ?hv ?_; (case X => k_in); (case I => exact inst_news31 (by k_asm) (by k_mem) (by k_mem)); (case ha => k_is); (case hl => assumption); (case hv => exact rfl); k_whole))
  k_with "compareOp NotIn str ref" => (k_here; first
  | (refine' notin35 (b := false) ?X ?hb ?_; (case X => k_in); (case hb => decide +kernel))
  | (refine' notin35 (b := true) ?X ?hb ?_; (case X => k_in); (case hb => decide +kernel))
  | (refine' notin36 (b := false) ?X ?hb ?_; (case X => k_in); (case hb => decide +kernel))
  | (refine' notin36 (b := true) ?X ?hb ?_; (case X => k_in); (case hb => decide +kernel)))
  k_with "call ref" => (k_here; (with_reducible show wpAny _ _ (call (Value.ref 155) [Value.ref _, Value.int _ _]) _ _ _); k_dflt (refine' take_spec ?B ?F ?X ?N ?T ?hk ?hI ?hn ?hi ?hx ?hx2 ?hm ?hm2 ?hbD ?hoff ?hd ?hu ?_; (case B => k_asm); (case F => k_asm); (case X => k_asm); (case N => first | k_asm | exact news_pull [_] (by k_asm) | exact news_pull [_, _] (by k_asm) | exact news_pull [_, _, _] (by k_asm) | exact news_pull [_, _, _, _] (by k_asm) | exact news_pull [_, _, _, _, _] (by k_asm) | exact news_pull [_, _, _, _, _, _] (by k_asm)); (case T => k_asm); (case hk => first | exact rfl | assumption); (case hI => assumption); (case hn => assumption); (case hi => first | assumption | decide); (case hx => first | assumption | decide); (case hx2 => first | assumption | decide); (case hm => first | decide | assumption); (case hm2 => first | decide | assumption); (case hbD => first | assumption | k_ne); (case hoff => k_all); (case hd => ktr_room); (case hu => ktr_units); k_whole); intro r' i' x' tr' ti' tx' h' tk' hr0' hr1' hi0' hx0' hx1' F' N'; (try dsimp only [List.cons_append, List.nil_append] at N'))
  k_with "subscriptTail" => (k_here; (with_reducible show wpAny _ _ (subscriptTail _ _ (Value.ref _) (Value.int _ _)) _ _ _); (refine' sub_two ?h0 ?h2 ?_ ?_; (case h0 => with_reducible assumption); (case h2 => with_reducible assumption); all_goals intro e2'))
  k_with "execs cons" => (k_here; (with_reducible show wpAny _ _ _ _ _ (Shared.mk _ _ _ (_ + 1) _)); refine gen_toks ?_; intro tk)
  k_with "execs nil" => (k_here; (with_reducible show wpAny _ _ _ _ _ (Shared.mk _ _ _ (_ + 1) _)); refine gen_toks ?_; intro tk)
  trivial
section S1
set_option maxHeartbeats 16000000 in
theorem code0_settings {prog : Program} {w : World} {p : Program} {loose : List Str} {mean : ExcName → Option Value} {mg mb : Str → Option Value} {q r d f ls p1 p2 : Addr} {mv : Value} {client : Bool} {x y : Int} {t1 t2 t3 t4 t5 tp u0 u1 u2 u3 u4 : VTok} {rest : List (Addr × Obj)}
    {dp un : Nat} {gd : Option (List Code)} {cn : Str} {cs : Scope} {a : Addr} {ccd : Value} {cl : List (Str × Addr)} {outer : List Env} {A₀ : Around} {base h₀ : Heap} {L : Addr} {m : Str → Option Value} {s : Shared} {Q E : Value → Shared → Prop} (B : Below A₀ base outer h₀) (F : Fr h₀ L s.heap m) (X : (Mine.hd.heap_39 w.params).In h₀) (XB : (Mine.hd.heap_39 w.params).In base) (TB : Top p loose mean mg mb base) (D : KtsDicts (outer.filterMap (·.frame)) h₀)
    (N : News h₀ L s.heap ((q, methodObj (.ref 57) (.ref r)) :: (r, instObj 88 d) :: (d, rulesD w t1 t2 t3 t4 t5 (.str (peerOf client) tp) mv .none .none .none) ::
      (f, tupOf [.str (Str.ofString "settings") u0, .ref ls]) :: (ls, W.listOf #[.ref p1, .ref p2] 0) :: (p2, tupOf [.int 1 u1, .int y u2]) :: (p1, tupOf [.int 6 u3, .int x u4]) :: rest))
    (hqd : q ≠ d) (hrd : r ≠ d) (hne : ∀ p ∈ (f, tupOf [.str (Str.ofString "settings") u0, .ref ls]) :: (ls, W.listOf #[.ref p1, .ref p2] 0) :: (p2, tupOf [.int 1 u1, .int y u2]) :: (p1, tupOf [.int 6 u3, .int x u4]) :: rest, p.1 ≠ d)
    (T : Top p loose mean mg mb h₀) (hk : cs.kind = .function)
    (hd : dp + 8 < recursionLimit) (hu : un + 64 < cLine)
    (hgiv : ∀ (sl tup : VAddr) (nn : Nat) (tg : VTok) (h' : Heap) (tk' : Nat), Fr h₀ L h' m →
      News h₀ L h' ((tup, tupOf [.str (Str.ofString "given") tg, .none]) :: (sl, W.listOf #[.ref p1, .ref p2] nn) :: (r, instObj 88 d) :: (d, rulesD w t1 t2 t3 t4 t5 (.str (peerOf client) tp) mv (.ref sl) .none .none) ::
      (f, tupOf [.str (Str.ofString "settings") u0, .ref ls]) :: (ls, W.listOf #[.ref p1, .ref p2] 0) :: (p2, tupOf [.int 1 u1, .int y u2]) :: (p1, tupOf [.int 6 u3, .int x u4]) :: rest) →
      AllLt sl ((q, methodObj (.ref 57) (.ref r)) :: (r, instObj 88 d) :: (d, rulesD w t1 t2 t3 t4 t5 (.str (peerOf client) tp) mv .none .none .none) ::
      (f, tupOf [.str (Str.ofString "settings") u0, .ref ls]) :: (ls, W.listOf #[.ref p1, .ref p2] 0) :: (p2, tupOf [.int 1 u1, .int y u2]) :: (p1, tupOf [.int 6 u3, .int x u4]) :: rest) → Q (.ref tup) { s with heap := h', toks := tk' }) :
    wpAny (model prog w) (ktrTop dp un gd cn cs L a ccd cl outer) (call (.ref 162) [.ref q, .ref f]) Q E s := by
  refine wpAny_call ?_
  dsimp only [rulesD] at N hne hgiv
  replace hqd := neN hqd
  replace hrd := neN hrd
  ((k_dflt (refine' code_defE ?B ?F ?X ?N ?T ?XB ?TB ?D KtsTurn.refl rfl rfl ?hk ?k6 ?k7 ?k8 ?k9 ?kB ?_ ?c2 ?c3 ?c4 ?c5; (case B => assumption); (case F => assumption); (case X => assumption); (case N => assumption); (case T => assumption); (case XB => assumption); (case TB => assumption); (case D => assumption); (case hk => assumption); (case k6 => k_is); (case k7 => k_is); (case k8 => ktr_room); (case k9 => exact BindsTo.of_eq rfl); (case kB => exact locs rfl); (case c2 => exact rfl); (case c3 => exact rfl); (case c4 => exact rfl); (case c5 => decide); k_whole); intro g' L' h' FG' F' N' B' X' T' D'; (try dsimp only); (try k_lift B'); (try k_fold)))
  k_steps
  (rename News h₀ _ _ _ => nL); (refine' hgiv _ _ _ _ _ _ ?zF ?zN ?zA)
  case zF => assumption
  case zN => exact kst_newsOf nL (by kst_allIn)
  case zA => exact allLt_sub (by assumption) (by intro q hq; repeat (first | exact hq | refine List.Mem.tail _ ?_))
end S1
section S2
set_option maxHeartbeats 16000000 in
theorem code0_goaway {prog : Program} {w : World} {p : Program} {loose : List Str} {mean : ExcName → Option Value} {mg mb : Str → Option Value} {q r d f : Addr} {mv : Value} {client : Bool} {n : Int} {t1 t2 t3 t4 t5 tp u0 u1 : VTok} {rest : List (Addr × Obj)}
    {dp un : Nat} {gd : Option (List Code)} {cn : Str} {cs : Scope} {a : Addr} {ccd : Value} {cl : List (Str × Addr)} {outer : List Env} {A₀ : Around} {base h₀ : Heap} {L : Addr} {m : Str → Option Value} {s : Shared} {Q E : Value → Shared → Prop} (B : Below A₀ base outer h₀) (F : Fr h₀ L s.heap m) (X : (Mine.hd.heap_39 w.params).In h₀) (XB : (Mine.hd.heap_39 w.params).In base) (TB : Top p loose mean mg mb base) (D : KtsDicts (outer.filterMap (·.frame)) h₀)
    (N : News h₀ L s.heap ((q, methodObj (.ref 57) (.ref r)) :: (r, instObj 88 d) :: (d, rulesD w t1 t2 t3 t4 t5 (.str (peerOf client) tp) mv .none .none .none) ::
      (f, tupOf [.str (Str.ofString "goaway") u0, .int n u1]) :: rest))
    (hqd : q ≠ d) (hrd : r ≠ d) (hne : ∀ p ∈ (f, tupOf [.str (Str.ofString "goaway") u0, .int n u1]) :: rest, p.1 ≠ d)
    (T : Top p loose mean mg mb h₀) (hk : cs.kind = .function)
    (hd : dp + 8 < recursionLimit) (hu : un + 64 < cLine)
    (href : ∀ (h₁ : Heap) (tup : VAddr) (tg tc : VTok) (h' : Heap) (tk' : Nat), KtsTurn (outer.filterMap (·.frame)) h₀ h₁ → Below A₀ base outer h₁ → (Mine.hd.heap_39 w.params).In h₁ → Top p loose mean mg mb h₁ → KtsDicts (outer.filterMap (·.frame)) h₁ → Fr h₁ L h' m →
      News h₁ L h' ((tup, tupOf [.str (Str.ofString "refused") tg, .int 266 tc]) :: (r, instObj 88 d) :: (d, rulesD w t1 t2 t3 t4 t5 (.str (peerOf client) tp) mv .none .none .none) :: (f, tupOf [.str (Str.ofString "goaway") u0, .int n u1]) :: rest) → Q (.ref tup) { s with heap := h', toks := tk' }) :
    wpAny (model prog w) (ktrTop dp un gd cn cs L a ccd cl outer) (call (.ref 162) [.ref q, .ref f]) Q E s := by
  refine wpAny_call ?_
  dsimp only [rulesD] at N hne href
  replace hqd := neN hqd
  replace hrd := neN hrd
  ((k_dflt (refine' code_defE ?B ?F ?X ?N ?T ?XB ?TB ?D KtsTurn.refl rfl rfl ?hk ?k6 ?k7 ?k8 ?k9 ?kB ?_ ?c2 ?c3 ?c4 ?c5; (case B => assumption); (case F => assumption); (case X => assumption); (case N => assumption); (case T => assumption); (case XB => assumption); (case TB => assumption); (case D => assumption); (case hk => assumption); (case k6 => k_is); (case k7 => k_is); (case k8 => ktr_room); (case k9 => exact BindsTo.of_eq rfl); (case kB => exact locs rfl); (case c2 => exact rfl); (case c3 => exact rfl); (case c4 => exact rfl); (case c5 => decide); k_whole); intro g' L' h' FG' F' N' B' X' T' D'; (try dsimp only); (try k_lift B'); (try k_fold)))
  k_steps
  (rename News _ _ _ _ => nL; exact href _ _ _ _ _ _ (by assumption) (by assumption) (by assumption) (by assumption) (by assumption) (by assumption) (kst_newsOf nL (by kst_allIn)))
end S2
theorem said_H1 : True := by
  k_with_none
  trivial
section H1
section
variable {prog : Program} {w : World} {A : Around} {E : Value → Shared → Prop} {s : Shared} {h₀ : Heap} {L l : Addr} {news : List (Addr × Obj)} {Q : Value → Shared → Prop}
theorem sub_peer {value slice : PySem.Expr} {r : Int} {u ta tb : VTok} {nn : Nat} (N : News h₀ L s.heap news) (hl : (l, W.listOf #[.str (Str.ofString "client") ta, .str (Str.ofString "server") tb] nn) ∈ news) (h0 : 0 ≤ r) (h2 : r < 2) (h : ∀ c t, Q (.str (peerOf c) t) s)
    (hs : ∀ k : Int, subscripted slice false (.ref l) (.int k u) = operate [.ref l, .int k u] (getItem (.ref l) (.int k u)) := by intro _; with_unfolding_all rfl) :
    wpAny (model prog w) A (subscriptTail value slice (.ref l) (.int r u)) Q E s := by
  rcases (by omega : r = 0 ∨ r = 1) with e | e
  · subst e
    exact item_litK (vs := [.str (Str.ofString "client") ta, .str (Str.ofString "server") tb]) (News.isList N hl) (by decide) (by decide) rfl (h true ta) (hs 0)
  · subst e
    exact item_litK (vs := [.str (Str.ofString "client") ta, .str (Str.ofString "server") tb]) (News.isList N hl) (by decide) (by decide) rfl (h false tb) (hs 1)
theorem sub_opt {value slice : PySem.Expr} {r c : Int} {u tc : VTok} {nn : Nat} (N : News h₀ L s.heap news) (hl : (l, W.listOf #[.none, .int c tc] nn) ∈ news) (h0 : 0 ≤ r) (h2 : r < 2) (h : ∀ mv most, OptIs mv most → Q mv s)
    (hs : ∀ k : Int, subscripted slice false (.ref l) (.int k u) = operate [.ref l, .int k u] (getItem (.ref l) (.int k u)) := by intro _; with_unfolding_all rfl) :
    wpAny (model prog w) A (subscriptTail value slice (.ref l) (.int r u)) Q E s := by
  rcases (by omega : r = 0 ∨ r = 1) with e | e
  · subst e
    exact item_litK (vs := [.none, .int c tc]) (News.isList N hl) (by decide) (by decide) rfl (h _ _ .none) (hs 0)
  · subst e
    exact item_litK (vs := [.none, .int c tc]) (News.isList N hl) (by decide) (by decide) rfl (h _ _ (.some c tc)) (hs 1)
end
section
open PySem.Spec
variable {prog : Program} {w : World} {A : Around} {E : Value → Shared → Prop} {s : Shared} {env : Env} {h₀ : Heap} {x : Str} {body : List Stmt} {Q : Flow → Shared → Prop}
def RngPost (h₀ : Heap) (L : Addr) (J : (Str → Option Value) → List (Addr × Obj) → Prop) (I : Addr) (oI : Obj) (s₁ : Shared) (Q : Flow → Shared → Prop) (f : Flow) (s₂ : Shared) : Prop :=
  match f with
  | .ret v => Q (.ret v) s₂
  | .brk => Q .next s₂
  | _ => ∃ h' tk m' nx, s₂ = { s₁ with heap := h', toks := tk } ∧ Fr h₀ L h' m' ∧ News h₀ L h' ((I, oI) :: nx) ∧ (∀ p ∈ nx, p.1 ≠ I) ∧ J m' nx
theorem rng_loop {r : Addr} {a₀ b₀ : Int} {t₀ u₀ v₀ : Tok} {n : Nat} {m₀ : Str → Option Value} {news : List (Addr × Obj)} (J : Nat → (Str → Option Value) → List (Addr × Obj) → Prop)
    (hh : A.handled = none) (hr : IsRange s.heap r a₀ b₀ 1 t₀ u₀ v₀) (hsmall : PySem.Builtin.Range.small a₀ b₀ 1 = true) (hn : PySem.Builtin.Range.rangeSize a₀ b₀ 1 = (n : Int)) (F : Fr h₀ env.locals s.heap m₀) (N : News h₀ env.locals s.heap news) (hj : J 0 m₀ news)
    (turn : ∀ (i : Nat) (k : Int) (t : Tok) m₁ nx h tk I oI, k = a₀ + (i : Int) → i < n → J i m₁ nx → Fr h₀ env.locals h (fun y => if y = x then some (.int k t) else m₁ y) → News h₀ env.locals h ((I, oI) :: nx) → (∀ p ∈ nx, p.1 ≠ I) →
      wpAny (model prog w) A (execs body env) (RngPost h₀ env.locals (J (i + 1)) I oI { s with heap := h, toks := tk } Q) E { s with heap := h, toks := tk })
    (done : ∀ m₁ nx h tk, J n m₁ nx → Fr h₀ env.locals h m₁ → News h₀ env.locals h nx → Q .next { s with heap := h, toks := tk }) :
    wpAny (model prog w) A (pyIter (.ref r)) (fun it s₂ => LoopAtV prog w A h₀ env x body Q E it s₂) E s := by
  refine wpAny_pyIter_range hr hsmall ?_
  have W : Walks prog w A s.heap.objs.size [s.heap.objs.size] [s.heap.objs.size] n (fun i v => i < n ∧ ∃ t, v = .int (a₀ + i * 1) t)
      (fun i h => IsRangeIter h s.heap.objs.size (a₀ + (i : Nat) * 1) ((n : Int) - (i : Nat)) 1) := (Walks.range hh _ a₀ 1 n).bound
  refine ⟨_, _, _, n, _, _, m₀, news, J, rfl, W, ?_, ?_, ?_, (by show IsRangeIter _ _ _ _ _; rw [hn]; simpa using Heap.get?_push_size _ rfl), (F.push _), (fun p hp => ⟨Heap.get?_push_of_some _ (N p hp).1, (N p hp).2⟩), hj, ?_, ?_⟩
  · intro hm
    exact absurd F.ns.lt ((List.mem_singleton.mp hm) ▸ Nat.lt_irrefl _)
  · intro b hb
    rw [List.mem_singleton.mp hb]
    exact next_is_new F
  · intro p hp hI
    exact absurd (Heap.lt_size (N p hp).1) ((List.mem_singleton.mp hI) ▸ Nat.lt_irrefl _)
  · rintro i v m₁ nx s₁ own ⟨hh', tk', rfl⟩ hin ⟨_, t, rfl⟩ hJ hoff hown hget hmem hst' F₁ N₁
    simp only [Int.mul_one] at F₁
    obtain ⟨oI, hoI⟩ : ∃ oI, hh'.get? s.heap.objs.size = some oI := ⟨_, hst'⟩
    have hI : (s.heap.objs.size, oI) ∈ own := hmem _ (List.mem_singleton.mpr rfl) (next_is_new F) _ hoI
    have N₂ : News h₀ env.locals hh' ((s.heap.objs.size, oI) :: nx) := fun p hp => by
      rcases List.mem_cons.mp hp with rfl | hp
      · exact N₁ _ (List.mem_append_left _ hI)
      · exact N₁ _ (List.mem_append_right _ hp)
    refine wpAny_mono (turn i _ t m₁ nx hh' tk' _ oI rfl hin hJ F₁ N₂ (fun p hp q => hoff p hp (List.mem_singleton.mpr q))) (fun f s₂ p => ?_) fun _ _ e => e
    have fin : (∃ h' tk m' nx', s₂ = { { s with heap := hh', toks := tk' } with heap := h', toks := tk } ∧ Fr h₀ env.locals h' m' ∧ News h₀ env.locals h' ((s.heap.objs.size, oI) :: nx') ∧ (∀ p ∈ nx', p.1 ≠ s.heap.objs.size) ∧ J (i + 1) m' nx') →
        LoopStepU h₀ env.locals [s.heap.objs.size] own (J (i + 1)) { s with heap := hh', toks := tk' } .next s₂ := by
      rintro ⟨h', tk, m', nx', e, F', N', ha, hm⟩
      refine ⟨rfl, h', tk, m', nx', e, F', fun p hp => ?_, fun p hp hq => ha p hp (List.mem_singleton.mp hq), hm⟩
      rcases List.mem_append.mp hp with hp | hp
      · have h1 := List.mem_singleton.mp (hown p hp)
        have h2 := hget p hp
        obtain ⟨pa, po⟩ := p
        dsimp only at h1 h2
        subst h1
        rw [show Heap.get? hh' s.heap.objs.size = some po from h2] at hoI
        cases hoI
        exact N' _ (.head _)
      · exact N' p (.tail _ hp)
    cases f with
    | ret v => exact .ret p
    | brk => exact .brk p
    | next => exact .next (fin p)
    | cont => exact .cont (fin p)
  · rintro h' tk m' news' F' N' _ hJ
    exact done m' news' h' tk hJ F' N'
theorem map_first {x y : Str} {stored : List Str} {m₁ m₀ : Str → Option Value} {v vf : Value} (h1 : m₁ y = some vf) (hm : ∀ z, z ≠ y → stored.contains z = false → m₁ z = m₀ z) :
    (fun z => if z = x then some v else m₁ z) = fun z => if z = x then some v else if z = y then some vf else if stored.contains z then m₁ z else m₀ z := by
  funext z
  by_cases e1 : z = x
  · simp only [if_pos e1]
  · simp only [if_neg e1]
    by_cases e2 : z = y
    · subst e2; simp [h1]
    · simp only [if_neg e2]
      cases e3 : stored.contains z with
      | true => simp
      | false => simp [hm z e2 e3]
theorem map_end {y : Str} {stored : List Str} {m₁ m₀ : Str → Option Value} {vf : Value} (h1 : m₁ y = some vf) (hm : ∀ z, z ≠ y → stored.contains z = false → m₁ z = m₀ z) :
    m₁ = fun z => if z = y then some vf else if stored.contains z then m₁ z else m₀ z := by
  funext z
  by_cases e2 : z = y
  · subst e2; simp [h1]
  · simp only [if_neg e2]
    cases e3 : stored.contains z with
    | true => simp
    | false => simp [hm z e2 e3]
end
end H1
section H2
def ctlStored : List Str := [Str.ofString "at", Str.ofString "frame", Str.ofString "due"]
theorem rng_small {r : Int} (h0 : 0 ≤ r) (h5 : r < 5) : PySem.Builtin.Range.small 0 (1 + r) 1 = true := by
  rcases (by omega : r = 0 ∨ r = 1 ∨ r = 2 ∨ r = 3 ∨ r = 4) with e | e | e | e | e <;> subst e <;> decide
theorem rng_size {r : Int} (h0 : 0 ≤ r) (h5 : r < 5) : PySem.Builtin.Range.rangeSize 0 (1 + r) 1 = ((1 + r.toNat : Nat) : Int) := by
  rcases (by omega : r = 0 ∨ r = 1 ∨ r = 2 ∨ r = 3 ∨ r = 4) with e | e | e | e | e <;> subst e <;> decide
theorem ctl_pd0 {h₀ h : Heap} {L : Addr} {f ls p2 p1 b D I kd r d : Addr × Obj} {rest : List (Addr × Obj)} (N : News h₀ L h (f :: ls :: p2 :: p1 :: b :: D :: I :: kd :: r :: d :: rest)) :
    News h₀ L h (kd :: ([f, ls, p2, p1] ++ (b :: D :: I :: r :: d :: rest))) := kst_newsOf N (by
  intro p hp
  simp only [List.mem_cons, List.mem_append, List.not_mem_nil, or_false] at hp ⊢
  rcases hp with h | (h | h | h | h) | h | h | h | h | h | h <;> simp [h])
theorem ctl_pd1 {h₀ h : Heap} {L : Addr} {f b D I kd r d : Addr × Obj} {rest : List (Addr × Obj)} (N : News h₀ L h (f :: b :: D :: I :: kd :: r :: d :: rest)) :
    News h₀ L h (kd :: ([f] ++ (b :: D :: I :: r :: d :: rest))) := kst_newsOf N (by
  intro p hp
  simp only [List.mem_cons, List.mem_append, List.not_mem_nil, or_false] at hp ⊢
  rcases hp with h | h | h | h | h | h | h | h <;> simp [h])
theorem ctl_pc0 {h₀ h : Heap} {L : Addr} {q f ls p2 p1 b D I kd r d : Addr × Obj} {rest : List (Addr × Obj)} (N : News h₀ L h (q :: kd :: f :: ls :: p2 :: p1 :: b :: D :: I :: r :: d :: rest)) :
    News h₀ L h (q :: r :: d :: f :: ls :: p2 :: p1 :: kd :: b :: D :: I :: rest) := kst_newsOf N (by
  intro p hp
  simp only [List.mem_cons] at hp ⊢
  rcases hp with h | h | h | h | h | h | h | h | h | h | h | h <;> simp [h])
theorem ctl_pc1 {h₀ h : Heap} {L : Addr} {q f b D I kd r d : Addr × Obj} {rest : List (Addr × Obj)} (N : News h₀ L h (q :: kd :: f :: b :: D :: I :: r :: d :: rest)) :
    News h₀ L h (q :: r :: d :: f :: kd :: b :: D :: I :: rest) := kst_newsOf N (by
  intro p hp
  simp only [List.mem_cons] at hp ⊢
  rcases hp with h | h | h | h | h | h | h | h | h <;> simp [h])
theorem ctl_pe {h₀ h : Heap} {L : Addr} {x y sl r d f ls p2 p1 kd b D I : Addr × Obj} {rest : List (Addr × Obj)} (N : News h₀ L h (x :: y :: sl :: r :: d :: f :: ls :: p2 :: p1 :: kd :: b :: D :: I :: rest)) :
    News h₀ L h (I :: kd :: r :: d :: b :: D :: f :: ls :: p2 :: p1 :: sl :: rest) := kst_newsOf N (by
  intro p hp
  simp only [List.mem_cons] at hp ⊢
  rcases hp with h | h | h | h | h | h | h | h | h | h | h | h <;> simp [h])
theorem ctl_map {m₀ : Str → Option Value} {v1 v2 v3 v4 : Option Value} : ∀ z, z ≠ Str.ofString "first" → ctlStored.contains z = false →
    (fun y => if y = Str.ofString "first" then v1 else if y = Str.ofString "due" then v2 else if y = Str.ofString "frame" then v3 else if y = Str.ofString "at" then v4 else m₀ y) z = m₀ z := by
  intro z h1 h2
  have a1 : z ≠ Str.ofString "at" := by rintro rfl; exact absurd h2 (by decide)
  have a2 : z ≠ Str.ofString "frame" := by rintro rfl; exact absurd h2 (by decide)
  have a3 : z ≠ Str.ofString "due" := by rintro rfl; exact absurd h2 (by decide)
  simp only [if_neg h1, if_neg a1, if_neg a2, if_neg a3]
theorem ctl_map2 {m₀ u : Str → Option Value} {v1 v2 v3 v4 v5 : Option Value} : ∀ z, z ≠ Str.ofString "first" → ctlStored.contains z = false →
    (fun y => if y = Str.ofString "first" then v1 else if y = Str.ofString "due" then v2 else if y = Str.ofString "frame" then v3 else if y = Str.ofString "at" then v4 else if y = Str.ofString "first" then v5 else if ctlStored.contains y then u y else m₀ y) z = m₀ z := by
  intro z h1 h2
  have a1 : z ≠ Str.ofString "at" := by rintro rfl; exact absurd h2 (by decide)
  have a2 : z ≠ Str.ofString "frame" := by rintro rfl; exact absurd h2 (by decide)
  have a3 : z ≠ Str.ofString "due" := by rintro rfl; exact absurd h2 (by decide)
  simp only [if_neg h1, if_neg a1, if_neg a2, if_neg a3, h2, Bool.false_eq_true, if_false]
theorem ctl_tail {h₀ h : Heap} {L bA dA kA : Addr} {b D I kd r d f ls p2 p1 sl : Addr × Obj} {fl rest : List (Addr × Obj)} (N : News h₀ L h (fl ++ (b :: D :: ([I, kd, r, d] ++ (f :: ls :: p2 :: p1 :: sl :: rest)))))
    (hlt : ∀ q ∈ fl, AllLt q.1 (b :: D :: ([I, kd, r, d] ++ (f :: ls :: p2 :: p1 :: sl :: rest)))) (eb : b.1 = bA) (ed : d.1 = dA) (ek : kd.1 = kA) (hb : ∀ p ∈ rest, p.1 ≠ bA) (hd : ∀ p ∈ rest, p.1 ≠ dA) (hk : ∀ p ∈ rest, p.1 ≠ kA) :
    ∃ tl, News h₀ L h (b :: D :: I :: kd :: r :: d :: f :: ls :: p2 :: p1 :: sl :: tl) ∧ (∀ p ∈ fl, p ∈ tl) ∧ (∀ p ∈ rest, p ∈ tl) ∧ (∀ p ∈ tl, p.1 ≠ bA) ∧ (∀ p ∈ tl, p.1 ≠ dA) ∧ (∀ p ∈ tl, p.1 ≠ kA) := by
  subst eb ed ek
  refine ⟨fl ++ rest, kst_newsOf N ?_, fun p hp => List.mem_append_left _ hp, fun p hp => List.mem_append_right _ hp, ?_, ?_, ?_⟩
  · intro p hp
    simp only [List.mem_cons, List.mem_append, List.not_mem_nil, or_false] at hp ⊢
    rcases hp with h | h | h | h | h | h | h | h | h | h | h | h | h <;> simp [h]
  · intro p hp
    rcases List.mem_append.mp hp with hp | hp
    · exact Nat.ne_of_gt (hlt p hp).1
    · exact hb p hp
  · intro p hp
    rcases List.mem_append.mp hp with hp | hp
    · exact Nat.ne_of_gt (hlt p hp).2.2.2.2.2.1
    · exact hd p hp
  · intro p hp
    rcases List.mem_append.mp hp with hp | hp
    · exact Nat.ne_of_gt (hlt p hp).2.2.2.1
    · exact hk p hp
theorem ctl_pk {h₀ h : Heap} {L : Addr} {b D I kd : Addr × Obj} {tl : List (Addr × Obj)} (N : News h₀ L h (b :: D :: I :: kd :: tl)) : News h₀ L h (kd :: b :: D :: I :: tl) := kst_newsOf N (by
  intro p hp
  simp only [List.mem_cons] at hp ⊢
  rcases hp with h | h | h | h | h <;> simp [h])
theorem ctl_pk2 {h₀ h : Heap} {L : Addr} {q b D I kd r d : Addr × Obj} {tl : List (Addr × Obj)} (N : News h₀ L h (q :: kd :: b :: D :: I :: r :: d :: tl)) : News h₀ L h (q :: r :: d :: kd :: b :: D :: I :: tl) := kst_newsOf N (by
  intro p hp
  simp only [List.mem_cons] at hp ⊢
  rcases hp with h | h | h | h | h | h | h | h <;> simp [h])
theorem ctl_pe2 {h₀ h : Heap} {L : Addr} {x y r d kd b D I f ls p2 p1 sl : Addr × Obj} {rest tl : List (Addr × Obj)} (N : News h₀ L h (x :: y :: r :: d :: kd :: b :: D :: I :: f :: ls :: p2 :: p1 :: sl :: tl)) (hs : ∀ p ∈ rest, p ∈ tl) :
    News h₀ L h (I :: kd :: r :: d :: b :: D :: f :: ls :: p2 :: p1 :: sl :: rest) := kst_newsOf N (by
  intro p hp
  simp only [List.mem_cons] at hp ⊢
  rcases hp with h | h | h | h | h | h | h | h | h | h | h | h
  all_goals first | (simp [h]; done) | (simp [hs p h]; done))
theorem ctl_packN {h₀ h : Heap} {L : Addr} {b D x kd r d : Addr × Obj} {rest : List (Addr × Obj)} (N : News h₀ L h (b :: D :: x :: kd :: r :: d :: rest)) : News h₀ L h (kd :: r :: d :: b :: D :: rest) := kst_newsOf N (by kst_allIn)
theorem ctl_tailN {h₀ h : Heap} {L bA dA kA : Addr} {b D I kd r d : Addr × Obj} {fl fx : List (Addr × Obj)} (N : News h₀ L h (fl ++ (b :: D :: ([I, kd, r, d] ++ fx))))
    (hlt : ∀ q ∈ fl, AllLt q.1 (b :: D :: ([I, kd, r, d] ++ fx))) (eb : b.1 = bA) (ed : d.1 = dA) (ek : kd.1 = kA) (hb : ∀ p ∈ fx, p.1 ≠ bA) (hd : ∀ p ∈ fx, p.1 ≠ dA) (hk : ∀ p ∈ fx, p.1 ≠ kA) :
    ∃ tl, News h₀ L h (b :: D :: I :: kd :: r :: d :: tl) ∧ (∀ p ∈ fl, p ∈ tl) ∧ (∀ p ∈ fx, p ∈ tl) ∧ (∀ p ∈ tl, p.1 ≠ bA) ∧ (∀ p ∈ tl, p.1 ≠ dA) ∧ (∀ p ∈ tl, p.1 ≠ kA) := by
  subst eb ed ek
  refine ⟨fl ++ fx, kst_newsOf N ?_, fun p hp => List.mem_append_left _ hp, fun p hp => List.mem_append_right _ hp, ?_, ?_, ?_⟩
  · intro p hp
    simp only [List.mem_cons, List.mem_append, List.not_mem_nil, or_false] at hp ⊢
    rcases hp with h | h | h | h | h | h | h | h <;> simp [h]
  · intro p hp
    rcases List.mem_append.mp hp with hp | hp
    · exact Nat.ne_of_gt (hlt p hp).1
    · exact hb p hp
  · intro p hp
    rcases List.mem_append.mp hp with hp | hp
    · exact Nat.ne_of_gt (hlt p hp).2.2.2.2.2.1
    · exact hd p hp
  · intro p hp
    rcases List.mem_append.mp hp with hp | hp
    · exact Nat.ne_of_gt (hlt p hp).2.2.2.1
    · exact hk p hp
theorem ctl_peN {h₀ h : Heap} {L : Addr} {x y r d kd b D I : Addr × Obj} {fx tl : List (Addr × Obj)} (N : News h₀ L h (x :: y :: r :: d :: kd :: b :: D :: I :: tl)) (hs : ∀ p ∈ fx, p ∈ tl) :
    News h₀ L h (I :: kd :: r :: d :: b :: D :: fx) := by
  have M : News h₀ L h (I :: kd :: r :: d :: b :: D :: tl) := kst_newsOf N (by kst_allIn)
  intro p hp
  refine M p ?_
  simp only [List.mem_cons] at hp ⊢
  rcases hp with h | h | h | h | h | h | h
  all_goals first | (simp [h]; done) | (simp [hs p h]; done)
theorem ctl_pendN {h₀ h : Heap} {L : Addr} {x y r d kd b D I : Addr × Obj} {fx tl rest : List (Addr × Obj)} (N : News h₀ L h (x :: y :: r :: d :: kd :: b :: D :: I :: tl)) (hs : ∀ p ∈ fx, p ∈ tl) (hr : ∀ p ∈ rest, p ∈ fx) :
    News h₀ L h (b :: D :: rest) := by
  have M : News h₀ L h (b :: D :: tl) := kst_newsOf N (by kst_allIn)
  intro p hp
  refine M p ?_
  simp only [List.mem_cons] at hp ⊢
  rcases hp with h | h | h
  all_goals first | (simp [h]; done) | (simp [hs p (hr p h)]; done)
theorem ctl_pt {h₀ h : Heap} {L : Addr} {x y z kd r d b D f ls p2 p1 sl : Addr × Obj} {rest : List (Addr × Obj)} (N : News h₀ L h (x :: y :: z :: kd :: r :: d :: b :: D :: f :: ls :: p2 :: p1 :: sl :: rest)) :
    ∃ l', l' = b :: D :: rest ∧ News h₀ L h (x :: kd :: r :: d :: l') := ⟨_, rfl, kst_newsOf N (by kst_allIn)⟩
end H2
section H3
section
variable {prog : Program} {w : World} {A₀ A : Around} {s : Shared} {base h₀ : Heap} {outer : List Env} {L : Addr} {m : Str → Option Value} {env : Env} {news rest : List (Addr × Obj)} {K : Frag} {p : Program} {loose : List Str} {mean : ExcName → Option Value} {mg mb : Str → Option Value}
    {R : Result → Shared → Prop} {name qual : Str} {params : Arguments} {body : List Stmt} {scope : Scope} {dV kV doc pm cdv ct oc : Value} {an od : Option Addr} {osl : Array (Option Value)} {f : Addr} {args : Args} {binds : List (Str × Value)}
theorem code_defR (B : Below A₀ base outer h₀) (F : Fr h₀ L s.heap m) (X₀ : K.In h₀) (N : News h₀ L s.heap news) (NR : News h₀ L s.heap rest) (T : Top p loose mean mg mb h₀) (hA : A.frames = some (env :: outer)) (hf : env.frame = some L) (hke : env.scope.kind = .function)
    (ho : K.lookup f = some ⟨oc, od, .func (fnOf name qual params body scope dV kV doc pm an cdv ct), osl⟩) (hcd : codeIn K cdv qual = true) (hroom : A.depth < recursionLimit)
    (hbind : BindsTo s (fnOf name qual params body scope dV kV doc pm an cdv ct) args binds) (hloc : ∀ y ∈ binds, scope.names.lookup y.1 = some .local)
    (h : ∀ g L' h₁, Fr h₀ L g m → Fr g L' h₁ (fun y => binds.reverse.lookup y) → News g L' h₁ news → Below A base (env :: outer) g → K.In g → Top p loose mean mg mb g →
      wpAny (model prog w) (A.deeper (envOf qual scope L' f cdv)) (execs body (envOf qual scope L' f cdv))
        (fun fl s' => LeaveK h₀ L m g (fun r s' => (News h₀ L s'.heap news → News h₀ L s'.heap rest) → R r s') (match fl with | .ret v => v | _ => .none) s')
        (fun e s' => wpAny (model prog w) (A.deeper (envOf qual scope L' f cdv)) (leaving (envOf qual scope L' f cdv) e) (fun _ s'' => R (.error e) s'') (fun e' s'' => R (.error e') s'') s')
        { s with heap := h₁, toks := s.toks + binds.length })
    (hco : scope.isCoroutine = false) (hgen : scope.isGenerator = false) (hk : scope.kind = .function)
    (hcell : ∀ x ∈ scope.names, x.2 ≠ .cell) : codeAny (model prog w) A (.call (.ref f) args) R s := by
  obtain ⟨FG, BG, st, lv⟩ := groundX (R := R) B F N hA hf hke
  have X := X₀.keeps F.keep
  refine codeAny_call_def (fd := fnOf name qual params body scope dV kV doc pm an cdv ct) (body := body) (binds := binds) hroom (X _ _ ho) rfl (T.nolimit.keeps F.keep) (codeRec_of X hcd) rfl hbind hcell hloc (fun h₁ hns hk₁ => ?_) hco hgen hk
  refine wpAny_mono (h _ s.heap.objs.size h₁ FG ⟨hns, fun b o e => hk₁ b o (of_hideAll _ e), Nat.le_of_eq (hideAll_size _ _)⟩
    (fun p hp => ⟨hk₁ _ _ (N p hp).1, Nat.ne_of_lt (Heap.lt_size (N p hp).1), hideAll_none _ (List.mem_map_of_mem hp)⟩) BG (X₀.keeps st) (T.keeps st)) (fun fl s' hl => lv _ _ ?_) fun _ _ y => y
  obtain ⟨L', m', news', F', N', k⟩ := hl
  refine ⟨L', m', news', F', N', fun F₂ N₂ => k F₂ N₂ fun NN q hq => ⟨?_, (NR q hq).2⟩⟩
  by_cases hm : q.1 ∈ news.map (·.1)
  · obtain ⟨p', hp', e⟩ := List.mem_map.mp hm
    have h1 := (N p' hp').1
    have h2 := (NN p' hp').1
    rw [e] at h1 h2
    rw [(NR q hq).1] at h1
    rw [h2, ← h1]
  · exact F'.keep _ _ (hideAll_get _ (NR q hq).1 hm)
end
section
open PySem.Spec
variable {prog : Program} {w : World} {A : Around} {E : Value → Shared → Prop} {s : Shared} {env : Env} {h₀ : Heap} {x : Str} {body : List Stmt} {Q : Flow → Shared → Prop}
def TupPost (h₀ : Heap) (L : Addr) (x : Str) (m₀ : Str → Option Value) (led : List (Addr × Obj)) (s₁ : Shared) (Q : Flow → Shared → Prop) (f : Flow) (s₂ : Shared) : Prop :=
  match f with
  | .ret v => Q (.ret v) s₂
  | .brk => Q .next s₂
  | _ => ∃ h' tk m', s₂ = { s₁ with heap := h', toks := tk } ∧ Fr h₀ L h' m' ∧ News h₀ L h' led ∧ ∀ z, z ≠ x → m' z = m₀ z
theorem tup_loop {ax : Addr} {vs : List Value} {m₀ : Str → Option Value} {news : List (Addr × Obj)} (hh : A.handled = none) (F : Fr h₀ env.locals s.heap m₀) (N : News h₀ env.locals s.heap ((ax, tupOf vs) :: news))
    (turn : ∀ v h tk I oI, v ∈ vs → Fr h₀ env.locals h (fun y => if y = x then some v else m₀ y) → News h₀ env.locals h ((I, oI) :: (ax, tupOf vs) :: news) → AllLt I ((ax, tupOf vs) :: news) →
      wpAny (model prog w) A (execs body env) (TupPost h₀ env.locals x m₀ ((I, oI) :: (ax, tupOf vs) :: news) { s with heap := h, toks := tk } Q) E { s with heap := h, toks := tk })
    (done : ∀ m₁ h tk, (∀ z, z ≠ x → m₁ z = m₀ z) → Fr h₀ env.locals h m₁ → News h₀ env.locals h ((ax, tupOf vs) :: news) → Q .next { s with heap := h, toks := tk }) :
    wpAny (model prog w) A (pyIter (.ref ax)) (fun it s₂ => LoopAtV prog w A h₀ env x body Q E it s₂) E s := by
  have hax := N _ (.head _)
  have ht : s.heap.IsTuple ax vs.toArray := ⟨_, hax.1, rfl, _, rfl⟩
  have hlt : ax < s.heap.objs.size := Heap.lt_size hax.1
  have hne : ax ≠ s.heap.objs.size := Nat.ne_of_lt hlt
  have lt : ∀ p ∈ (ax, tupOf vs) :: news, p.1 < s.heap.objs.size := fun p hp => Heap.lt_size (N p hp).1
  refine wpAny_pyIter_tuple ht ?_
  have W := Walks.tuple (prog := prog) (w := w) (A := A) hh s.heap.objs.size ax hne vs.toArray
  refine ⟨_, _, _, _, _, _, m₀, (ax, tupOf vs) :: news, (fun _ m nx => (∀ z, z ≠ x → m z = m₀ z) ∧ nx = (ax, tupOf vs) :: news), rfl, W, ?_, ?_, ?_, ⟨?_, ?_⟩, (F.push _), (fun p hp => ⟨Heap.get?_push_of_some _ (N p hp).1, (N p hp).2⟩), ⟨fun _ _ => rfl, rfl⟩, ?_, ?_⟩
  · intro hm
    rcases List.mem_cons.mp hm with e | hm
    · exact absurd F.ns.lt (e ▸ Nat.lt_irrefl _)
    · exact hax.2.1 (List.mem_singleton.mp hm).symm
  · intro b hb
    rw [List.mem_singleton.mp hb]
    exact next_is_new F
  · intro p hp hI
    exact absurd (lt p hp) ((List.mem_singleton.mp hI) ▸ Nat.lt_irrefl _)
  · exact ⟨_, Heap.get?_push_size _ rfl, rfl, rfl⟩
  · exact ⟨_, Heap.get?_push_of_some _ hax.1, rfl, _, rfl⟩
  · rintro i v m₁ nx s₁ own ⟨hh', tk', rfl⟩ hin hP ⟨hm, rfl⟩ hoff hown hget hmem hst' F₁ N₁
    obtain ⟨oI, hoI, _⟩ := hst'.1
    have hI : (s.heap.objs.size, oI) ∈ own := hmem _ (.head _) (next_is_new F) _ hoI
    have N₂ : News h₀ env.locals hh' ((s.heap.objs.size, oI) :: (ax, tupOf vs) :: news) := fun p hp => by
      rcases List.mem_cons.mp hp with rfl | hp
      · exact N₁ _ (List.mem_append_left _ hI)
      · exact N₁ _ (List.mem_append_right _ hp)
    have F₂ : Fr h₀ env.locals hh' (fun y => if y = x then some v else m₀ y) := by
      have e : (fun y => if y = x then some v else m₁ y) = fun y => if y = x then some v else m₀ y := by
        funext y
        by_cases h1 : y = x
        · simp [h1]
        · simp only [if_neg h1]; exact hm y h1
      rw [← e]; exact F₁
    have hv : v ∈ vs := List.mem_of_getElem? (by simpa using hP)
    refine wpAny_mono (turn v hh' tk' _ oI hv F₂ N₂ (allLt_of lt)) (fun f s₂ p => ?_) fun _ _ e => e
    have fin : (∃ h' tk m', s₂ = { { s with heap := hh', toks := tk' } with heap := h', toks := tk } ∧ Fr h₀ env.locals h' m' ∧ News h₀ env.locals h' ((s.heap.objs.size, oI) :: (ax, tupOf vs) :: news) ∧ ∀ z, z ≠ x → m' z = m₀ z) →
        LoopStepU h₀ env.locals [s.heap.objs.size] own (fun m nx => (∀ z, z ≠ x → m z = m₀ z) ∧ nx = (ax, tupOf vs) :: news) { s with heap := hh', toks := tk' } .next s₂ := by
      rintro ⟨h', tk, m', e, F', N', hm'⟩
      refine ⟨rfl, h', tk, m', _, e, F', fun p hp => ?_, fun p hp hq => absurd (lt p hp) ((List.mem_singleton.mp hq) ▸ Nat.lt_irrefl _), hm', rfl⟩
      rcases List.mem_append.mp hp with hp | hp
      · have h1 := hown p hp
        have h2 := hget p hp
        obtain ⟨pa, po⟩ := p
        dsimp only at h1 h2
        rcases List.mem_cons.mp h1 with rfl | h1
        · rw [show Heap.get? hh' s.heap.objs.size = some po from h2] at hoI
          cases hoI
          exact N' _ (.head _)
        · rw [List.mem_singleton.mp h1] at h2 ⊢
          have h3 := (N₂ _ (.tail _ (.head _))).1
          rw [show Heap.get? hh' ax = some po from h2] at h3
          cases h3
          exact N' _ (.tail _ (.head _))
      · exact N' p (.tail _ hp)
    cases f with
    | ret v => exact .ret p
    | brk => exact .brk p
    | next => exact .next (fin p)
    | cont => exact .cont (fin p)
  · rintro h' tk m' news' F' N' _ ⟨hm, rfl⟩
    exact done m' h' tk hm F' N'
theorem map_same {x : Str} {m₁ m₀ : Str → Option Value} (hm : ∀ z, z ≠ x → m₁ z = m₀ z) : m₁ = fun z => if z = x then m₁ z else m₀ z := by
  funext z
  by_cases e : z = x
  · rw [if_pos e]
  · rw [if_neg e]; exact hm z e
end
theorem ctl_pdone {h₀ h : Heap} {L : Addr} {x y z kd r d b D f ls p2 p1 sl : Addr × Obj} {rest : List (Addr × Obj)} (N : News h₀ L h (x :: y :: z :: kd :: r :: d :: b :: D :: f :: ls :: p2 :: p1 :: sl :: rest)) :
    News h₀ L h (b :: D :: rest) := kst_newsOf N (by
  intro p hp
  simp only [List.mem_cons] at hp ⊢
  rcases hp with h | h | h <;> simp [h])
end H3
section M0
section
variable {prog : Program} {w : World} {A₀ A : Around} {s : Shared} {base h₀ g₀ : Heap} {outer : List Env} {L : Addr} {m : Str → Option Value} {env : Env} {news : List (Addr × Obj)} {K : Frag} {p : Program} {loose : List Str} {mean : ExcName → Option Value} {mg mb : Str → Option Value}
    {R : Result → Shared → Prop} {name qual : Str} {params : Arguments} {body : List Stmt} {scope : Scope} {dV kV doc pm cdv ct oc : Value} {an od : Option Addr} {osl : Array (Option Value)} {f : Addr} {args : Args} {binds : List (Str × Value)}
theorem leave_E {oL : Obj} {es : Array DictEntry} {ep : Nat} {g : Heap} {v : Value} {s' : Shared} (B : Below A₀ base outer h₀) (F : Fr h₀ L s.heap m) (XB : K.In base) (TB : Top p loose mean mg mb base) (D : KtsDicts (outer.filterMap (·.frame)) h₀)
    (T0 : KtsTurn (outer.filterMap (·.frame)) g₀ h₀) (hf : env.frame = some L) (hLg : g.get? L = some oL) (hNs : ∀ (sl : Array (Option Value)) h', h'.get? L = some { oL with slots := sl } → Heap.Ns h' L m) (st : h₀.StaysIn g) 
    (hl : LeaveS ((env :: outer).filterMap (·.frame)) A₀ base outer K p loose mean mg mb g₀ h₀ L m g R v s') : R (.ok (.ret v)) s' := by
  have nL₀ : h₀.get? L = none := kts_self F
  rcases hl with ⟨L', m', news', F', N', k⟩ | ⟨g', L', m', news', T', F', N', k⟩
  · refine k ⟨hNs oL.slots _ (F'.keep _ _ hLg), fun b o e => F'.keep b o (st b o e), F.above⟩ fun p hp => ⟨(N' p hp).1, fun q => ?_, ?_⟩
    · have := (N' p hp).2.2; rw [q, hLg] at this; cases this
    · cases q : h₀.get? p.1 with
      | none => rfl
      | some o => have := (N' p hp).2.2; rw [st _ _ q] at this; cases this
  obtain ⟨sl, hs⟩ := T'.up hLg
  obtain ⟨T₁, S₁⟩ := kts_turn_at (h := s'.heap) (fs := outer.filterMap (·.frame)) (g := h₀)
    (fun b hb => by
      obtain ⟨_, o, ho', _⟩ := B.frames.mem hb
      exact ⟨o, ho'⟩)
    (fun b o e nmem => F'.keep b o (T'.other b o (st b o e) (fun q => by
      rcases mem_frames hf q with z | z
      · rw [z, nL₀] at e
        cases e
      · exact nmem z)))
    (fun b o e hm => by
      obtain ⟨sl', hs'⟩ := T'.up (st b o e)
      exact ⟨sl', F'.keep _ _ hs'⟩)
  have B₃ : Below A₀ base outer (ktsHeap s'.heap (outer.filterMap (·.frame)) h₀) := ⟨B.stack, fun b o e => T₁.other b o (B.stays b o e) (fun hm => by
    rw [(B.frames.mem hm).1] at e
    cases e), B.frames.of_keeps fun b o e _ => by
    obtain ⟨sl', hs'⟩ := T₁.up e
    exact ⟨_, hs', rfl⟩⟩
  refine k _ (T0.trans T₁) ⟨hNs sl _ (F'.keep _ _ hs), S₁, by rw [T₁.size]; exact F.above⟩ (fun p hp => ⟨(N' p hp).1, fun q => ?_, ?_⟩) B₃ (XB.keeps B₃.stays) (TB.keeps B₃.stays) (D.turn T₁)
  · have := (N' p hp).2.2; rw [q, hs] at this; cases this
  · refine T₁.none_ _ ?_
    cases q : h₀.get? p.1 with
    | none => rfl
    | some o =>
      obtain ⟨sl', hs'⟩ := T'.up (st _ _ q)
      have := (N' p hp).2.2
      rw [hs'] at this
      cases this
theorem code_cellsE (B : Below A₀ base outer h₀) (F : Fr h₀ L s.heap m) (X₀ : K.In h₀) (N : News h₀ L s.heap news) (T : Top p loose mean mg mb h₀) (XB : K.In base) (TB : Top p loose mean mg mb base) (D : KtsDicts (outer.filterMap (·.frame)) h₀)
    (T0 : KtsTurn (outer.filterMap (·.frame)) g₀ h₀) (hA : A.frames = some (env :: outer)) (hf : env.frame = some L) (hck : env.scope.kind = .function)
    (ho : K.lookup f = some ⟨oc, od, .func (fnOf name qual params body scope dV kV doc pm an cdv ct), osl⟩) (hcd : codeIn K cdv qual = true) (hroom : A.depth < recursionLimit)
    (hbind : BindsTo s (fnOf name qual params body scope dV kV doc pm an cdv ct) args binds) (hkind : (binds.all fun y => scope.names.lookup y.1 == some .local || scope.names.lookup y.1 == some .cell) = true)
    (hnd : ((cellsFrom 0 scope.names []).map (·.1)).Nodup)
    (h : ∀ g L' h₁ tk cells, Fr h₀ L g m → Fr g L' h₁ (bindL (envOfC qual scope L' f cdv).kindOf binds fun _ => none) → News g L' h₁ (cells ++ news) →
      CellsAre (bindC (envOfC qual scope L' f cdv).kindOf binds fun _ => none) (cellsFrom (L' + 1) scope.names []) cells → Below A base (env :: outer) g → K.In g → Top p loose mean mg mb g → KtsDicts ((env :: outer).filterMap (·.frame)) g → (∀ p ∈ news, p.1 < L') →
      wpAny (model prog w) (A.deeper (envOfC qual scope L' f cdv)) (execs body (envOfC qual scope L' f cdv))
        (fun fl s' => LeaveS ((env :: outer).filterMap (·.frame)) A₀ base outer K p loose mean mg mb g₀ h₀ L m g R (match fl with | .ret v => v | _ => .none) s')
        (fun e s' => wpAny (model prog w) (A.deeper (envOfC qual scope L' f cdv)) (leaving (envOfC qual scope L' f cdv) e) (fun _ s'' => R (.error e) s'') (fun e' s'' => R (.error e') s'') s')
        { s with heap := h₁, toks := tk })
    (hco : scope.isCoroutine = false) (hgen : scope.isGenerator = false) (hk : scope.kind = .function) : codeAny (model prog w) A (.call (.ref f) args) R s := by
  obtain ⟨oL, es, ep, hLg, hLd, hNs, st, B₂⟩ := enterE B F N hA hf hck
  have X := X₀.keeps F.keep
  refine codeAny_call_function hroom (X _ _ ho) rfl hco hgen rfl (codeRec_of X hcd) (hbind _ _ _ _ ?_)
  refine wpAny_newFunctionEnv_cells hk (kindsX hkind _) fun env' he s' x => ?_
  subst he
  refine ⟨(T.nolimit.keeps F.keep).keeps x.toInCall.keep, codeAny_func ?_⟩
  obtain ⟨h₁, tk, rfl, _⟩ := x.done
  have hk₁ := x.toInCall.keep
  obtain ⟨cells, NC, Y⟩ := Cl.news (h₀ := s.heap) (Nat.le_refl _) fun n c hm => ⟨x.cell n c (lookup_of_mem_nodup (cellsFrom_names scope.names 0 (s.heap.objs.size + 1) [] [] rfl ▸ hnd) hm), x.above n c hm⟩
  refine wpAny_mono (h _ s.heap.objs.size h₁ tk cells ⟨hNs oL.slots _ hLg, st, F.above⟩ ⟨x.toInCall.ns, fun b o e => hk₁ b o (of_hideAll _ e), Nat.le_of_eq (hideAll_size _ _)⟩ (fun p hp => ?_) Y B₂ (X₀.keeps st) (T.keeps st) (fun b hb => by
      rcases mem_frames hf hb with rfl | hb
      · exact ⟨oL, es, ep, hLg, hLd⟩
      · obtain ⟨o, es', n', ho', hd'⟩ := D b hb
        exact ⟨o, es', n', st b o ho', hd'⟩) (fun p hp => Heap.lt_size (N p hp).1)) (fun fl s' hl => leave_E (es := es) (ep := ep) B F XB TB D T0 hf hLg hNs st hl) fun _ _ y => y
  rcases List.mem_append.mp hp with hp | hp
  · refine ⟨(NC p hp).1, (NC p hp).2.1, ?_⟩
    cases q : (hideAll s.heap (news.map (·.1))).get? p.1 with
    | none => rfl
    | some o => have := of_hideAll _ q; rw [(NC p hp).2.2] at this; cases this
  · exact ⟨hk₁ _ _ (N p hp).1, Nat.ne_of_lt (Heap.lt_size (N p hp).1), hideAll_none _ (List.mem_map_of_mem hp)⟩
end
end M0
section M1
inductive MS where | head | body | trail
def MS.num : MS → Int | .head => 0 | .body => 1 | .trail => 2
def MS.name : MS → PySem.Str | .head => Str.ofString "head" | .body => Str.ofString "body" | .trail => Str.ofString "trailer"
inductive MF where | headers | data | unknown | push (n : Int) | settings | goaway | cancel
def MFrame (o : Obj) : MF → Prop
  | .headers => ∃ (t : VTok) (v : Value), o = tupOf [.str (Str.ofString "headers") t, v]
  | .data => ∃ (t : VTok) (v : Value), o = tupOf [.str (Str.ofString "data") t, v]
  | .unknown => ∃ (t : VTok) (v u : Value), o = tupOf [.str (Str.ofString "unknown") t, v, u]
  | .push n => ∃ (t tn : VTok) (v : Value), o = tupOf [.str (Str.ofString "push_promise") t, .int n tn, v]
  | .settings => ∃ (t : VTok) (v : Value), o = tupOf [.str (Str.ofString "settings") t, v]
  | .goaway => ∃ (t : VTok) (v : Value), o = tupOf [.str (Str.ofString "goaway") t, v]
  | .cancel => ∃ (t : VTok) (v : Value), o = tupOf [.str (Str.ofString "cancel_push") t, v]
inductive MR where | code (c : Int) | word (s : PySem.Str)
inductive MVal : Value → MR → Prop
  | code (c : Int) (t : VTok) : MVal (.int c t) (.code c)
  | word (s : PySem.Str) (t : VTok) : MVal (.str s t) (.word s)
def mdue (ans early : Bool) (most : Option Int) (st : MS) : MF → MR × MS
  | .headers => match st with
    | .head => if early = true ∧ ans = true then (.word (Str.ofString "interim"), .head) else (.word (Str.ofString "head"), .body)
    | .body => (.word (Str.ofString "trailer"), .trail)
    | .trail => (.code 261, .trail)
  | .data => match st with
    | .body => (.word (Str.ofString "data"), .body)
    | s => (.code 261, s)
  | .unknown => (.word (Str.ofString "other"), st)
  | .push n => if ans = true then
      match most with
      | some x => if n > x then (.code 264, st) else (.word (Str.ofString "push"), st)
      | none => (.code 264, st)
    else (.code 261, st)
  | .settings => (.code 261, st)
  | .goaway => (.code 261, st)
  | .cancel => (.code 261, st)
theorem md_p1 {early : Bool} {st : MS} {n x : Int} (h : n > x) : mdue true early (some x) st (.push n) = (.code 264, st) := by simp only [mdue]; rw [if_pos trivial, if_pos h]
theorem md_p2 {early : Bool} {st : MS} {n x : Int} (h : ¬ n > x) : mdue true early (some x) st (.push n) = (.word (Str.ofString "push"), st) := by simp only [mdue]; rw [if_pos trivial, if_neg h]
def mrulesD (w : World) (t1 t2 t3 : VTok) (av mv sv : Value) : Obj :=
  dictOf [⟨PyData.keyHash w.params (Str.ofString "is_answer"), .str (Str.ofString "is_answer") t1, av⟩, ⟨PyData.keyHash w.params (Str.ofString "most_push"), .str (Str.ofString "most_push") t2, mv⟩,
    ⟨PyData.keyHash w.params (Str.ofString "stage"), .str (Str.ofString "stage") t3, sv⟩] 3
def msgStored : List Str := [Str.ofString "turn", Str.ofString "some", Str.ofString "frame", Str.ofString "due", Str.ofString "told"]
end M1
theorem said_M2 : True := by
  k_with_none
  k_with "k_room" => ktr_room
  k_with "k_units" => ktr_units
  k_with "k_all" => assumption
  k_with "k_all" => exact allLt_ne (by assumption) (by intro q hq; repeat (first | exact hq | refine List.Mem.tail _ ?_))
  k_with "k_ne" => (refine neN ?_; (try dsimp only); first | assumption | exact Ne.symm (by assumption) | exact Nat.ne_of_gt (allLt_at (by assumption) (by k_mem)) | exact Nat.ne_of_lt (allLt_at (by assumption) (by k_mem)) | omega)
  k_with "exec Raise some none" => (k_here; (with_reducible show wpAny _ _ (exec (Stmt.Raise (some (Expr.Call (Expr.Name ("H3Error" : Str) _) (_ :: _) [] _)) none _) _) _ _ _); (refine Raise_31 rfl ?_))
  k_with "call ref" => (k_here; (with_reducible show wpAny _ _ (call (Value.ref 31) [Value.int _ _, Value.str _ _]) (Raisable31 _) _ _); k_dflt (refine' h3_make ?B ?F ?X ?N ?T ?hk ?c0 ?c1 ?hl ?hd ?hu ?_; (case B => k_asm); (case F => k_asm); (case X => k_asm); (case N => k_asm); (case T => k_asm); (case hk => first | exact rfl | assumption); (case c0 => decide); (case c1 => decide); (case hl => first | decide | assumption); (case hd => ktr_room); (case hu => ktr_units); k_whole); intro e' dx' t' es' n' h' tk' F' N' g' hne' hed'; refine ⟨_, _, _, rfl, h3_at (by k_in), (N' _ (List.Mem.head _)).1, ?_⟩; (try dsimp only))
  k_with "leaving ref" => (k_here; first
  | ((rename RaisedD _ _ _ _ _ _ _ _ _ => rdX); (refine' leave_onD ?k1 ?k2 ?k3 ?k4 ?k5 ?_; (case k3 => exact rdX); (case k2 => assumption); (case k1 => assumption); (case k4 => assumption); (case k5 => exact rfl); k_whole); intro h' R' U'; (try dsimp only at R' U' ⊢))
  | ((refine' leave_firstD ?k1 ?k2 ?k3 ?k4 ?k5 ?k6 ?k7 ?_; (case k3 => k_asm); (case k2 => assumption); (case k1 => assumption); (case k4 => assumption); (case k5 => assumption); (case k6 => exact rfl); (case k7 => exact rfl); k_whole); intro h' R' U'; (try dsimp only at R' U' ⊢)))
  k_with "noteFrame ref" => (k_here; k_dflt (refine' caught_D ?R ?F ?K ?U ?XB ?TB ?D ?T0 ?ex ?_; (case R => assumption); (case F => assumption); (case K => assumption); (case U => assumption); (case XB => assumption); (case TB => assumption); (case D => assumption); (case T0 => first | assumption | exact KtsTurn.refl); (case ex => k_is); k_whole); intro h' g' ws' sl' tk' T' F' N' K' X' P' D'; (try k_lift K'); (try k_sweep))
  k_with "getAttr ref" => (k_here; (with_reducible show wpAny _ _ (getAttr (Value.ref _) (Str.ofString "code") _) _ _ _); k_dflt (refine' get31 ?X ?I ?ha ?hl ?hv ?_; (case X => k_in); (case I => exact inst_news31 (by k_asm) (by k_mem) (by k_mem)); (case ha => k_is); (case hl => assumption); (case hv => exact rfl); k_whole))
  k_with "compareOp NotIn str ref" => (k_here; first
  | (refine' notin35 (b := false) ?X ?hb ?_; (case X => k_in); (case hb => decide +kernel))
  | (refine' notin35 (b := true) ?X ?hb ?_; (case X => k_in); (case hb => decide +kernel))
  | (refine' notin36 (b := false) ?X ?hb ?_; (case X => k_in); (case hb => decide +kernel))
  | (refine' notin36 (b := true) ?X ?hb ?_; (case X => k_in); (case hb => decide +kernel)))
  k_with "call ref" => (k_here; (with_reducible show wpAny _ _ (call (Value.ref 155) [Value.ref _, Value.int _ _]) _ _ _); k_dflt (refine' take_spec ?B ?F ?X ?N ?T ?hk ?hI ?hn ?hi ?hx ?hx2 ?hm ?hm2 ?hbD ?hoff ?hd ?hu ?_; (case B => k_asm); (case F => k_asm); (case X => k_asm); (case N => first | k_asm | exact news_pull [_] (by k_asm) | exact news_pull [_, _] (by k_asm) | exact news_pull [_, _, _] (by k_asm) | exact news_pull [_, _, _, _] (by k_asm) | exact news_pull [_, _, _, _, _] (by k_asm) | exact news_pull [_, _, _, _, _, _] (by k_asm)); (case T => k_asm); (case hk => first | exact rfl | assumption); (case hI => assumption); (case hn => assumption); (case hi => first | assumption | decide); (case hx => first | assumption | decide); (case hx2 => first | assumption | decide); (case hm => first | decide | assumption); (case hm2 => first | decide | assumption); (case hbD => first | assumption | k_ne); (case hoff => k_all); (case hd => ktr_room); (case hu => ktr_units); k_whole); intro r' i' x' tr' ti' tx' h' tk' hr0' hr1' hi0' hx0' hx1' F' N'; (try dsimp only [List.cons_append, List.nil_append] at N'))
  k_with "subscriptTail" => (k_here; (with_reducible show wpAny _ _ (subscriptTail _ _ (Value.ref _) (Value.int _ _)) _ _ _); (refine' sub_two ?h0 ?h2 ?_ ?_; (case h0 => with_reducible assumption); (case h2 => with_reducible assumption); all_goals intro e2'))
  k_with "execs cons" => (k_here; (with_reducible show wpAny _ _ _ _ _ (Shared.mk _ _ _ (_ + 1) _)); refine gen_toks ?_; intro tk)
  k_with "execs nil" => (k_here; (with_reducible show wpAny _ _ _ _ _ (Shared.mk _ _ _ (_ + 1) _)); refine gen_toks ?_; intro tk)
  trivial
section M2
set_option maxHeartbeats 16000000 in
theorem mdue_headers {prog : Program} {w : World} {p : Program} {loose : List Str} {mean : ExcName → Option Value} {mg mb : Str → Option Value} {f : Addr} {o : Obj} {mv : Value} {ans early : Bool} {most : Option Int} {st : MS} {ts : VTok} {rest : List (Addr × Obj)}
    {dp un : Nat} {gd : Option (List Code)} {cn : Str} {cs : Scope} {a : Addr} {ccd : Value} {cl : List (Str × Addr)} {outer : List Env} {A₀ : Around} {base h₀ : Heap} {L : Addr} {m : Str → Option Value} {s : Shared} {Q E : Value → Shared → Prop} (B : Below A₀ base outer h₀) (F : Fr h₀ L s.heap m) (X : (Mine.hd.heap_39 w.params).In h₀)
    (N : News h₀ L s.heap ((f, o) :: rest)) (hmo : OptIs mv most) (hf : MFrame o (.headers))
    (T : Top p loose mean mg mb h₀) (hk : cs.kind = .function)
    (hd : dp + 3 < recursionLimit) (hu : un + 28 < cLine)
    (hret : ∀ (v : Value) (st' : MS) (mr : MR) (tup : VAddr) (t' : VTok) (h' : Heap) (tk' : Nat), Fr h₀ L h' m → News h₀ L h' ((tup, tupOf [v, .int st'.num t']) :: (f, o) :: rest) → MVal v mr → mdue ans early most st (.headers) = (mr, st') → Q (.ref tup) { s with heap := h', toks := tk' }) :
    wpAny (model prog w) (ktrTop dp un gd cn cs L a ccd cl outer) (call (.ref 190) [.int st.num ts, .ref f, .bool ans, .bool early, mv]) Q E s := by
  refine wpAny_call ?_
  obtain ⟨_, _, rfl⟩ := hf
  cases st
  all_goals (dsimp only [MS.num] at *; k_dflt cell_enter; k_steps)
  all_goals (rename News _ _ _ _ => nL; first | exact hret _ st _ _ _ _ _ (by assumption) (kst_newsOf nL (by kst_allIn)) (by (first | exact MVal.code _ _ | exact MVal.word _ _)) (by (first | rfl | exact md_p1 (by omega) | exact md_p2 (by omega) | (simp_all [mdue]; done))) | exact hret _ .head _ _ _ _ _ (by assumption) (kst_newsOf nL (by kst_allIn)) (by (first | exact MVal.code _ _ | exact MVal.word _ _)) (by (first | rfl | exact md_p1 (by omega) | exact md_p2 (by omega) | (simp_all [mdue]; done))) | exact hret _ .body _ _ _ _ _ (by assumption) (kst_newsOf nL (by kst_allIn)) (by (first | exact MVal.code _ _ | exact MVal.word _ _)) (by (first | rfl | exact md_p1 (by omega) | exact md_p2 (by omega) | (simp_all [mdue]; done))) | exact hret _ .trail _ _ _ _ _ (by assumption) (kst_newsOf nL (by kst_allIn)) (by (first | exact MVal.code _ _ | exact MVal.word _ _)) (by (first | rfl | exact md_p1 (by omega) | exact md_p2 (by omega) | (simp_all [mdue]; done))))
set_option maxHeartbeats 16000000 in
theorem mdue_data {prog : Program} {w : World} {p : Program} {loose : List Str} {mean : ExcName → Option Value} {mg mb : Str → Option Value} {f : Addr} {o : Obj} {mv : Value} {ans early : Bool} {most : Option Int} {st : MS} {ts : VTok} {rest : List (Addr × Obj)}
    {dp un : Nat} {gd : Option (List Code)} {cn : Str} {cs : Scope} {a : Addr} {ccd : Value} {cl : List (Str × Addr)} {outer : List Env} {A₀ : Around} {base h₀ : Heap} {L : Addr} {m : Str → Option Value} {s : Shared} {Q E : Value → Shared → Prop} (B : Below A₀ base outer h₀) (F : Fr h₀ L s.heap m) (X : (Mine.hd.heap_39 w.params).In h₀)
    (N : News h₀ L s.heap ((f, o) :: rest)) (hmo : OptIs mv most) (hf : MFrame o (.data))
    (T : Top p loose mean mg mb h₀) (hk : cs.kind = .function)
    (hd : dp + 3 < recursionLimit) (hu : un + 28 < cLine)
    (hret : ∀ (v : Value) (st' : MS) (mr : MR) (tup : VAddr) (t' : VTok) (h' : Heap) (tk' : Nat), Fr h₀ L h' m → News h₀ L h' ((tup, tupOf [v, .int st'.num t']) :: (f, o) :: rest) → MVal v mr → mdue ans early most st (.data) = (mr, st') → Q (.ref tup) { s with heap := h', toks := tk' }) :
    wpAny (model prog w) (ktrTop dp un gd cn cs L a ccd cl outer) (call (.ref 190) [.int st.num ts, .ref f, .bool ans, .bool early, mv]) Q E s := by
  refine wpAny_call ?_
  obtain ⟨_, _, rfl⟩ := hf
  cases st
  all_goals (dsimp only [MS.num] at *; k_dflt cell_enter; k_steps)
  all_goals (rename News _ _ _ _ => nL; first | exact hret _ st _ _ _ _ _ (by assumption) (kst_newsOf nL (by kst_allIn)) (by (first | exact MVal.code _ _ | exact MVal.word _ _)) (by (first | rfl | exact md_p1 (by omega) | exact md_p2 (by omega) | (simp_all [mdue]; done))) | exact hret _ .head _ _ _ _ _ (by assumption) (kst_newsOf nL (by kst_allIn)) (by (first | exact MVal.code _ _ | exact MVal.word _ _)) (by (first | rfl | exact md_p1 (by omega) | exact md_p2 (by omega) | (simp_all [mdue]; done))) | exact hret _ .body _ _ _ _ _ (by assumption) (kst_newsOf nL (by kst_allIn)) (by (first | exact MVal.code _ _ | exact MVal.word _ _)) (by (first | rfl | exact md_p1 (by omega) | exact md_p2 (by omega) | (simp_all [mdue]; done))) | exact hret _ .trail _ _ _ _ _ (by assumption) (kst_newsOf nL (by kst_allIn)) (by (first | exact MVal.code _ _ | exact MVal.word _ _)) (by (first | rfl | exact md_p1 (by omega) | exact md_p2 (by omega) | (simp_all [mdue]; done))))
set_option maxHeartbeats 16000000 in
theorem mdue_unknown {prog : Program} {w : World} {p : Program} {loose : List Str} {mean : ExcName → Option Value} {mg mb : Str → Option Value} {f : Addr} {o : Obj} {mv : Value} {ans early : Bool} {most : Option Int} {st : MS} {ts : VTok} {rest : List (Addr × Obj)}
    {dp un : Nat} {gd : Option (List Code)} {cn : Str} {cs : Scope} {a : Addr} {ccd : Value} {cl : List (Str × Addr)} {outer : List Env} {A₀ : Around} {base h₀ : Heap} {L : Addr} {m : Str → Option Value} {s : Shared} {Q E : Value → Shared → Prop} (B : Below A₀ base outer h₀) (F : Fr h₀ L s.heap m) (X : (Mine.hd.heap_39 w.params).In h₀)
    (N : News h₀ L s.heap ((f, o) :: rest)) (hmo : OptIs mv most) (hf : MFrame o (.unknown))
    (T : Top p loose mean mg mb h₀) (hk : cs.kind = .function)
    (hd : dp + 3 < recursionLimit) (hu : un + 28 < cLine)
    (hret : ∀ (v : Value) (st' : MS) (mr : MR) (tup : VAddr) (t' : VTok) (h' : Heap) (tk' : Nat), Fr h₀ L h' m → News h₀ L h' ((tup, tupOf [v, .int st'.num t']) :: (f, o) :: rest) → MVal v mr → mdue ans early most st (.unknown) = (mr, st') → Q (.ref tup) { s with heap := h', toks := tk' }) :
    wpAny (model prog w) (ktrTop dp un gd cn cs L a ccd cl outer) (call (.ref 190) [.int st.num ts, .ref f, .bool ans, .bool early, mv]) Q E s := by
  refine wpAny_call ?_
  obtain ⟨_, _, _, rfl⟩ := hf
  all_goals (k_dflt cell_enter; k_steps)
  all_goals (rename News _ _ _ _ => nL; first | exact hret _ st _ _ _ _ _ (by assumption) (kst_newsOf nL (by kst_allIn)) (by (first | exact MVal.code _ _ | exact MVal.word _ _)) (by (first | rfl | exact md_p1 (by omega) | exact md_p2 (by omega) | (simp_all [mdue]; done))) | exact hret _ .head _ _ _ _ _ (by assumption) (kst_newsOf nL (by kst_allIn)) (by (first | exact MVal.code _ _ | exact MVal.word _ _)) (by (first | rfl | exact md_p1 (by omega) | exact md_p2 (by omega) | (simp_all [mdue]; done))) | exact hret _ .body _ _ _ _ _ (by assumption) (kst_newsOf nL (by kst_allIn)) (by (first | exact MVal.code _ _ | exact MVal.word _ _)) (by (first | rfl | exact md_p1 (by omega) | exact md_p2 (by omega) | (simp_all [mdue]; done))) | exact hret _ .trail _ _ _ _ _ (by assumption) (kst_newsOf nL (by kst_allIn)) (by (first | exact MVal.code _ _ | exact MVal.word _ _)) (by (first | rfl | exact md_p1 (by omega) | exact md_p2 (by omega) | (simp_all [mdue]; done))))
set_option maxHeartbeats 16000000 in
theorem mdue_push {prog : Program} {w : World} {p : Program} {loose : List Str} {mean : ExcName → Option Value} {mg mb : Str → Option Value} {f : Addr} {o : Obj} {mv : Value} {ans early : Bool} {most : Option Int} {st : MS} {n : Int} {ts : VTok} {rest : List (Addr × Obj)}
    {dp un : Nat} {gd : Option (List Code)} {cn : Str} {cs : Scope} {a : Addr} {ccd : Value} {cl : List (Str × Addr)} {outer : List Env} {A₀ : Around} {base h₀ : Heap} {L : Addr} {m : Str → Option Value} {s : Shared} {Q E : Value → Shared → Prop} (B : Below A₀ base outer h₀) (F : Fr h₀ L s.heap m) (X : (Mine.hd.heap_39 w.params).In h₀)
    (N : News h₀ L s.heap ((f, o) :: rest)) (hmo : OptIs mv most) (hf : MFrame o (.push n))
    (T : Top p loose mean mg mb h₀) (hk : cs.kind = .function)
    (hd : dp + 3 < recursionLimit) (hu : un + 28 < cLine)
    (hret : ∀ (v : Value) (st' : MS) (mr : MR) (tup : VAddr) (t' : VTok) (h' : Heap) (tk' : Nat), Fr h₀ L h' m → News h₀ L h' ((tup, tupOf [v, .int st'.num t']) :: (f, o) :: rest) → MVal v mr → mdue ans early most st (.push n) = (mr, st') → Q (.ref tup) { s with heap := h', toks := tk' }) :
    wpAny (model prog w) (ktrTop dp un gd cn cs L a ccd cl outer) (call (.ref 190) [.int st.num ts, .ref f, .bool ans, .bool early, mv]) Q E s := by
  refine wpAny_call ?_
  obtain ⟨_, _, _, rfl⟩ := hf
  cases hmo <;> cases ans
  all_goals (k_dflt cell_enter; k_steps)
  all_goals (rename News _ _ _ _ => nL; first | exact hret _ st _ _ _ _ _ (by assumption) (kst_newsOf nL (by kst_allIn)) (by (first | exact MVal.code _ _ | exact MVal.word _ _)) (by (first | rfl | exact md_p1 (by omega) | exact md_p2 (by omega) | (simp_all [mdue]; done))) | exact hret _ .head _ _ _ _ _ (by assumption) (kst_newsOf nL (by kst_allIn)) (by (first | exact MVal.code _ _ | exact MVal.word _ _)) (by (first | rfl | exact md_p1 (by omega) | exact md_p2 (by omega) | (simp_all [mdue]; done))) | exact hret _ .body _ _ _ _ _ (by assumption) (kst_newsOf nL (by kst_allIn)) (by (first | exact MVal.code _ _ | exact MVal.word _ _)) (by (first | rfl | exact md_p1 (by omega) | exact md_p2 (by omega) | (simp_all [mdue]; done))) | exact hret _ .trail _ _ _ _ _ (by assumption) (kst_newsOf nL (by kst_allIn)) (by (first | exact MVal.code _ _ | exact MVal.word _ _)) (by (first | rfl | exact md_p1 (by omega) | exact md_p2 (by omega) | (simp_all [mdue]; done))))
set_option maxHeartbeats 16000000 in
theorem mdue_settings {prog : Program} {w : World} {p : Program} {loose : List Str} {mean : ExcName → Option Value} {mg mb : Str → Option Value} {f : Addr} {o : Obj} {mv : Value} {ans early : Bool} {most : Option Int} {st : MS} {ts : VTok} {rest : List (Addr × Obj)}
    {dp un : Nat} {gd : Option (List Code)} {cn : Str} {cs : Scope} {a : Addr} {ccd : Value} {cl : List (Str × Addr)} {outer : List Env} {A₀ : Around} {base h₀ : Heap} {L : Addr} {m : Str → Option Value} {s : Shared} {Q E : Value → Shared → Prop} (B : Below A₀ base outer h₀) (F : Fr h₀ L s.heap m) (X : (Mine.hd.heap_39 w.params).In h₀)
    (N : News h₀ L s.heap ((f, o) :: rest)) (hmo : OptIs mv most) (hf : MFrame o (.settings))
    (T : Top p loose mean mg mb h₀) (hk : cs.kind = .function)
    (hd : dp + 3 < recursionLimit) (hu : un + 28 < cLine)
    (hret : ∀ (v : Value) (st' : MS) (mr : MR) (tup : VAddr) (t' : VTok) (h' : Heap) (tk' : Nat), Fr h₀ L h' m → News h₀ L h' ((tup, tupOf [v, .int st'.num t']) :: (f, o) :: rest) → MVal v mr → mdue ans early most st (.settings) = (mr, st') → Q (.ref tup) { s with heap := h', toks := tk' }) :
    wpAny (model prog w) (ktrTop dp un gd cn cs L a ccd cl outer) (call (.ref 190) [.int st.num ts, .ref f, .bool ans, .bool early, mv]) Q E s := by
  refine wpAny_call ?_
  obtain ⟨_, _, rfl⟩ := hf
  all_goals (k_dflt cell_enter; k_steps)
  all_goals (rename News _ _ _ _ => nL; first | exact hret _ st _ _ _ _ _ (by assumption) (kst_newsOf nL (by kst_allIn)) (by (first | exact MVal.code _ _ | exact MVal.word _ _)) (by (first | rfl | exact md_p1 (by omega) | exact md_p2 (by omega) | (simp_all [mdue]; done))) | exact hret _ .head _ _ _ _ _ (by assumption) (kst_newsOf nL (by kst_allIn)) (by (first | exact MVal.code _ _ | exact MVal.word _ _)) (by (first | rfl | exact md_p1 (by omega) | exact md_p2 (by omega) | (simp_all [mdue]; done))) | exact hret _ .body _ _ _ _ _ (by assumption) (kst_newsOf nL (by kst_allIn)) (by (first | exact MVal.code _ _ | exact MVal.word _ _)) (by (first | rfl | exact md_p1 (by omega) | exact md_p2 (by omega) | (simp_all [mdue]; done))) | exact hret _ .trail _ _ _ _ _ (by assumption) (kst_newsOf nL (by kst_allIn)) (by (first | exact MVal.code _ _ | exact MVal.word _ _)) (by (first | rfl | exact md_p1 (by omega) | exact md_p2 (by omega) | (simp_all [mdue]; done))))
set_option maxHeartbeats 16000000 in
theorem mdue_goaway {prog : Program} {w : World} {p : Program} {loose : List Str} {mean : ExcName → Option Value} {mg mb : Str → Option Value} {f : Addr} {o : Obj} {mv : Value} {ans early : Bool} {most : Option Int} {st : MS} {ts : VTok} {rest : List (Addr × Obj)}
    {dp un : Nat} {gd : Option (List Code)} {cn : Str} {cs : Scope} {a : Addr} {ccd : Value} {cl : List (Str × Addr)} {outer : List Env} {A₀ : Around} {base h₀ : Heap} {L : Addr} {m : Str → Option Value} {s : Shared} {Q E : Value → Shared → Prop} (B : Below A₀ base outer h₀) (F : Fr h₀ L s.heap m) (X : (Mine.hd.heap_39 w.params).In h₀)
    (N : News h₀ L s.heap ((f, o) :: rest)) (hmo : OptIs mv most) (hf : MFrame o (.goaway))
    (T : Top p loose mean mg mb h₀) (hk : cs.kind = .function)
    (hd : dp + 3 < recursionLimit) (hu : un + 28 < cLine)
    (hret : ∀ (v : Value) (st' : MS) (mr : MR) (tup : VAddr) (t' : VTok) (h' : Heap) (tk' : Nat), Fr h₀ L h' m → News h₀ L h' ((tup, tupOf [v, .int st'.num t']) :: (f, o) :: rest) → MVal v mr → mdue ans early most st (.goaway) = (mr, st') → Q (.ref tup) { s with heap := h', toks := tk' }) :
    wpAny (model prog w) (ktrTop dp un gd cn cs L a ccd cl outer) (call (.ref 190) [.int st.num ts, .ref f, .bool ans, .bool early, mv]) Q E s := by
  refine wpAny_call ?_
  obtain ⟨_, _, rfl⟩ := hf
  all_goals (k_dflt cell_enter; k_steps)
  all_goals (rename News _ _ _ _ => nL; first | exact hret _ st _ _ _ _ _ (by assumption) (kst_newsOf nL (by kst_allIn)) (by (first | exact MVal.code _ _ | exact MVal.word _ _)) (by (first | rfl | exact md_p1 (by omega) | exact md_p2 (by omega) | (simp_all [mdue]; done))) | exact hret _ .head _ _ _ _ _ (by assumption) (kst_newsOf nL (by kst_allIn)) (by (first | exact MVal.code _ _ | exact MVal.word _ _)) (by (first | rfl | exact md_p1 (by omega) | exact md_p2 (by omega) | (simp_all [mdue]; done))) | exact hret _ .body _ _ _ _ _ (by assumption) (kst_newsOf nL (by kst_allIn)) (by (first | exact MVal.code _ _ | exact MVal.word _ _)) (by (first | rfl | exact md_p1 (by omega) | exact md_p2 (by omega) | (simp_all [mdue]; done))) | exact hret _ .trail _ _ _ _ _ (by assumption) (kst_newsOf nL (by kst_allIn)) (by (first | exact MVal.code _ _ | exact MVal.word _ _)) (by (first | rfl | exact md_p1 (by omega) | exact md_p2 (by omega) | (simp_all [mdue]; done))))
set_option maxHeartbeats 16000000 in
theorem mdue_cancel {prog : Program} {w : World} {p : Program} {loose : List Str} {mean : ExcName → Option Value} {mg mb : Str → Option Value} {f : Addr} {o : Obj} {mv : Value} {ans early : Bool} {most : Option Int} {st : MS} {ts : VTok} {rest : List (Addr × Obj)}
    {dp un : Nat} {gd : Option (List Code)} {cn : Str} {cs : Scope} {a : Addr} {ccd : Value} {cl : List (Str × Addr)} {outer : List Env} {A₀ : Around} {base h₀ : Heap} {L : Addr} {m : Str → Option Value} {s : Shared} {Q E : Value → Shared → Prop} (B : Below A₀ base outer h₀) (F : Fr h₀ L s.heap m) (X : (Mine.hd.heap_39 w.params).In h₀)
    (N : News h₀ L s.heap ((f, o) :: rest)) (hmo : OptIs mv most) (hf : MFrame o (.cancel))
    (T : Top p loose mean mg mb h₀) (hk : cs.kind = .function)
    (hd : dp + 3 < recursionLimit) (hu : un + 28 < cLine)
    (hret : ∀ (v : Value) (st' : MS) (mr : MR) (tup : VAddr) (t' : VTok) (h' : Heap) (tk' : Nat), Fr h₀ L h' m → News h₀ L h' ((tup, tupOf [v, .int st'.num t']) :: (f, o) :: rest) → MVal v mr → mdue ans early most st (.cancel) = (mr, st') → Q (.ref tup) { s with heap := h', toks := tk' }) :
    wpAny (model prog w) (ktrTop dp un gd cn cs L a ccd cl outer) (call (.ref 190) [.int st.num ts, .ref f, .bool ans, .bool early, mv]) Q E s := by
  refine wpAny_call ?_
  obtain ⟨_, _, rfl⟩ := hf
  all_goals (k_dflt cell_enter; k_steps)
  all_goals (rename News _ _ _ _ => nL; first | exact hret _ st _ _ _ _ _ (by assumption) (kst_newsOf nL (by kst_allIn)) (by (first | exact MVal.code _ _ | exact MVal.word _ _)) (by (first | rfl | exact md_p1 (by omega) | exact md_p2 (by omega) | (simp_all [mdue]; done))) | exact hret _ .head _ _ _ _ _ (by assumption) (kst_newsOf nL (by kst_allIn)) (by (first | exact MVal.code _ _ | exact MVal.word _ _)) (by (first | rfl | exact md_p1 (by omega) | exact md_p2 (by omega) | (simp_all [mdue]; done))) | exact hret _ .body _ _ _ _ _ (by assumption) (kst_newsOf nL (by kst_allIn)) (by (first | exact MVal.code _ _ | exact MVal.word _ _)) (by (first | rfl | exact md_p1 (by omega) | exact md_p2 (by omega) | (simp_all [mdue]; done))) | exact hret _ .trail _ _ _ _ _ (by assumption) (kst_newsOf nL (by kst_allIn)) (by (first | exact MVal.code _ _ | exact MVal.word _ _)) (by (first | rfl | exact md_p1 (by omega) | exact md_p2 (by omega) | (simp_all [mdue]; done))))
end M2
theorem said_M3 : True := by
  k_with_none
  trivial
section M3
theorem mdue_any {prog : Program} {w : World} {p : Program} {loose : List Str} {mean : ExcName → Option Value} {mg mb : Str → Option Value} {f : Addr} {o : Obj} {mf : MF} {mv : Value} {ans early : Bool} {most : Option Int} {st : MS} {ts : VTok} {rest : List (Addr × Obj)}
    {dp un : Nat} {gd : Option (List Code)} {cn : Str} {cs : Scope} {a : Addr} {ccd : Value} {cl : List (Str × Addr)} {outer : List Env} {A₀ : Around} {base h₀ : Heap} {L : Addr} {m : Str → Option Value} {s : Shared} {Q E : Value → Shared → Prop} (B : Below A₀ base outer h₀) (F : Fr h₀ L s.heap m) (X : (Mine.hd.heap_39 w.params).In h₀)
    (N : News h₀ L s.heap rest) (hm : (f, o) ∈ rest) (hmo : OptIs mv most) (hf : MFrame o mf)
    (T : Top p loose mean mg mb h₀) (hk : cs.kind = .function)
    (hd : dp + 3 < recursionLimit) (hu : un + 28 < cLine)
    (hret : ∀ (v : Value) (st' : MS) (mr : MR) (tup : VAddr) (t' : VTok) (h' : Heap) (tk' : Nat), Fr h₀ L h' m → News h₀ L h' ((tup, tupOf [v, .int st'.num t']) :: rest) → MVal v mr → mdue ans early most st mf = (mr, st') → Q (.ref tup) { s with heap := h', toks := tk' }) :
    wpAny (model prog w) (ktrTop dp un gd cn cs L a ccd cl outer) (call (.ref 190) [.int st.num ts, .ref f, .bool ans, .bool early, mv]) Q E s := by
  have N' : News h₀ L s.heap ((f, o) :: rest) := kst_newsOf N (fun p hp => by
    rcases List.mem_cons.mp hp with rfl | hp
    · exact hm
    · exact hp)
  have hr : ∀ (v : Value) (st' : MS) (mr : MR) (tup : VAddr) (t' : VTok) (h' : Heap) (tk' : Nat), Fr h₀ L h' m → News h₀ L h' ((tup, tupOf [v, .int st'.num t']) :: (f, o) :: rest) → MVal v mr → mdue ans early most st mf = (mr, st') → Q (.ref tup) { s with heap := h', toks := tk' } :=
    fun v st' mr tup t' h' tk' F' N₂ => hret v st' mr tup t' h' tk' F' (kst_newsOf N₂ (fun p hp => by
      rcases List.mem_cons.mp hp with rfl | hp
      · exact .head _
      · exact .tail _ (.tail _ hp)))
  cases mf with
  | headers => exact mdue_headers B F X N' hmo hf T hk hd hu hr
  | data => exact mdue_data B F X N' hmo hf T hk hd hu hr
  | unknown => exact mdue_unknown B F X N' hmo hf T hk hd hu hr
  | push n => exact mdue_push B F X N' hmo hf T hk hd hu hr
  | settings => exact mdue_settings B F X N' hmo hf T hk hd hu hr
  | goaway => exact mdue_goaway B F X N' hmo hf T hk hd hu hr
  | cancel => exact mdue_cancel B F X N' hmo hf T hk hd hu hr
theorem sub_nine {prog : Program} {w : World} {A : Around} {E : Value → Shared → Prop} {s : Shared} {h₀ : Heap} {L l : Addr} {news : List (Addr × Obj)} {Q : Value → Shared → Prop} {value slice : PySem.Expr} {k : Int} {u : VTok} {nn : Nat} {vs : List Value} (P : Addr → Prop)
    (N : News h₀ L s.heap news) (hl : (l, W.listOf vs.toArray nn) ∈ news) (h0 : 0 ≤ k) (h9 : k < 9) (hlen : vs.length = 9) (hvs : ∀ v ∈ vs, ∃ f o mf, v = .ref f ∧ (f, o) ∈ news ∧ MFrame o mf ∧ P f)
    (h : ∀ f o mf, (f, o) ∈ news → MFrame o mf → P f → Q (.ref f) s)
    (hs : ∀ k : Int, subscripted slice false (.ref l) (.int k u) = operate [.ref l, .int k u] (getItem (.ref l) (.int k u)) := by intro _; with_unfolding_all rfl) :
    wpAny (model prog w) A (subscriptTail value slice (.ref l) (.int k u)) Q E s := by
  have hk : k.toNat < vs.length := by omega
  obtain ⟨f, o, mf, e, hm, hf, hp⟩ := hvs vs[k.toNat] (List.getElem_mem _)
  refine item_litK (vs := vs) (v := .ref f) (News.isList N hl) h0 (by omega) ?_ (h f o mf hm hf hp) (hs k)
  rw [List.getElem?_eq_getElem hk, e]
end M3
section M4
end M4
theorem said_N0 : True := by
  k_with_none
  k_with "k_room" => ktr_room
  k_with "k_units" => ktr_units
  k_with "k_all" => assumption
  k_with "k_all" => exact allLt_ne (by assumption) (by intro q hq; repeat (first | exact hq | refine List.Mem.tail _ ?_))
  k_with "k_ne" => (refine neN ?_; (try dsimp only); first | assumption | exact Ne.symm (by assumption) | exact Nat.ne_of_gt (allLt_at (by assumption) (by k_mem)) | exact Nat.ne_of_lt (allLt_at (by assumption) (by k_mem)) | omega)
  k_with "exec Raise some none" => (k_here; (with_reducible show wpAny _ _ (exec (Stmt.Raise (some (Expr.Call (Expr.Name ("H3Error" : Str) _) (_ :: _) [] _)) none _) _) _ _ _); (refine Raise_31 rfl ?_))
  k_with "call ref" => (k_here; (with_reducible show wpAny _ _ (call (Value.ref 31) [Value.int _ _, Value.str _ _]) (Raisable31 _) _ _); k_dflt (refine' h3_make ?B ?F ?X ?N ?T ?hk ?c0 ?c1 ?hl ?hd ?hu ?_; (case B => k_asm); (case F => k_asm); (case X => k_asm); (case N => k_asm); (case T => k_asm); (case hk => first | exact rfl | assumption); (case c0 => decide); (case c1 => decide); (case hl => first | decide | assumption); (case hd => ktr_room); (case hu => ktr_units); k_whole); intro e' dx' t' es' n' h' tk' F' N' g' hne' hed'; refine ⟨_, _, _, rfl, h3_at (by k_in), (N' _ (List.Mem.head _)).1, ?_⟩; (try dsimp only))
  k_with "leaving ref" => (k_here; first
  | ((rename RaisedD _ _ _ _ _ _ _ _ _ => rdX); (refine' leave_onD ?k1 ?k2 ?k3 ?k4 ?k5 ?_; (case k3 => exact rdX); (case k2 => assumption); (case k1 => assumption); (case k4 => assumption); (case k5 => exact rfl); k_whole); intro h' R' U'; (try dsimp only at R' U' ⊢))
  | ((refine' leave_firstD ?k1 ?k2 ?k3 ?k4 ?k5 ?k6 ?k7 ?_; (case k3 => k_asm); (case k2 => assumption); (case k1 => assumption); (case k4 => assumption); (case k5 => assumption); (case k6 => exact rfl); (case k7 => exact rfl); k_whole); intro h' R' U'; (try dsimp only at R' U' ⊢)))
  k_with "noteFrame ref" => (k_here; k_dflt (refine' caught_D ?R ?F ?K ?U ?XB ?TB ?D ?T0 ?ex ?_; (case R => assumption); (case F => assumption); (case K => assumption); (case U => assumption); (case XB => assumption); (case TB => assumption); (case D => assumption); (case T0 => first | assumption | exact KtsTurn.refl); (case ex => k_is); k_whole); intro h' g' ws' sl' tk' T' F' N' K' X' P' D'; (try k_lift K'); (try k_sweep))
  k_with "getAttr ref" => (k_here; (with_reducible show wpAny _ _ (getAttr (Value.ref _) (Str.ofString "code") _) _ _ _); k_dflt (refine' get31 ?X ?I ?ha ?hl ?hv ?_; (case X => k_in); (case I => exact inst_news31 (by k_asm) (by k_mem) (by k_mem)); (case ha => k_is); (case hl => assumption); (case hv => exact rfl); k_whole))
  k_with "compareOp NotIn str ref" => (k_here; first
  | (refine' notin35 (b := false) ?X ?hb ?_; (case X => k_in); (case hb => decide +kernel))
  | (refine' notin35 (b := true) ?X ?hb ?_; (case X => k_in); (case hb => decide +kernel))
  | (refine' notin36 (b := false) ?X ?hb ?_; (case X => k_in); (case hb => decide +kernel))
  | (refine' notin36 (b := true) ?X ?hb ?_; (case X => k_in); (case hb => decide +kernel)))
  k_with "call ref" => (k_here; (with_reducible show wpAny _ _ (call (Value.ref 155) [Value.ref _, Value.int _ _]) _ _ _); k_dflt (refine' take_spec ?B ?F ?X ?N ?T ?hk ?hI ?hn ?hi ?hx ?hx2 ?hm ?hm2 ?hbD ?hoff ?hd ?hu ?_; (case B => k_asm); (case F => k_asm); (case X => k_asm); (case N => first | k_asm | exact news_pull [_] (by k_asm) | exact news_pull [_, _] (by k_asm) | exact news_pull [_, _, _] (by k_asm) | exact news_pull [_, _, _, _] (by k_asm) | exact news_pull [_, _, _, _, _] (by k_asm) | exact news_pull [_, _, _, _, _, _] (by k_asm)); (case T => k_asm); (case hk => first | exact rfl | assumption); (case hI => assumption); (case hn => assumption); (case hi => first | assumption | decide); (case hx => first | assumption | decide); (case hx2 => first | assumption | decide); (case hm => first | decide | assumption); (case hm2 => first | decide | assumption); (case hbD => first | assumption | k_ne); (case hoff => k_all); (case hd => ktr_room); (case hu => ktr_units); k_whole); intro r' i' x' tr' ti' tx' h' tk' hr0' hr1' hi0' hx0' hx1' F' N'; (try dsimp only [List.cons_append, List.nil_append] at N'))
  k_with "subscriptTail" => (k_here; (with_reducible show wpAny _ _ (subscriptTail _ _ (Value.ref _) (Value.int _ _)) _ _ _); (refine' sub_two ?h0 ?h2 ?_ ?_; (case h0 => with_reducible assumption); (case h2 => with_reducible assumption); all_goals intro e2'))
  k_with "execs cons" => (k_here; (with_reducible show wpAny _ _ _ _ _ (Shared.mk _ _ _ (_ + 1) _)); refine gen_toks ?_; intro tk)
  k_with "execs nil" => (k_here; (with_reducible show wpAny _ _ _ _ _ (Shared.mk _ _ _ (_ + 1) _)); refine gen_toks ?_; intro tk)
  trivial
section N0
set_option maxHeartbeats 16000000 in
theorem mtake_headers {prog : Program} {w : World} {p : Program} {loose : List Str} {mean : ExcName → Option Value} {mg mb : Str → Option Value} {r d f : Addr} {o : Obj} {mv : Value} {ans early : Bool} {most : Option Int} {st : MS} {t1 t2 t3 tn : VTok} {rest : List (Addr × Obj)}
    {dp un : Nat} {gd : Option (List Code)} {cn : Str} {cs : Scope} {a : Addr} {ccd : Value} {cl : List (Str × Addr)} {outer : List Env} {A₀ : Around} {base h₀ : Heap} {L : Addr} {m : Str → Option Value} {s : Shared} {Q E : Value → Shared → Prop} (B : Below A₀ base outer h₀) (F : Fr h₀ L s.heap m) (X : (Mine.hd.heap_39 w.params).In h₀)
    (N : News h₀ L s.heap ((r, instObj 144 d) :: (d, mrulesD w t1 t2 t3 (.bool ans) mv (.str st.name tn)) :: (f, o) :: rest)) (hmo : OptIs mv most) (hf : MFrame o (.headers)) (hrd : r ≠ d) (hne : ∀ p ∈ (f, o) :: rest, p.1 ≠ d)
    (T : Top p loose mean mg mb h₀) (hk : cs.kind = .function)
    (hd : dp + 6 < recursionLimit) (hu : un + 48 < cLine)
    (hgiv : ∀ (sw : PySem.Str) (st' : MS) (tw tn' : VTok) (h' : Heap) (tk' : Nat), mdue ans early most st (.headers) = (.word sw, st') → Fr h₀ L h' m → News h₀ L h' ((r, instObj 144 d) :: (d, mrulesD w t1 t2 t3 (.bool ans) mv (.str st'.name tn')) :: (f, o) :: rest) → Q (.str sw tw) { s with heap := h', toks := tk' })
    (hrais : ∀ (c : Int) (tc : VTok) (e dx : VAddr) (es : List DictEntry) (nd : Nat) (g₂ h' : Heap) (tk' : Nat), mdue ans early most st (.headers) = (.code c, st) → Fr h₀ L g₂ m → RaisedD base g₂ (envX cn cs L a ccd cl :: outer) e dx es nd ((r, instObj 144 d) :: (d, mrulesD w t1 t2 t3 (.bool ans) mv (.str st.name tn)) :: (f, o) :: rest) h' → g₂.UpToSlots h' →
      getL (Str.ofString "code") es = some (some (.int c tc)) → E (.ref e) { s with heap := h', toks := tk' }) :
    wpAny (model prog w) (ktrTop dp un gd cn cs L a ccd cl outer) (call (.ref 120) [.ref r, .ref f, .bool early]) Q E s := by
  refine wpAny_call ?_
  obtain ⟨_, _, rfl⟩ := hf
  cases st
  all_goals dsimp only [mrulesD, MS.name] at N hne hgiv hrais
  all_goals replace hrd := neN hrd
  all_goals (k_dflt cell_enter; k_steps)
  all_goals (first | (rename RaisedD _ _ _ _ _ _ _ _ _ => rdX; first | exact hrais 261 _ _ _ _ _ _ _ _ (by (first | rfl | exact md_p1 (by omega) | exact md_p2 (by omega) | (simp_all [mdue]; done))) (by assumption) (RaisedD.mono rdX (by kst_allIn)) (by assumption) (by assumption) | exact hrais 264 _ _ _ _ _ _ _ _ (by (first | rfl | exact md_p1 (by omega) | exact md_p2 (by omega) | (simp_all [mdue]; done))) (by assumption) (RaisedD.mono rdX (by kst_allIn)) (by assumption) (by assumption)) | (rename News _ _ _ _ => nL; first | exact hgiv _ st _ _ _ _ (by (first | rfl | exact md_p1 (by omega) | exact md_p2 (by omega) | (simp_all [mdue]; done))) (by assumption) (kst_newsOf nL (by kst_allIn)) | exact hgiv _ .head _ _ _ _ (by (first | rfl | exact md_p1 (by omega) | exact md_p2 (by omega) | (simp_all [mdue]; done))) (by assumption) (kst_newsOf nL (by kst_allIn)) | exact hgiv _ .body _ _ _ _ (by (first | rfl | exact md_p1 (by omega) | exact md_p2 (by omega) | (simp_all [mdue]; done))) (by assumption) (kst_newsOf nL (by kst_allIn)) | exact hgiv _ .trail _ _ _ _ (by (first | rfl | exact md_p1 (by omega) | exact md_p2 (by omega) | (simp_all [mdue]; done))) (by assumption) (kst_newsOf nL (by kst_allIn))))
end N0
section N1
set_option maxHeartbeats 16000000 in
theorem mtake_data {prog : Program} {w : World} {p : Program} {loose : List Str} {mean : ExcName → Option Value} {mg mb : Str → Option Value} {r d f : Addr} {o : Obj} {mv : Value} {ans early : Bool} {most : Option Int} {st : MS} {t1 t2 t3 tn : VTok} {rest : List (Addr × Obj)}
    {dp un : Nat} {gd : Option (List Code)} {cn : Str} {cs : Scope} {a : Addr} {ccd : Value} {cl : List (Str × Addr)} {outer : List Env} {A₀ : Around} {base h₀ : Heap} {L : Addr} {m : Str → Option Value} {s : Shared} {Q E : Value → Shared → Prop} (B : Below A₀ base outer h₀) (F : Fr h₀ L s.heap m) (X : (Mine.hd.heap_39 w.params).In h₀)
    (N : News h₀ L s.heap ((r, instObj 144 d) :: (d, mrulesD w t1 t2 t3 (.bool ans) mv (.str st.name tn)) :: (f, o) :: rest)) (hmo : OptIs mv most) (hf : MFrame o (.data)) (hrd : r ≠ d) (hne : ∀ p ∈ (f, o) :: rest, p.1 ≠ d)
    (T : Top p loose mean mg mb h₀) (hk : cs.kind = .function)
    (hd : dp + 6 < recursionLimit) (hu : un + 48 < cLine)
    (hgiv : ∀ (sw : PySem.Str) (st' : MS) (tw tn' : VTok) (h' : Heap) (tk' : Nat), mdue ans early most st (.data) = (.word sw, st') → Fr h₀ L h' m → News h₀ L h' ((r, instObj 144 d) :: (d, mrulesD w t1 t2 t3 (.bool ans) mv (.str st'.name tn')) :: (f, o) :: rest) → Q (.str sw tw) { s with heap := h', toks := tk' })
    (hrais : ∀ (c : Int) (tc : VTok) (e dx : VAddr) (es : List DictEntry) (nd : Nat) (g₂ h' : Heap) (tk' : Nat), mdue ans early most st (.data) = (.code c, st) → Fr h₀ L g₂ m → RaisedD base g₂ (envX cn cs L a ccd cl :: outer) e dx es nd ((r, instObj 144 d) :: (d, mrulesD w t1 t2 t3 (.bool ans) mv (.str st.name tn)) :: (f, o) :: rest) h' → g₂.UpToSlots h' →
      getL (Str.ofString "code") es = some (some (.int c tc)) → E (.ref e) { s with heap := h', toks := tk' }) :
    wpAny (model prog w) (ktrTop dp un gd cn cs L a ccd cl outer) (call (.ref 120) [.ref r, .ref f, .bool early]) Q E s := by
  refine wpAny_call ?_
  obtain ⟨_, _, rfl⟩ := hf
  cases st
  all_goals dsimp only [mrulesD, MS.name] at N hne hgiv hrais
  all_goals replace hrd := neN hrd
  all_goals (k_dflt cell_enter; k_steps)
  all_goals (first | (rename RaisedD _ _ _ _ _ _ _ _ _ => rdX; first | exact hrais 261 _ _ _ _ _ _ _ _ (by (first | rfl | exact md_p1 (by omega) | exact md_p2 (by omega) | (simp_all [mdue]; done))) (by assumption) (RaisedD.mono rdX (by kst_allIn)) (by assumption) (by assumption) | exact hrais 264 _ _ _ _ _ _ _ _ (by (first | rfl | exact md_p1 (by omega) | exact md_p2 (by omega) | (simp_all [mdue]; done))) (by assumption) (RaisedD.mono rdX (by kst_allIn)) (by assumption) (by assumption)) | (rename News _ _ _ _ => nL; first | exact hgiv _ st _ _ _ _ (by (first | rfl | exact md_p1 (by omega) | exact md_p2 (by omega) | (simp_all [mdue]; done))) (by assumption) (kst_newsOf nL (by kst_allIn)) | exact hgiv _ .head _ _ _ _ (by (first | rfl | exact md_p1 (by omega) | exact md_p2 (by omega) | (simp_all [mdue]; done))) (by assumption) (kst_newsOf nL (by kst_allIn)) | exact hgiv _ .body _ _ _ _ (by (first | rfl | exact md_p1 (by omega) | exact md_p2 (by omega) | (simp_all [mdue]; done))) (by assumption) (kst_newsOf nL (by kst_allIn)) | exact hgiv _ .trail _ _ _ _ (by (first | rfl | exact md_p1 (by omega) | exact md_p2 (by omega) | (simp_all [mdue]; done))) (by assumption) (kst_newsOf nL (by kst_allIn))))
end N1
section N2
set_option maxHeartbeats 16000000 in
theorem mtake_unknown {prog : Program} {w : World} {p : Program} {loose : List Str} {mean : ExcName → Option Value} {mg mb : Str → Option Value} {r d f : Addr} {o : Obj} {mv : Value} {ans early : Bool} {most : Option Int} {st : MS} {t1 t2 t3 tn : VTok} {rest : List (Addr × Obj)}
    {dp un : Nat} {gd : Option (List Code)} {cn : Str} {cs : Scope} {a : Addr} {ccd : Value} {cl : List (Str × Addr)} {outer : List Env} {A₀ : Around} {base h₀ : Heap} {L : Addr} {m : Str → Option Value} {s : Shared} {Q E : Value → Shared → Prop} (B : Below A₀ base outer h₀) (F : Fr h₀ L s.heap m) (X : (Mine.hd.heap_39 w.params).In h₀)
    (N : News h₀ L s.heap ((r, instObj 144 d) :: (d, mrulesD w t1 t2 t3 (.bool ans) mv (.str st.name tn)) :: (f, o) :: rest)) (hmo : OptIs mv most) (hf : MFrame o (.unknown)) (hrd : r ≠ d) (hne : ∀ p ∈ (f, o) :: rest, p.1 ≠ d)
    (T : Top p loose mean mg mb h₀) (hk : cs.kind = .function)
    (hd : dp + 6 < recursionLimit) (hu : un + 48 < cLine)
    (hgiv : ∀ (sw : PySem.Str) (st' : MS) (tw tn' : VTok) (h' : Heap) (tk' : Nat), mdue ans early most st (.unknown) = (.word sw, st') → Fr h₀ L h' m → News h₀ L h' ((r, instObj 144 d) :: (d, mrulesD w t1 t2 t3 (.bool ans) mv (.str st'.name tn')) :: (f, o) :: rest) → Q (.str sw tw) { s with heap := h', toks := tk' })
    (hrais : ∀ (c : Int) (tc : VTok) (e dx : VAddr) (es : List DictEntry) (nd : Nat) (g₂ h' : Heap) (tk' : Nat), mdue ans early most st (.unknown) = (.code c, st) → Fr h₀ L g₂ m → RaisedD base g₂ (envX cn cs L a ccd cl :: outer) e dx es nd ((r, instObj 144 d) :: (d, mrulesD w t1 t2 t3 (.bool ans) mv (.str st.name tn)) :: (f, o) :: rest) h' → g₂.UpToSlots h' →
      getL (Str.ofString "code") es = some (some (.int c tc)) → E (.ref e) { s with heap := h', toks := tk' }) :
    wpAny (model prog w) (ktrTop dp un gd cn cs L a ccd cl outer) (call (.ref 120) [.ref r, .ref f, .bool early]) Q E s := by
  refine wpAny_call ?_
  obtain ⟨_, _, _, rfl⟩ := hf
  all_goals dsimp only [mrulesD] at N hne hgiv hrais
  all_goals replace hrd := neN hrd
  all_goals (k_dflt cell_enter; k_steps)
  all_goals (first | (rename RaisedD _ _ _ _ _ _ _ _ _ => rdX; first | exact hrais 261 _ _ _ _ _ _ _ _ (by (first | rfl | exact md_p1 (by omega) | exact md_p2 (by omega) | (simp_all [mdue]; done))) (by assumption) (RaisedD.mono rdX (by kst_allIn)) (by assumption) (by assumption) | exact hrais 264 _ _ _ _ _ _ _ _ (by (first | rfl | exact md_p1 (by omega) | exact md_p2 (by omega) | (simp_all [mdue]; done))) (by assumption) (RaisedD.mono rdX (by kst_allIn)) (by assumption) (by assumption)) | (rename News _ _ _ _ => nL; first | exact hgiv _ st _ _ _ _ (by (first | rfl | exact md_p1 (by omega) | exact md_p2 (by omega) | (simp_all [mdue]; done))) (by assumption) (kst_newsOf nL (by kst_allIn)) | exact hgiv _ .head _ _ _ _ (by (first | rfl | exact md_p1 (by omega) | exact md_p2 (by omega) | (simp_all [mdue]; done))) (by assumption) (kst_newsOf nL (by kst_allIn)) | exact hgiv _ .body _ _ _ _ (by (first | rfl | exact md_p1 (by omega) | exact md_p2 (by omega) | (simp_all [mdue]; done))) (by assumption) (kst_newsOf nL (by kst_allIn)) | exact hgiv _ .trail _ _ _ _ (by (first | rfl | exact md_p1 (by omega) | exact md_p2 (by omega) | (simp_all [mdue]; done))) (by assumption) (kst_newsOf nL (by kst_allIn))))
end N2
section N3
set_option maxHeartbeats 16000000 in
theorem mtake_push {prog : Program} {w : World} {p : Program} {loose : List Str} {mean : ExcName → Option Value} {mg mb : Str → Option Value} {r d f : Addr} {o : Obj} {mv : Value} {ans early : Bool} {most : Option Int} {st : MS} {n : Int} {t1 t2 t3 tn : VTok} {rest : List (Addr × Obj)}
    {dp un : Nat} {gd : Option (List Code)} {cn : Str} {cs : Scope} {a : Addr} {ccd : Value} {cl : List (Str × Addr)} {outer : List Env} {A₀ : Around} {base h₀ : Heap} {L : Addr} {m : Str → Option Value} {s : Shared} {Q E : Value → Shared → Prop} (B : Below A₀ base outer h₀) (F : Fr h₀ L s.heap m) (X : (Mine.hd.heap_39 w.params).In h₀)
    (N : News h₀ L s.heap ((r, instObj 144 d) :: (d, mrulesD w t1 t2 t3 (.bool ans) mv (.str st.name tn)) :: (f, o) :: rest)) (hmo : OptIs mv most) (hf : MFrame o (.push n)) (hrd : r ≠ d) (hne : ∀ p ∈ (f, o) :: rest, p.1 ≠ d)
    (T : Top p loose mean mg mb h₀) (hk : cs.kind = .function)
    (hd : dp + 6 < recursionLimit) (hu : un + 48 < cLine)
    (hgiv : ∀ (sw : PySem.Str) (st' : MS) (tw tn' : VTok) (h' : Heap) (tk' : Nat), mdue ans early most st (.push n) = (.word sw, st') → Fr h₀ L h' m → News h₀ L h' ((r, instObj 144 d) :: (d, mrulesD w t1 t2 t3 (.bool ans) mv (.str st'.name tn')) :: (f, o) :: rest) → Q (.str sw tw) { s with heap := h', toks := tk' })
    (hrais : ∀ (c : Int) (tc : VTok) (e dx : VAddr) (es : List DictEntry) (nd : Nat) (g₂ h' : Heap) (tk' : Nat), mdue ans early most st (.push n) = (.code c, st) → Fr h₀ L g₂ m → RaisedD base g₂ (envX cn cs L a ccd cl :: outer) e dx es nd ((r, instObj 144 d) :: (d, mrulesD w t1 t2 t3 (.bool ans) mv (.str st.name tn)) :: (f, o) :: rest) h' → g₂.UpToSlots h' →
      getL (Str.ofString "code") es = some (some (.int c tc)) → E (.ref e) { s with heap := h', toks := tk' }) :
    wpAny (model prog w) (ktrTop dp un gd cn cs L a ccd cl outer) (call (.ref 120) [.ref r, .ref f, .bool early]) Q E s := by
  refine wpAny_call ?_
  obtain ⟨_, _, _, rfl⟩ := hf
  cases hmo <;> cases ans
  all_goals dsimp only [mrulesD] at N hne hgiv hrais
  all_goals replace hrd := neN hrd
  all_goals (k_dflt cell_enter; k_steps)
  all_goals (first | (rename RaisedD _ _ _ _ _ _ _ _ _ => rdX; first | exact hrais 261 _ _ _ _ _ _ _ _ (by (first | rfl | exact md_p1 (by omega) | exact md_p2 (by omega) | (simp_all [mdue]; done))) (by assumption) (RaisedD.mono rdX (by kst_allIn)) (by assumption) (by assumption) | exact hrais 264 _ _ _ _ _ _ _ _ (by (first | rfl | exact md_p1 (by omega) | exact md_p2 (by omega) | (simp_all [mdue]; done))) (by assumption) (RaisedD.mono rdX (by kst_allIn)) (by assumption) (by assumption)) | (rename News _ _ _ _ => nL; first | exact hgiv _ st _ _ _ _ (by (first | rfl | exact md_p1 (by omega) | exact md_p2 (by omega) | (simp_all [mdue]; done))) (by assumption) (kst_newsOf nL (by kst_allIn)) | exact hgiv _ .head _ _ _ _ (by (first | rfl | exact md_p1 (by omega) | exact md_p2 (by omega) | (simp_all [mdue]; done))) (by assumption) (kst_newsOf nL (by kst_allIn)) | exact hgiv _ .body _ _ _ _ (by (first | rfl | exact md_p1 (by omega) | exact md_p2 (by omega) | (simp_all [mdue]; done))) (by assumption) (kst_newsOf nL (by kst_allIn)) | exact hgiv _ .trail _ _ _ _ (by (first | rfl | exact md_p1 (by omega) | exact md_p2 (by omega) | (simp_all [mdue]; done))) (by assumption) (kst_newsOf nL (by kst_allIn))))
end N3
section N4
set_option maxHeartbeats 16000000 in
theorem mtake_settings {prog : Program} {w : World} {p : Program} {loose : List Str} {mean : ExcName → Option Value} {mg mb : Str → Option Value} {r d f : Addr} {o : Obj} {mv : Value} {ans early : Bool} {most : Option Int} {st : MS} {t1 t2 t3 tn : VTok} {rest : List (Addr × Obj)}
    {dp un : Nat} {gd : Option (List Code)} {cn : Str} {cs : Scope} {a : Addr} {ccd : Value} {cl : List (Str × Addr)} {outer : List Env} {A₀ : Around} {base h₀ : Heap} {L : Addr} {m : Str → Option Value} {s : Shared} {Q E : Value → Shared → Prop} (B : Below A₀ base outer h₀) (F : Fr h₀ L s.heap m) (X : (Mine.hd.heap_39 w.params).In h₀)
    (N : News h₀ L s.heap ((r, instObj 144 d) :: (d, mrulesD w t1 t2 t3 (.bool ans) mv (.str st.name tn)) :: (f, o) :: rest)) (hmo : OptIs mv most) (hf : MFrame o (.settings)) (hrd : r ≠ d) (hne : ∀ p ∈ (f, o) :: rest, p.1 ≠ d)
    (T : Top p loose mean mg mb h₀) (hk : cs.kind = .function)
    (hd : dp + 6 < recursionLimit) (hu : un + 48 < cLine)
    (hgiv : ∀ (sw : PySem.Str) (st' : MS) (tw tn' : VTok) (h' : Heap) (tk' : Nat), mdue ans early most st (.settings) = (.word sw, st') → Fr h₀ L h' m → News h₀ L h' ((r, instObj 144 d) :: (d, mrulesD w t1 t2 t3 (.bool ans) mv (.str st'.name tn')) :: (f, o) :: rest) → Q (.str sw tw) { s with heap := h', toks := tk' })
    (hrais : ∀ (c : Int) (tc : VTok) (e dx : VAddr) (es : List DictEntry) (nd : Nat) (g₂ h' : Heap) (tk' : Nat), mdue ans early most st (.settings) = (.code c, st) → Fr h₀ L g₂ m → RaisedD base g₂ (envX cn cs L a ccd cl :: outer) e dx es nd ((r, instObj 144 d) :: (d, mrulesD w t1 t2 t3 (.bool ans) mv (.str st.name tn)) :: (f, o) :: rest) h' → g₂.UpToSlots h' →
      getL (Str.ofString "code") es = some (some (.int c tc)) → E (.ref e) { s with heap := h', toks := tk' }) :
    wpAny (model prog w) (ktrTop dp un gd cn cs L a ccd cl outer) (call (.ref 120) [.ref r, .ref f, .bool early]) Q E s := by
  refine wpAny_call ?_
  obtain ⟨_, _, rfl⟩ := hf
  all_goals dsimp only [mrulesD] at N hne hgiv hrais
  all_goals replace hrd := neN hrd
  all_goals (k_dflt cell_enter; k_steps)
  all_goals (first | (rename RaisedD _ _ _ _ _ _ _ _ _ => rdX; first | exact hrais 261 _ _ _ _ _ _ _ _ (by (first | rfl | exact md_p1 (by omega) | exact md_p2 (by omega) | (simp_all [mdue]; done))) (by assumption) (RaisedD.mono rdX (by kst_allIn)) (by assumption) (by assumption) | exact hrais 264 _ _ _ _ _ _ _ _ (by (first | rfl | exact md_p1 (by omega) | exact md_p2 (by omega) | (simp_all [mdue]; done))) (by assumption) (RaisedD.mono rdX (by kst_allIn)) (by assumption) (by assumption)) | (rename News _ _ _ _ => nL; first | exact hgiv _ st _ _ _ _ (by (first | rfl | exact md_p1 (by omega) | exact md_p2 (by omega) | (simp_all [mdue]; done))) (by assumption) (kst_newsOf nL (by kst_allIn)) | exact hgiv _ .head _ _ _ _ (by (first | rfl | exact md_p1 (by omega) | exact md_p2 (by omega) | (simp_all [mdue]; done))) (by assumption) (kst_newsOf nL (by kst_allIn)) | exact hgiv _ .body _ _ _ _ (by (first | rfl | exact md_p1 (by omega) | exact md_p2 (by omega) | (simp_all [mdue]; done))) (by assumption) (kst_newsOf nL (by kst_allIn)) | exact hgiv _ .trail _ _ _ _ (by (first | rfl | exact md_p1 (by omega) | exact md_p2 (by omega) | (simp_all [mdue]; done))) (by assumption) (kst_newsOf nL (by kst_allIn))))
end N4
section N5
set_option maxHeartbeats 16000000 in
theorem mtake_goaway {prog : Program} {w : World} {p : Program} {loose : List Str} {mean : ExcName → Option Value} {mg mb : Str → Option Value} {r d f : Addr} {o : Obj} {mv : Value} {ans early : Bool} {most : Option Int} {st : MS} {t1 t2 t3 tn : VTok} {rest : List (Addr × Obj)}
    {dp un : Nat} {gd : Option (List Code)} {cn : Str} {cs : Scope} {a : Addr} {ccd : Value} {cl : List (Str × Addr)} {outer : List Env} {A₀ : Around} {base h₀ : Heap} {L : Addr} {m : Str → Option Value} {s : Shared} {Q E : Value → Shared → Prop} (B : Below A₀ base outer h₀) (F : Fr h₀ L s.heap m) (X : (Mine.hd.heap_39 w.params).In h₀)
    (N : News h₀ L s.heap ((r, instObj 144 d) :: (d, mrulesD w t1 t2 t3 (.bool ans) mv (.str st.name tn)) :: (f, o) :: rest)) (hmo : OptIs mv most) (hf : MFrame o (.goaway)) (hrd : r ≠ d) (hne : ∀ p ∈ (f, o) :: rest, p.1 ≠ d)
    (T : Top p loose mean mg mb h₀) (hk : cs.kind = .function)
    (hd : dp + 6 < recursionLimit) (hu : un + 48 < cLine)
    (hgiv : ∀ (sw : PySem.Str) (st' : MS) (tw tn' : VTok) (h' : Heap) (tk' : Nat), mdue ans early most st (.goaway) = (.word sw, st') → Fr h₀ L h' m → News h₀ L h' ((r, instObj 144 d) :: (d, mrulesD w t1 t2 t3 (.bool ans) mv (.str st'.name tn')) :: (f, o) :: rest) → Q (.str sw tw) { s with heap := h', toks := tk' })
    (hrais : ∀ (c : Int) (tc : VTok) (e dx : VAddr) (es : List DictEntry) (nd : Nat) (g₂ h' : Heap) (tk' : Nat), mdue ans early most st (.goaway) = (.code c, st) → Fr h₀ L g₂ m → RaisedD base g₂ (envX cn cs L a ccd cl :: outer) e dx es nd ((r, instObj 144 d) :: (d, mrulesD w t1 t2 t3 (.bool ans) mv (.str st.name tn)) :: (f, o) :: rest) h' → g₂.UpToSlots h' →
      getL (Str.ofString "code") es = some (some (.int c tc)) → E (.ref e) { s with heap := h', toks := tk' }) :
    wpAny (model prog w) (ktrTop dp un gd cn cs L a ccd cl outer) (call (.ref 120) [.ref r, .ref f, .bool early]) Q E s := by
  refine wpAny_call ?_
  obtain ⟨_, _, rfl⟩ := hf
  all_goals dsimp only [mrulesD] at N hne hgiv hrais
  all_goals replace hrd := neN hrd
  all_goals (k_dflt cell_enter; k_steps)
  all_goals (first | (rename RaisedD _ _ _ _ _ _ _ _ _ => rdX; first | exact hrais 261 _ _ _ _ _ _ _ _ (by (first | rfl | exact md_p1 (by omega) | exact md_p2 (by omega) | (simp_all [mdue]; done))) (by assumption) (RaisedD.mono rdX (by kst_allIn)) (by assumption) (by assumption) | exact hrais 264 _ _ _ _ _ _ _ _ (by (first | rfl | exact md_p1 (by omega) | exact md_p2 (by omega) | (simp_all [mdue]; done))) (by assumption) (RaisedD.mono rdX (by kst_allIn)) (by assumption) (by assumption)) | (rename News _ _ _ _ => nL; first | exact hgiv _ st _ _ _ _ (by (first | rfl | exact md_p1 (by omega) | exact md_p2 (by omega) | (simp_all [mdue]; done))) (by assumption) (kst_newsOf nL (by kst_allIn)) | exact hgiv _ .head _ _ _ _ (by (first | rfl | exact md_p1 (by omega) | exact md_p2 (by omega) | (simp_all [mdue]; done))) (by assumption) (kst_newsOf nL (by kst_allIn)) | exact hgiv _ .body _ _ _ _ (by (first | rfl | exact md_p1 (by omega) | exact md_p2 (by omega) | (simp_all [mdue]; done))) (by assumption) (kst_newsOf nL (by kst_allIn)) | exact hgiv _ .trail _ _ _ _ (by (first | rfl | exact md_p1 (by omega) | exact md_p2 (by omega) | (simp_all [mdue]; done))) (by assumption) (kst_newsOf nL (by kst_allIn))))
end N5
section N6
set_option maxHeartbeats 16000000 in
theorem mtake_cancel {prog : Program} {w : World} {p : Program} {loose : List Str} {mean : ExcName → Option Value} {mg mb : Str → Option Value} {r d f : Addr} {o : Obj} {mv : Value} {ans early : Bool} {most : Option Int} {st : MS} {t1 t2 t3 tn : VTok} {rest : List (Addr × Obj)}
    {dp un : Nat} {gd : Option (List Code)} {cn : Str} {cs : Scope} {a : Addr} {ccd : Value} {cl : List (Str × Addr)} {outer : List Env} {A₀ : Around} {base h₀ : Heap} {L : Addr} {m : Str → Option Value} {s : Shared} {Q E : Value → Shared → Prop} (B : Below A₀ base outer h₀) (F : Fr h₀ L s.heap m) (X : (Mine.hd.heap_39 w.params).In h₀)
    (N : News h₀ L s.heap ((r, instObj 144 d) :: (d, mrulesD w t1 t2 t3 (.bool ans) mv (.str st.name tn)) :: (f, o) :: rest)) (hmo : OptIs mv most) (hf : MFrame o (.cancel)) (hrd : r ≠ d) (hne : ∀ p ∈ (f, o) :: rest, p.1 ≠ d)
    (T : Top p loose mean mg mb h₀) (hk : cs.kind = .function)
    (hd : dp + 6 < recursionLimit) (hu : un + 48 < cLine)
    (hgiv : ∀ (sw : PySem.Str) (st' : MS) (tw tn' : VTok) (h' : Heap) (tk' : Nat), mdue ans early most st (.cancel) = (.word sw, st') → Fr h₀ L h' m → News h₀ L h' ((r, instObj 144 d) :: (d, mrulesD w t1 t2 t3 (.bool ans) mv (.str st'.name tn')) :: (f, o) :: rest) → Q (.str sw tw) { s with heap := h', toks := tk' })
    (hrais : ∀ (c : Int) (tc : VTok) (e dx : VAddr) (es : List DictEntry) (nd : Nat) (g₂ h' : Heap) (tk' : Nat), mdue ans early most st (.cancel) = (.code c, st) → Fr h₀ L g₂ m → RaisedD base g₂ (envX cn cs L a ccd cl :: outer) e dx es nd ((r, instObj 144 d) :: (d, mrulesD w t1 t2 t3 (.bool ans) mv (.str st.name tn)) :: (f, o) :: rest) h' → g₂.UpToSlots h' →
      getL (Str.ofString "code") es = some (some (.int c tc)) → E (.ref e) { s with heap := h', toks := tk' }) :
    wpAny (model prog w) (ktrTop dp un gd cn cs L a ccd cl outer) (call (.ref 120) [.ref r, .ref f, .bool early]) Q E s := by
  refine wpAny_call ?_
  obtain ⟨_, _, rfl⟩ := hf
  all_goals dsimp only [mrulesD] at N hne hgiv hrais
  all_goals replace hrd := neN hrd
  all_goals (k_dflt cell_enter; k_steps)
  all_goals (first | (rename RaisedD _ _ _ _ _ _ _ _ _ => rdX; first | exact hrais 261 _ _ _ _ _ _ _ _ (by (first | rfl | exact md_p1 (by omega) | exact md_p2 (by omega) | (simp_all [mdue]; done))) (by assumption) (RaisedD.mono rdX (by kst_allIn)) (by assumption) (by assumption) | exact hrais 264 _ _ _ _ _ _ _ _ (by (first | rfl | exact md_p1 (by omega) | exact md_p2 (by omega) | (simp_all [mdue]; done))) (by assumption) (RaisedD.mono rdX (by kst_allIn)) (by assumption) (by assumption)) | (rename News _ _ _ _ => nL; first | exact hgiv _ st _ _ _ _ (by (first | rfl | exact md_p1 (by omega) | exact md_p2 (by omega) | (simp_all [mdue]; done))) (by assumption) (kst_newsOf nL (by kst_allIn)) | exact hgiv _ .head _ _ _ _ (by (first | rfl | exact md_p1 (by omega) | exact md_p2 (by omega) | (simp_all [mdue]; done))) (by assumption) (kst_newsOf nL (by kst_allIn)) | exact hgiv _ .body _ _ _ _ (by (first | rfl | exact md_p1 (by omega) | exact md_p2 (by omega) | (simp_all [mdue]; done))) (by assumption) (kst_newsOf nL (by kst_allIn)) | exact hgiv _ .trail _ _ _ _ (by (first | rfl | exact md_p1 (by omega) | exact md_p2 (by omega) | (simp_all [mdue]; done))) (by assumption) (kst_newsOf nL (by kst_allIn))))
end N6
theorem said_M5 : True := by
  k_with_none
  trivial
section M5
theorem mt_in {d r f : Addr × Obj} {rest : List (Addr × Obj)} (hr : r ∈ rest) (hf : f ∈ rest) : ∀ p ∈ r :: d :: f :: rest, p ∈ d :: rest := fun p hp => by
  rcases List.mem_cons.mp hp with rfl | hp
  · exact .tail _ hr
  · rcases List.mem_cons.mp hp with rfl | hp
    · exact .head _
    · rcases List.mem_cons.mp hp with rfl | hp
      · exact .tail _ hf
      · exact .tail _ hp
theorem mt_out {d r f : Addr × Obj} {rest : List (Addr × Obj)} : ∀ p ∈ d :: rest, p ∈ r :: d :: f :: rest := fun p hp => by
  rcases List.mem_cons.mp hp with rfl | hp
  · exact .tail _ (.head _)
  · exact .tail _ (.tail _ (.tail _ hp))
theorem mtake_any {prog : Program} {w : World} {p : Program} {loose : List Str} {mean : ExcName → Option Value} {mg mb : Str → Option Value} {r d f : Addr} {o : Obj} {mf : MF} {mv : Value} {ans early : Bool} {most : Option Int} {st : MS} {t1 t2 t3 tn : VTok} {rest : List (Addr × Obj)}
    {dp un : Nat} {gd : Option (List Code)} {cn : Str} {cs : Scope} {a : Addr} {ccd : Value} {cl : List (Str × Addr)} {outer : List Env} {A₀ : Around} {base h₀ : Heap} {L : Addr} {m : Str → Option Value} {s : Shared} {Q E : Value → Shared → Prop} (B : Below A₀ base outer h₀) (F : Fr h₀ L s.heap m) (X : (Mine.hd.heap_39 w.params).In h₀)
    (N : News h₀ L s.heap ((d, mrulesD w t1 t2 t3 (.bool ans) mv (.str st.name tn)) :: rest)) (hr : (r, instObj 144 d) ∈ rest) (hfo : (f, o) ∈ rest) (hmo : OptIs mv most) (hf : MFrame o mf) (hne : ∀ p ∈ rest, p.1 ≠ d)
    (T : Top p loose mean mg mb h₀) (hk : cs.kind = .function)
    (hd : dp + 6 < recursionLimit) (hu : un + 48 < cLine)
    (hgiv : ∀ (sw : PySem.Str) (st' : MS) (tw tn' : VTok) (h' : Heap) (tk' : Nat), mdue ans early most st mf = (.word sw, st') → Fr h₀ L h' m → News h₀ L h' ((d, mrulesD w t1 t2 t3 (.bool ans) mv (.str st'.name tn')) :: rest) → Q (.str sw tw) { s with heap := h', toks := tk' })
    (hrais : ∀ (c : Int) (tc : VTok) (e dx : VAddr) (es : List DictEntry) (nd : Nat) (g₂ h' : Heap) (tk' : Nat), mdue ans early most st mf = (.code c, st) → Fr h₀ L g₂ m → RaisedD base g₂ (envX cn cs L a ccd cl :: outer) e dx es nd ((d, mrulesD w t1 t2 t3 (.bool ans) mv (.str st.name tn)) :: rest) h' → g₂.UpToSlots h' →
      getL (Str.ofString "code") es = some (some (.int c tc)) → E (.ref e) { s with heap := h', toks := tk' }) :
    wpAny (model prog w) (ktrTop dp un gd cn cs L a ccd cl outer) (call (.ref 120) [.ref r, .ref f, .bool early]) Q E s := by
  have N' : News h₀ L s.heap ((r, instObj 144 d) :: (d, mrulesD w t1 t2 t3 (.bool ans) mv (.str st.name tn)) :: (f, o) :: rest) := kst_newsOf N (mt_in hr hfo)
  have hrd : r ≠ d := hne _ hr
  have hne' : ∀ p ∈ (f, o) :: rest, p.1 ≠ d := List.forall_mem_cons.mpr ⟨hne _ hfo, hne⟩
  have hg' : ∀ (sw : PySem.Str) (st' : MS) (tw tn' : VTok) (h' : Heap) (tk' : Nat), mdue ans early most st mf = (.word sw, st') → Fr h₀ L h' m → News h₀ L h' ((r, instObj 144 d) :: (d, mrulesD w t1 t2 t3 (.bool ans) mv (.str st'.name tn')) :: (f, o) :: rest) → Q (.str sw tw) { s with heap := h', toks := tk' } :=
    fun sw st' tw tn' h' tk' c1 F' M' => hgiv sw st' tw tn' h' tk' c1 F' (kst_newsOf M' mt_out)
  have hr' : ∀ (c : Int) (tc : VTok) (e dx : VAddr) (es : List DictEntry) (nd : Nat) (g₂ h' : Heap) (tk' : Nat), mdue ans early most st mf = (.code c, st) → Fr h₀ L g₂ m → RaisedD base g₂ (envX cn cs L a ccd cl :: outer) e dx es nd ((r, instObj 144 d) :: (d, mrulesD w t1 t2 t3 (.bool ans) mv (.str st.name tn)) :: (f, o) :: rest) h' → g₂.UpToSlots h' →
      getL (Str.ofString "code") es = some (some (.int c tc)) → E (.ref e) { s with heap := h', toks := tk' } :=
    fun c tc e dx es nd g₂ h' tk' c1 F' R' => hrais c tc e dx es nd g₂ h' tk' c1 F' (RaisedD.mono R' mt_out)
  cases mf with
  | headers => exact mtake_headers B F X N' hmo hf hrd hne' T hk hd hu hg' hr'
  | data => exact mtake_data B F X N' hmo hf hrd hne' T hk hd hu hg' hr'
  | unknown => exact mtake_unknown B F X N' hmo hf hrd hne' T hk hd hu hg' hr'
  | push n => exact mtake_push B F X N' hmo hf hrd hne' T hk hd hu hg' hr'
  | settings => exact mtake_settings B F X N' hmo hf hrd hne' T hk hd hu hg' hr'
  | goaway => exact mtake_goaway B F X N' hmo hf hrd hne' T hk hd hu hg' hr'
  | cancel => exact mtake_cancel B F X N' hmo hf hrd hne' T hk hd hu hg' hr'
section
variable {M : Model} {A : Around} {E : Value → Shared → Prop} {s : Shared} {h₀ : Heap} {L a c P : Addr} {m mg mb : Str → Option Value} {cn : Str} {cs : Scope} {ccd : Value} {cl : List (Str × Addr)} {pre tl : List (Addr × Obj)}
  {p : Program} {loose : List Str} {mean : ExcName → Option Value} {name qual : Str} {params : Arguments} {body : PySem.Expr} {scope : Scope} {ps : Array Value} {pos : Pos} {firstLine : Nat} {clos : List (Str × Addr)}
abbrev tab1 (ln cn : Nat) (c' : VAddr) : Array Value := #[rawInt (ln : Int), rawInt (cn : Int), .ref c']
def TabOk (ln cn : Nat) (qual : Str) (ps : Array Value) (tl : List (Addr × Obj)) : Prop :=
  ps = #[] ∨ ∃ (c' : VAddr) (oc : Obj) (vs : Array Value) (t : VTok), ps = tab1 ln cn c' ∧ (c', oc) ∈ tl ∧ oc.data = .fields vs ∧ vs[1]? = some (.str qual t)
theorem lam_one {Q : Value → Shared → Prop} {ln col : Nat} (F : Fr h₀ L s.heap m) (N : News h₀ L s.heap ((P, tabObj ps) :: (pre ++ tl))) (T : Top p loose mean mg mb h₀) (C : CodeHd h₀ c P) (hcd : ccd = .ref c) (hne : ∀ p ∈ pre ++ tl, p.1 ≠ P)
    (hln : pos.line = ln) (hcol : pos.col = col) (hst : TabOk ln col qual ps tl) (hcl : closureFor scope (envX cn cs L a ccd cl) = pure clos)
    (h : ∀ (f c' : VAddr) (oc : Obj) (vs : Array Value) (t : VTok) (ctv : Value) (h' : Heap) (tk : Nat), Fr h₀ L h' m → News h₀ L h' ((f, kla_obj name qual params body scope clos ((mg "__name__").getD .none) c' ctv) :: (P, tabObj (tab1 ln col c')) :: (pre ++ (c', oc) :: tl)) →
      oc.data = .fields vs → vs[1]? = some (.str qual t) → (∀ q ∈ (P, tabObj ps) :: (pre ++ tl), q.1 < f) → c' < f → (∀ x : Addr, (∃ o, (x, o) ∈ (P, tabObj ps) :: pre) → (∀ p ∈ tl, p.1 ≠ x) → c' ≠ x) → Q (.ref f) { s with heap := h', toks := tk }) :
    wpAny M A (makeFunction name qual params (.expr body) scope (envX cn cs L a ccd cl) [] [] [] pos firstLine) Q E s := by
  subst hln hcol
  rcases hst with rfl | ⟨c', oc, vs, t, rfl, hm, hd, hv⟩
  · refine kla_nest F N T C hcd (UpdF.head hne) trivial rfl hcl (fun f c' oc vs t ctv h' tk F' N' hd hv hlt hcf => ?_)
    rw [Array.empty_append] at N'
    refine h f c' oc vs t ctv h' tk F' (kst_newsOf N' ?_) hd hv (fun q hq => Nat.lt_trans (hlt q hq) hcf) hcf (fun x hx _ => ?_)
    · intro q hq
      rcases List.mem_cons.mp hq with rfl | hq
      · exact .head _
      · rcases List.mem_cons.mp hq with rfl | hq
        · exact .tail _ (.tail _ (.head _))
        · refine .tail _ ?_
          rcases List.mem_append.mp hq with hq | hq
          · exact .tail _ (.tail _ (List.mem_append_left _ hq))
          · rcases List.mem_cons.mp hq with rfl | hq
            · exact .head _
            · exact .tail _ (.tail _ (List.mem_append_right _ hq))
    · obtain ⟨o, ho⟩ := hx
      refine Nat.ne_of_gt (hlt (x, o) ?_)
      rcases List.mem_cons.mp ho with e | ho
      · cases e; exact .head _
      · exact .tail _ (List.mem_append_left _ ho)
  · refine kla_hit (c' := c') F N T C hcd (.head _) (by simp [TriplesOk, rawInt]) (by simp [codeAmong, rawInt]) hcl (fun f ctv h' tk F' N' hlt => ?_)
    refine h f c' oc vs t ctv h' tk F' (kst_newsOf N' ?_) hd hv hlt (hlt (c', oc) (.tail _ (List.mem_append_right _ hm))) (fun x _ hx => hx (c', oc) hm)
    intro q hq
    rcases List.mem_cons.mp hq with rfl | hq
    · exact .head _
    · rcases List.mem_cons.mp hq with rfl | hq
      · exact .tail _ (.head _)
      · refine .tail _ (.tail _ ?_)
        rcases List.mem_append.mp hq with hq | hq
        · exact List.mem_append_left _ hq
        · rcases List.mem_cons.mp hq with rfl | hq
          · exact List.mem_append_right _ hm
          · exact List.mem_append_right _ hq
theorem TabOk.triples {ln cn : Nat} {qual : Str} (x : TabOk ln cn qual ps tl) : TriplesOk ps.toList := by
  rcases x with rfl | ⟨_, _, _, _, rfl, _⟩
  · trivial
  · simp [TriplesOk, rawInt]
theorem TabOk.not {ln cn : Nat} {qual : Str} (x : TabOk ln cn qual ps tl) (h : ln ≠ pos.line) : codeAmong pos ps.toList = none := by
  rcases x with rfl | ⟨_, _, _, _, rfl, _⟩
  · rfl
  · have h' : ¬ (ln : Int) = (pos.line : Int) := by omega
    simp [codeAmong, rawInt, h']
end
end M5
theorem said_M6 : True := by
  k_with_none
  k_with "k_room" => ktr_room
  k_with "k_units" => ktr_units
  k_with "k_all" => assumption
  k_with "k_all" => exact allLt_ne (by assumption) (by intro q hq; repeat (first | exact hq | refine List.Mem.tail _ ?_))
  k_with "k_ne" => (refine neN ?_; (try dsimp only); first | assumption | exact Ne.symm (by assumption) | exact Nat.ne_of_gt (allLt_at (by assumption) (by k_mem)) | exact Nat.ne_of_lt (allLt_at (by assumption) (by k_mem)) | omega)
  k_with "exec Raise some none" => (k_here; (with_reducible show wpAny _ _ (exec (Stmt.Raise (some (Expr.Call (Expr.Name ("H3Error" : Str) _) (_ :: _) [] _)) none _) _) _ _ _); (refine Raise_31 rfl ?_))
  k_with "call ref" => (k_here; (with_reducible show wpAny _ _ (call (Value.ref 31) [Value.int _ _, Value.str _ _]) (Raisable31 _) _ _); k_dflt (refine' h3_make ?B ?F ?X ?N ?T ?hk ?c0 ?c1 ?hl ?hd ?hu ?_; (case B => k_asm); (case F => k_asm); (case X => k_asm); (case N => k_asm); (case T => k_asm); (case hk => first | exact rfl | assumption); (case c0 => decide); (case c1 => decide); (case hl => first | decide | assumption); (case hd => ktr_room); (case hu => ktr_units); k_whole); intro e' dx' t' es' n' h' tk' F' N' g' hne' hed'; refine ⟨_, _, _, rfl, h3_at (by k_in), (N' _ (List.Mem.head _)).1, ?_⟩; (try dsimp only))
  k_with "leaving ref" => (k_here; first
  | ((rename RaisedD _ _ _ _ _ _ _ _ _ => rdX); (refine' leave_onD ?k1 ?k2 ?k3 ?k4 ?k5 ?_; (case k3 => exact rdX); (case k2 => assumption); (case k1 => assumption); (case k4 => assumption); (case k5 => exact rfl); k_whole); intro h' R' U'; (try dsimp only at R' U' ⊢))
  | ((refine' leave_firstD ?k1 ?k2 ?k3 ?k4 ?k5 ?k6 ?k7 ?_; (case k3 => k_asm); (case k2 => assumption); (case k1 => assumption); (case k4 => assumption); (case k5 => assumption); (case k6 => exact rfl); (case k7 => exact rfl); k_whole); intro h' R' U'; (try dsimp only at R' U' ⊢)))
  k_with "noteFrame ref" => (k_here; k_dflt (refine' caught_D ?R ?F ?K ?U ?XB ?TB ?D ?T0 ?ex ?_; (case R => assumption); (case F => assumption); (case K => assumption); (case U => assumption); (case XB => assumption); (case TB => assumption); (case D => assumption); (case T0 => first | assumption | exact KtsTurn.refl); (case ex => k_is); k_whole); intro h' g' ws' sl' tk' T' F' N' K' X' P' D'; (try k_lift K'); (try k_sweep))
  k_with "getAttr ref" => (k_here; (with_reducible show wpAny _ _ (getAttr (Value.ref _) (Str.ofString "code") _) _ _ _); k_dflt (refine' get31 ?X ?I ?ha ?hl ?hv ?_; (case X => k_in); (case I => exact inst_news31 (by k_asm) (by k_mem) (by k_mem)); (case ha => k_is); (case hl => assumption); (case hv => exact rfl); k_whole))
  k_with "compareOp NotIn str ref" => (k_here; first
  | (refine' notin35 (b := false) ?X ?hb ?_; (case X => k_in); (case hb => decide +kernel))
  | (refine' notin35 (b := true) ?X ?hb ?_; (case X => k_in); (case hb => decide +kernel))
  | (refine' notin36 (b := false) ?X ?hb ?_; (case X => k_in); (case hb => decide +kernel))
  | (refine' notin36 (b := true) ?X ?hb ?_; (case X => k_in); (case hb => decide +kernel)))
  k_with "call ref" => (k_here; (with_reducible show wpAny _ _ (call (Value.ref 155) [Value.ref _, Value.int _ _]) _ _ _); k_dflt (refine' take_spec ?B ?F ?X ?N ?T ?hk ?hI ?hn ?hi ?hx ?hx2 ?hm ?hm2 ?hbD ?hoff ?hd ?hu ?_; (case B => k_asm); (case F => k_asm); (case X => k_asm); (case N => first | k_asm | exact news_pull [_] (by k_asm) | exact news_pull [_, _] (by k_asm) | exact news_pull [_, _, _] (by k_asm) | exact news_pull [_, _, _, _] (by k_asm) | exact news_pull [_, _, _, _, _] (by k_asm) | exact news_pull [_, _, _, _, _, _] (by k_asm)); (case T => k_asm); (case hk => first | exact rfl | assumption); (case hI => assumption); (case hn => assumption); (case hi => first | assumption | decide); (case hx => first | assumption | decide); (case hx2 => first | assumption | decide); (case hm => first | decide | assumption); (case hm2 => first | decide | assumption); (case hbD => first | assumption | k_ne); (case hoff => k_all); (case hd => ktr_room); (case hu => ktr_units); k_whole); intro r' i' x' tr' ti' tx' h' tk' hr0' hr1' hi0' hx0' hx1' F' N'; (try dsimp only [List.cons_append, List.nil_append] at N'))
  k_with "subscriptTail" => (k_here; (with_reducible show wpAny _ _ (subscriptTail _ _ (Value.ref _) (Value.int _ _)) _ _ _); (refine' sub_two ?h0 ?h2 ?_ ?_; (case h0 => with_reducible assumption); (case h2 => with_reducible assumption); all_goals intro e2'))
  k_with "execs cons" => (k_here; (with_reducible show wpAny _ _ _ _ _ (Shared.mk _ _ _ (_ + 1) _)); refine gen_toks ?_; intro tk)
  k_with "execs nil" => (k_here; (with_reducible show wpAny _ _ _ _ _ (Shared.mk _ _ _ (_ + 1) _)); refine gen_toks ?_; intro tk)
  trivial
section M6
set_option maxHeartbeats 16000000 in
theorem mend {prog : Program} {w : World} {p : Program} {loose : List Str} {mean : ExcName → Option Value} {mg mb : Str → Option Value} {r d : Addr} {mv : Value} {ans : Bool} {st : MS} {t1 t2 t3 tn : VTok} {rest : List (Addr × Obj)}
    {dp un : Nat} {gd : Option (List Code)} {cn : Str} {cs : Scope} {a : Addr} {ccd : Value} {cl : List (Str × Addr)} {outer : List Env} {A₀ : Around} {base h₀ : Heap} {L : Addr} {m : Str → Option Value} {s : Shared} {Q E : Value → Shared → Prop} (B : Below A₀ base outer h₀) (F : Fr h₀ L s.heap m) (X : (Mine.hd.heap_39 w.params).In h₀)
    (N : News h₀ L s.heap ((r, instObj 144 d) :: (d, mrulesD w t1 t2 t3 (.bool ans) mv (.str st.name tn)) :: rest))
    (T : Top p loose mean mg mb h₀) (hk : cs.kind = .function)
    (hd : dp + 6 < recursionLimit) (hu : un + 48 < cLine)
    (hgiv : ∀ (h' : Heap) (tk' : Nat), st.num ≠ 0 → Fr h₀ L h' m → News h₀ L h' ((r, instObj 144 d) :: (d, mrulesD w t1 t2 t3 (.bool ans) mv (.str st.name tn)) :: rest) → Q .none { s with heap := h', toks := tk' })
    (hrais : ∀ (tc : VTok) (e dx : VAddr) (es : List DictEntry) (nd : Nat) (g₂ h' : Heap) (tk' : Nat), st.num = 0 → Fr h₀ L g₂ m → RaisedD base g₂ (envX cn cs L a ccd cl :: outer) e dx es nd ((r, instObj 144 d) :: (d, mrulesD w t1 t2 t3 (.bool ans) mv (.str st.name tn)) :: rest) h' → g₂.UpToSlots h' →
      getL (Str.ofString "code") es = some (some (.int 269 tc)) → E (.ref e) { s with heap := h', toks := tk' }) :
    wpAny (model prog w) (ktrTop dp un gd cn cs L a ccd cl outer) (call (.ref 141) [.ref r]) Q E s := by
  refine wpAny_call ?_
  cases st
  all_goals dsimp only [mrulesD, MS.name, MS.num] at N hgiv hrais
  all_goals (k_dflt cell_enter; k_steps)
  · rename RaisedD _ _ _ _ _ _ _ _ _ => rdX
    exact hrais _ _ _ _ _ _ _ _ rfl (by assumption) (RaisedD.mono rdX (by kst_allIn)) (by assumption) (by assumption)
  all_goals (rename News _ _ _ _ => nL; exact hgiv _ _ (by decide) (by assumption) (kst_newsOf nL (by kst_allIn)))
def lamQual : PySem.Str := (Str.ofString "_law_message_right" ++ ".<locals>.") ++ "<lambda>"
def MsgN (w : World) (m₀ : Str → Option Value) (b Dl r d c1 c2 P : Addr) (ws : List Value) (ans : Bool) (mv : Value) (t1 t2 t3 : VTok) (_ : Nat) (m : Str → Option Value) (nx : List (Addr × Obj)) : Prop :=
  ∃ (i x : Int) (ti tx ts tn : VTok) (st : MS) (o1 o2 : Obj) (ev : Option Value) (ps : Array Value) (tl : List (Addr × Obj)),
    m (Str.ofString "stage") = some (.int st.num ts) ∧ (∀ z, z ≠ Str.ofString "stage" → msgStored.contains z = false → m z = m₀ z) ∧
    nx = (c1, o1) :: (c2, o2) :: (r, instObj 144 d) :: (d, mrulesD w t1 t2 t3 (.bool ans) mv (.str st.name tn)) :: (b, W.listOf #[.ref Dl, .int i ti, .int x tx] 0) :: (Dl, W.listOf ws.toArray 0) :: (P, tabObj ps) :: tl ∧
    o1.data = .cell (some (.ref r)) ∧ o2.data = .cell ev ∧ 0 ≤ i ∧ 0 ≤ x ∧ x < 4294967296 ∧ TabOk 196 21 lamQual ps tl ∧
    (∀ p ∈ tl, p.1 ≠ b) ∧ (∀ p ∈ tl, p.1 ≠ d) ∧ (∀ p ∈ tl, p.1 ≠ c2) ∧ (∀ p ∈ tl, p.1 ≠ P)
theorem sub_nineP {prog : Program} {w : World} {A : Around} {E : Value → Shared → Prop} {s : Shared} {h₀ : Heap} {L l : Addr} {news rest : List (Addr × Obj)} {Q : Value → Shared → Prop} {value slice : PySem.Expr} {k : Int} {u : VTok} {nn : Nat} {vs : List Value} (b : Addr)
    (N : News h₀ L s.heap news) (hl : (l, W.listOf vs.toArray nn) ∈ news) (h0 : 0 ≤ k) (h9 : k < 9) (hlen : vs.length = 9)
    (hvs : ∀ v ∈ vs, ∃ f o mf, v = .ref f ∧ (f, o) ∈ news ∧ MFrame o mf ∧ (@LT.lt Nat _ b f ∧ AllLt f rest))
    (h : ∀ f o mf, (f, o) ∈ news → MFrame o mf → (@LT.lt Nat _ b f ∧ AllLt f rest) → Q (.ref f) s)
    (hs : ∀ k : Int, subscripted slice false (.ref l) (.int k u) = operate [.ref l, .int k u] (getItem (.ref l) (.int k u)) := by intro _; with_unfolding_all rfl) :
    wpAny (model prog w) A (subscriptTail value slice (.ref l) (.int k u)) Q E s :=
  sub_nine (fun f => @LT.lt Nat _ b f ∧ AllLt f rest) N hl h0 h9 hlen hvs h hs
end M6
theorem said_M7 : True := by
  k_with_none
  trivial
section M7
theorem mdue_ok {ans early : Bool} {most : Option Int} {st st' : MS} {mf : MF} {sw : PySem.Str} (h : mdue ans early most st mf = (.word sw, st')) : PyData.strOk sw = true := by
  cases mf <;> simp only [mdue] at h
  all_goals (repeat' split at h)
  all_goals (first | (cases h; done) | (cases h; decide +kernel))
section
variable {prog : Program} {w : World} {A : Around} {E : Value → Shared → Prop} {s : Shared} {h₀ : Heap} {L a b : Addr} {news : List (Addr × Obj)} {x y : PySem.Str} {t1 t2 t3 t4 : VTok} {Q : Value → Shared → Prop}
theorem ne_pair_same (N : News h₀ L s.heap news) (ha : (a, tupOf [.str x t1, .str y t2]) ∈ news) (hb : (b, tupOf [.str x t3, .str y t4]) ∈ news) (hx : PyData.strOk x = true) (hy : PyData.strOk y = true) (hu : A.units + 64 < cLine) (h : Q (.bool false) s) :
    wpAny (model prog w) A (compareOp .NotEq (.ref a) (.ref b)) Q E s := by
  have sh : PySem.SeqAt.shaped (.tuple [.str x, .str y]) = true := by
    simp [PySem.SeqAt.shaped, PyData.canLay0, PyData.canLayAll0, PyData.depth, PyData.depthAll, hx, hy]
  refine ne_dataH (da := .tuple [.str x, .str y]) (db := .tuple [.str x, .str y]) (reads_tuple_at (News.get N ha) rfl rfl (.cons (.str _ _) (.cons (.str _ _) .nil))) (reads_tuple_at (News.get N hb) rfl rfl (.cons (.str _ _) (.cons (.str _ _) .nil))) sh sh hu ?_
  simpa [PyData.eqv, PyData.eqvAll] using h
end
theorem msg_map {m₀ u : Str → Option Value} {v1 v2 v3 v4 v5 v6 v7 v8 : Option Value} : ∀ z, z ≠ Str.ofString "stage" → msgStored.contains z = false →
    (fun y => if y = Str.ofString "told" then v1 else if y = Str.ofString "stage" then v2 else if y = Str.ofString "due" then v3 else if y = Str.ofString "frame" then v4 else if y = Str.ofString "some" then v5 else if y = Str.ofString "some" then v6 else if y = Str.ofString "turn" then v7 else if y = Str.ofString "stage" then v8 else if msgStored.contains y then u y else m₀ y) z = m₀ z := by
  intro z h1 h2
  have a1 : z ≠ Str.ofString "turn" := by rintro rfl; exact absurd h2 (by decide)
  have a2 : z ≠ Str.ofString "some" := by rintro rfl; exact absurd h2 (by decide)
  have a3 : z ≠ Str.ofString "frame" := by rintro rfl; exact absurd h2 (by decide)
  have a4 : z ≠ Str.ofString "due" := by rintro rfl; exact absurd h2 (by decide)
  have a5 : z ≠ Str.ofString "told" := by rintro rfl; exact absurd h2 (by decide)
  simp only [if_neg h1, if_neg a1, if_neg a2, if_neg a3, if_neg a4, if_neg a5, h2, Bool.false_eq_true, if_false]
theorem news_one {h₀ h : Heap} {L : Addr} {q : Addr × Obj} {l : List (Addr × Obj)} (N : News h₀ L h l) (hq : q ∈ l) : News h₀ L h [q] := kst_newsOf N (by
  intro p hp
  rw [List.mem_singleton.mp hp]; exact hq)
theorem msg_start {h₀ h : Heap} {L : Addr} {I c1 c2 r d b D P : Addr × Obj} {tl : List (Addr × Obj)} (N : News h₀ L h (I :: c1 :: c2 :: r :: d :: b :: D :: P :: tl)) : News h₀ L h (b :: D :: (I :: c1 :: c2 :: r :: d :: P :: tl)) := news_pull [_, _, _, _, _] N
theorem hide3 {h₀ h : Heap} {L : Addr} {b D : Addr × Obj} {l : List (Addr × Obj)} (N : News h₀ L h (b :: D :: l)) : ∃ l', l' = l ∧ News h₀ L h (b :: D :: l') := ⟨l, rfl, N⟩
theorem drop_sub {l rest : List (Addr × Obj)} (n : Nat) (e : l.drop n = rest) : ∀ p ∈ rest, p ∈ l := fun p hp => List.mem_of_mem_drop (e ▸ hp)
theorem nine_sub (n : Nat) {l rest : List (Addr × Obj)} {f b D : Addr × Obj} (hf : f ∈ l) (hb : b ∈ l) (hD : D ∈ l) (e : l.drop n = rest) : ∀ p ∈ f :: b :: D :: rest, p ∈ l :=
  List.forall_mem_cons.mpr ⟨hf, List.forall_mem_cons.mpr ⟨hb, List.forall_mem_cons.mpr ⟨hD, drop_sub n e⟩⟩⟩
theorem hide_app {h₀ h : Heap} {L : Addr} (l1 : List (Addr × Obj)) {l : List (Addr × Obj)} (N : News h₀ L h (l1 ++ l)) : ∃ l', l' = l ∧ News h₀ L h (l1 ++ l') := ⟨l, rfl, N⟩
theorem msg_lamN {h₀ h : Heap} {L : Addr} {told tup b D f I c1 c2 r d P : Addr × Obj} {tl : List (Addr × Obj)} (N : News h₀ L h (told :: tup :: b :: D :: f :: I :: c1 :: c2 :: r :: d :: P :: tl)) :
    News h₀ L h (P :: ([told, b, D, f, I, c1, c2, r, d] ++ tl)) := kst_newsOf N (by simp only [List.cons_append, List.nil_append]; kst_allIn)
theorem msg_okN {h₀ h : Heap} {L : Addr} {lf lc told b D f I c1 c2 r d P : Addr × Obj} {tl : List (Addr × Obj)} (N : News h₀ L h (lf :: P :: ([told, b, D, f, I, c1, c2, r, d] ++ lc :: tl))) :
    News h₀ L h ([d, lf, c1, c2, r, f, lc] ++ [P, told, b, D, I]) := kst_newsOf N (by simp only [List.cons_append, List.nil_append]; kst_allIn)
theorem msg_backN {h₀ h : Heap} {L : Addr} {x d lf c1 c2 r f lc P told b D I : Addr × Obj} (N : News h₀ L h (x :: d :: lf :: c1 :: c2 :: r :: f :: lc :: [P, told, b, D, I])) :
    News h₀ L h (I :: c1 :: c2 :: r :: d :: b :: D :: P :: [lc]) := kst_newsOf N (by kst_allIn)
theorem msg_tabN {h₀ h : Heap} {L : Addr} {c1 c2 r d b D P : Addr × Obj} {tl : List (Addr × Obj)} (N : News h₀ L h (c1 :: c2 :: r :: d :: b :: D :: P :: tl)) :
    News h₀ L h (P :: c1 :: r :: d :: tl) := kst_newsOf N (by kst_allIn)
theorem msg_okE {h₀ h : Heap} {L : Addr} {lf lc c1 r d P : Addr × Obj} {tl : List (Addr × Obj)} (N : News h₀ L h (lf :: lc :: P :: c1 :: r :: d :: tl)) :
    News h₀ L h ([r, d, lf, lc, c1] ++ [P]) := kst_newsOf N (by simp only [List.cons_append, List.nil_append]; kst_allIn)
end M7
theorem said_P1 : True := by
  k_with_none
  k_with "k_room" => ktr_room
  k_with "k_units" => ktr_units
  k_with "k_all" => assumption
  k_with "k_all" => exact allLt_ne (by assumption) (by intro q hq; repeat (first | exact hq | refine List.Mem.tail _ ?_))
  k_with "k_ne" => (refine neN ?_; (try dsimp only); first | assumption | exact Ne.symm (by assumption) | exact Nat.ne_of_gt (allLt_at (by assumption) (by k_mem)) | exact Nat.ne_of_lt (allLt_at (by assumption) (by k_mem)) | omega)
  k_with "exec Raise some none" => (k_here; (with_reducible show wpAny _ _ (exec (Stmt.Raise (some (Expr.Call (Expr.Name ("H3Error" : Str) _) (_ :: _) [] _)) none _) _) _ _ _); (refine Raise_31 rfl ?_))
  k_with "call ref" => (k_here; (with_reducible show wpAny _ _ (call (Value.ref 31) [Value.int _ _, Value.str _ _]) (Raisable31 _) _ _); k_dflt (refine' h3_make ?B ?F ?X ?N ?T ?hk ?c0 ?c1 ?hl ?hd ?hu ?_; (case B => k_asm); (case F => k_asm); (case X => k_asm); (case N => k_asm); (case T => k_asm); (case hk => first | exact rfl | assumption); (case c0 => decide); (case c1 => decide); (case hl => first | decide | assumption); (case hd => ktr_room); (case hu => ktr_units); k_whole); intro e' dx' t' es' n' h' tk' F' N' g' hne' hed'; refine ⟨_, _, _, rfl, h3_at (by k_in), (N' _ (List.Mem.head _)).1, ?_⟩; (try dsimp only))
  k_with "leaving ref" => (k_here; first
  | ((rename RaisedD _ _ _ _ _ _ _ _ _ => rdX); (refine' leave_onD ?k1 ?k2 ?k3 ?k4 ?k5 ?_; (case k3 => exact rdX); (case k2 => assumption); (case k1 => assumption); (case k4 => assumption); (case k5 => exact rfl); k_whole); intro h' R' U'; (try dsimp only at R' U' ⊢))
  | ((refine' leave_firstD ?k1 ?k2 ?k3 ?k4 ?k5 ?k6 ?k7 ?_; (case k3 => k_asm); (case k2 => assumption); (case k1 => assumption); (case k4 => assumption); (case k5 => assumption); (case k6 => exact rfl); (case k7 => exact rfl); k_whole); intro h' R' U'; (try dsimp only at R' U' ⊢)))
  k_with "noteFrame ref" => (k_here; k_dflt (refine' caught_D ?R ?F ?K ?U ?XB ?TB ?D ?T0 ?ex ?_; (case R => assumption); (case F => assumption); (case K => assumption); (case U => assumption); (case XB => assumption); (case TB => assumption); (case D => assumption); (case T0 => first | assumption | exact KtsTurn.refl); (case ex => k_is); k_whole); intro h' g' ws' sl' tk' T' F' N' K' X' P' D'; (try k_lift K'); (try k_sweep))
  k_with "getAttr ref" => (k_here; (with_reducible show wpAny _ _ (getAttr (Value.ref _) (Str.ofString "code") _) _ _ _); k_dflt (refine' get31 ?X ?I ?ha ?hl ?hv ?_; (case X => k_in); (case I => exact inst_news31 (by k_asm) (by k_mem) (by k_mem)); (case ha => k_is); (case hl => assumption); (case hv => exact rfl); k_whole))
  k_with "compareOp NotIn str ref" => (k_here; first
  | (refine' notin35 (b := false) ?X ?hb ?_; (case X => k_in); (case hb => decide +kernel))
  | (refine' notin35 (b := true) ?X ?hb ?_; (case X => k_in); (case hb => decide +kernel))
  | (refine' notin36 (b := false) ?X ?hb ?_; (case X => k_in); (case hb => decide +kernel))
  | (refine' notin36 (b := true) ?X ?hb ?_; (case X => k_in); (case hb => decide +kernel)))
  k_with "call ref" => (k_here; (with_reducible show wpAny _ _ (call (Value.ref 155) [Value.ref _, Value.int _ _]) _ _ _); k_dflt (refine' take_spec ?B ?F ?X ?N ?T ?hk ?hI ?hn ?hi ?hx ?hx2 ?hm ?hm2 ?hbD ?hoff ?hd ?hu ?_; (case B => k_asm); (case F => k_asm); (case X => k_asm); (case N => first | k_asm | exact news_pull [_] (by k_asm) | exact news_pull [_, _] (by k_asm) | exact news_pull [_, _, _] (by k_asm) | exact news_pull [_, _, _, _] (by k_asm) | exact news_pull [_, _, _, _, _] (by k_asm) | exact news_pull [_, _, _, _, _, _] (by k_asm)); (case T => k_asm); (case hk => first | exact rfl | assumption); (case hI => assumption); (case hn => assumption); (case hi => first | assumption | decide); (case hx => first | assumption | decide); (case hx2 => first | assumption | decide); (case hm => first | decide | assumption); (case hm2 => first | decide | assumption); (case hbD => first | assumption | k_ne); (case hoff => k_all); (case hd => ktr_room); (case hu => ktr_units); k_whole); intro r' i' x' tr' ti' tx' h' tk' hr0' hr1' hi0' hx0' hx1' F' N'; (try dsimp only [List.cons_append, List.nil_append] at N'))
  k_with "subscriptTail" => (k_here; (with_reducible show wpAny _ _ (subscriptTail _ _ (Value.ref _) (Value.int _ _)) _ _ _); (refine' sub_two ?h0 ?h2 ?_ ?_; (case h0 => with_reducible assumption); (case h2 => with_reducible assumption); all_goals intro e2'))
  k_with "execs cons" => (k_here; (with_reducible show wpAny _ _ _ _ _ (Shared.mk _ _ _ (_ + 1) _)); refine gen_toks ?_; intro tk)
  k_with "execs nil" => (k_here; (with_reducible show wpAny _ _ _ _ _ (Shared.mk _ _ _ (_ + 1) _)); refine gen_toks ?_; intro tk)
  trivial
section P1
set_option maxHeartbeats 8000000 in
theorem mk_msg {prog : Program} {w : World} {p : Program} {loose : List Str} {mean : ExcName → Option Value} {mg mb : Str → Option Value} {ans : Bool} {mv : Value} {rest : List (Addr × Obj)}
    {dp un : Nat} {gd : Option (List Code)} {cn : Str} {cs : Scope} {a : Addr} {ccd : Value} {cl : List (Str × Addr)} {outer : List Env} {A₀ : Around} {base h₀ : Heap} {L : Addr} {m : Str → Option Value} {s : Shared} {Q E : Value → Shared → Prop} (B : Below A₀ base outer h₀) (F : Fr h₀ L s.heap m) (X : (Mine.hd.heap_39 w.params).In h₀)
    (N : News h₀ L s.heap rest) (T : Top p loose mean mg mb h₀) (hk : cs.kind = .function)
    (hd : dp + 4 < recursionLimit) (hu : un + 40 < cLine)
    (hret : ∀ (r d : VAddr) (t1 t2 t3 tn : VTok) (h' : Heap) (tk' : Nat), Fr h₀ L h' m → News h₀ L h' ((r, instObj 144 d) :: (d, mrulesD w t1 t2 t3 (.bool ans) mv (.str (Str.ofString "head") tn)) :: rest) → AllLt d rest → @LT.lt Nat _ d r → Q (.ref r) { s with heap := h', toks := tk' }) :
    wpAny (model prog w) (ktrTop dp un gd cn cs L a ccd cl outer) (call (.ref 144) [.bool ans, mv]) Q E s := by
  (k_dflt (refine' call_cls ?k1 ?k2 ?k3 ?k4 ?k5 ?k6 ?_; (case k1 => k_asm); (case k2 => k_asm); (case k3 => k_asm); (case k4 => k_is); (case k5 => k_is); (case k6 => k_is); k_whole; intro x' d' h' F' N' l1 l2); (have l3 := allLt_of l1); (replace l2 := ltN l2))
  k_dflt cell_enter
  k_steps
  (rename News h₀ _ _ _ => nL); exact hret _ _ _ _ _ _ _ _ (by assumption) nL l3 l2
set_option maxHeartbeats 8000000 in
theorem mk_ctl {prog : Program} {w : World} {p : Program} {loose : List Str} {mean : ExcName → Option Value} {mg mb : Str → Option Value} {client : Bool} {tp : VTok} {mv : Value} {rest : List (Addr × Obj)}
    {dp un : Nat} {gd : Option (List Code)} {cn : Str} {cs : Scope} {a : Addr} {ccd : Value} {cl : List (Str × Addr)} {outer : List Env} {A₀ : Around} {base h₀ : Heap} {L : Addr} {m : Str → Option Value} {s : Shared} {Q E : Value → Shared → Prop} (B : Below A₀ base outer h₀) (F : Fr h₀ L s.heap m) (X : (Mine.hd.heap_39 w.params).In h₀)
    (N : News h₀ L s.heap rest) (T : Top p loose mean mg mb h₀) (hk : cs.kind = .function)
    (hd : dp + 4 < recursionLimit) (hu : un + 40 < cLine)
    (hret : ∀ (r d : VAddr) (t1 t2 t3 t4 t5 : VTok) (h' : Heap) (tk' : Nat), Fr h₀ L h' m → News h₀ L h' ((r, instObj 88 d) :: (d, rulesD w t1 t2 t3 t4 t5 (.str (peerOf client) tp) mv .none .none .none) :: rest) → AllLt d rest → @LT.lt Nat _ d r → Q (.ref r) { s with heap := h', toks := tk' }) :
    wpAny (model prog w) (ktrTop dp un gd cn cs L a ccd cl outer) (call (.ref 88) [.str (peerOf client) tp, mv]) Q E s := by
  (k_dflt (refine' call_cls ?k1 ?k2 ?k3 ?k4 ?k5 ?k6 ?_; (case k1 => k_asm); (case k2 => k_asm); (case k3 => k_asm); (case k4 => k_is); (case k5 => k_is); (case k6 => k_is); k_whole; intro x' d' h' F' N' l1 l2); (have l3 := allLt_of l1); (replace l2 := ltN l2))
  k_dflt cell_enter
  k_steps
  (rename News h₀ _ _ _ => nL); exact hret _ _ _ _ _ _ _ _ _ (by assumption) nL l3 l2
end P1
theorem said_W3 : True := by
  k_with_none
  k_with "k_room" => ktr_room
  k_with "k_units" => ktr_units
  k_with "k_all" => assumption
  k_with "k_all" => exact allLt_ne (by assumption) (by intro q hq; repeat (first | exact hq | refine List.Mem.tail _ ?_))
  k_with "k_ne" => (refine neN ?_; (try dsimp only); first | assumption | exact Ne.symm (by assumption) | exact Nat.ne_of_gt (allLt_at (by assumption) (by k_mem)) | exact Nat.ne_of_lt (allLt_at (by assumption) (by k_mem)) | omega)
  k_with "exec Raise some none" => (k_here; (with_reducible show wpAny _ _ (exec (Stmt.Raise (some (Expr.Call (Expr.Name ("H3Error" : Str) _) (_ :: _) [] _)) none _) _) _ _ _); (refine Raise_31 rfl ?_))
  k_with "call ref" => (k_here; (with_reducible show wpAny _ _ (call (Value.ref 31) [Value.int _ _, Value.str _ _]) (Raisable31 _) _ _); k_dflt (refine' h3_make ?B ?F ?X ?N ?T ?hk ?c0 ?c1 ?hl ?hd ?hu ?_; (case B => k_asm); (case F => k_asm); (case X => k_asm); (case N => k_asm); (case T => k_asm); (case hk => first | exact rfl | assumption); (case c0 => decide); (case c1 => decide); (case hl => first | decide | assumption); (case hd => ktr_room); (case hu => ktr_units); k_whole); intro e' dx' t' es' n' h' tk' F' N' g' hne' hed'; refine ⟨_, _, _, rfl, h3_at (by k_in), (N' _ (List.Mem.head _)).1, ?_⟩; (try dsimp only))
  k_with "leaving ref" => (k_here; first
  | ((rename RaisedD _ _ _ _ _ _ _ _ _ => rdX); (refine' leave_onD ?k1 ?k2 ?k3 ?k4 ?k5 ?_; (case k3 => exact rdX); (case k2 => assumption); (case k1 => assumption); (case k4 => assumption); (case k5 => exact rfl); k_whole); intro h' R' U'; (try dsimp only at R' U' ⊢))
  | ((refine' leave_firstD ?k1 ?k2 ?k3 ?k4 ?k5 ?k6 ?k7 ?_; (case k3 => k_asm); (case k2 => assumption); (case k1 => assumption); (case k4 => assumption); (case k5 => assumption); (case k6 => exact rfl); (case k7 => exact rfl); k_whole); intro h' R' U'; (try dsimp only at R' U' ⊢)))
  k_with "noteFrame ref" => (k_here; k_dflt (refine' caught_D ?R ?F ?K ?U ?XB ?TB ?D ?T0 ?ex ?_; (case R => assumption); (case F => assumption); (case K => assumption); (case U => assumption); (case XB => assumption); (case TB => assumption); (case D => assumption); (case T0 => first | assumption | exact KtsTurn.refl); (case ex => k_is); k_whole); intro h' g' ws' sl' tk' T' F' N' K' X' P' D'; (try k_lift K'); (try k_sweep))
  k_with "getAttr ref" => (k_here; (with_reducible show wpAny _ _ (getAttr (Value.ref _) (Str.ofString "code") _) _ _ _); k_dflt (refine' get31 ?X ?I ?ha ?hl ?hv ?_; (case X => k_in); (case I => exact inst_news31 (by k_asm) (by k_mem) (by k_mem)); (case ha => k_is); (case hl => assumption); (case hv => exact rfl); k_whole))
  k_with "compareOp NotIn str ref" => (k_here; first
  | (refine' notin35 (b := false) ?X ?hb ?_; (case X => k_in); (case hb => decide +kernel))
  | (refine' notin35 (b := true) ?X ?hb ?_; (case X => k_in); (case hb => decide +kernel))
  | (refine' notin36 (b := false) ?X ?hb ?_; (case X => k_in); (case hb => decide +kernel))
  | (refine' notin36 (b := true) ?X ?hb ?_; (case X => k_in); (case hb => decide +kernel)))
  k_with "call ref" => (k_here; (with_reducible show wpAny _ _ (call (Value.ref 155) [Value.ref _, Value.int _ _]) _ _ _); k_dflt (refine' take_spec ?B ?F ?X ?N ?T ?hk ?hI ?hn ?hi ?hx ?hx2 ?hm ?hm2 ?hbD ?hoff ?hd ?hu ?_; (case B => k_asm); (case F => k_asm); (case X => k_asm); (case N => first | k_asm | exact news_pull [_] (by k_asm) | exact news_pull [_, _] (by k_asm) | exact news_pull [_, _, _] (by k_asm) | exact news_pull [_, _, _, _] (by k_asm) | exact news_pull [_, _, _, _, _] (by k_asm) | exact news_pull [_, _, _, _, _, _] (by k_asm)); (case T => k_asm); (case hk => first | exact rfl | assumption); (case hI => assumption); (case hn => assumption); (case hi => first | assumption | decide); (case hx => first | assumption | decide); (case hx2 => first | assumption | decide); (case hm => first | decide | assumption); (case hm2 => first | decide | assumption); (case hbD => first | assumption | k_ne); (case hoff => k_all); (case hd => ktr_room); (case hu => ktr_units); k_whole); intro r' i' x' tr' ti' tx' h' tk' hr0' hr1' hi0' hx0' hx1' F' N'; (try dsimp only [List.cons_append, List.nil_append] at N'))
  k_with "subscriptTail" => (k_here; (with_reducible show wpAny _ _ (subscriptTail _ _ (Value.ref _) (Value.int _ _)) _ _ _); (refine' sub_two ?h0 ?h2 ?_ ?_; (case h0 => with_reducible assumption); (case h2 => with_reducible assumption); all_goals intro e2'))
  k_with "execs cons" => (k_here; (with_reducible show wpAny _ _ _ _ _ (Shared.mk _ _ _ (_ + 1) _)); refine gen_toks ?_; intro tk)
  k_with "execs nil" => (k_here; (with_reducible show wpAny _ _ _ _ _ (Shared.mk _ _ _ (_ + 1) _)); refine gen_toks ?_; intro tk)
  k_with "exec For Tuple IfExp cons nil" => (k_here; (rename Fr _ _ _ _ => lF'); (with_unfolding_all refine' For_turns lF' ?_; k_whole))
  trivial
section W3
set_option maxHeartbeats 8000000 in
theorem setting_6 {prog : Program} {w : World} {p : Program} {loose : List Str} {mean : ExcName → Option Value} {mg mb : Str → Option Value} {r d sl p1 p2 : Addr} {t1 t2 t3 t4 t5 u1 u2 u3 u4 tn td : VTok} {pv mv gv tv : Value} {dv : Int} {y1 y2 : Int} {nn : Nat} {rest : List (Addr × Obj)}
    {dp un : Nat} {gd : Option (List Code)} {cn : Str} {cs : Scope} {a : Addr} {ccd : Value} {cl : List (Str × Addr)} {outer : List Env} {A₀ : Around} {base h₀ : Heap} {L : Addr} {m : Str → Option Value} {s : Shared} {Q E : Value → Shared → Prop} (B : Below A₀ base outer h₀) (F : Fr h₀ L s.heap m) (X : (Mine.hd.heap_39 w.params).In h₀)
    (NR : News h₀ L s.heap rest) (hm : ∀ p ∈ [(r, instObj 88 d), (d, rulesD w t1 t2 t3 t4 t5 pv mv (.ref sl) gv tv), (sl, W.listOf #[.ref p1, .ref p2] nn), (p2, tupOf [.int 1 u1, .int y2 u2]), (p1, tupOf [.int 6 u3, .int y1 u4])], p ∈ rest)
    (T : Top p loose mean mg mb h₀) (hk : cs.kind = .function)
    (hd : dp + 2 < recursionLimit) (hu : un + 20 < cLine)
    (hret : ∀ (tk' : Nat) (h' : Heap), Fr h₀ L h' m → News h₀ L h' rest → Q (.int y1 u4) { s with heap := h', toks := tk' }) :
    wpAny (model prog w) (ktrTop dp un gd cn cs L a ccd cl outer) (call (.ref 78) [.ref r, .int 6 tn, .int dv td]) Q E s := by
  refine wpAny_call ?_
  have N := kst_newsOf NR hm
  dsimp only [rulesD] at N
  clear hm
  ((k_dflt (refine' code_defR ?B ?F ?X ?N ?NR ?T rfl rfl ?hk ?k6 ?k7 ?k8 ?k9 ?kB ?_ ?c2 ?c3 ?c4 ?c5; (case B => assumption); (case F => assumption); (case X => assumption); (case N => exact N); (case NR => exact NR); (case T => assumption); (case hk => assumption); (case k6 => k_is); (case k7 => k_is); (case k8 => ktr_room); (case k9 => exact BindsTo.of_eq rfl); (case kB => exact locs rfl); (case c2 => exact rfl); (case c3 => exact rfl); (case c4 => exact rfl); (case c5 => decide); k_whole); intro g' L' h' FG' F' N' B' X' T'; (try dsimp only); (try k_lift B'); (try k_fold)))
  clear N NR
  k_steps
  rename News _ _ _ _ → News _ _ _ _ => hR
  rename News _ _ _ _ => nL
  exact hret _ _ (by assumption) (hR (kst_newsOf nL (by kst_allIn)))
set_option maxHeartbeats 8000000 in
theorem setting_1 {prog : Program} {w : World} {p : Program} {loose : List Str} {mean : ExcName → Option Value} {mg mb : Str → Option Value} {r d sl p1 p2 : Addr} {t1 t2 t3 t4 t5 u1 u2 u3 u4 tn td : VTok} {pv mv gv tv : Value} {dv : Int} {y1 y2 : Int} {nn : Nat} {rest : List (Addr × Obj)}
    {dp un : Nat} {gd : Option (List Code)} {cn : Str} {cs : Scope} {a : Addr} {ccd : Value} {cl : List (Str × Addr)} {outer : List Env} {A₀ : Around} {base h₀ : Heap} {L : Addr} {m : Str → Option Value} {s : Shared} {Q E : Value → Shared → Prop} (B : Below A₀ base outer h₀) (F : Fr h₀ L s.heap m) (X : (Mine.hd.heap_39 w.params).In h₀)
    (NR : News h₀ L s.heap rest) (hm : ∀ p ∈ [(r, instObj 88 d), (d, rulesD w t1 t2 t3 t4 t5 pv mv (.ref sl) gv tv), (sl, W.listOf #[.ref p1, .ref p2] nn), (p2, tupOf [.int 1 u1, .int y2 u2]), (p1, tupOf [.int 6 u3, .int y1 u4])], p ∈ rest)
    (T : Top p loose mean mg mb h₀) (hk : cs.kind = .function)
    (hd : dp + 2 < recursionLimit) (hu : un + 20 < cLine)
    (hret : ∀ (tk' : Nat) (h' : Heap), Fr h₀ L h' m → News h₀ L h' rest → Q (.int y2 u2) { s with heap := h', toks := tk' }) :
    wpAny (model prog w) (ktrTop dp un gd cn cs L a ccd cl outer) (call (.ref 78) [.ref r, .int 1 tn, .int dv td]) Q E s := by
  refine wpAny_call ?_
  have N := kst_newsOf NR hm
  dsimp only [rulesD] at N
  clear hm
  ((k_dflt (refine' code_defR ?B ?F ?X ?N ?NR ?T rfl rfl ?hk ?k6 ?k7 ?k8 ?k9 ?kB ?_ ?c2 ?c3 ?c4 ?c5; (case B => assumption); (case F => assumption); (case X => assumption); (case N => exact N); (case NR => exact NR); (case T => assumption); (case hk => assumption); (case k6 => k_is); (case k7 => k_is); (case k8 => ktr_room); (case k9 => exact BindsTo.of_eq rfl); (case kB => exact locs rfl); (case c2 => exact rfl); (case c3 => exact rfl); (case c4 => exact rfl); (case c5 => decide); k_whole); intro g' L' h' FG' F' N' B' X' T'; (try dsimp only); (try k_lift B'); (try k_fold)))
  clear N NR
  k_steps
  rename News _ _ _ _ → News _ _ _ _ => hR
  rename News _ _ _ _ => nL
  exact hret _ _ (by assumption) (hR (kst_newsOf nL (by kst_allIn)))
set_option maxHeartbeats 8000000 in
theorem setting_7 {prog : Program} {w : World} {p : Program} {loose : List Str} {mean : ExcName → Option Value} {mg mb : Str → Option Value} {r d sl p1 p2 : Addr} {t1 t2 t3 t4 t5 u1 u2 u3 u4 tn td : VTok} {pv mv gv tv : Value} {dv : Int} {y1 y2 : Int} {nn : Nat} {rest : List (Addr × Obj)}
    {dp un : Nat} {gd : Option (List Code)} {cn : Str} {cs : Scope} {a : Addr} {ccd : Value} {cl : List (Str × Addr)} {outer : List Env} {A₀ : Around} {base h₀ : Heap} {L : Addr} {m : Str → Option Value} {s : Shared} {Q E : Value → Shared → Prop} (B : Below A₀ base outer h₀) (F : Fr h₀ L s.heap m) (X : (Mine.hd.heap_39 w.params).In h₀)
    (NR : News h₀ L s.heap rest) (hm : ∀ p ∈ [(r, instObj 88 d), (d, rulesD w t1 t2 t3 t4 t5 pv mv (.ref sl) gv tv), (sl, W.listOf #[.ref p1, .ref p2] nn), (p2, tupOf [.int 1 u1, .int y2 u2]), (p1, tupOf [.int 6 u3, .int y1 u4])], p ∈ rest)
    (T : Top p loose mean mg mb h₀) (hk : cs.kind = .function)
    (hd : dp + 2 < recursionLimit) (hu : un + 20 < cLine)
    (hret : ∀ (tk' : Nat) (h' : Heap), Fr h₀ L h' m → News h₀ L h' rest → Q (.int dv td) { s with heap := h', toks := tk' }) :
    wpAny (model prog w) (ktrTop dp un gd cn cs L a ccd cl outer) (call (.ref 78) [.ref r, .int 7 tn, .int dv td]) Q E s := by
  refine wpAny_call ?_
  have N := kst_newsOf NR hm
  dsimp only [rulesD] at N
  clear hm
  ((k_dflt (refine' code_defR ?B ?F ?X ?N ?NR ?T rfl rfl ?hk ?k6 ?k7 ?k8 ?k9 ?kB ?_ ?c2 ?c3 ?c4 ?c5; (case B => assumption); (case F => assumption); (case X => assumption); (case N => exact N); (case NR => exact NR); (case T => assumption); (case hk => assumption); (case k6 => k_is); (case k7 => k_is); (case k8 => ktr_room); (case k9 => exact BindsTo.of_eq rfl); (case kB => exact locs rfl); (case c2 => exact rfl); (case c3 => exact rfl); (case c4 => exact rfl); (case c5 => decide); k_whole); intro g' L' h' FG' F' N' B' X' T'; (try dsimp only); (try k_lift B'); (try k_fold)))
  clear N NR
  k_steps
  rename News _ _ _ _ → News _ _ _ _ => hR
  rename News _ _ _ _ => nL
  exact hret _ _ (by assumption) (hR (kst_newsOf nL (by kst_allIn)))
end W3
theorem said_Q2 : True := by
  k_with_none
  k_with "k_room" => ktr_room
  k_with "k_units" => ktr_units
  k_with "k_all" => (first | assumption | exact allLt_ne (by assumption) (by intro q hq; repeat (first | exact hq | refine List.Mem.tail _ ?_)))
  k_with "k_ne" => (refine neN ?_; (try dsimp only); first | assumption | exact Ne.symm (by assumption) | exact Nat.ne_of_gt (allLt_at (by assumption) (by k_mem)) | exact Nat.ne_of_lt (allLt_at (by assumption) (by k_mem)) | omega)
  k_with "call ref" => (k_here; refine stop_call (by decide) ?_)
  k_with "execs cons" => (k_here; (with_reducible show wpAny _ _ _ _ _ (Shared.mk _ _ _ (_ + 1) _)); refine gen_toks ?_; intro tk)
  k_with "execs nil" => (k_here; (with_reducible show wpAny _ _ _ _ _ (Shared.mk _ _ _ (_ + 1) _)); refine gen_toks ?_; intro tk)
  k_with "exec For Name Call cons nil" => (k_here; (rename Fr _ _ _ _ => lF'); (with_unfolding_all refine' For_invVF lF' ?k1 ?k2 ?_; (case k1 => exact rfl); (case k2 => exact rfl); k_whole))
  k_with "exec For Name Tuple cons nil" => (k_here; (rename Fr _ _ _ _ => lF'); (with_unfolding_all refine' For_invVF lF' ?k1 ?k2 ?_; (case k1 => exact rfl); (case k2 => exact rfl); k_whole))
  k_with "pyIter ref" => ((with_reducible show wpAny _ _ (pyIter (Value.ref _)) (fun it s₂ => LoopAtV _ _ _ _ _ _ _ _ _ it s₂) _ _); refine Stop.out ?_)
  k_with "subscriptTail" => (k_here; refine stop_sub (by assumption) ?_)
  k_with "subscriptTail" => (k_here; first
  | ((with_reducible show wpAny _ _ (subscriptTail _ _ (Value.ref _) (Value.str (Str.ofString "begun") _)) _ _ _); k_dflt (refine' known_get_begun ?N ?m ?d ?_; (case N => k_asm); (case m => k_mem); (case d => assumption)))
  | ((with_reducible show wpAny _ _ (subscriptTail _ _ (Value.ref _) (Value.str (Str.ofString "goaway") _)) _ _ _); k_dflt (refine' known_get_goaway ?N ?m ?d ?_; (case N => k_asm); (case m => k_mem); (case d => assumption)))
  | ((with_reducible show wpAny _ _ (subscriptTail _ _ (Value.ref _) (Value.str (Str.ofString "most") _)) _ _ _); k_dflt (refine' known_get_most ?N ?m ?d ?_; (case N => k_asm); (case m => k_mem); (case d => assumption))))
  k_with "k_handed" => exact handed_opt (by assumption)
  trivial
section Q2
def FirstIs (f sl : VAddr) (rest fx : List (Addr × Obj)) : Prop := ∃ (ls p1 p2 : VAddr) (y1 y2 : Int) (u0 u1 u2 u3 u4 : VTok) (nn : Nat),
  fx = (f, tupOf [.str (Str.ofString "settings") u0, .ref ls]) :: (ls, W.listOf #[.ref p1, .ref p2] 0) :: (p2, tupOf [.int 1 u1, .int y2 u2]) :: (p1, tupOf [.int 6 u3, .int y1 u4]) :: (sl, W.listOf #[.ref p1, .ref p2] nn) :: rest
theorem FirstIs.rest {f sl : VAddr} {rest fx : List (Addr × Obj)} (x : FirstIs f sl rest fx) : ∀ p ∈ rest, p ∈ fx := by
  obtain ⟨_, _, _, _, _, _, _, _, _, _, _, rfl⟩ := x
  exact fun p hp => .tail _ (.tail _ (.tail _ (.tail _ (.tail _ hp))))
def CtlS (prog : Program) (w : World) (m₀ : Str → Option Value) (b Dl r d kd : Addr) (ws : List Value) (rest : List (Addr × Obj)) (client : Bool) (tp : VTok) (mv : Value) (t1 t2 t3 t4 t5 : VTok) (m : Str → Option Value) (nx : List (Addr × Obj)) : Prop :=
  ∃ (i x : Int) (ti tx : VTok) (ko : Obj) (g t : Option Int) (gv tv gv' tv' : Value) (f sl : VAddr) (fx : List (Addr × Obj)),
    m (Str.ofString "first") = some (.ref f) ∧ (∀ z, z ≠ Str.ofString "first" → ctlStored.contains z = false → m z = m₀ z) ∧
    nx = (kd, ko) :: (r, instObj 88 d) :: (d, rulesD w t1 t2 t3 t4 t5 (.str (peerOf client) tp) mv (.ref sl) gv tv) :: (b, W.listOf #[.ref Dl, .int i ti, .int x tx] 0) :: (Dl, W.listOf ws.toArray 0) :: fx ∧ FirstIs f sl rest fx ∧
    KnownIs prog w ko (.bool true) gv' tv' ∧ OptIs gv g ∧ OptIs tv t ∧ OptIs gv' g ∧ OptIs tv' t ∧ 0 ≤ i ∧ 0 ≤ x ∧ x < 4294967296 ∧ (∀ p ∈ fx, p.1 ≠ b) ∧ (∀ p ∈ fx, p.1 ≠ d) ∧ (∀ p ∈ fx, p.1 ≠ kd)
def CtlJ (prog : Program) (w : World) (m₀ : Str → Option Value) (b Dl r d kd : Addr) (ws : List Value) (rest : List (Addr × Obj)) (client : Bool) (tp : VTok) (mv : Value) (t1 t2 t3 t4 t5 : VTok) : Nat → (Str → Option Value) → List (Addr × Obj) → Prop
  | 0, m, nx => m = m₀ ∧ ∃ (i x : Int) (ti tx : VTok) (ko : Obj), nx = (kd, ko) :: (r, instObj 88 d) :: (d, rulesD w t1 t2 t3 t4 t5 (.str (peerOf client) tp) mv .none .none .none) :: (b, W.listOf #[.ref Dl, .int i ti, .int x tx] 0) :: (Dl, W.listOf ws.toArray 0) :: rest ∧
      KnownIs prog w ko (.bool false) .none .none ∧ 0 ≤ i ∧ 0 ≤ x ∧ x < 4294967296
  | _ + 1, m, nx => CtlS prog w m₀ b Dl r d kd ws rest client tp mv t1 t2 t3 t4 t5 m nx
theorem ctl_succ {prog : Program} {w : World} {m₀ : Str → Option Value} {b Dl r d kd : Addr} {ws : List Value} {rest : List (Addr × Obj)} {client : Bool} {tp : VTok} {mv : Value} {t1 t2 t3 t4 t5 : VTok} {m : Str → Option Value} {nx : List (Addr × Obj)} {n : Nat}
    (h : CtlJ prog w m₀ b Dl r d kd ws rest client tp mv t1 t2 t3 t4 t5 (1 + n) m nx) : CtlS prog w m₀ b Dl r d kd ws rest client tp mv t1 t2 t3 t4 t5 m nx := by
  rw [Nat.add_comm] at h
  exact h
theorem handed_opt {v : Value} {g : Option Int} (h : OptIs v g) : handedIn v = true := by cases h <;> rfl
theorem eq_opt {prog : Program} {w : World} {A : Around} {E : Value → Shared → Prop} {s : Shared} {v v' : Value} {g : Option Int} {Q : Value → Shared → Prop} (h : OptIs v g) (h' : OptIs v' g) (k : Q (.bool true) s) : wpAny (model prog w) A (compareOp .Eq v v') Q E s := by
  cases h <;> cases h'
  · exact EqNone.eq_none_none k
  · exact eq_int (by simpa using k)
set_option maxHeartbeats 16000000 in
theorem control_spec {prog : Program} {w : World} {p : Program} {loose : List Str} {mean : ExcName → Option Value} {mg mb : Str → Option Value} {b Dl : Addr} {ws : List Value} {ns : List Int} {i x : Int} {ti tx : Tok} {rest : List (Addr × Obj)}
    {dp un : Nat} {gd : Option (List Code)} {cn : Str} {cs : Scope} {a : Addr} {ccd : Value} {cl : List (Str × Addr)} {outer : List Env} {A₀ : Around} {base h₀ : Heap} {L : Addr} {m : Str → Option Value} {s : Shared} {Q E : Value → Shared → Prop} (B : Below A₀ base outer h₀) (F : Fr h₀ L s.heap m) (X : (Mine.hd.heap_39 w.params).In h₀) (XB : (Mine.hd.heap_39 w.params).In base) (TB : Top p loose mean mg mb base) (D : KtsDicts (outer.filterMap (·.frame)) h₀)
    (N : News h₀ L s.heap ((b, W.listOf #[.ref Dl, .int i ti, .int x tx] 0) :: (Dl, W.listOf ws.toArray 0) :: rest))
    (T : Top p loose mean mg mb h₀) (hk : cs.kind = .function)
    (hI : IntsAre ws ns) (hn : ns.length ≤ 40) (hi : 0 ≤ i) (hx : 0 ≤ x) (hx2 : x < 4294967296) (hbD : b ≠ Dl) (hoff : ∀ p ∈ rest, p.1 ≠ b)
    (hd : dp + 13 < recursionLimit) (hu : un + 128 < cLine)
    (hret : ∀ (h₁ : Heap) (i' x' : Int) (ti' tx' : VTok) (h' : Heap) (tk' : Nat), KtsTurn (outer.filterMap (·.frame)) h₀ h₁ → Below A₀ base outer h₁ → (Mine.hd.heap_39 w.params).In h₁ → Top p loose mean mg mb h₁ → KtsDicts (outer.filterMap (·.frame)) h₁ → Fr h₁ L h' m → News h₁ L h' ((b, W.listOf #[.ref Dl, .int i' ti', .int x' tx'] 0) :: (Dl, W.listOf ws.toArray 0) :: rest) → 0 ≤ i' → 0 ≤ x' → x' < 4294967296 → Q (.bool true) { s with heap := h', toks := tk' }) :
    wpAny (model prog w) (ktrTop dp un gd cn cs L a ccd cl outer) (call (.ref 183) [.ref b]) Q E s := by
  refine wpAny_call ?_
  replace hbD := neN hbD
  ((k_dflt (refine' code_defE ?B ?F ?X ?N ?T ?XB ?TB ?D KtsTurn.refl rfl rfl ?hk ?k6 ?k7 ?k8 ?k9 ?kB ?_ ?c2 ?c3 ?c4 ?c5; (case B => assumption); (case F => assumption); (case X => assumption); (case N => assumption); (case T => assumption); (case XB => assumption); (case TB => assumption); (case D => assumption); (case hk => assumption); (case k6 => k_is); (case k7 => k_is); (case k8 => ktr_room); (case k9 => exact BindsTo.of_eq rfl); (case kB => exact locs rfl); (case c2 => exact rfl); (case c3 => exact rfl); (case c4 => exact rfl); (case c5 => decide); k_whole); intro g' L' h' FG' F' N' B' X' T' D'; (try dsimp only); (try k_lift B'); (try k_fold)))
  refine gen_qn ?_
  intro QF hQF
  k_steps
  (refine Stop.in ?_; (k_dflt (refine' take_spec ?B ?F ?X ?N ?T ?hk ?hI ?hn ?hi ?hx ?hx2 ?hm ?hm2 ?hbD ?hoff ?hd ?hu ?_; (case B => k_asm); (case F => k_asm); (case X => k_asm); (case N => first | k_asm | exact news_pull [_] (by k_asm) | exact news_pull [_, _] (by k_asm) | exact news_pull [_, _, _] (by k_asm) | exact news_pull [_, _, _, _] (by k_asm) | exact news_pull [_, _, _, _, _] (by k_asm) | exact news_pull [_, _, _, _, _, _] (by k_asm) | exact news_pull [_, _, _, _, _, _, _] (by k_asm) | exact news_pull [_, _, _, _, _, _, _, _] (by k_asm) | exact news_pull [_, _, _, _, _, _, _, _, _] (by k_asm) | exact news_pull [_, _, _, _, _, _, _, _, _, _] (by k_asm) | exact news_pull [_, _, _, _, _, _, _, _, _, _, _] (by k_asm) | exact news_pull [_, _, _, _, _, _, _, _, _, _, _, _] (by k_asm) | exact news_pull [_, _, _, _, _, _, _, _, _, _, _, _, _] (by k_asm) | exact news_pull [_, _, _, _, _, _, _, _, _, _, _, _, _, _] (by k_asm) | exact news_pull [_, _, _, _, _, _, _, _, _, _, _, _, _, _, _] (by k_asm) | exact news_pull [_, _, _, _, _, _, _, _, _, _, _, _, _, _, _, _] (by k_asm)); (case T => k_asm); (case hk => first | exact rfl | assumption); (case hI => assumption); (case hn => assumption); (case hi => first | assumption | decide); (case hx => first | assumption | decide); (case hx2 => first | assumption | decide); (case hm => first | decide | assumption); (case hm2 => first | decide | assumption); (case hbD => first | assumption | k_ne); (case hoff => simp only [List.cons_append, List.nil_append]; (repeat' (first | assumption | exact List.forall_mem_nil _ | (refine List.forall_mem_cons.mpr ⟨?_, ?_⟩) | k_ne))); (case hd => ktr_room); (case hu => ktr_units); k_whole)); intro r' i' x' tr' ti' tx' h' tk' hr0' hr1' hi0' hx0' hx1' F' N'; (try dsimp only [List.cons_append, List.nil_append] at N'); (try dsimp only))
  k_steps
  refine Stop.in ?_
  (rename News _ _ _ _ => nL)
  k_dflt (refine' sub_peer nL ?m hr0' hr1' ?_)
  case m => k_memK
  intro client tp
  k_steps
  (refine Stop.in ?_; (k_dflt (refine' take_spec ?B ?F ?X ?N ?T ?hk ?hI ?hn ?hi ?hx ?hx2 ?hm ?hm2 ?hbD ?hoff ?hd ?hu ?_; (case B => k_asm); (case F => k_asm); (case X => k_asm); (case N => first | k_asm | exact news_pull [_] (by k_asm) | exact news_pull [_, _] (by k_asm) | exact news_pull [_, _, _] (by k_asm) | exact news_pull [_, _, _, _] (by k_asm) | exact news_pull [_, _, _, _, _] (by k_asm) | exact news_pull [_, _, _, _, _, _] (by k_asm) | exact news_pull [_, _, _, _, _, _, _] (by k_asm) | exact news_pull [_, _, _, _, _, _, _, _] (by k_asm) | exact news_pull [_, _, _, _, _, _, _, _, _] (by k_asm) | exact news_pull [_, _, _, _, _, _, _, _, _, _] (by k_asm) | exact news_pull [_, _, _, _, _, _, _, _, _, _, _] (by k_asm) | exact news_pull [_, _, _, _, _, _, _, _, _, _, _, _] (by k_asm) | exact news_pull [_, _, _, _, _, _, _, _, _, _, _, _, _] (by k_asm) | exact news_pull [_, _, _, _, _, _, _, _, _, _, _, _, _, _] (by k_asm) | exact news_pull [_, _, _, _, _, _, _, _, _, _, _, _, _, _, _] (by k_asm) | exact news_pull [_, _, _, _, _, _, _, _, _, _, _, _, _, _, _, _] (by k_asm)); (case T => k_asm); (case hk => first | exact rfl | assumption); (case hI => assumption); (case hn => assumption); (case hi => first | assumption | decide); (case hx => first | assumption | decide); (case hx2 => first | assumption | decide); (case hm => first | decide | assumption); (case hm2 => first | decide | assumption); (case hbD => first | assumption | k_ne); (case hoff => simp only [List.cons_append, List.nil_append]; (repeat' (first | assumption | exact List.forall_mem_nil _ | (refine List.forall_mem_cons.mpr ⟨?_, ?_⟩) | k_ne))); (case hd => ktr_room); (case hu => ktr_units); k_whole)); intro r' i' x' tr' ti' tx' h' tk' hr0' hr1' hi0' hx0' hx1' F' N'; (try dsimp only [List.cons_append, List.nil_append] at N'); (try dsimp only))
  k_steps
  refine Stop.in ?_
  (rename News _ _ _ _ => nL)
  k_dflt (refine' sub_opt nL ?m hr0' hr1' ?_)
  case m => k_memK
  intro mv most hmo
  k_steps
  refine Stop.in ?_
  (rename News _ _ _ _ => nL)
  k_dflt (refine' mk_ctl (rest := (b, _) :: (Dl, _) :: rest) ?B ?F ?X (kst_newsOf nL ?m) ?T ?hk ?hd ?hu ?_)
  case B => assumption
  case F => assumption
  case X => assumption
  case m => kst_allIn
  case T => assumption
  case hk => exact rfl
  case hd => ktr_room
  case hu => ktr_units
  intro r d t1 t2 t3 t4 t5 h1 tk1 F1 N1 lD1 lR1
  clear nL
  obtain ⟨nbd, nDd, nRd⟩ := lD1
  have nrd : @Ne Nat r d := Nat.ne_of_gt lR1
  have nbr : @Ne Nat b r := Nat.ne_of_lt (Nat.lt_trans nbd lR1)
  replace nbd := Nat.ne_of_lt nbd
  replace nDd := Nat.ne_of_lt nDd
  have nRd' := allLt_ne nRd (fun _ h => h)
  k_steps
  have nbk : @Ne Nat b h1.objs.size := by k_ne
  have nDk : @Ne Nat Dl h1.objs.size := by k_ne
  have nrk : @Ne Nat r h1.objs.size := by k_ne
  have ndk : @Ne Nat d h1.objs.size := by k_ne
  have nRk : ∀ p ∈ rest, p.1 ≠ h1.objs.size := by k_all
  (refine Stop.in ?_; (k_dflt (refine' take_spec ?B ?F ?X ?N ?T ?hk ?hI ?hn ?hi ?hx ?hx2 ?hm ?hm2 ?hbD ?hoff ?hd ?hu ?_; (case B => k_asm); (case F => k_asm); (case X => k_asm); (case N => first | k_asm | exact news_pull [_] (by k_asm) | exact news_pull [_, _] (by k_asm) | exact news_pull [_, _, _] (by k_asm) | exact news_pull [_, _, _, _] (by k_asm) | exact news_pull [_, _, _, _, _] (by k_asm) | exact news_pull [_, _, _, _, _, _] (by k_asm) | exact news_pull [_, _, _, _, _, _, _] (by k_asm) | exact news_pull [_, _, _, _, _, _, _, _] (by k_asm) | exact news_pull [_, _, _, _, _, _, _, _, _] (by k_asm) | exact news_pull [_, _, _, _, _, _, _, _, _, _] (by k_asm) | exact news_pull [_, _, _, _, _, _, _, _, _, _, _] (by k_asm) | exact news_pull [_, _, _, _, _, _, _, _, _, _, _, _] (by k_asm) | exact news_pull [_, _, _, _, _, _, _, _, _, _, _, _, _] (by k_asm) | exact news_pull [_, _, _, _, _, _, _, _, _, _, _, _, _, _] (by k_asm) | exact news_pull [_, _, _, _, _, _, _, _, _, _, _, _, _, _, _] (by k_asm) | exact news_pull [_, _, _, _, _, _, _, _, _, _, _, _, _, _, _, _] (by k_asm)); (case T => k_asm); (case hk => first | exact rfl | assumption); (case hI => assumption); (case hn => assumption); (case hi => first | assumption | decide); (case hx => first | assumption | decide); (case hx2 => first | assumption | decide); (case hm => first | decide | assumption); (case hm2 => first | decide | assumption); (case hbD => first | assumption | k_ne); (case hoff => simp only [List.cons_append, List.nil_append]; (repeat' (first | assumption | exact List.forall_mem_nil _ | (refine List.forall_mem_cons.mpr ⟨?_, ?_⟩) | k_ne))); (case hd => ktr_room); (case hu => ktr_units); k_whole)); intro r' i' x' tr' ti' tx' h' tk' hr0' hr1' hi0' hx0' hx1' F' N'; (try dsimp only [List.cons_append, List.nil_append] at N'); (try dsimp only))
  k_steps
  refine Stop.in ?_
  (rename News _ _ _ _ => nL); (rename Fr _ _ _ _ => fL); (rename IsRange _ _ _ _ _ _ _ _ => rgX)
  have nP := ctl_packN nL
  clear nL
  refine rng_loop (CtlJ prog w _ b Dl r d h1.objs.size ws rest client tp mv t1 t2 t3 t4 t5) rfl rgX (rng_small (by assumption) (by assumption)) (rng_size (by assumption) (by assumption)) fL nP ⟨rfl, _, _, _, _, _, rfl, (by assumption), (by assumption), (by assumption), (by assumption)⟩ (fun iN k t m₁ nx h2 tk2 I oI hkI hin hJ FJ NJ hI1 => ?_) (fun m₁ nx h2 tk2 hJ FJ NJ => ?_)
  · replace FJ : Fr g' L' h2 _ := FJ
    replace NJ : News g' L' h2 _ := NJ
    cases iN with
    | zero =>
      obtain ⟨rfl, i2, x2, ti2, tx2, ko2, rfl, hK2, hi2, hx3, hx4⟩ := hJ
      obtain rfl : k = 0 := by omega
      simp only [List.forall_mem_cons] at hI1
      obtain ⟨nkI, nrI, ndI, nbI, nDI, nRI⟩ := hI1
      replace nkI := neN nkI; replace nrI := neN nrI; replace ndI := neN ndI; replace nbI := neN nbI; replace nDI := neN nDI
      refine gen_qn ?_
      intro QT hQT
      k_steps
      refine Stop.in ?_
      k_dflt (refine' frame_first B' (by assumption) X' (news_pull [_, _, _, _] NJ) T' ?hk (by assumption) (by assumption) hi2 hx3 hx4 hbD ?hoff rfl ?hd ?hu ?_)
      case hk => exact rfl
      case hoff => simp only [List.cons_append, List.nil_append]; (repeat' (first | assumption | exact List.forall_mem_nil _ | (refine List.forall_mem_cons.mpr ⟨?_, ?_⟩) | k_ne))
      case hd => ktr_room
      case hu => ktr_units
      intro cf fl f i3 x3 ti3 tx3 h3 tk3 hfl hor F3 N3 hlt hi3 hx5 hx6
      rcases hor with ⟨y1, y2, rfl⟩ | ⟨y1, rfl⟩
      · obtain ⟨ls, p1, p2, u0, u1, u2, u3, u4, rfl⟩ := hfl
        simp only [List.cons_append, List.nil_append] at N3 hlt
        simp only [List.forall_mem_cons] at hlt
        obtain ⟨hf, hls, hp2, hp1, -⟩ := hlt
        replace hf : AllLt f _ := hf
        replace hls : AllLt ls _ := hls
        replace hp2 : AllLt p2 _ := hp2
        replace hp1 : AllLt p1 _ := hp1
        k_steps
        refine Stop.in ?_
        (rename News _ _ _ _ => nL)
        k_dflt (refine' due0_settings (fl := [_, _, _, _]) B' (by assumption) X' (ctl_pd0 nL) (by assumption) ⟨_, _, _, _, _, _, _, _, rfl⟩ ?hne T' ?hk ?hd ?hu ?_)
        case hne => simp only [List.cons_append, List.nil_append]; (repeat' (first | assumption | exact List.forall_mem_nil _ | (refine List.forall_mem_cons.mpr ⟨?_, ?_⟩) | k_ne))
        case hk => exact rfl
        case hd => ktr_room
        case hu => ktr_units
        intro ko3 h4 tk4 F4 N4 hK4
        simp only [List.cons_append, List.nil_append] at N4
        clear hK2 nL
        (try dsimp only)
        k_steps
        refine Stop.in ?_
        (rename News _ _ _ _ => nL)
        k_dflt (refine' code0_settings B' (by assumption) X' XB TB D' (ctl_pc0 nL) ?hqd ?hrd ?hne T' ?hk ?hd ?hu ?_)
        case hqd => k_ne
        case hrd => k_ne
        case hne => (repeat' (first | assumption | exact List.forall_mem_nil _ | (refine List.forall_mem_cons.mpr ⟨?_, ?_⟩) | k_ne))
        case hk => exact rfl
        case hd => ktr_room
        case hu => ktr_units
        intro sl tup nn tg h5 tk5 F5 N5 hA5
        clear nL
        (try dsimp only)
        k_steps
        subst hQT
        dsimp only [RngPost]
        (rename Fr _ _ _ _ => fL2); (rename News _ _ _ _ => nL2)
        refine ⟨_, _, _, _, rfl, fL2, ctl_pe nL2, ?_, ⟨_, _, _, _, _, none, none, _, _, _, _, f, sl, _, (by with_unfolding_all rfl), ctl_map, rfl, ⟨ls, p1, p2, y1, y2, u0, u1, u2, u3, u4, nn, rfl⟩, hK4, .none, .none, .none, .none, hi3, hx5, hx6, ?_, ?_, ?_⟩⟩
        all_goals (clear nL2; (repeat' (first | assumption | exact List.forall_mem_nil _ | (refine List.forall_mem_cons.mpr ⟨?_, ?_⟩) | k_ne)))
      · obtain ⟨u0, u1, rfl⟩ := hfl
        simp only [List.cons_append, List.nil_append] at N3 hlt
        simp only [List.forall_mem_cons] at hlt
        obtain ⟨hf, -⟩ := hlt
        replace hf : AllLt f _ := hf
        k_steps
        refine Stop.in ?_
        (rename News _ _ _ _ => nL)
        k_dflt (refine' due0_goaway (fl := [_]) B' (by assumption) X' (ctl_pd1 nL) (by assumption) ⟨_, _, rfl⟩ ?hne T' ?hk ?hd ?hu ?_)
        case hne => simp only [List.cons_append, List.nil_append]; (repeat' (first | assumption | exact List.forall_mem_nil _ | (refine List.forall_mem_cons.mpr ⟨?_, ?_⟩) | k_ne))
        case hk => exact rfl
        case hd => ktr_room
        case hu => ktr_units
        intro tc4 h4 tk4 F4 N4
        simp only [List.cons_append, List.nil_append] at N4
        clear nL
        (try dsimp only)
        k_steps
        refine Stop.in ?_
        (rename News _ _ _ _ => nL)
        k_dflt (refine' code0_goaway B' (by assumption) X' XB TB D' (ctl_pc1 nL) ?hqd ?hrd ?hne T' ?hk ?hd ?hu ?_)
        case hqd => k_ne
        case hrd => k_ne
        case hne => (repeat' (first | assumption | exact List.forall_mem_nil _ | (refine List.forall_mem_cons.mpr ⟨?_, ?_⟩) | k_ne))
        case hk => exact rfl
        case hd => ktr_room
        case hu => ktr_units
        intro h₁ tup tg tc h5 tk5 K5 B5 X5 T5 D5 F5 N5
        clear nL
        (try dsimp only)
        k_steps
        subst hQT
        dsimp only [RngPost]
        subst hQF
        (try dsimp only)
        k_steps
        (rename News _ _ _ _ => nL2)
        exact hret _ _ _ _ _ _ _ (by assumption) (by assumption) (by assumption) (by assumption) (by assumption) (by assumption) (kst_newsOf nL2 (by kst_allIn)) hi3 hx5 hx6
    | succ iN =>
      obtain ⟨i2, x2, ti2, tx2, ko2, g2, t2', gv2, tv2, gw2, tw2, f, sl, fx, hf1, hfm, rfl, hfst, hK2, hg2, ht2, hgw2, htw2, hi2, hx3, hx4, xb, xd, xk⟩ := hJ
      rw [map_first hf1 hfm] at FJ
      have hat : 0 < k := by omega
      simp only [List.forall_mem_cons] at hI1
      obtain ⟨nkI, nrI, ndI, nbI, nDI, nXI⟩ := hI1
      replace nkI := neN nkI; replace nrI := neN nrI; replace ndI := neN ndI; replace nbI := neN nbI; replace nDI := neN nDI
      refine gen_qn ?_
      intro QT hQT
      k_steps
      refine Stop.in ?_
      k_dflt (refine' frame_later B' (by assumption) X' (news_pull [_, _, _, _] NJ) T' ?hk (by assumption) (by assumption) hi2 hx3 hx4 hbD ?hoff hat ?hd ?hu ?_)
      case hk => exact rfl
      case hoff => simp only [List.cons_append, List.nil_append]; (repeat' (first | assumption | exact List.forall_mem_nil _ | (refine List.forall_mem_cons.mpr ⟨?_, ?_⟩) | k_ne))
      case hd => ktr_room
      case hu => ktr_units
      intro cf fl f' i3 x3 ti3 tx3 h3 tk3 hfl F3 N3 hlt hi3 hx5 hx6
      obtain ⟨tl, N4, hfs, hxs, hob, hod, hok⟩ := ctl_tailN N3 hlt rfl rfl rfl xb xd xk
      clear N3 hlt NJ
      (try dsimp only)
      k_steps
      refine Stop.in ?_
      (rename News _ _ _ _ => nL)
      k_dflt (refine' due_any (client := _) B' (by assumption) X' (ctl_pk nL) hK2 hgw2 htw2 (by assumption) hfl ?hsub ?hne T' ?hk ?hd ?hu ?_)
      case hsub => intro q hq; (repeat (refine List.Mem.tail _ ?_)); exact hfs q hq
      case hne => (repeat' (first | assumption | exact List.forall_mem_nil _ | (refine List.forall_mem_cons.mpr ⟨?_, ?_⟩) | k_ne))
      case hk => exact rfl
      case hd => ktr_room
      case hu => ktr_units
      intro v gw3 tw3 du g3 t3' ko3 h4 tk4 F4 N4 hK4 hv hgw3 htw3 hdue
      clear nL
      (try dsimp only)
      k_steps
      refine Stop.in ?_
      (rename News _ _ _ _ => nL)
      k_dflt (refine' code_any B' (by assumption) X' XB TB D' (ctl_pk2 nL) hg2 ht2 (by assumption) hfl ?hsub ?hqd ?hrd ?hne T' ?hk ?hd ?hu ?_ ?_)
      case hsub => intro q hq; (repeat (refine List.Mem.tail _ ?_)); exact hfs q hq
      case hqd => k_ne
      case hrd => k_ne
      case hne => (repeat' (first | assumption | exact List.forall_mem_nil _ | (refine List.forall_mem_cons.mpr ⟨?_, ?_⟩) | k_ne))
      case hk => exact rfl
      case hd => ktr_room
      case hu => ktr_units
      · intro gv3 tv3 g4 t4' tup tg h5 tk5 hcd hg3 ht3 F5 N5
        rw [hdue] at hcd
        cases hcd
        cases hv
        clear nL
        (try dsimp only)
        k_steps
        · exfalso; omega
        subst hQT
        dsimp only [RngPost]
        (rename Fr _ _ _ _ => fL2); (rename News _ _ _ _ => nL2)
        refine ⟨_, _, _, _, rfl, fL2, ctl_peN nL2 hxs, ?_, ⟨_, _, _, _, _, _, _, _, _, _, _, f, sl, fx, (by with_unfolding_all rfl), ctl_map2, rfl, hfst, hK4, hg3, ht3, hgw3, htw3, hi3, hx5, hx6, xb, xd, xk⟩⟩
        clear nL2; (repeat' (first | assumption | exact List.forall_mem_nil _ | (refine List.forall_mem_cons.mpr ⟨?_, ?_⟩) | k_ne))
      · intro c h₁ tup tg tc h5 tk5 hcd K5 B5 X5 T5 D5 F5 N5
        rw [hdue] at hcd
        cases hcd
        cases hv
        clear nL
        (try dsimp only)
        k_steps
        subst hQT
        dsimp only [RngPost]
        subst hQF
        (try dsimp only)
        k_steps
        (rename News _ _ _ _ => nL2)
        exact hret _ _ _ _ _ _ _ (by assumption) (by assumption) (by assumption) (by assumption) (by assumption) (by assumption) (ctl_pendN nL2 hxs hfst.rest) hi3 hx5 hx6
  · replace hJ := ctl_succ hJ
    obtain ⟨i2, x2, ti2, tx2, ko2, g2, t2', gv2, tv2, gw2, tw2, f, sl, fx, hf1, hfm, rfl, hfst, hK2, hg2, ht2, hgw2, htw2, hi2, hx3, hx4, xb, xd, xk⟩ := hJ
    obtain ⟨ls, p1, p2, y1, y2, u0, u1, u2, u3, u4, nn, rfl⟩ := hfst
    replace FJ : Fr g' L' h2 _ := FJ
    replace NJ : News g' L' h2 _ := NJ
    rw [map_end hf1 hfm] at FJ
    dsimp only
    k_steps
    (refine Stop.in ?_; (k_dflt (refine' setting_6 ?B ?F ?X ?N ?m ?T ?hk ?hd ?hu ?_; (case B => k_asm); (case F => k_asm); (case X => k_asm); (case N => k_asm); (case m => kst_allIn); (case T => k_asm); (case hk => first | exact rfl | assumption); (case hd => ktr_room); (case hu => ktr_units); k_whole)); intro tk' h' F' N')
    k_steps
    (refine Stop.in ?_; (k_dflt (refine' setting_1 ?B ?F ?X ?N ?m ?T ?hk ?hd ?hu ?_; (case B => k_asm); (case F => k_asm); (case X => k_asm); (case N => k_asm); (case m => kst_allIn); (case T => k_asm); (case hk => first | exact rfl | assumption); (case hd => ktr_room); (case hu => ktr_units); k_whole)); intro tk' h' F' N')
    k_steps
    (refine Stop.in ?_; (k_dflt (refine' setting_7 ?B ?F ?X ?N ?m ?T ?hk ?hd ?hu ?_; (case B => k_asm); (case F => k_asm); (case X => k_asm); (case N => k_asm); (case m => kst_allIn); (case T => k_asm); (case hk => first | exact rfl | assumption); (case hd => ktr_room); (case hu => ktr_units); k_whole)); intro tk' h' F' N')
    k_steps
    refine Stop.in ?_
    (rename Fr _ _ _ _ => fL3); (rename News _ _ _ _ => nL3)
    obtain ⟨hz, hZ, nL4⟩ := ctl_pt nL3
    refine tup_loop rfl fL3 nL4 (fun v h5 tk5 I5 oI5 hv FJ5 NJ5 hlt5 => ?_) (fun m5 h5 tk5 hm5 FJ5 NJ5 => ?_)
    · replace FJ5 : Fr g' L' h5 _ := FJ5
      replace NJ5 : News g' L' h5 _ := NJ5
      clear nL3 nL4
      obtain ⟨nv, tv5, rfl⟩ : ∃ n t, v = Value.int n t := by
        simp only [List.mem_cons, List.not_mem_nil, or_false] at hv
        rcases hv with rfl | rfl | rfl | rfl | rfl <;> exact ⟨_, _, rfl⟩
      refine gen_qn ?_
      intro QT hQT
      cases hg2 <;> cases hgw2
      all_goals k_steps
      all_goals first
        | (rename (_ != _) = true => hq; simp at hq; done)
        | (subst hQT; dsimp only [TupPost]; (rename Fr _ _ _ _ => fL9); (rename News _ _ _ _ => nL9); exact ⟨_, _, _, rfl, fL9, nL9, fun z hz => if_neg hz⟩)
    · replace FJ5 : Fr g' L' h5 _ := FJ5
      replace NJ5 : News g' L' h5 _ := NJ5
      rw [map_same hm5] at FJ5
      dsimp only
      k_steps
      refine eq_opt hg2 hgw2 ?_
      k_steps
      refine eq_opt ht2 htw2 ?_
      k_steps
      subst hQF
      (try dsimp only)
      k_steps
      subst hZ
      (rename Fr _ _ _ _ => fL9); (rename News _ _ _ _ => nL9)
      exact hret _ _ _ _ _ _ _ KtsTurn.refl B X T D fL9 (kst_newsOf nL9 (by kst_allIn)) hi2 hx3 hx4
end Q2
theorem said_Q9 : True := by
  k_with_none
  k_with "k_room" => ktr_room
  k_with "k_units" => ktr_units
  k_with "k_all" => (first | assumption | exact allLt_ne (by assumption) (by intro q hq; repeat (first | exact hq | refine List.Mem.tail _ ?_)))
  k_with "k_ne" => (refine neN ?_; (try dsimp only); first | assumption | exact Ne.symm (by assumption) | exact Nat.ne_of_gt (allLt_at (by assumption) (by k_mem)) | exact Nat.ne_of_lt (allLt_at (by assumption) (by k_mem)) | omega)
  k_with "call ref" => (k_here; refine stop_call (by decide) ?_)
  k_with "execs cons" => (k_here; (with_reducible show wpAny _ _ _ _ _ (Shared.mk _ _ _ (_ + 1) _)); refine gen_toks ?_; intro tk)
  k_with "execs nil" => (k_here; (with_reducible show wpAny _ _ _ _ _ (Shared.mk _ _ _ (_ + 1) _)); refine gen_toks ?_; intro tk)
  k_with "exec For Name Call cons nil" => (k_here; (rename Fr _ _ _ _ => lF'); (with_unfolding_all refine' For_invVF lF' ?k1 ?k2 ?_; (case k1 => exact rfl); (case k2 => exact rfl); k_whole))
  k_with "pyIter ref" => ((with_reducible show wpAny _ _ (pyIter (Value.ref _)) (fun it s₂ => LoopAtV _ _ _ _ _ _ _ _ _ it s₂) _ _); refine Stop.out ?_)
  k_with "subscriptTail" => (k_here; refine Stop.out ?_)
  k_with "eval Lambda" => (k_here; refine Stop.out ?_)
  trivial
section Q9
theorem msg_core {h₀ h : Heap} {L : Addr} {b D r d c1 c2 P : Addr × Obj} (N : News h₀ L h (b :: D :: r :: d :: c1 :: c2 :: P :: [])) : News h₀ L h (c1 :: c2 :: r :: d :: b :: D :: P :: []) := kst_newsOf N (by kst_allIn)
set_option maxHeartbeats 32000000 in
theorem message_spec {prog : Program} {w : World} {p : Program} {loose : List Str} {mean : ExcName → Option Value} {mg mb : Str → Option Value} {b Dl P : Addr} {ws : List Value} {ns : List Int} {i x : Int} {ti tx : Tok} {rest : List (Addr × Obj)}
    {dp un : Nat} {gd : Option (List Code)} {cn : Str} {cs : Scope} {a : Addr} {ccd : Value} {cl : List (Str × Addr)} {outer : List Env} {A₀ : Around} {base h₀ : Heap} {L : Addr} {m : Str → Option Value} {s : Shared} {Q E : Value → Shared → Prop} (B : Below A₀ base outer h₀) (F : Fr h₀ L s.heap m) (X : (Mine.hd.heap_39 w.params).In h₀) (XB : (Mine.hd.heap_39 w.params).In base) (TB : Top p loose mean mg mb base) (D : KtsDicts (outer.filterMap (·.frame)) h₀)
    (N : News h₀ L s.heap ((b, W.listOf #[.ref Dl, .int i ti, .int x tx] 0) :: (Dl, W.listOf ws.toArray 0) :: (P, tabObj #[]) :: rest)) (C : CodeHd base 196 P)
    (T : Top p loose mean mg mb h₀) (hk : cs.kind = .function)
    (hI : IntsAre ws ns) (hn : ns.length ≤ 40) (hi : 0 ≤ i) (hx : 0 ≤ x) (hx2 : x < 4294967296) (hbD : b ≠ Dl) (hbP : b ≠ P) (hDP : Dl ≠ P)
    (hd : dp + 13 < recursionLimit) (hu : un + 128 < cLine)
    (hret : ∀ (h₁ : Heap) (ps : Array Value) (h' : Heap) (tk' : Nat), KtsTurn (outer.filterMap (·.frame)) h₀ h₁ → Below A₀ base outer h₁ → (Mine.hd.heap_39 w.params).In h₁ → Top p loose mean mg mb h₁ → KtsDicts (outer.filterMap (·.frame)) h₁ → Fr h₁ L h' m → News h₁ L h' [(P, tabObj ps)] → Q (.bool true) { s with heap := h', toks := tk' }) :
    wpAny (model prog w) (ktrTop dp un gd cn cs L a ccd cl outer) (call (.ref 197) [.ref b]) Q E s := by
  refine wpAny_call ?_
  replace N := kst_newsOf (l' := [(b, W.listOf #[.ref Dl, .int i ti, .int x tx] 0), (Dl, W.listOf ws.toArray 0), (P, tabObj #[])]) N (by kst_allIn)
  replace hbD := neN hbD
  replace hbP := neN hbP
  replace hDP := neN hDP
  ((k_dflt (refine' code_cellsE ?B ?F ?X ?N ?T ?XB ?TB ?D KtsTurn.refl rfl rfl ?hk ?k6 ?k7 ?k8 ?k9 ?kB ?kD ?_ ?c2 ?c3 ?c4; (case B => assumption); (case F => assumption); (case X => assumption); (case N => assumption); (case T => assumption); (case XB => assumption); (case TB => assumption); (case D => assumption); (case hk => assumption); (case k6 => k_is); (case k7 => k_is); (case k8 => ktr_room); (case k9 => exact BindsTo.of_eq rfl); (case kB => exact rfl); (case kD => decide +kernel); (case c2 => exact rfl); (case c3 => exact rfl); (case c4 => exact rfl); k_whole); intro g' L' h' tk' cells' FG' F' N' Y' B' X' T' D' l1; (try k_lt l1); k_cells Y'; (try simp only [List.cons_append, List.nil_append] at N'); (try dsimp only); (try k_lift B'); (try k_fold)))
  obtain ⟨lb, lDl, lP, -⟩ := l1
  refine gen_qn ?_
  intro QF hQF
  have nc12 : @Ne Nat (L' + 1 + 1) (L' + 1) := Nat.succ_ne_self _
  have nbc2 : @Ne Nat b (L' + 1) := Nat.ne_of_lt (Nat.lt_succ_of_lt lb)
  have nbc1 : @Ne Nat b (L' + 1 + 1) := Nat.ne_of_lt (Nat.lt_succ_of_lt (Nat.lt_succ_of_lt lb))
  have nDc2 : @Ne Nat Dl (L' + 1) := Nat.ne_of_lt (Nat.lt_succ_of_lt lDl)
  have nPc2 : @Ne Nat P (L' + 1) := Nat.ne_of_lt (Nat.lt_succ_of_lt lP)
  have nPc1 : @Ne Nat P (L' + 1 + 1) := Nat.ne_of_lt (Nat.lt_succ_of_lt (Nat.lt_succ_of_lt lP))
  have nDc1 : @Ne Nat Dl (L' + 1 + 1) := Nat.ne_of_lt (Nat.lt_succ_of_lt (Nat.lt_succ_of_lt lDl))
  k_steps
  (refine Stop.in ?_; (k_dflt (refine' take_spec ?B ?F ?X ?N ?T ?hk ?hI ?hn ?hi ?hx ?hx2 ?hm ?hm2 ?hbD ?hoff ?hd ?hu ?_; (case B => k_asm); (case F => k_asm); (case X => k_asm); (case N => first | k_asm | exact news_pull [_] (by k_asm) | exact news_pull [_, _] (by k_asm) | exact news_pull [_, _, _] (by k_asm) | exact news_pull [_, _, _, _] (by k_asm) | exact news_pull [_, _, _, _, _] (by k_asm) | exact news_pull [_, _, _, _, _, _] (by k_asm) | exact news_pull [_, _, _, _, _, _, _] (by k_asm) | exact news_pull [_, _, _, _, _, _, _, _] (by k_asm) | exact news_pull [_, _, _, _, _, _, _, _, _] (by k_asm) | exact news_pull [_, _, _, _, _, _, _, _, _, _] (by k_asm) | exact news_pull [_, _, _, _, _, _, _, _, _, _, _] (by k_asm) | exact news_pull [_, _, _, _, _, _, _, _, _, _, _, _] (by k_asm) | exact news_pull [_, _, _, _, _, _, _, _, _, _, _, _, _] (by k_asm) | exact news_pull [_, _, _, _, _, _, _, _, _, _, _, _, _, _] (by k_asm) | exact news_pull [_, _, _, _, _, _, _, _, _, _, _, _, _, _, _] (by k_asm) | exact news_pull [_, _, _, _, _, _, _, _, _, _, _, _, _, _, _, _] (by k_asm)); (case T => k_asm); (case hk => first | exact rfl | assumption); (case hI => assumption); (case hn => assumption); (case hi => first | assumption | decide); (case hx => first | assumption | decide); (case hx2 => first | assumption | decide); (case hm => first | decide | assumption); (case hm2 => first | decide | assumption); (case hbD => first | assumption | k_ne); (case hoff => simp only [List.cons_append, List.nil_append]; (repeat' (first | assumption | exact List.forall_mem_nil _ | (refine List.forall_mem_cons.mpr ⟨?_, ?_⟩) | k_ne))); (case hd => ktr_room); (case hu => ktr_units); k_whole)); intro r0 i' x' tr' ti' tx' h' tk' hr0' hr1' hi0' hx0' hx1' F' N'; (try dsimp only [List.cons_append, List.nil_append] at N'); (try dsimp only))
  k_steps
  (refine Stop.in ?_; (k_dflt (refine' take_spec ?B ?F ?X ?N ?T ?hk ?hI ?hn ?hi ?hx ?hx2 ?hm ?hm2 ?hbD ?hoff ?hd ?hu ?_; (case B => k_asm); (case F => k_asm); (case X => k_asm); (case N => first | k_asm | exact news_pull [_] (by k_asm) | exact news_pull [_, _] (by k_asm) | exact news_pull [_, _, _] (by k_asm) | exact news_pull [_, _, _, _] (by k_asm) | exact news_pull [_, _, _, _, _] (by k_asm) | exact news_pull [_, _, _, _, _, _] (by k_asm) | exact news_pull [_, _, _, _, _, _, _] (by k_asm) | exact news_pull [_, _, _, _, _, _, _, _] (by k_asm) | exact news_pull [_, _, _, _, _, _, _, _, _] (by k_asm) | exact news_pull [_, _, _, _, _, _, _, _, _, _] (by k_asm) | exact news_pull [_, _, _, _, _, _, _, _, _, _, _] (by k_asm) | exact news_pull [_, _, _, _, _, _, _, _, _, _, _, _] (by k_asm) | exact news_pull [_, _, _, _, _, _, _, _, _, _, _, _, _] (by k_asm) | exact news_pull [_, _, _, _, _, _, _, _, _, _, _, _, _, _] (by k_asm) | exact news_pull [_, _, _, _, _, _, _, _, _, _, _, _, _, _, _] (by k_asm) | exact news_pull [_, _, _, _, _, _, _, _, _, _, _, _, _, _, _, _] (by k_asm)); (case T => k_asm); (case hk => first | exact rfl | assumption); (case hI => assumption); (case hn => assumption); (case hi => first | assumption | decide); (case hx => first | assumption | decide); (case hx2 => first | assumption | decide); (case hm => first | decide | assumption); (case hm2 => first | decide | assumption); (case hbD => first | assumption | k_ne); (case hoff => simp only [List.cons_append, List.nil_append]; (repeat' (first | assumption | exact List.forall_mem_nil _ | (refine List.forall_mem_cons.mpr ⟨?_, ?_⟩) | k_ne))); (case hd => ktr_room); (case hu => ktr_units); k_whole)); intro r' i' x' tr' ti' tx' h' tk' hr0' hr1' hi0' hx0' hx1' F' N'; (try dsimp only [List.cons_append, List.nil_append] at N'); (try dsimp only))
  k_steps
  refine Stop.in ?_
  (rename News _ _ _ _ => nL)
  k_dflt (refine' sub_opt nL ?m hr0' hr1' ?_)
  case m => k_memK
  intro mv most hmo
  k_steps
  refine Stop.in ?_
  (rename News _ _ _ _ => nL)
  k_dflt (refine' mk_msg (rest := [(b, _), (Dl, _), (L' + 1 + 1, _), (L' + 1, _), (P, _)]) ?B ?F ?X (kst_newsOf nL ?m) ?T ?hk ?hd ?hu ?_)
  case B => assumption
  case F => assumption
  case X => assumption
  case m => kst_allIn
  case T => assumption
  case hk => exact rfl
  case hd => ktr_room
  case hu => ktr_units
  intro r d t1 t2 t3 tn h1 tk1 F1 N1 lD1 lR1
  clear nL
  obtain ⟨nbd, nDd, nc1d, nc2d, nPd, -⟩ := lD1
  have nrd : @Ne Nat r d := Nat.ne_of_gt lR1
  have nbr : @Ne Nat b r := Nat.ne_of_lt (Nat.lt_trans nbd lR1)
  have nc1r : @Ne Nat (L' + 1 + 1) r := Nat.ne_of_lt (Nat.lt_trans nc1d lR1)
  have nc2r : @Ne Nat (L' + 1) r := Nat.ne_of_lt (Nat.lt_trans nc2d lR1)
  have nPr : @Ne Nat P r := Nat.ne_of_lt (Nat.lt_trans nPd lR1)
  replace nbd := Nat.ne_of_lt nbd
  replace nDd := Nat.ne_of_lt nDd
  replace nc1d := Nat.ne_of_lt nc1d
  replace nc2d := Nat.ne_of_lt nc2d
  replace nPd := Nat.ne_of_lt nPd
  k_steps
  (refine Stop.in ?_; (k_dflt (refine' take_spec ?B ?F ?X ?N ?T ?hk ?hI ?hn ?hi ?hx ?hx2 ?hm ?hm2 ?hbD ?hoff ?hd ?hu ?_; (case B => k_asm); (case F => k_asm); (case X => k_asm); (case N => first | k_asm | exact news_pull [_] (by k_asm) | exact news_pull [_, _] (by k_asm) | exact news_pull [_, _, _] (by k_asm) | exact news_pull [_, _, _, _] (by k_asm) | exact news_pull [_, _, _, _, _] (by k_asm) | exact news_pull [_, _, _, _, _, _] (by k_asm) | exact news_pull [_, _, _, _, _, _, _] (by k_asm) | exact news_pull [_, _, _, _, _, _, _, _] (by k_asm) | exact news_pull [_, _, _, _, _, _, _, _, _] (by k_asm) | exact news_pull [_, _, _, _, _, _, _, _, _, _] (by k_asm) | exact news_pull [_, _, _, _, _, _, _, _, _, _, _] (by k_asm) | exact news_pull [_, _, _, _, _, _, _, _, _, _, _, _] (by k_asm) | exact news_pull [_, _, _, _, _, _, _, _, _, _, _, _, _] (by k_asm) | exact news_pull [_, _, _, _, _, _, _, _, _, _, _, _, _, _] (by k_asm) | exact news_pull [_, _, _, _, _, _, _, _, _, _, _, _, _, _, _] (by k_asm) | exact news_pull [_, _, _, _, _, _, _, _, _, _, _, _, _, _, _, _] (by k_asm)); (case T => k_asm); (case hk => first | exact rfl | assumption); (case hI => assumption); (case hn => assumption); (case hi => first | assumption | decide); (case hx => first | assumption | decide); (case hx2 => first | assumption | decide); (case hm => first | decide | assumption); (case hm2 => first | decide | assumption); (case hbD => first | assumption | k_ne); (case hoff => simp only [List.cons_append, List.nil_append]; (repeat' (first | assumption | exact List.forall_mem_nil _ | (refine List.forall_mem_cons.mpr ⟨?_, ?_⟩) | k_ne))); (case hd => ktr_room); (case hu => ktr_units); k_whole)); intro r' i' x' tr' ti' tx' h' tk' hr0' hr1' hi0' hx0' hx1' F' N'; (try dsimp only [List.cons_append, List.nil_append] at N'); (try dsimp only))
  k_steps
  refine Stop.in ?_
  (rename News _ _ _ _ => nL); (rename Fr _ _ _ _ => fL); (rename IsRange _ _ _ _ _ _ _ _ => rgX)
  have nP := msg_core nL
  clear nL
  refine rng_loop (MsgN w _ b Dl r d (L' + 1 + 1) (L' + 1) P ws (r0 == 0) mv t1 t2 t3) rfl rgX (rng_small (by assumption) (by assumption)) (rng_size (by assumption) (by assumption)) fL nP ⟨_, _, _, _, _, _, .head, _, _, _, _, [], (by with_unfolding_all rfl), (fun _ _ _ => rfl), rfl, (by assumption), (by assumption), (by assumption), (by assumption), (by assumption), .inl rfl, List.forall_mem_nil _, List.forall_mem_nil _, List.forall_mem_nil _, List.forall_mem_nil _⟩ (fun iN k t m₁ nx h2 tk2 I oI hkI hin hJ FJ NJ hI1 => ?_) (fun m₁ nx h2 tk2 hJ FJ NJ => ?_)
  · replace FJ : Fr g' L' h2 _ := FJ
    replace NJ : News g' L' h2 _ := NJ
    obtain ⟨i2, x2, ti2, tx2, ts2, tn2, st, o1, o2, ev, ps, tl, hf1, hfm, rfl, hd1, hd2, hi2, hx3, hx4, htab, tb, td, tc2, tP⟩ := hJ
    rw [map_first hf1 hfm] at FJ
    simp only [List.forall_mem_cons] at hI1
    obtain ⟨nc1I, nc2I, nrI, ndI, nbI, nDI, nPI, ntI⟩ := hI1
    replace nc1I := neN nc1I; replace nc2I := neN nc2I; replace nrI := neN nrI; replace ndI := neN ndI; replace nbI := neN nbI; replace nDI := neN nDI; replace nPI := neN nPI
    refine gen_qn ?_
    intro QT hQT
    have NK := msg_start NJ
    clear NJ
    obtain ⟨rest', hR, N'⟩ := hide3 NK
    clear NK
    have hrb : ∀ p ∈ rest', p.1 ≠ b := by
      rw [hR]
      exact List.forall_mem_cons.mpr ⟨Ne.symm nbI, List.forall_mem_cons.mpr ⟨Ne.symm nbc1, List.forall_mem_cons.mpr ⟨Ne.symm nbc2, List.forall_mem_cons.mpr ⟨Ne.symm nbr, List.forall_mem_cons.mpr ⟨Ne.symm nbd, List.forall_mem_cons.mpr ⟨Ne.symm hbP, tb⟩⟩⟩⟩⟩⟩
    k_steps
    (refine Stop.in ?_; (k_dflt (refine' take_spec ?B ?F ?X ?N ?T ?hk ?hI ?hn ?hi ?hx ?hx2 ?hm ?hm2 ?hbD ?hoff ?hd ?hu ?_; (case B => k_asm); (case F => k_asm); (case X => k_asm); (case N => first | k_asm | exact news_pull [_] (by k_asm) | exact news_pull [_, _] (by k_asm) | exact news_pull [_, _, _] (by k_asm) | exact news_pull [_, _, _, _] (by k_asm) | exact news_pull [_, _, _, _, _] (by k_asm) | exact news_pull [_, _, _, _, _, _] (by k_asm) | exact news_pull [_, _, _, _, _, _, _] (by k_asm) | exact news_pull [_, _, _, _, _, _, _, _] (by k_asm) | exact news_pull [_, _, _, _, _, _, _, _, _] (by k_asm) | exact news_pull [_, _, _, _, _, _, _, _, _, _] (by k_asm) | exact news_pull [_, _, _, _, _, _, _, _, _, _, _] (by k_asm) | exact news_pull [_, _, _, _, _, _, _, _, _, _, _, _] (by k_asm) | exact news_pull [_, _, _, _, _, _, _, _, _, _, _, _, _] (by k_asm) | exact news_pull [_, _, _, _, _, _, _, _, _, _, _, _, _, _] (by k_asm) | exact news_pull [_, _, _, _, _, _, _, _, _, _, _, _, _, _, _] (by k_asm) | exact news_pull [_, _, _, _, _, _, _, _, _, _, _, _, _, _, _, _] (by k_asm)); (case T => k_asm); (case hk => first | exact rfl | assumption); (case hI => assumption); (case hn => assumption); (case hi => first | assumption | decide); (case hx => first | assumption | decide); (case hx2 => first | assumption | decide); (case hm => first | decide | assumption); (case hm2 => first | decide | assumption); (case hbD => first | assumption | k_ne); (case hoff => simp only [List.cons_append, List.nil_append]; (repeat' (first | assumption | exact List.forall_mem_nil _ | (refine List.forall_mem_cons.mpr ⟨?_, ?_⟩) | k_ne))); (case hd => ktr_room); (case hu => ktr_units); k_whole)); intro r' i' x' tr' ti' tx' h' tk' hr0' hr1' hi0' hx0' hx1' F' N'; (try dsimp only [List.cons_append, List.nil_append] at N'); (try dsimp only))
    k_steps
    (refine Stop.in ?_; (k_dflt (refine' take_spec ?B ?F ?X ?N ?T ?hk ?hI ?hn ?hi ?hx ?hx2 ?hm ?hm2 ?hbD ?hoff ?hd ?hu ?_; (case B => k_asm); (case F => k_asm); (case X => k_asm); (case N => first | k_asm | exact news_pull [_] (by k_asm) | exact news_pull [_, _] (by k_asm) | exact news_pull [_, _, _] (by k_asm) | exact news_pull [_, _, _, _] (by k_asm) | exact news_pull [_, _, _, _, _] (by k_asm) | exact news_pull [_, _, _, _, _, _] (by k_asm) | exact news_pull [_, _, _, _, _, _, _] (by k_asm) | exact news_pull [_, _, _, _, _, _, _, _] (by k_asm) | exact news_pull [_, _, _, _, _, _, _, _, _] (by k_asm) | exact news_pull [_, _, _, _, _, _, _, _, _, _] (by k_asm) | exact news_pull [_, _, _, _, _, _, _, _, _, _, _] (by k_asm) | exact news_pull [_, _, _, _, _, _, _, _, _, _, _, _] (by k_asm) | exact news_pull [_, _, _, _, _, _, _, _, _, _, _, _, _] (by k_asm) | exact news_pull [_, _, _, _, _, _, _, _, _, _, _, _, _, _] (by k_asm) | exact news_pull [_, _, _, _, _, _, _, _, _, _, _, _, _, _, _] (by k_asm) | exact news_pull [_, _, _, _, _, _, _, _, _, _, _, _, _, _, _, _] (by k_asm)); (case T => k_asm); (case hk => first | exact rfl | assumption); (case hI => assumption); (case hn => assumption); (case hi => first | assumption | decide); (case hx => first | assumption | decide); (case hx2 => first | assumption | decide); (case hm => first | decide | assumption); (case hm2 => first | decide | assumption); (case hbD => first | assumption | k_ne); (case hoff => simp only [List.cons_append, List.nil_append]; (repeat' (first | assumption | exact List.forall_mem_nil _ | (refine List.forall_mem_cons.mpr ⟨?_, ?_⟩) | k_ne))); (case hd => ktr_room); (case hu => ktr_units); k_whole)); intro r' i' x' tr' ti' tx' h' tk' hr0' hr1' hi0' hx0' hx1' F' N'; (try dsimp only [List.cons_append, List.nil_append] at N'); (try dsimp only))
    k_steps
    refine Stop.in ?_
    (rename News _ _ _ _ => nL)
    refine sub_nineP (rest := rest') b nL (by k_memK) (fmod_lo _ (by decide)) (fmod_hi _ (by decide)) rfl ?_ (fun f o mf hfm hmf hfP => ?_)
    · intro v hv
      simp only [List.mem_cons, List.not_mem_nil, or_false] at hv
      rcases hv with rfl | rfl | rfl | rfl | rfl | rfl | rfl | rfl | rfl
      · exact ⟨_, _, .headers, rfl, by k_memK, ⟨_, _, rfl⟩, by (first | exact pk_lt 2 (by assumption) (by k_memK) rfl | exact pk_lt 3 (by assumption) (by k_memK) rfl | exact pk_lt 4 (by assumption) (by k_memK) rfl | exact pk_lt 5 (by assumption) (by k_memK) rfl | exact pk_lt 6 (by assumption) (by k_memK) rfl | exact pk_lt 7 (by assumption) (by k_memK) rfl | exact pk_lt 8 (by assumption) (by k_memK) rfl | exact pk_lt 9 (by assumption) (by k_memK) rfl | exact pk_lt 10 (by assumption) (by k_memK) rfl | exact pk_lt 11 (by assumption) (by k_memK) rfl | exact pk_lt 12 (by assumption) (by k_memK) rfl | exact pk_lt 13 (by assumption) (by k_memK) rfl | exact pk_lt 14 (by assumption) (by k_memK) rfl | exact pk_lt 15 (by assumption) (by k_memK) rfl | exact pk_lt 16 (by assumption) (by k_memK) rfl | exact pk_lt 17 (by assumption) (by k_memK) rfl)⟩
      · exact ⟨_, _, .data, rfl, by k_memK, ⟨_, _, rfl⟩, by (first | exact pk_lt 2 (by assumption) (by k_memK) rfl | exact pk_lt 3 (by assumption) (by k_memK) rfl | exact pk_lt 4 (by assumption) (by k_memK) rfl | exact pk_lt 5 (by assumption) (by k_memK) rfl | exact pk_lt 6 (by assumption) (by k_memK) rfl | exact pk_lt 7 (by assumption) (by k_memK) rfl | exact pk_lt 8 (by assumption) (by k_memK) rfl | exact pk_lt 9 (by assumption) (by k_memK) rfl | exact pk_lt 10 (by assumption) (by k_memK) rfl | exact pk_lt 11 (by assumption) (by k_memK) rfl | exact pk_lt 12 (by assumption) (by k_memK) rfl | exact pk_lt 13 (by assumption) (by k_memK) rfl | exact pk_lt 14 (by assumption) (by k_memK) rfl | exact pk_lt 15 (by assumption) (by k_memK) rfl | exact pk_lt 16 (by assumption) (by k_memK) rfl | exact pk_lt 17 (by assumption) (by k_memK) rfl)⟩
      · exact ⟨_, _, .headers, rfl, by k_memK, ⟨_, _, rfl⟩, by (first | exact pk_lt 2 (by assumption) (by k_memK) rfl | exact pk_lt 3 (by assumption) (by k_memK) rfl | exact pk_lt 4 (by assumption) (by k_memK) rfl | exact pk_lt 5 (by assumption) (by k_memK) rfl | exact pk_lt 6 (by assumption) (by k_memK) rfl | exact pk_lt 7 (by assumption) (by k_memK) rfl | exact pk_lt 8 (by assumption) (by k_memK) rfl | exact pk_lt 9 (by assumption) (by k_memK) rfl | exact pk_lt 10 (by assumption) (by k_memK) rfl | exact pk_lt 11 (by assumption) (by k_memK) rfl | exact pk_lt 12 (by assumption) (by k_memK) rfl | exact pk_lt 13 (by assumption) (by k_memK) rfl | exact pk_lt 14 (by assumption) (by k_memK) rfl | exact pk_lt 15 (by assumption) (by k_memK) rfl | exact pk_lt 16 (by assumption) (by k_memK) rfl | exact pk_lt 17 (by assumption) (by k_memK) rfl)⟩
      · exact ⟨_, _, .unknown, rfl, by k_memK, ⟨_, _, _, rfl⟩, by (first | exact pk_lt 2 (by assumption) (by k_memK) rfl | exact pk_lt 3 (by assumption) (by k_memK) rfl | exact pk_lt 4 (by assumption) (by k_memK) rfl | exact pk_lt 5 (by assumption) (by k_memK) rfl | exact pk_lt 6 (by assumption) (by k_memK) rfl | exact pk_lt 7 (by assumption) (by k_memK) rfl | exact pk_lt 8 (by assumption) (by k_memK) rfl | exact pk_lt 9 (by assumption) (by k_memK) rfl | exact pk_lt 10 (by assumption) (by k_memK) rfl | exact pk_lt 11 (by assumption) (by k_memK) rfl | exact pk_lt 12 (by assumption) (by k_memK) rfl | exact pk_lt 13 (by assumption) (by k_memK) rfl | exact pk_lt 14 (by assumption) (by k_memK) rfl | exact pk_lt 15 (by assumption) (by k_memK) rfl | exact pk_lt 16 (by assumption) (by k_memK) rfl | exact pk_lt 17 (by assumption) (by k_memK) rfl)⟩
      · exact ⟨_, _, .data, rfl, by k_memK, ⟨_, _, rfl⟩, by (first | exact pk_lt 2 (by assumption) (by k_memK) rfl | exact pk_lt 3 (by assumption) (by k_memK) rfl | exact pk_lt 4 (by assumption) (by k_memK) rfl | exact pk_lt 5 (by assumption) (by k_memK) rfl | exact pk_lt 6 (by assumption) (by k_memK) rfl | exact pk_lt 7 (by assumption) (by k_memK) rfl | exact pk_lt 8 (by assumption) (by k_memK) rfl | exact pk_lt 9 (by assumption) (by k_memK) rfl | exact pk_lt 10 (by assumption) (by k_memK) rfl | exact pk_lt 11 (by assumption) (by k_memK) rfl | exact pk_lt 12 (by assumption) (by k_memK) rfl | exact pk_lt 13 (by assumption) (by k_memK) rfl | exact pk_lt 14 (by assumption) (by k_memK) rfl | exact pk_lt 15 (by assumption) (by k_memK) rfl | exact pk_lt 16 (by assumption) (by k_memK) rfl | exact pk_lt 17 (by assumption) (by k_memK) rfl)⟩
      · exact ⟨_, _, .push _, rfl, by k_memK, ⟨_, _, _, rfl⟩, by (first | exact pk_lt 2 (by assumption) (by k_memK) rfl | exact pk_lt 3 (by assumption) (by k_memK) rfl | exact pk_lt 4 (by assumption) (by k_memK) rfl | exact pk_lt 5 (by assumption) (by k_memK) rfl | exact pk_lt 6 (by assumption) (by k_memK) rfl | exact pk_lt 7 (by assumption) (by k_memK) rfl | exact pk_lt 8 (by assumption) (by k_memK) rfl | exact pk_lt 9 (by assumption) (by k_memK) rfl | exact pk_lt 10 (by assumption) (by k_memK) rfl | exact pk_lt 11 (by assumption) (by k_memK) rfl | exact pk_lt 12 (by assumption) (by k_memK) rfl | exact pk_lt 13 (by assumption) (by k_memK) rfl | exact pk_lt 14 (by assumption) (by k_memK) rfl | exact pk_lt 15 (by assumption) (by k_memK) rfl | exact pk_lt 16 (by assumption) (by k_memK) rfl | exact pk_lt 17 (by assumption) (by k_memK) rfl)⟩
      · exact ⟨_, _, .settings, rfl, by k_memK, ⟨_, _, rfl⟩, by (first | exact pk_lt 2 (by assumption) (by k_memK) rfl | exact pk_lt 3 (by assumption) (by k_memK) rfl | exact pk_lt 4 (by assumption) (by k_memK) rfl | exact pk_lt 5 (by assumption) (by k_memK) rfl | exact pk_lt 6 (by assumption) (by k_memK) rfl | exact pk_lt 7 (by assumption) (by k_memK) rfl | exact pk_lt 8 (by assumption) (by k_memK) rfl | exact pk_lt 9 (by assumption) (by k_memK) rfl | exact pk_lt 10 (by assumption) (by k_memK) rfl | exact pk_lt 11 (by assumption) (by k_memK) rfl | exact pk_lt 12 (by assumption) (by k_memK) rfl | exact pk_lt 13 (by assumption) (by k_memK) rfl | exact pk_lt 14 (by assumption) (by k_memK) rfl | exact pk_lt 15 (by assumption) (by k_memK) rfl | exact pk_lt 16 (by assumption) (by k_memK) rfl | exact pk_lt 17 (by assumption) (by k_memK) rfl)⟩
      · exact ⟨_, _, .goaway, rfl, by k_memK, ⟨_, _, rfl⟩, by (first | exact pk_lt 2 (by assumption) (by k_memK) rfl | exact pk_lt 3 (by assumption) (by k_memK) rfl | exact pk_lt 4 (by assumption) (by k_memK) rfl | exact pk_lt 5 (by assumption) (by k_memK) rfl | exact pk_lt 6 (by assumption) (by k_memK) rfl | exact pk_lt 7 (by assumption) (by k_memK) rfl | exact pk_lt 8 (by assumption) (by k_memK) rfl | exact pk_lt 9 (by assumption) (by k_memK) rfl | exact pk_lt 10 (by assumption) (by k_memK) rfl | exact pk_lt 11 (by assumption) (by k_memK) rfl | exact pk_lt 12 (by assumption) (by k_memK) rfl | exact pk_lt 13 (by assumption) (by k_memK) rfl | exact pk_lt 14 (by assumption) (by k_memK) rfl | exact pk_lt 15 (by assumption) (by k_memK) rfl | exact pk_lt 16 (by assumption) (by k_memK) rfl | exact pk_lt 17 (by assumption) (by k_memK) rfl)⟩
      · exact ⟨_, _, .cancel, rfl, by k_memK, ⟨_, _, rfl⟩, by (first | exact pk_lt 2 (by assumption) (by k_memK) rfl | exact pk_lt 3 (by assumption) (by k_memK) rfl | exact pk_lt 4 (by assumption) (by k_memK) rfl | exact pk_lt 5 (by assumption) (by k_memK) rfl | exact pk_lt 6 (by assumption) (by k_memK) rfl | exact pk_lt 7 (by assumption) (by k_memK) rfl | exact pk_lt 8 (by assumption) (by k_memK) rfl | exact pk_lt 9 (by assumption) (by k_memK) rfl | exact pk_lt 10 (by assumption) (by k_memK) rfl | exact pk_lt 11 (by assumption) (by k_memK) rfl | exact pk_lt 12 (by assumption) (by k_memK) rfl | exact pk_lt 13 (by assumption) (by k_memK) rfl | exact pk_lt 14 (by assumption) (by k_memK) rfl | exact pk_lt 15 (by assumption) (by k_memK) rfl | exact pk_lt 16 (by assumption) (by k_memK) rfl | exact pk_lt 17 (by assumption) (by k_memK) rfl)⟩
    have N9 := kst_newsOf nL (nine_sub 15 hfm (.head _) (.tail _ (.head _)) rfl)
    clear nL hfm
    have nfb : @Ne Nat f b := Nat.ne_of_gt hfP.1
    k_steps
    (refine Stop.in ?_; (k_dflt (refine' take_spec ?B ?F ?X ?N ?T ?hk ?hI ?hn ?hi ?hx ?hx2 ?hm ?hm2 ?hbD ?hoff ?hd ?hu ?_; (case B => k_asm); (case F => k_asm); (case X => k_asm); (case N => first | k_asm | exact news_pull [_] (by k_asm) | exact news_pull [_, _] (by k_asm) | exact news_pull [_, _, _] (by k_asm) | exact news_pull [_, _, _, _] (by k_asm) | exact news_pull [_, _, _, _, _] (by k_asm) | exact news_pull [_, _, _, _, _, _] (by k_asm) | exact news_pull [_, _, _, _, _, _, _] (by k_asm) | exact news_pull [_, _, _, _, _, _, _, _] (by k_asm) | exact news_pull [_, _, _, _, _, _, _, _, _] (by k_asm) | exact news_pull [_, _, _, _, _, _, _, _, _, _] (by k_asm) | exact news_pull [_, _, _, _, _, _, _, _, _, _, _] (by k_asm) | exact news_pull [_, _, _, _, _, _, _, _, _, _, _, _] (by k_asm) | exact news_pull [_, _, _, _, _, _, _, _, _, _, _, _, _] (by k_asm) | exact news_pull [_, _, _, _, _, _, _, _, _, _, _, _, _, _] (by k_asm) | exact news_pull [_, _, _, _, _, _, _, _, _, _, _, _, _, _, _] (by k_asm) | exact news_pull [_, _, _, _, _, _, _, _, _, _, _, _, _, _, _, _] (by k_asm)); (case T => k_asm); (case hk => first | exact rfl | assumption); (case hI => assumption); (case hn => assumption); (case hi => first | assumption | decide); (case hx => first | assumption | decide); (case hx2 => first | assumption | decide); (case hm => first | decide | assumption); (case hm2 => first | decide | assumption); (case hbD => first | assumption | k_ne); (case hoff => simp only [List.cons_append, List.nil_append]; (repeat' (first | assumption | exact List.forall_mem_nil _ | (refine List.forall_mem_cons.mpr ⟨?_, ?_⟩) | k_ne))); (case hd => ktr_room); (case hu => ktr_units); k_whole)); intro r' i' x' tr' ti' tx' h' tk' hr0' hr1' hi0' hx0' hx1' F' N'; (try dsimp only [List.cons_append, List.nil_append] at N'); (try dsimp only))
    subst hR
    obtain ⟨-, fI, fc1, fc2, fr, fd, fP, ftl⟩ := hfP
    replace fI := Nat.ne_of_lt fI
    replace fc1 := Nat.ne_of_lt fc1
    replace fc2 := Nat.ne_of_lt fc2
    replace fr := Nat.ne_of_lt fr
    replace fd := Nat.ne_of_lt fd
    replace fP := Nat.ne_of_lt fP
    k_steps
    refine Stop.in ?_
    (rename News _ _ _ _ => nL)
    k_dflt (refine' mdue_any (mf := mf) B' (by assumption) X' nL ?hm (by assumption) hmf T' ?hk ?hd ?hu ?_)
    case hm => k_memK
    case hk => exact rfl
    case hd => ktr_room
    case hu => ktr_units
    intro v st' mr tup t' h4 tk4 F4 N4 hv hdue
    clear nL
    (try dsimp only)
    cases hv with
    | code c tc =>
      k_steps
      refine Stop.in ?_
      k_dflt (refine' kla_eval ?d0 ?_; (case d0 => exact rfl))
      (rename News _ _ _ _ => nL)
      k_dflt (refine' lam_one (by assumption) (msg_lamN nL) T' (CodeHd.keeps C (Below.stays B')) rfl ?hne rfl rfl htab rfl ?_)
      case hne => simp only [List.cons_append, List.nil_append]; (repeat' (first | assumption | exact List.forall_mem_nil _ | (refine List.forall_mem_cons.mpr ⟨?_, ?_⟩) | k_ne))
      intro lf lc loc lvs lt lctv h5 tk5 F5 N5 ld1 ld2 lfl lcf lcx
      have lcb := neN (lcx b ⟨_, by k_memK⟩ tb)
      have lcd := neN (lcx d ⟨_, by k_memK⟩ td)
      have lcc := neN (lcx (L' + 1) ⟨_, by k_memK⟩ tc2)
      have lcP := neN (lcx P ⟨_, by k_memK⟩ tP)
      have lcI := neN (lcx I ⟨_, by k_memK⟩ ntI)
      have lfd : @Ne Nat lf d := Nat.ne_of_gt (lfl (d, _) (by k_memK))
      obtain ⟨hid, hH, nO⟩ := hide_app [_, _, _, _, _, _, _] (msg_okN N5)
      have hhd : ∀ p ∈ hid, p.1 ≠ d := by
        rw [hH]
        clear hH nO N5 lfl lcx
        (repeat' (first | assumption | exact List.forall_mem_nil _ | (refine List.forall_mem_cons.mpr ⟨?_, ?_⟩) | k_ne))
      clear nL N5 lfl lcx
      simp only [List.cons_append, List.nil_append] at nO
      obtain ⟨oth, hO, nQ⟩ := hide_app [_] nO
      have hq : (lf, _) ∈ _ := show _ ∈ (d, mrulesD w t1 t2 t3 (.bool (r0 == 0)) mv (.str st.name tn2)) :: _ from List.mem_cons_of_mem _ (hO ▸ List.mem_cons_self)
      clear nO
      simp only [List.cons_append, List.nil_append] at nQ
      k_steps
      refine Stop.in ?_
      k_dflt (refine' law_code_gen (Good := fun _ _ => False) (Bad := fun c' n2 => c' = c ∧ n2 = (d, mrulesD w t1 t2 t3 (.bool (r0 == 0)) mv (.str st.name tn2)) :: oth) B' (by assumption) X' XB TB D' nQ hq (fun h hh => keeps_F h ⟨_, _, _, _, hh.1⟩) T' ?hk ?hd ?hu ?ok ?_ ?_)
      case hk => exact rfl
      case hd => ktr_room
      case hu => ktr_units
      case ok =>
        clear hQT hQF nQ hq
        subst hO
        intro dp1 un1 gd1 cn1 cs1 a1 ccd1 cl1 outer1 A1 base1 g1 L1 m1 s1 Q1 E1 B1 F1 X1 N1 T1 hk1 hd1 hu1 hg1 hb1
        refine wpAny_call ?_
        ((k_dflt (refine' kla_code ?k1 ?k2 ?k3 ?k4 ?k5 ?kA ?kF ?kK ?k6 ?k7 ?k8 ?k9 ?kB ?_ ?c2 ?c3 ?c4 ?c5; (case kA => exact rfl); (case kF => exact rfl); (case kK => assumption); (case k1 => k_asm); (case k2 => k_asm); (case k3 => k_asm); (case k4 => k_asm); (case k5 => k_asm); (case k6 => k_mem); (case k7 => exact codeRec_news (by k_asm) (by k_mem) (by assumption) (by assumption)); (case k8 => ktr_room); (case k9 => exact rfl); (case c5 => decide); (case kB => exact locs rfl); (case c2 => exact rfl); (case c3 => exact rfl); (case c4 => exact rfl); k_whole); intro g' L' h' FG' F' N' B' X' T'; (try dsimp only); (try k_lift B'); (try k_fold)))
        k_steps
        refine Stop.in ?_
        (rename News _ _ _ _ => nL)
        k_dflt (refine' mtake_any (mf := mf) ?B (by assumption) ?X nL ?hr ?hfo (by assumption) hmf ?hne ?T ?hk ?hd ?hu ?_ ?_)
        case B => assumption
        case X => assumption
        case T => assumption
        case hr => k_memK
        case hfo => k_memK
        case hne => (repeat' (first | assumption | exact List.forall_mem_nil _ | (refine List.forall_mem_cons.mpr ⟨?_, ?_⟩) | k_ne))
        case hk => exact rfl
        case hd => ktr_room
        case hu => ktr_units
        · intro sw2 st2 tw2 tn3 h6 tk6 hc6 F6 N6
          rw [hdue] at hc6
          cases hc6
        · intro c6 tc6 e6 dx6 es6 nd6 g6 h6 tk6 hc6 F6 R6 U6 hes6
          rw [hdue] at hc6
          cases hc6
          (try dsimp only)
          k_dflt (refine' leave_onD ?k1 ?k2 R6 ?k4 ?k5 ?_; (case k2 => assumption); (case k1 => assumption); (case k4 => assumption); (case k5 => exact rfl); k_whole)
          intro h8 R8 U8
          exact hb1 _ _ _ _ _ _ _ _ _ _ ⟨rfl, rfl⟩ (by assumption) R8 U8 hes6
      · intro v n1 tup2 tg h7 tk7 hG
        exact hG.elim
      · intro c2 n2 h₁ tup2 tg tc2' h7 tk7 hB K7 B7 X7 T7 D7 F7 N7
        obtain ⟨rfl, rfl⟩ := hB
        clear nQ hq
        subst hO
        subst hH
        (try dsimp only)
        k_steps
        subst hQT
        dsimp only [RngPost]
        subst hQF
        (try dsimp only)
        k_steps
        (rename News _ _ _ _ => nL2)
        exact hret _ _ _ _ (by assumption) (by assumption) (by assumption) (by assumption) (by assumption) (by assumption) (news_one nL2 (by k_memK))
    | word sw tw =>
      k_steps
      refine Stop.in ?_
      k_dflt (refine' kla_eval ?d0 ?_; (case d0 => exact rfl))
      (rename News _ _ _ _ => nL)
      k_dflt (refine' lam_one (by assumption) (msg_lamN nL) T' (CodeHd.keeps C (Below.stays B')) rfl ?hne rfl rfl htab rfl ?_)
      case hne => simp only [List.cons_append, List.nil_append]; (repeat' (first | assumption | exact List.forall_mem_nil _ | (refine List.forall_mem_cons.mpr ⟨?_, ?_⟩) | k_ne))
      intro lf lc loc lvs lt lctv h5 tk5 F5 N5 ld1 ld2 lfl lcf lcx
      have lcb := neN (lcx b ⟨_, by k_memK⟩ tb)
      have lcd := neN (lcx d ⟨_, by k_memK⟩ td)
      have lcc := neN (lcx (L' + 1) ⟨_, by k_memK⟩ tc2)
      have lcP := neN (lcx P ⟨_, by k_memK⟩ tP)
      have lcI := neN (lcx I ⟨_, by k_memK⟩ ntI)
      have lfd : @Ne Nat lf d := Nat.ne_of_gt (lfl (d, _) (by k_memK))
      obtain ⟨hid, hH, nO⟩ := hide_app [_, _, _, _, _, _, _] (msg_okN N5)
      have hhd : ∀ p ∈ hid, p.1 ≠ d := by
        rw [hH]
        clear hH nO N5 lfl lcx
        (repeat' (first | assumption | exact List.forall_mem_nil _ | (refine List.forall_mem_cons.mpr ⟨?_, ?_⟩) | k_ne))
      clear nL N5 lfl lcx
      simp only [List.cons_append, List.nil_append] at nO
      obtain ⟨oth, hO, nQ⟩ := hide_app [_] nO
      have hq : (lf, _) ∈ _ := show _ ∈ (d, mrulesD w t1 t2 t3 (.bool (r0 == 0)) mv (.str st.name tn2)) :: _ from List.mem_cons_of_mem _ (hO ▸ List.mem_cons_self)
      clear nO
      simp only [List.cons_append, List.nil_append] at nQ
      k_steps
      refine Stop.in ?_
      k_dflt (refine' law_code_gen (Good := fun v n1 => ∃ tw2 tn3, v = .str sw tw2 ∧ n1 = (d, mrulesD w t1 t2 t3 (.bool (r0 == 0)) mv (.str st'.name tn3)) :: oth) (Bad := fun _ _ => False) B' (by assumption) X' XB TB D' nQ hq (fun h hh => keeps_F h ⟨_, _, _, _, hh.1⟩) T' ?hk ?hd ?hu ?ok ?_ ?_)
      case hk => exact rfl
      case hd => ktr_room
      case hu => ktr_units
      case ok =>
        clear hQT hQF nQ hq
        subst hO
        intro dp1 un1 gd1 cn1 cs1 a1 ccd1 cl1 outer1 A1 base1 g1 L1 m1 s1 Q1 E1 B1 F1 X1 N1 T1 hk1 hd1 hu1 hg1 hb1
        refine wpAny_call ?_
        ((k_dflt (refine' kla_code ?k1 ?k2 ?k3 ?k4 ?k5 ?kA ?kF ?kK ?k6 ?k7 ?k8 ?k9 ?kB ?_ ?c2 ?c3 ?c4 ?c5; (case kA => exact rfl); (case kF => exact rfl); (case kK => assumption); (case k1 => k_asm); (case k2 => k_asm); (case k3 => k_asm); (case k4 => k_asm); (case k5 => k_asm); (case k6 => k_mem); (case k7 => exact codeRec_news (by k_asm) (by k_mem) (by assumption) (by assumption)); (case k8 => ktr_room); (case k9 => exact rfl); (case c5 => decide); (case kB => exact locs rfl); (case c2 => exact rfl); (case c3 => exact rfl); (case c4 => exact rfl); k_whole); intro g' L' h' FG' F' N' B' X' T'; (try dsimp only); (try k_lift B'); (try k_fold)))
        k_steps
        refine Stop.in ?_
        (rename News _ _ _ _ => nL)
        k_dflt (refine' mtake_any (mf := mf) ?B (by assumption) ?X nL ?hr ?hfo (by assumption) hmf ?hne ?T ?hk ?hd ?hu ?_ ?_)
        case B => assumption
        case X => assumption
        case T => assumption
        case hr => k_memK
        case hfo => k_memK
        case hne => (repeat' (first | assumption | exact List.forall_mem_nil _ | (refine List.forall_mem_cons.mpr ⟨?_, ?_⟩) | k_ne))
        case hk => exact rfl
        case hd => ktr_room
        case hu => ktr_units
        · intro sw2 st2 tw2 tn3 h6 tk6 hc6 F6 N6
          rw [hdue] at hc6
          cases hc6
          (try dsimp only)
          k_steps
          (rename News _ _ _ _ => nL9)
          exact hg1 _ _ _ _ ⟨_, _, rfl, rfl⟩ (by assumption) nL9
        · intro c6 tc6 e6 dx6 es6 nd6 g6 h6 tk6 hc6 F6 R6 U6 hes6
          rw [hdue] at hc6
          cases hc6
      · intro v n1 tup2 tg h7 tk7 hG F7 N7
        obtain ⟨tw2, tn3, rfl, rfl⟩ := hG
        clear nQ hq
        subst hO
        subst hH
        (try dsimp only)
        k_steps
        k_dflt (refine' ne_pair_same N7 ?ha ?hb ?hx ?hy ?hu ?_)
        case ha => k_memK
        case hb => k_memK
        case hx => decide +kernel
        case hy => exact mdue_ok hdue
        case hu => ktr_units
        k_steps
        subst hQT
        dsimp only [RngPost]
        refine ⟨_, _, _, _, rfl, F7, msg_backN N7, ?_, ⟨_, _, _, _, _, _, st', _, _, _, _, [(lc, loc)], (by with_unfolding_all rfl), msg_map, rfl, hd1, (by assumption), (by assumption), (by assumption), (by assumption), .inr ⟨lc, loc, lvs, lt, rfl, .head _, ld1, ld2⟩, List.forall_mem_cons.mpr ⟨lcb, List.forall_mem_nil _⟩, List.forall_mem_cons.mpr ⟨lcd, List.forall_mem_nil _⟩, List.forall_mem_cons.mpr ⟨lcc, List.forall_mem_nil _⟩, List.forall_mem_cons.mpr ⟨lcP, List.forall_mem_nil _⟩⟩⟩
        (repeat' (first | assumption | exact List.forall_mem_nil _ | (refine List.forall_mem_cons.mpr ⟨?_, ?_⟩) | k_ne))
      · intro c2 n2 h₁ tup2 tg tc2' h7 tk7 hB
        exact hB.elim
  · obtain ⟨i2, x2, ti2, tx2, ts2, tn2, st, o1, o2, ev, ps, tl, hf1, hfm, rfl, hd1, hd2, hi2, hx3, hx4, htab, tb, td, tc2, tP⟩ := hJ
    replace FJ : Fr g' L' h2 _ := FJ
    replace NJ : News g' L' h2 _ := NJ
    rw [map_end hf1 hfm] at FJ
    dsimp only
    k_steps
    refine Stop.in ?_
    k_dflt (refine' kla_eval ?d0 ?_; (case d0 => exact rfl))
    (rename News _ _ _ _ => nL)
    k_dflt (refine' kla_nest (by assumption) (msg_tabN nL) T' (CodeHd.keeps C (Below.stays B')) rfl (UpdF.head ?hne) htab.triples (htab.not ?hl) rfl ?_)
    case hne => (repeat' (first | assumption | exact List.forall_mem_nil _ | (refine List.forall_mem_cons.mpr ⟨?_, ?_⟩) | k_ne))
    case hl => decide
    intro lf lc loc lvs lt lctv h5 tk5 F5 N5 ld1 ld2 lfl lcf
    (try dsimp only at N5)
    obtain ⟨hid, hH, nO⟩ := hide_app [_, _, _, _, _] (msg_okE N5)
    clear nL N5 lfl
    simp only [List.cons_append, List.nil_append] at nO
    k_steps
    refine Stop.in ?_
    obtain ⟨oth, hO, nQ⟩ := hide_app [_] nO
    have hq : (lf, _) ∈ _ := show _ ∈ (r, instObj 144 d) :: _ from List.mem_cons_of_mem _ (hO ▸ List.mem_cons_of_mem _ List.mem_cons_self)
    clear nO
    simp only [List.cons_append, List.nil_append] at nQ
    k_dflt (refine' law_code_gen (Good := fun v n1 => st.num ≠ 0 ∧ v = .none ∧ n1 = (r, instObj 144 d) :: oth) (Bad := fun c' n2 => st.num = 0 ∧ c' = 269 ∧ n2 = (r, instObj 144 d) :: oth) B' (by assumption) X' XB TB D' nQ hq (fun h hh => keeps_F h ⟨_, _, _, _, hh.1⟩) T' ?hk ?hd ?hu ?ok ?_ ?_)
    case hk => exact rfl
    case hd => ktr_room
    case hu => ktr_units
    case ok =>
      clear hQF nQ hq
      subst hO
      intro dp1 un1 gd1 cn1 cs1 a1 ccd1 cl1 outer1 A1 base1 g1 L1 m1 s1 Q1 E1 B1 F1 X1 N1 T1 hk1 hd1 hu1 hg1 hb1
      refine wpAny_call ?_
      ((k_dflt (refine' kla_code ?k1 ?k2 ?k3 ?k4 ?k5 ?kA ?kF ?kK ?k6 ?k7 ?k8 ?k9 ?kB ?_ ?c2 ?c3 ?c4 ?c5; (case kA => exact rfl); (case kF => exact rfl); (case kK => assumption); (case k1 => k_asm); (case k2 => k_asm); (case k3 => k_asm); (case k4 => k_asm); (case k5 => k_asm); (case k6 => k_mem); (case k7 => exact codeRec_news (by k_asm) (by k_mem) (by assumption) (by assumption)); (case k8 => ktr_room); (case k9 => exact rfl); (case c5 => decide); (case kB => exact locs rfl); (case c2 => exact rfl); (case c3 => exact rfl); (case c4 => exact rfl); k_whole); intro g' L' h' FG' F' N' B' X' T'; (try dsimp only); (try k_lift B'); (try k_fold)))
      k_steps
      refine Stop.in ?_
      (rename News _ _ _ _ => nL)
      k_dflt (refine' mend ?B (by assumption) ?X nL ?T ?hk ?hd ?hu ?_ ?_)
      case B => assumption
      case X => assumption
      case T => assumption
      case hk => exact rfl
      case hd => ktr_room
      case hu => ktr_units
      · intro h6 tk6 hst F6 N6
        (try dsimp only)
        k_steps
        (rename News _ _ _ _ => nL9)
        exact hg1 _ _ _ _ ⟨hst, rfl, rfl⟩ (by assumption) nL9
      · intro tc6 e6 dx6 es6 nd6 g6 h6 tk6 hst F6 R6 U6 hes6
        (try dsimp only)
        k_dflt (refine' leave_onD ?k1 ?k2 R6 ?k4 ?k5 ?_; (case k2 => assumption); (case k1 => assumption); (case k4 => assumption); (case k5 => exact rfl); k_whole)
        intro h8 R8 U8
        exact hb1 _ _ _ _ _ _ _ _ _ _ ⟨hst, rfl, rfl⟩ (by assumption) R8 U8 hes6
    · intro v n1 tup2 tg h7 tk7 hG F7 N7
      obtain ⟨hst, rfl, rfl⟩ := hG
      clear nQ hq
      subst hO
      subst hH
      (try dsimp only)
      cases st
      · exact absurd rfl hst
      all_goals dsimp only [MS.num] at FJ F7
      all_goals k_steps
      all_goals (subst hQF; (try dsimp only); k_steps)
      all_goals (
        (rename News _ _ _ _ => nL2)
        exact hret _ _ _ _ KtsTurn.refl B X T D (by assumption) (news_one nL2 (by k_memK)))
    · intro c2 n2 h₁ tup2 tg tc2' h7 tk7 hB K7 B7 X7 T7 D7 F7 N7
      obtain ⟨hst, rfl, rfl⟩ := hB
      clear nQ hq
      subst hO
      subst hH
      (try dsimp only)
      cases st
      rotate_left
      · exact absurd hst (by decide)
      · exact absurd hst (by decide)
      dsimp only [MS.num] at FJ F7
      k_steps
      subst hQF
      (try dsimp only)
      k_steps
      (rename News _ _ _ _ => nL2)
      exact hret _ _ _ _ (by assumption) (by assumption) (by assumption) (by assumption) (by assumption) (by assumption) (news_one nL2 (by k_memK))
end Q9
theorem said_Z0 : True := by
  k_with_none
  k_with "k_room" => ktr_room
  k_with "k_units" => ktr_units
  k_with "k_all" => (first | assumption | exact allLt_ne (by assumption) (by intro q hq; repeat (first | exact hq | refine List.Mem.tail _ ?_)))
  k_with "k_ne" => (refine neN ?_; (try dsimp only); first | assumption | exact Ne.symm (by assumption) | exact Nat.ne_of_gt (allLt_at (by assumption) (by k_mem)) | exact Nat.ne_of_lt (allLt_at (by assumption) (by k_mem)) | omega)
  k_with "call ref" => (k_here; refine stop_call (by decide) ?_)
  k_with "execs cons" => (k_here; (with_reducible show wpAny _ _ _ _ _ (Shared.mk _ _ _ (_ + 1) _)); refine gen_toks ?_; intro tk)
  k_with "execs nil" => (k_here; (with_reducible show wpAny _ _ _ _ _ (Shared.mk _ _ _ (_ + 1) _)); refine gen_toks ?_; intro tk)
  trivial
section Z0
theorem kts_nil {g g' h : Heap} {L : Addr} {m : Str → Option Value} {news : List (Addr × Obj)} (T : KtsTurn ([] : List Addr) g g') (F : Fr g' L h m) (N : News g' L h news) : Fr g L h m ∧ News g L h news := by
  refine ⟨⟨F.ns, fun b o e => F.keep b o (T.other b o e List.not_mem_nil), by rw [← T.size]; exact F.above⟩, fun p hp => ⟨(N p hp).1, (N p hp).2.1, ?_⟩⟩
  cases q : g.get? p.1 with
  | none => rfl
  | some o =>
    have := (N p hp).2.2
    rw [T.other _ _ q List.not_mem_nil] at this
    cases this
set_option maxHeartbeats 16000000 in
theorem law_holds : PySem.Challenge.rw_no0067_01.Holds := by
  refine holds_law hd_said fun said => ?_
  refine W.holds_open (q := hd.view_39) (loose := []) (Xt := fun s => xlAt hd.view_39 [] s && recOk PySem.Challenge.rw_no0067_01.row.records s) (XP := XL hd.view_39 []) (Yf := hd.hook.obs) (Ya := hd.hook.val) (YP := hd.hook.says) (N := 2854) hd_left hd.hook.of hd.hook.keeps (fun s e => xl_of s (Bool.and_eq_true_iff.mp e).1) XL.keeps (by rfl) (by rfl) (by rfl) (fun s e => recFacts_of (Bool.and_eq_true_iff.mp e).2) (by rfl) said (by decide +kernel) ⟨rfl, rfl, rfl, rfl, rfl, by decide +kernel⟩ ⟨[WData.list []], by decide +kernel, by decide +kernel⟩ ?hc
  delta hd.hook
  k_go0
  (all_goals try k_fold)
  k_steps
  refine Stop.in ?_
  (rename Fr _ _ _ _ => fL); (rename News _ _ _ _ => nL); (rename AllLt _ [_, _] => lA)
  have hDl := neN (Nat.ne_of_gt lA.1)
  (rename IntsAre _ (List.take 40 _) => hI')
  have hn' := fun (l : List Int) => List.length_take_le 40 l
  k_dflt (refine' control_spec ?B fL ?X ?XB ?TB ktsDicts_nil nL ?T rfl hI' (hn' _) (by decide) (by decide) (by decide) hDl ?hoff ?hd ?hu ?_)
  case B => assumption
  case X => assumption
  case XB => assumption
  case TB => assumption
  case T => assumption
  case hoff => (repeat' (first | (refine List.forall_mem_cons.mpr ⟨?_, ?_⟩) | k_ne | assumption | exact allLt_ne (by assumption) (by intro q hq; repeat (first | exact hq | refine List.Mem.tail _ ?_))))
  case hd => first | decide | ktr_room
  case hu => first | decide | ktr_units
  intro h₁ i1 x1 ti1 tx1 h2 tk2 K1 B1 X1 T1 D1 F1 N1 hi1 hx1 hx2
  obtain ⟨F2, N2⟩ := kts_nil K1 F1 N1
  clear K1 B1 X1 T1 D1 F1 N1 nL fL
  k_steps
  refine Stop.in ?_
  k_dflt (refine' message_spec ?B F2 ?X ?XB ?TB ktsDicts_nil N2 ?C ?T rfl hI' (hn' _) hi1 hx1 hx2 hDl ?hbP ?hDP ?hd ?hu ?_)
  case B => assumption
  case X => assumption
  case XB => assumption
  case TB => assumption
  case C => assumption
  case T => assumption
  case hbP => exact Nat.ne_of_gt lA.2.1
  case hDP => exact Nat.ne_of_gt (allLt_at (by assumption) (.head _))
  case hd => first | decide | ktr_room
  case hu => first | decide | ktr_units
  intro h₁ ps h3 tk3 K1 B1 X1 T1 D1 F1 N1
  obtain ⟨F3, N3⟩ := kts_nil K1 F1 N1
  clear K1 B1 X1 T1 D1 F1 N1
  k_steps
end Z0
end Mine
theorem PySem.Challenge.cw_no0067_01_holds : PySem.Challenge.rw_no0067_01.Holds :=
  Mine.law_holds
