import PyProof.Rows.All
import Wide.All
import OpenK.AllK
import Wide.FinOn
import PySem.Challenge.RW_pb0176_01
open PySem PySem.W PyProof.Rows
set_option Elab.async false
set_option linter.unusedVariables false
set_option linter.unusedSectionVars false
set_option maxRecDepth 100000
set_option maxHeartbeats 8000000
namespace Mine
abbrev pw : Program := PySem.Challenge.pw_pb0176_01
def fnParts : Stmt → Option (Arguments × List Stmt × Scope)
  | .FunctionDef _ a b _ _ _ s _ _ _ => some (a, b, s)
  | _ => none
def clsFn : Stmt → Option (Arguments × List Stmt × Scope)
  | .ClassDef _ _ _ b _ _ _ _ _ _ _ => b.findSome? fnParts
  | _ => none
noncomputable def fnpaddedS : { x : Arguments × List Stmt × Scope // (pw.main.body[7]?).bind fnParts = some x } := ⟨(_, _, _), by exact rfl⟩
noncomputable def fnfeaturegroupsS : { x : Arguments × List Stmt × Scope // (pw.main.body[8]?).bind fnParts = some x } := ⟨(_, _, _), by exact rfl⟩
noncomputable def fnfeaturerowsS : { x : Arguments × List Stmt × Scope // (pw.main.body[9]?).bind fnParts = some x } := ⟨(_, _, _), by exact rfl⟩
noncomputable def fnlangsysofS : { x : Arguments × List Stmt × Scope // (pw.main.body[10]?).bind fnParts = some x } := ⟨(_, _, _), by exact rfl⟩
noncomputable def fnscriptsofS : { x : Arguments × List Stmt × Scope // (pw.main.body[11]?).bind fnParts = some x } := ⟨(_, _, _), by exact rfl⟩
noncomputable def fnchoosescriptS : { x : Arguments × List Stmt × Scope // (pw.main.body[15]?).bind fnParts = some x } := ⟨(_, _, _), by exact rfl⟩
noncomputable def fnchooselangsysS : { x : Arguments × List Stmt × Scope // (pw.main.body[16]?).bind fnParts = some x } := ⟨(_, _, _), by exact rfl⟩
noncomputable def fnfeatureatS : { x : Arguments × List Stmt × Scope // (pw.main.body[17]?).bind fnParts = some x } := ⟨(_, _, _), by exact rfl⟩
noncomputable def fnrequiredfeatureS : { x : Arguments × List Stmt × Scope // (pw.main.body[18]?).bind fnParts = some x } := ⟨(_, _, _), by exact rfl⟩
noncomputable def fnfeatureindexesS : { x : Arguments × List Stmt × Scope // (pw.main.body[19]?).bind fnParts = some x } := ⟨(_, _, _), by exact rfl⟩
noncomputable def fnaddlookupsS : { x : Arguments × List Stmt × Scope // (pw.main.body[20]?).bind fnParts = some x } := ⟨(_, _, _), by exact rfl⟩
noncomputable def fngatherS : { x : Arguments × List Stmt × Scope // (pw.main.body[21]?).bind fnParts = some x } := ⟨(_, _, _), by exact rfl⟩
noncomputable def fnlawdrawS : { x : Arguments × List Stmt × Scope // (pw.main.body[26]?).bind fnParts = some x } := ⟨(_, _, _), by exact rfl⟩
noncomputable def fnlawS : { x : Arguments × List Stmt × Scope // (pw.main.body[27]?).bind fnParts = some x } := ⟨(_, _, _), by exact rfl⟩
noncomputable def fnLangSysS : { x : Arguments × List Stmt × Scope // (pw.main.body[2]?).bind clsFn = some x } := ⟨(_, _, _), by exact rfl⟩
noncomputable def fnScriptS : { x : Arguments × List Stmt × Scope // (pw.main.body[3]?).bind clsFn = some x } := ⟨(_, _, _), by exact rfl⟩
noncomputable def fnFeatureS : { x : Arguments × List Stmt × Scope // (pw.main.body[4]?).bind clsFn = some x } := ⟨(_, _, _), by exact rfl⟩
noncomputable def fnLayoutS : { x : Arguments × List Stmt × Scope // (pw.main.body[5]?).bind clsFn = some x } := ⟨(_, _, _), by exact rfl⟩
noncomputable def fnRuleTreeS : { x : Arguments × List Stmt × Scope // (pw.main.body[23]?).bind clsFn = some x } := ⟨(_, _, _), by exact rfl⟩
noncomputable def fnFeatureRowS : { x : Arguments × List Stmt × Scope // (pw.main.body[24]?).bind clsFn = some x } := ⟨(_, _, _), by exact rfl⟩
noncomputable def ob3 (P : Params) : Obj := { cls := Value.type "dict", data := Data.dict #[{ hash := PyData.keyHash P (Str.ofString "__name__"), key := Value.str (Str.ofString "__name__") 165, val := Value.str (Str.ofString "law_pb0176_01") 556 }, { hash := PyData.keyHash P (Str.ofString "__doc__"), key := Value.str (Str.ofString "__doc__") 166, val := Value.none }, { hash := PyData.keyHash P (Str.ofString "__package__"), key := Value.str (Str.ofString "__package__") 167, val := Value.none }, { hash := PyData.keyHash P (Str.ofString "__loader__"), key := Value.str (Str.ofString "__loader__") 168, val := Value.builtin "__main__.__loader__#opaque" }, { hash := PyData.keyHash P (Str.ofString "__spec__"), key := Value.str (Str.ofString "__spec__") 169, val := Value.none }, { hash := PyData.keyHash P (Str.ofString "__annotations__"), key := Value.str (Str.ofString "__annotations__") 170, val := Value.ref 6 }, { hash := PyData.keyHash P (Str.ofString "__builtins__"), key := Value.str (Str.ofString "__builtins__") 171, val := Value.ref 4 }, { hash := PyData.keyHash P (Str.ofString "__file__"), key := Value.str (Str.ofString "__file__") 173, val := Value.str (Str.ofString "/claim/cut.py") 172 }, { hash := PyData.keyHash P (Str.ofString "__cached__"), key := Value.str (Str.ofString "__cached__") 174, val := Value.none }, { hash := PyData.keyHash P (Str.ofString "_wall"), key := Value.str (Str.ofString "_wall") 193, val := Value.ref 21 }, { hash := PyData.keyHash P (Str.ofString "LangSys"), key := Value.str (Str.ofString "LangSys") 233, val := Value.ref 45 }, { hash := PyData.keyHash P (Str.ofString "Script"), key := Value.str (Str.ofString "Script") 273, val := Value.ref 73 }, { hash := PyData.keyHash P (Str.ofString "Feature"), key := Value.str (Str.ofString "Feature") 311, val := Value.ref 101 }, { hash := PyData.keyHash P (Str.ofString "Layout"), key := Value.str (Str.ofString "Layout") 351, val := Value.ref 129 }, { hash := PyData.keyHash P (Str.ofString "padded"), key := Value.str (Str.ofString "padded") 360, val := Value.ref 140 }, { hash := PyData.keyHash P (Str.ofString "feature_groups"), key := Value.str (Str.ofString "feature_groups") 366, val := Value.ref 145 }, { hash := PyData.keyHash P (Str.ofString "feature_rows"), key := Value.str (Str.ofString "feature_rows") 377, val := Value.ref 152 }, { hash := PyData.keyHash P (Str.ofString "langsys_of"), key := Value.str (Str.ofString "langsys_of") 383, val := Value.ref 157 }, { hash := PyData.keyHash P (Str.ofString "scripts_of"), key := Value.str (Str.ofString "scripts_of") 395, val := Value.ref 164 }, { hash := PyData.keyHash P (Str.ofString "FALLBACKS"), key := Value.str (Str.ofString "FALLBACKS") 401, val := Value.ref 165 }, { hash := PyData.keyHash P (Str.ofString "ALL_INFOS"), key := Value.str (Str.ofString "ALL_INFOS") 403, val := Value.int 1 402 }, { hash := PyData.keyHash P (Str.ofString "choose_script"), key := Value.str (Str.ofString "choose_script") 412, val := Value.ref 172 }, { hash := PyData.keyHash P (Str.ofString "choose_langsys"), key := Value.str (Str.ofString "choose_langsys") 420, val := Value.ref 179 }, { hash := PyData.keyHash P (Str.ofString "feature_at"), key := Value.str (Str.ofString "feature_at") 428, val := Value.ref 186 }, { hash := PyData.keyHash P (Str.ofString "required_feature"), key := Value.str (Str.ofString "required_feature") 436, val := Value.ref 193 }, { hash := PyData.keyHash P (Str.ofString "feature_indexes"), key := Value.str (Str.ofString "feature_indexes") 448, val := Value.ref 200 }, { hash := PyData.keyHash P (Str.ofString "add_lookups"), key := Value.str (Str.ofString "add_lookups") 459, val := Value.ref 207 }, { hash := PyData.keyHash P (Str.ofString "gather"), key := Value.str (Str.ofString "gather") 465, val := Value.ref 213 }, { hash := PyData.keyHash P (Str.ofString "RuleTree"), key := Value.str (Str.ofString "RuleTree") 513, val := Value.ref 244 }, { hash := PyData.keyHash P (Str.ofString "FeatureRow"), key := Value.str (Str.ofString "FeatureRow") 555, val := Value.ref 272 }, { hash := PyData.keyHash P (Str.ofString "_law_draw"), key := Value.str (Str.ofString "_law_draw") 566, val := Value.ref 283 }, { hash := PyData.keyHash P (Str.ofString "law"), key := Value.str (Str.ofString "law") 572, val := Value.ref 288 }] 32 }
noncomputable def ob34 (P : Params) : Obj := { cls := Value.type "code", data := Data.fields #[Value.str (Str.ofString "__init__") 208, Value.str (Str.ofString "LangSys.__init__") 209, Value.str (Str.ofString "/claim/cut.py") 210, Value.int 7 0, Value.int 3 0, Value.int 0 0, Value.int 0 0, Value.int 3 0, Value.ref 29, Value.bool true, Value.int 181 0, Value.ref 30, Value.none, Value.ref 31, Value.ref 32, Value.ref 33, Value.int 214 0, Value.int 7 0, Value.str (Str.ofString "/claim/cut.py") 215] }
noncomputable def ob35 (P : Params) : Obj := { cls := Value.type "function", data := Data.func { name := Str.ofString "__init__", qualname := Str.ofString "LangSys.__init__", params := fnLangSysS.1.1, body := .stmts fnLangSysS.1.2.1, scope := fnLangSysS.1.2.2, globals := 3, closure := [], defaults := Value.none, kwdefaults := Value.none, pyModule := Value.str (Str.ofString "joinedhand.layout") 194, code := Value.ref 34 } }
noncomputable def ob44 (P : Params) : Obj := { cls := Value.type "dict", data := Data.dict #[{ hash := PyData.keyHash P (Str.ofString "__module__"), key := Value.str (Str.ofString "__module__") 203, val := Value.str (Str.ofString "joinedhand.layout") 194 }, { hash := PyData.keyHash P (Str.ofString "__firstlineno__"), key := Value.str (Str.ofString "__firstlineno__") 207, val := Value.int 5 206 }, { hash := PyData.keyHash P (Str.ofString "__init__"), key := Value.str (Str.ofString "__init__") 216, val := Value.ref 35 }, { hash := PyData.keyHash P (Str.ofString "told"), key := Value.str (Str.ofString "told") 223, val := Value.ref 42 }, { hash := PyData.keyHash P (Str.ofString "__static_attributes__"), key := Value.str (Str.ofString "__static_attributes__") 226, val := Value.ref 43 }, { hash := PyData.keyHash P (Str.ofString "__dict__"), key := Value.str (Str.ofString "__dict__") 228, val := Value.ref 46 }, { hash := PyData.keyHash P (Str.ofString "__weakref__"), key := Value.str (Str.ofString "__weakref__") 230, val := Value.ref 47 }, { hash := PyData.keyHash P (Str.ofString "__doc__"), key := Value.str (Str.ofString "__doc__") 231, val := Value.none }] 4 }
noncomputable def ob45 (P : Params) : Obj := { cls := Value.type "type", data := Data.cls { name := Str.ofString "LangSys", bases := [Value.type "object"], mro := [Value.ref 45, Value.type "object"], ns := 44, qualname := Str.ofString "LangSys" }, slots := #[none, none, some (Value.str (Str.ofString "LangSys") 196), some (Value.str (Str.ofString "LangSys") 204), some (Value.builtin "object.__new__"), some (Value.bool true)] }
noncomputable def ob62 (P : Params) : Obj := { cls := Value.type "code", data := Data.fields #[Value.str (Str.ofString "__init__") 246, Value.str (Str.ofString "Script.__init__") 247, Value.str (Str.ofString "/claim/cut.py") 248, Value.int 15 0, Value.int 4 0, Value.int 0 0, Value.int 0 0, Value.int 3 0, Value.ref 57, Value.bool true, Value.int 181 0, Value.ref 58, Value.none, Value.ref 59, Value.ref 60, Value.ref 61, Value.int 253 0, Value.int 15 0, Value.str (Str.ofString "/claim/cut.py") 254] }
noncomputable def ob63 (P : Params) : Obj := { cls := Value.type "function", data := Data.func { name := Str.ofString "__init__", qualname := Str.ofString "Script.__init__", params := fnScriptS.1.1, body := .stmts fnScriptS.1.2.1, scope := fnScriptS.1.2.2, globals := 3, closure := [], defaults := Value.none, kwdefaults := Value.none, pyModule := Value.str (Str.ofString "joinedhand.layout") 194, code := Value.ref 62 } }
noncomputable def ob72 (P : Params) : Obj := { cls := Value.type "dict", data := Data.dict #[{ hash := PyData.keyHash P (Str.ofString "__module__"), key := Value.str (Str.ofString "__module__") 241, val := Value.str (Str.ofString "joinedhand.layout") 194 }, { hash := PyData.keyHash P (Str.ofString "__firstlineno__"), key := Value.str (Str.ofString "__firstlineno__") 245, val := Value.int 13 244 }, { hash := PyData.keyHash P (Str.ofString "__init__"), key := Value.str (Str.ofString "__init__") 255, val := Value.ref 63 }, { hash := PyData.keyHash P (Str.ofString "told"), key := Value.str (Str.ofString "told") 262, val := Value.ref 70 }, { hash := PyData.keyHash P (Str.ofString "__static_attributes__"), key := Value.str (Str.ofString "__static_attributes__") 266, val := Value.ref 71 }, { hash := PyData.keyHash P (Str.ofString "__dict__"), key := Value.str (Str.ofString "__dict__") 268, val := Value.ref 74 }, { hash := PyData.keyHash P (Str.ofString "__weakref__"), key := Value.str (Str.ofString "__weakref__") 270, val := Value.ref 75 }, { hash := PyData.keyHash P (Str.ofString "__doc__"), key := Value.str (Str.ofString "__doc__") 271, val := Value.none }] 4 }
noncomputable def ob73 (P : Params) : Obj := { cls := Value.type "type", data := Data.cls { name := Str.ofString "Script", bases := [Value.type "object"], mro := [Value.ref 73, Value.type "object"], ns := 72, qualname := Str.ofString "Script" }, slots := #[none, none, some (Value.str (Str.ofString "Script") 234), some (Value.str (Str.ofString "Script") 242), some (Value.builtin "object.__new__"), some (Value.bool true)] }
noncomputable def ob90 (P : Params) : Obj := { cls := Value.type "code", data := Data.fields #[Value.str (Str.ofString "__init__") 286, Value.str (Str.ofString "Feature.__init__") 287, Value.str (Str.ofString "/claim/cut.py") 288, Value.int 24 0, Value.int 3 0, Value.int 0 0, Value.int 0 0, Value.int 3 0, Value.ref 85, Value.bool true, Value.int 181 0, Value.ref 86, Value.none, Value.ref 87, Value.ref 88, Value.ref 89, Value.int 292 0, Value.int 24 0, Value.str (Str.ofString "/claim/cut.py") 293] }
noncomputable def ob91 (P : Params) : Obj := { cls := Value.type "function", data := Data.func { name := Str.ofString "__init__", qualname := Str.ofString "Feature.__init__", params := fnFeatureS.1.1, body := .stmts fnFeatureS.1.2.1, scope := fnFeatureS.1.2.2, globals := 3, closure := [], defaults := Value.none, kwdefaults := Value.none, pyModule := Value.str (Str.ofString "joinedhand.layout") 194, code := Value.ref 90 } }
noncomputable def ob100 (P : Params) : Obj := { cls := Value.type "dict", data := Data.dict #[{ hash := PyData.keyHash P (Str.ofString "__module__"), key := Value.str (Str.ofString "__module__") 281, val := Value.str (Str.ofString "joinedhand.layout") 194 }, { hash := PyData.keyHash P (Str.ofString "__firstlineno__"), key := Value.str (Str.ofString "__firstlineno__") 285, val := Value.int 22 284 }, { hash := PyData.keyHash P (Str.ofString "__init__"), key := Value.str (Str.ofString "__init__") 294, val := Value.ref 91 }, { hash := PyData.keyHash P (Str.ofString "told"), key := Value.str (Str.ofString "told") 301, val := Value.ref 98 }, { hash := PyData.keyHash P (Str.ofString "__static_attributes__"), key := Value.str (Str.ofString "__static_attributes__") 304, val := Value.ref 99 }, { hash := PyData.keyHash P (Str.ofString "__dict__"), key := Value.str (Str.ofString "__dict__") 306, val := Value.ref 102 }, { hash := PyData.keyHash P (Str.ofString "__weakref__"), key := Value.str (Str.ofString "__weakref__") 308, val := Value.ref 103 }, { hash := PyData.keyHash P (Str.ofString "__doc__"), key := Value.str (Str.ofString "__doc__") 309, val := Value.none }] 4 }
noncomputable def ob101 (P : Params) : Obj := { cls := Value.type "type", data := Data.cls { name := Str.ofString "Feature", bases := [Value.type "object"], mro := [Value.ref 101, Value.type "object"], ns := 100, qualname := Str.ofString "Feature" }, slots := #[none, none, some (Value.str (Str.ofString "Feature") 274), some (Value.str (Str.ofString "Feature") 282), some (Value.builtin "object.__new__"), some (Value.bool true)] }
noncomputable def ob118 (P : Params) : Obj := { cls := Value.type "code", data := Data.fields #[Value.str (Str.ofString "__init__") 324, Value.str (Str.ofString "Layout.__init__") 325, Value.str (Str.ofString "/claim/cut.py") 326, Value.int 32 0, Value.int 4 0, Value.int 0 0, Value.int 0 0, Value.int 3 0, Value.ref 113, Value.bool true, Value.int 181 0, Value.ref 114, Value.none, Value.ref 115, Value.ref 116, Value.ref 117, Value.int 331 0, Value.int 32 0, Value.str (Str.ofString "/claim/cut.py") 332] }
noncomputable def ob119 (P : Params) : Obj := { cls := Value.type "function", data := Data.func { name := Str.ofString "__init__", qualname := Str.ofString "Layout.__init__", params := fnLayoutS.1.1, body := .stmts fnLayoutS.1.2.1, scope := fnLayoutS.1.2.2, globals := 3, closure := [], defaults := Value.none, kwdefaults := Value.none, pyModule := Value.str (Str.ofString "joinedhand.layout") 194, code := Value.ref 118 } }
noncomputable def ob128 (P : Params) : Obj := { cls := Value.type "dict", data := Data.dict #[{ hash := PyData.keyHash P (Str.ofString "__module__"), key := Value.str (Str.ofString "__module__") 319, val := Value.str (Str.ofString "joinedhand.layout") 194 }, { hash := PyData.keyHash P (Str.ofString "__firstlineno__"), key := Value.str (Str.ofString "__firstlineno__") 323, val := Value.int 30 322 }, { hash := PyData.keyHash P (Str.ofString "__init__"), key := Value.str (Str.ofString "__init__") 333, val := Value.ref 119 }, { hash := PyData.keyHash P (Str.ofString "told"), key := Value.str (Str.ofString "told") 340, val := Value.ref 126 }, { hash := PyData.keyHash P (Str.ofString "__static_attributes__"), key := Value.str (Str.ofString "__static_attributes__") 344, val := Value.ref 127 }, { hash := PyData.keyHash P (Str.ofString "__dict__"), key := Value.str (Str.ofString "__dict__") 346, val := Value.ref 130 }, { hash := PyData.keyHash P (Str.ofString "__weakref__"), key := Value.str (Str.ofString "__weakref__") 348, val := Value.ref 131 }, { hash := PyData.keyHash P (Str.ofString "__doc__"), key := Value.str (Str.ofString "__doc__") 349, val := Value.none }] 4 }
noncomputable def ob129 (P : Params) : Obj := { cls := Value.type "type", data := Data.cls { name := Str.ofString "Layout", bases := [Value.type "object"], mro := [Value.ref 129, Value.type "object"], ns := 128, qualname := Str.ofString "Layout" }, slots := #[none, none, some (Value.str (Str.ofString "Layout") 312), some (Value.str (Str.ofString "Layout") 320), some (Value.builtin "object.__new__"), some (Value.bool true)] }
noncomputable def ob139 (P : Params) : Obj := { cls := Value.type "code", data := Data.fields #[Value.str (Str.ofString "padded") 354, Value.str (Str.ofString "padded") 355, Value.str (Str.ofString "/claim/cut.py") 356, Value.int 40 0, Value.int 1 0, Value.int 0 0, Value.int 0 0, Value.int 3 0, Value.ref 134, Value.bool true, Value.int 181 0, Value.ref 135, Value.none, Value.ref 136, Value.ref 137, Value.ref 138, Value.int 358 0, Value.int 40 0, Value.str (Str.ofString "/claim/cut.py") 359] }
noncomputable def ob140 (P : Params) : Obj := { cls := Value.type "function", data := Data.func { name := Str.ofString "padded", qualname := Str.ofString "padded", params := fnpaddedS.1.1, body := .stmts fnpaddedS.1.2.1, scope := fnpaddedS.1.2.2, globals := 3, closure := [], defaults := Value.none, kwdefaults := Value.none, pyModule := Value.str (Str.ofString "joinedhand.builder") 352, code := Value.ref 139 } }
noncomputable def ob144 (P : Params) : Obj := { cls := Value.type "code", data := Data.fields #[Value.str (Str.ofString "feature_groups") 361, Value.str (Str.ofString "feature_groups") 362, Value.str (Str.ofString "/claim/cut.py") 363, Value.int 42 0, Value.int 2 0, Value.int 0 0, Value.int 0 0, Value.int 3 0, Value.ref 141, Value.bool true, Value.int 181 0, Value.ref 142, Value.none, Value.none, Value.none, Value.ref 143, Value.int 364 0, Value.int 42 0, Value.str (Str.ofString "/claim/cut.py") 365] }
noncomputable def ob145 (P : Params) : Obj := { cls := Value.type "function", data := Data.func { name := Str.ofString "feature_groups", qualname := Str.ofString "feature_groups", params := fnfeaturegroupsS.1.1, body := .stmts fnfeaturegroupsS.1.2.1, scope := fnfeaturegroupsS.1.2.2, globals := 3, closure := [], defaults := Value.none, kwdefaults := Value.none, pyModule := Value.str (Str.ofString "joinedhand.builder") 352, code := Value.ref 144 } }
noncomputable def ob151 (P : Params) : Obj := { cls := Value.type "code", data := Data.fields #[Value.str (Str.ofString "feature_rows") 367, Value.str (Str.ofString "feature_rows") 368, Value.str (Str.ofString "/claim/cut.py") 369, Value.int 53 0, Value.int 1 0, Value.int 0 0, Value.int 0 0, Value.int 3 0, Value.ref 146, Value.bool true, Value.int 181 0, Value.ref 147, Value.none, Value.ref 148, Value.ref 149, Value.ref 150, Value.int 375 0, Value.int 53 0, Value.str (Str.ofString "/claim/cut.py") 376] }
noncomputable def ob152 (P : Params) : Obj := { cls := Value.type "function", data := Data.func { name := Str.ofString "feature_rows", qualname := Str.ofString "feature_rows", params := fnfeaturerowsS.1.1, body := .stmts fnfeaturerowsS.1.2.1, scope := fnfeaturerowsS.1.2.2, globals := 3, closure := [], defaults := Value.none, kwdefaults := Value.none, pyModule := Value.str (Str.ofString "joinedhand.builder") 352, code := Value.ref 151 } }
noncomputable def ob156 (P : Params) : Obj := { cls := Value.type "code", data := Data.fields #[Value.str (Str.ofString "langsys_of") 378, Value.str (Str.ofString "langsys_of") 379, Value.str (Str.ofString "/claim/cut.py") 380, Value.int 61 0, Value.int 2 0, Value.int 0 0, Value.int 0 0, Value.int 3 0, Value.ref 153, Value.bool true, Value.int 181 0, Value.ref 154, Value.none, Value.none, Value.none, Value.ref 155, Value.int 381 0, Value.int 61 0, Value.str (Str.ofString "/claim/cut.py") 382] }
noncomputable def ob157 (P : Params) : Obj := { cls := Value.type "function", data := Data.func { name := Str.ofString "langsys_of", qualname := Str.ofString "langsys_of", params := fnlangsysofS.1.1, body := .stmts fnlangsysofS.1.2.1, scope := fnlangsysofS.1.2.2, globals := 3, closure := [], defaults := Value.none, kwdefaults := Value.none, pyModule := Value.str (Str.ofString "joinedhand.builder") 352, code := Value.ref 156 } }
noncomputable def ob163 (P : Params) : Obj := { cls := Value.type "code", data := Data.fields #[Value.str (Str.ofString "scripts_of") 384, Value.str (Str.ofString "scripts_of") 385, Value.str (Str.ofString "/claim/cut.py") 386, Value.int 63 0, Value.int 2 0, Value.int 0 0, Value.int 0 0, Value.int 3 0, Value.ref 158, Value.bool true, Value.int 181 0, Value.ref 159, Value.none, Value.ref 160, Value.ref 161, Value.ref 162, Value.int 393 0, Value.int 63 0, Value.str (Str.ofString "/claim/cut.py") 394] }
noncomputable def ob164 (P : Params) : Obj := { cls := Value.type "function", data := Data.func { name := Str.ofString "scripts_of", qualname := Str.ofString "scripts_of", params := fnscriptsofS.1.1, body := .stmts fnscriptsofS.1.2.1, scope := fnscriptsofS.1.2.2, globals := 3, closure := [], defaults := Value.none, kwdefaults := Value.none, pyModule := Value.str (Str.ofString "joinedhand.builder") 352, code := Value.ref 163 } }
noncomputable def ob165 (P : Params) : Obj := { cls := Value.type "tuple", data := Data.seq #[Value.str (Str.ofString "DFLT") 398, Value.str (Str.ofString "dflt") 399, Value.str (Str.ofString "latn") 400] }
noncomputable def ob171 (P : Params) : Obj := { cls := Value.type "code", data := Data.fields #[Value.str (Str.ofString "choose_script") 404, Value.str (Str.ofString "choose_script") 405, Value.str (Str.ofString "/claim/cut.py") 406, Value.int 77 0, Value.int 2 0, Value.int 0 0, Value.int 0 0, Value.int 3 0, Value.ref 166, Value.bool true, Value.int 181 0, Value.ref 167, Value.none, Value.ref 168, Value.ref 169, Value.ref 170, Value.int 410 0, Value.int 77 0, Value.str (Str.ofString "/claim/cut.py") 411] }
noncomputable def ob172 (P : Params) : Obj := { cls := Value.type "function", data := Data.func { name := Str.ofString "choose_script", qualname := Str.ofString "choose_script", params := fnchoosescriptS.1.1, body := .stmts fnchoosescriptS.1.2.1, scope := fnchoosescriptS.1.2.2, globals := 3, closure := [], defaults := Value.none, kwdefaults := Value.none, pyModule := Value.str (Str.ofString "joinedhand.choosing") 396, code := Value.ref 171 } }
noncomputable def ob178 (P : Params) : Obj := { cls := Value.type "code", data := Data.fields #[Value.str (Str.ofString "choose_langsys") 413, Value.str (Str.ofString "choose_langsys") 414, Value.str (Str.ofString "/claim/cut.py") 415, Value.int 82 0, Value.int 2 0, Value.int 0 0, Value.int 0 0, Value.int 3 0, Value.ref 173, Value.bool true, Value.int 181 0, Value.ref 174, Value.none, Value.ref 175, Value.ref 176, Value.ref 177, Value.int 418 0, Value.int 82 0, Value.str (Str.ofString "/claim/cut.py") 419] }
noncomputable def ob179 (P : Params) : Obj := { cls := Value.type "function", data := Data.func { name := Str.ofString "choose_langsys", qualname := Str.ofString "choose_langsys", params := fnchooselangsysS.1.1, body := .stmts fnchooselangsysS.1.2.1, scope := fnchooselangsysS.1.2.2, globals := 3, closure := [], defaults := Value.none, kwdefaults := Value.none, pyModule := Value.str (Str.ofString "joinedhand.choosing") 396, code := Value.ref 178 } }
noncomputable def ob185 (P : Params) : Obj := { cls := Value.type "code", data := Data.fields #[Value.str (Str.ofString "feature_at") 421, Value.str (Str.ofString "feature_at") 422, Value.str (Str.ofString "/claim/cut.py") 423, Value.int 86 0, Value.int 2 0, Value.int 0 0, Value.int 0 0, Value.int 3 0, Value.ref 180, Value.bool true, Value.int 181 0, Value.ref 181, Value.none, Value.ref 182, Value.ref 183, Value.ref 184, Value.int 426 0, Value.int 86 0, Value.str (Str.ofString "/claim/cut.py") 427] }
noncomputable def ob186 (P : Params) : Obj := { cls := Value.type "function", data := Data.func { name := Str.ofString "feature_at", qualname := Str.ofString "feature_at", params := fnfeatureatS.1.1, body := .stmts fnfeatureatS.1.2.1, scope := fnfeatureatS.1.2.2, globals := 3, closure := [], defaults := Value.none, kwdefaults := Value.none, pyModule := Value.str (Str.ofString "joinedhand.choosing") 396, code := Value.ref 185 } }
noncomputable def ob192 (P : Params) : Obj := { cls := Value.type "code", data := Data.fields #[Value.str (Str.ofString "required_feature") 429, Value.str (Str.ofString "required_feature") 430, Value.str (Str.ofString "/claim/cut.py") 431, Value.int 90 0, Value.int 2 0, Value.int 0 0, Value.int 0 0, Value.int 3 0, Value.ref 187, Value.bool true, Value.int 181 0, Value.ref 188, Value.none, Value.ref 189, Value.ref 190, Value.ref 191, Value.int 434 0, Value.int 90 0, Value.str (Str.ofString "/claim/cut.py") 435] }
noncomputable def ob193 (P : Params) : Obj := { cls := Value.type "function", data := Data.func { name := Str.ofString "required_feature", qualname := Str.ofString "required_feature", params := fnrequiredfeatureS.1.1, body := .stmts fnrequiredfeatureS.1.2.1, scope := fnrequiredfeatureS.1.2.2, globals := 3, closure := [], defaults := Value.none, kwdefaults := Value.none, pyModule := Value.str (Str.ofString "joinedhand.choosing") 396, code := Value.ref 192 } }
noncomputable def ob199 (P : Params) : Obj := { cls := Value.type "code", data := Data.fields #[Value.str (Str.ofString "feature_indexes") 437, Value.str (Str.ofString "feature_indexes") 438, Value.str (Str.ofString "/claim/cut.py") 439, Value.int 94 0, Value.int 3 0, Value.int 0 0, Value.int 0 0, Value.int 3 0, Value.ref 194, Value.bool true, Value.int 181 0, Value.ref 195, Value.none, Value.ref 196, Value.ref 197, Value.ref 198, Value.int 446 0, Value.int 94 0, Value.str (Str.ofString "/claim/cut.py") 447] }
noncomputable def ob200 (P : Params) : Obj := { cls := Value.type "function", data := Data.func { name := Str.ofString "feature_indexes", qualname := Str.ofString "feature_indexes", params := fnfeatureindexesS.1.1, body := .stmts fnfeatureindexesS.1.2.1, scope := fnfeatureindexesS.1.2.2, globals := 3, closure := [], defaults := Value.none, kwdefaults := Value.none, pyModule := Value.str (Str.ofString "joinedhand.choosing") 396, code := Value.ref 199 } }
noncomputable def ob206 (P : Params) : Obj := { cls := Value.type "code", data := Data.fields #[Value.str (Str.ofString "add_lookups") 449, Value.str (Str.ofString "add_lookups") 450, Value.str (Str.ofString "/claim/cut.py") 451, Value.int 102 0, Value.int 4 0, Value.int 0 0, Value.int 0 0, Value.int 3 0, Value.ref 201, Value.bool true, Value.int 181 0, Value.ref 202, Value.none, Value.ref 203, Value.ref 204, Value.ref 205, Value.int 457 0, Value.int 102 0, Value.str (Str.ofString "/claim/cut.py") 458] }
noncomputable def ob207 (P : Params) : Obj := { cls := Value.type "function", data := Data.func { name := Str.ofString "add_lookups", qualname := Str.ofString "add_lookups", params := fnaddlookupsS.1.1, body := .stmts fnaddlookupsS.1.2.1, scope := fnaddlookupsS.1.2.2, globals := 3, closure := [], defaults := Value.none, kwdefaults := Value.none, pyModule := Value.str (Str.ofString "joinedhand.choosing") 396, code := Value.ref 206 } }
noncomputable def ob208 (P : Params) : Obj := { cls := Value.type "tuple", data := Data.seq #[Value.bool true] }
noncomputable def ob212 (P : Params) : Obj := { cls := Value.type "code", data := Data.fields #[Value.str (Str.ofString "gather") 460, Value.str (Str.ofString "gather") 461, Value.str (Str.ofString "/claim/cut.py") 462, Value.int 106 0, Value.int 4 0, Value.int 0 0, Value.int 0 0, Value.int 3 0, Value.ref 209, Value.bool true, Value.int 181 0, Value.ref 210, Value.none, Value.none, Value.none, Value.ref 211, Value.int 463 0, Value.int 106 0, Value.str (Str.ofString "/claim/cut.py") 464] }
noncomputable def ob213 (P : Params) : Obj := { cls := Value.type "function", data := Data.func { name := Str.ofString "gather", qualname := Str.ofString "gather", params := fngatherS.1.1, body := .stmts fngatherS.1.2.1, scope := fngatherS.1.2.2, globals := 3, closure := [], defaults := Value.ref 208, kwdefaults := Value.none, pyModule := Value.str (Str.ofString "joinedhand.choosing") 396, code := Value.ref 212 } }
noncomputable def ob226 (P : Params) : Obj := { cls := Value.type "code", data := Data.fields #[Value.str (Str.ofString "__init__") 480, Value.str (Str.ofString "RuleTree.__init__") 481, Value.str (Str.ofString "/claim/cut.py") 482, Value.int 119 0, Value.int 3 0, Value.int 0 0, Value.int 0 0, Value.int 3 0, Value.ref 221, Value.bool true, Value.int 181 0, Value.ref 222, Value.none, Value.ref 223, Value.ref 224, Value.ref 225, Value.int 486 0, Value.int 119 0, Value.str (Str.ofString "/claim/cut.py") 487] }
noncomputable def ob227 (P : Params) : Obj := { cls := Value.type "function", data := Data.func { name := Str.ofString "__init__", qualname := Str.ofString "RuleTree.__init__", params := fnRuleTreeS.1.1, body := .stmts fnRuleTreeS.1.2.1, scope := fnRuleTreeS.1.2.2, globals := 3, closure := [], defaults := Value.none, kwdefaults := Value.none, pyModule := Value.str (Str.ofString "joinedhand.rules") 466, code := Value.ref 226 } }
noncomputable def ob243 (P : Params) : Obj := { cls := Value.type "dict", data := Data.dict #[{ hash := PyData.keyHash P (Str.ofString "__module__"), key := Value.str (Str.ofString "__module__") 475, val := Value.str (Str.ofString "joinedhand.rules") 466 }, { hash := PyData.keyHash P (Str.ofString "__firstlineno__"), key := Value.str (Str.ofString "__firstlineno__") 479, val := Value.int 117 478 }, { hash := PyData.keyHash P (Str.ofString "__init__"), key := Value.str (Str.ofString "__init__") 488, val := Value.ref 227 }, { hash := PyData.keyHash P (Str.ofString "told"), key := Value.str (Str.ofString "told") 495, val := Value.ref 234 }, { hash := PyData.keyHash P (Str.ofString "lookup_named"), key := Value.str (Str.ofString "lookup_named") 503, val := Value.ref 241 }, { hash := PyData.keyHash P (Str.ofString "__static_attributes__"), key := Value.str (Str.ofString "__static_attributes__") 506, val := Value.ref 242 }, { hash := PyData.keyHash P (Str.ofString "__dict__"), key := Value.str (Str.ofString "__dict__") 508, val := Value.ref 245 }, { hash := PyData.keyHash P (Str.ofString "__weakref__"), key := Value.str (Str.ofString "__weakref__") 510, val := Value.ref 246 }, { hash := PyData.keyHash P (Str.ofString "__doc__"), key := Value.str (Str.ofString "__doc__") 511, val := Value.none }] 4 }
noncomputable def ob244 (P : Params) : Obj := { cls := Value.type "type", data := Data.cls { name := Str.ofString "RuleTree", bases := [Value.type "object"], mro := [Value.ref 244, Value.type "object"], ns := 243, qualname := Str.ofString "RuleTree" }, slots := #[none, none, some (Value.str (Str.ofString "RuleTree") 468), some (Value.str (Str.ofString "RuleTree") 476), some (Value.builtin "object.__new__"), some (Value.bool true)] }
noncomputable def ob261 (P : Params) : Obj := { cls := Value.type "code", data := Data.fields #[Value.str (Str.ofString "__init__") 526, Value.str (Str.ofString "FeatureRow.__init__") 527, Value.str (Str.ofString "/claim/cut.py") 528, Value.int 130 0, Value.int 5 0, Value.int 0 0, Value.int 0 0, Value.int 3 0, Value.ref 256, Value.bool true, Value.int 181 0, Value.ref 257, Value.none, Value.ref 258, Value.ref 259, Value.ref 260, Value.int 534 0, Value.int 130 0, Value.str (Str.ofString "/claim/cut.py") 535] }
noncomputable def ob262 (P : Params) : Obj := { cls := Value.type "function", data := Data.func { name := Str.ofString "__init__", qualname := Str.ofString "FeatureRow.__init__", params := fnFeatureRowS.1.1, body := .stmts fnFeatureRowS.1.2.1, scope := fnFeatureRowS.1.2.2, globals := 3, closure := [], defaults := Value.none, kwdefaults := Value.none, pyModule := Value.str (Str.ofString "joinedhand.rules") 466, code := Value.ref 261 } }
noncomputable def ob271 (P : Params) : Obj := { cls := Value.type "dict", data := Data.dict #[{ hash := PyData.keyHash P (Str.ofString "__module__"), key := Value.str (Str.ofString "__module__") 521, val := Value.str (Str.ofString "joinedhand.rules") 466 }, { hash := PyData.keyHash P (Str.ofString "__firstlineno__"), key := Value.str (Str.ofString "__firstlineno__") 525, val := Value.int 128 524 }, { hash := PyData.keyHash P (Str.ofString "__init__"), key := Value.str (Str.ofString "__init__") 536, val := Value.ref 262 }, { hash := PyData.keyHash P (Str.ofString "told"), key := Value.str (Str.ofString "told") 543, val := Value.ref 269 }, { hash := PyData.keyHash P (Str.ofString "__static_attributes__"), key := Value.str (Str.ofString "__static_attributes__") 548, val := Value.ref 270 }, { hash := PyData.keyHash P (Str.ofString "__dict__"), key := Value.str (Str.ofString "__dict__") 550, val := Value.ref 273 }, { hash := PyData.keyHash P (Str.ofString "__weakref__"), key := Value.str (Str.ofString "__weakref__") 552, val := Value.ref 274 }, { hash := PyData.keyHash P (Str.ofString "__doc__"), key := Value.str (Str.ofString "__doc__") 553, val := Value.none }] 4 }
noncomputable def ob272 (P : Params) : Obj := { cls := Value.type "type", data := Data.cls { name := Str.ofString "FeatureRow", bases := [Value.type "object"], mro := [Value.ref 272, Value.type "object"], ns := 271, qualname := Str.ofString "FeatureRow" }, slots := #[none, none, some (Value.str (Str.ofString "FeatureRow") 514), some (Value.str (Str.ofString "FeatureRow") 522), some (Value.builtin "object.__new__"), some (Value.bool true)] }
noncomputable def ob282 (P : Params) : Obj := { cls := Value.type "code", data := Data.fields #[Value.str (Str.ofString "_law_draw") 558, Value.str (Str.ofString "_law_draw") 559, Value.str (Str.ofString "/claim/cut.py") 560, Value.int 139 0, Value.int 2 0, Value.int 0 0, Value.int 0 0, Value.int 3 0, Value.ref 277, Value.bool true, Value.int 181 0, Value.ref 278, Value.none, Value.ref 279, Value.ref 280, Value.ref 281, Value.int 564 0, Value.int 139 0, Value.str (Str.ofString "/claim/cut.py") 565] }
noncomputable def ob283 (P : Params) : Obj := { cls := Value.type "function", data := Data.func { name := Str.ofString "_law_draw", qualname := Str.ofString "_law_draw", params := fnlawdrawS.1.1, body := .stmts fnlawdrawS.1.2.1, scope := fnlawdrawS.1.2.2, globals := 3, closure := [], defaults := Value.none, kwdefaults := Value.none, pyModule := Value.str (Str.ofString "law_pb0176_01") 556, code := Value.ref 282 } }
noncomputable def ob287 (P : Params) : Obj := { cls := Value.type "code", data := Data.fields #[Value.str (Str.ofString "law") 567, Value.str (Str.ofString "law") 568, Value.str (Str.ofString "/claim/cut.py") 569, Value.int 145 0, Value.int 1 0, Value.int 0 0, Value.int 0 0, Value.int 3 0, Value.ref 284, Value.bool true, Value.int 181 0, Value.ref 285, Value.none, Value.none, Value.none, Value.ref 286, Value.int 570 0, Value.int 145 0, Value.str (Str.ofString "/claim/cut.py") 571] }
noncomputable def ob288 (P : Params) : Obj := { cls := Value.type "function", data := Data.func { name := Str.ofString "law", qualname := Str.ofString "law", params := fnlawS.1.1, body := .stmts fnlawS.1.2.1, scope := fnlawS.1.2.2, globals := 3, closure := [], defaults := Value.none, kwdefaults := Value.none, pyModule := Value.str (Str.ofString "law_pb0176_01") 556, code := Value.ref 287 } }
noncomputable def KF (P : Params) : Frag := [(3, ob3 P), (34, ob34 P), (35, ob35 P), (44, ob44 P), (45, ob45 P), (62, ob62 P), (63, ob63 P), (72, ob72 P), (73, ob73 P), (90, ob90 P), (91, ob91 P), (100, ob100 P), (101, ob101 P), (118, ob118 P), (119, ob119 P), (128, ob128 P), (129, ob129 P), (139, ob139 P), (140, ob140 P), (144, ob144 P), (145, ob145 P), (151, ob151 P), (152, ob152 P), (156, ob156 P), (157, ob157 P), (163, ob163 P), (164, ob164 P), (165, ob165 P), (171, ob171 P), (172, ob172 P), (178, ob178 P), (179, ob179 P), (185, ob185 P), (186, ob186 P), (192, ob192 P), (193, ob193 P), (199, ob199 P), (200, ob200 P), (206, ob206 P), (207, ob207 P), (208, ob208 P), (212, ob212 P), (213, ob213 P), (226, ob226 P), (227, ob227 P), (243, ob243 P), (244, ob244 P), (261, ob261 P), (262, ob262 P), (271, ob271 P), (272, ob272 P), (282, ob282 P), (283, ob283 P), (287, ob287 P), (288, ob288 P)]
def KAs : List Addr := [3, 34, 35, 44, 45, 62, 63, 72, 73, 90, 91, 100, 101, 118, 119, 128, 129, 139, 140, 144, 145, 151, 152, 156, 157, 163, 164, 165, 171, 172, 178, 179, 185, 186, 192, 193, 199, 200, 206, 207, 208, 212, 213, 226, 227, 243, 244, 261, 262, 271, 272, 282, 283, 287, 288]
noncomputable def HK : Hook := kHook KF KAs (fun _ => by kernel_rfl)
noncomputable def qv : Program := PySem.W.view pw [0, 2, 3, 4, 5, 7, 8, 9, 10, 11, 13, 14, 15, 16, 17, 18, 19, 20, 23, 24, 26, 27]
end Mine

namespace Mine

inductive AV where
  | none
  | bool (b : Bool)
  | int (i : Int)
  | str (x : Str)
  | tup (l : List AV)
  | ref (a : Addr)

mutual
inductive VR (h : Heap) : Value → AV → Prop
  | none : VR h .none .none
  | bool (b : Bool) : VR h (.bool b) (.bool b)
  | int (i : Int) (t : Tok) : VR h (.int i t) (.int i)
  | str (x : Str) (t : Tok) : VR h (.str x t) (.str x)
  | tup {a : Addr} {o : Obj} {vs : List Value} {n : Nat} {ds : List AV} : h.get? a = some o → o.cls = .type "tuple" → o.data = .seq (List.toArray vs) n → VRs h vs ds → VR h (.ref a) (.tup ds)
  | ref (a : Addr) : VR h (.ref a) (.ref a)
inductive VRs (h : Heap) : List Value → List AV → Prop
  | nil : VRs h [] []
  | cons {v : Value} {vs : List Value} {d : AV} {ds : List AV} : VR h v d → VRs h vs ds → VRs h (v :: vs) (d :: ds)
end

def IsT (o : Obj) : Prop := o.cls = .type "tuple" ∧ ∃ xs n, o.data = .seq xs n
def KeepT (h h' : Heap) : Prop := ∀ a o, h.get? a = some o → IsT o → h'.get? a = some o

theorem KeepT.refl (h : Heap) : KeepT h h := fun _ _ e _ => e
theorem KeepT.trans {h₁ h₂ h₃ : Heap} (x : KeepT h₁ h₂) (y : KeepT h₂ h₃) : KeepT h₁ h₃ := fun a o e c => y a o (x a o e c) c

mutual
theorem VR.keep {h h' : Heap} (k : KeepT h h') : ∀ {v : Value} {d : AV}, VR h v d → VR h' v d
  | _, _, .none => .none
  | _, _, .bool b => .bool b
  | _, _, .int i t => .int i t
  | _, _, .str x t => .str x t
  | _, _, .tup e c d r => .tup (k _ _ e ⟨c, _, _, d⟩) c d (VRs.keep k r)
  | _, _, .ref a => .ref a
theorem VRs.keep {h h' : Heap} (k : KeepT h h') : ∀ {vs : List Value} {ds : List AV}, VRs h vs ds → VRs h' vs ds
  | _, _, .nil => .nil
  | _, _, .cons a r => .cons (VR.keep k a) (VRs.keep k r)
end

theorem VRs.length {h : Heap} : ∀ {vs : List Value} {ds : List AV}, VRs h vs ds → vs.length = ds.length
  | [], _, x => by cases x; rfl
  | _ :: _, _, x => by cases x with | cons _ r => simp [VRs.length r]
theorem VRs.append {h : Heap} : ∀ {vs : List Value} {ds : List AV} {ws : List Value} {es : List AV}, VRs h vs ds → VRs h ws es → VRs h (vs ++ ws) (ds ++ es)
  | [], _, _, _, x, y => by cases x; exact y
  | _ :: _, _, _, _, x, y => by cases x with | cons a r => exact .cons a (VRs.append r y)
theorem VRs.get {h : Heap} : ∀ {vs : List Value} {ds : List AV} {i : Nat} {d : AV}, VRs h vs ds → ds[i]? = some d → ∃ v, vs[i]? = some v ∧ VR h v d
  | [], _, i, _, x, e => by cases x; simp at e
  | v :: _, _, 0, _, x, e => by cases x with | cons a r => simp at e; subst e; exact ⟨v, rfl, a⟩
  | _ :: _, _, i + 1, _, x, e => by
    cases x with
    | cons a r => simp at e; obtain ⟨v, hv, hr⟩ := VRs.get r e; exact ⟨v, by simpa using hv, hr⟩
theorem VRs.set {h : Heap} {v : Value} {d : AV} (q : VR h v d) : ∀ {vs : List Value} {ds : List AV} {i : Nat}, VRs h vs ds → VRs h (vs.set i v) (ds.set i d)
  | [], _, i, x => by cases x; exact .nil
  | _ :: _, _, 0, x => by cases x with | cons a r => exact .cons q r
  | _ :: _, _, i + 1, x => by cases x with | cons a r => exact .cons a (VRs.set q r)

inductive DR (h : Heap) {κ : Type} : List (κ × Value) → List (κ × AV) → Prop
  | nil : DR h [] []
  | cons {k : κ} {v : Value} {av : AV} {es : List (κ × Value)} {kvs : List (κ × AV)} : VR h v av → DR h es kvs → DR h ((k, v) :: es) ((k, av) :: kvs)
theorem DR.keep {h h' : Heap} (k : KeepT h h') {κ : Type} {es : List (κ × Value)} {kvs : List (κ × AV)} (x : DR h es kvs) : DR h' es kvs := by
  induction x with
  | nil => exact .nil
  | cons a _ ih => exact .cons (a.keep k) ih
theorem DR.keys {h : Heap} {κ : Type} {es : List (κ × Value)} {kvs : List (κ × AV)} (x : DR h es kvs) : es.map (·.1) = kvs.map (·.1) := by
  induction x with
  | nil => rfl
  | cons a _ ih => simp [ih]
theorem DR.length {h : Heap} {κ : Type} {es : List (κ × Value)} {kvs : List (κ × AV)} (x : DR h es kvs) : es.length = kvs.length := by
  induction x with
  | nil => rfl
  | cons a _ ih => simp [ih]

inductive DRT (h : Heap) {κ : Type} : List (κ × Addr × Value) → List (κ × AV) → Prop
  | nil : DRT h [] []
  | cons {k : κ} {a : Addr} {v : Value} {av : AV} {es : List (κ × Addr × Value)} {kvs : List (κ × AV)} : VR h v av → DRT h es kvs → DRT h ((k, a, v) :: es) ((k, av) :: kvs)
theorem DRT.keep {h h' : Heap} (k : KeepT h h') {κ : Type} {es : List (κ × Addr × Value)} {kvs : List (κ × AV)} (x : DRT h es kvs) : DRT h' es kvs := by
  induction x with
  | nil => exact .nil
  | cons a _ ih => exact .cons (a.keep k) ih
theorem DRT.keys {h : Heap} {κ : Type} {es : List (κ × Addr × Value)} {kvs : List (κ × AV)} (x : DRT h es kvs) : es.map (·.1) = kvs.map (·.1) := by
  induction x with
  | nil => rfl
  | cons a _ ih => simp [ih]
theorem DRT.length {h : Heap} {κ : Type} {es : List (κ × Addr × Value)} {kvs : List (κ × AV)} (x : DRT h es kvs) : es.length = kvs.length := by
  induction x with
  | nil => rfl
  | cons a _ ih => simp [ih]

inductive AO where
  | list (l : List AV)
  | wl (l : List AV)
  | dS (kvs : List (Str × AV)) (e : Nat)
  | dI (kvs : List (Int × AV)) (e : Nat)
  | dT (kvs : List (List Str × AV)) (e : Nat)
  | inst (C dx : Addr)
  | ns (m : List (Str × AV))
  | cell (v : Option AV)
  | it (cls : String) (fs : Array Value) (hold : List (Value × AV))
  | fx (cls : String) (fs : Array Value)
  | acc (l : List AV)
  | set (l : List Int)

abbrev Mem := Addr → Option AO
def Mem.set (G : Mem) (a : Addr) (o : AO) : Mem := fun b => if b = a then some o else G b
theorem Mem.set_self (G : Mem) (a : Addr) (o : AO) : (G.set a o) a = some o := by simp [Mem.set]
theorem Mem.set_ne (G : Mem) {a b : Addr} (o : AO) (h : b ≠ a) : (G.set a o) b = G b := by simp [Mem.set, h]
theorem Mem.set_set (G : Mem) (a : Addr) (o o' : AO) : (G.set a o).set a o' = G.set a o' := by
  funext b; simp only [Mem.set]; split <;> rfl

def DictAtH (prog : Program) (w : World) (h : Heap) (d : Addr) (xs : List (List Str × Addr × Value)) (e : Nat) : Prop :=
  ∃ o es, h.get? d = some o ∧ o.ExactDict ∧ o.data = .dict es e ∧ es.toList = xs.map (entryOfKey (tupleKind (strKind prog w))) ∧ (∀ x ∈ xs, (tupleKind (strKind prog w)).is h x.1 x.2.1) ∧ (xs.map (·.1)).Nodup

def esOf (a b c : Option Tok) : Array (Int × Value) := List.toArray ((a.toList.map fun t => ((0 : Int), Value.int 0 t)) ++ (b.toList.map fun t => ((1 : Int), Value.int 1 t)) ++ (c.toList.map fun t => ((2 : Int), Value.int 2 t)))
def tOf (led : Bool) (a b c : Option Tok) : SetTable := { mask := 7, place := List.toArray ((a.toList.map fun _ => 0) ++ (b.toList.map fun _ => 1) ++ (c.toList.map fun _ => 2)), dummies := #[], finger := 0, led := led, moves := 0, plain := true }
def SetAt (h : Heap) (S : Addr) (led : Bool) (a b c : Option Tok) : Prop := ∃ ep, h.get? S = some { cls := .type "set", dict := none, data := .set (esOf a b c) ep (tOf led a b c) }
def SetHas (w : World) (h : Heap) (S : Addr) (l : List Int) : Prop := ∃ a b c, SetAt h S (!w.params.followText "set-order") a b c ∧ a.isSome = l.contains 0 ∧ b.isSome = l.contains 1 ∧ c.isSome = l.contains 2

def OR (prog : Program) (w : World) (h : Heap) (a : Addr) : AO → Prop
  | .list l => ∃ vs n, h.get? a = some (listOf (List.toArray vs) n) ∧ VRs h vs l
  | .dS kvs e => ∃ es, h.DictAt (strKind prog w) a es e ∧ DR h es kvs ∧ (a == sysModules) = false
  | .dI kvs e => ∃ es, h.DictAt (intKind prog w) a es e ∧ DR h es kvs ∧ (a == sysModules) = false
  | .dT kvs e => ∃ xs, DictAtH prog w h a xs e ∧ DRT h xs kvs ∧ (a == sysModules) = false
  | .wl l => ∃ vs, h.IsList a (List.toArray vs) ∧ VRs h vs l
  | .inst C dx => h.get? a = some (instObj C dx)
  | .ns m => ∃ mc, h.Ns a mc ∧ (∀ x av, m.lookup x = some av → ∃ v, mc x = some v ∧ VR h v av) ∧ ∃ o es ep, h.get? a = some o ∧ o.data = .dict es ep ∧ es.size ≤ m.length
  | .cell v => ∃ o u, h.get? a = some o ∧ o.data = .cell u ∧ match v with
    | none => u = none
    | some av => ∃ x, u = some x ∧ VR h x av
  | .it cls fs hold => (∃ o, h.get? a = some o ∧ o.cls = .type cls ∧ o.data = .fields fs) ∧ ∀ p ∈ hold, VR h p.1 p.2
  | .fx cls fs => h.get? a = some { cls := .type cls, data := .fields fs }
  | .acc l => ∃ vs n, h.get? a = some (listOf (List.toArray vs) n) ∧ VRs h vs l
  | .set l => SetHas w h a l

def NotTup (h : Heap) (d : Addr) : Prop := ∀ o, h.get? d = some o → ¬ IsT o

section
variable {prog : Program} {w : World} {h h' : Heap} {a d : Addr}

theorem notTup_fresh (h : Heap) : NotTup h h.objs.size := fun _ e => absurd (Heap.lt_size e) (Nat.lt_irrefl _)

theorem OR.lt {ao : AO} (x : OR prog w h a ao) : a < h.objs.size := by
  cases ao with
  | list l => obtain ⟨_, _, e, _⟩ := x; exact Heap.lt_size e
  | wl l => obtain ⟨_, ⟨_, e, _⟩, _⟩ := x; exact Heap.lt_size e
  | dS kvs e => obtain ⟨_, ⟨o, es, e, _⟩, _⟩ := x; exact Heap.lt_size e
  | dI kvs e => obtain ⟨_, ⟨o, es, e, _⟩, _⟩ := x; exact Heap.lt_size e
  | dT kvs e => obtain ⟨_, ⟨o, es, e, _⟩, _⟩ := x; exact Heap.lt_size e
  | inst C dx => exact Heap.lt_size x
  | ns m => obtain ⟨_, n, _⟩ := x; exact n.lt
  | cell v => obtain ⟨_, _, e, _⟩ := x; exact Heap.lt_size e
  | it cls fs hold => obtain ⟨⟨_, e, _⟩, _⟩ := x; exact Heap.lt_size e
  | fx cls fs => exact Heap.lt_size x
  | acc l => obtain ⟨_, _, e, _⟩ := x; exact Heap.lt_size e
  | set l => obtain ⟨_, _, _, ⟨_, e⟩, _⟩ := x; exact Heap.lt_size e

theorem OR.notTup {ao : AO} (x : OR prog w h a ao) : NotTup h a := by
  intro o eo
  cases ao with
  | list l => obtain ⟨_, _, e, _⟩ := x; rw [eo] at e; cases e; rintro ⟨q, _⟩; injection q with q; simp at q
  | wl l => obtain ⟨_, ⟨o', e, c, _⟩, _⟩ := x; rw [eo] at e; cases e; rintro ⟨q, _⟩; rw [c] at q; injection q with q; simp at q
  | dS kvs e => obtain ⟨_, ⟨o', es, e, ⟨c, _⟩, _⟩, _⟩ := x; rw [eo] at e; cases e; rintro ⟨q, _⟩; rw [c] at q; injection q with q; simp at q
  | dI kvs e => obtain ⟨_, ⟨o', es, e, ⟨c, _⟩, _⟩, _⟩ := x; rw [eo] at e; cases e; rintro ⟨q, _⟩; rw [c] at q; injection q with q; simp at q
  | dT kvs e => obtain ⟨_, ⟨o', es, e, ⟨c, _⟩, _⟩, _⟩ := x; rw [eo] at e; cases e; rintro ⟨q, _⟩; rw [c] at q; injection q with q; simp at q
  | inst C dx => simp only [OR] at x; rw [eo] at x; cases x; rintro ⟨q, _⟩; cases q
  | ns m => obtain ⟨_, ⟨o', es, ep, e, hd, _⟩, _⟩ := x; rw [eo] at e; cases e; rintro ⟨_, _, _, q⟩; rw [hd] at q; cases q
  | cell v => obtain ⟨_, _, e, c, _⟩ := x; rw [eo] at e; cases e; rintro ⟨_, _, _, q⟩; rw [c] at q; cases q
  | it cls fs hold => obtain ⟨⟨_, e, _, c⟩, _⟩ := x; rw [eo] at e; cases e; rintro ⟨_, _, _, q⟩; rw [c] at q; cases q
  | fx cls fs => simp only [OR] at x; rw [eo] at x; cases x; rintro ⟨_, _, _, q⟩; cases q
  | acc l => obtain ⟨_, _, e, _⟩ := x; rw [eo] at e; cases e; rintro ⟨q, _⟩; injection q with q; simp at q
  | set l => obtain ⟨_, _, _, ⟨_, e⟩, _⟩ := x; rw [eo] at e; cases e; rintro ⟨q, _⟩; injection q with q; simp at q

theorem keepT_of (k : Heap.ExtBut d h h') (n : NotTup h d) : KeepT h h' := fun a o e c => k a o (fun q => n o (q ▸ e) c) e

theorem tk_ext {ks : List Str} {b : Addr} (k : Heap.ExtBut d h h') (n : NotTup h d) (x : (tupleKind (strKind prog w)).is h ks b) : (tupleKind (strKind prog w)).is h' ks b := by
  obtain ⟨o, items, m, e, c, r⟩ := x
  exact ⟨o, items, m, k b o (fun q => n o (q ▸ e) ⟨c, _, _, r.1⟩) e, c, r⟩

theorem OR.ext {ao : AO} (k : Heap.ExtBut d h h') (n : NotTup h d) (hne : a ≠ d) (x : OR prog w h a ao) : OR prog w h' a ao := by
  have kt := keepT_of k n
  cases ao with
  | list l => obtain ⟨vs, m, e, r⟩ := x; exact ⟨vs, m, k _ _ hne e, r.keep kt⟩
  | wl l => obtain ⟨vs, e, r⟩ := x; exact ⟨vs, e.extBut k hne, r.keep kt⟩
  | dS kvs e => obtain ⟨es, e, r, z⟩ := x; exact ⟨es, e.extBut k hne, r.keep kt, z⟩
  | dI kvs e => obtain ⟨es, e, r, z⟩ := x; exact ⟨es, e.extBut k hne, r.keep kt, z⟩
  | dT kvs e => obtain ⟨xs, ⟨o, es, e, a1, a2, a3, a4, a5⟩, r, z⟩ := x; exact ⟨xs, ⟨o, es, k _ _ hne e, a1, a2, a3, fun y hy => tk_ext k n (a4 y hy), a5⟩, r.keep kt, z⟩
  | inst C dx => exact k _ _ hne x
  | ns m => obtain ⟨mc, n', r, o, es, ep, h1, h2⟩ := x; exact ⟨mc, n'.extBut k hne, fun x av e => let ⟨v, e1, e2⟩ := r x av e; ⟨v, e1, e2.keep kt⟩, o, es, ep, k _ _ hne h1, h2⟩
  | cell v =>
    obtain ⟨o, u, e, a1, r⟩ := x
    refine ⟨o, u, k _ _ hne e, a1, ?_⟩
    cases v with
    | none => exact r
    | some av => obtain ⟨y, e1, e2⟩ := r; exact ⟨y, e1, e2.keep kt⟩
  | it cls fs hold => obtain ⟨⟨o, e, r⟩, r2⟩ := x; exact ⟨⟨o, k _ _ hne e, r⟩, fun p hp => (r2 p hp).keep kt⟩
  | fx cls fs => exact k _ _ hne x
  | acc l => obtain ⟨vs, m, e, r⟩ := x; exact ⟨vs, m, k _ _ hne e, r.keep kt⟩
  | set l => obtain ⟨a', b', c', ⟨ep, e⟩, r⟩ := x; exact ⟨a', b', c', ⟨ep, k _ _ hne e⟩, r⟩
end

structure FA where
  L : Addr
  m : List (Str × AV)

def FrOk (h : Heap) (f : FA) : Prop := ∃ mc, h.Ns f.L mc ∧ ∀ x av, f.m.lookup x = some av → ∃ v, mc x = some v ∧ VR h v av

theorem Ns.notTup {h : Heap} {L : Addr} {m : Str → Option Value} (x : h.Ns L m) : NotTup h L := by
  obtain ⟨o, es, ep, e, hd, _⟩ := x
  rintro o' e' ⟨_, _, _, q⟩
  rw [e] at e'; cases e'; rw [hd] at q; cases q
theorem FrOk.notTup {h : Heap} {f : FA} (x : FrOk h f) : NotTup h f.L := let ⟨_, n, _⟩ := x; Ns.notTup n

structure St (prog : Program) (w : World) (B : Heap) (s₀ : Shared) (Fs : List FA) (G : Mem) (s : Shared) : Prop where
  base : ∀ a o, B.get? a = some o → s.heap.get? a = some o
  fr : ∀ f ∈ Fs, FrOk s.heap f
  frG : ∀ f ∈ Fs, G f.L = none ∧ B.get? f.L = none
  nd : (Fs.map (·.L)).Nodup
  g : ∀ a o, G a = some o → OR prog w s.heap a o
  gB : ∀ a o, G a = some o → B.get? a = none
  sh : s = { s₀ with heap := s.heap, toks := s.toks }

section
variable {prog : Program} {w : World} {B : Heap} {s₀ s : Shared} {Fs : List FA} {G : Mem}

theorem St.lt (S : St prog w B s₀ Fs G s) {a : Addr} {o : AO} (e : G a = some o) : a < s.heap.objs.size := (S.g a o e).lt
theorem FrOk.lt {h : Heap} {f : FA} (x : FrOk h f) : f.L < h.objs.size := let ⟨_, n, _⟩ := x; n.lt
theorem St.baseLt (S : St prog w B s₀ Fs G s) {a : Addr} {o : Obj} (e : B.get? a = some o) : a < s.heap.objs.size := Heap.lt_size (S.base a o e)
theorem St.freshG (S : St prog w B s₀ Fs G s) {a : Addr} (h : s.heap.objs.size ≤ a) : G a = none := by
  cases e : G a with
  | none => rfl
  | some o => exact absurd (S.lt e) (Nat.not_lt.mpr h)
theorem St.freshB (S : St prog w B s₀ Fs G s) {a : Addr} (h : s.heap.objs.size ≤ a) : B.get? a = none := by
  cases e : B.get? a with
  | none => rfl
  | some o => exact absurd (S.baseLt e) (Nat.not_lt.mpr h)

theorem FrOk.ext {h h' : Heap} {d : Addr} {f : FA} (k : Heap.ExtBut d h h') (n : NotTup h d) (hne : f.L ≠ d) (x : FrOk h f) : FrOk h' f := by
  obtain ⟨mc, hn, r⟩ := x
  exact ⟨mc, hn.extBut k hne, fun x av e => let ⟨v, e1, e2⟩ := r x av e; ⟨v, e1, e2.keep (keepT_of k n)⟩⟩
theorem FrOk.has {h : Heap} {f : FA} (x : FrOk h f) : ∃ o, h.get? f.L = some o := let ⟨_, ⟨o, _, _, e, _⟩, _⟩ := x; ⟨o, e⟩

theorem St.change (S : St prog w B s₀ Fs G s) {h' : Heap} {d : Addr} {G' : Mem} {tk : Nat} (k : Heap.ExtBut d s.heap h') (n : NotTup s.heap d) (hB : B.get? d = none) (hF : ∀ f ∈ Fs, f.L ≠ d)
    (hG : ∀ b, b ≠ d → G' b = G b) (hd : ∀ o, G' d = some o → OR prog w h' d o) : St prog w B s₀ Fs G' { s with heap := h', toks := tk } where
  base := fun a o e => k a o (fun q => by rw [q, hB] at e; cases e) (S.base a o e)
  fr := fun f hf => (S.fr f hf).ext k n (hF f hf)
  frG := fun f hf => ⟨by rw [hG _ (hF f hf)]; exact (S.frG f hf).1, (S.frG f hf).2⟩
  nd := S.nd
  g := fun a o e => by
    by_cases q : a = d
    · subst q; exact hd o e
    · rw [hG a q] at e; exact (S.g a o e).ext k n q
  gB := fun a o e => by
    by_cases q : a = d
    · subst q; exact hB
    · rw [hG a q] at e; exact S.gB a o e
  sh := by rw [S.sh]

theorem St.mut (S : St prog w B s₀ Fs G s) {h' : Heap} {d : Addr} {o o' : AO} {tk : Nat} (e : G d = some o) (k : Heap.ExtBut d s.heap h') (hd : OR prog w h' d o') : St prog w B s₀ Fs (G.set d o') { s with heap := h', toks := tk } :=
  S.change k (S.g d o e).notTup (S.gB d o e) (fun f hf q => by have := (S.frG f hf).1; rw [q, e] at this; cases this) (fun b hb => Mem.set_ne _ _ hb) fun o₁ e₁ => by
    rw [Mem.set_self] at e₁; cases e₁; exact hd

theorem St.ext (S : St prog w B s₀ Fs G s) {h' : Heap} {tk : Nat} (k : ∀ a o, s.heap.get? a = some o → h'.get? a = some o) : St prog w B s₀ Fs G { s with heap := h', toks := tk } :=
  S.change (d := s.heap.objs.size) (fun b o _ e => k b o e) (notTup_fresh _) (S.freshB (Nat.le_refl _)) (fun f hf => Nat.ne_of_lt (S.fr f hf).lt) (fun _ _ => rfl) fun o e => by
    rw [S.freshG (Nat.le_refl _)] at e; cases e
theorem St.toks (S : St prog w B s₀ Fs G s) (tk : Nat) : St prog w B s₀ Fs G { s with toks := tk } := S.ext (h' := s.heap) fun _ _ e => e

theorem St.new (S : St prog w B s₀ Fs G s) {h' : Heap} {tk : Nat} {d : Addr} {o : AO} (hd : s.heap.objs.size ≤ d) (k : ∀ a o, s.heap.get? a = some o → h'.get? a = some o) (x : OR prog w h' d o) : St prog w B s₀ Fs (G.set d o) { s with heap := h', toks := tk } :=
  S.change (d := d) (fun b o _ e => k b o e) (fun o e => absurd (Heap.lt_size e) (Nat.not_lt.mpr hd)) (S.freshB hd) (fun f hf => Nat.ne_of_lt (Nat.lt_of_lt_of_le (S.fr f hf).lt hd)) (fun b hb => Mem.set_ne _ _ hb) fun o₁ e₁ => by
    rw [Mem.set_self] at e₁; cases e₁; exact x

theorem St.names {f : FA} (S : St prog w B s₀ (f :: Fs) G s) {h' : Heap} {tk : Nat} {m' : List (Str × AV)} {mc : Str → Option Value} (k : Heap.ExtBut f.L s.heap h') (hn : h'.Ns f.L mc)
    (hm : ∀ x av, m'.lookup x = some av → ∃ v, mc x = some v ∧ VR s.heap v av) : St prog w B s₀ (⟨f.L, m'⟩ :: Fs) G { s with heap := h', toks := tk } where
  base := fun a o e => k a o (fun q => by have := (S.frG f (.head _)).2; rw [← q, e] at this; cases this) (S.base a o e)
  fr := fun g hg => by
    have n := (S.fr f (.head _)).notTup
    rcases List.mem_cons.mp hg with rfl | hg
    · exact ⟨mc, hn, fun x av e => let ⟨v, e1, e2⟩ := hm x av e; ⟨v, e1, e2.keep (keepT_of k n)⟩⟩
    · refine (S.fr g (.tail _ hg)).ext k n fun q => ?_
      have := S.nd
      rw [List.map_cons, List.nodup_cons] at this
      exact this.1 (q ▸ List.mem_map_of_mem hg)
  frG := fun g hg => by
    rcases List.mem_cons.mp hg with rfl | hg
    · exact S.frG f (.head _)
    · exact S.frG g (.tail _ hg)
  nd := S.nd
  g := fun a o e => (S.g a o e).ext k (S.fr f (.head _)).notTup fun q => by have := (S.frG f (.head _)).1; rw [← q, e] at this; cases this
  gB := S.gB
  sh := by rw [S.sh]

theorem St.enter (S : St prog w B s₀ Fs G s) {h' : Heap} {tk : Nat} {L : Addr} {m' : List (Str × AV)} {mc : Str → Option Value} (hL : s.heap.objs.size ≤ L) (k : ∀ a o, s.heap.get? a = some o → h'.get? a = some o) (hn : h'.Ns L mc)
    (hm : ∀ x av, m'.lookup x = some av → ∃ v, mc x = some v ∧ VR h' v av) : St prog w B s₀ (⟨L, m'⟩ :: Fs) G { s with heap := h', toks := tk } := by
  have S' := S.ext (tk := tk) k
  refine ⟨S'.base, fun g hg => ?_, fun g hg => ?_, ?_, S'.g, S'.gB, S'.sh⟩
  · rcases List.mem_cons.mp hg with rfl | hg
    · exact ⟨mc, hn, hm⟩
    · exact S'.fr g hg
  · rcases List.mem_cons.mp hg with rfl | hg
    · exact ⟨S.freshG hL, S.freshB hL⟩
    · exact S'.frG g hg
  · rw [List.map_cons, List.nodup_cons]
    refine ⟨fun hm => ?_, S.nd⟩
    obtain ⟨g, hg, e⟩ := List.mem_map.mp hm
    exact absurd (S.fr g hg).lt (by rw [e]; exact Nat.not_lt.mpr hL)

theorem St.leave {f : FA} (S : St prog w B s₀ (f :: Fs) G s) : St prog w B s₀ Fs G s :=
  ⟨S.base, fun g hg => S.fr g (.tail _ hg), fun g hg => S.frG g (.tail _ hg), (List.nodup_cons.mp S.nd).2, S.g, S.gB, S.sh⟩

theorem St.weaken {L : Addr} {m m' : List (Str × AV)} (S : St prog w B s₀ (⟨L, m⟩ :: Fs) G s) (hm : ∀ x av, m'.lookup x = some av → m.lookup x = some av) : St prog w B s₀ (⟨L, m'⟩ :: Fs) G s := by
  refine ⟨S.base, fun g hg => ?_, fun g hg => ?_, S.nd, S.g, S.gB, S.sh⟩
  · rcases List.mem_cons.mp hg with rfl | hg
    · obtain ⟨mc, hn, r⟩ := S.fr _ (.head _)
      exact ⟨mc, hn, fun x av e => r x av (hm x av e)⟩
    · exact S.fr g (.tail _ hg)
  · rcases List.mem_cons.mp hg with rfl | hg
    · exact S.frG ⟨L, m⟩ (.head _)
    · exact S.frG g (.tail _ hg)
end
end Mine

namespace Mine

structure Wd where
  prog : Program
  w : World
  B : Heap
  s₀ : Shared
abbrev Wd.M (W : Wd) : Model := model W.prog W.w
abbrev Wd.St (W : Wd) : List FA → Mem → Shared → Prop := Mine.St W.prog W.w W.B W.s₀

def NoE : Value → Shared → Prop := fun _ _ => False

def VP (W : Wd) (Fs : List FA) (h : Heap) (Q : AV → Mem → Prop) (v : Value) (s' : Shared) : Prop := ∃ av G', W.St Fs G' s' ∧ KeepT h s'.heap ∧ VR s'.heap v av ∧ Q av G'
def LP (W : Wd) (Fs : List FA) (h : Heap) (Q : List AV → Mem → Prop) (vs : List Value) (s' : Shared) : Prop := ∃ avs G', W.St Fs G' s' ∧ KeepT h s'.heap ∧ VRs s'.heap vs avs ∧ Q avs G'
def BP (W : Wd) (Fs : List FA) (h : Heap) (Q : Bool → Mem → Prop) (b : Bool) (s' : Shared) : Prop := ∃ G', W.St Fs G' s' ∧ KeepT h s'.heap ∧ Q b G'
def UP (W : Wd) (L : Addr) (Fs : List FA) (h : Heap) (Q : List (Str × AV) → Mem → Prop) (s' : Shared) : Prop := ∃ m' G', W.St (⟨L, m'⟩ :: Fs) G' s' ∧ KeepT h s'.heap ∧ Q m' G'

inductive AF where
  | next
  | brk
  | cont
  | ret (v : AV)
inductive FRl (h : Heap) : Flow → AF → Prop
  | next : FRl h .next .next
  | brk : FRl h .brk .brk
  | cont : FRl h .cont .cont
  | ret {v : Value} {av : AV} : VR h v av → FRl h (.ret v) (.ret av)
def FP (W : Wd) (L : Addr) (Fs : List FA) (h : Heap) (Q : AF → List (Str × AV) → Mem → Prop) (fl : Flow) (s' : Shared) : Prop :=
  ∃ af m' G', W.St (⟨L, m'⟩ :: Fs) G' s' ∧ KeepT h s'.heap ∧ FRl s'.heap fl af ∧ Q af m' G'

def EV (W : Wd) (A : Around) (Fs : List FA) (G : Mem) (t : Sem Value) (Q : AV → Mem → Prop) : Prop := ∀ s, W.St Fs G s → wpAny W.M A t (VP W Fs s.heap Q) NoE s
def ES (W : Wd) (A : Around) (Fs : List FA) (G : Mem) (t : Sem (List Value)) (Q : List AV → Mem → Prop) : Prop := ∀ s, W.St Fs G s → wpAny W.M A t (LP W Fs s.heap Q) NoE s
def EB (W : Wd) (A : Around) (Fs : List FA) (G : Mem) (t : Sem Bool) (Q : Bool → Mem → Prop) : Prop := ∀ s, W.St Fs G s → wpAny W.M A t (BP W Fs s.heap Q) NoE s
def EX (W : Wd) (A : Around) (L : Addr) (m : List (Str × AV)) (Fs : List FA) (G : Mem) (t : Sem Flow) (Q : AF → List (Str × AV) → Mem → Prop) : Prop :=
  ∀ s, W.St (⟨L, m⟩ :: Fs) G s → wpAny W.M A t (FP W L Fs s.heap Q) NoE s
def O1 (W : Wd) (A : Around) (Fs : List FA) (G : Mem) (x : AV) (f : Value → Sem Value) (Q : AV → Mem → Prop) : Prop := ∀ s a, W.St Fs G s → VR s.heap a x → wpAny W.M A (f a) (VP W Fs s.heap Q) NoE s
def O2 (W : Wd) (A : Around) (Fs : List FA) (G : Mem) (x y : AV) (f : Value → Value → Sem Value) (Q : AV → Mem → Prop) : Prop :=
  ∀ s a b, W.St Fs G s → VR s.heap a x → VR s.heap b y → wpAny W.M A (f a b) (VP W Fs s.heap Q) NoE s
def OL (W : Wd) (A : Around) (Fs : List FA) (G : Mem) (xs : List AV) (f : List Value → Sem Value) (Q : AV → Mem → Prop) : Prop :=
  ∀ s vs, W.St Fs G s → VRs s.heap vs xs → wpAny W.M A (f vs) (VP W Fs s.heap Q) NoE s
def OB (W : Wd) (A : Around) (Fs : List FA) (G : Mem) (x : AV) (f : Value → Sem Bool) (Q : Bool → Mem → Prop) : Prop := ∀ s a, W.St Fs G s → VR s.heap a x → wpAny W.M A (f a) (BP W Fs s.heap Q) NoE s
def SV (W : Wd) (A : Around) (L : Addr) (m : List (Str × AV)) (Fs : List FA) (G : Mem) (x : AV) (f : Value → Sem Unit) (Q : List (Str × AV) → Mem → Prop) : Prop :=
  ∀ s a, W.St (⟨L, m⟩ :: Fs) G s → VR s.heap a x → wpAny W.M A (f a) (fun _ s' => UP W L Fs s.heap Q s') NoE s

section
variable {W : Wd} {A : Around} {Fs : List FA} {G : Mem} {h h' : Heap}

theorem VP.up {Q : AV → Mem → Prop} {v : Value} {s : Shared} (k : KeepT h h') (x : VP W Fs h' Q v s) : VP W Fs h Q v s := let ⟨av, G', a, b, c, d⟩ := x; ⟨av, G', a, k.trans b, c, d⟩
theorem LP.up {Q : List AV → Mem → Prop} {v : List Value} {s : Shared} (k : KeepT h h') (x : LP W Fs h' Q v s) : LP W Fs h Q v s := let ⟨av, G', a, b, c, d⟩ := x; ⟨av, G', a, k.trans b, c, d⟩
theorem BP.up {Q : Bool → Mem → Prop} {v : Bool} {s : Shared} (k : KeepT h h') (x : BP W Fs h' Q v s) : BP W Fs h Q v s := let ⟨G', a, b, d⟩ := x; ⟨G', a, k.trans b, d⟩
theorem UP.up {L : Addr} {Q : List (Str × AV) → Mem → Prop} {s : Shared} (k : KeepT h h') (x : UP W L Fs h' Q s) : UP W L Fs h Q s := let ⟨m', G', a, b, d⟩ := x; ⟨m', G', a, k.trans b, d⟩
theorem FP.up {L : Addr} {Q : AF → List (Str × AV) → Mem → Prop} {fl : Flow} {s : Shared} (k : KeepT h h') (x : FP W L Fs h' Q fl s) : FP W L Fs h Q fl s := let ⟨af, m', G', a, b, c, d⟩ := x; ⟨af, m', G', a, k.trans b, c, d⟩

theorem noE {α : Type} {t : Sem α} {Q Q' : α → Shared → Prop} {E : Value → Shared → Prop} {M : Model} {s : Shared} (x : wpAny M A t Q NoE s) (k : ∀ a s', Q a s' → Q' a s') : wpAny M A t Q' E s :=
  wpAny_mono x k fun _ _ f => f.elim

theorem EV.mono {t : Sem Value} {Q Q' : AV → Mem → Prop} (x : EV W A Fs G t Q) (k : ∀ a g, Q a g → Q' a g) : EV W A Fs G t Q' := fun s hs => noE (x s hs) fun _ _ ⟨av, G', a, b, c, d⟩ => ⟨av, G', a, b, c, k _ _ d⟩
theorem EB.mono {t : Sem Bool} {Q Q' : Bool → Mem → Prop} (x : EB W A Fs G t Q) (k : ∀ a g, Q a g → Q' a g) : EB W A Fs G t Q' := fun s hs => noE (x s hs) fun _ _ ⟨G', a, b, d⟩ => ⟨G', a, b, k _ _ d⟩
theorem EX.mono {L : Addr} {m : List (Str × AV)} {t : Sem Flow} {Q Q' : AF → List (Str × AV) → Mem → Prop} (x : EX W A L m Fs G t Q) (k : ∀ a n g, Q a n g → Q' a n g) : EX W A L m Fs G t Q' :=
  fun s hs => noE (x s hs) fun _ _ ⟨af, m', G', a, b, c, d⟩ => ⟨af, m', G', a, b, c, k _ _ _ d⟩
theorem EX.weaken {L : Addr} {m m' : List (Str × AV)} {t : Sem Flow} {Q : AF → List (Str × AV) → Mem → Prop} (x : EX W A L m' Fs G t Q) (hm : ∀ x av, m'.lookup x = some av → m.lookup x = some av) : EX W A L m Fs G t Q :=
  fun s hs => x s (hs.weaken hm)

theorem EV.pure' {x : Value} {av : AV} {Q : AV → Mem → Prop} (v : ∀ h, VR h x av) (q : Q av G) : EV W A Fs G (pure x) Q := fun s hs => wpAny_pure ⟨av, G, hs, .refl _, v _, q⟩

section
variable {env : Env} {pos : Pos} {Q : AV → Mem → Prop}
theorem EV_int {i : Int} {k : Nat} (q : Q (.int i) G) : EV W A Fs G (eval (.Constant (.int i) k pos) env) Q := fun s hs => wpAny_Constant_int ⟨_, G, hs.toks _, .refl _, .int _ _, q⟩
theorem EV_str {x : Str} {k : Nat} (q : Q (.str x) G) : EV W A Fs G (eval (.Constant (.str x) k pos) env) Q := fun s hs => wpAny_Constant_str ⟨_, G, hs.toks _, .refl _, .str _ _, q⟩
theorem EV_bool {b : Bool} {k : Nat} (q : Q (.bool b) G) : EV W A Fs G (eval (.Constant (.bool b) k pos) env) Q := fun s hs => wpAny_Constant_bool ⟨_, G, hs, .refl _, .bool _, q⟩
theorem EV_none {k : Nat} (q : Q .none G) : EV W A Fs G (eval (.Constant .none k pos) env) Q := fun s hs => wpAny_Constant_none ⟨_, G, hs, .refl _, .none, q⟩

theorem EV_local {f : FA} {x : Str} {av : AV} (hL : env.locals = f.L) (hk : env.scope.kind = .function) (hl : env.kindOf x = some .local) (hm : f.m.lookup x = some av) (q : Q av G)
    (hd : (x == ("__debug__" : Str)) = false := by decide) : EV W A (f :: Fs) G (eval (.Name x pos) env) Q := fun s hs => by
  obtain ⟨mc, hn, r⟩ := hs.fr f (.head _)
  obtain ⟨v, hv, rv⟩ := r x av hm
  exact wpAny_Name (wpAny_loadName_local hk hl (hL ▸ hn) hv ⟨av, G, hs, .refl _, rv, q⟩) hd

theorem EV_cell {x : Str} {c : Addr} {av : AV} (hk : env.scope.kind = .function) (hl : env.kindOf x = some .cell) (hc : env.cells.lookup x = some c) (hg : G c = some (.cell (some av))) (q : Q av G)
    (hd : (x == ("__debug__" : Str)) = false := by decide) : EV W A Fs G (eval (.Name x pos) env) Q := fun s hs => by
  obtain ⟨o, u, ho, hd', v, rfl, rv⟩ := hs.g c _ hg
  exact wpAny_Name (wpAny_loadName_cell hk hl hc ⟨o, ho, hd'⟩ ⟨av, G, hs, .refl _, rv, q⟩) hd

theorem EV_binop {l r : Expr} {op : Operator} (x : EV W A Fs G (eval l env) fun a G1 => EV W A Fs G1 (eval r env) fun b G2 => O2 W A Fs G2 a b (binaryOp op) Q) : EV W A Fs G (eval (.BinOp l op r pos) env) Q := fun s hs =>
  wpAny_BinOp (noE (x s hs) fun a s1 ⟨av, G1, hs1, k1, r1, x1⟩ => noE (x1 s1 hs1) fun b s2 ⟨bv, G2, hs2, k2, r2, x2⟩ => noE (x2 s2 a b hs2 (r1.keep k2) r2) fun v s3 y => (y.up (k1.trans k2)))
theorem EV_compare {l r : Expr} {op : CmpOp} (x : EV W A Fs G (eval l env) fun a G1 => EV W A Fs G1 (eval r env) fun b G2 => O2 W A Fs G2 a b (compareOp op) Q)
    (hm : behindInMarks op r = false := by with_unfolding_all rfl) : EV W A Fs G (eval (.Compare l [op] [r] pos) env) Q := fun s hs =>
  wpAny_Compare1 (noE (x s hs) fun a s1 ⟨av, G1, hs1, k1, r1, x1⟩ => noE (x1 s1 hs1) fun b s2 ⟨bv, G2, hs2, k2, r2, x2⟩ => noE (x2 s2 a b hs2 (r1.keep k2) r2) fun v s3 y => (y.up (k1.trans k2))) hm
theorem EV_unary {e : Expr} {op : UnaryOp} (x : EV W A Fs G (eval e env) fun a G1 => O1 W A Fs G1 a (unaryOp op) Q) : EV W A Fs G (eval (.UnaryOp op e pos) env) Q := fun s hs =>
  UnaryOp_ (noE (x s hs) fun a s1 ⟨av, G1, hs1, k1, r1, x1⟩ => noE (x1 s1 a hs1 r1) fun v s3 y => y.up k1)
theorem EV_ifexp {test body orelse : Expr} (x : EB W A Fs G (isTrue test env (eval test env)) fun b G1 => if b then EV W A Fs G1 (eval body env) Q else EV W A Fs G1 (eval orelse env) Q) :
    EV W A Fs G (eval (.IfExp test body orelse pos) env) Q := fun s hs =>
  IfExp_ (noE (x s hs) fun b s1 ⟨G1, hs1, k1, x1⟩ => by
    cases b with
    | true => exact noE (x1 s1 hs1) fun v s3 y => y.up k1
    | false => exact noE (x1 s1 hs1) fun v s3 y => y.up k1)
end

section
variable {env : Env} {pos : Pos} {Q : Bool → Mem → Prop} {whole : Sem Value}
theorem EB_plain {e : Expr} (x : EV W A Fs G whole fun a G1 => OB W A Fs G1 a truthy Q) (he : isTrue e env whole = (do let v ← whole; standAt e.pos; holding [v] (truthy v)) := by rfl) : EB W A Fs G (isTrue e env whole) Q := fun s hs =>
  isTrue_plain (noE (x s hs) fun a s1 ⟨av, G1, hs1, k1, r1, x1⟩ => noE (x1 s1 a hs1 r1) fun v s3 y => y.up k1) he
theorem OB_bool {b : Bool} (q : Q b G) : OB W A Fs G (.bool b) truthy Q := fun s a hs r => by
  cases r; exact wpAny_truthy_bool ⟨G, hs, .refl _, q⟩
theorem EB_compare {l r : Expr} {op : CmpOp} (x : EV W A Fs G (eval l env) fun a G1 => EV W A Fs G1 (eval r env) fun b G2 => O2 W A Fs G2 a b (compareOp op) fun c G3 => OB W A Fs G3 c truthy Q)
    (hm : behindInMarks op r = false := by with_unfolding_all rfl) : EB W A Fs G (isTrue (.Compare l [op] [r] pos) env whole) Q := fun s hs =>
  wpAny_isTrue_Compare1 (noE (x s hs) fun a s1 ⟨av, G1, hs1, k1, r1, x1⟩ => noE (x1 s1 hs1) fun b s2 ⟨bv, G2, hs2, k2, r2, x2⟩ => noE (x2 s2 a b hs2 (r1.keep k2) r2) fun c s3 ⟨cv, G3, hs3, k3, r3, x3⟩ =>
    noE (x3 s3 c hs3 r3) fun v s4 y => y.up (k1.trans (k2.trans k3))) hm
theorem EB_and_nil (q : Q true G) : EB W A Fs G (isTrue (.BoolOp .And [] pos) env whole) Q := fun s hs => isTrue_and_nil ⟨G, hs, .refl _, q⟩
theorem EB_or_nil (q : Q false G) : EB W A Fs G (isTrue (.BoolOp .Or [] pos) env whole) Q := fun s hs => isTrue_or_nil ⟨G, hs, .refl _, q⟩
theorem EB_and {e : Expr} {rest : List Expr} (x : EB W A Fs G (isTrue e env (eval e env)) fun c G1 => if c then EB W A Fs G1 (isTrue (.BoolOp .And rest pos) env whole) Q else Q false G1) :
    EB W A Fs G (isTrue (.BoolOp .And (e :: rest) pos) env whole) Q := fun s hs => isTrue_and (noE (x s hs) fun b s1 ⟨G1, hs1, k1, x1⟩ => by
  cases b with
  | true => exact noE (x1 s1 hs1) fun v s3 y => y.up k1
  | false => exact ⟨G1, hs1, k1, x1⟩)
theorem EB_or {e : Expr} {rest : List Expr} (x : EB W A Fs G (isTrue e env (eval e env)) fun c G1 => if c then Q true G1 else EB W A Fs G1 (isTrue (.BoolOp .Or rest pos) env whole) Q) :
    EB W A Fs G (isTrue (.BoolOp .Or (e :: rest) pos) env whole) Q := fun s hs => isTrue_or (noE (x s hs) fun b s1 ⟨G1, hs1, k1, x1⟩ => by
  cases b with
  | true => exact ⟨G1, hs1, k1, x1⟩
  | false => exact noE (x1 s1 hs1) fun v s3 y => y.up k1)
end

section
variable {env : Env} {pos : Pos} {Q : List AV → Mem → Prop}
theorem ES_nil (q : Q [] G) : ES W A Fs G (spliced (backTo pos (starEach [] env))) Q := fun s hs => spliced_none ⟨[], G, hs, .refl _, .nil, q⟩
theorem ES_cons {e : Expr} {rest : List Expr} (x : EV W A Fs G (eval e env) fun a G1 => ES W A Fs G1 (spliced (backTo pos (starEach rest env))) fun as G2 => Q (a :: as) G2)
    (he : starEach (e :: rest) env = (false, eval e env) :: starEach rest env := by rfl) : ES W A Fs G (spliced (backTo pos (starEach (e :: rest) env))) Q := fun s hs =>
  spliced_more (noE (x s hs) fun a s1 ⟨av, G1, hs1, k1, r1, x1⟩ => noE (x1 s1 hs1) fun b s2 ⟨bv, G2, hs2, k2, r2, x2⟩ => ⟨_, G2, hs2, k1.trans k2, .cons (r1.keep k2) r2, x2⟩) he
end

section
variable {env : Env} {pos : Pos} {Q : AV → Mem → Prop}
theorem EV_tuple {elts : List Expr} {k : Nat} (x : ES W A Fs G (spliced (backTo pos (starEach elts env))) fun as G1 => as.length ≤ sizeLine ∧ Q (.tup as) G1) : EV W A Fs G (eval (.Tuple elts k pos) env) Q := fun s hs =>
  Tuple_ (noE (x s hs) fun vs s1 ⟨avs, G1, hs1, k1, r1, hz, q⟩ => wpAny_newTuple (by
    have e : ∀ a o, s1.heap.get? a = some o → (s1.heap.push { cls := .type "tuple", data := .seq vs.toArray }).get? a = some o := fun a o e => Heap.get?_push_of_some _ e
    exact ⟨_, G1, hs1.ext e, k1.trans fun a o h _ => e a o h, .tup (Heap.get?_push_size _ rfl) rfl rfl (r1.keep fun a o h _ => e a o h), q⟩) (by rw [r1.length]; exact hz))
theorem EV_list {elts : List Expr} (x : ES W A Fs G (spliced (backTo pos (starEach elts env))) fun as G1 => as.length ≤ sizeLine ∧ ∀ a, G1 a = none → Q (.ref a) (G1.set a (.list as))) : EV W A Fs G (eval (.List elts pos) env) Q := fun s hs =>
  List_ (noE (x s hs) fun vs s1 ⟨avs, G1, hs1, k1, r1, hz, q⟩ => wpAny_newList (by
    have e : ∀ a o, s1.heap.get? a = some o → (s1.heap.push { cls := .type "list", data := .seq vs.toArray }).get? a = some o := fun a o e => Heap.get?_push_of_some _ e
    exact ⟨_, _, hs1.new (o := .list avs) (Nat.le_refl _) e ⟨vs, 0, Heap.get?_push_size _ rfl, r1.keep fun a o h _ => e a o h⟩, k1.trans fun a o h _ => e a o h, .ref _, q _ (hs1.freshG (Nat.le_refl _))⟩) (by rw [r1.length]; exact hz))
end

section
variable {env : Env} {pos : Pos} {L : Addr} {m : List (Str × AV)} {Q : AF → List (Str × AV) → Mem → Prop}
theorem EX_nil (q : Q .next m G) : EX W A L m Fs G (execs [] env) Q := fun s hs => wpAny_execs_nil ⟨.next, m, G, hs, .refl _, .next, q⟩
abbrev SeqQ (W : Wd) (A : Around) (L : Addr) (Fs : List FA) (rest : List Stmt) (env : Env) (Q : AF → List (Str × AV) → Mem → Prop) : AF → List (Str × AV) → Mem → Prop := fun af m' G' => match af with | .next => EX W A L m' Fs G' (execs rest env) Q | af => Q af m' G'
theorem EX_cons {st : Stmt} {rest : List Stmt} (x : EX W A L m Fs G (exec st env) (SeqQ W A L Fs rest env Q)) : EX W A L m Fs G (execs (st :: rest) env) Q := fun s hs =>
  wpAny_execs_cons (noE (x s hs) fun fl s1 ⟨af, m', G', hs1, k1, r, x1⟩ => by
    cases r with
    | next => exact noE (x1 s1 hs1) fun _ _ y => y.up k1
    | brk => exact ⟨_, m', G', hs1, k1, .brk, x1⟩
    | cont => exact ⟨_, m', G', hs1, k1, .cont, x1⟩
    | ret r => exact ⟨_, m', G', hs1, k1, .ret r, x1⟩)
theorem EX_if {test : Expr} {body orelse : List Stmt} (x : EB W A (⟨L, m⟩ :: Fs) G (isTrue test env (eval test env)) fun b G1 => if b then EX W A L m Fs G1 (execs body env) Q else EX W A L m Fs G1 (execs orelse env) Q) :
    EX W A L m Fs G (exec (.If test body orelse pos) env) Q := fun s hs => wpAny_If (noE (x s hs) fun b s1 ⟨G1, hs1, k1, x1⟩ => by
  cases b with
  | true => exact noE (x1 s1 hs1) fun _ _ y => y.up k1
  | false => exact noE (x1 s1 hs1) fun _ _ y => y.up k1)
theorem EX_return {e : Expr} (x : EV W A (⟨L, m⟩ :: Fs) G (eval e env) fun a G1 => Q (.ret a) m G1) : EX W A L m Fs G (exec (.Return (some e) pos) env) Q := fun s hs =>
  wpAny_Return_some (noE (x s hs) fun v s1 ⟨av, G1, hs1, k1, r1, q⟩ => ⟨_, m, G1, hs1, k1, .ret r1, q⟩)
theorem EX_continue (q : Q .cont m G) : EX W A L m Fs G (exec (.Continue pos) env) Q := fun s hs => wpAny_Continue ⟨.cont, m, G, hs, .refl _, .cont, q⟩
theorem EX_expr {e : Expr} (x : EV W A (⟨L, m⟩ :: Fs) G (eval e env) fun _ G1 => Q .next m G1) (hi : interactive env = false := by rfl) (hs : swapsWith e none pos.line env = pure false := by rfl) :
    EX W A L m Fs G (exec (.Expr e pos) env) Q := fun s hs' => wpAny_Expr_any (noE (x s hs') fun v s1 ⟨av, G1, hs1, k1, r1, q⟩ => ⟨_, m, G1, hs1, k1, .next, q⟩) hi hs
theorem EX_assign {t value : Expr} (x : EV W A (⟨L, m⟩ :: Fs) G (eval value env) fun a G1 => SV W A L m Fs G1 a (assign t env) fun m' G2 => Q .next m' G2)
    (hs : swapsWithSole [t] value pos.line env = pure false := by rfl) (hw : swappedStores [t] value env = pure none := by rfl) (ht : (assignEach [t] env).map (·.2) = [assign t env] := by rfl) : EX W A L m Fs G (exec (.Assign [t] value pos) env) Q := fun s hs' =>
  wpAny_Assign_stores (noE (x s hs') fun v s1 ⟨av, G1, hs1, k1, r1, x1⟩ => by
    rw [ht]
    exact noE (x1 s1 v hs1 r1) fun _ s2 y => let ⟨m', G', a, b, c⟩ := y.up k1; ⟨_, m', G', a, b, .next, c⟩) hs hw

def setm : List (Str × AV) → Str → AV → List (Str × AV)
  | [], x, v => [(x, v)]
  | (y, u) :: r, x, v => if x = y then (y, v) :: r else (y, u) :: setm r x v
theorem setm_lookup (x : Str) (v : AV) : ∀ (m : List (Str × AV)) (y : Str), (setm m x v).lookup y = if y = x then some v else m.lookup y
  | [], y => by
    simp only [setm, List.lookup]
    by_cases h : y = x
    · subst h; simp
    · have : (y == x) = false := by simpa using h
      simp [this, h]
  | (z, u) :: r, y => by
    simp only [setm]
    split
    · rename_i e; subst e
      by_cases h : y = x
      · subst h; simp [List.lookup]
      · have : (y == x) = false := by simpa using h
        simp [List.lookup, this, h]
    · rename_i e
      by_cases h : y = z
      · subst h
        have : ¬ y = x := fun q => e q.symm
        simp [List.lookup, this]
      · have h2 : (y == z) = false := by simpa using h
        simp only [List.lookup, h2]
        exact setm_lookup x v r y

theorem SV_local {x : Str} {av : AV} {Q : List (Str × AV) → Mem → Prop} (hL : env.locals = L) (hk : env.scope.kind = .function) (hl : env.kindOf x = some .local) (q : Q (setm m x av) G) : SV W A L m Fs G av (storeName env x) Q := fun s v hs r => by
  obtain ⟨mc, hn, rr⟩ := hs.fr _ (.head _)
  have nt := (hs.fr _ (.head _)).notTup
  subst hL
  refine wpAny_storeName_local hl hn (fun h' hn' hsb => ?_) (by rw [hk]; rfl)
  have k := hsb.extBut
  refine ⟨_, G, hs.names (m' := setm m x av) k hn' (fun y u e => ?_), keepT_of k nt, q⟩
  rw [setm_lookup] at e
  by_cases h : y = x
  · subst h; simp at e; subst e; exact ⟨v, by simp, r⟩
  · simp only [h, if_false] at e ⊢; exact rr y u e
end
end
end Mine

namespace Mine

structure AOk (n : Nat) (A : Around) : Prop where
  h : A.handled = none
  d : A.depth + n < recursionLimit
  u : A.units + 10 * n + 200 < cLine
theorem AOk.deeper {n : Nat} {A : Around} (x : AOk (n + 1) A) (env : Env) : AOk n (A.deeper env) := ⟨x.h, by have := x.d; simp only [Around.deeper]; omega, by have := x.u; simp only [Around.deeper]; omega⟩
theorem AOk.less {n : Nat} {A : Around} (x : AOk (n + 1) A) : AOk n A := ⟨x.h, by have := x.d; omega, by have := x.u; omega⟩
theorem AOk.unit {n : Nat} {A : Around} (x : AOk n A) : A.units + 190 < cLine := by have := x.u; omega

structure Base (W : Wd) (K : Frag) : Prop where
  kin : K.In W.B
  glob : ∃ mg, W.B.Ns mainGlobals mg
  built : ∃ mb, W.B.Ns builtinsNs mb ∧ ∀ x : Str, x ≠ "__name__" → mb x = bootBuiltins x
  lim : W.B.NoLimit

section
variable {W : Wd} {A : Around} {Fs : List FA} {G : Mem} {K : Frag} {n : Nat}

theorem St.keepB {s : Shared} (S : W.St Fs G s) : ∀ a o, W.B.get? a = some o → s.heap.get? a = some o := S.base
theorem Base.inH {s : Shared} (X : Base W K) (S : W.St Fs G s) : K.In s.heap := X.kin.keeps S.base

def retOf : AF → AV
  | .ret v => v
  | _ => .none
def locA (kindOf : Str → Option NameKind) : List (Str × AV) → List (Str × AV) → List (Str × AV)
  | [], m => m
  | (n, v) :: r, m => locA kindOf r (if kindOf n = some .local then setm m n v else m)
def celA (kindOf : Str → Option NameKind) : List (Str × AV) → List (Str × AV) → List (Str × AV)
  | [], m => m
  | (n, v) :: r, m => celA kindOf r (if kindOf n = some .local then m else setm m n v)
def setCells (cv : List (Str × AV)) : List (Str × Addr) → Mem → Mem
  | [], G => G
  | (n, c) :: r, G => setCells cv r (G.set c (.cell (cv.lookup n)))

theorem locA_ok {h : Heap} {kindOf : Str → Option NameKind} : ∀ {binds : List (Str × Value)} {bs : List (Str × AV)} {mc : Str → Option Value} {m : List (Str × AV)}, DR h binds bs → (∀ x av, m.lookup x = some av → ∃ v, mc x = some v ∧ VR h v av) →
    ∀ x av, (locA kindOf bs m).lookup x = some av → ∃ v, bindL kindOf binds mc x = some v ∧ VR h v av
  | _, _, mc, m, .nil, hm => hm
  | (n, v) :: r, (_, u) :: _, mc, m, .cons a d, hm => by
    simp only [locA, bindL]
    refine locA_ok d ?_
    by_cases hk : kindOf n = some .local
    · rw [if_pos hk, if_pos hk]
      intro x av e
      rw [setm_lookup] at e
      by_cases hx : x = n
      · simp only [hx, if_true] at e ⊢; cases e; exact ⟨v, rfl, a⟩
      · simp only [hx, if_false] at e ⊢; exact hm x av e
    · rw [if_neg hk, if_neg hk]; exact hm
theorem celA_ok {h : Heap} {kindOf : Str → Option NameKind} : ∀ {binds : List (Str × Value)} {bs : List (Str × AV)} {mc : Str → Option Value} {m : List (Str × AV)}, DR h binds bs →
    (∀ x, match m.lookup x with | some av => ∃ v, mc x = some v ∧ VR h v av | none => mc x = none) →
    ∀ x, match (celA kindOf bs m).lookup x with | some av => ∃ v, bindC kindOf binds mc x = some v ∧ VR h v av | none => bindC kindOf binds mc x = none
  | _, _, mc, m, .nil, hm => hm
  | (n, v) :: r, (_, u) :: _, mc, m, .cons a d, hm => by
    simp only [celA, bindC]
    refine celA_ok d ?_
    by_cases hk : kindOf n = some .local
    · rw [if_pos hk, if_pos hk]; exact hm
    · rw [if_neg hk, if_neg hk]
      intro x
      rw [setm_lookup]
      by_cases hx : x = n
      · simp only [hx, if_true]; exact ⟨v, rfl, a⟩
      · simp only [hx, if_false]; exact hm x

theorem St.setCells {s : Shared} {cv : List (Str × AV)} {cm : Str → Option Value} (hv : ∀ x, match cv.lookup x with | some av => ∃ v, cm x = some v ∧ VR s.heap v av | none => cm x = none) : ∀ (cells : List (Str × Addr)) {G : Mem}, W.St Fs G s →
    (∀ p ∈ cells, s.heap.IsCell p.2 (cm p.1)) → (∀ p ∈ cells, W.B.get? p.2 = none ∧ ∀ f ∈ Fs, f.L ≠ p.2) → W.St Fs (setCells cv cells G) s
  | [], G, S, _, _ => S
  | (x, c) :: r, G, S, hc, hb => by
    refine St.setCells hv r ?_ (fun p hp => hc p (.tail _ hp)) fun p hp => hb p (.tail _ hp)
    obtain ⟨o, ho, hd⟩ := hc _ (.head _)
    have : s = { s with heap := s.heap, toks := s.toks } := rfl
    rw [this]
    refine St.change S (d := c) (fun b o _ e => e) ?_ (hb _ (.head _)).1 (hb _ (.head _)).2 (fun b hb => Mem.set_ne _ _ hb) fun o' e => ?_
    · rintro o' e' ⟨_, _, _, q⟩
      rw [ho] at e'; cases e'; rw [hd] at q; cases q
    · rw [Mem.set_self] at e; cases e
      refine ⟨o, cm x, ho, hd, ?_⟩
      have := hv x
      revert this
      cases cv.lookup x <;> exact id

theorem cellsFrom_ge : ∀ (names : List (Str × NameKind)) (k : Nat) (acc : List (Str × Addr)) (p : Str × Addr), p ∈ cellsFrom k names acc → p ∈ acc ∨ k ≤ p.2
  | [], k, acc, p, h => .inl h
  | (y, kd) :: r, k, acc, p, h => by
    unfold cellsFrom at h
    split at h
    · rcases cellsFrom_ge r (k + 1) _ p h with q | q
      · rcases List.mem_cons.mp q with rfl | q
        · exact .inr (Nat.le_refl _)
        · exact .inl q
      · exact .inr (Nat.le_of_succ_le q)
    · exact cellsFrom_ge r k acc p h

theorem lookup_of_mem_nodup {cs : List (Str × Addr)} (hn : (cs.map (·.1)).Nodup) {p : Str × Addr} (hp : p ∈ cs) : cs.lookup p.1 = some p.2 := by
  induction cs with
  | nil => cases hp
  | cons q r ih =>
    rw [List.map_cons, List.nodup_cons] at hn
    rcases List.mem_cons.mp hp with rfl | hp
    · simp [List.lookup]
    · have : (p.1 == q.1) = false := by
        rw [beq_eq_false_iff_ne]
        intro e
        exact hn.1 (e ▸ List.mem_map_of_mem hp)
      simp only [List.lookup, this]
      exact ih hn.2 hp

def OC (W : Wd) (A : Around) (Fs : List FA) (G : Mem) (xs : List AV) (f : Addr) (Q : AV → Mem → Prop) : Prop :=
  ∀ s vs, W.St Fs G s → VRs s.heap vs xs → codeAny W.M A (.call (.ref f) ⟨vs, []⟩) (fun r s' => match r with | .ok (.ret v) => VP W Fs s.heap Q v s' | .ok _ => False | .error e => NoE e s') s
theorem OC.ol {xs : List AV} {f : Addr} {Q : AV → Mem → Prop} (x : OC W A Fs G xs f Q) : OL W A Fs G xs (fun vs => call (.ref f) vs) Q := fun s vs hs r => wpAny_call (x s vs hs r)

theorem CALL_fnC {fd : FuncData} {f : Addr} {o : Obj} {body : List Stmt} {xs : List AV} {bs m cv : List (Str × AV)} {Q : AV → Mem → Prop} (X : Base W K) (hA : AOk (n + 1) A)
    (ho : K.lookup f = some o) (hd : o.data = .func fd) (hb : fd.body = .stmts body) (hcode : codeIn K fd.code fd.qualname = true) (hclo : fd.closure = []) (hfk : fd.scope.kind = .function) (hco : fd.scope.isCoroutine = false) (hgen : fd.scope.isGenerator = false)
    (hbind : ∀ s vs, (∀ a o, W.B.get? a = some o → s.heap.get? a = some o) → VRs s.heap vs xs → ∃ binds, BindsTo s fd ⟨vs, []⟩ binds ∧ DR s.heap binds bs)
    (hkind : (bs.all fun y => fd.scope.names.lookup y.1 == some .local || fd.scope.names.lookup y.1 == some .cell) = true)
    (hnd : ((cellsFrom 0 fd.scope.names []).map (·.1)).Nodup)
    (hm : locA (fun x => fd.scope.names.lookup x) bs [] = m) (hc : celA (fun x => fd.scope.names.lookup x) bs [] = cv)
    (h : ∀ L, (∀ a, L ≤ a → G a = none) → EX W (A.deeper (callEnvC fd L f)) L m Fs (setCells cv (cellsFrom (L + 1) fd.scope.names []) G) (execs body (callEnvC fd L f)) (fun af _ G' => Q (retOf af) G')) :
    OC W A Fs G xs f Q := fun s vs hs r => by
  obtain ⟨binds, hbd, dr⟩ := hbind s vs hs.base r
  have XK := X.inH hs
  refine codeAny_call_function (body := body) (by have := hA.d; omega) (XK _ _ ho) hd hco hgen hb (codeRec_of XK hcode) (hbd _ _ _ _ ?_)
  rw [hclo]
  refine wpAny_newFunctionEnv_cells hfk (fun x hx => ?_) fun env he s' x => ?_
  · have key : ∀ {es : List (Str × Value)} {kvs : List (Str × AV)}, DR s.heap es kvs → x ∈ es → ∃ av, (x.1, av) ∈ kvs := by
      intro es kvs d
      induction d with
      | nil => intro q; cases q
      | cons a d ih =>
        intro q
        rcases List.mem_cons.mp q with rfl | q
        · exact ⟨_, .head _⟩
        · obtain ⟨av, e⟩ := ih q; exact ⟨av, .tail _ e⟩
    obtain ⟨av, e⟩ := key dr hx
    have q := List.all_eq_true.mp hkind _ e
    rcases Bool.or_eq_true_iff.mp q with q | q
    · exact .inl (by simpa using q)
    · have q' : fd.scope.names.lookup x.1 = some .cell := by simpa using q
      exact .inr ⟨q', cellsFrom_some _ _ _ (.inl q')⟩
  subst he
  obtain ⟨⟨⟨h', tk, e⟩, hns, hk, hf⟩, hcell, hap, hab⟩ := x
  refine ⟨(X.lim.keeps hs.base).keeps hk, codeAny_func ?_⟩
  have hh : s'.heap = h' := by rw [e]
  have kt : KeepT s.heap s'.heap := fun a o e _ => hk a o e
  have S1 : W.St (⟨s.heap.objs.size, m⟩ :: Fs) G s' := by
    rw [e]
    refine St.enter hs (L := s.heap.objs.size) (Nat.le_refl _) (fun a o e' => hh ▸ hk a o e') (hh ▸ hns) ?_
    intro x av ex
    rw [← hm] at ex
    have := locA_ok (kindOf := fun x => fd.scope.names.lookup x) (mc := fun _ => none) (m := []) dr (fun _ _ q => by cases q) x av ex
    obtain ⟨v, e1, e2⟩ := this
    exact ⟨v, e1, hh ▸ e2.keep kt⟩
  have hnd' : ((cellsFrom (s.heap.objs.size + 1) fd.scope.names []).map (·.1)).Nodup := by
    have key : ∀ (names : List (Str × NameKind)) (a b : Nat) (u v : List (Str × Addr)), u.map (·.1) = v.map (·.1) → (cellsFrom a names u).map (·.1) = (cellsFrom b names v).map (·.1) := by
      intro names
      induction names with
      | nil => intro a b u v q; exact q
      | cons y r ih =>
        intro a b u v q
        unfold cellsFrom
        split
        · exact ih _ _ _ _ (by simp [q])
        · exact ih _ _ _ _ q
    rw [key _ _ 0 [] [] rfl]; exact hnd
  have S2 : W.St (⟨s.heap.objs.size, m⟩ :: Fs) (Mine.setCells cv (cellsFrom (s.heap.objs.size + 1) fd.scope.names []) G) s' := by
    refine St.setCells (cm := bindC (fun x => fd.scope.names.lookup x) binds fun _ => none) ?_ _ S1 (fun p hp => ?_) fun p hp => ?_
    · intro x
      have := celA_ok (kindOf := fun x => fd.scope.names.lookup x) (mc := fun _ => none) (m := []) dr (fun _ => rfl) x
      rw [hc] at this
      revert this
      cases cv.lookup x with
      | none => exact id
      | some av => exact fun ⟨v, e1, e2⟩ => ⟨v, e1, e2.keep kt⟩
    · exact hcell p.1 p.2 (lookup_of_mem_nodup hnd' hp)
    · have hlt : s.heap.objs.size < p.2 := hab p.1 p.2 hp
      refine ⟨hs.freshB (Nat.le_of_lt hlt), fun f hf => ?_⟩
      rcases List.mem_cons.mp hf with rfl | hf
      · exact Nat.ne_of_lt hlt
      · exact Nat.ne_of_lt (Nat.lt_trans (hs.fr f hf).lt hlt)
  refine noE (h s.heap.objs.size (fun a ha => hs.freshG ha) s' S2) fun fl s3 ⟨af, m', G', S3, k3, rf, q⟩ => ?_
  have S4 := S3.leave
  cases rf with
  | next => exact ⟨_, G', S4, kt.trans k3, .none, q⟩
  | brk => exact ⟨_, G', S4, kt.trans k3, .none, q⟩
  | cont => exact ⟨_, G', S4, kt.trans k3, .none, q⟩
  | ret rv => exact ⟨_, G', S4, kt.trans k3, rv, q⟩
end
end Mine

namespace Mine
section
variable {W : Wd} {A : Around} {Fs : List FA} {G : Mem} {K : Frag} {n : Nat} {env : Env} {pos : Pos} {Q : AV → Mem → Prop}

theorem callWith_gen {M : Model} {E : Value → Shared → Prop} {s : Shared} {f : Value} {first : List Value} {args : List Expr} {P : Heap → Prop} {Q : Value → Shared → Prop} (hplain : (backTo pos (starEach args env)).any (·.1) = false)
    (hk : ∀ h, P h → ∃ k, (k = Keeper.frame ∨ k = Keeper.machine ∨ k = Keeper.boundFrame) ∧ Looks M h (keeperOf f) k)
    (h : wpAny M A (spliced (backTo pos (starEach args env))) (fun vs s₁ => P s₁.heap ∧ wpAny M A (call f (first ++ vs)) Q E s₁) E s) : wpAny M A (callWith pos f first (backTo pos (starEach args env)) []) Q E s := by
  refine callWith_of (by rw [hplain]; rfl) hk ?_
  revert h hplain
  generalize backTo pos (starEach args env) = l
  intro hplain h
  cases l with
  | nil =>
    unfold evalArgs
    show wpAny M A (spliced [] >>= _) _ _ _
    refine wpAny_bind (wpAny_mono h (fun vs s' h' => ?_) fun _ _ x => x)
    exact wpAny_holding (wpAny_bind (wpAny_pure (wpAny_bind (wpAny_pure (wpAny_pure h')))))
  | cons x r =>
    obtain ⟨b, t⟩ := x
    have hb : b = false := by
      cases b
      · rfl
      · simp at hplain
    subst hb
    exact Calls.evalArgs_plain h

theorem glob_name {x : Str} {np : Pos} {v : Value} {s : Shared} {M : Model} {E : Value → Shared → Prop} {Q : Value → Shared → Prop} (X : Base W K) (hs : W.St Fs G s) (hk : env.scope.kind = .function) (hx : env.kindOf x = some .globalImplicit) (hg : env.globals = mainGlobals)
    (e : nsIn K mainGlobals x = some (some v)) (h : Q v s) (hd : (x == ("__debug__" : Str)) = false := by decide) : wpAny M A (eval (.Name x np) env) Q E s := by
  obtain ⟨mg, g⟩ := X.glob
  refine Calls.Name_function_global hk hx (Calls.loadGlobal_global (mg := mg) ?_ (mg_of X.kin g e) h) hd
  rw [hg]; exact g.keeps hs.base
theorem built_name {x : Str} {np : Pos} {v : Value} {s : Shared} {M : Model} {E : Value → Shared → Prop} {Q : Value → Shared → Prop} (X : Base W K) (hs : W.St Fs G s) (hk : env.scope.kind = .function) (hx : env.kindOf x = some .globalImplicit) (hg : env.globals = mainGlobals) (hb : env.builtins = builtinsNs)
    (e : nsIn K mainGlobals x = some none) (hv : bootBuiltins x = some v) (hne : x ≠ "__name__") (h : Q v s) (hd : (x == ("__debug__" : Str)) = false := by decide) : wpAny M A (eval (.Name x np) env) Q E s := by
  obtain ⟨mg, g⟩ := X.glob
  obtain ⟨mb, b, hbb⟩ := X.built
  refine Calls.Name_function_global hk hx (Calls.loadGlobal_builtin (mg := mg) (mb := mb) ?_ (mg_none_of X.kin g e) ?_ ((hbb x hne).trans hv) h) hd
  · rw [hg]; exact g.keeps hs.base
  · rw [hb]; exact b.keeps hs.base

theorem EV_glob {x : Str} {a : Addr} (X : Base W K) (e : nsIn K mainGlobals x = some (some (.ref a))) (hk : env.scope.kind = .function) (hx : env.kindOf x = some .globalImplicit) (hg : env.globals = mainGlobals) (q : Q (.ref a) G)
    (hd : (x == ("__debug__" : Str)) = false := by decide) : EV W A Fs G (eval (.Name x pos) env) Q := fun s hs => glob_name X hs hk hx hg e ⟨_, G, hs, .refl _, .ref _, q⟩ hd
theorem EV_globInt {x : Str} {i : Int} {t : Tok} (X : Base W K) (e : nsIn K mainGlobals x = some (some (.int i t))) (hk : env.scope.kind = .function) (hx : env.kindOf x = some .globalImplicit) (hg : env.globals = mainGlobals) (q : Q (.int i) G)
    (hd : (x == ("__debug__" : Str)) = false := by decide) : EV W A Fs G (eval (.Name x pos) env) Q := fun s hs => glob_name X hs hk hx hg e ⟨_, G, hs, .refl _, .int _ _, q⟩ hd

theorem args_step {f : Value} {args : List Expr} {s : Shared} (hs : W.St Fs G s) {P : Heap → Prop} (hP : ∀ {G s}, W.St Fs G s → P s.heap) (h : ES W A Fs G (spliced (backTo pos (starEach args env))) fun as G1 => OL W A Fs G1 as (fun vs => call f vs) Q) :
    wpAny W.M A (spliced (backTo pos (starEach args env))) (fun vs s₁ => P s₁.heap ∧ wpAny W.M A (call f ([] ++ vs)) (VP W Fs s.heap Q) NoE s₁) NoE s :=
  noE (h s hs) fun vs s1 ⟨as, G1, hs1, k1, r1, q⟩ => ⟨hP hs1, noE (q s1 vs hs1 r1) fun _ _ y => y.up k1⟩

theorem EV_call {x : Str} {np : Pos} {f : Addr} {args : List Expr} (X : Base W K) (e : nsIn K mainGlobals x = some (some (.ref f))) (hkeep : keepIn K (.ref f) = true) (hk : env.scope.kind = .function) (hx : env.kindOf x = some .globalImplicit) (hg : env.globals = mainGlobals)
    (h : ES W A Fs G (spliced (backTo pos (starEach args env))) fun as G1 => OL W A Fs G1 as (fun vs => call (.ref f) vs) Q) (hplain : (backTo pos (starEach args env)).any (·.1) = false := by rfl) (hd : (x == ("__debug__" : Str)) = false := by decide) :
    EV W A Fs G (eval (.Call (.Name x np) args [] pos) env) Q := fun s hs =>
  wpAny_Call_ofName (glob_name X hs hk hx hg e (callWith_gen hplain (keeps_K hkeep) (args_step hs (fun S => X.inH S) h)) hd)
theorem EV_callB {x : Str} {np : Pos} {id : String} {args : List Expr} (X : Base W K) (e : nsIn K mainGlobals x = some none) (hv : bootBuiltins x = some (.builtin id)) (hne : x ≠ "__name__") (hk : env.scope.kind = .function) (hx : env.kindOf x = some .globalImplicit) (hg : env.globals = mainGlobals) (hb : env.builtins = builtinsNs)
    (h : ES W A Fs G (spliced (backTo pos (starEach args env))) fun as G1 => OL W A Fs G1 as (fun vs => call (.builtin id) vs) Q) (hplain : (backTo pos (starEach args env)).any (·.1) = false := by rfl) (hd : (x == ("__debug__" : Str)) = false := by decide) :
    EV W A Fs G (eval (.Call (.Name x np) args [] pos) env) Q := fun s hs =>
  wpAny_Call_ofName (built_name X hs hk hx hg hb e hv hne (callWith_gen (P := fun _ => True) hplain (fun _ _ => ⟨.machine, .inr (.inl rfl), Looks.of_pure rfl⟩) (args_step (P := fun _ => True) hs (fun _ => True.intro) h)) hd)
theorem EV_callT {x : Str} {np : Pos} {T : String} {args : List Expr} (X : Base W K) (e : nsIn K mainGlobals x = some none) (hv : bootBuiltins x = some (.type T)) (hne : x ≠ "__name__") (hk : env.scope.kind = .function) (hx : env.kindOf x = some .globalImplicit) (hg : env.globals = mainGlobals) (hb : env.builtins = builtinsNs)
    (h : ES W A Fs G (spliced (backTo pos (starEach args env))) fun as G1 => OL W A Fs G1 as (fun vs => call (.type T) vs) Q) (hplain : (backTo pos (starEach args env)).any (·.1) = false := by rfl) (hd : (x == ("__debug__" : Str)) = false := by decide) :
    EV W A Fs G (eval (.Call (.Name x np) args [] pos) env) Q := fun s hs =>
  wpAny_Call_ofName (built_name X hs hk hx hg hb e hv hne (callWith_gen (P := fun _ => True) hplain (fun _ _ => ⟨.machine, .inr (.inl rfl), Looks.of_pure rfl⟩) (args_step (P := fun _ => True) hs (fun _ => True.intro) h)) hd)

def TyIs (W : Wd) (Fs : List FA) (G : Mem) (x : AV) (T : String) : Prop := ∀ s v, W.St Fs G s → VR s.heap v x → s.TypeIs v T ∧ ∀ a, v = .ref a → ∃ ob, s.heap.get? a = some ob ∧ ob.dict = none
theorem TyIs.str {x : Str} : TyIs W Fs G (.str x) "str" := fun s v hs r => by cases r; exact ⟨rfl, fun _ e => nomatch e⟩
theorem TyIs.list {a : Addr} {l : List AV} (h : G a = some (.list l)) : TyIs W Fs G (.ref a) "list" := fun s v hs r => by
  cases r
  obtain ⟨vs, k, e, _⟩ := hs.g a _ h
  exact ⟨⟨_, e, rfl⟩, fun b eb => by cases eb; exact ⟨_, e, rfl⟩⟩
theorem TyIs.dS {a : Addr} {l : List (Str × AV)} {k : Nat} (h : G a = some (.dS l k)) : TyIs W Fs G (.ref a) "dict" := fun s v hs r => by
  cases r
  obtain ⟨vs, ⟨o, es, e, ⟨c1, c2, _⟩, _⟩, _⟩ := hs.g a _ h
  exact ⟨⟨_, e, c1⟩, fun b eb => by cases eb; exact ⟨_, e, c2⟩⟩
theorem TyIs.dI {a : Addr} {l : List (Int × AV)} {k : Nat} (h : G a = some (.dI l k)) : TyIs W Fs G (.ref a) "dict" := fun s v hs r => by
  cases r
  obtain ⟨vs, ⟨o, es, e, ⟨c1, c2, _⟩, _⟩, _⟩ := hs.g a _ h
  exact ⟨⟨_, e, c1⟩, fun b eb => by cases eb; exact ⟨_, e, c2⟩⟩
theorem TyIs.dT {a : Addr} {l : List (List Str × AV)} {k : Nat} (h : G a = some (.dT l k)) : TyIs W Fs G (.ref a) "dict" := fun s v hs r => by
  cases r
  obtain ⟨vs, ⟨o, es, e, ⟨c1, c2, _⟩, _⟩, _⟩ := hs.g a _ h
  exact ⟨⟨_, e, c1⟩, fun b eb => by cases eb; exact ⟨_, e, c2⟩⟩

theorem EV_method {o : Expr} {name : Str} {apos : Pos} {args : List Expr} (T id : String) (pa : PlainAttrs T) (slot : Slot T name id) (hty : typeOf (.builtin id) = pure (.type "method_descriptor"))
    (h : EV W A Fs G (eval o env) fun ov G1 => TyIs W Fs G1 ov T ∧ ES W A Fs G1 (spliced (backTo pos (starEach args env))) fun as G2 => OL W A Fs G2 (ov :: as) (fun vs => call (.builtin id) vs) Q)
    (hbase : attributeBase o name env (eval o env) = eval o env := by rfl)
    (hfew : ((backTo pos (starEach args env)).all (fun x => !x.1) && (backToKw pos (keywordEach [] env)).all (fun x => x.1.isSome) && decide (args.length + ([] : List Keyword).length + (if ([] : List Keyword).isEmpty then 0 else 1) < 30)) = true := by rfl)
    (hline : (apos.endLine == pos.line) = true := by rfl) (hplain : (backTo pos (starEach args env)).any (·.1) = false := by rfl) :
    EV W A Fs G (eval (.Call (.Attribute o name apos) args [] pos) env) Q := fun s hs =>
  wpAny_Call_method_late (trees := backTo pos (starEach args env)) hbase hfew hline rfl (noE (h s hs) fun ov s1 ⟨oa, G1, hs1, k1, r1, hT, q⟩ =>
    ⟨T, id, pa, slot, hty, (hT s1 ov hs1 r1).1, (hT s1 ov hs1 r1).2, callWith_gen (P := fun _ => True) hplain (fun _ _ => ⟨.machine, .inr (.inl rfl), Looks.of_pure rfl⟩)
      (noE (q s1 hs1) fun vs s2 ⟨as, G2, hs2, k2, r2, q2⟩ => ⟨True.intro, noE (q2 s2 (ov :: vs) hs2 (.cons (r1.keep k2) r2)) fun _ _ y => y.up (k1.trans k2)⟩)⟩)

section
variable {L : Addr} {m : List (Str × AV)} {R : List (Str × AV) → Mem → Prop}
theorem SV_cell {x : Str} {c : Addr} {av : AV} {v₀ : Option AV} (hk : env.scope.kind = .function) (hl : env.kindOf x = some .cell) (hc : env.cells.lookup x = some c) (hg : G c = some (.cell v₀)) (q : R m (G.set c (.cell (some av)))) :
    SV W A L m Fs G av (storeName env x) R := fun s v hs r => by
  obtain ⟨o, u, ho, hd, _⟩ := hs.g c _ hg
  refine wpAny_storeName_cell hk hl hc ⟨o, ho, hd⟩ fun h' hcell hsb => ?_
  have k := hsb.extBut
  have nt : NotTup s.heap c := (hs.g c _ hg).notTup
  obtain ⟨o', ho', hd'⟩ := hcell
  exact ⟨m, _, hs.mut (o' := .cell (some av)) hg k ⟨o', _, ho', hd', v, rfl, r.keep (keepT_of k nt)⟩, keepT_of k nt, q⟩
theorem SV_name {x : Str} {av : AV} (h : SV W A L m Fs G av (storeName env x) R) : SV W A L m Fs G av (assign (.Name x pos) env) R := fun s v hs r => wpAny_assign_Name (h s v hs r)

def SVs (W : Wd) (A : Around) (L : Addr) (Fs : List FA) : List (Value → Sem Unit) → List AV → List (Str × AV) → Mem → (List (Str × AV) → Mem → Prop) → Prop
  | [], _, m, G, R => R m G
  | _ :: _, [], m, G, R => R m G
  | f :: fs, x :: xs, m, G, R => SV W A L m Fs G x f fun m' G' => SVs W A L Fs fs xs m' G' R
theorem SVs_run : ∀ {fs : List (Value → Sem Unit)} {xs : List AV} {m : List (Str × AV)} {G : Mem} {s : Shared} {vs : List Value}, SVs W A L Fs fs xs m G R → W.St (⟨L, m⟩ :: Fs) G s → VRs s.heap vs xs →
    wpAny W.M A (assignInOrder fs vs) (fun _ s' => UP W L Fs s.heap R s') NoE s
  | [], _, m, G, s, vs, h, hs, r => by unfold assignInOrder; exact wpAny_pure ⟨m, G, hs, .refl _, h⟩
  | _ :: _, [], m, G, s, vs, h, hs, r => by cases r; unfold assignInOrder; exact wpAny_pure ⟨m, G, hs, .refl _, h⟩
  | f :: fs, x :: xs, m, G, s, _, h, hs, .cons (v := v) (vs := vs) a r => by
    unfold assignInOrder
    refine wpAny_bind (wpAny_holding (noE (h s v hs a) fun _ s1 ⟨m1, G1, hs1, k1, q⟩ => noE (SVs_run q hs1 (r.keep k1)) fun _ _ y => y.up k1))

theorem SV_tuple {elts : List Expr} {k : Nat} {as : List AV} (hA : A.handled = none) (hn : (assignEach elts env).length = as.length) (hstar : (assignEach elts env).findIdx? (·.1) = none)
    (h : SVs W A L Fs ((assignEach elts env).map (·.2)) as m G R) : SV W A L m Fs G (.tup as) (assign (.Tuple elts k pos) env) R := fun s v hs r => by
  cases r with
  | @tup a o vs n _ ho hc hd r =>
    refine assign_Tuple_tuple (items := List.toArray vs) hA ⟨o, ho, hc, n, hd⟩ (by rw [hn, List.size_toArray, r.length]) hstar fun h' he => ?_
    have k0 : ∀ a o, s.heap.get? a = some o → h'.get? a = some o := fun b o e => he b o (Nat.ne_of_lt (Heap.lt_size e)) e
    have kt : KeepT s.heap h' := fun b o e _ => k0 b o e
    exact noE (SVs_run h (hs.ext (tk := s.toks) k0) (r.keep kt)) fun _ _ y => y.up kt

theorem EX_assignSwap {elts : List Expr} {k : Nat} {tpos : Pos} {value : Expr} {names : List Str} {Q : AF → List (Str × AV) → Mem → Prop} (hA : A.handled = none)
    (x : EV W A (⟨L, m⟩ :: Fs) G (eval value env) fun a G1 => ∃ as, a = .tup as ∧ as.length = names.length ∧ SVs W A L Fs (names.reverse.map fun n => bindName env n) as.reverse m G1 fun m' G2 => Q .next m' G2)
    (hs : swapsWithSole [.Tuple elts k tpos] value pos.line env = pure false := by rfl) (hw : swappedStores [.Tuple elts k tpos] value env = pure (some names) := by rfl) :
    EX W A L m Fs G (exec (.Assign [.Tuple elts k tpos] value pos) env) Q := fun s hs' =>
  Assign_Tuple_swapped (noE (x s hs') fun v s1 ⟨av, G1, hs1, k1, r1, as, e, hl, q⟩ => by
    subst e
    cases r1 with
    | @tup a o vs n _ ho hc hd r =>
      have hz : names.length = (List.toArray vs).size := by rw [List.size_toArray, r.length, hl]
      rw [hz]
      refine unpackItems_tuple hA ⟨o, ho, hc, n, hd⟩ fun h' he => ?_
      have k0 : ∀ a o, s1.heap.get? a = some o → h'.get? a = some o := fun b o e => he b o (Nat.ne_of_lt (Heap.lt_size e)) e
      have kt : KeepT s1.heap h' := fun b o e _ => k0 b o e
      have rr : ∀ {vs : List Value} {ds : List AV}, VRs h' vs ds → VRs h' vs.reverse ds.reverse := by
        intro vs ds z
        induction vs generalizing ds with
        | nil => cases z; exact .nil
        | cons v vs ih =>
          cases z with
          | cons a z => rw [List.reverse_cons, List.reverse_cons]; exact (ih z).append (.cons a .nil)
      exact noE (SVs_run q (hs1.ext (tk := s1.toks) k0) (rr (r.keep kt))) fun _ _ y => let ⟨m', G', a, b, c⟩ := y.up (k1.trans kt); ⟨_, m', G', a, b, .next, c⟩) hs hw
theorem SV_bind {x : Str} {av : AV} (h : SV W A L m Fs G av (storeName env x) R) : SV W A L m Fs G av (bindName env x) R := fun s v hs r => bindName_ (h s v hs r)
end
end
end Mine

namespace Mine

def AO.real : AO → Bool
  | .it .. | .fx .. | .acc .. => false
  | _ => true
def Mem.del (G : Mem) (a : Addr) : Mem := fun b => if b = a then none else G b
theorem Mem.del_ne (G : Mem) {a b : Addr} (h : b ≠ a) : (G.del a) b = G b := by simp [Mem.del, h]
theorem Mem.del_self (G : Mem) (a : Addr) : (G.del a) a = none := by simp [Mem.del]

def Sub (W : List Addr) (G G' : Mem) : Prop := ∀ a o, G a = some o → o.real = true → a ∉ W → G' a = some o
def KeepIt (G G' : Mem) : Prop := ∀ a o, G a = some o → o.real = false → G' a = some o
structure Ex (W : List Addr) (G G' : Mem) : Prop where
  sub : Sub W G G'
  its : KeepIt G G'
theorem Sub.refl (W : List Addr) (G : Mem) : Sub W G G := fun _ _ e _ _ => e
theorem Sub.trans {W : List Addr} {G G1 G2 : Mem} (x : Sub W G G1) (y : Sub W G1 G2) : Sub W G G2 := fun a o e r n => y a o (x a o e r n) r n
theorem Sub.up {W W' : List Addr} {G G' : Mem} (x : Sub W G G') (h : ∀ a ∈ W, a ∈ W') : Sub W' G G' := fun a o e r n => x a o e r fun q => n (h a q)
theorem KeepIt.refl (G : Mem) : KeepIt G G := fun _ _ e _ => e
theorem KeepIt.trans {G G1 G2 : Mem} (x : KeepIt G G1) (y : KeepIt G1 G2) : KeepIt G G2 := fun a o e r => y a o (x a o e r) r
theorem Ex.refl (W : List Addr) (G : Mem) : Ex W G G := ⟨.refl _ _, .refl _⟩
theorem Ex.trans {W : List Addr} {G G1 G2 : Mem} (x : Ex W G G1) (y : Ex W G1 G2) : Ex W G G2 := ⟨x.sub.trans y.sub, x.its.trans y.its⟩
theorem Ex.up {W W' : List Addr} {G G' : Mem} (x : Ex W G G') (h : ∀ a ∈ W, a ∈ W') : Ex W' G G' := ⟨x.sub.up h, x.its⟩
theorem Sub.set {W : List Addr} {G : Mem} {a : Addr} {o : AO} (h : a ∈ W) : Sub W G (G.set a o) := fun b o' e _ n => by
  rw [Mem.set_ne]; exact e
  exact fun q => n (q ▸ h)
theorem Ex.set {W : List Addr} {G : Mem} {a : Addr} {o o₀ : AO} (h0 : G a = some o₀) (hr : o₀.real = true) (h : a ∈ W) : Ex W G (G.set a o) := ⟨.set h, fun b o' e r => by
  rw [Mem.set_ne]; exact e
  intro q; subst q; rw [h0] at e; cases e; rw [hr] at r; cases r⟩
theorem Sub.new {W : List Addr} {G : Mem} {a : Addr} {o : AO} (h : G a = none) : Sub W G (G.set a o) := fun b o' e _ n => by
  rw [Mem.set_ne]; exact e
  intro q; subst q; rw [h] at e; cases e
theorem Ex.new {W : List Addr} {G : Mem} {a : Addr} {o : AO} (h : G a = none) : Ex W G (G.set a o) := ⟨.new h, fun b o' e r => by
  rw [Mem.set_ne]; exact e
  intro q; subst q; rw [h] at e; cases e⟩
theorem Sub.setIt {W : List Addr} {G : Mem} {a : Addr} {o o₀ : AO} (h0 : G a = some o₀) (hr : o₀.real = false) : Sub W G (G.set a o) := fun b o' e r n => by
  rw [Mem.set_ne]; exact e
  intro q; subst q; rw [h0] at e; cases e; rw [hr] at r; cases r
theorem Sub.delIt {W : List Addr} {G : Mem} {a : Addr} {o₀ : AO} (h0 : G a = some o₀) (hr : o₀.real = false) : Sub W G (G.del a) := fun b o' e r n => by
  rw [Mem.del_ne]; exact e
  intro q; subst q; rw [h0] at e; cases e; rw [hr] at r; cases r

theorem St.del {prog : Program} {w : World} {B : Heap} {s₀ s : Shared} {Fs : List FA} {G : Mem} (S : St prog w B s₀ Fs G s) {h' : Heap} {d : Addr} {o : AO} {tk : Nat} (e : G d = some o) (k : Heap.ExtBut d s.heap h') :
    St prog w B s₀ Fs (G.del d) { s with heap := h', toks := tk } :=
  S.change k (S.g d o e).notTup (S.gB d o e) (fun f hf q => by have := (S.frG f hf).1; rw [q, e] at this; cases this) (fun b hb => Mem.del_ne _ hb) fun o₁ e₁ => by
    rw [Mem.del_self] at e₁; cases e₁

structure Src (W : Wd) (A : Around) (I : Addr) (items : List AV) (st : Nat → AO) (ok : Mem → Prop) : Prop where
  next : ∀ {Fs : List FA} {G : Mem} {s : Shared} {i : Nat} {av : AV} {R : Option Value → Shared → Prop}, items[i]? = some av → W.St Fs G s → G I = some (st i) → ok G →
    (∀ v s', VR s'.heap v av → W.St Fs (G.set I (st (i + 1))) s' → KeepT s.heap s'.heap → R (some v) s') → wpAny W.M A (pyNext (.ref I)) R NoE s
  done : ∀ {Fs : List FA} {G : Mem} {s : Shared} {R : Option Value → Shared → Prop}, W.St Fs G s → G I = some (st items.length) → ok G →
    (∀ s', W.St Fs (G.del I) s' → KeepT s.heap s'.heap → R none s') → wpAny W.M A (pyNext (.ref I)) R NoE s
  self : ∀ {Fs : List FA} {G : Mem} {s : Shared} {i : Nat} {R : Value → Shared → Prop}, W.St Fs G s → G I = some (st i) → R (.ref I) s → wpAny W.M A (pyIter (.ref I)) R NoE s
  it : ∀ i, (st i).real = false
  own : ∀ {Fs : List FA} {G : Mem} {s : Shared} {i : Nat} {target : Expr} {v : Value} {R : Unit → Shared → Prop}, W.St Fs G s → G I = some (st i) → R () s → wpAny W.M A (letOwnedTupleGo target (.ref I) v) R NoE s

def IT (W : Wd) (A : Around) (Fs : List FA) (G : Mem) (x : AV) (items : List AV) (ok : Mem → Prop) : Prop :=
  ∀ (s : Shared) (v : Value) (R : Value → Shared → Prop), W.St Fs G s → VR s.heap v x →
    (∀ I st s', G I = none → Src W A I items st ok → W.St Fs (G.set I (st 0)) s' → KeepT s.heap s'.heap → R (.ref I) s') → wpAny W.M A (pyIter v) R NoE s

section
variable {W : Wd} {A : Around} {Fs : List FA} {G : Mem}

theorem own_of {cls : String} {fs : Array Value} {I : Addr} {o : Obj} {s : Shared} {target : Expr} {v : Value} {R : Unit → Shared → Prop} {M : Model} {E : Value → Shared → Prop} (ho : s.heap.get? I = some o) (hc : o.cls = .type cls) (hd : o.data = .fields fs)
    (hn : (["enumerate", "zip", "dict_itemiterator", "dict_reverseitemiterator", "odict_iterator", "itertools.zip_longest", "itertools.pairwise"] : List String).contains cls = false) (h : R () s) : wpAny M A (letOwnedTupleGo target (.ref I) v) R E s := by
  have key : wpAny M A (do
      let (.ref r, .ref a) := ((Value.ref I, v) : Value × Value) | return
      let o ← load r
      match o.cls, o.data with
      | .type n, .fields vs =>
        if (["enumerate", "zip", "dict_itemiterator", "dict_reverseitemiterator", "odict_iterator", "itertools.zip_longest", "itertools.pairwise"] : List String).contains n && vs[0]? == some (rawInt a) then
          rule "for.unpacks-the-owned-tuple"
          updateField r 0 .none
      | _, _ => pure ()) R E s := by
    cases v with
    | ref a =>
      refine wpAny_bind (wpAny_load ho ?_)
      rw [hc, hd]
      dsimp only
      rw [hn]
      exact wpAny_pure h
    | _ => exact wpAny_pure h
  cases target <;> first | exact key | exact wpAny_pure h

theorem IT_list {a : Addr} {l : List AV} (hA : A.handled = none) (h : G a = some (.list l)) : IT W A Fs G (.ref a) l fun G => G a = some (.list l) := fun s v R hs r k => by
  cases r
  obtain ⟨vs, n, e, rv⟩ := hs.g a _ h
  have hl : s.heap.IsList a (List.toArray vs) := ⟨_, e, rfl, n, rfl⟩
  refine wpAny_pyIter_list hl (k s.heap.objs.size (fun i => .it "list_iterator" #[.ref a, .int i 0] []) _ (hs.freshG (Nat.le_refl _)) ?_ ?_ ?_)
  · have ne : ∀ {G : Mem} {I : Addr} {i : Nat}, G a = some (.list l) → G I = some (.it "list_iterator" #[.ref a, .int i 0] []) → a ≠ I := fun h1 h2 q => by rw [q, h2] at h1; cases h1
    refine ⟨fun {Fs G s i av R} hi S hI hok q => ?_, fun {Fs G s R} S hI hok q => ?_, fun {Fs G s i R} S hI q => ?_, fun _ => rfl, fun {Fs G s i target v R} S hI q => ?_⟩
    · obtain ⟨⟨o, e1, e2, e3⟩, _⟩ := S.g _ _ hI
      obtain ⟨vs', n', e', rv'⟩ := S.g _ _ hok
      obtain ⟨v, hv, rr⟩ := rv'.get hi
      refine wpAny_pyNext_list_item (l := a) (items := List.toArray vs') ⟨o, e1, e2, e3⟩ ⟨_, e', rfl, n', rfl⟩ (by simpa using hv) fun h' hit' hs' => ?_
      have kt := keepT_of hs'.extBut (S.g _ _ hI).notTup
      exact q v _ (rr.keep kt) (S.mut (o' := .it "list_iterator" #[.ref a, .int (i + 1 : Nat) 0] []) hI hs'.extBut ⟨hit', fun _ hp => nomatch hp⟩) kt
    · obtain ⟨⟨o, e1, e2, e3⟩, _⟩ := S.g _ _ hI
      obtain ⟨vs', n', e', rv'⟩ := S.g _ _ hok
      refine wpAny_pyNext_list_end (l := a) (items := List.toArray vs') hA ⟨o, e1, e2, e3⟩ ⟨_, e', rfl, n', rfl⟩ (by simp [rv'.length]) fun h' he' => ?_
      exact q _ (S.del hI he') (keepT_of he' (S.g _ _ hI).notTup)
    · obtain ⟨⟨o, e1, e2, e3⟩, _⟩ := S.g _ _ hI
      exact wpAny_pyIter_listiter ⟨o, e1, e2, e3⟩ q
    · obtain ⟨⟨o, e1, e2, e3⟩, _⟩ := S.g _ _ hI
      exact own_of e1 e2 e3 (by decide) q
  · exact hs.new (o := .it "list_iterator" #[.ref a, .int (0 : Nat) 0] []) (tk := s.toks) (Nat.le_refl _) (fun b o e => Heap.get?_push_of_some _ e) ⟨⟨_, Heap.get?_push_size _ rfl, rfl, rfl⟩, fun _ hp => nomatch hp⟩
  · exact fun b o e _ => Heap.get?_push_of_some _ e

theorem IT_tuple {l : List AV} (hA : A.handled = none) : IT W A Fs G (.tup l) l fun _ => True := fun s v R hs r k => by
  cases r with
  | @tup a o vs n _ ho hc hd rv =>
  have ht : IsTup s.heap a (List.toArray vs) := ⟨o, ho, hc, n, hd⟩
  refine iter_tuple ht (k s.heap.objs.size (fun i => .it "tuple_iterator" #[.ref a, .int i 0] [(.ref a, .tup l)]) _ (hs.freshG (Nat.le_refl _)) ?_ ?_ ?_)
  · have tup : ∀ {h : Heap}, VR h (.ref a) (.tup l) → ∃ vs, IsTup h a (List.toArray vs) ∧ VRs h vs l := fun x => by
      cases x with
      | @tup _ o vs n _ ho hc hd rv => exact ⟨vs, ⟨o, ho, hc, n, hd⟩, rv⟩
    refine ⟨fun {Fs G s i av R} hi S hI hok q => ?_, fun {Fs G s R} S hI hok q => ?_, fun {Fs G s i R} S hI q => ?_, fun _ => rfl, fun {Fs G s i target v R} S hI q => ?_⟩
    · obtain ⟨⟨o, e1, e2, e3⟩, hh⟩ := S.g _ _ hI
      have hv := hh _ (.head _)
      obtain ⟨vs', e', rv'⟩ := tup hv
      obtain ⟨v, hv', rr⟩ := rv'.get hi
      refine next_tuple_item (t := a) (items := List.toArray vs') ⟨o, e1, e2, e3⟩ e' (by simpa using hv') fun h' hit' hs' => ?_
      have kt := keepT_of hs'.extBut (S.g _ _ hI).notTup
      refine q v _ (rr.keep kt) (S.mut (o' := .it "tuple_iterator" #[.ref a, .int (i + 1 : Nat) 0] [(.ref a, .tup l)]) hI hs'.extBut ⟨hit', fun p hp => ?_⟩) kt
      rw [List.mem_singleton.mp hp]; exact hv.keep kt
    · obtain ⟨⟨o, e1, e2, e3⟩, hh⟩ := S.g _ _ hI
      obtain ⟨vs', e', rv'⟩ := tup (hh _ (.head _))
      refine next_tuple_end (t := a) (items := List.toArray vs') hA ⟨o, e1, e2, e3⟩ e' (by simp [rv'.length]) fun h' he' => ?_
      exact q _ (S.del hI he') (keepT_of he' (S.g _ _ hI).notTup)
    · obtain ⟨⟨o, e1, e2, e3⟩, _⟩ := S.g _ _ hI
      exact wpAny_pyIter_tupleiter ⟨o, e1, e2, e3⟩ q
    · obtain ⟨⟨o, e1, e2, e3⟩, _⟩ := S.g _ _ hI
      exact own_of e1 e2 e3 (by decide) q
  · refine hs.new (o := .it "tuple_iterator" #[.ref a, .int (0 : Nat) 0] [(.ref a, .tup l)]) (tk := s.toks) (Nat.le_refl _) (fun b o e => Heap.get?_push_of_some _ e) ⟨⟨_, Heap.get?_push_size _ rfl, rfl, rfl⟩, fun p hp => ?_⟩
    rw [List.mem_singleton.mp hp]
    exact (VR.tup ho hc hd rv).keep fun b o e _ => Heap.get?_push_of_some _ e
  · exact fun b o e _ => Heap.get?_push_of_some _ e

theorem rangeSize_nat (n : Nat) : Builtin.Range.rangeSize 0 n 1 = n := by
  unfold Builtin.Range.rangeSize
  rw [if_pos (by decide)]
  split <;> omega
theorem rangeSmall_nat {n : Nat} (hn : (n : Int) < 2 ^ 62) : Builtin.Range.small 0 n 1 = true := by
  unfold Builtin.Range.small Builtin.Range.rangeFitsLong
  rw [rangeSize_nat]
  have h2 : (2 : Int) ^ 62 < 2 ^ 63 := by decide
  have e1 : decide (-(2 ^ 63 : Int) ≤ (n : Int)) = true := decide_eq_true (by omega)
  have e2 : decide ((n : Int) < 2 ^ 63) = true := decide_eq_true (by omega)
  have e3 : decide (-(2 ^ 63 : Int) ≤ (n : Int) + (1 - 1)) = true := decide_eq_true (by omega)
  have e4 : decide ((n : Int) + (1 - 1) < 2 ^ 63) = true := decide_eq_true (by omega)
  simp only [e1, e2, Bool.and_true]
  rw [if_pos (by decide)]
  simp only [e3, e4, Bool.and_true, Bool.or_true]
  decide
theorem IT_range {a : Addr} {n : Nat} {t u v : Tok} (hA : A.handled = none) (hn : (n : Int) < 2 ^ 62) (h : G a = some (.fx "range" #[.int 0 t, .int n u, .int 1 v])) : IT W A Fs G (.ref a) ((List.range n).map fun i => AV.int (i : Nat)) fun _ => True := fun s v R hs r k => by
  cases r
  have hr := hs.g a _ h
  have W0 := fun I => Walks.range (prog := W.prog) (w := W.w) (A := A) hA I 0 1 n
  refine wpAny_pyIter_range hr (rangeSmall_nat hn) (k s.heap.objs.size (fun i => .fx "range_iterator" #[rawInt i, rawInt (n - i), rawInt 1]) _ (hs.freshG (Nat.le_refl _)) ?_ ?_ ?_)
  · have len : ((List.range n).map fun i => AV.int (i : Nat)).length = n := by simp
    refine ⟨fun {Fs G s i av R} hi S hI hok q => ?_, fun {Fs G s R} S hI hok q => ?_, fun {Fs G s i R} S hI q => ?_, fun _ => rfl, fun {Fs G s i target v R} S hI q => ?_⟩
    · have hlt : i < n := by
        have := (List.getElem?_eq_some_iff.mp hi).1
        rwa [len] at this
      have hav : av = .int (i : Nat) := by simpa [hlt] using hi.symm
      subst hav
      have e := S.g _ _ hI
      refine wpAny_pyNext_range_item (x := (i : Int)) (left := (n : Int) - i) (step := 1) e (by omega) fun h' hit' hs' => ?_
      have kt := keepT_of hs'.extBut (S.g _ _ hI).notTup
      refine q _ _ (.int _ _) (S.mut (o' := .fx "range_iterator" #[rawInt (i + 1 : Nat), rawInt (n - (i + 1 : Nat)), rawInt 1]) hI hs'.extBut ?_) kt
      have e2 : (n : Int) - ((i + 1 : Nat) : Int) = (n : Int) - i - 1 := by omega
      show IsRangeIter h' _ _ _ _
      rw [e2]; exact hit'
    · rw [len] at hI
      have e := S.g _ _ hI
      refine wpAny_pyNext_range_end (x := (n : Int)) (left := (n : Int) - n) (step := 1) hA e (by omega) fun h' he' => ?_
      exact q _ (S.del hI he') (keepT_of he' (S.g _ _ hI).notTup)
    · have e := S.g _ _ hI
      refine (W0 _).self i _ _ _ ?_ q
      have e2 : (0 : Int) + ((i : Nat) : Int) * 1 = i := by omega
      show IsRangeIter _ _ _ _ _
      rw [e2]; exact e
    · have e := S.g _ _ hI
      exact own_of e rfl rfl (by decide) q
  · refine hs.new (o := .fx "range_iterator" #[rawInt (0 : Nat), rawInt (n - (0 : Nat)), rawInt 1]) (tk := s.toks) (Nat.le_refl _) (fun b o e => Heap.get?_push_of_some _ e) ?_
    rw [rangeSize_nat]
    have e2 : (n : Int) - ((0 : Nat) : Int) = n := by omega
    show (Heap.push _ _).get? _ = some _
    rw [e2]
    exact Heap.get?_push_size _ rfl
  · exact fun b o e _ => Heap.get?_push_of_some _ e

def KeyIt (h : Heap) (it d : Addr) (i n ep : Nat) : Prop := ∃ o, h.get? it = some o ∧ o.cls = .type "dict_keyiterator" ∧ o.data = .fields #[.ref d, .int i 0, .int n 0, .int ep 0]
section
variable {prog : Program} {w : World} {E : Value → Shared → Prop} {s : Shared} {it d : Addr} {i ep : Nat} {od : Obj} {es : Array DictEntry}
theorem iter_dictRaw {R : Value → Shared → Prop} (hs : (d == sysModules) = false) (ho : s.heap.get? d = some od) (hc : od.cls = .type "dict") (hd : od.data = .dict es ep)
    (h : R (.ref s.heap.objs.size) { s with heap := s.heap.push { cls := .type "dict_keyiterator", data := .fields #[.ref d, .int 0 0, .int es.size 0, .int ep 0] } }) : wpAny (model prog w) A (pyIter (.ref d)) R E s := by
  have hT : s.TypeIs (.ref d) "dict" := ⟨od, ho, hc⟩
  refine wpAny_pyIter_slot hT F.slot_dict_iter (wpAny_call_entry F.slot_dict_iter hT F.entry_dict_iter ?_ (F.args_dict_iter_1 _))
  unfold Builtin.«dict.__iter__»
  refine wpAny_bind ?_
  unfold Builtin.Dict.dictSlotNone
  refine wpAny_bind (wpAny_notOrdered_dict hT (wpAny_pure ?_))
  show wpAny _ _ (Builtin.Dict.showsAll d >>= _) _ _ s
  unfold Builtin.Dict.showsAll
  rw [if_neg (by rw [hs]; exact Bool.false_ne_true)]
  refine wpAny_bind (wpAny_pure (wpAny_bind (wpAny_dictEntries ho hd (wpAny_bind (wpAny_dictEpoch ho hd ?_)))))
  refine wpAny_bind (wpAny_newObj_type (wpAny_pure ⟨_, rfl, "dict_keyiterator", _, ⟨_, Heap.get?_push_size _ rfl, rfl⟩, F.slot_dict_keyiterator_next.lookup, ?_⟩))
  simpa [rawInt] using h

theorem KeyIt.lib (x : KeyIt s.heap it d i es.size ep) : s.heap.IsKeyIter it d i es.size ep := x
theorem next_key {R : Option Value → Shared → Prop} (hit : KeyIt s.heap it d i es.size ep) (ho : s.heap.get? d = some od) (hd : od.data = .dict es ep) (hi : i < es.size)
    (h : ∀ h', KeyIt h' it d (i + 1) es.size ep → Heap.SameBut it s.heap h' → R (some es[i].key) { s with heap := h' }) : wpAny (model prog w) A (pyNext (.ref it)) R E s := by
  obtain ⟨o, hio, hic, hid⟩ := id hit
  have hT : s.TypeIs (.ref it) "dict_keyiterator" := ⟨o, hio, hic⟩
  unfold pyNext
  refine wpAny_bind (wpAny_attempt (wpAny_callSpecial?_slot (name := Str.ofString "__next__") hT F.slot_dict_keyiterator_next
    (wpAny_call_entry F.slot_dict_keyiterator_next hT F.entry_dict_keyiterator_next ?_ (F.args_dict_keyiterator_next_1 _))))
  refine wpAny_bind (wpAny_pure (wpAny_bind (wpAny_bind (wpAny_bind (wpAny_typeNameOfWhole_keyiter hT (wpAny_pure ?_))))))
  refine wpAny_bind (wpAny_fieldsOf hio hid ?_)
  simp only [show Builtin.Dict_items.ownsTuple "dict_keyiterator" = false by decide, Bool.false_eq_true, if_false]
  show wpAny _ _ (if (Value.ref d == Value.none) = true then _ else _) _ _ s
  rw [if_neg (show ¬ ((Value.ref d == Value.none) = true) from Bool.false_ne_true)]
  refine wpAny_bind (wpAny_pure (wpAny_bind (wpAny_dictEntries ho hd ?_)))
  rw [if_neg (by simp)]
  refine wpAny_bind (wpAny_pure (wpAny_bind (wpAny_dictEpoch ho hd ?_)))
  rw [if_neg (by simp)]
  refine wpAny_pure ?_
  simp only [show ¬ ((i : Int) < 0) from by omega, if_false, Int.toNat_natCast, Array.getElem?_eq_getElem hi]
  refine wpAny_bind (wpAny_bind (wpAny_typeNameOfWhole_keyiter hT (wpAny_pure (wpAny_bind (wpAny_isOneOf_keyiter hT ?_)))))
  show wpAny _ _ (setField (.ref it) 1 (rawInt ((i : Int) + 1)) >>= _) _ _ s
  refine wpAny_bind (wpAny_setField hio hid (by simp) ?_)
  have hit' : KeyIt (s.heap.update it (Obj.mapFields (·.setIfInBounds 1 (rawInt ((i : Int) + 1))))) it d (i + 1) es.size ep :=
    ⟨_, Heap.get?_update_self _ hio (Obj.isFreed_of_fields (Obj.data_mapFields hid _)), (Obj.cls_mapFields ..).trans hic, by rw [Obj.data_mapFields hid]; simp [rawInt]⟩
  have hT' : Shared.TypeIs { s with heap := s.heap.update it (Obj.mapFields (·.setIfInBounds 1 (rawInt ((i : Int) + 1)))) } (.ref it) "dict_keyiterator" := let ⟨o', a, b, _⟩ := hit'; ⟨o', a, b⟩
  refine wpAny_bind (wpAny_holding (wpAny_bind (wpAny_isOneOf_keyiter hT' ?_)))
  show wpAny _ _ (pure es[i].key) _ _ _
  exact wpAny_pure (wpAny_pure ⟨_, rfl, wpAny_pure (h _ hit' (Heap.SameBut.update ..))⟩)

theorem end_key {R : Option Value → Shared → Prop} (hh : A.handled = none) (hit : KeyIt s.heap it d i es.size ep) (ho : s.heap.get? d = some od) (hd : od.data = .dict es ep) (hi : es.size ≤ i)
    (h : ∀ h', Heap.ExtBut it s.heap h' → R none { s with heap := h' }) : wpAny (model prog w) A (pyNext (.ref it)) R E s := by
  obtain ⟨o, hio, hic, hid⟩ := id hit
  have hT : s.TypeIs (.ref it) "dict_keyiterator" := ⟨o, hio, hic⟩
  unfold pyNext
  refine wpAny_bind (wpAny_attempt (wpAny_callSpecial?_slot (name := Str.ofString "__next__") hT F.slot_dict_keyiterator_next
    (wpAny_call_entry F.slot_dict_keyiterator_next hT F.entry_dict_keyiterator_next ?_ (F.args_dict_keyiterator_next_1 _))))
  refine wpAny_bind (wpAny_pure (wpAny_bind (wpAny_bind (wpAny_bind (wpAny_typeNameOfWhole_keyiter hT (wpAny_pure ?_))))))
  refine wpAny_bind (wpAny_fieldsOf hio hid ?_)
  simp only [show Builtin.Dict_items.ownsTuple "dict_keyiterator" = false by decide, Bool.false_eq_true, if_false]
  show wpAny _ _ (if (Value.ref d == Value.none) = true then _ else _) _ _ s
  rw [if_neg (show ¬ ((Value.ref d == Value.none) = true) from Bool.false_ne_true)]
  refine wpAny_bind (wpAny_pure (wpAny_bind (wpAny_dictEntries ho hd ?_)))
  rw [if_neg (by simp)]
  refine wpAny_bind (wpAny_pure (wpAny_bind (wpAny_dictEpoch ho hd ?_)))
  rw [if_neg (by simp)]
  refine wpAny_pure ?_
  simp only [show ¬ ((i : Int) < 0) from by omega, if_false, Int.toNat_natCast, Array.getElem?_eq_none hi]
  refine wpAny_bind (wpAny_bind (wpAny_typeNameOfWhole_keyiter hT (wpAny_pure ?_)))
  show wpAny _ _ (setField (.ref it) 0 .none >>= _) _ _ s
  refine wpAny_bind (wpAny_setField hio hid (by simp) ?_)
  show wpAny _ _ (newExc (.type "StopIteration") [] >>= _) _ _ _
  refine wpAny_bind ?_
  simp only [newExc, newTuple]
  refine wpAny_bind (wpAny_newObj_type ?_ (by size_fits))
  refine wpAny_bind (m := firstArgMember _ _) (wpAny_of_eq (a := Value.none) (by first | rfl | (simp only [firstArgMember]; rfl)) ?_)
  refine wpAny_newObj_type ?_ (by size_fits)
  simp only [raiseNew]
  refine wpAny_bind (wpAny_handled ?_)
  rw [show A.in1.handled = none from hh]
  refine wpAny_bind (wpAny_pure (wpAny_throw ?_))
  refine wpAny_bind (wpAny_isInstance (T := "StopIteration") (b := true) ⟨_, Heap.get?_push_size _ rfl, rfl⟩ isSubtype_stop ?_)
  exact wpAny_pure (h _ (((Heap.SameBut.update ..).extBut.push _).push _))

theorem self_key {R : Value → Shared → Prop} {n : Nat} (hit : KeyIt s.heap it d i n ep) (h : R (.ref it) s) : wpAny (model prog w) A (pyIter (.ref it)) R E s :=
  wpAny_pyIter_keyiter (d := d) (i := i) (n := n) (ep := ep) hit h
end

def KeysAre (h : Heap) (d : Addr) (keys : List AV) (ep : Nat) : Prop := ∃ o es, h.get? d = some o ∧ o.cls = .type "dict" ∧ o.data = .dict es ep ∧ VRs h (es.toList.map (·.key)) keys

theorem IT_dict {d : Addr} {keys : List AV} {ep : Nat} {ok : Mem → Prop} (hA : A.handled = none) (hsm : (d == sysModules) = false) (h0 : ok G) (hok : ∀ {Fs : List FA} {G : Mem} {s : Shared}, W.St Fs G s → ok G → KeysAre s.heap d keys ep) :
    IT W A Fs G (.ref d) keys ok := fun s v R hs r k => by
  cases r
  obtain ⟨od, es, ho, hc, hd, rv⟩ := hok hs h0
  have hz : es.size = keys.length := by rw [← rv.length]; simp
  refine iter_dictRaw hsm ho hc hd (k s.heap.objs.size (fun i => .it "dict_keyiterator" #[.ref d, .int i 0, .int keys.length 0, .int ep 0] []) _ (hs.freshG (Nat.le_refl _)) ?_ ?_ ?_)
  · refine ⟨fun {Fs G s i av R} hi S hI hk q => ?_, fun {Fs G s R} S hI hk q => ?_, fun {Fs G s i R} S hI q => ?_, fun _ => rfl, fun {Fs G s i target v R} S hI q => ?_⟩
    · obtain ⟨⟨o, e1, e2, e3⟩, _⟩ := S.g _ _ hI
      obtain ⟨od, es, ho, hc, hd, rv⟩ := hok S hk
      have hz : es.size = keys.length := by rw [← rv.length]; simp
      have hlt : i < es.size := by rw [hz]; exact (List.getElem?_eq_some_iff.mp hi).1
      obtain ⟨v, hv, rr⟩ := rv.get hi
      have hv' : v = es[i].key := by simpa [hlt] using hv.symm
      subst hv'
      refine next_key (ep := ep) ⟨o, e1, e2, by rw [hz]; exact e3⟩ ho hd hlt fun h' hit' hs' => ?_
      have kt := keepT_of hs'.extBut (S.g _ _ hI).notTup
      refine q _ _ (rr.keep kt) (S.mut (o' := .it "dict_keyiterator" #[.ref d, .int (i + 1 : Nat) 0, .int keys.length 0, .int ep 0] []) hI hs'.extBut ⟨?_, fun _ hp => nomatch hp⟩) kt
      rw [hz] at hit'; exact hit'
    · obtain ⟨⟨o, e1, e2, e3⟩, _⟩ := S.g _ _ hI
      obtain ⟨od, es, ho, hc, hd, rv⟩ := hok S hk
      have hz : es.size = keys.length := by rw [← rv.length]; simp
      refine end_key (ep := ep) (i := keys.length) hA ⟨o, e1, e2, by rw [hz]; exact e3⟩ ho hd (Nat.le_of_eq hz) fun h' he' => ?_
      exact q _ (S.del hI he') (keepT_of he' (S.g _ _ hI).notTup)
    · obtain ⟨⟨o, e1, e2, e3⟩, _⟩ := S.g _ _ hI
      exact self_key (n := keys.length) (ep := ep) ⟨o, e1, e2, e3⟩ q
    · obtain ⟨⟨o, e1, e2, e3⟩, _⟩ := S.g _ _ hI
      exact own_of e1 e2 e3 (by decide) q
  · refine hs.new (o := .it "dict_keyiterator" #[.ref d, .int (0 : Nat) 0, .int keys.length 0, .int ep 0] []) (tk := s.toks) (Nat.le_refl _) (fun b o e => Heap.get?_push_of_some _ e) ⟨⟨_, Heap.get?_push_size _ rfl, rfl, ?_⟩, fun _ hp => nomatch hp⟩
    rw [hz]; rfl
  · exact fun b o e _ => Heap.get?_push_of_some _ e
end
end Mine

namespace Mine
section
variable {W : Wd} {A : Around} {Fs : List FA} {G : Mem} {env : Env} {pos : Pos} {L : Addr} {m : List (Str × AV)} {Q : AF → List (Str × AV) → Mem → Prop}

theorem EX_forI {target iter : Expr} {body : List Stmt}
    (h : EV W A (⟨L, m⟩ :: Fs) G (eval iter env) fun x G1 => ∃ (Inv : Nat → List (Str × AV) → Mem → Prop) (items : List AV) (ok : Mem → Prop), (∀ {i m G G'}, Inv i m G → Sub [] G G' → Inv i m G') ∧ IT W A (⟨L, m⟩ :: Fs) G1 x items ok ∧ (∀ i m G, Inv i m G → ok G) ∧ Inv 0 m G1 ∧
      (∀ i x m G, items[i]? = some x → Inv i m G → KeepIt G1 G → SV W A L m Fs G x (assign target env) fun m' G' => EX W A L m' Fs G' (execs body env) fun af m'' G'' => match af with
        | .ret v => Q (.ret v) m'' G''
        | .brk => Q .next m'' G''
        | _ => KeepIt G G'' ∧ Inv (i + 1) m'' G'') ∧
      ∀ m G, Inv items.length m G → KeepIt G1 G → Q .next m G)
    (hs : ∀ x, foldedSetIterable iter env x = pure x := by intro _; rfl) : EX W A L m Fs G (exec (.For target iter body [] pos) env) Q := fun s hs0 => by
  refine wpAny_For (noE (h s hs0) fun xv s1 ⟨x, G1, hs1, k1, r1, Inv, items, ok, mono, hit, hok, h0, turn, done⟩ => ?_) hs
  refine noE (hit s1 xv (fun it s2 => codeAny W.M A (.forLoop target it body [] env) (fun r s' => match r with | .ok f => FP W L Fs s.heap Q f s' | .error e => cameBackBy W.M A env NoE e s') s2) hs1 r1 fun I st s2 hI src hs2 k2 => ?_) fun _ _ y => y
  refine codeAny_forLoop_any (fun k s' => ∃ i m G, k = items.length - i ∧ i ≤ items.length ∧ W.St (⟨L, m⟩ :: Fs) G s' ∧ G I = some (st i) ∧ KeepT s.heap s'.heap ∧ KeepIt G1 G ∧ Inv i m G) ?_ items.length
    ⟨0, m, G1.set I (st 0), rfl, Nat.zero_le _, hs2, Mem.set_self _ _ _, k1.trans k2, (Ex.new (W := []) hI).its, mono h0 (.new hI)⟩
  rintro k s' ⟨i, m', G', rfl, hle, S, hGI, kt, kit, hinv⟩
  by_cases hlt : i < items.length
  · refine wpAny_mono (src.next (av := items[i]) (List.getElem?_eq_getElem hlt) S hGI (hok _ _ _ hinv) (R := fun r s₁ => ∃ v, r = some v ∧ VR s₁.heap v items[i] ∧ W.St (⟨L, m'⟩ :: Fs) (G'.set I (st (i + 1))) s₁ ∧ KeepT s'.heap s₁.heap) fun v s3 rv S3 k3 => ⟨v, rfl, rv, S3, k3⟩) (fun r s3 hr => ?_) fun _ _ f => f.elim
    obtain ⟨v, rfl, rv, S3, k3⟩ := hr
    have hGI' : (G'.set I (st (i + 1))) I = some (st (i + 1)) := Mem.set_self _ _ _
    have hinv' : Inv i m' (G'.set I (st (i + 1))) := mono hinv (.setIt hGI (src.it i))
    have kit' : KeepIt G1 (G'.set I (st (i + 1))) := fun a o e r => by
      rw [Mem.set_ne]
      · exact kit a o e r
      · intro q; subst q; rw [hI] at e; cases e
    refine wpAny_mono (src.own (target := target) (v := v) S3 hGI' (R := fun _ s₁ => s₁ = s3) rfl) (fun _ s4 e4 => ?_) fun _ _ f => f.elim
    subst e4
    refine wpAny_mono (turn i items[i] m' _ (List.getElem?_eq_getElem hlt) hinv' kit' s4 v S3 rv) (fun _ s5 y => ?_) fun _ _ f => f.elim
    obtain ⟨m5, G5, S5, k5, x5⟩ := y
    refine wpAny_mono (x5 s5 S5) (fun fl s6 y => ?_) fun _ _ f => f.elim
    obtain ⟨af, m6, G6, S6, k6, rf, q6⟩ := y
    have kk : KeepT s.heap s6.heap := kt.trans (k3.trans (k5.trans k6))
    cases rf with
    | next => exact ⟨items.length - (i + 1), by omega, i + 1, m6, G6, rfl, hlt, S6, q6.1 _ _ hGI' (src.it _), kk, kit'.trans q6.1, q6.2⟩
    | cont => exact ⟨items.length - (i + 1), by omega, i + 1, m6, G6, rfl, hlt, S6, q6.1 _ _ hGI' (src.it _), kk, kit'.trans q6.1, q6.2⟩
    | brk => exact ⟨.next, m6, G6, S6, kk, .next, q6⟩
    | ret rv => exact ⟨.ret _, m6, G6, S6, kk, .ret rv, q6⟩
  · have hin : i = items.length := by omega
    subst hin
    refine wpAny_mono (src.done S hGI (hok _ _ _ hinv) (R := fun r s₁ => r = none ∧ W.St (⟨L, m'⟩ :: Fs) (G'.del I) s₁ ∧ KeepT s'.heap s₁.heap) fun s3 S3 k3 => ⟨rfl, S3, k3⟩) (fun r s3 hr => ?_) fun _ _ f => f.elim
    obtain ⟨rfl, S3, k3⟩ := hr
    refine wpAny_execs_nil ⟨.next, m', _, S3, kt.trans k3, .next, done m' _ (mono hinv (.delIt hGI (src.it _))) fun a o e r => ?_⟩
    rw [Mem.del_ne]
    · exact kit a o e r
    · intro q; subst q; rw [hI] at e; cases e
theorem EX_for {target iter : Expr} {body : List Stmt} (Inv : Nat → List (Str × AV) → Mem → Prop) (mono : ∀ {i m G G'}, Inv i m G → Sub [] G G' → Inv i m G')
    (h : EV W A (⟨L, m⟩ :: Fs) G (eval iter env) fun x G1 => ∃ items ok, IT W A (⟨L, m⟩ :: Fs) G1 x items ok ∧ (∀ i m G, Inv i m G → ok G) ∧ Inv 0 m G1 ∧
      (∀ i x m G, items[i]? = some x → Inv i m G → KeepIt G1 G → SV W A L m Fs G x (assign target env) fun m' G' => EX W A L m' Fs G' (execs body env) fun af m'' G'' => match af with
        | .ret v => Q (.ret v) m'' G''
        | .brk => Q .next m'' G''
        | _ => KeepIt G G'' ∧ Inv (i + 1) m'' G'') ∧
      ∀ m G, Inv items.length m G → KeepIt G1 G → Q .next m G)
    (hs : ∀ x, foldedSetIterable iter env x = pure x := by intro _; rfl) : EX W A L m Fs G (exec (.For target iter body [] pos) env) Q :=
  EX_forI (h.mono fun x G1 ⟨items, ok, h1, h2, h3, h4, h5⟩ => ⟨Inv, items, ok, mono, h1, h2, h3, h4, h5⟩) hs
end
end Mine

namespace Mine
section
variable {prog : Program} {w : World} {A : Around} {E : Value → Shared → Prop} {s : Shared}
theorem comp_loop {elt target iter : Expr} {ifs : List Expr} {scope : Scope} {pos : Pos} {it acc : Value} {env : Env} {R : Result → Shared → Prop} (I : Nat → Shared → Prop)
    (turn : ∀ n s, I n s → wpAny (model prog w) A (pyNext it) (fun r s₁ => match r with
      | none => R (.ok .next) s₁
      | some v => wpAny (model prog w) A (letOwnedTupleGo target it v) (fun _ s₀ => wpAny (model prog w) A (assign target env v) (fun _ s₂ =>
          wpAny (model prog w) A (forIn ifs true fun c r => if r = true then do let ok ← isTrue c env (eval c env); pure (ForInStep.yield ok) else pure (ForInStep.yield r)) (fun ok s₃ =>
            if ok = true then wpAny (model prog w) A (eval elt env) (fun x s₄ => wpAny (model prog w) A (call (.builtin "list.append") [acc, x]) (fun _ s₅ => ∃ m, m < n ∧ I m s₅) NoE s₄) NoE s₃
            else ∃ m, m < n ∧ I m s₃) NoE s₂) NoE s₀) NoE s₁) NoE s)
    (n : Nat) (h : I n s) : codeAny (model prog w) A (.compLoop (.ListComp elt [⟨target, iter, ifs, 0⟩] scope pos) 0 it acc env) R s := by
  refine codeAny_loop rfl I (fun n s hI => ?_) n h
  show wpAny _ A ((compTurn (.ListComp elt [⟨target, iter, ifs, 0⟩] scope pos) 0 it acc env).onRaise (fun x => do noteFrame x env; theTreesLotGoes x)) _ _ s
  refine wpAny_onRaise ?_
  rw [compTurn_list]
  refine wpAny_bind (wpAny_standAt (wpAny_bind (noE (turn n s hI) fun r s₁ h₁ => ?_)))
  cases r with
  | none => exact wpAny_pure h₁
  | some v =>
    refine wpAny_bind (noE h₁ fun _ s₀ h₀ => wpAny_bind (noE h₀ fun _ s₂ h₂ => wpAny_bind (noE h₂ fun ok s₃ h₃ => ?_)))
    cases ok with
    | false => exact wpAny_pure ⟨rfl, h₃⟩
    | true => exact wpAny_bind (wpAny_bind (noE h₃ fun x s₄ h₄ => wpAny_bind (noE h₄ fun _ s₅ h₅ => wpAny_pure (wpAny_pure ⟨rfl, h₅⟩))))
theorem append_raw {l : Addr} {vs : List Value} {n : Nat} {x : Value} {Q : Value → Shared → Prop} (hl : s.heap.get? l = some (listOf (List.toArray vs) n)) (hz : vs.length ≤ sizeLine)
    (hQ : ∀ h' n', h'.get? l = some (listOf (List.toArray (vs ++ [x])) n') → Heap.SameBut l s.heap h' → Q .none { s with heap := h' }) : wpAny (model prog w) A (call (.builtin "list.append") [.ref l, x]) Q E s :=
  wpAny_list_append_plain (items := List.toArray vs) (hsz := by rw [List.size_toArray]; exact hz) ⟨n, hl⟩ fun h' ⟨n', e⟩ hs => hQ h' n' (by rw [e]; simp) hs
end

def Tests (W : Wd) (A : Around) (Fs : List FA) (env : Env) (G : Mem) (ifs : List Expr) (Q : Bool → Mem → Prop) : Prop := match ifs with
  | [] => Q true G
  | [c] => EB W A Fs G (isTrue c env (eval c env)) Q
  | _ => False
section
variable {W : Wd} {A : Around} {Fs : List FA} {G : Mem} {env : Env} {pos : Pos}
theorem Tests.run {ifs : List Expr} {Q : Bool → Mem → Prop} {s : Shared} (h : Tests W A Fs env G ifs Q) (hs : W.St Fs G s) :
    wpAny W.M A (forIn ifs true fun c r => if r = true then do let ok ← isTrue c env (eval c env); pure (ForInStep.yield ok) else pure (ForInStep.yield r)) (BP W Fs s.heap Q) NoE s := by
  match ifs, h with
  | [], h => exact wpAny_tests_nil ⟨G, hs, .refl _, h⟩
  | [c], h => exact wpAny_tests_one (h s hs)

theorem St.leaveBut {f : FA} {s : Shared} (S : W.St (f :: Fs) G s) {h' : Heap} {tk : Nat} (k : Heap.ExtBut f.L s.heap h') : W.St Fs G { s with heap := h', toks := tk } :=
  St.change S.leave k (S.fr f (.head _)).notTup (S.frG f (.head _)).2 (fun g hg q => by
    have := S.nd
    rw [List.map_cons, List.nodup_cons] at this
    exact this.1 (q ▸ List.mem_map_of_mem hg)) (fun _ _ => rfl) fun o e => by rw [(S.frG f (.head _)).1] at e; cases e
theorem St.swap {f g : FA} {s : Shared} (S : W.St (f :: g :: Fs) G s) : W.St (g :: f :: Fs) G s := by
  refine ⟨S.base, fun x hx => S.fr x ?_, fun x hx => S.frG x ?_, ?_, S.g, S.gB, S.sh⟩
  · rcases List.mem_cons.mp hx with h | h
    · exact h ▸ .tail _ (.head _)
    · rcases List.mem_cons.mp h with h | h
      · exact h ▸ .head _
      · exact .tail _ (.tail _ h)
  · rcases List.mem_cons.mp hx with h | h
    · exact h ▸ .tail _ (.head _)
    · rcases List.mem_cons.mp h with h | h
      · exact h ▸ .head _
      · exact .tail _ (.tail _ h)
  · have := S.nd
    simp only [List.map_cons, List.nodup_cons, List.mem_cons, not_or] at this ⊢
    exact ⟨⟨fun e => this.1.1 e.symm, this.2.1⟩, this.1.2, this.2.2⟩

theorem COMP {elt target iter : Expr} {ifs : List Expr} {scope : Scope} {cl : List (Str × Addr)} {items : List AV} {ok : Mem → Prop} {x : AV} {RR : Value → Addr → Result → Shared → Prop} {s : Shared} {v : Value}
    (Inv : Nat → List AV → Mem → Prop) (mono : ∀ {i acc G G'}, Inv i acc G → Sub [] G G' → Inv i acc G') (hit : IT W A Fs G x items ok) (hok : ∀ i acc G, Inv i acc G → ok G) (h0 : Inv 0 [] G) (hz : items.length ≤ sizeLine)
    (hcell : ∀ y ∈ scope.names, y.2 ≠ .cell) (hkind : scope.kind = .function)
    (turn : ∀ C i x acc G, items[i]? = some x → Inv i acc G → SV W A C [] Fs G x (assign target (compEnvC scope cl C env)) fun m' G' => Tests W A (⟨C, m'⟩ :: Fs) (compEnvC scope cl C env) G' ifs fun b G2 =>
      if b then EV W A (⟨C, m'⟩ :: Fs) G2 (eval elt (compEnvC scope cl C env)) fun y G3 => KeepIt G G3 ∧ Inv (i + 1) (acc ++ [y]) G3 else KeepIt G G2 ∧ Inv (i + 1) acc G2)
    (hs : W.St Fs G s) (hv : VR s.heap v x)
    (done : ∀ acc G' D C s', G' D = none → Inv items.length acc G' → KeepIt G G' → G D = none → W.St (⟨C, []⟩ :: Fs) (G'.set D (.list acc)) s' → KeepT s.heap s'.heap → RR (.ref D) C (.ok .next) s') :
    wpAny W.M A (pyIter v) (fun it s₂ => wpAny W.M A (newList []) (fun acc s₃ => wpAny W.M A (newFunctionEnv scope env.globals cl [] env.qual none .none (some env)) (fun cenv s₄ =>
      codeAny W.M A (.compStart (.ListComp elt [⟨target, iter, ifs, 0⟩] scope pos) 0 it acc { cenv with scope := relabel scope env }) (RR acc cenv.locals) s₄) NoE s₃) NoE s₂) NoE s := by
  refine hit s v _ hs hv fun I st s2 hI src hs2 k2 => ?_
  have hID : I ≠ s2.heap.objs.size := Nat.ne_of_lt (hs2.lt (Mem.set_self G I (st 0)))
  refine wpAny_newList ?_ (Nat.zero_le _)
  have e3 : ∀ a o, s2.heap.get? a = some o → (s2.heap.push { cls := .type "list", data := .seq ([] : List Value).toArray }).get? a = some o := fun a o e => Heap.get?_push_of_some _ e
  have S3 : W.St Fs ((G.set I (st 0)).set s2.heap.objs.size (.acc [])) { s2 with heap := s2.heap.push { cls := .type "list", data := .seq ([] : List Value).toArray } } :=
    hs2.new (o := .acc []) (tk := s2.toks) (Nat.le_refl _) e3 ⟨[], 0, Heap.get?_push_size _ rfl, .nil⟩
  generalize hD : s2.heap.objs.size = D at *
  generalize hs3 : ({ s2 with heap := s2.heap.push { cls := .type "list", data := .seq ([] : List Value).toArray } } : Shared) = s3 at *
  have k3 : KeepT s2.heap s3.heap := by rw [← hs3]; exact fun a o e _ => e3 a o e
  have hGD : G D = none := by
    have := hs2.freshG (a := D) (by rw [hD]; exact Nat.le_refl _)
    rwa [Mem.set_ne _ _ (Ne.symm hID)] at this
  refine wpAny_newFunctionEnv hcell (by intro y hy; simp at hy) (fun h₁ hns₁ hsb₁ => ?_) hkind
  have e4 : ∀ a o, s3.heap.get? a = some o → h₁.get? a = some o := fun a o e => hsb₁.extBut a o (Nat.ne_of_lt (Heap.lt_size e)) (Heap.get?_push_of_some _ e)
  have S4 : W.St (⟨s3.heap.objs.size, []⟩ :: Fs) ((G.set I (st 0)).set D (.acc [])) { s3 with heap := h₁, toks := s3.toks + ([] : List (Str × Value)).length } :=
    St.enter S3 (Nat.le_refl _) e4 hns₁ fun x av e => nomatch e
  generalize hC : s3.heap.objs.size = C at *
  have k4 : KeepT s3.heap h₁ := fun a o e _ => e4 a o e
  generalize hs4 : ({ s3 with heap := h₁, toks := s3.toks + ([] : List (Str × Value)).length } : Shared) = s4 at *
  have k04 : KeepT s.heap s4.heap := by rw [← hs4]; exact k2.trans (k3.trans k4)
  have loop : codeAny W.M A (.compLoop (.ListComp elt [⟨target, iter, ifs, 0⟩] scope pos) 0 (.ref I) (.ref D) (compEnvC scope cl C env)) (RR (.ref D) C) s4 := by
    refine comp_loop (fun k s' => ∃ i acc G1, k = items.length - i ∧ i ≤ items.length ∧ W.St (⟨C, []⟩ :: Fs) G1 s' ∧ G1 I = some (st i) ∧ G1 D = some (.acc acc) ∧ acc.length ≤ i ∧ KeepT s.heap s'.heap ∧ KeepIt G G1 ∧ Inv i acc G1) ?_ items.length
      ⟨0, [], _, rfl, Nat.zero_le _, S4, by rw [Mem.set_ne _ _ hID]; exact Mem.set_self _ _ _, Mem.set_self _ _ _, Nat.le_refl _, k04, ?_, ?_⟩
    · rintro k s' ⟨i, acc, G1, rfl, hle, S, hGI, hG1D, hal, kt, kit, hinv⟩
      by_cases hlt : i < items.length
      · refine wpAny_mono (src.next (av := items[i]) (List.getElem?_eq_getElem hlt) S hGI (hok _ _ _ hinv) (R := fun r s₁ => ∃ v, r = some v ∧ VR s₁.heap v items[i] ∧ W.St (⟨C, []⟩ :: Fs) (G1.set I (st (i + 1))) s₁ ∧ KeepT s'.heap s₁.heap) fun v s3 rv S3 k3 => ⟨v, rfl, rv, S3, k3⟩) (fun r s3 hr => ?_) fun _ _ f => f.elim
        obtain ⟨v, rfl, rv, S3, k3⟩ := hr
        have hGI' : (G1.set I (st (i + 1))) I = some (st (i + 1)) := Mem.set_self _ _ _
        have hGD' : (G1.set I (st (i + 1))) D = some (.acc acc) := by rw [Mem.set_ne _ _ (Ne.symm hID)]; exact hG1D
        have hinv' : Inv i acc (G1.set I (st (i + 1))) := mono hinv (.setIt hGI (src.it i))
        have kit' : KeepIt G (G1.set I (st (i + 1))) := fun a o e r => by
          rw [Mem.set_ne]
          · exact kit a o e r
          · intro q; subst q; rw [hI] at e; cases e
        refine wpAny_mono (src.own (target := target) (v := v) S3 hGI' (R := fun _ s₁ => s₁ = s3) rfl) (fun _ s4 e4 => ?_) fun _ _ f => f.elim
        subst e4
        refine wpAny_mono (turn C i items[i] acc _ (List.getElem?_eq_getElem hlt) hinv' s4 v S3 rv) (fun _ s5 y => ?_) fun _ _ f => f.elim
        obtain ⟨m5, G5, S5, k5, x5⟩ := y
        refine wpAny_mono (x5.run S5) (fun b s6 y => ?_) fun _ _ f => f.elim
        obtain ⟨G6, S6, k6, x6⟩ := y
        cases b with
        | false =>
          simp only [Bool.false_eq_true, if_false] at x6 ⊢
          exact ⟨items.length - (i + 1), by omega, i + 1, acc, G6, rfl, hlt, S6.weaken (fun _ _ e => nomatch e), x6.1 _ _ hGI' (src.it _), x6.1 _ _ hGD' rfl, by omega, kt.trans (k3.trans (k5.trans k6)), kit'.trans x6.1, x6.2⟩
        | true =>
          simp only [if_true] at x6 ⊢
          refine wpAny_mono (x6 s6 S6) (fun v7 s7 y => ?_) fun _ _ f => f.elim
          obtain ⟨av, G7, S7, k7, r7, q7⟩ := y
          have hD7 := q7.1 _ _ hGD' rfl
          obtain ⟨vs, n, ho, hr⟩ := S7.g _ _ hD7
          refine append_raw ho (by rw [hr.length]; omega) fun h' n' ho' hsb => ?_
          have kb := hsb.extBut
          have nt := (S7.g _ _ hD7).notTup
          have S8 : W.St (⟨C, m5⟩ :: Fs) (G7.set D (.acc (acc ++ [av]))) { s7 with heap := h' } := S7.mut (o' := .acc (acc ++ [av])) (tk := s7.toks) hD7 kb ⟨_, n', ho', (hr.append (.cons r7 .nil)).keep (keepT_of kb nt)⟩
          refine ⟨items.length - (i + 1), by omega, i + 1, acc ++ [av], _, rfl, hlt, S8.weaken (fun _ _ e => nomatch e), ?_, Mem.set_self _ _ _, by simp; omega, kt.trans (k3.trans (k5.trans (k6.trans (k7.trans (keepT_of kb nt))))), ?_, mono q7.2 (.setIt hD7 rfl)⟩
          · rw [Mem.set_ne _ _ hID]; exact q7.1 _ _ hGI' (src.it _)
          · intro a o e r
            rw [Mem.set_ne]
            · exact kit'.trans q7.1 a o e r
            · intro q; subst q; rw [hGD] at e; cases e
      · have hin : i = items.length := by omega
        subst hin
        refine wpAny_mono (src.done S hGI (hok _ _ _ hinv) (R := fun r s₁ => r = none ∧ W.St (⟨C, []⟩ :: Fs) (G1.del I) s₁ ∧ KeepT s'.heap s₁.heap) fun s3 S3 k3 => ⟨rfl, S3, k3⟩) (fun r s3 hr => ?_) fun _ _ f => f.elim
        obtain ⟨rfl, S3, k3⟩ := hr
        have hD3 : (G1.del I) D = some (.acc acc) := by rw [Mem.del_ne _ (Ne.symm hID)]; exact hG1D
        have S5 : W.St (⟨C, []⟩ :: Fs) ((G1.del I).set D (.list acc)) { s3 with heap := s3.heap, toks := s3.toks } := S3.mut (o' := .list acc) (tk := s3.toks) hD3 (fun _ _ _ e => e) (let z := S3.g D (.acc acc) hD3; z)
        have eG : (G1.del I).set D (.list acc) = ((G1.del I).del D).set D (.list acc) := by
          funext b; simp only [Mem.set, Mem.del]; split <;> simp_all
        rw [eG] at S5
        refine done acc ((G1.del I).del D) D C _ (Mem.del_self _ _) (mono (mono hinv (.delIt hGI (src.it _))) (.delIt hD3 rfl)) (fun a o e r => ?_) hGD S5 (kt.trans k3)
        rw [Mem.del_ne, Mem.del_ne]
        · exact kit a o e r
        · intro q; subst q; rw [hI] at e; cases e
        · intro q; subst q; rw [hGD] at e; cases e
    · intro a o e r
      rw [Mem.set_ne, Mem.set_ne]
      · exact e
      · intro q; subst q; rw [hI] at e; cases e
      · intro q; subst q; rw [hGD] at e; cases e
    · refine mono (mono h0 (.new hI)) (.new ?_)
      rw [Mem.set_ne _ _ (Ne.symm hID)]; exact hGD
  refine codeAny_compStart_list loop ?_
  have S4' := S4
  refine wpAny_mono (src.self (i := 0) S4' (by rw [Mem.set_ne _ _ hID]; exact Mem.set_self _ _ _) (R := fun v s' => v = .ref I ∧ s' = s4) ⟨rfl, rfl⟩) (fun v s' ⟨e1, e2⟩ => ?_) fun _ _ f => f.elim
  subst e1 e2
  exact loop

def CompOk (W : Wd) (A : Around) (Fs : List FA) (env : Env) (elt target : Expr) (ifs : List Expr) (scope : Scope) (cl : List (Str × Addr)) (Inv : Nat → List AV → Mem → Prop) (x : AV) (G : Mem) (Q : Addr → List AV → Mem → Prop) : Prop :=
  ∃ items ok, IT W A Fs G x items ok ∧ (∀ i acc G, Inv i acc G → ok G) ∧ Inv 0 [] G ∧ items.length ≤ sizeLine ∧
    (∀ C i x acc G, items[i]? = some x → Inv i acc G → SV W A C [] Fs G x (assign target (compEnvC scope cl C env)) fun m' G' => Tests W A (⟨C, m'⟩ :: Fs) (compEnvC scope cl C env) G' ifs fun b G2 =>
      if b then EV W A (⟨C, m'⟩ :: Fs) G2 (eval elt (compEnvC scope cl C env)) fun y G3 => KeepIt G G3 ∧ Inv (i + 1) (acc ++ [y]) G3 else KeepIt G G2 ∧ Inv (i + 1) acc G2) ∧
    ∀ acc G' D, G' D = none → Inv items.length acc G' → KeepIt G G' → Q D acc (G'.set D (.list acc))

theorem EV_compI {elt target iter : Expr} {ifs : List Expr} {scope : Scope} {cl : List (Str × Addr)} {Q : AV → Mem → Prop}
    (hclos : closureFor scope env = pure cl) (hcell : ∀ y ∈ scope.names, y.2 ≠ .cell) (hkind : scope.kind = .function) (hnames : ∀ y ∈ scope.names, y.2 = .local → scope.names.lookup y.1 = some .local)
    (h : EV W A Fs G (eval iter env) fun x G1 => ∃ Inv : Nat → List AV → Mem → Prop, (∀ {i acc G G'}, Inv i acc G → Sub [] G G' → Inv i acc G') ∧ CompOk W A Fs env elt target ifs scope cl Inv x G1 fun D _ G' => Q (.ref D) G')
    (hs : ∀ x, foldedSetIterable iter env x = pure x := by intro _; rfl) : EV W A Fs G (eval (.ListComp elt [⟨target, iter, ifs, 0⟩] scope pos) env) Q := fun s hs0 => by
  rw [eval_ListComp]
  refine wpAny_comprehension_free (g := ⟨target, iter, ifs, 0⟩) (gs := []) (use := none) rfl hs hclos hkind hnames (noE (h s hs0) fun xv s1 ⟨x, G1, hs1, k1, r1, Inv, mono, items, ok, hit, hok, h0, hz, turn, done⟩ => ?_)
  refine wpAny_mono (COMP (RR := fun acc C => compPost W.M A NoE none (VP W Fs s.heap Q) acc C) (x := x) Inv mono hit hok h0 hz hcell hkind turn hs1 r1 fun acc G' D C s' hD hn kit hGD S k => ?_) (fun _ _ y => y) fun _ _ f => f.elim
  obtain ⟨mc, hns, _⟩ := S.fr _ (.head _)
  exact ⟨mc, hns, fun h' hsb => ⟨_, _, St.leaveBut (tk := s'.toks) S hsb.extBut, k1.trans (k.trans (keepT_of hsb.extBut (S.fr _ (.head _)).notTup)), .ref _, done acc G' D hD hn kit⟩⟩

theorem EV_comp {elt target iter : Expr} {ifs : List Expr} {scope : Scope} {cl : List (Str × Addr)} {Q : AV → Mem → Prop} (Inv : Nat → List AV → Mem → Prop) (mono : ∀ {i acc G G'}, Inv i acc G → Sub [] G G' → Inv i acc G')
    (hclos : closureFor scope env = pure cl) (hcell : ∀ y ∈ scope.names, y.2 ≠ .cell) (hkind : scope.kind = .function) (hnames : ∀ y ∈ scope.names, y.2 = .local → scope.names.lookup y.1 = some .local)
    (h : EV W A Fs G (eval iter env) fun x G1 => CompOk W A Fs env elt target ifs scope cl Inv x G1 fun D _ G' => Q (.ref D) G')
    (hs : ∀ x, foldedSetIterable iter env x = pure x := by intro _; rfl) : EV W A Fs G (eval (.ListComp elt [⟨target, iter, ifs, 0⟩] scope pos) env) Q :=
  EV_compI hclos hcell hkind hnames (h.mono fun x G1 z => ⟨Inv, mono, z⟩) hs

theorem EX_assignCompI {elt target iter : Expr} {ifs : List Expr} {scope : Scope} {cl : List (Str × Addr)} {y : Str} {py spos : Pos} {L : Addr} {m : List (Str × AV)} {Q : AF → List (Str × AV) → Mem → Prop}
    (hsw : swapsWith (.ListComp elt [⟨target, iter, ifs, 0⟩] scope pos) (some (.Name y py)) spos.line env = pure true)
    (hclos : closureFor scope env = pure cl) (hcell : ∀ y ∈ scope.names, y.2 ≠ .cell) (hkind : scope.kind = .function) (hnames : ∀ y ∈ scope.names, y.2 = .local → scope.names.lookup y.1 = some .local)
    (hL : env.locals = L) (hk : env.scope.kind = .function) (hl : env.kindOf y = some .local)
    (h : EV W A (⟨L, m⟩ :: Fs) G (eval iter env) fun x G1 => ∃ Inv : Nat → List AV → Mem → Prop, (∀ {i acc G G'}, Inv i acc G → Sub [] G G' → Inv i acc G') ∧ CompOk W A (⟨L, m⟩ :: Fs) env elt target ifs scope cl Inv x G1 fun D _ G' => Q .next (setm m y (.ref D)) G')
    (hs : ∀ x, foldedSetIterable iter env x = pure x := by intro _; rfl) : EX W A L m Fs G (exec (.Assign [.Name y py] (.ListComp elt [⟨target, iter, ifs, 0⟩] scope pos) spos) env) Q := fun s hs0 => by
  rw [exec_Assign_Name_used _ _ _ _ hsw]
  refine wpAny_bind (wpAny_standAt (wpAny_bind ?_))
  show wpAny _ A (do let _ ← comprehension (.ListComp elt [⟨target, iter, ifs, 0⟩] scope pos) scope env _ (newList []) false (eval iter env) (some (assign (.Name y py) env))) _ _ s
  refine wpAny_bind (noE (wpAny_comprehension_free (Q := fun _ s' => FP W L Fs s.heap Q .next s') (g := ⟨target, iter, ifs, 0⟩) (gs := []) (use := some (assign (.Name y py) env)) rfl hs hclos hkind hnames
    (noE (h s hs0) fun xv s1 ⟨x, G1, hs1, k1, r1, Inv, mono, items, ok, hit, hok, h0, hz, turn, done⟩ => ?_)) fun _ s' hq => wpAny_pure (wpAny_pure hq))
  refine wpAny_mono (COMP (RR := fun acc C => compPost W.M A NoE (some (assign (.Name y py) env)) (fun _ s' => FP W L Fs s.heap Q .next s') acc C) (x := x) Inv mono hit hok h0 hz hcell hkind turn hs1 r1 fun acc G' D C s' hD hn kit hGD S k => ?_) (fun _ _ y => y) fun _ _ f => f.elim
  have S' := St.swap S
  refine noE (SV_name (SV_local (Q := fun m' G2 => m' = setm m y (.ref D) ∧ G2 = G'.set D (.list acc)) hL hk hl ⟨rfl, rfl⟩) s' (.ref D) S' (.ref D)) fun _ s2 ⟨m2, G2, S2, k2, e1, e2⟩ => ?_
  subst e1 e2
  have S3 := St.swap S2
  obtain ⟨mc, hns, _⟩ := S3.fr _ (.head _)
  exact ⟨mc, hns, fun h' hsb => ⟨_, _, _, St.leaveBut (tk := s2.toks) S3 hsb.extBut, k1.trans (k.trans (k2.trans (keepT_of hsb.extBut (S3.fr _ (.head _)).notTup))), .next, done acc G' D hD hn kit⟩⟩
theorem EX_assignComp {elt target iter : Expr} {ifs : List Expr} {scope : Scope} {cl : List (Str × Addr)} {y : Str} {py spos : Pos} {L : Addr} {m : List (Str × AV)} {Q : AF → List (Str × AV) → Mem → Prop} (Inv : Nat → List AV → Mem → Prop) (mono : ∀ {i acc G G'}, Inv i acc G → Sub [] G G' → Inv i acc G')
    (hsw : swapsWith (.ListComp elt [⟨target, iter, ifs, 0⟩] scope pos) (some (.Name y py)) spos.line env = pure true)
    (hclos : closureFor scope env = pure cl) (hcell : ∀ y ∈ scope.names, y.2 ≠ .cell) (hkind : scope.kind = .function) (hnames : ∀ y ∈ scope.names, y.2 = .local → scope.names.lookup y.1 = some .local)
    (hL : env.locals = L) (hk : env.scope.kind = .function) (hl : env.kindOf y = some .local)
    (h : EV W A (⟨L, m⟩ :: Fs) G (eval iter env) fun x G1 => CompOk W A (⟨L, m⟩ :: Fs) env elt target ifs scope cl Inv x G1 fun D _ G' => Q .next (setm m y (.ref D)) G')
    (hs : ∀ x, foldedSetIterable iter env x = pure x := by intro _; rfl) : EX W A L m Fs G (exec (.Assign [.Name y py] (.ListComp elt [⟨target, iter, ifs, 0⟩] scope pos) spos) env) Q :=
  EX_assignCompI hsw hclos hcell hkind hnames hL hk hl (h.mono fun x G1 z => ⟨Inv, mono, z⟩) hs
end
end Mine

namespace Mine

theorem VRs.inv1 {h : Heap} {vs : List Value} {a : AV} (r : VRs h vs [a]) : ∃ v, vs = [v] ∧ VR h v a := by
  cases r with | cons r1 r => cases r; exact ⟨_, rfl, r1⟩
theorem VRs.inv2 {h : Heap} {vs : List Value} {a b : AV} (r : VRs h vs [a, b]) : ∃ v u, vs = [v, u] ∧ VR h v a ∧ VR h u b := by
  cases r with | cons r1 r => obtain ⟨u, rfl, r2⟩ := r.inv1; exact ⟨_, _, rfl, r1, r2⟩
theorem VRs.inv3 {h : Heap} {vs : List Value} {a b c : AV} (r : VRs h vs [a, b, c]) : ∃ v u t, vs = [v, u, t] ∧ VR h v a ∧ VR h u b ∧ VR h t c := by
  cases r with | cons r1 r => obtain ⟨u, t, rfl, r2, r3⟩ := r.inv2; exact ⟨_, _, _, rfl, r1, r2, r3⟩
theorem VR.refI {h : Heap} {v : Value} {a : Addr} (r : VR h v (.ref a)) : v = .ref a := by cases r; rfl
theorem VR.intI {h : Heap} {v : Value} {a : Int} (r : VR h v (.int a)) : ∃ t, v = .int a t := by cases r; exact ⟨_, rfl⟩
theorem VR.strI {h : Heap} {v : Value} {a : Str} (r : VR h v (.str a)) : ∃ t, v = .str a t := by cases r; exact ⟨_, rfl⟩

def aget {κ : Type} [DecidableEq κ] (kvs : List (κ × AV)) (k : κ) : Option AV := (kvs.find? fun p => decide (p.1 = k)).map (·.2)
def aset {κ : Type} [DecidableEq κ] (kvs : List (κ × AV)) (k : κ) (v : AV) : List (κ × AV) := if kvs.any (fun p => decide (p.1 = k)) then kvs.map (fun p => if p.1 = k then (p.1, v) else p) else kvs ++ [(k, v)]

section
variable {h : Heap} {κ : Type} [DecidableEq κ]
theorem DR.get {es : List (κ × Value)} {kvs : List (κ × AV)} (x : DR h es kvs) (k : κ) : match aget kvs k with
    | some av => ∃ v, valueAt es k = some v ∧ VR h v av
    | none => valueAt es k = none := by
  induction x with
  | nil => rfl
  | @cons k' v av es kvs a _ ih =>
    unfold aget valueAt at *
    simp only [List.find?_cons]
    by_cases hk : k' = k
    · simp only [hk, decide_true, Option.map_some]; exact ⟨v, rfl, a⟩
    · simp only [hk, decide_false]; exact ih
theorem DR.any {es : List (κ × Value)} {kvs : List (κ × AV)} (x : DR h es kvs) (k : κ) : es.any (fun p => decide (p.1 = k)) = kvs.any (fun p => decide (p.1 = k)) := by
  induction x with
  | nil => rfl
  | cons a _ ih => simp only [List.any_cons, ih]
theorem DR.mapSet {k : κ} {v : Value} {av : AV} (q : VR h v av) {es : List (κ × Value)} {kvs : List (κ × AV)} (x : DR h es kvs) : DR h (es.map fun kv => if kv.1 = k then (kv.1, v) else kv) (kvs.map fun p => if p.1 = k then (p.1, av) else p) := by
  induction x with
  | nil => exact .nil
  | @cons k' v' av' es kvs a d ih =>
    simp only [List.map_cons]
    by_cases hk : k' = k
    · simp only [hk, if_true]; exact .cons q ih
    · simp only [hk, if_false]; exact .cons a ih
theorem DR.app {k : κ} {v : Value} {av : AV} (q : VR h v av) {es : List (κ × Value)} {kvs : List (κ × AV)} (x : DR h es kvs) : DR h (es ++ [(k, v)]) (kvs ++ [(k, av)]) := by
  induction x with
  | nil => exact .cons q .nil
  | cons a _ ih => exact .cons a ih
theorem DR.set {es : List (κ × Value)} {kvs : List (κ × AV)} {k : κ} {v : Value} {av : AV} (q : VR h v av) (x : DR h es kvs) : DR h (stored es k v) (aset kvs k av) := by
  unfold stored aset
  rw [x.any k]
  split
  · exact x.mapSet q
  · exact x.app q

theorem DRT.get {es : List (κ × Addr × Value)} {kvs : List (κ × AV)} (x : DRT h es kvs) (k : κ) : match aget kvs k with
    | some av => ∃ a v, atKey es k = some (a, v) ∧ VR h v av
    | none => atKey es k = none := by
  induction x with
  | nil => rfl
  | @cons k' b v av es kvs a _ ih =>
    unfold aget atKey at *
    simp only [List.find?_cons]
    by_cases hk : k' = k
    · simp only [hk, decide_true, Option.map_some]; exact ⟨b, v, rfl, a⟩
    · simp only [hk, decide_false]; exact ih
theorem DRT.some_iff {es : List (κ × Addr × Value)} {kvs : List (κ × AV)} (x : DRT h es kvs) (k : κ) : (atKey es k).isSome = kvs.any (fun p => decide (p.1 = k)) := by
  induction x with
  | nil => rfl
  | @cons k' b v av es kvs a _ ih =>
    unfold atKey at *
    simp only [List.find?_cons, List.any_cons]
    by_cases hk : k' = k
    · simp only [hk, decide_true, Option.map_some, Option.isSome_some, Bool.true_or]
    · simp only [hk, decide_false, Bool.false_or]; exact ih
theorem DRT.mapSet {k : κ} {v : Value} {av : AV} (q : VR h v av) {es : List (κ × Addr × Value)} {kvs : List (κ × AV)} (x : DRT h es kvs) : DRT h (es.map (putAt k v)) (kvs.map fun p => if p.1 = k then (p.1, av) else p) := by
  induction x with
  | nil => exact .nil
  | @cons k' b v' av' es kvs a d ih =>
    simp only [List.map_cons, putAt]
    by_cases hk : k' = k
    · simp only [hk, if_true]; exact .cons q ih
    · simp only [hk, if_false]; exact .cons a ih
theorem DRT.app {k : κ} {b : Addr} {v : Value} {av : AV} (q : VR h v av) {es : List (κ × Addr × Value)} {kvs : List (κ × AV)} (x : DRT h es kvs) : DRT h (es ++ [(k, b, v)]) (kvs ++ [(k, av)]) := by
  induction x with
  | nil => exact .cons q .nil
  | cons a _ ih => exact .cons a ih
theorem DRT.set {es : List (κ × Addr × Value)} {kvs : List (κ × AV)} {k : κ} {b : Addr} {v : Value} {av : AV} (q : VR h v av) (x : DRT h es kvs) : DRT h (storedH es k b v) (aset kvs k av) := by
  unfold storedH aset
  rw [x.some_iff k]
  split
  · exact x.mapSet q
  · exact x.app q
theorem DR.isSome {es : List (κ × Value)} {kvs : List (κ × AV)} (x : DR h es kvs) (k : κ) : (valueAt es k).isSome = (aget kvs k).isSome := by
  have := x.get k
  cases e : aget kvs k with
  | some av => rw [e] at this; obtain ⟨v, e1, _⟩ := this; rw [e1]; rfl
  | none => rw [e] at this; rw [show valueAt es k = none from this]; rfl
theorem DRT.isSome {es : List (κ × Addr × Value)} {kvs : List (κ × AV)} (x : DRT h es kvs) (k : κ) : (atKey es k).isSome = (aget kvs k).isSome := by
  have := x.get k
  cases e : aget kvs k with
  | some av => rw [e] at this; obtain ⟨b, v, e1, _⟩ := this; rw [e1]; rfl
  | none => rw [e] at this; rw [show atKey es k = none from this]; rfl
end

def tupS (k : List Str) : AV := .tup (k.map .str)
theorem tupKey {prog : Program} {w : World} {h : Heap} {v : Value} {k : List Str} (r : VR h v (tupS k)) : ∃ a, v = .ref a ∧ (tupleKind (strKind prog w)).is h k a := by
  unfold tupS at r
  generalize hl : k.map AV.str = l at r
  cases r with
  | @tup a o vs n _ ho hc hd rv =>
    refine ⟨a, rfl, o, List.toArray vs, n, ho, hc, hd, ?_⟩
    clear ho hc hd
    show ItemsAre (strKind prog w) k vs
    induction k generalizing vs l with
    | nil => subst hl; cases rv; exact .nil
    | cons x k ih =>
      subst hl
      cases rv with
      | cons a r => cases a with | str _ t => exact .cons (strKind_is prog w x t) (ih _ rfl r)
theorem keyTup {prog : Program} {w : World} {h : Heap} {a : Addr} {k : List Str} (r : (tupleKind (strKind prog w)).is h k a) : VR h (.ref a) (tupS k) := by
  obtain ⟨o, items, n, ho, hc, hd, hi⟩ := r
  obtain ⟨vs⟩ := items
  refine .tup ho hc hd ?_
  clear ho hc hd
  change ItemsAre (strKind prog w) k vs at hi
  induction k generalizing vs with
  | nil => cases hi; exact .nil
  | cons x k ih =>
    cases hi with
    | cons h1 h2 =>
      obtain ⟨t, rfl⟩ := Value.isStrOf_shape h1
      exact .cons (.str _ _) (ih _ h2)

section
variable {W : Wd} {A : Around} {Fs : List FA} {G : Mem} {Q : AV → Mem → Prop} {n : Nat}
theorem O2_item_dS {d : Addr} {kvs : List (Str × AV)} {e : Nat} {k : Str} {av : AV} (h : G d = some (.dS kvs e)) (hk : aget kvs k = some av) (q : Q av G) : O2 W A Fs G (.ref d) (.str k) getItem Q := fun s a b hs ra rb => by
  cases ra; cases rb
  obtain ⟨es, hd, dr, hm⟩ := hs.g d _ h
  have := dr.get k
  rw [hk] at this
  obtain ⟨v, e1, e2⟩ := this
  exact wpAny_getItem_of (strKind_is _ _ _ _) hd.dictOf.mapOf e1 ⟨av, G, hs.toks _, .refl _, e2, q⟩
theorem O2_item_dI {d : Addr} {kvs : List (Int × AV)} {e : Nat} {k : Int} {av : AV} (h : G d = some (.dI kvs e)) (hk : aget kvs k = some av) (q : Q av G) : O2 W A Fs G (.ref d) (.int k) getItem Q := fun s a b hs ra rb => by
  cases ra; cases rb
  obtain ⟨es, hd, dr, hm⟩ := hs.g d _ h
  have := dr.get k
  rw [hk] at this
  obtain ⟨v, e1, e2⟩ := this
  exact wpAny_getItem_of (intKind_is _ _ _ _) hd.dictOf.mapOf e1 ⟨av, G, hs.toks _, .refl _, e2, q⟩
theorem dT_of {d : Addr} {kvs : List (List Str × AV)} {e : Nat} {s : Shared} (hs : W.St Fs G s) (h : G d = some (.dT kvs e)) : ∃ xs, s.heap.DictOfH (tupleKind (strKind W.prog W.w)) d xs ∧ DRT s.heap xs kvs ∧ (d == sysModules) = false := by
  obtain ⟨xs, ⟨o, es, a1, a2, a3, a4, a5, a6⟩, dr, hm⟩ := hs.g d _ h
  exact ⟨xs, ⟨o, es, e, a1, a2, a3, a4, a5, a6⟩, dr, hm⟩
theorem O2_item_dT {d : Addr} {kvs : List (List Str × AV)} {e : Nat} {k : List Str} {av : AV} (hA : AOk n A) (h : G d = some (.dT kvs e)) (hk : aget kvs k = some av) (q : Q av G) : O2 W A Fs G (.ref d) (tupS k) getItem Q := fun s a b hs ra rb => by
  cases ra
  obtain ⟨c, rfl, hc⟩ := tupKey (prog := W.prog) (w := W.w) rb
  obtain ⟨xs, hd, dr, hm⟩ := dT_of hs h
  have := dr.get k
  rw [hk] at this
  obtain ⟨b, v, e1, e2⟩ := this
  exact wpAny_getItem_heap (knd := tupleKind (strKind W.prog W.w)) (tupleKind_room_in1 (by have := hA.u; omega)) hc hd e1 ⟨av, G, hs.toks _, .refl _, e2, q⟩
theorem O2_in_dS {d : Addr} {kvs : List (Str × AV)} {e : Nat} {k : Str} (h : G d = some (.dS kvs e)) (q : Q (.bool (aget kvs k).isSome) G) : O2 W A Fs G (.str k) (.ref d) (compareOp .In) Q := fun s a b hs ra rb => by
  cases ra; cases rb
  obtain ⟨es, hd, dr, hm⟩ := hs.g d _ h
  refine wpAny_in_of (strKind_is _ _ _ _) hm hd.dictOf.mapOf ⟨_, G, hs.toks _, .refl _, .bool _, ?_⟩
  rw [dr.isSome]; exact q
theorem O2_notIn_dS {d : Addr} {kvs : List (Str × AV)} {e : Nat} {k : Str} (h : G d = some (.dS kvs e)) (q : Q (.bool (!(aget kvs k).isSome)) G) : O2 W A Fs G (.str k) (.ref d) (compareOp .NotIn) Q := fun s a b hs ra rb => by
  cases ra; cases rb
  obtain ⟨es, hd, dr, hm⟩ := hs.g d _ h
  refine wpAny_notIn_of (strKind_is _ _ _ _) hm hd.dictOf.mapOf ⟨_, G, hs.toks _, .refl _, .bool _, ?_⟩
  rw [dr.isSome]; exact q
theorem O2_notIn_dT {d : Addr} {kvs : List (List Str × AV)} {e : Nat} {k : List Str} (hA : AOk n A) (h : G d = some (.dT kvs e)) (q : Q (.bool (!(aget kvs k).isSome)) G) : O2 W A Fs G (tupS k) (.ref d) (compareOp .NotIn) Q := fun s a b hs ra rb => by
  cases rb
  obtain ⟨c, rfl, hc⟩ := tupKey (prog := W.prog) (w := W.w) ra
  obtain ⟨xs, hd, dr, hm⟩ := dT_of hs h
  refine wpAny_notIn_heap (knd := tupleKind (strKind W.prog W.w)) (tupleKind_room_in1 (by have := hA.u; omega)) hc hm hd ⟨_, G, hs.toks _, .refl _, .bool _, ?_⟩
  rw [dr.isSome]; exact q

theorem OL_get1_dI {d : Addr} {kvs : List (Int × AV)} {e : Nat} {k : Int} {dv : AV} (h : G d = some (.dI kvs e)) (q : Q ((aget kvs k).getD dv) G) : OL W A Fs G [.ref d, .int k, dv] (fun vs => call (.builtin "dict.get") vs) Q := fun s vs hs r => by
  obtain ⟨v1, v2, v3, rfl, r1, r2, r3⟩ := r.inv3
  cases r1.refI; obtain ⟨t, rfl⟩ := r2.intI
  obtain ⟨es, hd, dr, hm⟩ := hs.g d _ h
  refine call_meetsIn F.slot_dict_get hd.dictOf.typeIs F.entry_dict_get (F.args_dict_get_3 _ _ _) (meets_dict_get_default (knd := intKind W.prog W.w) d (k := k) (intKind_is _ _ _ _) hm _) ⟨_, hd.dictOf.mapOf, ?_⟩
  have := dr.get k
  cases e1 : aget kvs k with
  | some av => rw [e1] at this q; obtain ⟨v, e2, e3⟩ := this; rw [e2]; exact ⟨_, G, hs.toks _, .refl _, e3, q⟩
  | none => rw [e1] at this q; rw [show valueAt es k = none from this]; exact ⟨_, G, hs.toks _, .refl _, r3, q⟩
theorem OL_get2_dS {d : Addr} {kvs : List (Str × AV)} {e : Nat} {k : Str} {dv : AV} (h : G d = some (.dS kvs e)) (q : Q ((aget kvs k).getD dv) G) : OL W A Fs G [.ref d, .str k, dv] (fun vs => call (.builtin "dict.get") vs) Q := fun s vs hs r => by
  obtain ⟨v1, v2, v3, rfl, r1, r2, r3⟩ := r.inv3
  cases r1.refI; obtain ⟨t, rfl⟩ := r2.strI
  obtain ⟨es, hd, dr, hm⟩ := hs.g d _ h
  refine call_meetsIn F.slot_dict_get hd.dictOf.typeIs F.entry_dict_get (F.args_dict_get_3 _ _ _) (meets_dict_get_default (knd := strKind W.prog W.w) d (k := k) (strKind_is _ _ _ _) hm _) ⟨_, hd.dictOf.mapOf, ?_⟩
  have := dr.get k
  cases e1 : aget kvs k with
  | some av => rw [e1] at this q; obtain ⟨v, e2, e3⟩ := this; rw [e2]; exact ⟨_, G, hs.toks _, .refl _, e3, q⟩
  | none => rw [e1] at this q; rw [show valueAt es k = none from this]; exact ⟨_, G, hs.toks _, .refl _, r3, q⟩
theorem OL_get2_dT {d : Addr} {kvs : List (List Str × AV)} {e : Nat} {k : List Str} {dv : AV} (hA : AOk n A) (h : G d = some (.dT kvs e)) (q : Q ((aget kvs k).getD dv) G) : OL W A Fs G [.ref d, tupS k, dv] (fun vs => call (.builtin "dict.get") vs) Q := fun s vs hs r => by
  obtain ⟨v1, v2, v3, rfl, r1, r2, r3⟩ := r.inv3
  cases r1.refI
  obtain ⟨c, rfl, hc⟩ := tupKey (prog := W.prog) (w := W.w) r2
  obtain ⟨xs, hd, dr, hm⟩ := dT_of hs h
  refine call_meetsIn F.slot_dict_get hd.typeIs F.entry_dict_get (F.args_dict_get_3 _ _ _) (meetsH_dict_get_default (tupleKind (strKind W.prog W.w)) d c hm v3) ⟨tupleKind_room_in1 (by have := hA.u; omega), k, xs, hc, hd, ?_⟩
  have := dr.get k
  cases e1 : aget kvs k with
  | some av => rw [e1] at this q; obtain ⟨b, v, e2, e3⟩ := this; rw [e2]; exact ⟨_, G, hs.toks _, .refl _, e3, q⟩
  | none => rw [e1] at this q; rw [show atKey xs k = none from this]; exact ⟨_, G, hs.toks _, .refl _, r3, q⟩

def O3 (W : Wd) (A : Around) (Fs : List FA) (G : Mem) (x y z : AV) (f : Value → Value → Value → Sem Unit) (R : Mem → Prop) : Prop :=
  ∀ s a b c, W.St Fs G s → VR s.heap a x → VR s.heap b y → VR s.heap c z → wpAny W.M A (f a b c) (fun _ s' => ∃ G', W.St Fs G' s' ∧ KeepT s.heap s'.heap ∧ R G') NoE s
theorem O3_set_dS {d : Addr} {kvs : List (Str × AV)} {e : Nat} {k : Str} {v : AV} {R : Mem → Prop} (h : G d = some (.dS kvs e)) (hz : kvs.length ≤ sizeLine) (q : ∀ e', R (G.set d (.dS (aset kvs k v) e'))) : O3 W A Fs G (.ref d) (.str k) v setItem R := fun s a b c hs ra rb rc => by
  cases ra.refI; obtain ⟨t, rfl⟩ := rb.strI
  obtain ⟨es, hd, dr, hm⟩ := hs.g d _ h
  refine wpAny_setItem_pairs (knd := strKind W.prog W.w) (k := k) (strKind_is _ _ _ _) hd.dictOf (fun h' hd' hsb => ?_) (by rw [dr.length]; exact hz)
  obtain ⟨e', hd''⟩ := hd'.dictAt
  have kb := hsb.extBut
  have nt := (hs.g d _ h).notTup
  exact ⟨_, hs.mut (o' := .dS (aset kvs k v) e') h kb ⟨_, hd'', (dr.set rc).keep (keepT_of kb nt), hm⟩, keepT_of kb nt, q e'⟩
theorem O3_set_dI {d : Addr} {kvs : List (Int × AV)} {e : Nat} {k : Int} {v : AV} {R : Mem → Prop} (h : G d = some (.dI kvs e)) (hz : kvs.length ≤ sizeLine) (q : ∀ e', R (G.set d (.dI (aset kvs k v) e'))) : O3 W A Fs G (.ref d) (.int k) v setItem R := fun s a b c hs ra rb rc => by
  cases ra.refI; obtain ⟨t, rfl⟩ := rb.intI
  obtain ⟨es, hd, dr, hm⟩ := hs.g d _ h
  refine wpAny_setItem_pairs (knd := intKind W.prog W.w) (k := k) (intKind_is _ _ _ _) hd.dictOf (fun h' hd' hsb => ?_) (by rw [dr.length]; exact hz)
  obtain ⟨e', hd''⟩ := hd'.dictAt
  have kb := hsb.extBut
  have nt := (hs.g d _ h).notTup
  exact ⟨_, hs.mut (o' := .dI (aset kvs k v) e') h kb ⟨_, hd'', (dr.set rc).keep (keepT_of kb nt), hm⟩, keepT_of kb nt, q e'⟩
theorem O3_set_dT {d : Addr} {kvs : List (List Str × AV)} {e : Nat} {k : List Str} {v : AV} {R : Mem → Prop} (hA : AOk n A) (h : G d = some (.dT kvs e)) (hz : kvs.length ≤ sizeLine) (q : ∀ e', R (G.set d (.dT (aset kvs k v) e'))) : O3 W A Fs G (.ref d) (tupS k) v setItem R := fun s a b c hs ra rb rc => by
  cases ra.refI
  obtain ⟨t, rfl, hc⟩ := tupKey (prog := W.prog) (w := W.w) rb
  obtain ⟨xs, hd, dr, hm⟩ := dT_of hs h
  refine wpAny_setItem_heap (knd := tupleKind (strKind W.prog W.w)) (tupleKind_room_in1 (by have := hA.u; omega)) hc hd (fun h' hd' hsb => ?_) (by rw [dr.length]; exact hz)
  obtain ⟨o, es, e', a1, a2, a3, a4, a5, a6⟩ := hd'
  have kb := hsb.extBut
  have nt := (hs.g d _ h).notTup
  exact ⟨_, hs.mut (o' := .dT (aset kvs k v) e') h kb ⟨_, ⟨o, es, a1, a2, a3, a4, a5, a6⟩, (dr.set rc).keep (keepT_of kb nt), hm⟩, keepT_of kb nt, q e'⟩

theorem wl_of {a : Addr} {l : List AV} {s : Shared} (hs : W.St Fs G s) (h : G a = some (.list l) ∨ G a = some (.wl l)) : ∃ vs, s.heap.IsList a (List.toArray vs) ∧ VRs s.heap vs l := by
  rcases h with h | h
  · obtain ⟨vs, k, e, r⟩ := hs.g a _ h; exact ⟨vs, ⟨_, e, rfl, k, rfl⟩, r⟩
  · exact hs.g a _ h
theorem O2_item_list {a : Addr} {l : List AV} {k : Int} {av : AV} (h : G a = some (.list l) ∨ G a = some (.wl l)) (h0 : 0 ≤ k) (h1 : k < 2 ^ 62) (hk : l[k.toNat]? = some av) (q : Q av G) : O2 W A Fs G (.ref a) (.int k) getItem Q := fun s x y hs ra rb => by
  cases ra.refI; obtain ⟨t, rfl⟩ := rb.intI
  obtain ⟨vs, hl, r⟩ := wl_of hs h
  obtain ⟨v, hv, rv⟩ := r.get hk
  exact wpAny_getItem_list hl h0 (by have : (2 : Int) ^ 62 < 2 ^ 63 := by decide
                                     omega) (by simpa using hv) ⟨av, G, hs, .refl _, rv, q⟩
theorem O3_set_wl {a : Addr} {l : List AV} {k : Int} {v : AV} {R : Mem → Prop} (h : G a = some (.wl l)) (h0 : 0 ≤ k) (h1 : k < 2 ^ 62) (hk : k < l.length) (q : R (G.set a (.wl (l.set k.toNat v)))) : O3 W A Fs G (.ref a) (.int k) v setItem R := fun s x y z hs ra rb rc => by
  cases ra.refI; obtain ⟨t, rfl⟩ := rb.intI
  obtain ⟨vs, hl, r⟩ := wl_of hs (.inr h)
  refine wpAny_setItem_list hl h0 (by have : (2 : Int) ^ 62 < 2 ^ 63 := by decide
                                      omega) (by rw [List.size_toArray, r.length]; exact hk) fun h' hl' hsb => ?_
  have kb := hsb.extBut
  have nt := (hs.g a _ h).notTup
  refine ⟨_, hs.mut (o' := .wl (l.set k.toNat v)) h kb ⟨vs.set k.toNat z, ?_, (VRs.set rc r).keep (keepT_of kb nt)⟩, keepT_of kb nt, q⟩
  have e : (List.toArray vs).setIfInBounds k.toNat z = List.toArray (vs.set k.toNat z) := by simp
  rw [← e]; exact hl'
end
end Mine

namespace Mine
section
variable {W : Wd} {A : Around} {Fs : List FA} {G : Mem} {Q : AV → Mem → Prop} {n : Nat} {env : Env} {pos : Pos} {K : Frag}
theorem KeepT.eq (h : Heap) : KeepT h h := .refl h
theorem O2_add_int {a b : Int} (q : Q (.int (a + b)) G) : O2 W A Fs G (.int a) (.int b) (binaryOp .Add) Q := fun s x y hs ra rb => by
  obtain ⟨t, rfl⟩ := ra.intI; obtain ⟨u, rfl⟩ := rb.intI
  exact PyProof.Rows.add_int ⟨_, G, hs.toks _, .refl _, .int _ _, q⟩
theorem O2_mul_int {a b : Int} (hm : IntMulOk a b) (q : Q (.int (a * b)) G) : O2 W A Fs G (.int a) (.int b) (binaryOp .Mult) Q := fun s x y hs ra rb => by
  obtain ⟨t, rfl⟩ := ra.intI; obtain ⟨u, rfl⟩ := rb.intI
  exact PyProof.Rows.mul_int ⟨_, G, hs.toks _, .refl _, .int _ _, q⟩ hm
theorem O2_mod_int {a b : Int} (hb : b ≠ 0) (q : Q (.int (a.fmod b)) G) : O2 W A Fs G (.int a) (.int b) (binaryOp .Mod) Q := fun s x y hs ra rb => by
  obtain ⟨t, rfl⟩ := ra.intI; obtain ⟨u, rfl⟩ := rb.intI
  exact PyProof.Rows.mod_int' hb ⟨_, G, hs.toks _, .refl _, .int _ _, q⟩
theorem O2_floordiv_int {a b : Int} (hb : b ≠ 0) (hp : Builtin.divisionGoesByPylong a b = false) (q : Q (.int (a.fdiv b)) G) : O2 W A Fs G (.int a) (.int b) (binaryOp .FloorDiv) Q := fun s x y hs ra rb => by
  obtain ⟨t, rfl⟩ := ra.intI; obtain ⟨u, rfl⟩ := rb.intI
  exact PyProof.Rows.floordiv_int hb ⟨_, G, hs.toks _, .refl _, .int _ _, q⟩ (.inl hp)
theorem O2_or_int {a b : Int} (q : Q (.int (Builtin.bitOr a b)) G) : O2 W A Fs G (.int a) (.int b) (binaryOp .BitOr) Q := fun s x y hs ra rb => by
  obtain ⟨t, rfl⟩ := ra.intI; obtain ⟨u, rfl⟩ := rb.intI
  exact PyProof.Rows.or_int ⟨_, G, hs.toks _, .refl _, .int _ _, q⟩
theorem O1_neg_int {a : Int} (q : Q (.int (-a)) G) : O1 W A Fs G (.int a) (unaryOp .USub) Q := fun s x hs ra => by
  obtain ⟨t, rfl⟩ := ra.intI
  exact PyProof.Rows.neg_int ⟨_, G, hs.toks _, .refl _, .int _ _, q⟩
theorem O2_lt_int {a b : Int} (q : Q (.bool (decide (a < b))) G) : O2 W A Fs G (.int a) (.int b) (compareOp .Lt) Q := fun s x y hs ra rb => by
  obtain ⟨t, rfl⟩ := ra.intI; obtain ⟨u, rfl⟩ := rb.intI
  exact PyProof.Rows.lt_int ⟨_, G, hs, .refl _, .bool _, q⟩
theorem O2_le_int {a b : Int} (q : Q (.bool (decide (a ≤ b))) G) : O2 W A Fs G (.int a) (.int b) (compareOp .LtE) Q := fun s x y hs ra rb => by
  obtain ⟨t, rfl⟩ := ra.intI; obtain ⟨u, rfl⟩ := rb.intI
  exact PyProof.Rows.le_int ⟨_, G, hs, .refl _, .bool _, q⟩
theorem O2_ne_int {a b : Int} (q : Q (.bool (a != b)) G) : O2 W A Fs G (.int a) (.int b) (compareOp .NotEq) Q := fun s x y hs ra rb => by
  obtain ⟨t, rfl⟩ := ra.intI; obtain ⟨u, rfl⟩ := rb.intI
  exact PyProof.Rows.ne_int ⟨_, G, hs, .refl _, .bool _, q⟩
theorem O2_add_str {a b : Str} (hz : a.length + b.length ≤ sizeLine) (q : Q (.str (a ++ b)) G) : O2 W A Fs G (.str a) (.str b) (binaryOp .Add) Q := fun s x y hs ra rb => by
  obtain ⟨t, rfl⟩ := ra.strI; obtain ⟨u, rfl⟩ := rb.strI
  exact PyProof.Rows.add_str (fun t' tk => ⟨_, G, hs.toks _, .refl _, .str _ _, q⟩) hz
theorem O2_eq_str {a b : Str} (q : Q (.bool (a == b)) G) : O2 W A Fs G (.str a) (.str b) (compareOp .Eq) Q := fun s x y hs ra rb => by
  obtain ⟨t, rfl⟩ := ra.strI; obtain ⟨u, rfl⟩ := rb.strI
  exact PyProof.Rows.eq_str ⟨_, G, hs, .refl _, .bool _, q⟩
theorem O2_ne_str {a b : Str} (q : Q (.bool (a != b)) G) : O2 W A Fs G (.str a) (.str b) (compareOp .NotEq) Q := fun s x y hs ra rb => by
  obtain ⟨t, rfl⟩ := ra.strI; obtain ⟨u, rfl⟩ := rb.strI
  exact PyProof.Rows.ne_str ⟨_, G, hs, .refl _, .bool _, q⟩
theorem O2_ne_bool {a b : Bool} (q : Q (.bool (a != b)) G) : O2 W A Fs G (.bool a) (.bool b) (compareOp .NotEq) Q := fun s x y hs ra rb => by
  cases ra; cases rb
  exact PyProof.Rows.ne_bool ⟨_, G, hs, .refl _, .bool _, q⟩
def AV.isNone : AV → Bool
  | .none => true
  | _ => false
theorem VR.isNone {h : Heap} {v : Value} {a : AV} (r : VR h v a) : (v == .none) = a.isNone := by
  cases r <;> rfl
theorem O2_is_none {a : AV} (q : Q (.bool a.isNone) G) : O2 W A Fs G a .none (compareOp .Is) Q := fun s x y hs ra rb => by
  cases rb
  refine PyProof.Rows.is_none_gen ⟨_, G, hs, .refl _, .bool _, ?_⟩
  rw [ra.isNone]; exact q
theorem O2_isnot_none {a : AV} (q : Q (.bool !a.isNone) G) : O2 W A Fs G a .none (compareOp .IsNot) Q := fun s x y hs ra rb => by
  cases rb
  refine PyProof.Rows.isnot_none_gen ⟨_, G, hs, .refl _, .bool _, ?_⟩
  rw [ra.isNone]; exact q

theorem nsFind_lookIn {o : Obj} {es : Array DictEntry} {ep : Nat} {name : Str} {v : Value} (hd : o.data = .dict es ep) (h : nsFind es name = some v) : lookIn name o = some (some v) := by
  unfold lookIn
  rw [hd]
  dsimp only
  unfold nsFind findBy at h
  obtain ⟨l⟩ := es
  simp only [List.find?_toArray, Option.map_eq_some_iff] at h
  obtain ⟨e, he, rfl⟩ := h
  simp only [he]
theorem VR.handed {h : Heap} {v : Value} {a : AV} (r : VR h v a) : handedIn v = true := by cases r <;> rfl
theorem inst_of {s : Shared} {a C dx : Addr} {m : List (Str × AV)} (hs : W.St Fs G s) (h : G a = some (.inst C dx)) (hd : G dx = some (.ns m)) :
    ∃ od es ep, s.heap.get? dx = some od ∧ od.data = .dict es ep ∧ StrKeys es ∧ es.size ≤ m.length ∧ InstAt s.heap a (instObj C dx) C (some od) ∧ ∀ x av, m.lookup x = some av → ∃ v, nsFind es x = some v ∧ VR s.heap v av := by
  have e := hs.g a _ h
  obtain ⟨mc, ⟨od, es, ep, ho, hdd, hk, hf⟩, r, o', es', ep', h1, h2, h3⟩ := hs.g dx _ hd
  rw [ho] at h1; cases h1
  rw [hdd] at h2; cases h2
  exact ⟨od, es, ep, ho, hdd, hk, h3, ⟨e, rfl, rfl, ho⟩, fun x av ex => let ⟨v, e1, e2⟩ := r x av ex; ⟨v, (hf x).trans e1, e2⟩⟩

theorem nsSet_at {M : Model} {E : Value → Shared → Prop} {s : Shared} {a : Addr} {o : Obj} {es : Array DictEntry} {ep : Nat} {name : Str} {v : Value} {Q : Unit → Shared → Prop} (ho : s.heap.get? a = some o) (hd : o.data = .dict es ep) (hk : StrKeys es)
    (hQ : ∀ h' o' es' ep', h'.get? a = some o' → o'.data = .dict es' ep' → StrKeys es' → (∀ x, nsFind es' x = if x = name then some v else nsFind es x) → es'.size ≤ es.size + 1 → ((nsFind es name).isSome = true → es'.size = es.size) → Heap.SameBut a s.heap h' →
      Q () { s with heap := h', toks := s.toks + 1 }) : wpAny M A (nsSet a name v) Q E s := fun Γ p _ => by
  simp only [nsSet, strHash, Sem.wp_bind', Sem.wp_cmd_ask, Sem.wp_pure', Sem.wp_cmd_mkText]
  rw [Sem.wp_loadPart_of _ Γ _ p { s with toks := s.toks + 1 } (o := o) _ ho]
  have hany : es.any (·.refKey) = false := by
    rw [Array.any_eq_false']; intro e he; obtain ⟨n, t, h⟩ := hk e he; simp [DictEntry.refKey, h]
  simp only [hd, aRefKeyMayBeTheName_at, hany, Bool.and_false, Bool.false_eq_true, if_false, Sem.wp_cmd_updatePart]
  have hfind : (nsFind es name).isSome = true → ∃ i, es.findIdx? (·.key.isStr name) = some i := by
    intro h
    unfold nsFind findBy at h
    rw [Option.isSome_map, Array.find?_isSome] at h
    obtain ⟨x, hx, hp⟩ := h
    cases hi : es.findIdx? (·.key.isStr name) with
    | some i => exact ⟨i, rfl⟩
    | none =>
      rw [Array.findIdx?_eq_none_iff] at hi
      have := hi x hx
      simp only at hp
      rw [this] at hp; cases hp
  obtain ⟨c, d, dt, sl⟩ := o
  subst hd
  cases hi : es.findIdx? (·.key.isStr name) with
  | some i =>
    refine ⟨by rw [ho]; rfl, hQ _ _ _ _ (Heap.get?_update_self _ ho (by simp only [Obj.putName_eq, Obj.putNameByArray, hi]; rfl)) (by simp only [Obj.putName_eq, Obj.putNameByArray, hi]; rfl) (hk.modify _ _) (fun x => ?_) (by simp) (fun _ => by simp) (Heap.SameBut.update ..)⟩
    exact findBy_modify (fun n v => v.isStr n) Value.isStr_inj es name x v i hi
  | none =>
    refine ⟨by rw [ho]; rfl, hQ _ _ _ _ (Heap.get?_update_self _ ho (by simp only [Obj.putName_eq, Obj.putNameByArray, hi]; rfl)) (by simp only [Obj.putName_eq, Obj.putNameByArray, hi]; rfl) (hk.push _ _ _ _) (fun x => ?_) (by simp) (fun h => ?_) (Heap.SameBut.update ..)⟩
    · exact findBy_push (fun n v => v.isStr n) es name x _ _ v (fun y => by
        show (name == y) = decide (y = name)
        by_cases h : y = name
        · subst h; simp
        · have : ¬ name = y := fun e => h e.symm
          simp [h, this]) hi
    · obtain ⟨i, e⟩ := hfind h
      rw [hi] at e; cases e
theorem setm_length (m : List (Str × AV)) (x : Str) (v : AV) : m.length ≤ (setm m x v).length := by
  induction m with
  | nil => simp [setm]
  | cons p r ih => obtain ⟨y, u⟩ := p; simp only [setm]; split <;> simp; exact ih
theorem setm_length_none {x : Str} {v : AV} : ∀ (m : List (Str × AV)), m.lookup x = none → (setm m x v).length = m.length + 1
  | [], _ => rfl
  | (y, u) :: r, h => by
    simp only [setm]
    simp only [List.lookup] at h
    split at h
    · cases h
    · rename_i hq
      have hq' : x ≠ y := by simpa using hq
      rw [if_neg hq', List.length_cons, setm_length_none r h, List.length_cons]

structure PlainAttr (K : Frag) (C : Addr) (name : Str) : Prop where
  hd : hasDictIn K C = true
  no : findIn K (.ref C) name = some none
  get : findIn K (.ref C) "__getattribute__" = some (some (.builtin "object.__getattribute__"))
structure PlainSet (K : Frag) (C : Addr) (name : Str) : Prop where
  hd : hasDictIn K C = true
  set : findIn K (.ref C) "__setattr__" = some (some (.builtin "object.__setattr__"))
  over : plainOver K C = true
  taker : takerIn K C name = some none

inductive AttrOk (K : Frag) (attr : Str) (Q : AV → Mem → Prop) (x : AV) (G1 : Mem) : Prop
  | mk (a C dx : Addr) (m : List (Str × AV)) (av : AV) (e : x = .ref a) (h1 : G1 a = some (.inst C dx)) (h2 : G1 dx = some (.ns m)) (P : PlainAttr K C attr) (hm : m.lookup attr = some av) (q : Q av G1) : AttrOk K attr Q x G1
theorem EV_attr {value : Expr} {attr : Str} (X : Base W K) (h : EV W A Fs G (eval value env) (AttrOk K attr Q))
    (he : eval (.Attribute value attr pos) env = (do
      let o ← eval value env
      standAt pos.atName
      let r ← holding [o] (getAttr o attr true)
      letTemporaryGo value o r
      pure r) := by with_unfolding_all rfl) : EV W A Fs G (eval (.Attribute value attr pos) env) Q := fun s hs =>
  Attribute_any_ (noE (h s hs) fun v s1 ⟨x, G1, hs1, k1, r1, a, C, dx, m, av, e, ha, hdx, P, hm, q⟩ => by
    subst e
    cases r1.refI
    obtain ⟨od, es, ep, ho, hd, hk, hsz, I, r⟩ := inst_of hs1 ha hdx
    obtain ⟨v, hv, rv⟩ := r attr av hm
    exact get_value (X.inH hs1) I P.get (findObj_own P.hd P.no rfl (nsFind_lookIn hd hv)) rv.handed ⟨av, G1, hs1.toks _, k1, rv, q⟩) he

variable {L : Addr} {m : List (Str × AV)} {R : List (Str × AV) → Mem → Prop}
theorem SV_attr {o : Expr} {attr : Str} {av : AV} (X : Base W K) (h : EV W A (⟨L, m⟩ :: Fs) G (eval o env) fun x G1 => ∃ a C dx ms, x = .ref a ∧ G1 a = some (.inst C dx) ∧ G1 dx = some (.ns ms) ∧ PlainSet K C attr ∧ ms.length ≤ 1000 ∧ R m (G1.set dx (.ns (setm ms attr av)))) :
    SV W A L m Fs G av (assign (.Attribute o attr pos) env) R := fun s v hs r => by
  rw [arm_assign_Attribute]
  refine wpAny_bind (wpAny_holding (noE (h s hs) fun x s1 ⟨xv, G1, hs1, k1, r1, a, C, dx, ms, e, ha, hdx, P, hz, q⟩ => ?_))
  subst e
  cases r1.refI
  obtain ⟨od, es, ep, ho, hd, hk, hsz, I, rr⟩ := inst_of hs1 ha hdx
  refine wpAny_bind (wpAny_standAt (wpAny_bind (wpAny_holding ?_)))
  have fin : ∀ h' o' es' ep' tk, h'.get? dx = some o' → o'.data = .dict es' ep' → StrKeys es' → (∀ x, nsFind es' x = if x = attr then some v else nsFind es x) → es'.size ≤ es.size + 1 → ((nsFind es attr).isSome = true → es'.size = es.size) → Heap.SameBut dx s1.heap h' →
      UP W L Fs s.heap R { s1 with heap := h', toks := tk } := fun h' o' es' ep' tk a1 a2 a3 a4 a5 a6 hsb => by
    have kb := hsb.extBut
    have nt := (hs1.g dx _ hdx).notTup
    refine ⟨m, _, hs1.mut (o' := .ns (setm ms attr av)) hdx kb ⟨_, ⟨o', es', ep', a1, a2, a3, a4⟩, fun x u e => ?_, o', es', ep', a1, a2, ?_⟩, k1.trans (keepT_of kb nt), q⟩
    · rw [setm_lookup] at e
      by_cases hx : x = attr
      · simp only [hx, if_true] at e ⊢; cases e; exact ⟨v, rfl, (r.keep k1).keep (keepT_of kb nt)⟩
      · simp only [hx, if_false] at e ⊢
        obtain ⟨u', e1, e2⟩ := rr x u e
        exact ⟨u', e1, e2.keep (keepT_of kb nt)⟩
    · cases hq : ms.lookup attr with
      | none => rw [setm_length_none ms hq]; omega
      | some u =>
        obtain ⟨u', e1, _⟩ := rr attr u hq
        have := a6 (by rw [e1]; rfl)
        have := setm_length ms attr av
        omega
  refine set_plain (X.inH hs1) I P.set ?_
  have X2 := X.inH (hs1.toks (s1.toks + 1))
  refine osa_open X2 (s := { s1 with toks := s1.toks + 1 }) I P.over P.taker fun b => ?_
  obtain ⟨cd, hc, hd'⟩ := any_some P.hd
  obtain ⟨hx, hcl, hn, -⟩ := I
  refine wpAny_bind (wpAny_pure (wpAny_bind (wpAny_bind (wpAny_loadPart hx (wpAny_bind ((looks_clsIn X2 hc).here ?_))))))
  rw [hd']
  refine wpAny_pure (a := some dx) (wpAny_bind (wpAny_pure (wpAny_bind ?_)))
  refine nsSet_at (s := { s1 with toks := s1.toks + 1 }) ho hd hk fun h' o' es' ep' a1 a2 a3 a4 a5 a6 hsb => ?_
  refine wpAny_bind (wpAny_lookBehind a1 (by rw [a2]; exact pastItsLine_dict (by rw [sizeLine_eq]; omega)) ?_)
  exact wpAny_pure (wpAny_release (fin h' o' es' ep' _ a1 a2 a3 a4 a5 a6 hsb))
end
end Mine

namespace Mine
section
variable {W : Wd} {A : Around} {Fs : List FA} {G : Mem} {Q : AV → Mem → Prop} {n : Nat} {env : Env} {pos : Pos} {K : Frag}

theorem TyIs.wl {a : Addr} {l : List AV} (h : G a = some (.wl l)) : ∀ s, W.St Fs G s → s.TypeIs (.ref a) "list" := fun s hs => by
  obtain ⟨vs, ⟨o, e, c, _⟩, _⟩ := hs.g a _ h
  exact ⟨o, e, c⟩
def TyOf (W : Wd) (Fs : List FA) (G : Mem) (a : Addr) (T : String) : Prop := ∀ s, W.St Fs G s → s.TypeIs (.ref a) T
theorem TyOf.list {a : Addr} {l : List AV} (h : G a = some (.list l) ∨ G a = some (.wl l)) : TyOf W Fs G a "list" := fun s hs => by
  rcases h with h | h
  · exact (TyIs.list (W := W) h s _ hs (.ref a)).1
  · exact TyIs.wl h s hs
theorem TyOf.dS {a : Addr} {l : List (Str × AV)} {k : Nat} (h : G a = some (.dS l k)) : TyOf W Fs G a "dict" := fun s hs => (TyIs.dS (W := W) h s _ hs (.ref a)).1
theorem TyOf.dI {a : Addr} {l : List (Int × AV)} {k : Nat} (h : G a = some (.dI l k)) : TyOf W Fs G a "dict" := fun s hs => (TyIs.dI (W := W) h s _ hs (.ref a)).1
theorem TyOf.dT {a : Addr} {l : List (List Str × AV)} {k : Nat} (h : G a = some (.dT l k)) : TyOf W Fs G a "dict" := fun s hs => (TyIs.dT (W := W) h s _ hs (.ref a)).1

theorem EV_sub {value slice : Expr} (T id : String) (hl : typeLookup (.type T) "__getitem__" = pure (some (.builtin id)))
    (h : EV W A Fs G (eval value env) fun x G1 => EV W A Fs G1 (eval slice env) fun y G2 => ∃ a, x = .ref a ∧ TyOf W Fs G2 a T ∧ O2 W A Fs G2 x y getItem Q)
    (hs : ∀ o i, subscripted slice false o i = operate [o, i] (getItem o i) := by intro _ _; rfl) : EV W A Fs G (eval (.Subscript value slice pos) env) Q := fun s h0 =>
  Subscript_ (noE (h s h0) fun v s1 ⟨x, G1, hs1, k1, r1, x1⟩ => noE (x1 s1 hs1) fun i s2 ⟨y, G2, hs2, k2, r2, a, e, hT, q⟩ => by
    subst e
    cases r1.refI
    exact tail_any (hT s2 hs2) hl (noE (q s2 _ _ hs2 (.ref a) r2) fun _ _ z => z.up (k1.trans k2)) (hs _ _))
inductive SubL (Q : AV → Mem → Prop) (x y : AV) (G2 : Mem) : Prop
  | mk (a : Addr) (l : List AV) (k : Int) (av : AV) (e1 : x = .ref a) (e2 : y = .int k) (h : G2 a = some (.list l) ∨ G2 a = some (.wl l)) (h0 : 0 ≤ k) (h2 : k < 2 ^ 62) (hk : l[k.toNat]? = some av) (q : Q av G2) : SubL Q x y G2
theorem EV_subL {value slice : Expr} (h : EV W A Fs G (eval value env) fun x G1 => EV W A Fs G1 (eval slice env) fun y G2 => SubL Q x y G2)
    (hs : ∀ o i, subscripted slice false o i = operate [o, i] (getItem o i) := by intro _ _; rfl) : EV W A Fs G (eval (.Subscript value slice pos) env) Q :=
  EV_sub "list" _ F.slot_list_getitem.lookup (h.mono fun x G1 h1 => h1.mono fun y G2 ⟨a, l, k, av, e1, e2, hl, h0, h2, hk, q⟩ => ⟨a, e1, .list hl, by subst e1 e2; exact O2_item_list hl h0 h2 hk q⟩) hs
inductive SubS (Q : AV → Mem → Prop) (x y : AV) (G2 : Mem) : Prop
  | mk (a : Addr) (l : List (Str × AV)) (k : Str) (e : Nat) (av : AV) (e1 : x = .ref a) (e2 : y = .str k) (h : G2 a = some (.dS l e)) (hk : aget l k = some av) (q : Q av G2) : SubS Q x y G2
theorem EV_subS {value slice : Expr} (h : EV W A Fs G (eval value env) fun x G1 => EV W A Fs G1 (eval slice env) fun y G2 => SubS Q x y G2)
    (hs : ∀ o i, subscripted slice false o i = operate [o, i] (getItem o i) := by intro _ _; rfl) : EV W A Fs G (eval (.Subscript value slice pos) env) Q :=
  EV_sub "dict" _ F.slot_dict_getitem.lookup (h.mono fun x G1 h1 => h1.mono fun y G2 ⟨a, l, k, e, av, e1, e2, hl, hk, q⟩ => ⟨a, e1, .dS hl, by subst e1 e2; exact O2_item_dS hl hk q⟩) hs
inductive SubI (Q : AV → Mem → Prop) (x y : AV) (G2 : Mem) : Prop
  | mk (a : Addr) (l : List (Int × AV)) (k : Int) (e : Nat) (av : AV) (e1 : x = .ref a) (e2 : y = .int k) (h : G2 a = some (.dI l e)) (hk : aget l k = some av) (q : Q av G2) : SubI Q x y G2
theorem EV_subI {value slice : Expr} (h : EV W A Fs G (eval value env) fun x G1 => EV W A Fs G1 (eval slice env) fun y G2 => SubI Q x y G2)
    (hs : ∀ o i, subscripted slice false o i = operate [o, i] (getItem o i) := by intro _ _; rfl) : EV W A Fs G (eval (.Subscript value slice pos) env) Q :=
  EV_sub "dict" _ F.slot_dict_getitem.lookup (h.mono fun x G1 h1 => h1.mono fun y G2 ⟨a, l, k, e, av, e1, e2, hl, hk, q⟩ => ⟨a, e1, .dI hl, by subst e1 e2; exact O2_item_dI hl hk q⟩) hs
inductive SubT (Q : AV → Mem → Prop) (x y : AV) (G2 : Mem) : Prop
  | mk (a : Addr) (l : List (List Str × AV)) (k : List Str) (e : Nat) (av : AV) (e1 : x = .ref a) (e2 : y = tupS k) (h : G2 a = some (.dT l e)) (hk : aget l k = some av) (q : Q av G2) : SubT Q x y G2
theorem EV_subT {value slice : Expr} (hA : AOk n A) (h : EV W A Fs G (eval value env) fun x G1 => EV W A Fs G1 (eval slice env) fun y G2 => SubT Q x y G2)
    (hs : ∀ o i, subscripted slice false o i = operate [o, i] (getItem o i) := by intro _ _; rfl) : EV W A Fs G (eval (.Subscript value slice pos) env) Q :=
  EV_sub "dict" _ F.slot_dict_getitem.lookup (h.mono fun x G1 h1 => h1.mono fun y G2 ⟨a, l, k, e, av, e1, e2, hl, hk, q⟩ => ⟨a, e1, .dT hl, by subst e1 e2; exact O2_item_dT hA hl hk q⟩) hs

section
variable {L : Addr} {m : List (Str × AV)} {R : List (Str × AV) → Mem → Prop}
theorem SV_sub {o i : Expr} {av : AV} (h : EV W A (⟨L, m⟩ :: Fs) G (eval o env) fun x G1 => EV W A (⟨L, m⟩ :: Fs) G1 (eval i env) fun y G2 => O3 W A (⟨L, m⟩ :: Fs) G2 x y av setItem (R m)) :
    SV W A L m Fs G av (assign (.Subscript o i pos) env) R := fun s v hs r => by
  rw [arm_assign_Subscript]
  refine wpAny_bind (wpAny_holding (noE (h s hs) fun x s1 ⟨xv, G1, hs1, k1, r1, x1⟩ => wpAny_bind (wpAny_holding (noE (x1 s1 hs1) fun y s2 ⟨yv, G2, hs2, k2, r2, x2⟩ => ?_))))
  refine wpAny_bind (wpAny_standAt (wpAny_bind (wpAny_holding (noE (x2 s2 x y v hs2 (r1.keep k2) r2 (r.keep (k1.trans k2))) fun _ s3 ⟨G3, hs3, k3, q⟩ => ?_))))
  exact wpAny_release ⟨m, G3, hs3, k1.trans (k2.trans k3), q⟩
end

theorem EV_strSlice {value u : Expr} {p : Pos} {k : Int} (h : EV W A Fs G (eval value env) fun x G1 => EV W A Fs G1 (eval u env) fun y G2 => ∃ a b, x = .str a ∧ y = .int k ∧ b.length ≤ sizeLine ∧
      (∀ t v, sliceMade a t none (some (k, v)) none = .val (.str b t) ∨ sliceMade a t none (some (k, v)) none = .str b) ∧ Q (.str b) G2)
    (ht : ∀ o r, letTemporaryGo value o r = pure () := by intro _ _; rfl) : EV W A Fs G (eval (.Subscript value (.Slice none (some u) none p) pos) env) Q := fun s h0 =>
  wpAny_Subscript_str_slice (noE (h s h0) fun v s1 ⟨x, G1, hs1, k1, r1, x1⟩ => by
    rw [evalPart_none, evalPart_some]
    refine wpAny_pure (noE (x1 s1 hs1) fun i s2 ⟨y, G2, hs2, k2, r2, a, b, e1, e2, hz, hm, q⟩ => ?_)
    subst e1 e2
    obtain ⟨t, rfl⟩ := (r1.keep k2).strI
    obtain ⟨v, rfl⟩ := r2.intI
    refine ⟨a, t, none, some (k, v), rfl, rfl, rfl, ?_⟩
    have e : ∀ a o, s2.heap.get? a = some o → (s2.heap.push { cls := .type "slice", data := .fields #[.none, .int k v, .none] }).get? a = some o := fun a o e => Heap.get?_push_of_some _ e
    have fin : ∀ t' tk, VP W Fs s.heap Q (.str b t') { s2 with heap := s2.heap.push { cls := .type "slice", data := .fields #[.none, .int k v, .none] }, toks := tk } := fun t' tk =>
      ⟨_, G2, hs2.ext e, k1.trans (k2.trans fun a o h _ => e a o h), .str _ _, q⟩
    rcases hm t v with hm | hm
    · rw [hm]; exact fin t s2.toks
    · rw [hm]; exact ⟨hz, fin _ _⟩) ht
theorem EV_listSlice {value u : Expr} {p : Pos} {k : Int} (h : EV W A Fs G (eval value env) fun x G1 => EV W A Fs G1 (eval u env) fun y G2 => ∃ a, x = .ref a ∧ y = .int k ∧ ∀ s, W.St Fs G2 s → ∃ vs l, s.heap.IsList a (List.toArray vs) ∧ vs.length ≤ sizeLine ∧ VRs s.heap (slicePick (List.toArray vs) none (some k) none).toList l ∧ ∀ b, G2 b = none → Q (.ref b) (G2.set b (.list l)))
    (ht : ∀ o r, letTemporaryGo value o r = pure () := by intro _ _; rfl) : EV W A Fs G (eval (.Subscript value (.Slice none (some u) none p) pos) env) Q := fun s h0 =>
  wpAny_Subscript_list_slice (noE (h s h0) fun v s1 ⟨x, G1, hs1, k1, r1, x1⟩ => by
    rw [evalPart_none, evalPart_some]
    refine wpAny_pure (noE (x1 s1 hs1) fun i s2 ⟨y, G2, hs2, k2, r2, a, e1, e2, hq⟩ => ?_)
    subst e1 e2
    cases r1.refI
    obtain ⟨t, rfl⟩ := r2.intI
    obtain ⟨vs, l, hl, hz, hr, q⟩ := hq s2 hs2
    refine ⟨a, _, none, some k, rfl, hl, by simpa using hz, .none, .int _ _, ?_⟩
    have e : ∀ a o, s2.heap.get? a = some o → ((s2.heap.push { cls := .type "slice", data := .fields #[.none, .int k t, .none] }).push { cls := .type "list", data := .seq (slicePick (List.toArray vs) none (some k) none) }).get? a = some o := fun a o e => Heap.get?_push_of_some _ (Heap.get?_push_of_some _ e)
    have kt : KeepT s2.heap ((s2.heap.push { cls := .type "slice", data := .fields #[.none, .int k t, .none] }).push { cls := .type "list", data := .seq (slicePick (List.toArray vs) none (some k) none) }) := fun a o h _ => e a o h
    refine ⟨_, _, hs2.new (o := .list l) (tk := s2.toks) (Nat.le_succ _) e ⟨_, 0, ?_, hr.keep kt⟩, k1.trans (k2.trans kt), .ref _, q _ (hs2.freshG (Nat.le_succ _))⟩
    have := Heap.get?_push_size (s2.heap.push { cls := .type "slice", data := .fields #[.none, .int k t, .none] }) (o := { cls := .type "list", data := .seq (slicePick (List.toArray vs) none (some k) none) }) rfl
    rw [Heap.size_push] at this
    simpa using this) ht

theorem list_at {a : Addr} {l : List AV} {s : Shared} (hs : W.St Fs G s) (h : G a = some (.list l)) : ∃ vs k, s.heap.get? a = some (listOf (List.toArray vs) k) ∧ VRs s.heap vs l ∧ s.heap.IsList a (List.toArray vs) := by
  obtain ⟨vs, k, e, r⟩ := hs.g a _ h
  exact ⟨vs, k, e, r, _, e, rfl, k, rfl⟩
theorem OL_len {a : Addr} {l : List AV} (h : G a = some (.list l)) (hz : l.length ≤ sizeLine) (q : Q (.int l.length) G) : OL W A Fs G [.ref a] (fun vs => call (.builtin "len") vs) Q := fun s vs hs r => by
  obtain ⟨v, rfl, r1⟩ := r.inv1; cases r1.refI
  obtain ⟨vs, k, e, rv, hl⟩ := list_at hs h
  have hn : (List.toArray vs).size = l.length := by rw [List.size_toArray, rv.length]
  have h3 : ((List.toArray vs).size : Int) < 2 ^ 63 := by rw [hn]; rw [sizeLine_eq] at hz; omega
  refine PySem.Calls.call_len_list hl h3 ⟨_, G, hs.toks _, .refl _, .int _ _, by rw [hn]; exact q⟩
theorem OL_tuple {a : Addr} {l : List AV} (h : G a = some (.list l)) (hz : l.length ≤ sizeLine) (q : Q (.tup l) G) : OL W A Fs G [.ref a] (fun vs => call (.type "tuple") vs) Q := fun s vs hs r => by
  obtain ⟨v, rfl, r1⟩ := r.inv1; cases r1.refI
  obtain ⟨vs, k, e, rv, hl⟩ := list_at hs h
  refine call_tuple_list hl (fun h' hk => ?_) (by rw [List.size_toArray, rv.length]; exact hz)
  have e : ∀ a o, s.heap.get? a = some o → (h'.push { cls := .type "tuple", data := .seq (List.toArray vs) }).get? a = some o := fun a o e => Heap.get?_push_of_some _ (hk a o e)
  exact ⟨_, G, hs.ext (tk := s.toks) e, fun a o h _ => e a o h, .tup (Heap.get?_push_size _ rfl) rfl rfl (rv.keep fun a o h _ => e a o h), q⟩
theorem OL_listL {a : Addr} {l : List AV} (h : G a = some (.list l)) (hz : l.length ≤ sizeLine) (q : ∀ b, G b = none → Q (.ref b) (G.set b (.list l))) : OL W A Fs G [.ref a] (fun vs => call (.type "list") vs) Q := fun s vs hs r => by
  obtain ⟨v, rfl, r1⟩ := r.inv1; cases r1.refI
  obtain ⟨vs, k, e, rv, hl⟩ := list_at hs h
  refine call_list_seq a (.inl rfl) e rfl rfl (fun h' c' hk ho => ?_) (by rw [List.size_toArray, rv.length]; exact hz)
  have kt : KeepT s.heap h' := fun a o h _ => hk a o h
  exact ⟨_, _, hs.new (o := .list l) (tk := s.toks) (Nat.le_refl _) hk ⟨vs, c', ho, rv.keep kt⟩, kt, .ref _, q _ (hs.freshG (Nat.le_refl _))⟩
theorem OL_listT {l : List AV} (hz : l.length ≤ sizeLine) (q : ∀ b, G b = none → Q (.ref b) (G.set b (.list l))) : OL W A Fs G [.tup l] (fun vs => call (.type "list") vs) Q := fun s vs hs r => by
  obtain ⟨v, rfl, r1⟩ := r.inv1
  cases r1 with
  | @tup a o vs k _ ho hc hd rv =>
    refine call_list_seq a (.inr rfl) ho hc hd (fun h' c' hk ho => ?_) (by rw [List.size_toArray, rv.length]; exact hz)
    have kt : KeepT s.heap h' := fun a o h _ => hk a o h
    exact ⟨_, _, hs.new (o := .list l) (tk := s.toks) (Nat.le_refl _) hk ⟨vs, c', ho, rv.keep kt⟩, kt, .ref _, q _ (hs.freshG (Nat.le_refl _))⟩
theorem OL_int {i : Int} (q : Q (.int i) G) : OL W A Fs G [.int i] (fun vs => call (.type "int") vs) Q := fun s vs hs r => by
  obtain ⟨v, rfl, r1⟩ := r.inv1; obtain ⟨t, rfl⟩ := r1.intI
  exact call_int_int ⟨_, G, hs, .refl _, .int _ _, q⟩
theorem OL_range {i : Int} (q : ∀ a t u v, G a = none → Q (.ref a) (G.set a (.fx "range" #[.int 0 t, .int i u, .int 1 v]))) : OL W A Fs G [.int i] (fun vs => call (.type "range") vs) Q := fun s vs hs r => by
  obtain ⟨v, rfl, r1⟩ := r.inv1; obtain ⟨t, rfl⟩ := r1.intI
  refine call_range_1 ?_
  have e : ∀ a o, s.heap.get? a = some o → (s.heap.push { cls := .type "range", data := .fields #[.int 0 s.toks, .int i t, .int 1 (s.toks + 1)] }).get? a = some o := fun a o e => Heap.get?_push_of_some _ e
  exact ⟨_, _, hs.new (o := .fx "range" #[.int 0 s.toks, .int i t, .int 1 (s.toks + 1)]) (Nat.le_refl _) e (Heap.get?_push_size _ rfl), fun a o h _ => e a o h, .ref _, q _ _ _ _ (hs.freshG (Nat.le_refl _))⟩
theorem OL_append {a : Addr} {l : List AV} {x : AV} (h : G a = some (.list l)) (hz : l.length ≤ sizeLine) (q : Q .none (G.set a (.list (l ++ [x])))) : OL W A Fs G [.ref a, x] (fun vs => call (.builtin "list.append") vs) Q := fun s vs hs r => by
  obtain ⟨v, u, rfl, r1, r2⟩ := r.inv2; cases r1.refI
  obtain ⟨vs, k, e, rv, hl⟩ := list_at hs h
  refine append_raw e (by rw [rv.length]; exact hz) fun h' n' ho hsb => ?_
  have kb := hsb.extBut
  have kt := keepT_of kb (hs.g a _ h).notTup
  exact ⟨_, _, hs.mut (o' := .list (l ++ [x])) (tk := s.toks) h kb ⟨_, n', ho, (rv.append (.cons r2 .nil)).keep kt⟩, kt, .none, q⟩
theorem O2_add_list {a b : Addr} {l l' : List AV} (h : G a = some (.list l)) (h' : G b = some (.list l')) (hz : l.length + l'.length ≤ sizeLine) (q : ∀ c, G c = none → Q (.ref c) (G.set c (.list (l ++ l')))) :
    O2 W A Fs G (.ref a) (.ref b) (binaryOp .Add) Q := fun s x y hs ra rb => by
  cases ra.refI; cases rb.refI
  obtain ⟨vs, k, e, rv, hl⟩ := list_at hs h
  obtain ⟨vs', k', e', rv', hl'⟩ := list_at hs h'
  have ex : ∀ a o, s.heap.get? a = some o → (s.heap.push { cls := .type "list", data := .seq (List.toArray vs ++ List.toArray vs') }).get? a = some o := fun a o e => Heap.get?_push_of_some _ e
  refine PySem.P.add_list (n := k) (n2 := k') e e' ⟨_, _, hs.new (o := .list (l ++ l')) (tk := s.toks) (Nat.le_refl _) ex ⟨vs ++ vs', 0, ?_, (rv.append rv').keep fun a o h _ => ex a o h⟩, fun a o h _ => ex a o h, .ref _, q _ (hs.freshG (Nat.le_refl _))⟩ (by rw [List.size_toArray, List.size_toArray, rv.length, rv'.length]; exact hz)
  have := Heap.get?_push_size s.heap (o := { cls := .type "list", data := .seq (List.toArray vs ++ List.toArray vs') }) rfl
  simpa using this
def intOf : Value → Int
  | .int i _ => i
  | _ => 0
theorem ints_at {h : Heap} : ∀ {vs : List Value} {l : List Int}, VRs h vs (l.map .int) → IntsAre vs l
  | _, [], r => by cases r; exact .nil
  | _, i :: l, r => by
    cases r with
    | cons a r =>
      obtain ⟨t, rfl⟩ := a.intI
      exact .cons i t (ints_at r)
theorem OL_sum {a : Addr} {l : List Int} (hA : A.handled = none) (h : G a = some (.list (l.map .int))) (q : ∀ i, Q (.int i) G) : OL W A Fs G [.ref a] (fun vs => call (.builtin "sum") vs) Q := fun s vs hs r => by
  obtain ⟨v, rfl, r1⟩ := r.inv1; cases r1.refI
  obtain ⟨vs, k, e, rv, hl⟩ := list_at hs h
  have hI := ints_at rv
  refine call_sum_walkG (wpAny_pyIter_list hl ⟨s.heap.objs.size, _, _, (List.toArray vs).size, _, _, fun i => l.getD i 0, rfl, Walks.list (by simpa using hA) _ a (Nat.ne_of_lt (Heap.lt_size e)) (List.toArray vs), ⟨⟨_, Heap.get?_push_size _ rfl, rfl, rfl⟩, hl.push _⟩, ?_, ?_, ?_⟩)
  · intro b hb
    rw [Heap.size_push]
    rcases List.mem_cons.mp hb with rfl | hb
    · exact Nat.lt_succ_self _
    · rw [List.mem_singleton.mp hb]; exact Nat.lt_succ_of_lt (Heap.lt_size e)
  · intro i v hv
    exact hI.int_at i v (by simpa using hv)
  · intro h' tk t' hk
    have ex : ∀ b o, s.heap.get? b = some o → h'.get? b = some o := fun b o e => hk b o (by
      rw [List.mem_singleton]; exact Nat.ne_of_lt (Heap.lt_size e)) (Heap.get?_push_of_some _ e)
    exact ⟨_, G, hs.ext (tk := tk) ex, fun b o e _ => ex b o e, .int _ _, q _⟩

theorem AOk.typeCall {A : Around} (x : AOk (n + 1) A) (C : Addr) (vs : List Value) : AOk n (A.under (.builtin "type.__call__" ⟨.ref C :: vs, []⟩)) := by
  have hw : Code.weight (.builtin "type.__call__" ⟨.ref C :: vs, []⟩) ≤ 1 := by
    exact Nat.le_of_ble_eq_true rfl
  have hc : Code.cUnits (.builtin "type.__call__" ⟨.ref C :: vs, []⟩) = 1 := rfl
  exact ⟨x.h, by have := x.d; simp only [Around.under]; omega, by have := x.u; simp only [Around.under, hc]; omega⟩
theorem CALL_cls {C f : Addr} {xs : List AV} (X : Base W K) (hA : AOk (n + 1) A) (hm : makesIn K C = true) (hi : findIn K (.ref C) "__init__" = some (some (.ref f))) (hf : typeIn K (.ref f) = some (.type "function"))
    (h : ∀ A' a dx, AOk n A' → G a = none → G dx = none → a ≠ dx → OC W A' Fs ((G.set dx (.ns [])).set a (.inst C dx)) (.ref a :: xs) f fun r G' => r = .none ∧ Q (.ref a) G') :
    OL W A Fs G xs (fun vs => call (.ref C) vs) Q := fun s vs hs r => by
  have hX := X.inH hs
  obtain ⟨hh, g, d, t, os⟩ := s
  refine wpAny_call (make_core (makes_of hX hm) (looks_findIn hX hi) (fun self => bind_fn hX self hf) (.inl rfl) ?_)
  have e1 : ∀ a o, hh.get? a = some o → (hh.push emptyDict).get? a = some o := fun a o e => Heap.get?_push_of_some _ e
  have e2 : ∀ a o, (hh.push emptyDict).get? a = some o → ((hh.push emptyDict).push (instObj C hh.objs.size)).get? a = some o := fun a o e => Heap.get?_push_of_some _ e
  have S1 : W.St Fs (G.set hh.objs.size (.ns [])) ⟨hh.push emptyDict, g, d, t, os⟩ := hs.new (h' := hh.push emptyDict) (tk := t) (o := .ns []) (Nat.le_refl _) e1
    ⟨fun _ => none, ⟨emptyDict, #[], 0, Heap.get?_push_size _ rfl, rfl, (fun e he => by simp at he), fun _ => rfl⟩, (fun x av e => nomatch e), emptyDict, #[], 0, Heap.get?_push_size _ rfl, rfl, Nat.le_refl _⟩
  have hz : (hh.push emptyDict).objs.size = hh.objs.size + 1 := Heap.size_push _ _
  have S2 : W.St Fs ((G.set hh.objs.size (.ns [])).set (hh.objs.size + 1) (.inst C hh.objs.size)) ⟨(hh.push emptyDict).push (instObj C hh.objs.size), g, d, t, os⟩ :=
    S1.new (h' := (hh.push emptyDict).push (instObj C hh.objs.size)) (tk := t) (o := .inst C hh.objs.size) (Nat.le_of_eq hz) e2 (by
      have := Heap.get?_push_size (hh.push emptyDict) (o := instObj C hh.objs.size) rfl
      rw [hz] at this; exact this)
  have kt : KeepT hh ((hh.push emptyDict).push (instObj C hh.objs.size)) := fun a o e _ => e2 a o (e1 a o e)
  have hg := hs.freshG (a := hh.objs.size) (Nat.le_refl _)
  have hg2 := hs.freshG (a := hh.objs.size + 1) (Nat.le_succ _)
  have W1 := h (A.under (.builtin "type.__call__" ⟨.ref C :: vs, []⟩)) (hh.objs.size + 1) hh.objs.size (hA.typeCall C vs) hg2 hg (Nat.succ_ne_self _) _ (.ref (hh.objs.size + 1) :: vs) S2 (.cons (.ref _) (r.keep kt))
  refine codeAny_mono W1 fun r s' z => ?_
  rcases r with e | (v | _ | _ | _) <;> first | exact z.elim | skip
  obtain ⟨av, G', S', k', r', e, q⟩ := z
  subst e
  cases r'
  exact ⟨rfl, _, G', S', kt.trans k', .ref _, q⟩
end
end Mine

namespace Mine

mutual
def toPD : AV → PyData
  | .int i => .int i
  | .str x => .str x
  | .tup l => .tuple (toPDs l)
  | _ => .none
def toPDs : List AV → List PyData
  | [] => []
  | x :: l => toPD x :: toPDs l
end
mutual
def AV.dat : AV → Bool
  | .int _ => true
  | .str x => (PyData.str x).canLay0
  | .tup l => AV.dats l
  | _ => false
def AV.dats : List AV → Bool
  | [] => true
  | x :: l => AV.dat x && AV.dats l
end
mutual
theorem toPD_lay : ∀ (x : AV), x.dat = true → (toPD x).canLay0 = true
  | .none, h => by simp [AV.dat] at h
  | .bool _, h => by simp [AV.dat] at h
  | .ref _, h => by simp [AV.dat] at h
  | .int _, _ => by simp [toPD, PyData.canLay0]
  | .str _, h => by simpa [AV.dat, toPD] using h
  | .tup l, h => by
    simp only [AV.dat] at h
    simp only [toPD, PyData.canLay0]
    exact toPDs_lay l h
theorem toPDs_lay : ∀ (l : List AV), AV.dats l = true → PyData.canLayAll0 (toPDs l) = true
  | [], _ => by simp [toPDs, PyData.canLayAll0]
  | x :: l, h => by
    simp only [AV.dats, Bool.and_eq_true] at h
    simp only [toPDs, PyData.canLayAll0, Bool.and_eq_true]
    exact ⟨toPD_lay x h.1, toPDs_lay l h.2⟩
end
mutual
theorem VR.reads {h : Heap} : ∀ {v : Value} {x : AV}, VR h v x → x.dat = true → Reads h v (toPD x) []
  | _, _, .none, e => by simp [AV.dat] at e
  | _, _, .bool _, e => by simp [AV.dat] at e
  | _, _, .ref _, e => by simp [AV.dat] at e
  | _, _, .int i t, _ => .int i t
  | _, _, .str x t, _ => .str x t
  | _, _, .tup ho hc hd r, e => .tuple ho hc hd (by
    simp only [AV.dat] at e
    exact VRs.readsAll r e)
theorem VRs.readsAll {h : Heap} : ∀ {vs : List Value} {l : List AV}, VRs h vs l → AV.dats l = true → ReadsAll h vs (toPDs l) []
  | _, _, .nil, _ => .nil
  | _, _, .cons a r, e => by
    simp only [AV.dats, Bool.and_eq_true] at e
    exact .cons (as := []) (bs := []) (VR.reads a e.1) (VRs.readsAll r e.2)
end
mutual
theorem eqv_iff : ∀ (x y : AV), x.dat = true → y.dat = true → (PyData.eqv (toPD x) (toPD y) = true ↔ x = y)
  | .none, _, h, _ => by simp [AV.dat] at h
  | .bool _, _, h, _ => by simp [AV.dat] at h
  | .ref _, _, h, _ => by simp [AV.dat] at h
  | _, .none, _, h => by simp [AV.dat] at h
  | _, .bool _, _, h => by simp [AV.dat] at h
  | _, .ref _, _, h => by simp [AV.dat] at h
  | .int i, .int j, _, _ => by simp [toPD, PyData.eqv]
  | .int i, .str j, _, _ => by simp [toPD, PyData.eqv]
  | .int i, .tup j, _, _ => by simp [toPD, PyData.eqv]
  | .str i, .int j, _, _ => by simp [toPD, PyData.eqv]
  | .str i, .str j, _, _ => by simp [toPD, PyData.eqv]
  | .str i, .tup j, _, _ => by simp [toPD, PyData.eqv]
  | .tup i, .int j, _, _ => by simp [toPD, PyData.eqv]
  | .tup i, .str j, _, _ => by simp [toPD, PyData.eqv]
  | .tup i, .tup j, h1, h2 => by
    simp only [AV.dat] at h1 h2
    simp only [toPD, PyData.eqv, eqvAll_iff i j h1 h2, AV.tup.injEq]
theorem eqvAll_iff : ∀ (x y : List AV), AV.dats x = true → AV.dats y = true → (PyData.eqvAll (toPDs x) (toPDs y) = true ↔ x = y)
  | [], [], _, _ => by simp [toPDs, PyData.eqvAll]
  | [], _ :: _, _, _ => by simp [toPDs, PyData.eqvAll]
  | _ :: _, [], _, _ => by simp [toPDs, PyData.eqvAll]
  | x :: l, y :: m, h1, h2 => by
    simp only [AV.dats, Bool.and_eq_true] at h1 h2
    simp only [toPDs, PyData.eqvAll, Bool.and_eq_true, eqv_iff x y h1.1 h2.1, eqvAll_iff l m h1.2 h2.2, List.cons.injEq]
end
theorem dats_iff : ∀ {l : List AV}, AV.dats l = true ↔ ∀ x ∈ l, x.dat = true
  | [] => by simp [AV.dats]
  | x :: l => by simp [AV.dats, Bool.and_eq_true, dats_iff (l := l)]
theorem toPDs_eq : ∀ (l : List AV), toPDs l = l.map toPD
  | [] => rfl
  | x :: l => by simp [toPDs, toPDs_eq l]
theorem depthAll_le {k : Nat} : ∀ {l : List PyData}, (∀ x ∈ l, x.depth ≤ k) → PyData.depthAll l ≤ k
  | [], _ => by simp [PyData.depthAll]
  | x :: l, h => by
    simp only [PyData.depthAll]
    have := h x (.head _)
    have := depthAll_le (l := l) fun y hy => h y (.tail _ hy)
    omega

section
variable {W : Wd} {A : Around} {Fs : List FA} {G : Mem} {Q : AV → Mem → Prop} {n : Nat} {env : Env} {pos : Pos} {K : Frag}

theorem list_reads {a : Addr} {l : List AV} {s : Shared} (hs : W.St Fs G s) (h : G a = some (.list l)) (hd : AV.dats l = true) : Reads s.heap (.ref a) (.list (toPDs l)) [a] := by
  obtain ⟨vs, k, e, rv, hl⟩ := list_at hs h
  exact .list (as := []) e rfl rfl (by simpa using rv.readsAll hd)
theorem O2_in_list {a : Addr} {l : List AV} {x : AV} (hA : AOk n A) (h : G a = some (.list l)) (hd : AV.dats l = true) (hx : x.dat = true) (hdep : (toPD x).depth ≤ 64) (q : Q (.bool (l.any fun y => PyData.eqv (toPD y) (toPD x))) G) :
    O2 W A Fs G x (.ref a) (compareOp .In) Q := fun s u v hs ru rv => by
  cases rv.refI
  refine SeqAt.in_list_reads (list_reads hs h hd) (ru.reads hx) (toPDs_lay l hd) (toPD_lay x hx) (by have := hA.u; omega) ⟨_, G, hs, .refl _, .bool _, ?_⟩
  rw [toPDs_eq, List.any_map]; exact q
theorem O2_notIn_list {a : Addr} {l : List AV} {x : AV} (hA : AOk n A) (h : G a = some (.list l)) (hd : AV.dats l = true) (hx : x.dat = true) (hdep : (toPD x).depth ≤ 64) (q : Q (.bool (!l.any fun y => PyData.eqv (toPD y) (toPD x))) G) :
    O2 W A Fs G x (.ref a) (compareOp .NotIn) Q := fun s u v hs ru rv => by
  cases rv.refI
  refine SeqAt.notIn_list_reads (list_reads hs h hd) (ru.reads hx) (toPDs_lay l hd) (toPD_lay x hx) (by have := hA.u; omega) ⟨_, G, hs, .refl _, .bool _, ?_⟩
  rw [toPDs_eq, List.any_map]; exact q
theorem O2_ne_list {a b : Addr} {l l' : List AV} (hA : AOk n A) (h : G a = some (.list l)) (h' : G b = some (.list l')) (hd : AV.dats l = true) (hd' : AV.dats l' = true) (hdep : ∀ x ∈ l, (toPD x).depth ≤ 60) (hdep' : ∀ x ∈ l', (toPD x).depth ≤ 60)
    (q : Q (.bool (!PyData.eqvAll (toPDs l) (toPDs l'))) G) : O2 W A Fs G (.ref a) (.ref b) (compareOp .NotEq) Q := fun s u v hs ru rv => by
  cases ru.refI; cases rv.refI
  have key : ∀ {l : List AV}, AV.dats l = true → (∀ x ∈ l, (toPD x).depth ≤ 60) → SeqAt.shaped (.list (toPDs l)) = true := fun {l} hd hdep => by
    simp only [SeqAt.shaped, Bool.and_eq_true, PyData.canLay0, PyData.depth]
    refine ⟨toPDs_lay l hd, ?_⟩
    have : PyData.depthAll (toPDs l) ≤ 60 := depthAll_le fun y hy => by
      rw [toPDs_eq] at hy
      obtain ⟨x, hx, rfl⟩ := List.mem_map.mp hy
      exact hdep x hx
    exact decide_eq_true (by omega)
  refine ne_dataH (list_reads hs h hd) (list_reads hs h' hd') (key hd hdep) (key hd' hdep') (by have := hA.u; omega) ⟨_, G, hs, .refl _, .bool _, ?_⟩
  simp only [PyData.eqv]; exact q
theorem VRs.mem {h : Heap} : ∀ {vs : List Value} {l : List AV} {v : Value}, VRs h vs l → v ∈ vs → ∃ x ∈ l, VR h v x
  | _, _, _, .nil, e => nomatch e
  | _, _, v, .cons a r, e => by
    rcases List.mem_cons.mp e with rfl | e
    · exact ⟨_, .head _, a⟩
    · obtain ⟨x, hx, rx⟩ := VRs.mem r e; exact ⟨x, .tail _ hx, rx⟩
theorem reads_fun {h : Heap} : ∀ {v : Value} {x y : AV}, VR h v x → VR h v y → x.dat = true → y.dat = true → x = y := by
  intro v x y rx ry hx hy
  have key : ∀ (a b : AV) (v : Value), VR h v a → VR h v b → a.dat = true → b.dat = true → a = b := by
    intro a b v ra
    refine VR.rec (motive_1 := fun v a _ => ∀ b, VR h v b → a.dat = true → b.dat = true → a = b) (motive_2 := fun vs as _ => ∀ bs, VRs h vs bs → AV.dats as = true → AV.dats bs = true → as = bs) ?_ ?_ ?_ ?_ ?_ ?_ ?_ ?_ ra b
    · intro b rb h1 _; simp [AV.dat] at h1
    · intro _ b rb h1 _; simp [AV.dat] at h1
    · intro i t b rb _ _; cases rb; rfl
    · intro i t b rb _ _; cases rb; rfl
    · intro a o vs n ds ho hc hd r ih b rb h1 h2
      cases rb with
      | tup ho' hc' hd' r' =>
        rw [ho] at ho'; cases ho'
        rw [hd] at hd'; cases hd'
        simp only [AV.dat] at h1 h2
        rw [ih _ r' h1 h2]
      | ref => simp [AV.dat] at h2
    · intro a b rb h1 _; simp [AV.dat] at h1
    · intro bs rb _ _; cases rb; rfl
    · intro v vs d ds a r ih1 ih2 bs rb h1 h2
      cases rb with
      | cons a' r' =>
        simp only [AV.dats, Bool.and_eq_true] at h1 h2
        rw [ih1 _ a' h1.1 h2.1, ih2 _ r' h1.2 h2.2]
  exact key x y v rx ry hx hy
open Classical in
theorem OL_index {a : Addr} {l : List AV} {x : AV} {j : Nat} (hA : AOk n A) (h : G a = some (.list l)) (hd : AV.dats l = true) (hx : x.dat = true) (hdep : (toPD x).depth ≤ 64) (hz : l.length ≤ sizeLine) (hj : l[j]? = some x) (hno : ∀ i, i < j → l[i]? ≠ some x)
    (q : Q (.int j) G) : OL W A Fs G [.ref a, x] (fun vs => call (.builtin "list.index") vs) Q := fun s vs hs r => by
  obtain ⟨v, u, rfl, r1, r2⟩ := r.inv2; cases r1.refI
  obtain ⟨vs, k, e, rv, hl⟩ := list_at hs h
  have hT : s.TypeIs (.ref a) "list" := ⟨_, e, rfl⟩
  have hlt : j < l.length := (List.getElem?_eq_some_iff.mp hj).1
  have hlv : j < vs.length := by rw [rv.length]; exact hlt
  rw [sizeLine_eq] at hz
  have reads_of : ∀ (i : Nat) (hi : i < vs.length), ∃ y, l[i]? = some y ∧ VR s.heap vs[i] y ∧ y.dat = true := fun i hi => by
    have hi' : i < l.length := by rw [← rv.length]; exact hi
    obtain ⟨v, hv, rr⟩ := rv.get (List.getElem?_eq_getElem hi')
    rw [List.getElem?_eq_getElem hi] at hv; cases hv
    exact ⟨_, List.getElem?_eq_getElem hi', rr, dats_iff.mp hd _ (List.getElem_mem hi')⟩
  refine call_meets F.slot_list_index hT F.entry_list_index (F.args_list_index_2 _ _)
    (SeqAt.list_indexAt a (List.toArray vs) k none #[] u (fun v => decide (VR s.heap v x)) j (by simpa using hlv) (by omega) ?_ ?_) ⟨e, fun y hy => ?_, _, G, hs.toks _, .refl _, .int _ _, q⟩
  · obtain ⟨y, hy, ry, _⟩ := reads_of j hlv
    rw [hj] at hy; cases hy
    simpa using ry
  · intro i hi hij
    have hi' : i < vs.length := by simpa using hi
    obtain ⟨y, hy, ry, dy⟩ := reads_of i hi'
    simp only [List.getElem_toArray, decide_eq_false_iff_not]
    intro rx
    exact hno i hij (by rw [hy, reads_fun ry rx dy hx])
  · have hy' : y ∈ vs := by simpa using hy
    obtain ⟨z, hz', rz⟩ := rv.mem hy'
    have dz := dats_iff.mp hd z hz'
    intro prog w E Q' hq
    refine SeqAt.eqBoolOverData prog w _ E s y u _ _ _ _ Q' (rz.reads dz) (r2.reads hx) (toPD_lay z dz) (toPD_lay x hx) (by have := hA.u; have : A.in1.units = A.units + 1 := rfl; omega) ?_
    have : PyData.eqv (toPD z) (toPD x) = decide (VR s.heap y x) := by
      rw [Bool.eq_iff_iff, eqv_iff z x dz hx, decide_eq_true_iff]
      exact ⟨fun e => e ▸ rz, fun rx => reads_fun rz rx dz hx⟩
    rw [this]; exact hq

theorem base_fresh {s : Shared} (hs : W.St Fs G s) (hB : ∃ a o, W.B.get? a = some o ∧ sysModules ≤ a) : (s.heap.objs.size == sysModules) = false := by
  rw [beq_eq_false_iff_ne]
  intro e
  obtain ⟨a, o, h1, h2⟩ := hB
  have := hs.baseLt h1
  rw [e] at this
  exact absurd this (Nat.not_lt.mpr h2)
theorem emptyAt {K : Type} [DecidableEq K] {prog : Program} {w : World} (knd : KeyKind prog w K) {h : Heap} {d : Addr} (hd : h.get? d = some { cls := .type "dict", data := .dict #[] }) : h.DictAt knd d [] 0 :=
  ⟨_, #[], hd, ⟨rfl, rfl, rfl⟩, rfl, (fun _ hx => by simp at hx), .nil, List.nodup_nil⟩
theorem newDict_or {h : Heap} {d : Addr} (hd : h.get? d = some { cls := .type "dict", data := .dict #[] }) (hm : (d == sysModules) = false) {ao : AO} (ha : ao = .dS [] 0 ∨ ao = .dI [] 0 ∨ ao = .dT [] 0) : OR W.prog W.w h d ao := by
  rcases ha with rfl | rfl | rfl
  · exact ⟨[], emptyAt _ hd, .nil, hm⟩
  · exact ⟨[], emptyAt _ hd, .nil, hm⟩
  · exact ⟨[], ⟨_, #[], hd, ⟨rfl, rfl, rfl⟩, rfl, rfl, (fun _ hx => nomatch hx), List.nodup_nil⟩, .nil, hm⟩
theorem EV_dict0 (hB : ∃ a o, W.B.get? a = some o ∧ sysModules ≤ a) (ao : AO) (ha : ao = .dS [] 0 ∨ ao = .dI [] 0 ∨ ao = .dT [] 0) (q : ∀ a, G a = none → Q (.ref a) (G.set a ao)) : EV W A Fs G (eval (.Dict [] [] pos) env) Q := fun s hs => wpAny_Dict_empty (by
  have e : ∀ a o, s.heap.get? a = some o → (s.heap.push { cls := .type "dict", data := .dict #[] }).get? a = some o := fun a o e => Heap.get?_push_of_some _ e
  exact ⟨_, _, hs.new (o := ao) (tk := s.toks) (Nat.le_refl _) e (newDict_or (Heap.get?_push_size _ rfl) (base_fresh hs hB) ha), fun a o h _ => e a o h, .ref _, q _ (hs.freshG (Nat.le_refl _))⟩)
theorem EV_dict3 {k1 k2 k3 : Str} {i1 i2 i3 : Int} {p1 p2 p3 p4 p5 p6 : Pos} {n1 n2 n3 n4 n5 n6 : Nat} (hB : ∃ a o, W.B.get? a = some o ∧ sysModules ≤ a) (hk : k1 ≠ k2 ∧ k1 ≠ k3 ∧ k2 ≠ k3) (q : ∀ a e, G a = none → Q (.ref a) (G.set a (.dS [(k1, .int i1), (k2, .int i2), (k3, .int i3)] e))) :
    EV W A Fs G (eval (.Dict [some (.Constant (.str k1) n1 p1), some (.Constant (.str k2) n2 p2), some (.Constant (.str k3) n3 p3)] [.Constant (.int i1) n4 p4, .Constant (.int i2) n5 p5, .Constant (.int i3) n6 p6] pos) env) Q := fun s hs => by
  refine wpAny_Dict_walk (knd := strKind W.prog W.w) rfl rfl (by simp) (by simp) ?_
  refine pairTrees_cons_walk (wpAny_Constant_str (wpAny_Constant_int ?_))
  refine pairTrees_cons_walk (wpAny_Constant_str (wpAny_Constant_int ?_))
  refine pairTrees_cons_walk (wpAny_Constant_str (wpAny_Constant_int ?_))
  refine pairTrees_nil_walk ⟨[(k1, .int i1 _), (k2, .int i2 _), (k3, .int i3 _)], ⟨strKind_is _ _ _ _, rfl, strKind_is _ _ _ _, rfl, strKind_is _ _ _ _, rfl, trivial⟩, Heap.DictOf.new _, fun h' hd hsb => ?_⟩
  obtain ⟨e', hd'⟩ := hd.dictAt
  have ex : ∀ a o, s.heap.get? a = some o → h'.get? a = some o := fun a o e => (hsb.2 a (Nat.ne_of_lt (Heap.lt_size e))).trans (Heap.get?_push_of_some _ e)
  refine ⟨_, _, hs.new (o := .dS [(k1, .int i1), (k2, .int i2), (k3, .int i3)] e') (Nat.le_refl _) ex ⟨_, hd', ?_, base_fresh hs hB⟩, fun a o h _ => ex a o h, .ref _, q _ _ (hs.freshG (Nat.le_refl _))⟩
  obtain ⟨h1, h2, h3⟩ := hk
  simp only [merged, List.foldl_cons, List.foldl_nil, stored, List.any_nil, List.any_cons, Bool.false_eq_true, if_false, List.nil_append, h1, h2, h3, decide_false, Bool.or_false, List.cons_append]
  exact .cons (.int _ _) (.cons (.int _ _) (.cons (.int _ _) .nil))
end
end Mine

namespace Mine

def Leaves (N : Nat) {α : Type} : KasT α → (α → Prop) → Prop
  | .ret a, p => p a
  | .ask i j k, p => i < N ∧ j < N ∧ ∀ b, Leaves N (k b) p
theorem Leaves.bind {N : Nat} {α β : Type} {f : α → KasT β} {p : β → Prop} : ∀ {t : KasT α}, Leaves N t (fun a => Leaves N (f a) p) → Leaves N (t.bind f) p
  | .ret a, h => h
  | .ask i j k, h => ⟨h.1, h.2.1, fun b => Leaves.bind (h.2.2 b)⟩
theorem Leaves.mono {N : Nat} {α : Type} {p q : α → Prop} (hq : ∀ a, p a → q a) : ∀ {t : KasT α}, Leaves N t p → Leaves N t q
  | .ret a, h => hq a h
  | .ask i j k, h => ⟨h.1, h.2.1, fun b => Leaves.mono hq (h.2.2 b)⟩
theorem Leaves.wp {N : Nat} {α : Type} {p : α → Prop} {cmp : Nat → Nat → (Bool → Shared → Prop) → Shared → Prop} {Q : α → Shared → Prop} {s : Shared} (hc : ∀ i j C, i < N → j < N → (∀ b, C b s) → cmp i j C s) (hq : ∀ a, p a → Q a s) :
    ∀ {t : KasT α}, Leaves N t p → t.kasWp cmp Q s
  | .ret a, h => hq a h
  | .ask i j k, h => hc i j _ h.1 h.2.1 fun b => Leaves.wp hc hq (h.2.2 b)

def PRange (N : Nat) (p : Array Nat) : Prop := p.Perm (List.toArray (List.range N))
theorem PRange.lt {N : Nat} {p : Array Nat} (h : PRange N p) (hN : 0 < N) (i : Nat) : p.getD i 0 < N := by
  by_cases hi : i < p.size
  · have : p.getD i 0 = p[i] := by simp [Array.getD, hi]
    rw [this]
    have hm : p[i] ∈ p := Array.getElem_mem hi
    have := (Array.Perm.mem_iff h).mp hm
    simpa using this
  · have : p.getD i 0 = 0 := by simp [Array.getD, hi]
    rw [this]; exact hN
theorem PRange.rev {N : Nat} {p : Array Nat} (h : PRange N p) (i j : Nat) : PRange N (kas_rev p i j) := (mirror_perm _ _ _ _).trans h
theorem PRange.bub {N : Nat} {p : Array Nat} (h : PRange N p) (i j : Nat) : PRange N (bubble p i j) := (bubble_perm _ _ _).trans h

section
variable {N : Nat} (hN : 0 < N)
include hN
theorem asc_leaves {p : Array Nat} (h : PRange N p) : ∀ (f n : Nat), Leaves N (kas_asc p f n) fun _ => True
  | 0, _ => trivial
  | f + 1, n => ⟨h.lt hN _, h.lt hN _, fun b => by cases b <;> simp only [if_true, if_false, Bool.false_eq_true]; exact asc_leaves h f _; exact trivial⟩
theorem desc_leaves : ∀ (f : Nat) {p : Array Nat} (n q : Nat), PRange N p → Leaves N (kas_desc f p n q) fun r => PRange N r.1
  | 0, _, _, _, h => h
  | f + 1, p, n, q, h => ⟨h.lt hN _, h.lt hN _, fun b => by
    cases b with
    | true =>
      simp only [if_true]
      split
      · exact desc_leaves f _ _ (h.rev _ _)
      · exact desc_leaves f _ _ h
    | false =>
      simp only [Bool.false_eq_true, if_false]
      refine ⟨h.lt hN _, h.lt hN _, fun d => ?_⟩
      cases d with
      | true => simp only [if_true]; exact h
      | false => simp only [Bool.false_eq_true, if_false]; exact desc_leaves f _ _ h⟩
theorem tail3_leaves {p : Array Nat} {n r : Nat} (h : PRange N p) : Leaves N (kas_tail3 n r p) fun r => PRange N r.2 :=
  Leaves.bind ((asc_leaves hN (h.rev _ _) _ _).mono fun _ _ => h.rev _ _)
theorem descPart_leaves {p : Array Nat} {n r : Nat} (h : PRange N p) : Leaves N (kas_descPart n r p) fun r => PRange N r.2 :=
  Leaves.bind ((desc_leaves hN _ _ _ h).mono fun r hr => by
    split
    · exact tail3_leaves hN (hr.rev _ _)
    · exact tail3_leaves hN hr)
theorem count_leaves {p : Array Nat} {r : Nat} (h : PRange N p) : Leaves N (kas_count r p) fun r => PRange N r.2 :=
  Leaves.bind ((asc_leaves hN h _ _).mono fun n _ => by
    split
    · exact h
    · split
      · refine ⟨h.lt hN _, h.lt hN _, fun b => ?_⟩
        cases b with
        | true => simp only [if_true]; exact h
        | false => simp only [Bool.false_eq_true, if_false]; exact descPart_leaves hN (h.rev _ _)
      · exact descPart_leaves hN h)
theorem place_leaves {p : Array Nat} (h : PRange N p) (k : Nat) : ∀ (f l r : Nat), Leaves N (kas_place p k f l r) fun _ => True
  | 0, _, _ => trivial
  | f + 1, l, r => by
    unfold kas_place
    split
    · exact trivial
    · refine ⟨h.lt hN _, h.lt hN _, fun b => ?_⟩
      cases b with
      | true => simp only [if_true]; exact place_leaves h k f _ _
      | false => simp only [Bool.false_eq_true, if_false]; exact place_leaves h k f _ _
theorem bin_leaves : ∀ (f : Nat) {p : Array Nat} (k : Nat), PRange N p → Leaves N (kas_bin f p k) (PRange N)
  | 0, _, _, h => h
  | f + 1, p, k, h => Leaves.bind ((place_leaves hN h k _ _ _).mono fun l _ => bin_leaves f _ (h.bub _ _))
theorem sort_leaves : Leaves N (kas_sort N) (PRange N) := Leaves.bind ((count_leaves hN (Array.Perm.refl _)).mono fun r hr => by
  split
  · exact bin_leaves hN _ _ hr
  · exact hr)
end

section
variable {prog : Program} {w : World} {A : Around} {E : Value → Shared → Prop} {s : Shared}
def Nope : Value → Shared → Prop := fun _ _ => False
def CmpOk (prog : Program) (w : World) (A : Around) (vs : List Value) (s : Shared) : Prop := ∀ Q : SortKind → Shared → Prop,
  (∀ κ, (∀ i j, i < vs.length → j < vs.length → ∀ Q' : Bool → Shared → Prop, (∀ b, Q' b s) → wpAny (model prog w) A (keyLt' κ (vs.getD i .none) (vs.getD j .none)) Q' Nope s) → Q κ s) → wpAny (model prog w) A (keyKind' vs.toArray) Q Nope s

theorem perm_map {α : Type} {l : List α} {d : α} {p : Array Nat} (h : PRange l.length p) : (p.toList.map fun i => l.getD i d).Perm l := by
  have h1 := (Array.perm_iff_toList_perm.mp h).map fun i => l.getD i d
  refine h1.trans (List.Perm.of_eq ?_)
  apply List.ext_getElem?
  intro i
  simp only [List.getElem?_map]
  by_cases hi : i < l.length
  · simp [hi]
  · simp [hi]

theorem list_sort_perm {a : Addr} {vs : List Value} {n : Nat} {P : PySem.Fin → Shared → Prop} (ho : s.heap.get? a = some (seqObj "list" vs.toArray n)) (h64 : vs.length < 64)
    (hk : ∀ h1, (∀ b o, b ≠ a → s.heap.get? b = some o → h1.get? b = some o) → 2 ≤ vs.length → CmpOk prog w A vs { s with heap := h1 })
    (h : ∀ out h' e, out.Perm vs → h'.get? a = some (seqObj "list" (List.toArray out) e) → Heap.ExtBut a s.heap h' → P (.done (.ret .none)) { s with heap := h' }) :
    wpAny (model prog w) A (Builtin.«list.sort» ⟨[.ref a], []⟩) P E s := by
  have ha : a < s.heap.objs.size := Heap.lt_size ho
  rw [list_sort_plain]
  have s1 := Heap.SameBut.update s.heap a (Obj.mapSeq fun _ => (#[] : Array Value))
  obtain ⟨e1, ho1⟩ : ∃ e1, (s.heap.update a (Obj.mapSeq fun _ => (#[] : Array Value))).get? a = some (seqObj "list" #[] e1) := ⟨_, get?_update_seq ho fun _ => #[]⟩
  refine wpAny_bind (listItems_at ho rfl ?_)
  refine wpAny_bind (listUpdate_at ho rfl ?_ (by rw [List.size_toArray, sizeLine_eq]; omega) (Nat.zero_le _))
  refine wpAny_bind (seqEpoch_at ho1 rfl ?_)
  refine wpAny_bind (wpAny_newTuple ?_ (by show vs.length ≤ _; rw [sizeLine_eq]; omega))
  refine wpAny_bind (wpAny_newList ?_ (Nat.zero_le _))
  refine wpAny_holding ?_
  show wpAny (model prog w) A _ P E { s with heap := ((s.heap.update a (Obj.mapSeq fun _ => (#[] : Array Value))).push (seqObj "tuple" vs.toArray 0)).push (seqObj "list" #[] 0) }
  generalize hh3 : ((s.heap.update a (Obj.mapSeq fun _ => (#[] : Array Value))).push (seqObj "tuple" vs.toArray 0)).push (seqObj "list" #[] 0) = h3
  have ho3 : h3.get? a = some (seqObj "list" #[] e1) := by
    rw [← hh3]; exact Heap.get?_push_of_some _ (Heap.get?_push_of_some _ ho1)
  have k3 : ∀ b o, b ≠ a → s.heap.get? b = some o → h3.get? b = some o := fun b o hb e => by
    rw [← hh3]; exact Heap.get?_push_of_some _ (Heap.get?_push_of_some _ ((s1.2 b hb).trans e))
  dsimp only
  have fin : ∀ (out : List Value), out.Perm vs → wpAny (model prog w) A (do
      let touched := (← seqEpoch a) != e1
      Builtin.List.listUpdate (.ref a) fun _ => out.toArray
      if let some e := (none : Option Value) then rule "list.sort.comparison-raised"; throw e
      if touched then rule "list.sort.modified"; raiseError "ValueError" "list modified during sort"
      ret .none) P E { s with heap := h3 } := fun out hp => by
    have hsz : (List.toArray out).size = vs.length := by rw [List.size_toArray, hp.length_eq]
    have s2 := Heap.SameBut.update h3 a (Obj.mapSeq fun _ => List.toArray out)
    obtain ⟨c2, hc2⟩ : ∃ c2, (h3.update a (Obj.mapSeq fun _ => List.toArray out)).get? a = some (seqObj "list" (List.toArray out) c2) := ⟨_, get?_update_seq ho3 fun _ => List.toArray out⟩
    refine wpAny_bind (seqEpoch_at ho3 rfl ?_)
    refine wpAny_bind (listUpdate_at ho3 rfl ?_ (Nat.zero_le _) (Nat.le_trans (Nat.le_of_eq hsz) (by rw [sizeLine_eq]; omega)))
    simp only [bne_self_eq_false, Bool.false_eq_true, if_false]
    exact wpAny_pure (h out _ c2 hp hc2 fun b o hb e => (s2.2 b hb).trans (k3 b o hb e))
  by_cases h2 : vs.toArray.size < 2
  · rw [if_pos h2, if_pos h2]
    refine wpAny_bind (wpAny_pure ?_)
    rw [StateT.run_pure]
    refine wpAny_bind (wpAny_pure ?_)
    have e : (arrOf (SortSt.mk' general' (vs.toArray.zip vs.toArray) #[] 7 none)).map (·.2) = vs.toArray := by
      show (vs.toArray.zip vs.toArray).map (·.2) = vs.toArray
      apply Array.toList_inj.mp
      simp [List.map_snd_zip]
    dsimp only
    rw [e]
    exact fin vs (List.Perm.refl _)
  · rw [if_neg h2, if_neg h2]
    have h2' : 2 ≤ vs.length := by rw [List.size_toArray] at h2; omega
    refine wpAny_bind (wpAny_mono (hk h3 k3 h2' _ fun κ hc => ?_) (fun κ s' x => x) fun _ _ f => f.elim)
    have tree : (kas_sort vs.length).kasWp (kas_ask prog w A κ vs) (fun p s' => PRange vs.length p ∧ s' = { s with heap := h3 }) { s with heap := h3 } :=
      Leaves.wp (p := PRange vs.length) (fun i j C hi hj hC => hc i j hi hj C hC) (fun p hp => ⟨hp, rfl⟩) (sort_leaves (by omega))
    refine wpAny_bind (wpAny_mono (kat_run (Q := fun st' s' => ∃ p : Array Nat, PRange vs.length p ∧ s' = { s with heap := h3 } ∧ arrOf st' = p.map (kas_item (vs.toArray.zip vs.toArray)) ∧ failedOf st' = none)
      rfl h2' h64 (fun p' st' s' a1 a2 a3 a4 => ⟨p', a4.1, a4.2, a2, a3⟩) tree) ?_ fun _ _ e => e)
    rintro ⟨⟨⟩, st'⟩ s' ⟨p, hp, rfl, har, hf⟩
    dsimp only
    rw [kat_snds rfl har, hf]
    exact fin _ (perm_map hp)
end
end Mine

namespace Mine
def IntV (v : Value) : Prop := ∃ i t, v = .int i t
theorem eqBool_int {prog : Program} {w : World} {A : Around} {E : Value → Shared → Prop} {s : Shared} {Q : Bool → Shared → Prop} {x y : Value} (hx : IntV x) (hy : IntV y) (hu : A.units + 8 < cLine) (h : ∀ b, Q b s) : wpAny (model prog w) A (eqBool x y) Q E s := by
  obtain ⟨i, t, rfl⟩ := hx; obtain ⟨j, u, rfl⟩ := hy
  exact SeqAt.eqBoolOverData prog w _ E s _ _ (.int i) (.int j) [] [] Q (.int _ _) (.int _ _) (by simp [PyData.canLay0]) (by simp [PyData.canLay0]) (by simp [PyData.depth]; omega) (h _)
theorem tuple_ltAt (l b : Addr) (items items2 : Array Value) (n n2 : Nat) (dd dd2 : Option Addr) (sl sl2 : Array (Option Value)) (h1 : ∀ v ∈ items, IntV v) (h2 : ∀ v ∈ items2, IntV v) :
    Meets (Builtin.«tuple.__lt__» ⟨[.ref l, .ref b], []⟩)
      (fun A R s => s.heap.get? l = some { cls := .type "tuple", dict := dd, data := .seq items n, slots := sl } ∧ s.heap.get? b = some { cls := .type "tuple", dict := dd2, data := .seq items2 n2, slots := sl2 } ∧ A.units + 20 < cLine ∧
        ∀ r, R (.ok (.ret (.bool r))) s) :=
  .of_wp fun prog w A R s h => by
    obtain ⟨hp, g, d, tk, os⟩ := s; obtain ⟨hl, hb, hu, h⟩ := h
    have f2 := AutoSeq1.sub_tuple_tuple
    have hz : ∀ p ∈ items.toList.zip items2.toList, IntV p.1 ∧ IntV p.2 := fun p hp => by
      obtain ⟨x, y⟩ := p
      exact ⟨h1 _ (by simpa using (List.of_mem_zip hp).1), h2 _ (by simpa using (List.of_mem_zip hp).2)⟩
    wp_walk using wpAny_loadPart' hl, wpAny_loadPart' hb, wpAny_forIn_list _ (fun rest b s' => b.1 = none ∧ s' = ⟨hp, g, d, tk, os⟩ ∧ ∀ p ∈ rest, IntV p.1 ∧ IntV p.2) _
    case turn =>
      rintro ⟨y, x⟩ rest b s' ⟨hb', rfl, hrest⟩
      obtain ⟨hy, hx⟩ := hrest _ (.head _)
      refine wpAny_bind (eqBool_int hy hx (by have : A.in1.units = A.units + 1 := rfl; omega) fun r => ?_)
      obtain ⟨i, ti, ei⟩ := hy; obtain ⟨j, tj, ej⟩ := hx
      dsimp only at ei ej
      subst ei ej
      cases r with
      | true =>
        wp_walk
        exact ⟨rfl, rfl, fun p hp => hrest p (.tail _ hp)⟩
      | false =>
        simp only [Bool.not_false, if_true]
        refine wpAny_bind (wpAny_rule (wpAny_bind ?_))
        refine (show wpAny (model prog w) A.in1 (compareOp .Lt (.int i ti) (.int j tj)) _ _ _ from PyProof.Rows.lt_int ?_)
        exact wpAny_pure (wpAny_pure ⟨_, rfl, h _⟩)
    case fin =>
      rintro ⟨b1, b2⟩ s' ⟨hb', rfl, hrest⟩
      simp only at hb'
      subst hb'
      wp_walk
      exact ⟨_, rfl, h _⟩
    case h => exact ⟨rfl, rfl, hz⟩
theorem lt_tups {prog : Program} {w : World} {A : Around} {E : Value → Shared → Prop} {s : Shared} {Q : Value → Shared → Prop} {l b : Addr} {items items2 : Array Value} (hl : s.heap.IsTuple l items) (hb : s.heap.IsTuple b items2) (h1 : ∀ v ∈ items, IntV v) (h2 : ∀ v ∈ items2, IntV v)
    (hu : A.units + 20 < cLine) (h : ∀ r, Q (.bool r) s) : wpAny (model prog w) A (compareOp .Lt (.ref l) (.ref b)) Q E s := by
  obtain ⟨⟨cls, dd, data, sl⟩, ho, hc, n, hd⟩ := id hl
  obtain ⟨⟨cls2, dd2, data2, sl2⟩, ho2, hc2, n2, hd2⟩ := id hb
  simp only at hc hd hc2 hd2
  subst hc hd hc2 hd2
  exact richCompare_meets_room (op := .Lt) ⟨_, ho, rfl⟩ ⟨_, ho2, rfl⟩ F.slot_tuple_lt F.entry_tuple_lt (F.args_tuple_lt_2 _ _) (tuple_ltAt l b items items2 n n2 dd dd2 sl sl2 h1 h2)
    ⟨ho, ho2, by omega, fun r => ⟨(fun x => nomatch x), h r⟩⟩ (by omega)

section
variable {prog : Program} {w : World} {A : Around} {s : Shared}
inductive Snd (h : Heap) : Value → Value → Prop
  | str (x y : Str) (t u : Tok) : Snd h (.str x t) (.str y u)
  | tup {a b : Addr} {xs ys : Array Value} {l m : List AV} : h.IsTuple a xs → h.IsTuple b ys → (∀ v ∈ xs, IntV v) → (∀ v ∈ ys, IntV v) → VR h (.ref a) (.tup l) → VR h (.ref b) (.tup m) → AV.dats l = true → AV.dats m = true →
      (toPD (.tup l)).depth ≤ 8 → Snd h (.ref a) (.ref b)
theorem eqBool_str {E : Value → Shared → Prop} {Q : Bool → Shared → Prop} {x y : Str} {t u : Tok} (h1 : (PyData.str x).canLay0 = true) (h2 : (PyData.str y).canLay0 = true) (hu : A.units + 8 < cLine) (h : ∀ b, Q b s) : wpAny (model prog w) A (eqBool (.str x t) (.str y u)) Q E s :=
  SeqAt.eqBoolOverData prog w _ E s _ _ (.str x) (.str y) [] [] Q (.str _ _) (.str _ _) h1 h2 (by simp [PyData.depth]; omega) (h _)

theorem getD_mem {vs : List Value} {i : Nat} (h : i < vs.length) : vs.getD i .none = vs[i] := by simp [h]
theorem cmp_strs {vs : List Value} {l : List Str} (r : VRs s.heap vs (l.map .str)) (h2 : 2 ≤ vs.length) : CmpOk prog w A vs s := by
  have hstr : ∀ v ∈ vs, ∃ x t, v = .str x t := fun v hv => by
    obtain ⟨y, hy, ry⟩ := r.mem hv
    obtain ⟨x, _, rfl⟩ := List.mem_map.mp hy
    obtain ⟨t, rfl⟩ := ry.strI
    exact ⟨x, t, rfl⟩
  intro Q h
  refine kas_kind (T := .type "str") h2 (fun v hv => ?_) rfl rfl (h _ fun i j hi hj Q' hq => ?_)
  · obtain ⟨x, t, rfl⟩ := hstr v hv
    exact Looks.of_pure rfl
  · rw [getD_mem hi, getD_mem hj]
    obtain ⟨x, t, e1⟩ := hstr _ (List.getElem_mem hi)
    obtain ⟨y, u, e2⟩ := hstr _ (List.getElem_mem hj)
    rw [e1, e2]
    exact kas_lt_str (hq _)

theorem depth_ints : ∀ (ns : List Int), PyData.depthAll (toPDs (ns.map .int)) = 0
  | [] => rfl
  | n :: ns => by simp only [List.map_cons, toPDs, toPD, PyData.depthAll, PyData.depth, depth_ints ns]; rfl
theorem dats_ints : ∀ (ns : List Int), AV.dats (ns.map .int) = true
  | [] => rfl
  | n :: ns => by simp only [List.map_cons, AV.dats, AV.dat, dats_ints ns]; rfl
theorem dats_strs : ∀ (l : List Str), (∀ x ∈ l, (PyData.str x).canLay0 = true) → AV.dats (l.map .str) = true
  | [], _ => rfl
  | n :: ns, h => by simp only [List.map_cons, AV.dats, AV.dat, dats_strs ns (fun x hx => h x (.tail _ hx)), h n (.head _)]; rfl

def SndOk (prog : Program) (w : World) (A : Around) (s : Shared) (q q' : Value) : Prop :=
  (∀ Q : Bool → Shared → Prop, (∀ b, Q b s) → wpAny (model prog w) A (eqBool q q') Q Nope s) ∧ (∀ Q : Value → Shared → Prop, (∀ b, Q (.bool b) s) → wpAny (model prog w) A (compareOp .Lt q q') Q Nope s)
def Pr (h : Heap) (v : Value) (q : Value) : Prop := ∃ a o n p t, v = .ref a ∧ h.get? a = some o ∧ o.cls = .type "tuple" ∧ o.data = .seq (List.toArray [.str p t, q]) n ∧ (PyData.str p).canLay0 = true
theorem cmp_tups {vs : List Value} (hu : A.units + 8 < cLine) (hp : ∀ v ∈ vs, ∃ q, Pr s.heap v q) (hq : ∀ v ∈ vs, ∀ v' ∈ vs, ∀ q q', Pr s.heap v q → Pr s.heap v' q' → SndOk prog w A s q q') (h2 : 2 ≤ vs.length) : CmpOk prog w A vs s := by
  have tups : ∀ (l : List Value), (∀ v ∈ l, v ∈ vs) → ∃ fs, KatTups s.heap l fs ∧ fs.length = l.length ∧ ∀ f ∈ fs, ∃ p t, f = .str p t := by
    intro l
    induction l with
    | nil => intro _; exact ⟨[], .nil, rfl, fun _ h => nomatch h⟩
    | cons v l ih =>
      intro hl
      obtain ⟨fs, h1, h2, h3⟩ := ih fun v hv => hl v (.tail _ hv)
      obtain ⟨q, a, o, n, p, t, rfl, ho, hc, hd, _⟩ := hp v (hl v (.head _))
      refine ⟨.str p t :: fs, .cons ho hc hd rfl h1, by simp [h2], fun f hf => ?_⟩
      rcases List.mem_cons.mp hf with rfl | hf
      · exact ⟨p, t, rfl⟩
      · exact h3 f hf
  obtain ⟨fs, h1, hlen, h3⟩ := tups vs fun _ h => h
  intro Q h
  refine kat_kind (T := .type "str") h1 (by omega) (fun f hf => ?_) rfl (h _ fun i j hi hj Q' hQ => ?_)
  · obtain ⟨p, t, rfl⟩ := h3 f hf
    exact Looks.of_pure rfl
  · rw [getD_mem hi, getD_mem hj]
    have mi := List.getElem_mem hi
    have mj := List.getElem_mem hj
    generalize vs[i] = v at *
    generalize vs[j] = v' at *
    obtain ⟨q, hq1⟩ := hp v mi
    obtain ⟨q', hq2⟩ := hp v' mj
    obtain ⟨e1, e2⟩ := hq v mi v' mj q q' hq1 hq2
    obtain ⟨a, o, n, p, t, rfl, ho, hc, hd, c1⟩ := hq1
    obtain ⟨a', o', n', p', t', rfl, ho', hc', hd', c2⟩ := hq2
    refine kat_lt ho hd ho' hd' ?_
    refine kat_cons (eqBool_str c1 c2 hu fun b => ?_)
    cases b with
    | true =>
      refine kat_yes ?_
      refine kat_cons (e1 _ fun b => ?_)
      cases b with
      | true => exact kat_yes (kat_nil (hQ _))
      | false => exact kat_no (kat_one _ _ (e2 _ fun b => hQ b))
    | false => exact kat_no (oneLt_str (hQ _))
theorem lt_strs {x y : Str} {t u : Tok} {E : Value → Shared → Prop} {Q : Value → Shared → Prop} (h : ∀ b, Q (.bool b) s) : wpAny (model prog w) A (compareOp .Lt (.str x t) (.str y u)) Q E s := PyProof.Rows.lt_str (h _)

def pairA (p : Str × Str) : AV := tupS [p.1, p.2]
def rowA (r : Str × List Int) : AV := .tup [.str r.1, .tup (r.2.map .int)]
theorem pr_pair {h : Heap} {v : Value} {p : Str × Str} (r : VR h v (pairA p)) (h1 : (PyData.str p.1).canLay0 = true) : ∃ t, Pr h v (.str p.2 t) := by
  cases r with
  | @tup a o vs n _ ho hc hd r =>
    obtain ⟨x, y, rfl, rx, ry⟩ := VRs.inv2 r
    obtain ⟨t, rfl⟩ := rx.strI; obtain ⟨u, rfl⟩ := ry.strI
    exact ⟨u, a, o, n, p.1, t, rfl, ho, hc, hd, h1⟩
theorem pr_row {h : Heap} {v : Value} {p : Str × List Int} (r : VR h v (rowA p)) (h1 : (PyData.str p.1).canLay0 = true) : ∃ q, Pr h v q ∧ VR h q (.tup (p.2.map .int)) := by
  cases r with
  | @tup a o vs n _ ho hc hd r =>
    obtain ⟨x, y, rfl, rx, ry⟩ := VRs.inv2 r
    obtain ⟨t, rfl⟩ := rx.strI
    exact ⟨y, ⟨a, o, n, p.1, t, rfl, ho, hc, hd, h1⟩, ry⟩
theorem Pr.fun {h : Heap} {v q q' : Value} (x : Pr h v q) (y : Pr h v q') : q = q' := by
  obtain ⟨a, o, n, p, t, rfl, ho, hc, hd, c⟩ := x
  obtain ⟨a', o', n', p', t', e, ho', hc', hd', c'⟩ := y
  cases e
  rw [ho] at ho'; cases ho'
  rw [hd] at hd'
  simp only [Data.seq.injEq] at hd'
  have e := congrArg Array.toList hd'.1
  simp at e
  exact e.2
theorem cmp_pairs {vs : List Value} {l : List (Str × Str)} (hu : A.units + 8 < cLine) (r : VRs s.heap vs (l.map pairA)) (hl : ∀ p ∈ l, (PyData.str p.1).canLay0 = true ∧ (PyData.str p.2).canLay0 = true) (h2 : 2 ≤ vs.length) : CmpOk prog w A vs s := by
  have key : ∀ v ∈ vs, ∃ x t, (PyData.str x).canLay0 = true ∧ Pr s.heap v (.str x t) := fun v hv => by
    obtain ⟨y, hy, ry⟩ := r.mem hv
    obtain ⟨p, hp, rfl⟩ := List.mem_map.mp hy
    obtain ⟨t, ht⟩ := pr_pair ry (hl p hp).1
    exact ⟨p.2, t, (hl p hp).2, ht⟩
  refine cmp_tups hu (fun v hv => let ⟨x, t, _, h⟩ := key v hv; ⟨_, h⟩) (fun v hv v' hv' q q' hq hq' => ?_) h2
  obtain ⟨x, t, c1, h1⟩ := key v hv
  obtain ⟨y, u, c2, h2'⟩ := key v' hv'
  cases hq.fun h1; cases hq'.fun h2'
  exact ⟨fun Q h => eqBool_str c1 c2 hu h, fun Q h => lt_strs h⟩
theorem cmp_rows {vs : List Value} {l : List (Str × List Int)} (hu : A.units + 30 < cLine) (r : VRs s.heap vs (l.map rowA)) (hl : ∀ p ∈ l, (PyData.str p.1).canLay0 = true) (h2 : 2 ≤ vs.length) : CmpOk prog w A vs s := by
  have key : ∀ v ∈ vs, ∃ (ns : List Int) (q : Value), Pr s.heap v q ∧ VR s.heap q (.tup (ns.map .int)) := fun v hv => by
    obtain ⟨y, hy, ry⟩ := r.mem hv
    obtain ⟨p, hp, rfl⟩ := List.mem_map.mp hy
    obtain ⟨q, h1, h2⟩ := pr_row ry (hl p hp)
    exact ⟨p.2, q, h1, h2⟩
  refine cmp_tups (by omega) (fun v hv => let ⟨x, t, h, _⟩ := key v hv; ⟨_, h⟩) (fun v hv v' hv' q q' hq hq' => ?_) h2
  obtain ⟨ns, z, h1, r1⟩ := key v hv
  obtain ⟨ms, z', h2', r2⟩ := key v' hv'
  cases hq.fun h1; cases hq'.fun h2'
  have dat : ∀ ns : List Int, (AV.tup (ns.map .int)).dat = true := fun ns => by simp only [AV.dat]; exact dats_ints ns
  refine ⟨fun Q h => SeqAt.eqBoolOverData prog w _ _ s _ _ _ _ [] [] Q (r1.reads (dat _)) (r2.reads (dat _)) (toPD_lay _ (dat _)) (toPD_lay _ (dat _)) ?_ (h _), fun Q h => ?_⟩
  · simp only [toPD, PyData.depth, depth_ints]; omega
  · have hints : ∀ {vs : List Value} {ns : List Int}, VRs s.heap vs (ns.map .int) → ∀ v ∈ List.toArray vs, IntV v := fun r v hv => by
      obtain ⟨y, hy, ry⟩ := r.mem (show v ∈ _ by simpa using hv)
      obtain ⟨i, _, rfl⟩ := List.mem_map.mp hy
      obtain ⟨t, rfl⟩ := ry.intI
      exact ⟨i, t, rfl⟩
    cases r1 with
    | @tup a o vs1 n _ ho hc hd r1 =>
      cases r2 with
      | @tup a' o' vs2 n' _ ho' hc' hd' r2 =>
        exact lt_tups ⟨o, ho, hc, n, hd⟩ ⟨o', ho', hc', n', hd'⟩ (hints r1) (hints r2) (by omega) h
end
end Mine

namespace Mine
section
variable {W : Wd} {A : Around} {Fs : List FA} {G : Mem} {Q : AV → Mem → Prop} {n : Nat} {env : Env} {pos : Pos} {K : Frag}
def COL (W : Wd) (A : Around) (Fs : List FA) (G : Mem) (x : AV) (P : List AV → Prop) : Prop := ∀ s v, W.St Fs G s → VR s.heap v x → ∀ R : List Value → Shared → Prop,
  (∀ vs avs s', W.St Fs G s' → KeepT s.heap s'.heap → VRs s'.heap vs avs → P avs → R vs s') → wpAny W.M A (collect v) R NoE s
def SRT (W : Wd) (A : Around) (avs : List AV) (P : List AV → Prop) : Prop := ∀ s D vs n, s.heap.get? D = some (seqObj "list" (List.toArray vs) n) → VRs s.heap vs avs → ∀ R : PySem.Fin → Shared → Prop,
  (∀ vs' avs' h' e, h'.get? D = some (seqObj "list" (List.toArray vs') e) → Heap.ExtBut D s.heap h' → VRs h' vs' avs' → P avs' → R (.done (.ret .none)) { s with heap := h' }) → wpAny W.M A (Builtin.«list.sort» ⟨[.ref D], []⟩) R NoE s

theorem OL_sorted {x : AV} {P : List AV → Prop} {P' : List AV → List AV → Prop} (hcol : COL W A.in1 Fs G x P) (hz : ∀ avs, P avs → avs.length < 64) (hs : ∀ avs, P avs → SRT W A.in1.in1 avs (P' avs)) (q : ∀ avs avs' D, P avs → P' avs avs' → G D = none → Q (.ref D) (G.set D (.list avs'))) :
    OL W A Fs G [x] (fun vs => call (.builtin "sorted") vs) Q := fun s vs hs0 r => by
  obtain ⟨v, rfl, r1⟩ := r.inv1
  refine Calls.call_function_entry kind_sorted plain_sorted entry_sorted (args_sorted1 _) ?_
  unfold Builtin.«sorted»
  refine wpAny_bind (m := checkCount "sorted" 1 1 _) (wpAny_pure ?_)
  refine wpAny_bind (noE (hcol s v hs0 r1 _ fun vs avs s1 hs1 k1 rv hP => ?_) fun _ _ z => z)
  have h64 := hz avs hP
  refine wpAny_bind (wpAny_newList ?_ (by rw [rv.length, sizeLine_eq]; omega))
  have e : ∀ a o, s1.heap.get? a = some o → (s1.heap.push (seqObj "list" vs.toArray 0)).get? a = some o := fun a o e => Heap.get?_push_of_some _ e
  have kt : KeepT s1.heap (s1.heap.push (seqObj "list" vs.toArray 0)) := fun a o h _ => e a o h
  have ho : (s1.heap.push (seqObj "list" vs.toArray 0)).get? s1.heap.objs.size = some (seqObj "list" vs.toArray 0) := Heap.get?_push_size _ rfl
  have hs2 : W.St Fs (G.set s1.heap.objs.size (.list avs)) { s1 with heap := s1.heap.push (seqObj "list" vs.toArray 0) } := hs1.new (o := .list avs) (tk := s1.toks) (Nat.le_refl _) e ⟨vs, 0, ho, rv.keep kt⟩
  have hg := hs1.freshG (a := s1.heap.objs.size) (Nat.le_refl _)
  generalize hD : s1.heap.objs.size = D at *
  refine wpAny_bind (wpAny_holding (wpAny_call_entry slot_list_sort ⟨_, ho, rfl⟩ entry_list_sort (noE (hs avs hP { s1 with heap := s1.heap.push (seqObj "list" vs.toArray 0) } D vs 0 ho (rv.keep kt)
    (fun fin s' => ∃ v, fin = .done (.ret v) ∧ wpAny W.M A.in1 (ret (.ref D)) (fun fin s' => ∃ v, fin = .done (.ret v) ∧ VP W Fs s.heap Q v s') NoE s') fun vs' avs' h' e' ho' kb rv' hP' => ⟨_, rfl, ?_⟩) fun _ _ z => z) (args_list_sort _)))
  have k2 : KeepT (s1.heap.push (seqObj "list" vs.toArray 0)) h' := keepT_of kb (hs2.g D _ (Mem.set_self _ _ _)).notTup
  have hs3 := hs2.mut (d := D) (o' := .list avs') (tk := s1.toks) (Mem.set_self _ _ _) kb ⟨vs', e', ho', rv'⟩
  rw [Mem.set_set] at hs3
  exact wpAny_pure ⟨_, rfl, _, _, hs3, k1.trans (kt.trans k2), .ref _, q avs avs' D hP hP' hg⟩

theorem SRT_perm {avs : List AV} (h64 : avs.length < 64) (hc : ∀ s vs, VRs s.heap vs avs → 2 ≤ vs.length → CmpOk W.prog W.w A vs s) : SRT W A avs (fun avs' => avs'.Perm avs) := fun s D vs n ho rv R hR => by
  have hnt : NotTup s.heap D := fun o e => by rw [ho] at e; cases e; rintro ⟨q, _⟩; injection q with q; simp at q
  refine list_sort_perm ho (by rw [rv.length]; exact h64) (fun h1 k h2 => hc _ vs (rv.keep (keepT_of k hnt)) h2) fun out h' e hp ho' kb => ?_
  have rv' := rv.keep (keepT_of kb hnt)
  have key : ∀ {vs out : List Value}, out.Perm vs → ∀ {avs : List AV}, VRs h' vs avs → ∃ avs', VRs h' out avs' ∧ avs'.Perm avs := by
    intro vs out hp
    induction hp with
    | nil => intro avs r; exact ⟨avs, r, .refl _⟩
    | cons x p ih =>
      intro avs r
      cases r with
      | cons a r => obtain ⟨l, h1, h2⟩ := ih r; exact ⟨_ :: l, .cons a h1, h2.cons _⟩
    | swap x y l =>
      intro avs r
      cases r with
      | cons a r => cases r with | cons b r => exact ⟨_ :: _ :: _, .cons b (.cons a r), .swap _ _ _⟩
    | trans p1 p2 ih1 ih2 =>
      intro avs r
      obtain ⟨l, h1, h2⟩ := ih2 r
      obtain ⟨l', h3, h4⟩ := ih1 h1
      exact ⟨l', h3, h4.trans h2⟩
  obtain ⟨avs', h1, h2⟩ := key hp rv'
  exact hR out avs' h' e ho' kb h1 h2
theorem SRT_strs {l : List Str} (h64 : l.length < 64) : SRT W A (l.map .str) (fun avs' => avs'.Perm (l.map .str)) := SRT_perm (by simpa using h64) fun s vs r h2 => cmp_strs r h2
theorem SRT_pairs {l : List (Str × Str)} (h64 : l.length < 64) (hu : A.units + 30 < cLine) (hl : ∀ p ∈ l, (PyData.str p.1).canLay0 = true ∧ (PyData.str p.2).canLay0 = true) : SRT W A (l.map pairA) (fun avs' => avs'.Perm (l.map pairA)) :=
  SRT_perm (by simpa using h64) fun s vs r h2 => cmp_pairs (by omega) r hl h2
theorem SRT_rows {l : List (Str × List Int)} (h64 : l.length < 64) (hu : A.units + 30 < cLine) (hl : ∀ p ∈ l, (PyData.str p.1).canLay0 = true) : SRT W A (l.map rowA) (fun avs' => avs'.Perm (l.map rowA)) :=
  SRT_perm (by simpa using h64) fun s vs r h2 => cmp_rows hu r hl h2
theorem ints_of {h : Heap} : ∀ {vs : List Value} {ns : List Int}, IntsAre vs ns → VRs h vs (ns.map .int)
  | _, _, .nil => .nil
  | _, _, .cons n t r => .cons (.int _ _) (ints_of r)
theorem SRT_ints {l : List Int} (h64 : l.length < 64) : SRT W A (l.map .int) (fun avs' => ∃ l' : List Int, avs' = l'.map .int ∧ l'.Perm l ∧ l'.Pairwise (· ≤ ·)) := fun s D vs n ho rv R hR => by
  have hI := ints_at rv
  refine list_sort_tree ho hI (by rw [rv.length]; simpa using h64) fun out ns' a1 a2 a3 => ?_
  obtain ⟨e, he⟩ := sortedHeap_at (vs := vs) (out := out) ho
  refine hR out.toList (ns'.map .int) _ e (by simpa using he) (fun b o hb hbo => ?_) (ints_of a1) ⟨ns', rfl, a2, a3⟩
  rw [sortedHeap_old hb (Heap.lt_size hbo)]; exact hbo

theorem COL_list {a : Addr} {l : List AV} (h : G a = some (.list l)) (hz : l.length ≤ sizeLine) : COL W A Fs G (.ref a) (fun avs => avs = l) := fun s v hs r R hR => by
  cases r.refI
  obtain ⟨vs, k, e, rv, hl⟩ := list_at hs h
  refine collect_list hl ?_ (by rw [rv.length]; exact hz)
  have ex : ∀ b o, s.heap.get? b = some o → ((s.heap.push (seqObj "list" #[] 0)).update s.heap.objs.size (Obj.mapSeq (· ++ vs.toArray))).get? b = some o := fun b o e =>
    (Heap.get?_update_other _ _ (Ne.symm (Nat.ne_of_lt (Heap.lt_size e)))).trans (Heap.get?_push_of_some _ e)
  have kt : KeepT s.heap ((s.heap.push (seqObj "list" #[] 0)).update s.heap.objs.size (Obj.mapSeq (· ++ vs.toArray))) := fun b o e _ => ex b o e
  exact hR vs l _ (hs.ext (tk := s.toks) ex) kt (rv.keep kt) rfl
end
end Mine

namespace Mine
section
variable {prog : Program} {w : World} {A : Around} {E : Value → Shared → Prop} {s : Shared} {d : Addr} {es : Array DictEntry} {ep : Nat}
def RawD (d : Addr) (es : Array DictEntry) (ep : Nat) (h : Heap) : Prop := ∃ o, h.get? d = some o ∧ o.cls = .type "dict" ∧ o.data = .dict es ep
theorem walks_raw {I : Addr} (hh : A.handled = none) (hne : d ≠ I) : Walks prog w A I [I, d] [I] es.size (fun i v => (es[i]?).map (·.key) = some v) (fun i h => KeyIt h I d i es.size ep ∧ RawD d es ep h) where
  sub := fun b hb => by simp at hb; simp [hb]
  frame := fun i h h' st hk => by
    obtain ⟨⟨o, e1, e2⟩, od, f1, f2⟩ := st
    exact ⟨⟨o, hk I (by simp) o e1, e2⟩, od, hk d (by simp) od f1, f2⟩
  item := fun i s Q E hi st hQ => by
    obtain ⟨hit, od, f1, f2, f3⟩ := st
    refine next_key hit f1 f3 hi fun h' hit' hs' => ?_
    exact hQ _ h' s.toks (by simp [hi]) ⟨hit', od, hs'.extBut d od hne f1, f2, f3⟩ fun b o hb e => hs'.extBut b o (fun h => hb (by simp [h])) e
  done := fun s Q E st hQ => by
    obtain ⟨hit, od, f1, f2, f3⟩ := st
    refine end_key hh hit f1 f3 (Nat.le_refl _) fun h' he => ?_
    exact hQ h' s.toks fun b o hb e => he b o (fun h => hb (by simp [h])) e
  self := fun i s Q E st hQ => self_key st.1 hQ
theorem kdl_raw (lo : (d == sysModules) = false) : KdlSrc prog w "dict" d d es.size (fun i v => (es[i]?).map (·.key) = some v) (RawD d es ep) where
  type := fun _ ⟨o, ho, hc, _⟩ => ⟨o, ho, hc⟩
  there := fun _ ⟨o, ho, _⟩ => ⟨Heap.lt_size ho, Heap.lt_size ho⟩
  keep := fun _ _ ⟨o, ho, hc⟩ hk => ⟨o, hk d (.inl rfl) o ho, hc⟩
  notList := by decide
  notTuple := by decide
  hint := fun _ _ _ _ ⟨o, ho, hc, _⟩ hq => kdl_hint_dict ⟨o, ho, hc⟩ hq
  iter := fun A s hh ⟨o, ho, hc, hd⟩ => ⟨_, _, (fun _ _ hq => iter_dictRaw lo ho hc hd hq), walks_raw hh (Nat.ne_of_lt (Heap.lt_size ho)), ⟨⟨_, Heap.get?_push_size _ rfl, rfl, rfl⟩, o, Heap.get?_push_of_some _ ho, hc, hd⟩⟩
end
section
variable {W : Wd} {A : Around} {Fs : List FA} {G : Mem} {Q : AV → Mem → Prop} {n : Nat} {env : Env} {pos : Pos} {K : Frag}
theorem items_eq {es : Array DictEntry} {acc : Array Value} (h : ItemsOf (fun i v => (es[i]?).map (·.key) = some v) acc es.size) : acc.toList = es.toList.map (·.key) := by
  apply List.ext_getElem?
  intro i
  rw [Array.getElem?_toList, List.getElem?_map, Array.getElem?_toList]
  by_cases hi : i < acc.size
  · have e : acc[i]? = some acc[i] := by simp [hi]
    rw [e]
    exact (h.2 i _ e).symm
  · have hi' : ¬ i < es.size := by rw [← h.1]; exact hi
    simp [hi, hi']
theorem COL_dict {d : Addr} {keys : List AV} {ep : Nat} (hA : A.handled = none) (hz : keys.length ≤ sizeLine) (hk : ∀ s, W.St Fs G s → KeysAre s.heap d keys ep ∧ (d == sysModules) = false) : COL W A Fs G (.ref d) (fun avs => avs = keys) := fun s v hs r R hR => by
  cases r.refI
  obtain ⟨⟨o, es, ho, hc, hd, rv⟩, lo⟩ := hk s hs
  have hn : es.size = keys.length := by rw [← rv.length]; simp
  refine kdu_collect (kdl_raw lo) hA ⟨o, ho, hc, hd⟩ (by rw [hn]; exact hz) fun h' tk acc k hacc => ?_
  rw [items_eq hacc]
  have kt : KeepT s.heap h' := fun b o e _ => k b o e
  exact hR _ keys _ (hs.ext (tk := tk) k) kt (rv.keep kt) rfl

theorem keys_pairs {κ : Type} [DecidableEq κ] {knd : KeyKind W.prog W.w κ} {enc : κ → AV} {h : Heap} (henc : ∀ k v, knd.is k v = true → VR h v (enc k)) : ∀ {l : List DictEntry} {es : List (κ × Value)} {kvs : List (κ × AV)}, Pairs knd l es → DR h es kvs → VRs h (l.map (·.key)) (kvs.map fun p => enc p.1)
  | _, _, _, .nil, .nil => .nil
  | _, _, _, .cons h1 _ p, .cons _ d => .cons (henc _ _ h1) (keys_pairs henc p d)
theorem keys_dS {d : Addr} {kvs : List (Str × AV)} {e : Nat} {s : Shared} (hs : W.St Fs G s) (h : G d = some (.dS kvs e)) : KeysAre s.heap d (kvs.map fun p => .str p.1) e ∧ (d == sysModules) = false := by
  obtain ⟨es, ⟨o, des, a1, ⟨a2, _⟩, a3, a4, a5, a6⟩, dr, hm⟩ := hs.g d _ h
  exact ⟨⟨o, des, a1, a2, a3, keys_pairs (knd := strKind W.prog W.w) (fun k v hk => by obtain ⟨t, rfl⟩ := Value.isStrOf_shape hk; exact .str _ _) a5 dr⟩, hm⟩
theorem keys_dI {d : Addr} {kvs : List (Int × AV)} {e : Nat} {s : Shared} (hs : W.St Fs G s) (h : G d = some (.dI kvs e)) : KeysAre s.heap d (kvs.map fun p => .int p.1) e ∧ (d == sysModules) = false := by
  obtain ⟨es, ⟨o, des, a1, ⟨a2, _⟩, a3, a4, a5, a6⟩, dr, hm⟩ := hs.g d _ h
  exact ⟨⟨o, des, a1, a2, a3, keys_pairs (knd := intKind W.prog W.w) (fun k v hk => by obtain ⟨t, rfl⟩ := Value.isInt_shape hk; exact .int _ _) a5 dr⟩, hm⟩
theorem keys_dT {d : Addr} {kvs : List (List Str × AV)} {e : Nat} {s : Shared} (hs : W.St Fs G s) (h : G d = some (.dT kvs e)) : KeysAre s.heap d (kvs.map fun p => tupS p.1) e ∧ (d == sysModules) = false := by
  obtain ⟨xs, ⟨o, des, a1, ⟨a2, _⟩, a3, a4, a5, a6⟩, dr, hm⟩ := hs.g d _ h
  refine ⟨⟨o, des, a1, a2, a3, ?_⟩, hm⟩
  rw [a4]
  clear a1 a3 a4 a6 h
  induction dr with
  | nil => exact .nil
  | cons a _ ih => exact .cons (keyTup (a5 _ (.head _))) (ih fun x hx => a5 x (.tail _ hx))
theorem COL_dS {d : Addr} {kvs : List (Str × AV)} {e : Nat} (hA : A.handled = none) (hz : kvs.length ≤ sizeLine) (h : G d = some (.dS kvs e)) : COL W A Fs G (.ref d) (fun avs => avs = kvs.map fun p => .str p.1) := COL_dict hA (by simpa using hz) fun s hs => keys_dS hs h
theorem COL_dI {d : Addr} {kvs : List (Int × AV)} {e : Nat} (hA : A.handled = none) (hz : kvs.length ≤ sizeLine) (h : G d = some (.dI kvs e)) : COL W A Fs G (.ref d) (fun avs => avs = kvs.map fun p => .int p.1) := COL_dict hA (by simpa using hz) fun s hs => keys_dI hs h
theorem COL_dT {d : Addr} {kvs : List (List Str × AV)} {e : Nat} (hA : A.handled = none) (hz : kvs.length ≤ sizeLine) (h : G d = some (.dT kvs e)) : COL W A Fs G (.ref d) (fun avs => avs = kvs.map fun p => tupS p.1) := COL_dict hA (by simpa using hz) fun s hs => keys_dT hs h
theorem IT_dS {d : Addr} {kvs : List (Str × AV)} {e : Nat} (hA : A.handled = none) (h : G d = some (.dS kvs e)) : IT W A Fs G (.ref d) (kvs.map fun p => .str p.1) fun G => G d = some (.dS kvs e) :=
  fun s v R hs r k => IT_dict hA (keys_dS hs h).2 h (fun hs h => (keys_dS hs h).1) s v R hs r k
theorem IT_dT {d : Addr} {kvs : List (List Str × AV)} {e : Nat} (hA : A.handled = none) (h : G d = some (.dT kvs e)) : IT W A Fs G (.ref d) (kvs.map fun p => tupS p.1) fun G => G d = some (.dT kvs e) :=
  fun s v R hs r k => IT_dict hA (keys_dT hs h).2 h (fun hs h => (keys_dT hs h).1) s v R hs r k
end
end Mine

namespace Mine
theorem tOf_fits (led : Bool) (a b c : Option Tok) : (tOf led a b c).fits (esOf a b c).size = true := by cases a <;> cases b <;> cases c <;> kernel_rfl
theorem tOf_full (led : Bool) (a b c : Option Tok) : (tOf led a b c).tooFull = false := by cases a <;> cases b <;> cases c <;> kernel_rfl
theorem hash_int (prog : Program) (w : World) : (intKind prog w).hash 0 = 0 ∧ (intKind prog w).hash 1 = 1 ∧ (intKind prog w).hash 2 = 2 := ⟨rfl, rfl, rfl⟩
theorem lay0 (led : Bool) (b c : Option Tok) (t : Tok) : layNew (tOf led none b c) (esOf none b c) 0 (.int 0 t) = (esOf (some t) b c, tOf led (some t) b c, false, false) := by
  cases b <;> cases c <;> kernel_rfl
theorem lay1 (led : Bool) (a c : Option Tok) (t : Tok) : layNew (tOf led a none c) (esOf a none c) 1 (.int 1 t) = (esOf a (some t) c, tOf led a (some t) c, false, false) := by
  cases a <;> cases c <;> kernel_rfl
theorem lay2 (led : Bool) (a b : Option Tok) (t : Tok) : layNew (tOf led a b none) (esOf a b none) 2 (.int 2 t) = (esOf a b (some t), tOf led a b (some t), false, false) := by
  cases a <;> cases b <;> kernel_rfl

section
variable {prog : Program} {w : World} {A : Around} {E : Value → Shared → Prop} {s : Shared}
theorem elems_of (prog : Program) (w : World) (a b c : Option Tok) : ElemsOf (intKind prog w) (esOf a b c).toList := by
  intro e he
  have key : (∃ t, e = (0, .int 0 t)) ∨ (∃ t, e = (1, .int 1 t)) ∨ ∃ t, e = (2, .int 2 t) := by
    simp only [esOf, List.toList_toArray, List.mem_append, List.mem_map] at he
    rcases he with (⟨t, _, rfl⟩ | ⟨t, _, rfl⟩) | ⟨t, _, rfl⟩
    · exact .inl ⟨t, rfl⟩
    · exact .inr (.inl ⟨t, rfl⟩)
    · exact .inr (.inr ⟨t, rfl⟩)
  rcases key with ⟨t, rfl⟩ | ⟨t, rfl⟩ | ⟨t, rfl⟩
  · exact ⟨⟨0, intKind_is _ _ _ _, rfl⟩, rfl⟩
  · exact ⟨⟨1, intKind_is _ _ _ _, rfl⟩, rfl⟩
  · exact ⟨⟨2, intKind_is _ _ _ _, rfl⟩, rfl⟩
theorem es_small (a b c : Option Tok) : (esOf a b c).size ≤ 3 := by cases a <;> cases b <;> cases c <;> exact Nat.le_of_ble_eq_true rfl
theorem setAdd_at {S : Addr} {led : Bool} {a b c a' b' c' : Option Tok} {i : Int} {t : Tok} {Q : Bool → Shared → Prop} (hS : SetAt s.heap S led a b c)
    (hno : (esOf a b c).toList.findIdx? (fun e => (intKind prog w).is i e.2) = none → layNew (tOf led a b c) (esOf a b c) ((intKind prog w).hash i) (.int i t) = (esOf a' b' c', tOf led a' b' c', false, false))
    (hyes : (esOf a b c).toList.findIdx? (fun e => (intKind prog w).is i e.2) ≠ none → a' = a ∧ b' = b ∧ c' = c)
    (h : ∀ h' r, SetAt h' S led a' b' c' → Heap.SameBut S s.heap h' → Q r { s with heap := h' }) :
    wpAny (model prog w) A (setAddHashed S (.int i t) ((intKind prog w).hash i)) Q E s := by
  obtain ⟨ep, ho⟩ := hS
  have hsm := es_small a b c
  have hb : (esOf a b c).size < scanBound := by unfold scanBound; omega
  have hel := elems_of prog w a b c
  have hkey : (intKind prog w).is i (.int i t) = true := intKind_is _ _ _ _
  unfold setAddHashed setAddHashedIn
  refine wpAny_holding (wpAny_bind (wpAny_setState_of ho rfl (tOf_fits _ _ _ _) ?_))
  dsimp only
  rw [byScan_of (knd := intKind prog w) rfl hb hel]
  simp only [↓reduceIte]
  unfold setAddByScan
  refine wpAny_bind ?_
  refine wpAny_bind (wpAny_rule ?_)
  refine wpAny_bind (wpAny_setScan_of hkey ho rfl (tOf_fits _ _ _ _) hel ?_)
  cases hr : List.findIdx? (fun e => (intKind prog w).is i e.2) (esOf a b c).toList with
  | some j =>
    dsimp only
    refine wpAny_pure (wpAny_pure ?_)
    obtain ⟨rfl, rfl, rfl⟩ := hyes (by rw [hr]; simp)
    exact h s.heap _ ⟨ep, ho⟩ (Heap.SameBut.refl S s.heap)
  | none =>
    dsimp only
    rw [hno hr]
    dsimp only
    refine wpAny_bind (wpAny_pure ?_)
    have hpl : (tOf led a' b' c').plain = true := rfl
    rw [hpl]
    simp only [↓reduceIte]
    rw [hashByValue_scannable 8 rfl]
    refine wpAny_bind (wpAny_pure ?_)
    simp only [plainKind, ↓reduceIte]
    have hsm' := es_small a' b' c'
    refine wpAny_bind (wpAny_storeSet_of ho rfl ?_ (Nat.le_trans hsm' (by rw [sizeLine_eq]; omega)))
    rw [tOf_full]
    simp only [Bool.not_false, Bool.and_false, Bool.false_eq_true, if_false]
    refine wpAny_pure (wpAny_pure (h _ _ ⟨ep + 1, ?_⟩ (Heap.SameBut.update ..)))
    have := Heap.get?_update_self (Obj.putSet (esOf a' b' c') (tOf led a' b' c')) ho (by rfl)
    exact this
end
end Mine

namespace Mine
def Low (i : Int) : Prop := i = 0 ∨ i = 1 ∨ i = 2
section
variable {prog : Program} {w : World} {A : Around} {E : Value → Shared → Prop} {s : Shared}
theorem setAdd_has {S : Addr} {l : List Int} {i : Int} {t : Tok} {Q : Bool → Shared → Prop} (hS : SetHas w s.heap S l) (hi : Low i) (h : ∀ h' r, SetHas w h' S (l ++ [i]) → Heap.SameBut S s.heap h' → Q r { s with heap := h' }) :
    wpAny (model prog w) A (setAddHashed S (.int i t) ((intKind prog w).hash i)) Q E s := by
  obtain ⟨a, b, c, hS, ha, hb, hc⟩ := hS
  rcases hi with rfl | rfl | rfl
  · cases a with
    | none =>
      refine setAdd_at (a' := some t) (b' := b) (c' := c) hS (fun _ => by rw [(hash_int prog w).1]; exact lay0 _ b c t) (fun hno => absurd ?_ hno) fun h' r h1 h2 => h h' r ⟨_, _, _, h1, ?_, ?_, ?_⟩ h2
      · cases b <;> cases c <;> rfl
      · simp
      · rw [hb]; simp
      · rw [hc]; simp
    | some t' =>
      refine setAdd_at (a' := some t') (b' := b) (c' := c) hS (fun hno => ?_) (fun _ => ⟨rfl, rfl, rfl⟩) fun h' r h1 h2 => h h' r ⟨_, _, _, h1, ?_, ?_, ?_⟩ h2
      · exfalso; revert hno; cases b <;> cases c <;> exact (fun e => by cases e)
      · simp
      · rw [hb]; simp
      · rw [hc]; simp
  · cases b with
    | none =>
      refine setAdd_at (a' := a) (b' := some t) (c' := c) hS (fun _ => by rw [(hash_int prog w).2.1]; exact lay1 _ a c t) (fun hno => absurd ?_ hno) fun h' r h1 h2 => h h' r ⟨_, _, _, h1, ?_, ?_, ?_⟩ h2
      · cases a <;> cases c <;> rfl
      · rw [ha]; simp
      · simp
      · rw [hc]; simp
    | some t' =>
      refine setAdd_at (a' := a) (b' := some t') (c' := c) hS (fun hno => ?_) (fun _ => ⟨rfl, rfl, rfl⟩) fun h' r h1 h2 => h h' r ⟨_, _, _, h1, ?_, ?_, ?_⟩ h2
      · exfalso; revert hno; cases a <;> cases c <;> exact (fun e => by cases e)
      · rw [ha]; simp
      · simp
      · rw [hc]; simp
  · cases c with
    | none =>
      refine setAdd_at (a' := a) (b' := b) (c' := some t) hS (fun _ => by rw [(hash_int prog w).2.2]; exact lay2 _ a b t) (fun hno => absurd ?_ hno) fun h' r h1 h2 => h h' r ⟨_, _, _, h1, ?_, ?_, ?_⟩ h2
      · cases a <;> cases b <;> rfl
      · rw [ha]; simp
      · rw [hb]; simp
      · simp
    | some t' =>
      refine setAdd_at (a' := a) (b' := b) (c' := some t') hS (fun hno => ?_) (fun _ => ⟨rfl, rfl, rfl⟩) fun h' r h1 h2 => h h' r ⟨_, _, _, h1, ?_, ?_, ?_⟩ h2
      · exfalso; revert hno; cases a <;> cases b <;> exact (fun e => by cases e)
      · rw [ha]; simp
      · rw [hb]; simp
      · simp

theorem set_loop {I : Addr} {fp wr : List Addr} {Gs : Array GenState → Array GenState → Prop} {n : Nat} {P : Nat → Value → Prop} {St : Nat → Shared → Prop} {R : Result → Shared → Prop} (W : WalksS prog w A.in1 I fp wr Gs n P St) (S : Addr) (hSf : S ∉ fp)
    (val : Nat → Int) (hval : ∀ i v, i < n → P i v → ∃ t, v = .int (val i) t) (hlow : ∀ i, i < n → Low (val i)) :
    ∀ (k i : Nat) (s : Shared), n - i = k → i ≤ n → St i s → SetHas w s.heap S ((List.range i).map val) →
      (∀ s', Moved (S :: wr) Gs s s' → SetHas w s'.heap S ((List.range n).map val) → R (.ok (.ret .none)) s') →
      codeAny (model prog w) A (.builtin "set.update.loop" ⟨[.ref S, .ref I], []⟩) R s := by
  have hSw : S ∉ wr := fun h => hSf (W.sub _ h)
  have hsub : ∀ b ∈ wr, b ∈ S :: wr := fun b hb => List.mem_cons_of_mem _ hb
  intro k
  induction k with
  | zero =>
    intro i s hk hi hst hS hR
    have hin : i = n := by omega
    subst hin
    refine codeAny_builtin PyProof.Rows.F.entry_set_update_loop ?_
    rw [Around.under_plainId PyProof.Rows.F.plain_set_update_loop _]
    show wpAny _ A.in1 (pyNext (.ref I) >>= _) _ _ s
    refine wpAny_bind (W.done s _ _ hst fun s' hm => ?_)
    show wpAny _ A.in1 (ret Value.none) _ _ s'
    obtain ⟨a, b, c, ⟨ep, ho⟩, r⟩ := hS
    exact wpAny_pure (hR s' (hm.mono hsub) ⟨a, b, c, ⟨ep, hm.heap S _ hSw ho⟩, r⟩)
  | succ k ih =>
    intro i s hk hi hst hS hR
    have hlt : i < n := by omega
    refine codeAny_builtin PyProof.Rows.F.entry_set_update_loop ?_
    rw [Around.under_plainId PyProof.Rows.F.plain_set_update_loop _]
    show wpAny _ A.in1 (pyNext (.ref I) >>= _) _ _ s
    refine wpAny_bind (W.item i s _ _ hlt hst fun v s' hP hst' hm => ?_)
    obtain ⟨t, rfl⟩ := hval i v hlt hP
    have hS' : SetHas w s'.heap S ((List.range i).map val) := by
      obtain ⟨a, b, c, ⟨ep, ho⟩, r⟩ := hS
      exact ⟨a, b, c, ⟨ep, hm.heap S _ hSw ho⟩, r⟩
    show wpAny _ A.in1 (holding [Value.int (val i) t] (setAdd S (.int (val i) t)) >>= _) _ _ s'
    refine wpAny_bind (wpAny_holding ?_)
    unfold setAdd
    refine wpAny_holding ?_
    refine wpAny_bind ((intKind prog w).pyHash (k := val i) (intKind_is _ _ _ _) ?_)
    refine setAdd_has (s := { s' with toks := s'.toks + 1 }) hS' (hlow i hlt) fun h' r hS2 hsb => ?_
    have hSi : SetHas w h' S ((List.range (i + 1)).map val) := by rw [List.range_succ, List.map_append]; exact hS2
    refine wpAny_pure ⟨plainId_quiet PyProof.Rows.F.plain_set_update_loop _, ih (i + 1) _ (by omega) hlt (W.frame _ s' _ _ hst' (Nat.le_succ _) fun b hb o e => ?_) hSi fun s'' hm'' hS'' => ?_⟩
    · rw [hsb.2 b (fun h : b = S => hSf (by rw [← h]; exact hb))]; exact e
    · refine hR s'' (Moved.trans W.gtrans ((hm.mono hsub).then_heap (Nat.le_succ _) fun b o hb e => ?_) hm'') hS''
      rw [hsb.2 b (fun h : b = S => hb (by rw [h]; exact List.mem_cons_self))]; exact e

theorem code_set_new (a : Value) {Q₁ : Value → Shared → Prop}
    (h : Q₁ (.ref s.heap.objs.size) { s with heap := s.heap.push { cls := .type "set", dict := none, data := .set #[] 0 (.fresh 0 0 (!w.params.followText "set-order")) } }) :
    codeAny (model prog w) A (.call (.builtin "set.__new__") ⟨[.type "set", a], []⟩) (wants Q₁ E) s := by
  refine codeAny_of_tree ?_
  show wpAny _ A.in1 (do checkBuiltinCall "set.__new__" ⟨[.type "set", a], []⟩; again (.builtin "set.__new__" ⟨[.type "set", a], []⟩)) _ _ s
  refine wpAny_bind (wpAny_of_eq (F.newCall_set_1 a) (wpAny_pure ⟨plainId_quiet F.plain_set_new _, codeAny_builtin F.entry_set_new ?_⟩))
  rw [Around.under_plainId F.plain_set_new _]
  unfold Builtin.«set.__new__» Builtin.Frozenset.newClass
  have hsub := sub_set_self
  obtain ⟨hp, g, d, tk, os⟩ := s
  dsimp only
  wp_walk
  refine wpAny_askSetting (wpAny_pure ?_)
  dsimp only
  simp only [newObj]
  refine wpAny_bind (wpAny_alloc (wpAny_pure ?_))
  exact wpAny_pure h

set_option maxHeartbeats 3200000 in
theorem call_set_low {l : Addr} {items : Array Value} {ns : List Int} {Q : Value → Shared → Prop}
    (hh : A.handled = none) (hl : s.heap.IsList l items) (hi : PyProof.Rows.IntsAre items.toList ns) (hlow : ∀ i ∈ ns, Low i)
    (h : ∀ (h' : Heap) (tk : Nat), SetHas w h' s.heap.objs.size ns →
      (∀ b o, b < s.heap.objs.size → s.heap.get? b = some o → h'.get? b = some o) → Q (.ref s.heap.objs.size) { s with heap := h', toks := tk }) :
    wpAny (model prog w) A (call (.type "set") [.ref l]) Q E s := by
  obtain ⟨c, tl, hmro⟩ := F.called_set.mro
  have hmade := F.called_set.made
  have hsub := F.called_set.sub
  have hlen : items.size = ns.length := by rw [← hi.length]; simp
  have hns : (List.range items.size).map (fun i => ns.getD i 0) = ns := by
    rw [hlen]
    apply List.ext_getElem?
    intro i
    by_cases h : i < ns.length
    · simp [h]
    · simp [h]
  refine wpAny_call (codeAny_of_tree ?_)
  show wpAny _ _ (callAny (.type "set") _) _ _ _
  refine wpAny_pure ⟨Code.quiet_builtin _ (by decide +kernel), codeAny_builtin F.entry_type_call ?_⟩
  rw [Around.under_plain (weight_type_call_type "set" [.ref l] []) rfl]
  have h1 := F.called_set.notType
  have h2 := F.called_set.canCreate
  have hct := F.typeCall_set_1 (.ref l)
  repeat (any_goals (first | assumption | wp_step))
  generalize hled : (!w.params.followText "set-order") = led
  refine codeAny_mono (code_set_new (.ref l) (E := E) (Q₁ := fun obj s₁ => obj = .ref s.heap.objs.size ∧ s₁ = { s with heap := s.heap.push { cls := .type "set", dict := none, data := .set #[] 0 (.fresh 0 0 led) } }) ⟨rfl, by rw [hled]⟩) fun r s₁ hr => ?_
  cases r with
  | error e => exact hr
  | ok fl =>
    cases fl with
    | ret obj =>
      obtain ⟨rfl, rfl⟩ := hr
      have hS : (s.heap.push { cls := .type "set", dict := none, data := .set #[] 0 (.fresh 0 0 led) }).get? s.heap.objs.size = some { cls := .type "set", dict := none, data := .set #[] 0 (.fresh 0 0 led) } := Heap.get?_push_size _ rfl
      have hT : Shared.TypeIs { s with heap := s.heap.push { cls := .type "set", dict := none, data := .set #[] 0 (.fresh 0 0 led) } } (.ref s.heap.objs.size) "set" := ⟨_, hS, rfl⟩
      have hli := F.called_set.init.lookup
      have hbi := F.called_set.init.bind (.ref s.heap.objs.size)
      repeat (any_goals (first | assumption | wp_step))
      refine codeAny_mono (codeAny_call_builtin (R := wants (fun r s₂ => r = .none ∧ ∃ h' tk, s₂ = { s with heap := h', toks := tk } ∧
          SetHas w h' s.heap.objs.size ns ∧
          (∀ b o, b < s.heap.objs.size → s.heap.get? b = some o → h'.get? b = some o)) E) F.called_set.init.plain F.entry_set_init (check_set_init_1 hT ?_)) fun r₂ s₂ hr₂ => ?_
      · obtain ⟨ol, hol, hcl, nl, hdl⟩ := hl
        obtain ⟨ocls, odict, odata, oslots⟩ := ol
        simp only at hcl hdl
        subst hcl; subst hdl
        have hol' : (s.heap.push { cls := .type "set", dict := none, data := .set #[] 0 (.fresh 0 0 led) }).get? l = some { cls := .type "list", dict := odict, data := .seq items nl, slots := oslots } := Heap.get?_push_of_some _ hol
        have hsls := F.sub_list_set
        have hslf := F.sub_list_frozenset
        have hne : (Value.type "list" == Value.type "dict") = false := by decide
        have hl1 : (s.heap.push { cls := .type "set", dict := none, data := .set #[] 0 (.fresh 0 0 led) }).IsList l items := ⟨_, hol', rfl, nl, rfl⟩
        unfold Builtin.«set.__init__» noKeywords Builtin.Frozenset.updateFrom
        generalize hPI : pyIter = PI
        wp_walk
        subst hPI
        refine wpAny_pyIter_list hl1 ?_
        refine wpAny_bind (wpAny_runValue ?_)
        have hlS : l < s.heap.objs.size := Heap.lt_size hol
        have hh3 : A.in1.in1.in1.handled = none := by simp [hh]
        have hneI : l ≠ (s.heap.push { cls := .type "set", dict := none, data := .set #[] 0 (.fresh 0 0 led) }).objs.size := by
          rw [Heap.size_push]; exact Nat.ne_of_lt (Nat.lt_succ_of_lt hlS)
        have hSf : s.heap.objs.size ∉ [(s.heap.push { cls := .type "set", dict := none, data := .set #[] 0 (.fresh 0 0 led) }).objs.size, l] := by
          rw [Heap.size_push]; simp only [List.mem_cons, List.mem_singleton, List.not_mem_nil, or_false, not_or]
          exact ⟨Nat.ne_of_lt (Nat.lt_succ_self _), Nat.ne_of_gt hlS⟩
        have hval : ∀ (i : Nat) (v : Value), i < items.size → items[i]? = some v → ∃ t, v = .int ((fun i => ns.getD i 0) i) t := fun i v _ hv =>
          PyProof.Rows.IntsAre.int_at hi i v (by rw [Array.getElem?_toList]; exact hv)
        have hlw : ∀ i, i < items.size → Low ((fun i => ns.getD i 0) i) := fun i h => by
          have h' : i < ns.length := by omega
          have e : ns.getD i 0 = ns[i] := by simp [h']
          show Low (ns.getD i 0)
          rw [e]; exact hlow _ (List.getElem_mem h')
        refine set_loop ((Walks.list hh3 _ l hneI items).toS) s.heap.objs.size
          hSf (fun i => ns.getD i 0) hval hlw (items.size - 0) 0 _ (by omega) (Nat.zero_le _)
          ⟨⟨_, Heap.get?_push_size _ rfl, rfl, rfl⟩, (hl1.push _)⟩ ?hS0 ?hR
        case hS0 =>
          have hget : ((s.heap.push { cls := .type "set", dict := none, data := .set #[] 0 (.fresh 0 0 led) }).push { cls := .type "list_iterator", data := .fields #[.ref l, .int 0 0] }).get? s.heap.objs.size
              = some { cls := .type "set", dict := none, data := .set #[] 0 (.fresh 0 0 led) } := Heap.get?_push_of_some _ hS
          exact ⟨none, none, none, ⟨0, by rw [hled]; exact hget⟩, rfl, rfl, rfl⟩
        case hR =>
          intro s' hm hS'
          rw [hns] at hS'
          obtain ⟨h', g', d', tk', os'⟩ := s'
          have eg : g' = s.gens := hm.gens
          have ed : d' = s.drawn := hm.drawn
          have eo : os' = s.os := hm.os
          subst eg; subst ed; subst eo
          show wpAny _ _ _ _ _ _
          refine wpAny_pure ?_
          show wpAny _ _ (ret Value.none) _ _ _
          refine wpAny_pure ⟨rfl, h', tk', rfl, hS', fun b o hb e => ?_⟩
          have hb1 : b ≠ s.heap.objs.size := Nat.ne_of_lt hb
          have hb2 : b ≠ (s.heap.push { cls := .type "set", dict := none, data := .set #[] 0 (.fresh 0 0 led) }).objs.size := by
            rw [Heap.size_push]; exact Nat.ne_of_lt (Nat.lt_succ_of_lt hb)
          exact hm.heap b o (by simp only [List.mem_cons, List.mem_singleton, List.not_mem_nil, or_false, not_or]; exact ⟨hb1, hb2⟩) (Heap.get?_push_of_some _ (Heap.get?_push_of_some _ e))
      · cases r₂ with
        | error e => exact hr₂
        | ok fl₂ =>
          cases fl₂ with
          | ret r =>
            obtain ⟨rfl, h', tk, rfl, hS', hk'⟩ := hr₂
            repeat (any_goals (first | assumption | wp_step))
            exact h _ _ hS' hk'
          | _ => exact hr₂.elim
    | _ => exact hr.elim
end
end Mine

namespace Mine
theorem slot_sit_next : Slot "set_iterator" "__next__" "set_iterator.__next__" :=
  .of (owner := "set_iterator") (n := "__next__") (by rw [typeLookup_type, builtinLookup_eq_fast]; kernel_rfl) (by decide +kernel) (by decide +kernel) (by decide +kernel)
    (by first | exact .inl (by decide +kernel) | exact .inr (by decide +kernel)) (by rw [isSubtype_type]; kernel_rfl)
theorem entry_sit_next : entryFor table "set_iterator.__next__" = some Builtin.«set_iterator.__next__» := entryFor_of_tree (by kernel_rfl)
theorem args_sit_next (a : Value) : argsOk "set_iterator.__next__" ⟨[a], []⟩ := by unfold argsOk; kernel_rfl
theorem slot_sit_iter : Slot "set_iterator" "__iter__" "set_iterator.__iter__" := .of (owner := "set_iterator") (n := "__iter__") (by rw [typeLookup_type, builtinLookup_eq_fast]; kernel_rfl) (by decide +kernel) (by decide +kernel) (by decide +kernel)
    (by first | exact .inl (by decide +kernel) | exact .inr (by decide +kernel)) (by rw [isSubtype_type]; kernel_rfl)
theorem entry_sit_iter : entryFor table "set_iterator.__iter__" = some Builtin.«dict_keyiterator.__iter__» := entryFor_alias (id' := "dict_keyiterator.__iter__") (by kernel_rfl) rfl (by decide +kernel) (by kernel_rfl)
theorem args_sit_iter (a : Value) : argsOk "set_iterator.__iter__" ⟨[a], []⟩ := by unfold argsOk; kernel_rfl
theorem entry_set_iter : entryFor table "set.__iter__" = some Builtin.«frozenset.__iter__» := entryFor_alias (id' := "frozenset.__iter__") (by kernel_rfl) rfl (by decide +kernel) (by kernel_rfl)

def pickGo {α : Type} (next : Nat → Nat) := @pickOrder.go α next
theorem erase_perm {α : Type} : ∀ (l : List α) (i : Nat) (h : i < l.length), ([l[i]] ++ l.eraseIdx i).Perm l
  | x :: l, 0, h => by simp
  | x :: l, i + 1, h => by
    simp only [List.getElem_cons_succ, List.eraseIdx_cons_succ, List.singleton_append]
    refine (List.Perm.swap _ _ _).trans (List.Perm.cons _ ?_)
    exact erase_perm l i (by simpa using h)
theorem pick_perm {α : Type} (next : Nat → Nat) : ∀ (n k : Nat) (left : List α) (out : Array α), left.length = n → (pickOrder.go next n k left out).toList.Perm (out.toList ++ left)
  | 0, k, left, out, h => by
    have : left = [] := List.length_eq_zero_iff.mp h
    subst this; simp [pickOrder.go]
  | n + 1, k, left, out, h => by
    have hlt : next k % left.length < left.length := Nat.mod_lt _ (by omega)
    unfold pickOrder.go
    rw [List.getElem?_eq_getElem hlt]
    dsimp only
    refine (pick_perm next n (k + 1) _ _ (by rw [List.length_eraseIdx_of_lt hlt, h]; rfl)).trans ?_
    rw [Array.toList_push, List.append_assoc]
    refine List.Perm.append_left _ ?_
    exact erase_perm left _ hlt
theorem pickOrder_perm {α : Type} (next : Nat → Nat) (xs : Array α) : (pickOrder next xs).toList.Perm xs.toList := by
  have := pick_perm next xs.size 0 xs.toList #[] (by simp)
  simpa [pickOrder] using this
def slotAt (a b c : Option Tok) (i : Nat) : Nat := if i = 0 then 0 else (tOf true a b c).place.getD (i - 1) 0 + 1
theorem below_at (led : Bool) (a b c : Option Tok) (i : Nat) (hi : i ≤ (esOf a b c).size) : SetTable.below (tOf led a b c).place (slotAt a b c i) = i := by
  have h3 := es_small a b c
  have hi3 : i ≤ 3 := by omega
  rcases i with _ | _ | _ | _ | i
  · cases a <;> cases b <;> cases c <;> kernel_rfl
  · cases a <;> cases b <;> cases c <;> first | (exfalso; simp [esOf] at hi; done) | kernel_rfl
  · cases a <;> cases b <;> cases c <;> first | (exfalso; simp [esOf] at hi; done) | kernel_rfl
  · cases a <;> cases b <;> cases c <;> first | (exfalso; simp [esOf] at hi; done) | kernel_rfl
  · omega
end Mine

namespace Mine
section
variable {prog : Program} {w : World} {A : Around} {E : Value → Shared → Prop} {s : Shared}
def SetRaw (h : Heap) (S : Addr) (ep : Nat) (led : Bool) (a b c : Option Tok) : Prop := h.get? S = some { cls := .type "set", dict := none, data := .set (esOf a b c) ep (tOf led a b c) }
def byText (w : World) : Bool := w.params.followText "set-order"
def slotI (w : World) (a b c : Option Tok) (i : Nat) : Nat := if byText w then 0 else slotAt a b c i
def ordOf (w : World) (S : Addr) (ep : Nat) (a b c : Option Tok) : Array (Int × Value) := if byText w then pickOrder (w.params.setOrder S ep) (esOf a b c) else esOf a b c
def SetIt (w : World) (h : Heap) (I S : Addr) (ep : Nat) (a b c : Option Tok) (i : Nat) : Prop := ∃ o, h.get? I = some o ∧ o.cls = .type "set_iterator" ∧ o.data = .fields #[rawInt (slotI w a b c i), rawInt i, .ref S, rawInt (esOf a b c).size, rawInt ep]

theorem iter_set {S : Addr} {ep : Nat} {a b c : Option Tok} {R : Value → Shared → Prop} (hS : SetRaw s.heap S ep (!byText w) a b c)
    (h : R (.ref s.heap.objs.size) { s with heap := s.heap.push { cls := .type "set_iterator", data := .fields #[rawInt 0, rawInt 0, .ref S, rawInt (esOf a b c).size, rawInt ep] } }) : wpAny (model prog w) A (pyIter (.ref S)) R E s := by
  have hT : s.TypeIs (.ref S) "set" := ⟨_, hS, rfl⟩
  refine wpAny_pyIter_slot hT F.slot_set_iter (wpAny_call_entry F.slot_set_iter hT entry_set_iter ?_ (F.args_set_iter_1 _))
  unfold Builtin.«frozenset.__iter__»
  refine wpAny_bind (m := Builtin.Frozenset.slot0 "__iter__" _) (wpAny_of_eq (a := S) rfl ?_)
  unfold Builtin.Frozenset.sizeOf
  refine wpAny_bind (wpAny_bind (wpAny_setEntries_of hS rfl (tOf_fits _ _ _ _) (wpAny_pure ?_)))
  unfold setDrawn
  refine wpAny_bind (wpAny_bind (wpAny_setState_of hS rfl (tOf_fits _ _ _ _) ?_))
  unfold setsByText
  refine wpAny_bind (wpAny_bind (wpAny_askSetting (wpAny_pure (wpAny_pure ?_))))
  refine wpAny_ite_split (fun hab => absurd hab ?_) fun _ => ?_
  · show ¬ ((!w.params.followText "set-order" && _) = true)
    cases w.params.followText "set-order" <;> exact Bool.false_ne_true
  · refine wpAny_bind (wpAny_pure ?_)
    refine wpAny_bind (wpAny_setEpoch_of hS rfl (tOf_fits _ _ _ _) ?_)
    unfold newFields
    refine wpAny_bind (wpAny_newObj_type (wpAny_pure ⟨_, rfl, "set_iterator", _, ⟨_, Heap.get?_push_size _ rfl, rfl⟩, slot_sit_next.lookup, ?_⟩))
    exact h

theorem setNext_at {S : Addr} {ep i : Nat} {a b c : Option Tok} {Q : Option (Value × Nat) → Shared → Prop} (hS : SetRaw s.heap S ep (!byText w) a b c) (hi : i ≤ (esOf a b c).size)
    (h : Q (((ordOf w S ep a b c)[i]?).map fun e => (e.2, slotI w a b c (i + 1))) s) : wpAny (model prog w) A (setNext S (slotI w a b c i) i ep) Q E s := by
  unfold setNext
  refine wpAny_bind (wpAny_setState_of hS rfl (tOf_fits _ _ _ _) ?_)
  dsimp only
  unfold setsByText
  refine wpAny_bind (wpAny_bind (wpAny_askSetting (wpAny_pure ?_)))
  show wpAny _ _ (if byText w = true then _ else _) _ _ _
  unfold ordOf slotI at h
  cases hb : byText w with
  | true =>
    rw [hb] at h
    simp only [if_true] at h ⊢
    rw [if_neg (by simp)]
    unfold setWalk
    refine wpAny_bind (wpAny_bind (wpAny_setState_of hS rfl (tOf_fits _ _ _ _) ?_))
    dsimp only
    unfold setsByText
    refine wpAny_bind (wpAny_bind (wpAny_askSetting (wpAny_pure ?_)))
    show wpAny _ _ (if byText w = true then _ else _) _ _ _
    rw [if_pos hb]
    refine wpAny_bind (wpAny_askSetting (wpAny_pure (wpAny_pure ?_)))
    have e : slotI w a b c i = 0 := by unfold slotI; rw [hb]; rfl
    rw [e]
    exact h
  | false =>
    rw [hb] at h
    simp only [Bool.false_eq_true, if_false] at h ⊢
    refine wpAny_ite_split (fun hab => absurd hab Bool.false_ne_true) fun _ => ?_
    refine wpAny_bind (wpAny_of_eq (a := ()) rfl ?_)
    have e : slotI w a b c i = slotAt a b c i := by unfold slotI; rw [hb]; rfl
    rw [e, below_at _ a b c i hi]
    refine wpAny_pure ?_
    have hz : (tOf (!false) a b c).place.size = (esOf a b c).size := by cases a <;> cases b <;> cases c <;> rfl
    by_cases hlt : i < (esOf a b c).size
    · have hlt' : i < (tOf (!false) a b c).place.size := by rw [hz]; exact hlt
      rw [Array.getElem?_eq_getElem hlt, Array.getElem?_eq_getElem hlt']
      rw [Array.getElem?_eq_getElem hlt] at h
      have e2 : slotAt a b c (i + 1) = (tOf (!false) a b c).place[i] + 1 := by
        unfold slotAt
        rw [if_neg (Nat.succ_ne_zero i)]
        show (tOf (!false) a b c).place.getD i 0 + 1 = _
        have hlt2 : i < (tOf true a b c).place.size := hlt'
        show (if h : i < (tOf true a b c).place.size then (tOf true a b c).place[i] else 0) + 1 = (tOf true a b c).place[i] + 1
        rw [dif_pos hlt2]
      rw [e2] at h
      exact h
    · have hn : (esOf a b c)[i]? = none := by simp [Nat.le_of_not_lt hlt]
      rw [hn] at h ⊢
      exact h

theorem next_set {I S : Addr} {ep i : Nat} {a b c : Option Tok} {e : Int × Value} {R : Option Value → Shared → Prop} (hit : SetIt w s.heap I S ep a b c i) (hS : SetRaw s.heap S ep (!byText w) a b c) (hlt : i < (esOf a b c).size) (he : (ordOf w S ep a b c)[i]? = some e)
    (h : ∀ h', SetIt w h' I S ep a b c (i + 1) → Heap.SameBut I s.heap h' → R (some e.2) { s with heap := h' }) : wpAny (model prog w) A (pyNext (.ref I)) R E s := by
  obtain ⟨o, hio, hic, hid⟩ := id hit
  have hT : s.TypeIs (.ref I) "set_iterator" := ⟨o, hio, hic⟩
  unfold pyNext
  refine wpAny_bind (wpAny_attempt (wpAny_callSpecial?_slot (name := Str.ofString "__next__") hT slot_sit_next
    (wpAny_call_entry slot_sit_next hT entry_sit_next ?_ (args_sit_next _))))
  unfold Builtin.«set_iterator.__next__»
  refine wpAny_bind (wpAny_of_eq (a := ((.ref I, []) : Value × List Value)) rfl ?_)
  refine wpAny_bind (wpAny_fieldsOf hio hid ?_)
  show wpAny _ _ (setEntries S >>= _) _ _ s
  refine wpAny_bind (wpAny_setEntries_of hS rfl (tOf_fits _ _ _ _) ?_)
  rw [if_neg (by simp)]
  show wpAny _ _ (setNext S (slotI w a b c i) i ep >>= _) _ _ s
  refine wpAny_bind (setNext_at hS (Nat.le_of_lt hlt) ?_)
  rw [he]
  show wpAny _ _ (setField (.ref I) 0 (rawInt (slotI w a b c (i + 1) : Nat)) >>= _) _ _ s
  refine wpAny_bind (wpAny_setField hio hid (by simp) ?_)
  have g1 : (s.heap.update I (Obj.mapFields (·.setIfInBounds 0 (rawInt (slotI w a b c (i + 1) : Nat))))).get? I = some (Obj.mapFields (·.setIfInBounds 0 (rawInt (slotI w a b c (i + 1) : Nat))) o) :=
    Heap.get?_update_self _ hio (Obj.isFreed_of_fields (Obj.data_mapFields hid _))
  have d1 := Obj.data_mapFields hid (·.setIfInBounds 0 (rawInt (slotI w a b c (i + 1) : Nat)))
  refine wpAny_bind (wpAny_setField g1 d1 (by simp) ?_)
  refine wpAny_pure ⟨_, rfl, wpAny_pure (h _ ⟨_, Heap.get?_update_self _ g1 (Obj.isFreed_of_fields (Obj.data_mapFields d1 _)), (Obj.cls_mapFields ..).trans ((Obj.cls_mapFields ..).trans hic), ?_⟩ ((Heap.SameBut.update ..).trans (Heap.SameBut.update ..)))⟩
  rw [Obj.data_mapFields d1]
  simp [rawInt]

theorem end_set {I S : Addr} {ep : Nat} {a b c : Option Tok} {R : Option Value → Shared → Prop} (hh : A.handled = none) (hit : SetIt w s.heap I S ep a b c (esOf a b c).size) (hS : SetRaw s.heap S ep (!byText w) a b c) (he : (ordOf w S ep a b c)[(esOf a b c).size]? = none)
    (h : ∀ h', Heap.ExtBut I s.heap h' → R none { s with heap := h' }) : wpAny (model prog w) A (pyNext (.ref I)) R E s := by
  obtain ⟨o, hio, hic, hid⟩ := id hit
  have hT : s.TypeIs (.ref I) "set_iterator" := ⟨o, hio, hic⟩
  unfold pyNext
  refine wpAny_bind (wpAny_attempt (wpAny_callSpecial?_slot (name := Str.ofString "__next__") hT slot_sit_next
    (wpAny_call_entry slot_sit_next hT entry_sit_next ?_ (args_sit_next _))))
  unfold Builtin.«set_iterator.__next__»
  refine wpAny_bind (wpAny_of_eq (a := ((.ref I, []) : Value × List Value)) rfl ?_)
  refine wpAny_bind (wpAny_fieldsOf hio hid ?_)
  show wpAny _ _ (setEntries S >>= _) _ _ s
  refine wpAny_bind (wpAny_setEntries_of hS rfl (tOf_fits _ _ _ _) ?_)
  rw [if_neg (by simp)]
  show wpAny _ _ (setNext S (slotI w a b c (esOf a b c).size) (esOf a b c).size ep >>= _) _ _ s
  refine wpAny_bind (setNext_at hS (Nat.le_refl _) ?_)
  rw [he]
  show wpAny _ _ (setField (.ref I) 2 .none >>= _) _ _ s
  refine wpAny_bind (wpAny_setField hio hid (by simp) ?_)
  show wpAny _ _ (newExc (.type "StopIteration") [] >>= _) _ _ _
  refine wpAny_bind ?_
  simp only [newExc, newTuple]
  refine wpAny_bind (wpAny_newObj_type ?_ (by size_fits))
  refine wpAny_bind (m := firstArgMember _ _) (wpAny_of_eq (a := Value.none) (by first | rfl | (simp only [firstArgMember]; rfl)) ?_)
  refine wpAny_newObj_type ?_ (by size_fits)
  simp only [raiseNew]
  refine wpAny_bind (wpAny_handled ?_)
  rw [show A.in1.handled = none from hh]
  refine wpAny_bind (wpAny_pure (wpAny_throw ?_))
  refine wpAny_bind (wpAny_isInstance (T := "StopIteration") (b := true) ⟨_, Heap.get?_push_size _ rfl, rfl⟩ isSubtype_stop ?_)
  exact wpAny_pure (h _ (((Heap.SameBut.update ..).extBut.push _).push _))

theorem ord_size (w : World) (S : Addr) (ep : Nat) (a b c : Option Tok) : (ordOf w S ep a b c).size = (esOf a b c).size := by
  unfold ordOf
  split
  · exact (Array.perm_iff_toList_perm.mpr (pickOrder_perm _ _)).size_eq
  · rfl
theorem ord_perm (w : World) (S : Addr) (ep : Nat) (a b c : Option Tok) : (ordOf w S ep a b c).toList.Perm (esOf a b c).toList := by
  unfold ordOf
  split
  · exact pickOrder_perm _ _
  · exact .refl _
theorem walks_set {I S : Addr} {ep : Nat} {a b c : Option Tok} (hh : A.handled = none) (hne : S ≠ I) : Walks prog w A I [I, S] [I] (esOf a b c).size (fun i v => ((ordOf w S ep a b c)[i]?).map (·.2) = some v) (fun i h => SetIt w h I S ep a b c i ∧ SetRaw h S ep (!byText w) a b c) where
  sub := fun b hb => by simp at hb; simp [hb]
  frame := fun i h h' st hk => by
    obtain ⟨⟨o, e1, e2⟩, f1⟩ := st
    exact ⟨⟨o, hk I (by simp) o e1, e2⟩, hk S (by simp) _ f1⟩
  item := fun i s Q E hi st hQ => by
    obtain ⟨hit, hS⟩ := st
    have hi' : i < (ordOf w S ep a b c).size := by rw [ord_size]; exact hi
    refine next_set hit hS hi (Array.getElem?_eq_getElem hi') fun h' hit' hs' => ?_
    exact hQ _ h' s.toks (by rw [Array.getElem?_eq_getElem hi']; rfl) ⟨hit', hs'.extBut S _ hne hS⟩ fun b o hb e => hs'.extBut b o (fun h => hb (by simp [h])) e
  done := fun s Q E st hQ => by
    obtain ⟨hit, hS⟩ := st
    refine end_set hh hit hS (by have := ord_size w S ep a b c; simp [this]) fun h' he => ?_
    exact hQ h' s.toks fun b o hb e => he b o (fun h => hb (by simp [h])) e
  self := fun i s Q E st hQ => by
    obtain ⟨o, e1, e2, _⟩ := st.1
    have hT : s.TypeIs (.ref I) "set_iterator" := ⟨o, e1, e2⟩
    refine wpAny_pyIter_slot hT slot_sit_iter (wpAny_call_entry slot_sit_iter hT entry_sit_iter ?_ (args_sit_iter _))
    show wpAny _ _ (ret (.ref I)) _ _ s
    exact wpAny_pure ⟨_, rfl, "set_iterator", _, hT, slot_sit_next.lookup, hQ⟩
theorem hint_set {S : Addr} {Q : Bool → Shared → Prop} (hT : s.TypeIs (.ref S) "set") (h : Q false s) : wpAny (model prog w) A (Builtin.List.listLengthHint (.ref S)) Q E s := by
  unfold Builtin.List.listLengthHint
  refine wpAny_bind (wpAny_specialOf hT PySem.F.slot_set_len.lookup ?_)
  generalize hid : ("set.__len__" : String) = id0
  wp_delta
  rw [show splitId id0 = some ("set", "__len__") from by subst hid; decide +kernel]
  subst hid
  refine wpAny_bind (wpAny_isInstance (T := "set") (b := true) hT (by rw [isSubtype_type]; kernel_rfl) ?_)
  refine wpAny_ite_split (fun hab => absurd hab (by decide)) (fun _ => ?_)
  refine wpAny_ite_split (fun _ => ?_) (fun hab => absurd (by decide +kernel) hab)
  refine wpAny_bind (wpAny_typeOf hT ?_)
  exact wpAny_pure h
theorem kdl_set {S : Addr} {ep : Nat} {a b c : Option Tok} : KdlSrc prog w "set" S S (esOf a b c).size (fun i v => ((ordOf w S ep a b c)[i]?).map (·.2) = some v) (fun h => SetRaw h S ep (!byText w) a b c) where
  type := fun _ h => ⟨_, h, rfl⟩
  there := fun _ h => ⟨Heap.lt_size h, Heap.lt_size h⟩
  keep := fun _ _ h hk => hk S (.inl rfl) _ h
  notList := by decide
  notTuple := by decide
  hint := fun _ _ _ _ h hq => hint_set ⟨_, h, rfl⟩ hq
  iter := fun A s hh h => ⟨_, _, (fun _ _ hq => iter_set h hq), walks_set hh (Nat.ne_of_lt (Heap.lt_size h)), ⟨⟨_, Heap.get?_push_size _ rfl, rfl, by
    have e : slotI w a b c 0 = 0 := by unfold slotI slotAt; simp
    rw [e]; rfl⟩, Heap.get?_push_of_some _ h⟩⟩
end

section
variable {W : Wd} {A : Around} {Fs : List FA} {G : Mem} {Q : AV → Mem → Prop} {n : Nat} {env : Env} {pos : Pos} {K : Frag}
def low3 (l : List Int) : List Int := [0, 1, 2].filter fun i => l.contains i
theorem OL_set {x : Addr} {l : List Int} (hA : A.handled = none) (h : G x = some (.list (l.map .int))) (hl : ∀ i ∈ l, Low i) (q : ∀ b, G b = none → Q (.ref b) (G.set b (.set l))) : OL W A Fs G [.ref x] (fun vs => call (.type "set") vs) Q := fun s vs hs r => by
  obtain ⟨v, rfl, r1⟩ := r.inv1; cases r1.refI
  obtain ⟨vs, k, e, rv, hls⟩ := list_at hs h
  refine call_set_low hA hls (by simpa using ints_at rv) hl fun h' tk hS hk => ?_
  have ex : ∀ b o, s.heap.get? b = some o → h'.get? b = some o := fun b o e => hk b o (Heap.lt_size e) e
  exact ⟨_, _, hs.new (o := .set l) (tk := tk) (Nat.le_refl _) ex hS, fun a o h _ => ex a o h, .ref _, q _ (hs.freshG (Nat.le_refl _))⟩
theorem es_vals (a b c : Option Tok) (h : Heap) (l : List Int) (ha : a.isSome = l.contains 0) (hb : b.isSome = l.contains 1) (hc : c.isSome = l.contains 2) : VRs h ((esOf a b c).toList.map (·.2)) ((low3 l).map .int) := by
  have e : low3 l = (if a.isSome then [0] else []) ++ (if b.isSome then [1] else []) ++ (if c.isSome then [2] else []) := by
    unfold low3
    rw [ha, hb, hc]
    simp only [List.filter_cons, List.filter_nil]
    cases l.contains 0 <;> cases l.contains 1 <;> cases l.contains 2 <;> rfl
  rw [e]
  cases a <;> cases b <;> cases c <;> simp only [esOf, Option.toList, List.map_nil, List.map_cons, List.append_nil, List.nil_append, List.cons_append, Option.isSome, if_true, Bool.false_eq_true, if_false, List.toList_toArray] <;>
    repeat (first | exact .nil | refine .cons (.int _ _) ?_)
theorem VRs.perm {h : Heap} {vs out : List Value} (hp : out.Perm vs) : ∀ {avs : List AV}, VRs h vs avs → ∃ avs', VRs h out avs' ∧ avs'.Perm avs := by
  induction hp with
  | nil => intro avs r; exact ⟨avs, r, .refl _⟩
  | cons x p ih =>
    intro avs r
    cases r with
    | cons a r => obtain ⟨l, h1, h2⟩ := ih r; exact ⟨_ :: l, .cons a h1, h2.cons _⟩
  | swap x y l =>
    intro avs r
    cases r with
    | cons a r => cases r with | cons b r => exact ⟨_ :: _ :: _, .cons b (.cons a r), .swap _ _ _⟩
  | trans p1 p2 ih1 ih2 =>
    intro avs r
    obtain ⟨l, h1, h2⟩ := ih2 r
    obtain ⟨l', h3, h4⟩ := ih1 h1
    exact ⟨l', h3, h4.trans h2⟩
theorem ints_perm {l : List Int} {avs : List AV} (h : avs.Perm (l.map .int)) : ∃ l' : List Int, avs = l'.map .int ∧ l'.Perm l := by
  have key : ∀ {x y : List AV}, x.Perm y → ∀ l : List Int, y = l.map .int → ∃ l' : List Int, x = l'.map .int ∧ l'.Perm l := by
    intro x y hp
    induction hp with
    | nil => intro l e; exact ⟨[], rfl, by cases l <;> simp_all⟩
    | cons a p ih =>
      intro l e
      cases l with
      | nil => simp at e
      | cons i l =>
        simp only [List.map_cons, List.cons.injEq] at e
        obtain ⟨l', h1, h2⟩ := ih l e.2
        exact ⟨i :: l', by rw [h1, e.1]; rfl, h2.cons _⟩
    | swap a b l0 =>
      intro l e
      match l, e with
      | i :: j :: l, e =>
        simp only [List.map_cons, List.cons.injEq] at e
        exact ⟨j :: i :: l, by simp [e.1, e.2.1, e.2.2], .swap _ _ _⟩
    | trans p1 p2 ih1 ih2 =>
      intro l e
      obtain ⟨l1, h1, h2⟩ := ih2 l e
      obtain ⟨l2, h3, h4⟩ := ih1 l1 h1
      exact ⟨l2, h3, h4.trans h2⟩
  exact key h l rfl
theorem COL_set {x : Addr} {l : List Int} (hA : A.handled = none) (h : G x = some (.set l)) : COL W A Fs G (.ref x) (fun avs => ∃ l' : List Int, avs = l'.map .int ∧ l'.Perm (low3 l)) := fun s v hs r R hR => by
  cases r.refI
  obtain ⟨a, b, c, ⟨ep, ho⟩, ha, hb, hc⟩ := hs.g x _ h
  have hsm := es_small a b c
  refine kdu_collect (kdl_set (S := x) (ep := ep) (a := a) (b := b) (c := c)) hA ho (by rw [sizeLine_eq]; omega) fun h' tk acc k hacc => ?_
  have kt : KeepT s.heap h' := fun b o e _ => k b o e
  have e : acc.toList = (ordOf W.w x ep a b c).toList.map (·.2) := by
    apply List.ext_getElem?
    intro i
    rw [Array.getElem?_toList, List.getElem?_map, Array.getElem?_toList]
    by_cases hi : i < acc.size
    · have e : acc[i]? = some acc[i] := by simp [hi]
      rw [e]; exact (hacc.2 i _ e).symm
    · have hi' : ¬ i < (ordOf W.w x ep a b c).size := by rw [ord_size, ← hacc.1]; exact hi
      simp [hi, hi']
  rw [e]
  obtain ⟨avs', h1, h2⟩ := VRs.perm ((ord_perm W.w x ep a b c).map (·.2)) (es_vals a b c h' l ha hb hc)
  obtain ⟨l', rfl, h3⟩ := ints_perm h2
  exact hR _ _ _ (hs.ext (tk := tk) k) kt h1 ⟨l', rfl, h3⟩
end
end Mine

namespace Mine
inductive All2 {α β : Type} (R : α → β → Prop) : List α → List β → Prop
  | nil : All2 R [] []
  | cons {a : α} {b : β} {l : List α} {m : List β} : R a b → All2 R l m → All2 R (a :: l) (b :: m)
theorem All2.length {α β : Type} {R : α → β → Prop} {l : List α} {m : List β} (h : All2 R l m) : l.length = m.length := by
  induction h with
  | nil => rfl
  | cons _ _ ih => simp [ih]
theorem All2.get {α β : Type} {R : α → β → Prop} {l : List α} {m : List β} (h : All2 R l m) : ∀ {i : Nat} {a : α}, l[i]? = some a → ∃ b, m[i]? = some b ∧ R a b := by
  induction h with
  | nil => intro i a e; simp at e
  | cons r _ ih =>
    intro i x e
    cases i with
    | zero => simp at e; subst e; exact ⟨_, rfl, r⟩
    | succ i => simp at e; simpa using ih e
theorem All2.mono {α β : Type} {R S : α → β → Prop} (hr : ∀ a b, R a b → S a b) {l : List α} {m : List β} (h : All2 R l m) : All2 S l m := by
  induction h with
  | nil => exact .nil
  | cons a _ ih => exact .cons (hr _ _ a) ih
theorem All2.app {α β : Type} {R : α → β → Prop} {l : List α} {m : List β} {a : α} {b : β} (r : R a b) (h : All2 R l m) : All2 R (l ++ [a]) (m ++ [b]) := by
  induction h with
  | nil => exact .cons r .nil
  | cons a _ ih => exact .cons a ih
theorem All2.map {α β α' β' : Type} {R : α → β → Prop} {S : α' → β' → Prop} {f : α → α'} {g : β → β'} (hr : ∀ a b, R a b → S (f a) (g b)) {l : List α} {m : List β} (h : All2 R l m) : All2 S (l.map f) (m.map g) := by
  induction h with
  | nil => exact .nil
  | cons a _ ih => exact .cons (hr _ _ a) ih

section
variable {prog : Program} {w : World} {A : Around} {E : Value → Shared → Prop} {s : Shared}
variable {K : Type} [DecidableEq K] {kn : HeapKind prog w K}
theorem samePairsH {nm : String} {a b : Addr} {xa xb : List (K × Addr × Value)} {Q : Bool → Shared → Prop} (hu : kn.room A) (ha : (a == sysModules) = false) (hb : (b == sysModules) = false) (da : s.heap.DictOfH kn a xa) (db : s.heap.DictOfH kn b xb)
    (heq : All2 (fun p q => p.1 = q.1 ∧ ∀ (E : Value → Shared → Prop) (Q : Bool → Shared → Prop), Q true s → wpAny (model prog w) A (eqBool p.2.2 q.2.2) Q E s) xa xb) (h : Q true s) : wpAny (model prog w) A (Builtin.Dict.samePairs nm a b) Q E s := by
  obtain ⟨oa, es, ep, hoa, _, hda, hea, hia, hna⟩ := da
  obtain ⟨ob, es', ep', hob, _, hdb, heb, hib, hnb⟩ := db
  have hza : es.size = xa.length := size_of_entries hea
  have hzb : es'.size = xb.length := size_of_entries heb
  have hsz : es.size = es'.size := by rw [hza, hzb, heq.length]
  unfold Builtin.Dict.samePairs Builtin.Dict.showsAll
  rw [if_neg (show ¬ (a == sysModules) = true by rw [ha]; exact Bool.false_ne_true), if_neg (show ¬ (b == sysModules) = true by rw [hb]; exact Bool.false_ne_true)]
  refine wpAny_bind (wpAny_pure (wpAny_bind (wpAny_pure ?_)))
  refine wpAny_bind (wpAny_dictEntries hoa hda ?_)
  dsimp only
  refine wpAny_bind (wpAny_dictEntries hob hdb ?_)
  rw [if_neg (by rw [hsz]; simp)]
  refine wpAny_bind (wpAny_dictEpoch hoa hda ?_)
  refine wpAny_bind ?_
  rw [Std.Legacy.Range.forIn_eq_forIn_range']
  simp only [Std.Legacy.Range.size, Nat.sub_zero, Nat.add_sub_cancel, Nat.div_one]
  refine wpAny_forIn_list _ (fun rest q s' => s' = s ∧ q = (none, ()) ∧ ∀ i ∈ rest, i < es.size) _ ?_ ?_ _ _ ⟨rfl, rfl, fun i hi => by simpa using hi⟩
  · rintro i rest q s' ⟨rfl, rfl, hr⟩
    have hlt : i < es.size := hr i (.head _)
    refine wpAny_bind (wpAny_dictEntries hoa hda ?_)
    rw [Array.getElem?_eq_getElem hlt]
    have hlt' : i < xa.length := by rw [← hza]; exact hlt
    obtain ⟨y, hy, hky, hey⟩ := heq.get (List.getElem?_eq_getElem hlt')
    have ee : es[i] = entryOfKey kn xa[i] := by
      have := entry_at hea i
      rw [Array.getElem?_eq_getElem hlt, List.getElem?_eq_getElem hlt'] at this
      simpa using this
    generalize hx : xa[i] = x at *
    obtain ⟨k, ka, v⟩ := x
    obtain ⟨k', kb, v'⟩ := y
    dsimp only at hky hey
    subst hky
    have hki : kn.is s'.heap k ka := hia (k, ka, v) (by rw [← hx]; exact List.getElem_mem hlt')
    have hj : ∀ (j : Nat) (p : Addr × Value), xb[j]? = some (k, p) → j = i := fun j p e => idxH_unique hnb e hy
    show wpAny _ _ (holding [es[i].key, es[i].val] _ >>= _) _ _ _
    rw [ee]
    refine wpAny_bind (wpAny_holding (wpAny_bind (wpAny_dictFind_heap hu hki hob hdb heb hib hnb (fun hno => absurd hy (hno i _)) fun j p e => ?_)))
    obtain rfl := hj j p e
    refine wpAny_bind (wpAny_dictEntries hob hdb ?_)
    have e2 : es'[j]? = some (entryOfKey kn (k, kb, v')) := by rw [entry_at heb j, hy]; rfl
    rw [e2]
    refine wpAny_holding (hey _ _ ?_)
    show wpAny _ _ (if (!true) = true then _ else _) _ _ _
    rw [if_neg (by decide)]
    refine wpAny_bind (wpAny_dictEpoch hoa hda ?_)
    rw [if_neg (by simp)]
    exact wpAny_pure ⟨rfl, rfl, fun i hi => hr i (.tail _ hi)⟩
  · rintro q s' ⟨rfl, rfl, _⟩
    exact wpAny_pure h
end

section
variable {W : Wd} {A : Around} {Fs : List FA} {G : Mem} {Q : AV → Mem → Prop} {n : Nat} {env : Env} {pos : Pos} {K : Frag}
def ListsAt (G : Mem) (kv : List (Str × AV)) (P : List (Str × List Int)) : Prop := All2 (fun p q => p.1 = q.1 ∧ ∃ l, p.2 = .ref l ∧ G l = some (.list (q.2.map .int))) kv P
def InnersAt (G : Mem) (kvs : List (List Str × AV)) (P : List (List Str × List (Str × List Int))) : Prop := All2 (fun p q => p.1 = q.1 ∧ ∃ d ikv ie, p.2 = .ref d ∧ G d = some (.dS ikv ie) ∧ ListsAt G ikv q.2) kvs P
theorem eqAt_ints {s : Shared} {a b : Addr} {l : List Int} (hs : W.St Fs G s) (hu : A.units + 80 < cLine) (h1 : G a = some (.list (l.map .int))) (h2 : G b = some (.list (l.map .int))) : SeqAt.EqAt A s (.ref a) (.ref b) true := by
  have r1 := list_reads hs h1 (dats_ints l)
  have r2 := list_reads hs h2 (dats_ints l)
  intro prog w E Q hq
  refine SeqAt.eqBoolOverData prog w A E s _ _ _ _ _ _ Q r1 r2 (toPDs_lay _ (dats_ints l)) (toPDs_lay _ (dats_ints l)) ?_ ?_
  · simp only [PyData.depth, depth_ints]; omega
  · have : PyData.eqv (.list (toPDs (l.map .int))) (.list (toPDs (l.map .int))) = true := by
      simp only [PyData.eqv]
      exact (eqvAll_iff _ _ (dats_ints l) (dats_ints l)).mpr rfl
    rw [this]; exact hq
theorem keq_hits {A : Around} {s : Shared} {kb : List (Str × Value)} : ∀ {ka : List (Str × Value)}, (∀ p ∈ ka, ∃ y, valueAt kb p.1 = some y ∧ SeqAt.EqAt A s p.2 y true) → KeqHits A s kb ka true
  | [], _ => .nil
  | (k, v) :: r, h => by
    obtain ⟨y, hy, he⟩ := h _ (.head _)
    exact KeqHits.hit (e := true) (b := true) hy he (keq_hits fun p hp => h p (.tail _ hp))
theorem DR.mem {h : Heap} {κ : Type} {es : List (κ × Value)} {kvs : List (κ × AV)} (x : DR h es kvs) : ∀ p ∈ es, ∃ av, (p.1, av) ∈ kvs ∧ VR h p.2 av := by
  induction x with
  | nil => intro p hp; cases hp
  | cons a _ ih =>
    intro p hp
    rcases List.mem_cons.mp hp with rfl | hp
    · exact ⟨_, .head _, a⟩
    · obtain ⟨av, h1, h2⟩ := ih p hp; exact ⟨av, .tail _ h1, h2⟩
theorem valueAt_of_mem {κ : Type} [DecidableEq κ] {kvs : List (κ × AV)} {k : κ} {av : AV} (hn : (kvs.map (·.1)).Nodup) (hm : (k, av) ∈ kvs) : aget kvs k = some av := by
  induction kvs with
  | nil => cases hm
  | cons p r ih =>
    rw [List.map_cons, List.nodup_cons] at hn
    unfold aget at *
    simp only [List.find?_cons]
    rcases List.mem_cons.mp hm with rfl | hm
    · simp
    · have : p.1 ≠ k := fun e => hn.1 (e ▸ List.mem_map_of_mem (f := (·.1)) hm)
      simp only [this, decide_false]
      exact ih hn.2 hm
theorem eqAt_inner {s : Shared} {a b : Addr} {k1 k2 : List (Str × AV)} {e1 e2 : Nat} {P : List (Str × List Int)} (hs : W.St Fs G s) (hu : A.units + 90 < cLine) (h1 : G a = some (.dS k1 e1)) (h2 : G b = some (.dS k2 e2)) (l1 : ListsAt G k1 P) (l2 : ListsAt G k2 P) : ∀ (E : Value → Shared → Prop) (Q : Bool → Shared → Prop), Q true s → wpAny W.M A (eqBool (.ref a) (.ref b)) Q E s := fun E Q hq => by
  by_cases hab : a = b
  · subst hab; exact SeqAt.EqAt.same _ _ _ E Q hq
  · unfold eqBool
    refine wpAny_holding ?_
    refine wpAny_ite_split (fun h => absurd (by have := eq_of_beq h; injection this) hab) fun _ => ?_
    obtain ⟨x1, da, r1, m1⟩ := hs.g a _ h1
    obtain ⟨x2, db, r2, m2⟩ := hs.g b _ h2
    have hn2 : (k2.map (·.1)).Nodup := by
      have := r2.keys
      rw [← this]
      obtain ⟨_, _, _, _, _, _, _, hn⟩ := db
      exact hn
    have hlen : x1.length = x2.length := by rw [r1.length, r2.length, l1.length, l2.length]
    refine wpAny_bind (show wpAny W.M A (compareOp .Eq (.ref a) (.ref b)) _ _ s from keq_eq (knd := strKind W.prog W.w) (r := true) m1 m2 da.dictOf db.dictOf (by omega) (fun _ => keq_hits fun p hp => ?_) ?_)
    · obtain ⟨av, hm, rv⟩ := r1.mem p hp
      obtain ⟨i, hi⟩ := List.getElem?_of_mem hm
      obtain ⟨q, hq1, hq2, l, hl, hG⟩ := l1.get hi
      -- the same place of k2
      have hi2 : i < k2.length := by rw [l2.length]; exact (List.getElem?_eq_some_iff.mp hq1).1
      obtain ⟨q', hq1', hq2', l', hl', hG'⟩ := l2.get (List.getElem?_eq_getElem hi2)
      rw [hq1] at hq1'; cases hq1'
      have hk : k2[i].1 = p.1 := by rw [hq2', ← hq2]
      have hv := r2.get p.1
      rw [valueAt_of_mem (av := k2[i].2) hn2 (by rw [← hk]; exact List.getElem_mem hi2)] at hv
      obtain ⟨y, hy, ry⟩ := hv
      refine ⟨y, hy, ?_⟩
      dsimp only at hl
      rw [hl] at rv; rw [hl'] at ry
      rw [rv.refI, ry.refI]
      exact eqAt_ints hs (by have : A.in1.units = A.units + 1 := rfl; omega) hG hG'
    · have : (x1.length == x2.length && true) = true := by rw [hlen]; simp
      rw [this]
      exact wpAny_truthy_bool hq

theorem DRT.rel {h : Heap} {κ : Type} {xs : List (κ × Addr × Value)} {kvs : List (κ × AV)} (x : DRT h xs kvs) : All2 (fun p q => p.1 = q.1 ∧ VR h p.2.2 q.2) xs kvs := by
  induction x with
  | nil => exact .nil
  | cons a _ ih => exact .cons ⟨rfl, a⟩ ih
theorem All2.join {α β γ δ : Type} {R : α → β → Prop} {S : β → γ → Prop} {T : δ → γ → Prop} {R' : α' → δ → Prop} {V : α → α' → Prop} (hv : ∀ a b c d a', R a b → S b c → T d c → R' a' d → V a a') : ∀ {l : List α} {m : List β} {n : List γ} {o : List δ} {l' : List α'},
    All2 R l m → All2 S m n → All2 T o n → All2 R' l' o → All2 V l l'
  | _, _, _, _, _, .nil, .nil, .nil, .nil => .nil
  | _, _, _, _, _, .cons a l, .cons b m, .cons c n, .cons d o => .cons (hv _ _ _ _ _ a b c d) (All2.join hv l m n o)
theorem O2_ne_groups {a b : Addr} {k1 k2 : List (List Str × AV)} {e1 e2 : Nat} {P : List (List Str × List (Str × List Int))} (hA : AOk n A) (h1 : G a = some (.dT k1 e1)) (h2 : G b = some (.dT k2 e2)) (l1 : InnersAt G k1 P) (l2 : InnersAt G k2 P) (q : Q (.bool false) G) :
    O2 W A Fs G (.ref a) (.ref b) (compareOp .NotEq) Q := fun s u v hs ru rv => by
  cases ru.refI; cases rv.refI
  obtain ⟨x1, da, r1, m1⟩ := dT_of hs h1
  obtain ⟨x2, db, r2, m2⟩ := dT_of hs h2
  have hu := hA.u
  have i1 : A.in1.units = A.units + 1 := rfl
  refine wpAny_richCompare_same_room (op := .NotEq) da.typeIs db.typeIs PySem.F.slot_dict_ne (wpAny_call_entry PySem.F.slot_dict_ne da.typeIs PySem.F.entry_dict_ne ?_ (PySem.F.args_dict_ne_2 _ _)) (by omega)
  show wpAny _ _ (Builtin.Dict.dictSlotArgs "__ne__" ⟨[.ref a, .ref b], []⟩ >>= _) _ _ s
  refine wpAny_bind ?_
  unfold Builtin.Dict.dictSlotArgs
  refine wpAny_bind (wpAny_notOrdered_dict da.typeIs ?_)
  show wpAny _ _ (pure (Value.ref a, Value.ref b)) _ _ s
  refine wpAny_pure ?_
  refine wpAny_bind (wpAny_isInstance (T := "dict") db.typeIs PySem.F.sub_dict_dict ?_)
  simp only [Bool.not_true, Bool.false_eq_true, if_false]
  refine wpAny_bind (wpAny_pure (wpAny_bind (wpAny_pure ?_)))
  refine wpAny_bind (samePairsH (kn := tupleKind (strKind W.prog W.w)) (tupleKind_room_in1 (by omega)) m1 m2 da db ?_ ?_)
  · refine All2.join (fun p kv r kv' p' hp hkv hkv' hp' => ?_) r1.rel l1 l2 r2.rel
    obtain ⟨hk1, d, ikv, ie, hd1, hG1, hl1⟩ := hkv
    obtain ⟨hk2, d', ikv', ie', hd2, hG2, hl2⟩ := hkv'
    obtain ⟨ek, rv⟩ := hp
    obtain ⟨ek', rv'⟩ := hp'
    refine ⟨by rw [ek, hk1, ← hk2, ← ek'], fun E Q hq => ?_⟩
    rw [hd1] at rv; rw [hd2] at rv'
    rw [rv.refI, rv'.refI]
    exact eqAt_inner hs (by omega) hG1 hG2 hl1 hl2 E Q hq
  · refine wpAny_pure ⟨_, rfl, ?_, ?_⟩
    · exact fun x => nomatch x
    · exact ⟨_, G, hs, .refl _, .bool _, q⟩
end
end Mine

namespace Mine
section
variable {W : Wd} {A : Around} {Fs : List FA} {G : Mem} {Q : AV → Mem → Prop} {n : Nat} {env : Env} {pos : Pos} {K : Frag}
theorem B1 {fd : FuncData} {a : Str} {x : AV} (h : ∀ s v, BindsTo s fd ⟨[v], []⟩ [(a, v)]) : ∀ s vs, (∀ a o, W.B.get? a = some o → s.heap.get? a = some o) → VRs s.heap vs [x] → ∃ binds, BindsTo s fd ⟨vs, []⟩ binds ∧ DR s.heap binds [(a, x)] := fun s vs _ r => by
  obtain ⟨v, rfl, r1⟩ := r.inv1
  exact ⟨_, h s v, .cons r1 .nil⟩
theorem B2 {fd : FuncData} {a b : Str} {x y : AV} (h : ∀ s v u, BindsTo s fd ⟨[v, u], []⟩ [(a, v), (b, u)]) : ∀ s vs, (∀ a o, W.B.get? a = some o → s.heap.get? a = some o) → VRs s.heap vs [x, y] → ∃ binds, BindsTo s fd ⟨vs, []⟩ binds ∧ DR s.heap binds [(a, x), (b, y)] := fun s vs _ r => by
  obtain ⟨v, u, rfl, r1, r2⟩ := r.inv2
  exact ⟨_, h s v u, .cons r1 (.cons r2 .nil)⟩
theorem B3 {fd : FuncData} {a b c : Str} {x y z : AV} (h : ∀ s v u t, BindsTo s fd ⟨[v, u, t], []⟩ [(a, v), (b, u), (c, t)]) : ∀ s vs, (∀ a o, W.B.get? a = some o → s.heap.get? a = some o) → VRs s.heap vs [x, y, z] → ∃ binds, BindsTo s fd ⟨vs, []⟩ binds ∧ DR s.heap binds [(a, x), (b, y), (c, z)] := fun s vs _ r => by
  obtain ⟨v, u, t, rfl, r1, r2, r3⟩ := r.inv3
  exact ⟨_, h s v u t, .cons r1 (.cons r2 (.cons r3 .nil))⟩
theorem VRs.inv4 {h : Heap} {vs : List Value} {a b c d : AV} (r : VRs h vs [a, b, c, d]) : ∃ v u t p, vs = [v, u, t, p] ∧ VR h v a ∧ VR h u b ∧ VR h t c ∧ VR h p d := by
  cases r with | cons r1 r => obtain ⟨u, t, p, rfl, r2, r3, r4⟩ := r.inv3; exact ⟨_, _, _, _, rfl, r1, r2, r3, r4⟩
theorem VRs.inv5 {h : Heap} {vs : List Value} {a b c d e : AV} (r : VRs h vs [a, b, c, d, e]) : ∃ v u t p q, vs = [v, u, t, p, q] ∧ VR h v a ∧ VR h u b ∧ VR h t c ∧ VR h p d ∧ VR h q e := by
  cases r with | cons r1 r => obtain ⟨u, t, p, q, rfl, r2, r3, r4, r5⟩ := r.inv4; exact ⟨_, _, _, _, _, rfl, r1, r2, r3, r4, r5⟩
theorem B4 {fd : FuncData} {a b c d : Str} {x y z u : AV} (h : ∀ s v1 v2 v3 v4, BindsTo s fd ⟨[v1, v2, v3, v4], []⟩ [(a, v1), (b, v2), (c, v3), (d, v4)]) : ∀ s vs, (∀ a o, W.B.get? a = some o → s.heap.get? a = some o) → VRs s.heap vs [x, y, z, u] → ∃ binds, BindsTo s fd ⟨vs, []⟩ binds ∧ DR s.heap binds [(a, x), (b, y), (c, z), (d, u)] := fun s vs _ r => by
  obtain ⟨v1, v2, v3, v4, rfl, r1, r2, r3, r4⟩ := r.inv4
  exact ⟨_, h s _ _ _ _, .cons r1 (.cons r2 (.cons r3 (.cons r4 .nil)))⟩
theorem B5 {fd : FuncData} {a b c d e : Str} {x y z u t : AV} (h : ∀ s v1 v2 v3 v4 v5, BindsTo s fd ⟨[v1, v2, v3, v4, v5], []⟩ [(a, v1), (b, v2), (c, v3), (d, v4), (e, v5)]) : ∀ s vs, (∀ a o, W.B.get? a = some o → s.heap.get? a = some o) → VRs s.heap vs [x, y, z, u, t] → ∃ binds, BindsTo s fd ⟨vs, []⟩ binds ∧ DR s.heap binds [(a, x), (b, y), (c, z), (d, u), (e, t)] := fun s vs _ r => by
  obtain ⟨v1, v2, v3, v4, v5, rfl, r1, r2, r3, r4, r5⟩ := r.inv5
  exact ⟨_, h s _ _ _ _ _, .cons r1 (.cons r2 (.cons r3 (.cons r4 (.cons r5 .nil))))⟩
end
noncomputable abbrev KP (W : Wd) : Frag := KF W.w.params
section
variable {W : Wd} {A : Around} {Fs : List FA} {G : Mem} {Q : AV → Mem → Prop} {n : Nat}
def pad4 (t : Str) : Str := if (4 : Int) ≤ t.length then t else Builtin.Str.padded t 0 (4 - t.length) 32
theorem OL_ljust {t : Str} (hz : (pad4 t).length ≤ sizeLine) (q : Q (.str (pad4 t)) G) : OL W A Fs G [.str t, .int 4] (fun vs => call (.builtin "str.ljust") vs) Q := fun s vs hs r => by
  obtain ⟨v, u, rfl, r1, r2⟩ := r.inv2
  obtain ⟨a, rfl⟩ := r1.strI; obtain ⟨b, rfl⟩ := r2.intI
  refine call_gives F.slot_str_ljust (typeIs_str s t a) F.entry_str_ljust (F.args_str_ljust_2 _ _) (gives_str_ljust t 4 a b rfl rfl) ?_
  unfold pad4 at q hz
  by_cases h : (4 : Int) ≤ t.length
  · rw [if_pos h] at q ⊢
    exact ⟨_, G, hs, .refl _, .str _ _, q⟩
  · rw [if_neg h] at q hz ⊢
    exact ⟨hz, _, G, hs.toks _, .refl _, .str _ _, q⟩
theorem C_padded {t : Str} (X : Base W (KP W)) (hA : AOk (n + 1) A) (hz : (pad4 t).length ≤ sizeLine) (q : Q (.str (pad4 t)) G) : OC W A Fs G [.str t] 140 Q := by
  refine CALL_fnC (n := n) (m := [("tag", .str t)]) (cv := []) X hA (by exact rfl) rfl rfl rfl rfl rfl rfl rfl (B1 fun s v => BindsTo.of_eq rfl) rfl (by decide) rfl rfl ?_
  intro L hL
  exact EX_cons (EX_return (EV_method "str" "str.ljust" F.plainAttrs_str F.slot_str_ljust F.type_str_ljust (EV_local rfl rfl rfl rfl ⟨TyIs.str, ES_cons (EV_int (ES_nil (OL_ljust hz q)))⟩)))
end
end Mine

namespace Mine
def Keeps (G G' : Mem) : Prop := ∀ b o, G b = some o → G' b = some o
theorem Keeps.refl (G : Mem) : Keeps G G := fun _ _ e => e
theorem Keeps.trans {G G1 G2 : Mem} (x : Keeps G G1) (y : Keeps G1 G2) : Keeps G G2 := fun b o e => y b o (x b o e)
theorem Keeps.set {G G' : Mem} {a : Addr} {o : AO} (x : Keeps G G') (h : G a = none) : Keeps G (G'.set a o) := fun b o' e => by
  rw [Mem.set_ne]; exact x b o' e
  intro q; subst q; rw [h] at e; cases e
theorem Keeps.ex {G G' : Mem} {Ws : List Addr} (x : Keeps G G') : Ex Ws G G' := ⟨fun a o e _ _ => x a o e, fun a o e _ => x a o e⟩
theorem Keeps.none {G G' : Mem} (x : Keeps G G') {a : Addr} (h : G' a = none) : G a = none := by
  cases e : G a with
  | none => rfl
  | some o => rw [x a o e] at h; cases h
theorem set_swap {G : Mem} {a b : Addr} {x y z : AO} (h : b ≠ a) : ((G.set a x).set b y).set a z = (G.set a z).set b y := by
  funext c; simp only [Mem.set]
  by_cases h1 : c = a
  · have : ¬ c = b := fun e => h (e ▸ h1)
    simp [h1]
    intro e; exact absurd e.symm h
  · simp [h1]
theorem set_comm {G : Mem} {a b : Addr} {x y : AO} (h : a ≠ b) : (G.set a x).set b y = (G.set b y).set a x := by
  funext c; simp only [Mem.set]
  by_cases h1 : c = a
  · have : ¬ c = b := fun e => h (h1.symm.trans e)
    simp [h1, h]
  · simp [h1]
section
variable {W : Wd} {A : Around} {Fs : List FA} {G : Mem} {Q : AV → Mem → Prop} {n : Nat} {K : Frag}

theorem EX_self {env : Env} {L a dx C : Addr} {m ms : List (Str × AV)} {attr self : Str} {value : Expr} {p1 p2 p3 : Pos} {G0 : Mem} {Q : AF → List (Str × AV) → Mem → Prop} (X : Base W K) (P : PlainSet K C attr) (hne : a ≠ dx) (hz : ms.length ≤ 1000)
    (hL : env.locals = L) (hk : env.scope.kind = .function) (hl : env.kindOf self = some .local) (hm : m.lookup self = some (.ref a)) (hd : (self == ("__debug__" : Str)) = false)
    (x : EV W A (⟨L, m⟩ :: Fs) ((G0.set dx (.ns ms)).set a (.inst C dx)) (eval value env) fun av G1 => ∃ G2 : Mem, G1 = (G2.set dx (.ns ms)).set a (.inst C dx) ∧ Q .next m ((G2.set dx (.ns (setm ms attr av))).set a (.inst C dx)))
    (hs : swapsWithSole [Expr.Attribute (.Name self p1) attr p2] value p3.line env = pure false := by rfl) (hw : swappedStores [Expr.Attribute (.Name self p1) attr p2] value env = pure none := by rfl) (ht : (assignEach [Expr.Attribute (.Name self p1) attr p2] env).map (·.2) = [assign (.Attribute (.Name self p1) attr p2) env] := by rfl) :
    EX W A L m Fs ((G0.set dx (.ns ms)).set a (.inst C dx)) (exec (.Assign [.Attribute (.Name self p1) attr p2] value p3) env) Q :=
  EX_assign (x.mono fun av G1 ⟨G2, e, q⟩ => SV_attr X (EV_local hL hk hl hm ⟨a, C, dx, ms, rfl, by rw [e]; exact Mem.set_self _ _ _, by rw [e, Mem.set_ne _ _ (Ne.symm hne)]; exact Mem.set_self _ _ _, P, hz, by rw [e, set_swap hne]; exact q⟩ hd)) hs hw ht
end
section
variable {W : Wd} {A : Around} {Fs : List FA} {G : Mem} {Q : AV → Mem → Prop} {n : Nat}
theorem C_FeatureRow {t s l k : AV} (X : Base W (KP W)) (hA : AOk (n + 2) A) (q : ∀ a dx G', Keeps G G' → G a = none → G' a = some (.inst 272 dx) → G' dx = some (.ns [("tag", t), ("script", s), ("language", l), ("lookups", k)]) → Q (.ref a) G') :
    OL W A Fs G [t, s, l, k] (fun vs => call (.ref 272) vs) Q := by
  refine CALL_cls (n := n + 1) (f := 262) X hA (by exact rfl) (by exact rfl) (by exact rfl) fun A' a dx hA' ha hdx hne => ?_
  refine CALL_fnC (n := n) (m := [("self", .ref a), ("tag", t), ("script", s), ("language", l), ("lookups", k)]) (cv := []) X hA' (by exact rfl) rfl rfl rfl rfl rfl rfl rfl (B5 fun s v1 v2 v3 v4 v5 => BindsTo.of_eq rfl) rfl (by decide) rfl rfl ?_
  intro L hL
  refine EX_cons (EX_self X ⟨by exact rfl, by exact rfl, by exact rfl, by exact rfl⟩ hne (Nat.le_of_ble_eq_true rfl) rfl rfl rfl rfl rfl (EV_local rfl rfl rfl rfl ⟨_, rfl, ?_⟩))
  refine EX_cons (EX_self X ⟨by exact rfl, by exact rfl, by exact rfl, by exact rfl⟩ hne (Nat.le_of_ble_eq_true rfl) rfl rfl rfl rfl rfl (EV_local rfl rfl rfl rfl ⟨_, rfl, ?_⟩))
  refine EX_cons (EX_self X ⟨by exact rfl, by exact rfl, by exact rfl, by exact rfl⟩ hne (Nat.le_of_ble_eq_true rfl) rfl rfl rfl rfl rfl (EV_local rfl rfl rfl rfl ⟨_, rfl, ?_⟩))
  refine EX_cons (EX_self X ⟨by exact rfl, by exact rfl, by exact rfl, by exact rfl⟩ hne (Nat.le_of_ble_eq_true rfl) rfl rfl rfl rfl rfl (EV_local rfl rfl rfl rfl ⟨_, rfl, ?_⟩))
  refine EX_nil ⟨rfl, q a dx _ (((Keeps.refl G).set hdx).set ha) ha (Mem.set_self _ _ _) ?_⟩
  rw [Mem.set_ne _ _ (Ne.symm hne), Mem.set_self]
  exact congrArg some (congrArg AO.ns (by exact rfl))
theorem C_RuleTree {l f : AV} (X : Base W (KP W)) (hA : AOk (n + 2) A) (q : ∀ a dx G', Keeps G G' → G a = none → G' a = some (.inst 244 dx) → G' dx = some (.ns [("lookups", l), ("features", f)]) → Q (.ref a) G') :
    OL W A Fs G [l, f] (fun vs => call (.ref 244) vs) Q := by
  refine CALL_cls (n := n + 1) (f := 227) X hA (by exact rfl) (by exact rfl) (by exact rfl) fun A' a dx hA' ha hdx hne => ?_
  refine CALL_fnC (n := n) (m := [("self", .ref a), ("lookups", l), ("features", f)]) (cv := []) X hA' (by exact rfl) rfl rfl rfl rfl rfl rfl rfl (B3 fun s v1 v2 v3 => BindsTo.of_eq rfl) rfl (by decide) rfl rfl ?_
  intro L hL
  refine EX_cons (EX_self X ⟨by exact rfl, by exact rfl, by exact rfl, by exact rfl⟩ hne (Nat.le_of_ble_eq_true rfl) rfl rfl rfl rfl rfl (EV_local rfl rfl rfl rfl ⟨_, rfl, ?_⟩))
  refine EX_cons (EX_self X ⟨by exact rfl, by exact rfl, by exact rfl, by exact rfl⟩ hne (Nat.le_of_ble_eq_true rfl) rfl rfl rfl rfl rfl (EV_local rfl rfl rfl rfl ⟨_, rfl, ?_⟩))
  refine EX_nil ⟨rfl, q a dx _ (((Keeps.refl G).set hdx).set ha) ha (Mem.set_self _ _ _) ?_⟩
  rw [Mem.set_ne _ _ (Ne.symm hne), Mem.set_self]
  exact congrArg some (congrArg AO.ns (by exact rfl))
theorem C_Layout {s f l : AV} (X : Base W (KP W)) (hA : AOk (n + 2) A) (q : ∀ a dx G', Keeps G G' → G a = none → G' a = some (.inst 129 dx) → G' dx = some (.ns [("scripts", s), ("features", f), ("lookups", l)]) → Q (.ref a) G') :
    OL W A Fs G [s, f, l] (fun vs => call (.ref 129) vs) Q := by
  refine CALL_cls (n := n + 1) (f := 119) X hA (by exact rfl) (by exact rfl) (by exact rfl) fun A' a dx hA' ha hdx hne => ?_
  refine CALL_fnC (n := n) (m := [("self", .ref a), ("scripts", s), ("features", f), ("lookups", l)]) (cv := []) X hA' (by exact rfl) rfl rfl rfl rfl rfl rfl rfl (B4 fun s v1 v2 v3 v4 => BindsTo.of_eq rfl) rfl (by decide) rfl rfl ?_
  intro L hL
  refine EX_cons (EX_self X ⟨by exact rfl, by exact rfl, by exact rfl, by exact rfl⟩ hne (Nat.le_of_ble_eq_true rfl) rfl rfl rfl rfl rfl (EV_local rfl rfl rfl rfl ⟨_, rfl, ?_⟩))
  refine EX_cons (EX_self X ⟨by exact rfl, by exact rfl, by exact rfl, by exact rfl⟩ hne (Nat.le_of_ble_eq_true rfl) rfl rfl rfl rfl rfl (EV_local rfl rfl rfl rfl ⟨_, rfl, ?_⟩))
  refine EX_cons (EX_self X ⟨by exact rfl, by exact rfl, by exact rfl, by exact rfl⟩ hne (Nat.le_of_ble_eq_true rfl) rfl rfl rfl rfl rfl (EV_local rfl rfl rfl rfl ⟨_, rfl, ?_⟩))
  refine EX_nil ⟨rfl, q a dx _ (((Keeps.refl G).set hdx).set ha) ha (Mem.set_self _ _ _) ?_⟩
  rw [Mem.set_ne _ _ (Ne.symm hne), Mem.set_self]
  exact congrArg some (congrArg AO.ns (by exact rfl))
theorem C_Script {t d l : AV} (X : Base W (KP W)) (hA : AOk (n + 2) A) (q : ∀ a dx G', Keeps G G' → G a = none → G dx = none → G' a = some (.inst 73 dx) → G' dx = some (.ns [("tag", t), ("default", d), ("languages", l)]) → Q (.ref a) G') :
    OL W A Fs G [t, d, l] (fun vs => call (.ref 73) vs) Q := by
  refine CALL_cls (n := n + 1) (f := 63) X hA (by exact rfl) (by exact rfl) (by exact rfl) fun A' a dx hA' ha hdx hne => ?_
  refine CALL_fnC (n := n) (m := [("self", .ref a), ("tag", t), ("default", d), ("languages", l)]) (cv := []) X hA' (by exact rfl) rfl rfl rfl rfl rfl rfl rfl (B4 fun s v1 v2 v3 v4 => BindsTo.of_eq rfl) rfl (by decide) rfl rfl ?_
  intro L hL
  refine EX_cons (EX_self X ⟨by exact rfl, by exact rfl, by exact rfl, by exact rfl⟩ hne (Nat.le_of_ble_eq_true rfl) rfl rfl rfl rfl rfl (EV_local rfl rfl rfl rfl ⟨_, rfl, ?_⟩))
  refine EX_cons (EX_self X ⟨by exact rfl, by exact rfl, by exact rfl, by exact rfl⟩ hne (Nat.le_of_ble_eq_true rfl) rfl rfl rfl rfl rfl (EV_local rfl rfl rfl rfl ⟨_, rfl, ?_⟩))
  refine EX_cons (EX_self X ⟨by exact rfl, by exact rfl, by exact rfl, by exact rfl⟩ hne (Nat.le_of_ble_eq_true rfl) rfl rfl rfl rfl rfl (EV_local rfl rfl rfl rfl ⟨_, rfl, ?_⟩))
  refine EX_nil ⟨rfl, q a dx _ (((Keeps.refl G).set hdx).set ha) ha hdx (Mem.set_self _ _ _) ?_⟩
  rw [Mem.set_ne _ _ (Ne.symm hne), Mem.set_self]
  exact congrArg some (congrArg AO.ns (by exact rfl))
theorem C_LangSys {t : AV} {b : Addr} {l : List AV} (X : Base W (KP W)) (hA : AOk (n + 2) A) (hb : G b = some (.list l)) (hz : l.length ≤ sizeLine) (q : ∀ a dx c G', Keeps G G' → G a = none → G' a = some (.inst 45 dx) → G' dx = some (.ns [("required", t), ("features", .ref c)]) → G' c = some (.list l) → Q (.ref a) G') :
    OL W A Fs G [t, .ref b] (fun vs => call (.ref 45) vs) Q := by
  refine CALL_cls (n := n + 1) (f := 35) X hA (by exact rfl) (by exact rfl) (by exact rfl) fun A' a dx hA' ha hdx hne => ?_
  refine CALL_fnC (n := n) (m := [("self", .ref a), ("required", t), ("features", .ref b)]) (cv := []) X hA' (by exact rfl) rfl rfl rfl rfl rfl rfl rfl (B3 fun s v1 v2 v3 => BindsTo.of_eq rfl) rfl (by decide) rfl rfl ?_
  intro L hL
  refine EX_cons (EX_self X ⟨by exact rfl, by exact rfl, by exact rfl, by exact rfl⟩ hne (Nat.le_of_ble_eq_true rfl) rfl rfl rfl rfl rfl (EV_local rfl rfl rfl rfl ⟨_, rfl, ?_⟩))
  have hba : b ≠ a := fun e => by rw [e, ha] at hb; cases hb
  have hbd : b ≠ dx := fun e => by rw [e, hdx] at hb; cases hb
  refine EX_cons (EX_self X ⟨by exact rfl, by exact rfl, by exact rfl, by exact rfl⟩ hne (Nat.le_of_ble_eq_true rfl) rfl rfl rfl rfl rfl (EV_callT X (by exact rfl) rfl (by decide) rfl rfl rfl rfl (ES_cons (EV_local rfl rfl rfl rfl (ES_nil (OL_listL (l := l) ?_ hz fun c hc => ⟨G.set c (.list l), ?_, ?_⟩))))))
  · rw [Mem.set_ne _ _ hba, Mem.set_ne _ _ hbd]; exact hb
  · have hca : a ≠ c := fun e => by rw [← e] at hc; exact absurd hc (by rw [Mem.set_self]; simp)
    have hcd : dx ≠ c := fun e => by rw [← e] at hc; exact absurd hc (by rw [Mem.set_ne _ _ (Ne.symm hne), Mem.set_self]; simp)
    show ((G.set dx _).set a _).set c _ = _
    rw [set_comm hca, set_comm hcd]
  · have hca : a ≠ c := fun e => by rw [← e] at hc; exact absurd hc (by rw [Mem.set_self]; simp)
    have hcd : dx ≠ c := fun e => by rw [← e] at hc; exact absurd hc (by rw [Mem.set_ne _ _ (Ne.symm hne), Mem.set_self]; simp)
    have hcG : G c = none := by
      have : ((G.set dx (.ns (setm [] "required" t))).set a (.inst 45 dx)) c = none := hc
      rwa [Mem.set_ne _ _ (Ne.symm hca), Mem.set_ne _ _ (Ne.symm hcd)] at this
    refine EX_nil ⟨rfl, q a dx c _ ((((Keeps.refl G).set hcG).set hdx).set ha) ha (Mem.set_self _ _ _) ?_ ?_⟩
    · rw [Mem.set_ne _ _ (Ne.symm hne), Mem.set_self]
      exact congrArg some (congrArg AO.ns (by exact rfl))
    · rw [Mem.set_ne _ _ (Ne.symm hca), Mem.set_ne _ _ (Ne.symm hcd), Mem.set_self]
theorem C_Feature {t : AV} {b : Addr} {l : List AV} (X : Base W (KP W)) (hA : AOk (n + 2) A) (hb : G b = some (.list l)) (hz : l.length ≤ sizeLine) (q : ∀ a dx c G', Keeps G G' → G a = none → G' a = some (.inst 101 dx) → G' dx = some (.ns [("tag", t), ("lookups", .ref c)]) → G' c = some (.list l) → Q (.ref a) G') :
    OL W A Fs G [t, .ref b] (fun vs => call (.ref 101) vs) Q := by
  refine CALL_cls (n := n + 1) (f := 91) X hA (by exact rfl) (by exact rfl) (by exact rfl) fun A' a dx hA' ha hdx hne => ?_
  refine CALL_fnC (n := n) (m := [("self", .ref a), ("tag", t), ("lookups", .ref b)]) (cv := []) X hA' (by exact rfl) rfl rfl rfl rfl rfl rfl rfl (B3 fun s v1 v2 v3 => BindsTo.of_eq rfl) rfl (by decide) rfl rfl ?_
  intro L hL
  refine EX_cons (EX_self X ⟨by exact rfl, by exact rfl, by exact rfl, by exact rfl⟩ hne (Nat.le_of_ble_eq_true rfl) rfl rfl rfl rfl rfl (EV_local rfl rfl rfl rfl ⟨_, rfl, ?_⟩))
  have hba : b ≠ a := fun e => by rw [e, ha] at hb; cases hb
  have hbd : b ≠ dx := fun e => by rw [e, hdx] at hb; cases hb
  refine EX_cons (EX_self X ⟨by exact rfl, by exact rfl, by exact rfl, by exact rfl⟩ hne (Nat.le_of_ble_eq_true rfl) rfl rfl rfl rfl rfl (EV_callT X (by exact rfl) rfl (by decide) rfl rfl rfl rfl (ES_cons (EV_local rfl rfl rfl rfl (ES_nil (OL_listL (l := l) ?_ hz fun c hc => ⟨G.set c (.list l), ?_, ?_⟩))))))
  · rw [Mem.set_ne _ _ hba, Mem.set_ne _ _ hbd]; exact hb
  · have hca : a ≠ c := fun e => by rw [← e] at hc; exact absurd hc (by rw [Mem.set_self]; simp)
    have hcd : dx ≠ c := fun e => by rw [← e] at hc; exact absurd hc (by rw [Mem.set_ne _ _ (Ne.symm hne), Mem.set_self]; simp)
    show ((G.set dx _).set a _).set c _ = _
    rw [set_comm hca, set_comm hcd]
  · have hca : a ≠ c := fun e => by rw [← e] at hc; exact absurd hc (by rw [Mem.set_self]; simp)
    have hcd : dx ≠ c := fun e => by rw [← e] at hc; exact absurd hc (by rw [Mem.set_ne _ _ (Ne.symm hne), Mem.set_self]; simp)
    have hcG : G c = none := by
      have : ((G.set dx (.ns (setm [] "tag" t))).set a (.inst 101 dx)) c = none := hc
      rwa [Mem.set_ne _ _ (Ne.symm hca), Mem.set_ne _ _ (Ne.symm hcd)] at this
    refine EX_nil ⟨rfl, q a dx c _ ((((Keeps.refl G).set hcG).set hdx).set ha) ha (Mem.set_self _ _ _) ?_ ?_⟩
    · rw [Mem.set_ne _ _ (Ne.symm hne), Mem.set_self]
      exact congrArg some (congrArg AO.ns (by exact rfl))
    · rw [Mem.set_ne _ _ (Ne.symm hca), Mem.set_ne _ _ (Ne.symm hcd), Mem.set_self]
end
end Mine

namespace Mine
def penL (c : Addr) (spot : Nat) (seed : Int) : List AV := [.ref c, .int spot, .int seed]
def PenOk (G : Mem) (p c : Addr) (k : Nat) : Prop := ∃ spot seed l, (G p = some (.list (penL c spot seed)) ∨ G p = some (.wl (penL c spot seed))) ∧ G c = some (.list ((l : List Int).map .int)) ∧ l.length ≤ sizeLine ∧ spot ≤ k
section
variable {W : Wd} {A : Around} {Fs : List FA} {G : Mem} {Q : AV → Mem → Prop} {n : Nat}
theorem O3_set_any {a : Addr} {l : List AV} {k : Int} {v : AV} {R : Mem → Prop} (h : G a = some (.list l) ∨ G a = some (.wl l)) (h0 : 0 ≤ k) (h1 : k < 2 ^ 62) (hk : k < l.length) (q : R (G.set a (.wl (l.set k.toNat v)))) : O3 W A Fs G (.ref a) (.int k) v setItem R := fun s x y z hs ra rb rc => by
  cases ra.refI; obtain ⟨t, rfl⟩ := rb.intI
  obtain ⟨vs, hl, r⟩ := wl_of hs h
  refine wpAny_setItem_list hl h0 (by omega) (by rw [List.size_toArray, r.length]; exact hk) fun h' hl' hsb => ?_
  have kb := hsb.extBut
  have e : (List.toArray vs).setIfInBounds k.toNat z = List.toArray (vs.set k.toNat z) := by simp
  rw [e] at hl'
  rcases h with h | h
  · have nt := (hs.g a _ h).notTup
    exact ⟨_, hs.mut (o' := .wl (l.set k.toNat v)) h kb ⟨vs.set k.toNat z, hl', (VRs.set rc r).keep (keepT_of kb nt)⟩, keepT_of kb nt, q⟩
  · have nt := (hs.g a _ h).notTup
    exact ⟨_, hs.mut (o' := .wl (l.set k.toNat v)) h kb ⟨vs.set k.toNat z, hl', (VRs.set rc r).keep (keepT_of kb nt)⟩, keepT_of kb nt, q⟩
theorem bits_small {k : Nat} (h : k ≤ 1000) : Builtin.Int.intBits (k : Int) ≤ 64 := by
  unfold Builtin.Int.intBits
  split
  · omega
  · rename_i h0
    have hk : k ≠ 0 := by intro e; apply h0; rw [e]; rfl
    have : (k : Int).natAbs.log2 < 63 := by
      rw [Int.natAbs_natCast]
      exact (Nat.log2_lt hk).mpr (by omega)
    omega
theorem C_draw {p c : Addr} {k : Nat} {many : Int} (X : Base W (KP W)) (hA : AOk (n + 1) A) (hp : PenOk G p c k) (hk : k ≤ 1000) (hm : 0 < many) (q : ∀ r G' l, 0 ≤ r → r < many → G' = G.set p (.wl l) → PenOk G' p c (k + 1) → Q (.int r) G') :
    OC W A Fs G [.ref p, .int many] 283 Q := by
  obtain ⟨spot, seed, l, hG, hc, hz, hs⟩ := hp
  refine CALL_fnC (n := n) (m := [("pen", .ref p), ("many", .int many)]) (cv := []) X hA (by exact rfl) rfl rfl rfl rfl rfl rfl rfl (B2 fun s v1 v2 => BindsTo.of_eq rfl) rfl (by decide) rfl rfl ?_
  intro L hL
  show EX _ _ _ _ _ G _ _
  have hpc : c ≠ p := fun e => by
    rw [← e, hc] at hG
    rcases hG with h | h
    · injection h with h; injection h with h
      cases l <;> simp [penL] at h
    · injection h with h; cases h
  refine EX_cons (EX_assign (EV_subL ((EV_local rfl rfl rfl rfl (EV_int ⟨p, _, 1, .int spot, rfl, rfl, hG, by decide, by decide, rfl, (SV_name (SV_local rfl rfl rfl ?_))⟩)))))
  refine EX_cons (EX_assign (EV_binop ((EV_local rfl rfl rfl rfl (EV_int (O2_add_int (SV_sub ((EV_local rfl rfl rfl rfl (EV_int (O3_set_any hG (by decide) (by decide) (by show (1 : Int) < ((3 : Nat) : Int); decide) ?_)))))))))))
  have e1 : (penL c spot seed).set (1 : Int).toNat (.int ((spot : Int) + 1)) = penL c (spot + 1) seed := rfl
  rw [e1]
  generalize hG1 : G.set p (.wl (penL c (spot + 1) seed)) = G1
  have g1 : G1 p = some (.wl (penL c (spot + 1) seed)) := by rw [← hG1]; exact Mem.set_self _ _ _
  have g2 : G1 c = some (.list (l.map .int)) := by rw [← hG1, Mem.set_ne _ _ hpc]; exact hc
  have fin : ∀ r, 0 ≤ r → r < many → Q (.int r) G1 := fun r h1 h2 => q r G1 _ h1 h2 hG1.symm ⟨spot + 1, seed, l, .inr g1, g2, hz, by omega⟩
  refine EX_cons (EX_if (EB_compare ((EV_local rfl rfl rfl rfl (EV_callB X (by exact rfl) rfl (by decide) rfl rfl rfl rfl (ES_cons (EV_subL ((EV_local rfl rfl rfl rfl (EV_int ⟨p, _, 0, .ref c, rfl, rfl, .inr g1, by decide, by decide, rfl, ES_nil (OL_len g2 (by simpa using hz) (O2_lt_int (OB_bool ?_)))⟩))))))))))
  by_cases hlt : (spot : Int) < ((l.map AV.int).length : Nat)
  · rw [decide_eq_true hlt]
    have hlt' : spot < l.length := by simpa using hlt
    refine EX_cons (EX_return (EV_binop (EV_subL (EV_subL ((EV_local rfl rfl rfl rfl (EV_int ⟨p, _, 0, .ref c, rfl, rfl, .inr g1, by decide, by decide, rfl, (EV_local rfl rfl rfl rfl ⟨c, _, spot, .int l[spot], rfl, rfl, .inl g2, by omega, by omega, by simp [hlt'], (EV_local rfl rfl rfl rfl (O2_mod_int (by omega) (fin _ (Int.fmod_nonneg_of_pos _ hm) (Int.fmod_lt_of_pos _ hm))))⟩)⟩)))))))
  · rw [decide_eq_false hlt]
    refine EX_nil ?_
    refine EX_cons (EX_return (EV_binop (EV_binop (EV_binop (EV_subL ((EV_local rfl rfl rfl rfl (EV_int ⟨p, _, 2, .int seed, rfl, rfl, .inr g1, by decide, by decide, rfl, EV_binop (EV_int ((EV_local rfl rfl rfl rfl (O2_mul_int (IntMulOk.of_left (by decide)) (O2_add_int (EV_binop (EV_binop ((EV_local rfl rfl rfl rfl ((EV_local rfl rfl rfl rfl (O2_mul_int (IntMulOk.of_left ?_) (EV_int (O2_floordiv_int (by decide) (PyProof.noPylong_small (by decide)) (O2_add_int ((EV_local rfl rfl rfl rfl (O2_mod_int (by omega) (fin _ (Int.fmod_nonneg_of_pos _ hm) (Int.fmod_lt_of_pos _ hm))))))))))))))))))))⟩))))))))
    exact bits_small (by omega)
end
end Mine

namespace Mine
def Sup (m m0 : List (Str × AV)) : Prop := ∀ x av, m0.lookup x = some av → m.lookup x = some av
theorem Sup.refl (m : List (Str × AV)) : Sup m m := fun _ _ e => e
theorem Sup.nil (m : List (Str × AV)) : Sup m [] := fun _ _ e => nomatch e
theorem Sup.cons {m r : List (Str × AV)} {x : Str} {v : AV} (h : m.lookup x = some v) (k : Sup m r) : Sup m ((x, v) :: r) := fun y av e => by
  simp only [List.lookup] at e
  split at e
  · rename_i hq
    have : y = x := by simpa using hq
    subst this; cases e; exact h
  · exact k y av e
theorem Sup.trans {m m1 m2 : List (Str × AV)} (x : Sup m m1) (y : Sup m1 m2) : Sup m m2 := fun a b e => x a b (y a b e)
section
variable {W : Wd} {A : Around} {Fs : List FA} {G : Mem} {n : Nat} {env : Env} {pos : Pos} {K : Frag}
theorem EB_chain2 {Q : Bool → Mem → Prop} {whole : Sem Value} {l r1 r2 : Expr} {op1 op2 : CmpOp} (x : EV W A Fs G (eval l env) fun a G1 => EV W A Fs G1 (eval r1 env) fun b G2 => O2 W A Fs G2 a b (compareOp op1) fun c G3 => OB W A Fs G3 c truthy fun t G4 =>
      if t then EV W A Fs G4 (eval r2 env) fun d G5 => O2 W A Fs G5 b d (compareOp op2) fun c' G6 => OB W A Fs G6 c' truthy Q else Q false G4)
    (hm : lastMarks [op1, op2] [r1, r2] = false := by with_unfolding_all rfl) : EB W A Fs G (isTrue (.Compare l [op1, op2] [r1, r2] pos) env whole) Q := fun s hs =>
  isTrue_chain (noE (x s hs) fun a s1 ⟨av, G1, hs1, k1, ra, x1⟩ => test_link (noE (x1 s1 hs1) fun b s2 ⟨bv, G2, hs2, k2, rb, x2⟩ => noE (x2 s2 a b hs2 (ra.keep k2) rb) fun c s3 ⟨cv, G3, hs3, k3, rc, x3⟩ => noE (x3 s3 c hs3 rc) fun t s4 ⟨G4, hs4, k4, x4⟩ => by
    cases t with
    | false => exact ⟨G4, hs4, k1.trans (k2.trans (k3.trans k4)), x4⟩
    | true =>
      simp only [if_true] at x4 ⊢
      exact test_last (noE (x4 s4 hs4) fun d s5 ⟨dv, G5, hs5, k5, rd, x5⟩ => noE (x5 s5 b d hs5 (rb.keep (k3.trans (k4.trans k5))) rd) fun c' s6 ⟨cv', G6, hs6, k6, rc', x6⟩ => noE (x6 s6 c' hs6 rc') fun _ _ y =>
        y.up (k1.trans (k2.trans (k3.trans (k4.trans (k5.trans k6)))))))) hm

abbrev LoopQ (Q : AF → List (Str × AV) → Mem → Prop) (m0 : List (Str × AV)) (G : Mem) (J : Mem → Prop) : AF → List (Str × AV) → Mem → Prop := fun af m'' G'' => match af with
  | .ret v => Q (.ret v) m'' G''
  | .brk => Q .next m'' G''
  | _ => KeepIt G G'' ∧ Sup m'' m0 ∧ J G''
inductive ForOk (W : Wd) (A : Around) (L : Addr) (m m0 : List (Str × AV)) (Fs : List FA) (env : Env) (target : Expr) (body : List Stmt) (Q : AF → List (Str × AV) → Mem → Prop) (G1 : Mem) (x : AV) : Prop
  | mk (Inv : Nat → Mem → Prop) (items : List AV) (ok : Mem → Prop) (mono : ∀ {i G G'}, Inv i G → Sub [] G G' → Inv i G') (it : IT W A (⟨L, m⟩ :: Fs) G1 x items ok) (hok : ∀ i G, Inv i G → ok G) (h0 : Inv 0 G1)
      (turn : ∀ i x G, items[i]? = some x → Inv i G → KeepIt G1 G → SV W A L m0 Fs G x (assign target env) fun m' G' => EX W A L m' Fs G' (execs body env) (LoopQ Q m0 G (Inv (i + 1))))
      (done : ∀ m G, Sup m m0 → Inv items.length G → KeepIt G1 G → Q .next m G) : ForOk W A L m m0 Fs env target body Q G1 x
theorem EX_forSI {L : Addr} {m m0 : List (Str × AV)} {Q : AF → List (Str × AV) → Mem → Prop} {target iter : Expr} {body : List Stmt} (hsup : Sup m m0)
    (h : EV W A (⟨L, m⟩ :: Fs) G (eval iter env) fun x G1 => ForOk W A L m m0 Fs env target body Q G1 x)
    (hs : ∀ x, foldedSetIterable iter env x = pure x := by intro _; rfl) : EX W A L m Fs G (exec (.For target iter body [] pos) env) Q :=
  EX_forI (h.mono fun x G1 ⟨Inv, items, ok, mono, h1, h2, h3, h4, h5⟩ => ⟨fun i m G => Sup m m0 ∧ Inv i G, items, ok, fun h k => ⟨h.1, mono h.2 k⟩, h1, fun i m G h => h2 i G h.2, ⟨hsup, h3⟩,
    fun i x m G hi hI hkt s a hs r => noE (h4 i x G hi hI.2 hkt s a (hs.weaken hI.1) r) fun _ s' ⟨m', G', e1, e2, e3⟩ => ⟨m', G', e1, e2, e3.mono fun af m'' G'' z => by
      cases af with
      | next => exact ⟨z.1, z.2.1, z.2.2⟩
      | cont => exact ⟨z.1, z.2.1, z.2.2⟩
      | brk => exact z
      | ret v => exact z⟩,
    fun m G hI k => h5 m G hI.1 hI.2 k⟩) hs
theorem EX_forS {L : Addr} {m m0 : List (Str × AV)} {Q : AF → List (Str × AV) → Mem → Prop} {target iter : Expr} {body : List Stmt} (Inv : Nat → Mem → Prop) (mono : ∀ {i G G'}, Inv i G → Sub [] G G' → Inv i G') (hsup : Sup m m0)
    (h : EV W A (⟨L, m⟩ :: Fs) G (eval iter env) fun x G1 => ∃ items ok, IT W A (⟨L, m⟩ :: Fs) G1 x items ok ∧ (∀ i G, Inv i G → ok G) ∧ Inv 0 G1 ∧
      (∀ i x G, items[i]? = some x → Inv i G → KeepIt G1 G → SV W A L m0 Fs G x (assign target env) fun m' G' => EX W A L m' Fs G' (execs body env) fun af m'' G'' => match af with
        | .ret v => Q (.ret v) m'' G''
        | .brk => Q .next m'' G''
        | _ => KeepIt G G'' ∧ Sup m'' m0 ∧ Inv (i + 1) G'') ∧
      ∀ m G, Sup m m0 → Inv items.length G → KeepIt G1 G → Q .next m G)
    (hs : ∀ x, foldedSetIterable iter env x = pure x := by intro _; rfl) : EX W A L m Fs G (exec (.For target iter body [] pos) env) Q :=
  EX_forSI hsup (h.mono fun x G1 ⟨items, ok, h1, h2, h3, h4, h5⟩ => ⟨Inv, items, ok, mono, h1, h2, h3, h4, h5⟩) hs

theorem OC.mono {xs : List AV} {f : Addr} {Q Q' : AV → Mem → Prop} (x : OC W A Fs G xs f Q) (k : ∀ a g, Q a g → Q' a g) : OC W A Fs G xs f Q' := fun s vs hs r => codeAny_mono (x s vs hs r) fun r s' z => by
  rcases r with e | (v | _ | _ | _) <;> first | exact z | skip
  obtain ⟨av, G', a, b, c, d⟩ := z
  exact ⟨av, G', a, b, c, k _ _ d⟩
end

def LSysAt (G : Mem) (a : Addr) (fs : List Int) : Prop := ∃ dx c, G a = some (.inst 45 dx) ∧ G dx = some (.ns [("required", .int (-1)), ("features", .ref c)]) ∧ G c = some (.list (fs.map .int))
def FeatAt (G : Mem) (a : Addr) (t : Str) (ns : List Int) : Prop := ∃ dx c, G a = some (.inst 101 dx) ∧ G dx = some (.ns [("tag", .str t), ("lookups", .ref c)]) ∧ G c = some (.list (ns.map .int))
def LayAt (G : Mem) (a sd fl ll : Addr) : Prop := ∃ dx, G a = some (.inst 129 dx) ∧ G dx = some (.ns [("scripts", .ref sd), ("features", .ref fl), ("lookups", .ref ll)])
def ScrAt (G : Mem) (a : Addr) (t : Str) (d : AV) (ld : Addr) : Prop := ∃ dx, G a = some (.inst 73 dx) ∧ G dx = some (.ns [("tag", .str t), ("default", d), ("languages", .ref ld)])
def FeatsAt (G : Mem) (l : List AV) (R : List (Str × List Int)) : Prop := All2 (fun av r => ∃ f, av = .ref f ∧ FeatAt G f r.1 r.2) l R
theorem LSysAt.sub {G G' : Mem} {a : Addr} {fs : List Int} (k : Sub [] G G') (h : LSysAt G a fs) : LSysAt G' a fs := let ⟨dx, c, h1, h2, h3⟩ := h; ⟨dx, c, k _ _ h1 rfl (by simp), k _ _ h2 rfl (by simp), k _ _ h3 rfl (by simp)⟩
theorem FeatAt.sub {G G' : Mem} {a : Addr} {t : Str} {fs : List Int} (k : Sub [] G G') (h : FeatAt G a t fs) : FeatAt G' a t fs := let ⟨dx, c, h1, h2, h3⟩ := h; ⟨dx, c, k _ _ h1 rfl (by simp), k _ _ h2 rfl (by simp), k _ _ h3 rfl (by simp)⟩
theorem LayAt.sub {G G' : Mem} {a sd fl ll : Addr} (k : Sub [] G G') (h : LayAt G a sd fl ll) : LayAt G' a sd fl ll := let ⟨dx, h1, h2⟩ := h; ⟨dx, k _ _ h1 rfl (by simp), k _ _ h2 rfl (by simp)⟩
theorem ScrAt.sub {G G' : Mem} {a ld : Addr} {t : Str} {d : AV} (k : Sub [] G G') (h : ScrAt G a t d ld) : ScrAt G' a t d ld := let ⟨dx, h1, h2⟩ := h; ⟨dx, k _ _ h1 rfl (by simp), k _ _ h2 rfl (by simp)⟩
theorem FeatsAt.sub {G G' : Mem} {l : List AV} {R : List (Str × List Int)} (k : Sub [] G G') (h : FeatsAt G l R) : FeatsAt G' l R := h.mono fun av r ⟨f, e, h⟩ => ⟨f, e, h.sub k⟩

section
variable {W : Wd} {A : Around} {Fs : List FA} {G : Mem} {Q : AV → Mem → Prop} {n : Nat}
theorem C_choose_langsys {a ld : Addr} {t u : Str} {d : AV} {kvs : List (Str × AV)} {e : Nat} (X : Base W (KP W)) (hA : AOk (n + 1) A) (hS : ScrAt G a t d ld) (hl : G ld = some (.dS kvs e)) (q : Q ((aget kvs u).getD d) G) : OC W A Fs G [.ref a, .str u] 179 Q := by
  obtain ⟨dx, h1, h2⟩ := hS
  refine CALL_fnC (n := n) (m := [("script", .ref a), ("tag", .str u)]) (cv := []) X hA (by exact rfl) rfl rfl rfl rfl rfl rfl rfl (B2 fun s v1 v2 => BindsTo.of_eq rfl) rfl (by decide) rfl rfl ?_
  intro L hL
  show EX _ _ _ _ _ G _ _
  refine EX_cons (EX_if (EB_compare ((EV_local rfl rfl rfl rfl (EV_none (O2_is_none (OB_bool (EX_nil ?_))))))))
  exact EX_cons (EX_return (EV_method "dict" "dict.get" F.plainAttrs_dict F.slot_dict_get F.type_dict_get (EV_attr X ((EV_local rfl rfl rfl rfl ⟨a, 73, dx, _, .ref ld, rfl, h1, h2, (⟨by exact rfl, by exact rfl, by exact rfl⟩ : PlainAttr _ _ _), rfl, TyIs.dS hl, ES_cons ((EV_local rfl rfl rfl rfl (ES_cons (EV_attr X ((EV_local rfl rfl rfl rfl ⟨a, 73, dx, _, d, rfl, h1, h2, (⟨by exact rfl, by exact rfl, by exact rfl⟩ : PlainAttr _ _ _), rfl, ES_nil (OL_get2_dS hl q)⟩))))))⟩)))))
theorem C_feature_at {a sd fl ll : Addr} {k : Int} {l : List AV} (X : Base W (KP W)) (hA : AOk (n + 1) A) (hL : LayAt G a sd fl ll) (hf : G fl = some (.list l)) (hz : l.length ≤ sizeLine) (q1 : ∀ av, 0 ≤ k → l[k.toNat]? = some av → Q av G) (q2 : ¬ (0 ≤ k ∧ k < l.length) → Q .none G) :
    OC W A Fs G [.ref a, .int k] 186 Q := by
  obtain ⟨dx, h1, h2⟩ := hL
  refine CALL_fnC (n := n) (m := [("layout", .ref a), ("number", .int k)]) (cv := []) X hA (by exact rfl) rfl rfl rfl rfl rfl rfl rfl (B2 fun s v1 v2 => BindsTo.of_eq rfl) rfl (by decide) rfl rfl ?_
  intro L hL
  show EX _ _ _ _ _ G _ _
  refine EX_cons (EX_if (EB_chain2 (EV_int ((EV_local rfl rfl rfl rfl (O2_le_int (OB_bool ?_)))))))
  by_cases h0 : 0 ≤ k
  · rw [decide_eq_true h0]
    refine EV_callB X (by exact rfl) rfl (by decide) rfl rfl rfl rfl (ES_cons (EV_attr X ((EV_local rfl rfl rfl rfl ⟨a, 129, dx, _, .ref fl, rfl, h1, h2, (⟨by exact rfl, by exact rfl, by exact rfl⟩ : PlainAttr _ _ _), rfl, ES_nil (OL_len hf hz (O2_lt_int (OB_bool ?_)))⟩))))
    by_cases hlt : k < l.length
    · rw [decide_eq_true hlt]
      have hlt' : k.toNat < l.length := by omega
      rw [sizeLine_eq] at hz
      refine EX_cons (EX_return (EV_subL (EV_attr X ((EV_local rfl rfl rfl rfl ⟨a, 129, dx, _, .ref fl, rfl, h1, h2, (⟨by exact rfl, by exact rfl, by exact rfl⟩ : PlainAttr _ _ _), rfl, (EV_local rfl rfl rfl rfl ⟨fl, l, k, l[k.toNat], rfl, rfl, .inl hf, h0, by omega, List.getElem?_eq_getElem hlt', q1 _ h0 (List.getElem?_eq_getElem hlt')⟩)⟩)))))
    · rw [decide_eq_false hlt]
      exact EX_nil (EX_cons (EX_return (EV_none (q2 fun h => hlt h.2))))
  · rw [decide_eq_false h0]
    exact EX_nil (EX_cons (EX_return (EV_none (q2 fun h => h0 h.1))))
end
end Mine

namespace Mine
def LsOk (G : Mem) (lv : AV) (fs : List Int) : Prop := (lv = .none ∧ fs = []) ∨ ∃ a, lv = .ref a ∧ LSysAt G a fs
theorem LsOk.sub {G G' : Mem} {lv : AV} {fs : List Int} (k : Sub [] G G') (h : LsOk G lv fs) : LsOk G' lv fs := h.elim .inl fun ⟨a, e, h⟩ => .inr ⟨a, e, h.sub k⟩
def tagAt (R : List (Str × List Int)) (k : Int) : Option Str := (R[k.toNat]?).map (·.1)
def withTag (R : List (Str × List Int)) (t : Str) (fs : List Int) : List Int := fs.filter fun k => tagAt R k == some t
section
variable {W : Wd} {A : Around} {Fs : List FA} {G : Mem} {Q : AV → Mem → Prop} {n : Nat}
theorem C_required {lay sd fl ll : Addr} {lv : AV} {fs : List Int} {l : List AV} (X : Base W (KP W)) (hA : AOk (n + 2) A) (hL : LayAt G lay sd fl ll) (hf : G fl = some (.list l)) (hz : l.length ≤ sizeLine) (hl : LsOk G lv fs) (q : Q .none G) : OC W A Fs G [.ref lay, lv] 193 Q := by
  refine CALL_fnC (n := n + 1) (m := [("layout", .ref lay), ("langsys", lv)]) (cv := []) X hA (by exact rfl) rfl rfl rfl rfl rfl rfl rfl (B2 fun s v1 v2 => BindsTo.of_eq rfl) rfl (by decide) rfl rfl ?_
  intro L hL0
  show EX _ _ _ _ _ G _ _
  have hA' := hA.deeper (n := n + 1)
  refine EX_cons (EX_if (EB_compare ((EV_local rfl rfl rfl rfl (EV_none (O2_is_none (OB_bool ?_)))))))
  rcases hl with ⟨rfl, rfl⟩ | ⟨a, rfl, dx, c, h1, h2, h3⟩
  · exact EX_cons (EX_return (EV_none q))
  · refine EX_nil (EX_cons (EX_return (EV_call X (by exact rfl) rfl rfl rfl rfl (ES_cons ((EV_local rfl rfl rfl rfl (ES_cons (EV_attr X ((EV_local rfl rfl rfl rfl ⟨a, 45, dx, _, .int (-1), rfl, h1, h2, (⟨by exact rfl, by exact rfl, by exact rfl⟩ : PlainAttr _ _ _), rfl, ES_nil (OC.ol (C_feature_at X (hA' _) hL hf hz (fun av h _ => absurd h (by decide)) fun _ => q))⟩))))))))))

theorem C_feature_indexes {lay sd fl ll : Addr} {lv : AV} {fs : List Int} {l : List AV} {t : Str} {R : List (Str × List Int)} (X : Base W (KP W)) (hA : AOk (n + 2) A) (hL : LayAt G lay sd fl ll) (hf : G fl = some (.list l)) (hR : FeatsAt G l R) (hz : l.length ≤ 1000) (hl : LsOk G lv fs) (hfz : fs.length ≤ 1000)
    (hfs : ∀ k ∈ fs, 0 ≤ k ∧ k < R.length) (q : ∀ b G', Ex [] G G' → G' b = some (.list ((withTag R t fs).map .int)) → Q (.ref b) G') : OC W A Fs G [.ref lay, lv, .str t] 200 Q := by
  refine CALL_fnC (n := n + 1) (m := [("layout", .ref lay), ("langsys", lv), ("tag", .str t)]) (cv := []) X hA (by exact rfl) rfl rfl rfl rfl rfl rfl rfl (B3 fun s v1 v2 v3 => BindsTo.of_eq rfl) rfl (by decide) rfl rfl ?_
  intro L hL0
  show EX _ _ _ _ _ G _ _
  have hA' := hA.deeper (n := n + 1)
  refine EX_cons (EX_assign (EV_list (ES_nil ⟨Nat.zero_le _, fun b hb => (SV_name (SV_local rfl rfl rfl ?_))⟩)))
  have hk : Keeps G (G.set b (.list [])) := (Keeps.refl G).set hb
  refine EX_cons (EX_if (EB_compare ((EV_local rfl rfl rfl rfl (EV_none (O2_isnot_none (OB_bool ?_)))))))
  rcases hl with ⟨rfl, rfl⟩ | ⟨a, rfl, hls⟩
  · exact EX_nil (EX_cons (EX_return ((EV_local rfl rfl rfl rfl (q b _ hk.ex (Mem.set_self _ _ _))))))
  · obtain ⟨dx, c, h1, h2, h3⟩ := hls
    generalize hG1 : G.set b (.list []) = G1 at *
    have hb1 : G1 b = some (.list []) := by rw [← hG1]; exact Mem.set_self _ _ _
    have hcb : c ≠ b := fun e => by rw [e, hb] at h3; cases h3
    have key : ∀ {G2 : Mem}, Sub [b] G1 G2 → Sub [] G G2 := fun h a o e r _ => h a o (hk a o e) r (by
      rw [List.mem_singleton]; intro e2; rw [e2, hb] at e; cases e)
    refine EX_cons (EX_forS (fun i G2 => Sub [b] G1 G2 ∧ G2 b = some (.list ((withTag R t (fs.take i)).map .int))) (fun h k => ⟨h.1.trans (k.up (by simp)), k _ _ h.2 rfl (by simp)⟩) (Sup.refl _)
      (EV_attr X ((EV_local rfl rfl rfl rfl ⟨a, 45, dx, _, .ref c, rfl, hk _ _ h1, hk _ _ h2, (⟨by exact rfl, by exact rfl, by exact rfl⟩ : PlainAttr _ _ _), rfl, fs.map .int, _, IT_list (hA' _).h (hk _ _ h3), fun i G2 h => h.1 _ _ (hk _ _ h3) rfl (by simpa using hcb), ⟨Sub.refl _ _, by simpa [withTag] using hb1⟩, ?turn, ?done⟩))))
    case turn =>
      rintro i x G2 hi ⟨hs, hG2⟩ hkt
      obtain ⟨k, hk1, rfl⟩ : ∃ k, fs[i]? = some k ∧ x = .int k := by
        rw [List.getElem?_map] at hi
        obtain ⟨k, e1, e2⟩ := Option.map_eq_some_iff.mp hi
        exact ⟨k, e1, e2.symm⟩
      obtain ⟨hk0, hk2⟩ := hfs k (List.mem_of_getElem? hk1)
      have sG := key hs
      have htake : withTag R t (fs.take (i + 1)) = withTag R t (fs.take i) ++ (if tagAt R k == some t then [k] else []) := by
        unfold withTag
        rw [List.take_add_one, hk1, List.filter_append]
        simp only [Option.toList, List.filter_cons, List.filter_nil]
      refine (SV_name (SV_local rfl rfl rfl ?_))
      refine EX_cons (EX_assign (EV_call X (by exact rfl) rfl rfl rfl rfl (ES_cons ((EV_local rfl rfl rfl rfl (ES_cons ((EV_local rfl rfl rfl rfl (ES_nil (OC.ol (C_feature_at X (hA' _) (hL.sub sG) (sG _ _ hf rfl (by simp)) (by rw [sizeLine_eq]; omega) (fun av _ hav => (SV_name (SV_local rfl rfl rfl ?_))) fun hno => absurd ⟨hk0, by rw [hR.length]; exact hk2⟩ hno)))))))))))
      obtain ⟨r, hr, f, rfl, hF⟩ := hR.get hav
      obtain ⟨dx', c', f1, f2, f3⟩ := hF.sub sG
      have htag : tagAt R k = some r.1 := by unfold tagAt; rw [hr]; rfl
      refine EX_cons (EX_if (EB_and (EB_compare ((EV_local rfl rfl rfl rfl (EV_none (O2_isnot_none (OB_bool (EB_and (EB_compare (EV_attr X ((EV_local rfl rfl rfl rfl ⟨f, 101, dx', _, .str r.1, rfl, f1, f2, (⟨by exact rfl, by exact rfl, by exact rfl⟩ : PlainAttr _ _ _), rfl, (EV_local rfl rfl rfl rfl (O2_eq_str (OB_bool ?_)))⟩)))))))))))))
      rw [htag] at htake
      by_cases hq : r.1 = t
      · have : (r.1 == t) = true := by simpa using hq
        rw [this]
        refine EB_and_nil ?_
        rw [show (some r.1 == some t) = true by simpa using hq] at htake
        have hlen : (withTag R t (fs.take i)).length ≤ 1000 := Nat.le_trans (List.length_filter_le _ _) (Nat.le_trans (by simp; omega) hfz)
        refine EX_cons (EX_expr (EV_method "list" "list.append" F.plainAttrs_list F.slot_list_append F.type_list_append ((EV_local rfl rfl rfl rfl ⟨TyIs.list hG2, ES_cons ((EV_local rfl rfl rfl rfl (ES_nil (OL_append hG2 (by rw [sizeLine_eq]; simp; omega) ?_))))⟩))))
        refine EX_nil (EX_nil ⟨(show Ex [b] G2 _ from Ex.set hG2 rfl (by simp)).its, by (focus (repeat (first | exact Sup.refl _ | exact Sup.nil _ | refine Sup.cons (by exact rfl) ?_))), hs.trans (Sub.set (by simp)), ?_⟩)
        rw [Mem.set_self, htake]; simp
      · have : (r.1 == t) = false := by simpa using hq
        rw [this]
        rw [show (some r.1 == some t) = false by simpa using hq] at htake
        refine EX_nil (EX_nil ⟨KeepIt.refl _, by (focus (repeat (first | exact Sup.refl _ | exact Sup.nil _ | refine Sup.cons (by exact rfl) ?_))), hs, ?_⟩)
        rw [htake]; simpa using hG2
    case done =>
      rintro m G2 hm ⟨hs, hG2⟩ hkeep
      refine EX_nil ?_
      refine EX.weaken (EX_cons (EX_return ((EV_local rfl rfl rfl rfl (q b G2 ⟨key hs, fun a o e r => hkeep a o (hk a o e) r⟩ ?_))))) hm
      rw [hG2]; simp
end
end Mine

namespace Mine
abbrev MK := List (Int × Nat)
def mget (mk : MK) (k : Int) : Option Nat := (mk.find? fun p => decide (p.1 = k)).map (·.2)
def mput (mk : MK) (k : Int) (n : Nat) : MK := if mk.any (fun p => decide (p.1 = k)) then mk.map (fun p => if p.1 = k then (p.1, n) else p) else mk ++ [(k, n)]
def toK (mk : MK) : List (Int × AV) := mk.map fun p => (p.1, .int p.2)
def mor (m : Nat) (mk : MK) (k : Int) : MK := mput mk k ((mget mk k).getD 0 ||| m)
def addAll (m : Nat) (mk : MK) (ns : List Int) : MK := ns.foldl (mor m) mk
theorem aget_toK (mk : MK) (k : Int) : aget (toK mk) k = (mget mk k).map fun n => .int n := by
  unfold aget mget toK
  induction mk with
  | nil => rfl
  | cons p r ih =>
    simp only [List.map_cons, List.find?_cons]
    by_cases h : p.1 = k
    · simp [h]
    · simp only [h, decide_false]; exact ih
theorem aset_toK (mk : MK) (k : Int) (n : Nat) : aset (toK mk) k (.int n) = toK (mput mk k n) := by
  unfold aset mput toK
  have e : (mk.map fun p => (p.1, AV.int (p.2 : Int))).any (fun p => decide (p.1 = k)) = mk.any (fun p => decide (p.1 = k)) := by
    rw [List.any_map]; rfl
  rw [e]
  split
  · rw [List.map_map, List.map_map]
    apply List.map_congr_left
    intro p _
    simp only [Function.comp]
    split <;> rfl
  · simp
theorem bitOr_nat (a b : Nat) : Builtin.bitOr (a : Int) (b : Int) = ((a ||| b : Nat) : Int) := by
  unfold Builtin.bitOr Builtin.bitAnd
  have h1 : decide ((0 : Int) ≤ Builtin.bitNot a) = false := decide_eq_false (by unfold Builtin.bitNot; omega)
  have h2 : decide ((0 : Int) ≤ Builtin.bitNot b) = false := decide_eq_false (by unfold Builtin.bitNot; omega)
  rw [h1, h2]
  dsimp only
  have e1 : (Builtin.bitNot (Builtin.bitNot (a : Int))).toNat = a := by unfold Builtin.bitNot; omega
  have e2 : (Builtin.bitNot (Builtin.bitNot (b : Int))).toNat = b := by unfold Builtin.bitNot; omega
  rw [e1, e2]
  unfold Builtin.bitNot
  omega
theorem mput_length (mk : MK) (k : Int) (n : Nat) : (mput mk k n).length ≤ mk.length + 1 := by
  unfold mput; split <;> simp
theorem addAll_length (m : Nat) : ∀ (ns : List Int) (mk : MK), (addAll m mk ns).length ≤ mk.length + ns.length
  | [], _ => Nat.le_refl _
  | k :: ns, mk => by
    have h1 := addAll_length m ns (mor m mk k)
    have h2 := mput_length mk k ((mget mk k).getD 0 ||| m)
    have e : addAll m mk (k :: ns) = addAll m (mor m mk k) ns := rfl
    have h3 : (mor m mk k).length ≤ mk.length + 1 := h2
    rw [e, List.length_cons]
    omega
section
variable {W : Wd} {A : Around} {Fs : List FA} {G : Mem} {Q : AV → Mem → Prop} {n : Nat}
theorem mor_get (mk : MK) (k : Int) : (aget (toK mk) k).getD (.int 0) = .int (((mget mk k).getD 0 : Nat) : Int) := by
  rw [aget_toK]; cases mget mk k <;> rfl
theorem C_add_lookups {mm lay sd fl ll f : Addr} {mk : MK} {e : Nat} {t : Str} {ns : List Int} {m : Nat} {lv : List AV} (X : Base W (KP W)) (hA : AOk (n + 1) A) (hM : G mm = some (.dI (toK mk) e)) (hL : LayAt G lay sd fl ll) (hl : G ll = some (.list lv)) (hl3 : lv.length = 3)
    (hF : FeatAt G f t ns) (hn : ∀ k ∈ ns, Low k) (hz : mk.length + ns.length ≤ 1000) (q : ∀ G' e', Ex [mm] G G' → G' mm = some (.dI (toK (addAll m mk ns)) e') → Q .none G') :
    OC W A Fs G [.ref mm, .ref lay, .ref f, .int m] 207 Q := by
  refine CALL_fnC (n := n) (m := [("masks", .ref mm), ("layout", .ref lay), ("feature", .ref f), ("mask", .int m)]) (cv := []) X hA (by exact rfl) rfl rfl rfl rfl rfl rfl rfl (B4 fun s v1 v2 v3 v4 => BindsTo.of_eq rfl) rfl (by decide) rfl rfl ?_
  intro L hL0
  show EX _ _ _ _ _ G _ _
  have hA' := hA.deeper (n := n)
  obtain ⟨dx, c, f1, f2, f3⟩ := hF
  obtain ⟨dy, y1, y2⟩ := hL
  have ne : ∀ {a : Addr} {o : AO}, G a = some o → (∀ k e, o ≠ .dI k e) → a ≠ mm := fun h h2 e' => by rw [e', hM] at h; cases h; exact h2 _ _ rfl
  refine EX_cons (EX_forS (fun i G2 => Sub [mm] G G2 ∧ ∃ e', G2 mm = some (.dI (toK (addAll m mk (ns.take i))) e')) (fun h k => ⟨h.1.trans (k.up (by simp)), let ⟨e', h'⟩ := h.2; ⟨e', k _ _ h' rfl (by simp)⟩⟩) (Sup.refl _)
    (EV_attr X ((EV_local rfl rfl rfl rfl ⟨f, 101, dx, _, .ref c, rfl, f1, f2, (⟨by exact rfl, by exact rfl, by exact rfl⟩ : PlainAttr _ _ _), rfl, ns.map .int, _, IT_list (hA' _).h f3, fun i G2 h => h.1 _ _ f3 rfl (by simpa using ne f3 (by simp)), ⟨Sub.refl _ _, e, hM⟩, ?turn, ?done⟩))))
  case turn =>
    rintro i x G2 hi ⟨hs, e', hG2⟩ hkt
    obtain ⟨k, hk1, rfl⟩ : ∃ k, ns[i]? = some k ∧ x = .int k := by
      rw [List.getElem?_map] at hi
      obtain ⟨k, e1, e2⟩ := Option.map_eq_some_iff.mp hi
      exact ⟨k, e1, e2.symm⟩
    have hlow := hn k (List.mem_of_getElem? hk1)
    have htake : addAll m mk (ns.take (i + 1)) = mor m (addAll m mk (ns.take i)) k := by
      unfold addAll
      rw [List.take_add_one, hk1, List.foldl_append]; rfl
    have hlen : (addAll m mk (ns.take i)).length ≤ 1000 := Nat.le_trans (addAll_length m _ _) (Nat.le_trans (Nat.add_le_add_left (by simp; omega) _) hz)
    refine (SV_name (SV_local rfl rfl rfl ?_))
    refine EX_cons (EX_if (EB_compare ((EV_local rfl rfl rfl rfl (EV_callB X (by exact rfl) rfl (by decide) rfl rfl rfl rfl (ES_cons (EV_attr X ((EV_local rfl rfl rfl rfl ⟨lay, 129, dy, _, .ref ll, rfl, hs _ _ y1 rfl (by simpa using ne y1 (by simp)), hs _ _ y2 rfl (by simpa using ne y2 (by simp)), (⟨by exact rfl, by exact rfl, by exact rfl⟩ : PlainAttr _ _ _), rfl, ES_nil (OL_len (hs _ _ hl rfl (by simpa using ne hl (by simp))) (by rw [hl3, sizeLine_eq]; omega) (O2_lt_int (OB_bool ?_)))⟩)))))))))
    rw [show decide (k < ((lv.length : Nat) : Int)) = true from decide_eq_true (by rw [hl3]; rcases hlow with rfl | rfl | rfl <;> decide)]
    refine EX_cons (EX_assign (EV_binop (EV_method "dict" "dict.get" F.plainAttrs_dict F.slot_dict_get F.type_dict_get ((EV_local rfl rfl rfl rfl ⟨TyIs.dI hG2, ES_cons ((EV_local rfl rfl rfl rfl (ES_cons (EV_int (ES_nil (OL_get1_dI hG2 ?_))))))⟩)))))
    rw [mor_get]
    refine (EV_local rfl rfl rfl rfl (O2_or_int (SV_sub ((EV_local rfl rfl rfl rfl ((EV_local rfl rfl rfl rfl (O3_set_dI hG2 (by rw [sizeLine_eq]; simp [toK]; omega) fun e2 => EX_nil (EX_nil ⟨(show Ex [mm] G2 _ from Ex.set hG2 rfl (by simp)).its, by (focus (repeat (first | exact Sup.refl _ | exact Sup.nil _ | refine Sup.cons (by exact rfl) ?_))), hs.trans (Sub.set (by simp)), e2, ?_⟩)))))))))
    rw [Mem.set_self, bitOr_nat, aset_toK, htake]; rfl
  case done =>
    rintro m2 G2 hm ⟨hs, e', hG2⟩ hkeep
    refine EX_nil (q G2 e' ⟨hs, hkeep⟩ ?_)
    rw [hG2]; simp
end
end Mine

namespace Mine
section
variable {W : Wd} {A : Around} {Fs : List FA} {G : Mem} {Q : AV → Mem → Prop} {n : Nat} {K : Frag} {env : Env} {pos : Pos}
theorem EV_globTup {x : Str} {a : Addr} {o : Obj} {vs : List Value} {k : Nat} {avs : List AV} (X : Base W K) (e : nsIn K mainGlobals x = some (some (.ref a))) (hk : env.scope.kind = .function) (hx : env.kindOf x = some .globalImplicit) (hg : env.globals = mainGlobals)
    (ho : K.lookup a = some o) (hc : o.cls = .type "tuple") (hd : o.data = .seq (List.toArray vs) k) (hr : ∀ h, VRs h vs avs) (q : Q (.tup avs) G) (hdb : (x == ("__debug__" : Str)) = false := by decide) : EV W A Fs G (eval (.Name x pos) env) Q := fun s hs =>
  glob_name X hs hk hx hg e ⟨_, G, hs, .refl _, .tup (X.inH hs _ _ ho) hc hd (hr _), q⟩ hdb
def firstIn (kvs : List (Str × AV)) : List Str → Option AV
  | [] => none
  | t :: r => match aget kvs t with
    | some v => some v
    | none => firstIn kvs r
end
section
variable {W : Wd} {A : Around} {Fs : List FA} {G : Mem} {Q : AV → Mem → Prop} {n : Nat}
theorem C_choose_script {lay sd fl ll tl : Addr} {w : Str} {kvs : List (Str × AV)} {e : Nat} (X : Base W (KP W)) (hA : AOk (n + 1) A) (hL : LayAt G lay sd fl ll) (hs : G sd = some (.dS kvs e)) (ht : G tl = some (.list [.str w]))
    (q : ∀ G', Ex [] G G' → Q ((firstIn kvs [w, "DFLT", "dflt", "latn"]).getD .none) G') : OC W A Fs G [.ref lay, .ref tl] 172 Q := by
  refine CALL_fnC (n := n) (m := [("layout", .ref lay), ("tags", .ref tl)]) (cv := []) X hA (by exact rfl) rfl rfl rfl rfl rfl rfl rfl (B2 fun s v1 v2 => BindsTo.of_eq rfl) rfl (by decide) rfl rfl ?_
  intro L hL0
  show EX _ _ _ _ _ G _ _
  have hA' := hA.deeper (n := n)
  obtain ⟨dx, y1, y2⟩ := hL
  refine EX_cons (EX_forSI (Sup.refl _)
    (EV_binop (EV_callT X (by exact rfl) rfl (by decide) rfl rfl rfl rfl (ES_cons ((EV_local rfl rfl rfl rfl (ES_nil (OL_listL ht (by rw [sizeLine_eq]; simp) fun b1 hb1 => EV_callT X (by exact rfl) rfl (by decide) rfl rfl rfl rfl (ES_cons (EV_globTup X (by exact rfl) rfl rfl rfl (by exact rfl) rfl (by exact rfl) (fun h => .cons (.str _ _) (.cons (.str _ _) (.cons (.str _ _) .nil))) (ES_nil (OL_listT (by rw [sizeLine_eq]; simp) fun b2 hb2 =>
      O2_add_list (l := [.str w]) (l' := [.str "DFLT", .str "dflt", .str "latn"]) ?_ (Mem.set_self _ _ _) (by rw [sizeLine_eq]; simp) fun c hc => ?_))))))))))))
  · rw [Mem.set_ne]
    · exact Mem.set_self _ _ _
    · intro e'; rw [e', Mem.set_self] at hb2; cases hb2
  · generalize hG1 : ((G.set b1 (.list [.str w])).set b2 (.list [.str "DFLT", .str "dflt", .str "latn"])).set c (.list ([.str w] ++ [.str "DFLT", .str "dflt", .str "latn"])) = G1 at *
    have hk0 : Keeps G ((G.set b1 (.list [.str w])).set b2 (.list [.str "DFLT", .str "dflt", .str "latn"])) := ((Keeps.refl G).set hb1).trans ((Keeps.refl _).set hb2)
    have hk : Keeps G G1 := hG1 ▸ hk0.trans ((Keeps.refl _).set hc)
    have h1 : G1 c = some (.list ([w, "DFLT", "dflt", "latn"].map .str)) := hG1 ▸ Mem.set_self _ _ _
    refine ⟨fun i G2 => Sub [] G1 G2 ∧ firstIn kvs [w, "DFLT", "dflt", "latn"] = firstIn kvs ([w, "DFLT", "dflt", "latn"].drop i), _, _, (fun h k => ⟨h.1.trans k, h.2⟩), IT_list (hA' _).h h1, fun i G2 h => h.1 _ _ h1 rfl (by simp), ⟨Sub.refl _ _, rfl⟩, ?_, ?_⟩
    · rintro i x G2 hi ⟨hs1, hf⟩ hkt
      obtain ⟨t, ht1, rfl⟩ : ∃ t, [w, "DFLT", "dflt", "latn"][i]? = some t ∧ x = .str t := by
        rw [List.getElem?_map] at hi
        obtain ⟨t, e1, e2⟩ := Option.map_eq_some_iff.mp hi
        exact ⟨t, e1, e2.symm⟩
      have hd : [w, "DFLT", "dflt", "latn"].drop i = t :: [w, "DFLT", "dflt", "latn"].drop (i + 1) := by
        obtain ⟨hlt, he⟩ := List.getElem?_eq_some_iff.mp ht1
        rw [List.drop_eq_getElem_cons hlt, he]
      rw [hd] at hf
      have sG : Ex [] G G2 := ⟨fun a o e r n => hs1 a o (hk a o e) r n, fun a o e r => hkt a o (hk a o e) r⟩
      have hsd := sG.sub _ _ hs rfl (by simp)
      refine (SV_name (SV_local rfl rfl rfl ?_))
      refine EX_cons (EX_if (EB_compare ((EV_local rfl rfl rfl rfl (EV_attr X ((EV_local rfl rfl rfl rfl ⟨lay, 129, dx, _, .ref sd, rfl, sG.sub _ _ y1 rfl (by simp), sG.sub _ _ y2 rfl (by simp), (⟨by exact rfl, by exact rfl, by exact rfl⟩ : PlainAttr _ _ _), rfl, O2_in_dS hsd (OB_bool ?_)⟩)))))))
      have hf2 : firstIn kvs [w, "DFLT", "dflt", "latn"] = match aget kvs t with | some v => some v | none => firstIn kvs ([w, "DFLT", "dflt", "latn"].drop (i + 1)) := hf
      cases hq : aget kvs t with
      | none =>
        rw [hq] at hf2
        exact EX_nil (EX_nil ⟨KeepIt.refl _, by (focus (repeat (first | exact Sup.refl _ | exact Sup.nil _ | refine Sup.cons (by exact rfl) ?_))), hs1, hf2⟩)
      | some av =>
        rw [hq] at hf2
        refine EX_cons (EX_return (EV_subS (EV_attr X ((EV_local rfl rfl rfl rfl ⟨lay, 129, dx, _, .ref sd, rfl, sG.sub _ _ y1 rfl (by simp), sG.sub _ _ y2 rfl (by simp), (⟨by exact rfl, by exact rfl, by exact rfl⟩ : PlainAttr _ _ _), rfl, (EV_local rfl rfl rfl rfl ⟨sd, kvs, t, e, av, rfl, rfl, hsd, hq, ?_⟩)⟩)))))
        have := q G2 sG
        rw [hf2] at this
        exact this
    · rintro m2 G2 hm ⟨hs1, hf⟩ hkeep
      have sG : Ex [] G G2 := ⟨fun a o e r n => hs1 a o (hk a o e) r n, fun a o e r => hkeep a o (hk a o e) r⟩
      refine EX.weaken (EX_cons (EX_return (EV_none ?_))) hm
      have := q G2 sG
      rw [hf] at this
      exact this
end
end Mine

namespace Mine
theorem AOk.h1 {n : Nat} {A : Around} (x : AOk n A) : A.in1.handled = none := x.h
theorem perm_map_inv {α β : Type} {f : α → β} {l : List α} {y : List β} (h : y.Perm (l.map f)) : ∃ l' : List α, y = l'.map f ∧ l'.Perm l := by
  have key : ∀ {x y : List β}, x.Perm y → ∀ l : List α, y = l.map f → ∃ l' : List α, x = l'.map f ∧ l'.Perm l := by
    intro x y hp
    induction hp with
    | nil => intro l e; exact ⟨[], rfl, by cases l <;> simp_all⟩
    | cons a p ih =>
      intro l e
      cases l with
      | nil => simp at e
      | cons i l =>
        simp only [List.map_cons, List.cons.injEq] at e
        obtain ⟨l', h1, h2⟩ := ih l e.2
        exact ⟨i :: l', by rw [h1, e.1]; rfl, h2.cons _⟩
    | swap a b l0 =>
      intro l e
      match l, e with
      | i :: j :: l, e =>
        simp only [List.map_cons, List.cons.injEq] at e
        exact ⟨j :: i :: l, by simp [e.1, e.2.1, e.2.2], .swap _ _ _⟩
    | trans p1 p2 ih1 ih2 =>
      intro l e
      obtain ⟨l1, h1, h2⟩ := ih2 l e
      obtain ⟨l2, h3, h4⟩ := ih1 l1 h1
      exact ⟨l2, h3, h4.trans h2⟩
  exact key h l rfl
def GoodM (mk : MK) : Prop := (mk.map (·.1)).Nodup ∧ ∀ k ∈ mk.map (·.1), Low k
theorem mput_keys (mk : MK) (k : Int) (n : Nat) : (mput mk k n).map (·.1) = if k ∈ mk.map (·.1) then mk.map (·.1) else mk.map (·.1) ++ [k] := by
  unfold mput
  have e : (mk.any (fun p => decide (p.1 = k)) = true) ↔ k ∈ mk.map (·.1) := by
    rw [List.any_eq_true, List.mem_map]
    exact ⟨fun ⟨p, hp, h⟩ => ⟨p, hp, by simpa using h⟩, fun ⟨p, hp, h⟩ => ⟨p, hp, by simpa using h⟩⟩
  by_cases h : k ∈ mk.map (·.1)
  · rw [if_pos (e.mpr h), if_pos h, List.map_map]
    apply List.map_congr_left
    intro p _
    simp only [Function.comp]
    split <;> rfl
  · rw [if_neg (fun q => h (e.mp q)), if_neg h, List.map_append]; rfl
theorem GoodM.put {mk : MK} (h : GoodM mk) {k : Int} (hk : Low k) (n : Nat) : GoodM (mput mk k n) := by
  unfold GoodM
  rw [mput_keys]
  split
  · exact h
  · rename_i hn
    refine ⟨List.nodup_append.mpr ⟨h.1, by simp, fun a ha b hb e => hn (by rw [List.mem_singleton] at hb; rw [← hb, ← e]; exact ha)⟩, fun x hx => ?_⟩
    rcases List.mem_append.mp hx with hx | hx
    · exact h.2 x hx
    · rw [List.mem_singleton.mp hx]; exact hk
theorem GoodM.all {m : Nat} : ∀ {ns : List Int} {mk : MK}, GoodM mk → (∀ k ∈ ns, Low k) → GoodM (addAll m mk ns)
  | [], _, h, _ => h
  | k :: ns, mk, h, hn => GoodM.all (ns := ns) (mk := mor m mk k) (h.put (hn k (.head _)) _) fun x hx => hn x (.tail _ hx)
theorem len_sub {α : Type} [DecidableEq α] : ∀ (s l : List α), l.Nodup → (∀ x ∈ l, x ∈ s) → l.length ≤ s.length
  | [], l, _, h => by
    cases l with
    | nil => simp
    | cons a l => exact absurd (h a (.head _)) (by simp)
  | a :: s, l, hn, h => by
    have h1 := len_sub s (l.erase a) (hn.erase a) fun x hx => by
      have := (hn.mem_erase_iff).mp hx
      rcases List.mem_cons.mp (h x this.2) with e | e
      · exact absurd e this.1
      · exact e
    have h2 : l.length ≤ (l.erase a).length + 1 := by
      rw [List.length_erase]; split <;> omega
    simp only [List.length_cons]
    omega
theorem GoodM.length {mk : MK} (h : GoodM mk) : mk.length ≤ 3 := by
  have h1 : (mk.map (·.1)).length ≤ 3 := by
    exact len_sub [0, 1, 2] _ h.1 fun x hx => by
      rcases h.2 x hx with rfl | rfl | rfl <;> simp
  simpa using h1
theorem GoodM.nil : GoodM [] := ⟨List.nodup_nil, fun _ h => nomatch h⟩
def numsAt (R : List (Str × List Int)) (k : Int) : List Int := ((R[k.toNat]?).map (·.2)).getD []
def gatT (R : List (Str × List Int)) (m : Nat) (mk : MK) (ks : List Int) : MK := ks.foldl (fun mk k => addAll m mk (numsAt R k)) mk
def wishOf (wl : List (Str × Nat)) (t : Str) : Nat := ((wl.find? fun p => decide (p.1 = t)).map (·.2)).getD 0
def gatF (R : List (Str × List Int)) (fs : List Int) (wl : List (Str × Nat)) (ts : List Str) : MK := ts.foldl (fun mk t => gatT R (wishOf wl t) mk (withTag R t fs)) []
def rsl (mk : MK) : List (Int × Nat) := ((mk.map (·.1)).mergeSort (· ≤ ·)).map fun k => (k, (mget mk k).getD 0)
def prA (p : Int × Nat) : AV := .tup [.int p.1, .int p.2]
theorem sort_uniq {l : List Int} {mk : MK} (hp : l.Perm (mk.map (·.1))) (hs : l.Pairwise (· ≤ ·)) : l.map (fun k => (k, (mget mk k).getD 0)) = rsl mk := by
  unfold rsl
  congr 1
  refine lks_uniq (hp.trans (List.mergeSort_perm _ _).symm) hs ?_
  have := List.pairwise_mergeSort (le := fun (a b : Int) => decide (a ≤ b)) (fun a b c h1 h2 => by simp at *; omega) (fun a b => by simp; omega) (mk.map (·.1))
  exact this.imp fun h => by simpa using h
theorem numsAt_low {R : List (Str × List Int)} (h : ∀ r ∈ R, ∀ k ∈ r.2, Low k) (k : Int) : ∀ x ∈ numsAt R k, Low x := by
  unfold numsAt
  cases e : R[k.toNat]? with
  | none => intro x hx; simp at hx
  | some r => intro x hx; exact h r (List.mem_of_getElem? e) x (by simpa using hx)
theorem GoodM.gatT {R : List (Str × List Int)} (h : ∀ r ∈ R, ∀ k ∈ r.2, Low k) {m : Nat} : ∀ {ks : List Int} {mk : MK}, GoodM mk → GoodM (gatT R m mk ks)
  | [], _, g => g
  | k :: ks, mk, g => GoodM.gatT h (ks := ks) (g.all (numsAt_low h k))
theorem GoodM.gatF {R : List (Str × List Int)} (h : ∀ r ∈ R, ∀ k ∈ r.2, Low k) {fs : List Int} {wl : List (Str × Nat)} : ∀ (ts : List Str), GoodM (gatF R fs wl ts) := by
  intro ts
  have key : ∀ (ts : List Str) (mk : MK), GoodM mk → GoodM (ts.foldl (fun mk t => Mine.gatT R (wishOf wl t) mk (withTag R t fs)) mk) := by
    intro ts
    induction ts with
    | nil => intro mk g; exact g
    | cons t ts ih => intro mk g; exact ih _ (g.gatT h)
  exact key ts [] GoodM.nil
end Mine

namespace Mine
section
variable {W : Wd} {A : Around} {Fs : List FA} {G : Mem} {Q : AV → Mem → Prop} {n : Nat}
theorem sysB (X : Base W (KP W)) : ∃ a o, W.B.get? a = some o ∧ sysModules ≤ a := by
  obtain ⟨o, ho⟩ : ∃ o, List.lookup 213 (KP W) = some o := ⟨_, rfl⟩
  exact ⟨213, o, X.kin 213 o ho, by decide⟩
def wishK (wl : List (Str × Nat)) : List (Str × AV) := wl.map fun p => (p.1, .int p.2)
theorem aget_wish {wl : List (Str × Nat)} {t : Str} (h : t ∈ wl.map (·.1)) : aget (wishK wl) t = some (.int (wishOf wl t)) := by
  unfold aget wishK wishOf
  induction wl with
  | nil => cases h
  | cons p r ih =>
    simp only [List.map_cons, List.find?_cons]
    by_cases hq : p.1 = t
    · simp [hq]
    · simp only [hq, decide_false]
      refine ih ?_
      rcases List.mem_cons.mp h with e | e
      · exact absurd e.symm hq
      · exact e
theorem C_gather {lay sd fl ll wa : Addr} {lv : AV} {fs : List Int} {l nl : List AV} {R : List (Str × List Int)} {wl : List (Str × Nat)} {we : Nat} (X : Base W (KP W)) (hA : AOk (n + 4) A) (hL : LayAt G lay sd fl ll) (hf : G fl = some (.list l)) (hR : FeatsAt G l R) (hz : l.length ≤ 1000)
    (hl : LsOk G lv fs) (hfz : fs.length ≤ 1000) (hfs : ∀ k ∈ fs, 0 ≤ k ∧ k < R.length) (hll : G ll = some (.list nl)) (hnl : nl.length = 3) (hw : G wa = some (.dS (wishK wl) we)) (hwz : wl.length ≤ 10) (hwn : ∀ t ∈ wl.map (·.1), wishOf wl t ≠ 0) (hRn : ∀ r ∈ R, r.2.length ≤ 100 ∧ ∀ k ∈ r.2, Low k)
    (q : ∀ b G' ts, Ex [] G G' → ts.Perm (wl.map (·.1)) → G' b = some (.list ((rsl (gatF R fs wl ts)).map prA)) → Q (.ref b) G') : OC W A Fs G [.ref lay, lv, .ref wa] 213 Q := by
  refine CALL_fnC (n := n + 3) (bs := [("layout", .ref lay), ("langsys", lv), ("wishes", .ref wa), ("is_required", .bool true)]) (m := [("layout", .ref lay), ("langsys", lv), ("wishes", .ref wa), ("is_required", .bool true)]) (cv := []) X hA (by exact rfl) rfl rfl rfl rfl rfl rfl rfl ?hb rfl (by decide) rfl rfl ?_
  case hb =>
    intro s vs hk r
    obtain ⟨v, u, t, rfl, r1, r2, r3⟩ := r.inv3
    exact ⟨[("layout", v), ("langsys", u), ("wishes", t), ("is_required", .bool true)], binds_K (X.kin.keeps hk) (by exact rfl) (by exact rfl) (by exact rfl) (by exact rfl) (by exact rfl), .cons r1 (.cons r2 (.cons r3 (.cons (.bool _) .nil)))⟩
  intro L hL0
  show EX _ _ _ _ _ (G.set (L + 1) (.cell none)) _ _
  have hA' := hA.deeper (n := n + 3)
  have hcG : G (L + 1) = none := hL0 _ (Nat.le_succ _)
  generalize hc : L + 1 = c at *
  -- masks = {}
  refine EX_cons (EX_assign (EV_dict0 (sysB X) (.dI [] 0) (.inr (.inl rfl)) fun mm hmm => ?_))
  have hmc : c ≠ mm := fun e => by rw [← e, Mem.set_self] at hmm; cases hmm
  have hmG : G mm = none := by rwa [Mem.set_ne _ _ (Ne.symm hmc)] at hmm
  refine SV_name (SV_cell (c := c) (v₀ := none) rfl rfl (by rw [← hc]; rfl) (by rw [Mem.set_ne _ _ hmc]; exact Mem.set_self _ _ _) ?_)
  generalize hG1 : ((G.set c (.cell none)).set mm (.dI [] 0)).set c (.cell (some (.ref mm))) = G1
  have k1 : Keeps G G1 := hG1 ▸ (((Keeps.refl G).set hcG).set hmG).set hcG
  have c1 : G1 c = some (.cell (some (.ref mm))) := by rw [← hG1]; exact Mem.set_self _ _ _
  have m1 : G1 mm = some (.dI [] 0) := by rw [← hG1, Mem.set_ne _ _ (Ne.symm hmc)]; exact Mem.set_self _ _ _
  -- required
  refine EX_cons (EX_assign (EV_ifexp (EB_plain ((EV_local rfl rfl rfl rfl (OB_bool ?_))))))
  have hL1 := hL.sub (k1.ex (Ws := [])).sub
  have hl1 := hl.sub (k1.ex (Ws := [])).sub
  have lz : l.length ≤ sizeLine := by rw [sizeLine_eq]; omega
  refine EV_call X (by exact rfl) rfl rfl rfl rfl (ES_cons ((EV_local rfl rfl rfl rfl (ES_cons ((EV_local rfl rfl rfl rfl (ES_nil (OC.ol (C_required (n := n + 1) X (hA' _) hL1 (k1 _ _ hf) lz hl1 ((SV_name (SV_local rfl rfl rfl ?_))))))))))))
  refine EX_cons (EX_if (EB_compare ((EV_local rfl rfl rfl rfl (EV_none (O2_isnot_none (OB_bool (EX_nil ?_))))))))
  -- for tag in sorted(wishes)
  have hwl : (wl.map (·.1)).length < 64 := by simp; omega
  refine EX_cons (EX_forSI (m0 := [("layout", .ref lay), ("langsys", lv), ("wishes", .ref wa)]) (by (focus (repeat (first | exact Sup.refl _ | exact Sup.nil _ | refine Sup.cons (by exact rfl) ?_)))) (EV_callB X (by exact rfl) rfl (by decide) rfl rfl rfl rfl (ES_cons ((EV_local rfl rfl rfl rfl (ES_nil
    (OL_sorted (P := fun avs => avs = (wl.map (·.1)).map .str) (P' := fun _ avs' => avs'.Perm ((wl.map (·.1)).map .str)) (fun s v hs r R hR => COL_dS (hA' _).h1 (by simp [wishK, sizeLine_eq]; omega) (k1 _ _ hw) s v hs r R fun vs avs s' a1 a2 a3 a4 => hR vs avs s' a1 a2 a3 (by rw [a4]; simp [wishK]))
      (fun avs h => by rw [h]; simpa using hwl) (fun avs h => by rw [h]; exact SRT_strs (by simpa using hwl)) fun avs avs' D hP hP' hD => ?_)))))))
  obtain ⟨ts, rfl, hts⟩ := perm_map_inv hP'
  generalize hG2 : G1.set D (.list (ts.map .str)) = G2
  have k2 : Keeps G1 G2 := hG2 ▸ (Keeps.refl G1).set hD
  have d2 : G2 D = some (.list (ts.map .str)) := by rw [← hG2]; exact Mem.set_self _ _ _
  have c2 := k2 _ _ c1
  have m2 := k2 _ _ m1
  have k02 := k1.trans k2
  have key : ∀ {G3 : Mem}, Sub [mm] G2 G3 → Sub [] G G3 := fun h a o e r _ => h a o (k02 a o e) r (by
    rw [List.mem_singleton]; intro e2; rw [e2, hmG] at e; cases e)
  refine ⟨fun i G3 => Sub [mm] G2 G3 ∧ ∃ e, G3 mm = some (.dI (toK (gatF R fs wl (ts.take i))) e), _, _, (fun h k => ⟨h.1.trans (k.up (by simp)), let ⟨e, h⟩ := h.2; ⟨e, k _ _ h rfl (by simp)⟩⟩), IT_list (hA' _).h d2, fun i G3 h => h.1 _ _ d2 rfl (by simp; intro e; rw [e, m2] at d2; cases d2), ⟨Sub.refl _ _, 0, m2⟩, ?turn, ?done⟩
  case turn =>
    rintro i x G3 hi ⟨hs3, e3, hm3⟩ hkt
    obtain ⟨t, ht1, rfl⟩ : ∃ t, ts[i]? = some t ∧ x = .str t := by
      rw [List.getElem?_map] at hi
      obtain ⟨t, e1, e2⟩ := Option.map_eq_some_iff.mp hi
      exact ⟨t, e1, e2.symm⟩
    have htm : t ∈ wl.map (·.1) := hts.mem_iff.mp (List.mem_of_getElem? ht1)
    have htake : gatF R fs wl (ts.take (i + 1)) = gatT R (wishOf wl t) (gatF R fs wl (ts.take i)) (withTag R t fs) := by
      unfold gatF
      rw [List.take_add_one, ht1, List.foldl_append]; rfl
    have good : GoodM (gatF R fs wl (ts.take i)) := GoodM.gatF (fun r hr => (hRn r hr).2) _
    generalize gatF R fs wl (ts.take i) = mk at *
    have s3 := key hs3
    have c3 : G3 c = some (.cell (some (.ref mm))) := hs3 _ _ c2 rfl (by simpa using hmc)
    refine (SV_name (SV_local rfl rfl rfl ?_))
    refine EX_cons (EX_if (EB_compare (EV_subS ((EV_local rfl rfl rfl rfl ((EV_local rfl rfl rfl rfl ⟨wa, wishK wl, t, we, .int (wishOf wl t), rfl, rfl, s3 _ _ hw rfl (by simp), aget_wish htm, EV_int (O2_ne_int (OB_bool ?_))⟩)))))))
    have hne : ((wishOf wl t : Int) != 0) = true := by
      have := hwn t htm
      simp; omega
    rw [hne]
    refine EX_cons (EX_forSI (m0 := [("layout", .ref lay), ("langsys", lv), ("wishes", .ref wa), ("tag", .str t)]) (by (focus (repeat (first | exact Sup.refl _ | exact Sup.nil _ | refine Sup.cons (by exact rfl) ?_)))) (EV_call X (by exact rfl) rfl rfl rfl rfl (ES_cons ((EV_local rfl rfl rfl rfl (ES_cons ((EV_local rfl rfl rfl rfl (ES_cons ((EV_local rfl rfl rfl rfl (ES_nil (OC.ol (C_feature_indexes (n := n) X (hA' _).less (hL.sub s3) (s3 _ _ hf rfl (by simp)) (hR.sub s3) hz (hl.sub s3) hfz hfs fun b G4 hex hb => ?_))))))))))))))
    have s4 : Sub [] G G4 := s3.trans hex.sub
    have m4 := hex.sub _ _ hm3 rfl (by simp)
    have c4 := hex.sub _ _ c3 rfl (by simp)
    have key4 : ∀ {G5 : Mem}, Sub [mm] G4 G5 → Sub [] G G5 := fun h a o e r _ => h a o (s4 a o e r (by simp)) r (by
      rw [List.mem_singleton]; intro e2; rw [e2, hmG] at e; cases e)
    refine ⟨fun j G5 => Sub [mm] G4 G5 ∧ ∃ e, G5 mm = some (.dI (toK (gatT R (wishOf wl t) mk ((withTag R t fs).take j))) e), _, _, (fun h k => ⟨h.1.trans (k.up (by simp)), let ⟨e, h⟩ := h.2; ⟨e, k _ _ h rfl (by simp)⟩⟩), IT_list (hA' _).h hb, fun i G5 h => h.1 _ _ hb rfl (by simp; intro e; rw [e, m4] at hb; cases hb), ⟨Sub.refl _ _, e3, m4⟩, ?turn2, ?done2⟩
    case turn2 =>
      rintro j x G5 hj ⟨hs5, e5, hm5⟩ hkt5
      obtain ⟨k, hk1, rfl⟩ : ∃ k, (withTag R t fs)[j]? = some k ∧ x = .int k := by
        rw [List.getElem?_map] at hj
        obtain ⟨t, e1, e2⟩ := Option.map_eq_some_iff.mp hj
        exact ⟨t, e1, e2.symm⟩
      have htake5 : gatT R (wishOf wl t) mk ((withTag R t fs).take (j + 1)) = addAll (wishOf wl t) (gatT R (wishOf wl t) mk ((withTag R t fs).take j)) (numsAt R k) := by
        unfold gatT
        rw [List.take_add_one, hk1, List.foldl_append]; rfl
      have hkf : k ∈ fs := (List.mem_filter.mp (List.mem_of_getElem? hk1)).1
      obtain ⟨hk0, hk2⟩ := hfs k hkf
      have s5 := key4 hs5
      have c5 : G5 c = some (.cell (some (.ref mm))) := hs5 _ _ c4 rfl (by simpa using hmc)
      have hkn : k.toNat < R.length := by omega
      have hkl : k.toNat < l.length := by rw [hR.length]; exact hkn
      obtain ⟨r, hr, f, hfe, hF⟩ := (hR.sub s5).get (List.getElem?_eq_getElem hkl)
      obtain ⟨dy, y1, y2⟩ := hL.sub s5
      have hnums : numsAt R k = r.2 := by unfold numsAt; rw [hr]; rfl
      have hrR := hRn r (List.mem_of_getElem? hr)
      have good5 : GoodM (gatT R (wishOf wl t) mk ((withTag R t fs).take j)) := good.gatT fun r hr => (hRn r hr).2
      have hl5 := good5.length
      refine (SV_name (SV_local rfl rfl rfl ?_))
      refine EX_cons (EX_expr (EV_call X (by exact rfl) rfl rfl rfl rfl (ES_cons (EV_cell (c := c) rfl rfl (by rw [← hc]; rfl) c5 (ES_cons ((EV_local rfl rfl rfl rfl (ES_cons (EV_subL (EV_attr X ((EV_local rfl rfl rfl rfl ⟨lay, 129, dy, _, .ref fl, rfl, y1, y2, (⟨by exact rfl, by exact rfl, by exact rfl⟩ : PlainAttr _ _ _), rfl, (EV_local rfl rfl rfl rfl ⟨fl, l, k, .ref f, rfl, rfl, .inl (s5 _ _ hf rfl (by simp)), hk0, by omega, by rw [List.getElem?_eq_getElem hkl, hfe], ES_cons (EV_subS ((EV_local rfl rfl rfl rfl ((EV_local rfl rfl rfl rfl ⟨wa, wishK wl, t, we, .int (wishOf wl t), rfl, rfl, s5 _ _ hw rfl (by simp), aget_wish htm, ES_nil (OC.ol (C_add_lookups (n := n) X (hA' _).less.less hm5 (hL.sub s5) (s5 _ _ hll rfl (by simp)) hnl hF hrR.2 (by omega) fun G6 e6 hex6 hm6 => ?_))⟩)))))⟩)⟩))))))))))))
      refine EX_nil ⟨hex6.its, by (focus (repeat (first | exact Sup.refl _ | exact Sup.nil _ | refine Sup.cons (by exact rfl) ?_))), hs5.trans hex6.sub, e6, ?_⟩
      rw [hm6, htake5, hnums]
    case done2 =>
      rintro m5 G5 hsup5 ⟨hs5, e5, hm5⟩ hkeep5
      refine EX_nil (EX_nil ⟨hex.its.trans hkeep5, hsup5.trans (by (focus (repeat (first | exact Sup.refl _ | exact Sup.nil _ | refine Sup.cons (by exact rfl) ?_)))), fun a o e r n => hs5 a o (hex.sub a o (hs3 a o e r n) r (by simp)) r n, e5, ?_⟩)
      rw [hm5, htake]; simp
  case done =>
    rintro m3 G3 hsup ⟨hs3, e3, hm3⟩ hkeep
    have c3 : G3 c = some (.cell (some (.ref mm))) := hs3 _ _ c2 rfl (by simpa using hmc)
    rw [show (ts.map AV.str).length = ts.length by simp, List.take_length] at hm3
    have s3 := key hs3
    have good : GoodM (gatF R fs wl ts) := GoodM.gatF (fun r hr => (hRn r hr).2) _
    generalize hmk : gatF R fs wl ts = mk at *
    have hmkl := good.length
    refine EX.weaken (EX_cons (EX_return (EV_compI (cl := [("masks", c)]) (by rw [← hc]; exact rfl) (by decide) rfl (by decide) (EV_callB X (by exact rfl) rfl (by decide) rfl rfl rfl rfl (ES_cons (EV_cell (c := c) rfl rfl (by rw [← hc]; rfl) c3 (ES_nil
      (OL_sorted (P := fun avs => avs = (mk.map (·.1)).map .int) (P' := fun _ avs' => ∃ l' : List Int, avs' = l'.map .int ∧ l'.Perm (mk.map (·.1)) ∧ l'.Pairwise (· ≤ ·)) (fun s v hs r R hR => COL_dI (hA' _).h1 (by simp [toK, sizeLine_eq]; omega) hm3 s v hs r R fun vs avs s' a1 a2 a3 a4 => hR vs avs s' a1 a2 a3 (by rw [a4]; simp [toK]))
        (fun avs h => by rw [h]; simp; omega) (fun avs h => by rw [h]; exact SRT_ints (by simp; omega)) fun avs avs' D2 hP hP' hD2 => ?_)))))))) hsup
    obtain ⟨l', rfl, hl1, hl2⟩ := hP'
    generalize hG4 : G3.set D2 (.list (l'.map .int)) = G4
    have k4 : Keeps G3 G4 := hG4 ▸ (Keeps.refl G3).set hD2
    have d4 : G4 D2 = some (.list (l'.map .int)) := by rw [← hG4]; exact Mem.set_self _ _ _
    have hlen : l'.length ≤ 3 := by rw [hl1.length_eq]; simpa using hmkl
    refine ⟨fun j acc G5 => Sub [] G4 G5 ∧ acc = (l'.take j).map fun k => prA (k, (mget mk k).getD 0), (fun h k => ⟨h.1.trans k, h.2⟩), _, _, IT_list (hA' _).h d4, fun i acc G5 h => h.1 _ _ d4 rfl (by simp), ⟨Sub.refl _ _, rfl⟩, by rw [sizeLine_eq]; simp; omega, ?turn3, ?done3⟩
    case turn3 =>
      rintro C j x acc G5 hj ⟨hs5, rfl⟩
      obtain ⟨k, hk1, rfl⟩ : ∃ k, l'[j]? = some k ∧ x = .int k := by
        rw [List.getElem?_map] at hj
        obtain ⟨t, e1, e2⟩ := Option.map_eq_some_iff.mp hj
        exact ⟨t, e1, e2.symm⟩
      have hmem : k ∈ mk.map (·.1) := hl1.mem_iff.mp (List.mem_of_getElem? hk1)
      obtain ⟨v, hv⟩ : ∃ v, mget mk k = some v := by
        obtain ⟨p, hp, rfl⟩ := List.mem_map.mp hmem
        unfold mget
        cases e : mk.find? fun q => decide (q.1 = p.1) with
        | none => have := List.find?_eq_none.mp e p hp; simp at this
        | some q => exact ⟨q.2, rfl⟩
      have c5 := hs5 _ _ (k4 _ _ c3) rfl (by simp)
      have m5 := hs5 _ _ (k4 _ _ hm3) rfl (by simp)
      refine (SV_name (SV_local rfl rfl rfl ?_))
      refine EV_tuple (ES_cons ((EV_local rfl rfl rfl rfl (ES_cons (EV_subI (EV_cell (c := c) rfl rfl rfl c5 ((EV_local rfl rfl rfl rfl ⟨mm, toK mk, k, e3, .int v, rfl, rfl, m5, by rw [aget_toK, hv]; rfl, ES_nil ⟨by rw [sizeLine_eq]; simp, KeepIt.refl _, hs5, ?_⟩⟩))))))))
      rw [List.take_add_one, hk1, List.map_append]
      simp [prA, hv]
    case done3 =>
      rintro acc G5 D3 hD3 ⟨hs5, rfl⟩ hkeep5
      have e5 : (l'.take (l'.map AV.int).length).map (fun k => prA (k, (mget mk k).getD 0)) = (rsl mk).map prA := by
        rw [List.length_map, List.take_length, ← sort_uniq hl1 hl2, List.map_map]; rfl
      rw [e5]
      refine q D3 _ ts ?_ hts (by rw [hmk]; exact Mem.set_self _ _ _)
      have x5 : Ex [] G G5 := ⟨fun a o e r n => hs5 a o (k4 a o (s3 a o e r (by simp))) r n, fun a o e r => hkeep5 a o (k4 a o (hkeep a o (k02 a o e) r)) r⟩
      exact x5.trans ((Keeps.refl G5).set hD3).ex
end
end Mine

namespace Mine
section
variable {κ β : Type} [DecidableEq κ]
def pget (l : List (κ × β)) (k : κ) : Option β := (l.find? fun p => decide (p.1 = k)).map (·.2)
def pset (l : List (κ × β)) (k : κ) (v : β) : List (κ × β) := if l.any (fun p => decide (p.1 = k)) then l.map (fun p => if p.1 = k then (p.1, v) else p) else l ++ [(k, v)]
theorem pany_iff {l : List (κ × β)} {k : κ} : (l.any (fun p => decide (p.1 = k)) = true) ↔ k ∈ l.map (·.1) := by
  rw [List.any_eq_true, List.mem_map]
  exact ⟨fun ⟨p, hp, h⟩ => ⟨p, hp, by simpa using h⟩, fun ⟨p, hp, h⟩ => ⟨p, hp, by simpa using h⟩⟩
theorem pget_none {l : List (κ × β)} {k : κ} : pget l k = none ↔ k ∉ l.map (·.1) := by
  unfold pget
  rw [Option.map_eq_none_iff, List.find?_eq_none]
  constructor
  · intro h hm
    obtain ⟨p, hp, e⟩ := List.mem_map.mp hm
    exact h p hp (by simpa using e)
  · intro h p hp e
    exact h (List.mem_map.mpr ⟨p, hp, by simpa using e⟩)
theorem pget_mem {l : List (κ × β)} {k : κ} {v : β} (h : pget l k = some v) : (k, v) ∈ l := by
  unfold pget at h
  obtain ⟨p, hp, rfl⟩ := Option.map_eq_some_iff.mp h
  have h1 := List.mem_of_find?_eq_some hp
  have h2 := List.find?_some hp
  have : p.1 = k := by simpa using h2
  rw [← this]; exact h1
theorem pget_of_mem {l : List (κ × β)} {k : κ} {v : β} (hn : (l.map (·.1)).Nodup) (hm : (k, v) ∈ l) : pget l k = some v := by
  induction l with
  | nil => cases hm
  | cons p r ih =>
    rw [List.map_cons, List.nodup_cons] at hn
    unfold pget at *
    simp only [List.find?_cons]
    rcases List.mem_cons.mp hm with rfl | hm
    · simp
    · have : p.1 ≠ k := fun e => hn.1 (e ▸ List.mem_map_of_mem (f := (·.1)) hm)
      simp only [this, decide_false]
      exact ih hn.2 hm
theorem pset_keys (l : List (κ × β)) (k : κ) (v : β) : (pset l k v).map (·.1) = if k ∈ l.map (·.1) then l.map (·.1) else l.map (·.1) ++ [k] := by
  unfold pset
  by_cases h : k ∈ l.map (·.1)
  · rw [if_pos (pany_iff.mpr h), if_pos h, List.map_map]
    apply List.map_congr_left
    intro p _
    simp only [Function.comp]
    split <;> rfl
  · rw [if_neg (fun q => h (pany_iff.mp q)), if_neg h, List.map_append]; rfl
theorem pset_nodup {l : List (κ × β)} (h : (l.map (·.1)).Nodup) (k : κ) (v : β) : ((pset l k v).map (·.1)).Nodup := by
  rw [pset_keys]
  split
  · exact h
  · rename_i hn
    exact List.nodup_append.mpr ⟨h, by simp, fun a ha b hb e => hn (by rw [List.mem_singleton] at hb; rw [← hb, ← e]; exact ha)⟩
theorem pset_length (l : List (κ × β)) (k : κ) (v : β) : (pset l k v).length ≤ l.length + 1 := by
  unfold pset; split <;> simp
theorem pset_length' {l : List (κ × β)} {k : κ} (h : k ∈ l.map (·.1)) (v : β) : (pset l k v).length = l.length := by
  unfold pset; rw [if_pos (pany_iff.mpr h)]; simp
theorem pget_pset (l : List (κ × β)) (k k' : κ) (v : β) : pget (pset l k v) k' = if k' = k then some v else pget l k' := by
  unfold pset
  by_cases h : l.any (fun p => decide (p.1 = k)) = true
  · rw [if_pos h]
    have hk := pany_iff.mp h
    clear h
    unfold pget
    induction l with
    | nil => simp at hk
    | cons p r ih =>
      simp only [List.map_cons, List.find?_cons]
      by_cases hp : p.1 = k
      · simp only [hp, if_true]
        by_cases hk' : k' = k
        · subst hk'; simp
        · have : ¬ k = k' := fun e => hk' e.symm
          simp only [this, decide_false, hk', if_false]
          have hm : ∀ (r : List (κ × β)), List.find? (fun p => decide (p.1 = k')) (r.map fun p => if p.1 = k then (k, v) else p) = List.find? (fun p => decide (p.1 = k')) r := by
            intro r
            induction r with
            | nil => rfl
            | cons q r ih =>
              simp only [List.map_cons, List.find?_cons]
              by_cases hq : q.1 = k
              · simp only [hq, if_true, this, decide_false]; exact ih
              · simp only [hq, if_false]
                split
                · rfl
                · exact ih
          have e2 : (r.map fun p => if p.1 = k then (p.1, v) else p) = r.map fun p => if p.1 = k then (k, v) else p := by
            apply List.map_congr_left; intro p _; split <;> simp_all
          rw [e2, hm]
      · simp only [hp, if_false]
        by_cases hk' : k' = k
        · subst hk'
          simp only [hp, decide_false, if_true]
          have hk2 : k' ∈ r.map (·.1) := by
            rcases List.mem_cons.mp hk with e | e
            · exact absurd e.symm hp
            · exact e
          have := ih hk2
          simpa using this
        · simp only [hk', if_false]
          by_cases hpk : p.1 = k'
          · simp [hpk]
          · simp only [hpk, decide_false]
            by_cases hk2 : k ∈ r.map (·.1)
            · have := ih hk2
              simpa [hk'] using this
            · have hm : (r.map fun p => if p.1 = k then (p.1, v) else p) = r := by
                conv => rhs; rw [← List.map_id r]
                apply List.map_congr_left
                intro q hq
                have : q.1 ≠ k := fun e => hk2 (List.mem_map.mpr ⟨q, hq, e⟩)
                simp [this]
              rw [hm]
  · rw [if_neg h]
    have hk : k ∉ l.map (·.1) := fun q => h (pany_iff.mpr q)
    unfold pget
    rw [List.find?_append]
    by_cases hk' : k' = k
    · subst hk'
      have : List.find? (fun p => decide (p.1 = k')) l = none := by
        rw [List.find?_eq_none]; intro p hp e; exact hk (List.mem_map.mpr ⟨p, hp, by simpa using e⟩)
      simp [this]
    · have : ¬ k = k' := fun e => hk' e.symm
      simp [this, hk']
theorem All2.pget {γ : Type} {R : β → γ → Prop} {l : List (κ × β)} {m : List (κ × γ)} (h : All2 (fun p q => p.1 = q.1 ∧ R p.2 q.2) l m) (k : κ) : match pget m k with
    | some y => ∃ x, Mine.pget l k = some x ∧ R x y
    | none => Mine.pget l k = none := by
  induction h with
  | nil => rfl
  | @cons p q l m r _ ih =>
    obtain ⟨a, b⟩ := p; obtain ⟨a', c⟩ := q
    obtain ⟨e, r⟩ := r
    dsimp only at e r; subst e
    unfold Mine.pget at *
    simp only [List.find?_cons]
    by_cases hk : a = k
    · simp only [hk, decide_true, Option.map_some]; exact ⟨b, rfl, r⟩
    · simp only [hk, decide_false]; exact ih
theorem All2.keys {γ : Type} {R : β → γ → Prop} {l : List (κ × β)} {m : List (κ × γ)} (h : All2 (fun p q => p.1 = q.1 ∧ R p.2 q.2) l m) : l.map (·.1) = m.map (·.1) := by
  induction h with
  | nil => rfl
  | cons r _ ih => simp [ih, r.1]
theorem All2.pset {γ : Type} {R : β → γ → Prop} {l : List (κ × β)} {m : List (κ × γ)} {k : κ} {x : β} {y : γ} (r : R x y) (h : All2 (fun p q => p.1 = q.1 ∧ R p.2 q.2) l m) : All2 (fun p q => p.1 = q.1 ∧ R p.2 q.2) (Mine.pset l k x) (Mine.pset m k y) := by
  unfold Mine.pset
  have e : l.any (fun p => decide (p.1 = k)) = m.any (fun p => decide (p.1 = k)) := by
    rw [Bool.eq_iff_iff, pany_iff, pany_iff, h.keys]
  rw [e]
  split
  · refine h.map fun p q ⟨e1, e2⟩ => ?_
    rw [e1]
    split
    · exact ⟨rfl, r⟩
    · exact ⟨e1, e2⟩
  · exact h.app ⟨rfl, r⟩
theorem All2.upd {γ : Type} {R R' : β → γ → Prop} {l : List (κ × β)} {m : List (κ × γ)} {k : κ} {x : β} {y : γ} (hn : (m.map (·.1)).Nodup) (hx : Mine.pget l k = some x) (hk : ∀ p ∈ l, p.1 ≠ k → ∀ c, R p.2 c → R' p.2 c) (r : R' x y) (h : All2 (fun p q => p.1 = q.1 ∧ R p.2 q.2) l m) :
    All2 (fun p q => p.1 = q.1 ∧ R' p.2 q.2) l (Mine.pset m k y) := by
  have hkm : k ∈ m.map (·.1) := by
    rw [← h.keys]
    exact List.mem_map.mpr ⟨_, pget_mem hx, rfl⟩
  unfold Mine.pset
  rw [if_pos (pany_iff.mpr hkm)]
  have hnl : (l.map (·.1)).Nodup := by rw [h.keys]; exact hn
  have hxs : ∀ p ∈ l, p.1 = k → p.2 = x := fun p hp e => by
    have := pget_of_mem hnl (show (k, p.2) ∈ l from e ▸ hp)
    rw [hx] at this; injection this with this; exact this.symm
  clear hkm hnl hn hx
  induction h with
  | nil => exact .nil
  | @cons p q l m r0 _ ih =>
    refine .cons ?_ (ih (fun p hp => hk p (.tail _ hp)) fun p hp => hxs p (.tail _ hp))
    obtain ⟨e1, e2⟩ := r0
    dsimp only
    by_cases hq : q.1 = k
    · rw [if_pos hq]
      have hp : p.1 = k := e1.trans hq
      exact ⟨e1, by rw [hxs p (.head _) hp]; exact r⟩
    · rw [if_neg hq]
      exact ⟨e1, hk p (.head _) (fun e => hq (e1 ▸ e)) _ e2⟩
end
theorem aget_eq {κ : Type} [DecidableEq κ] (kvs : List (κ × AV)) (k : κ) : aget kvs k = pget kvs k := rfl
theorem aset_eq {κ : Type} [DecidableEq κ] (kvs : List (κ × AV)) (k : κ) (v : AV) : aset kvs k v = pset kvs k v := rfl

abbrev GR := List (List Str × List (Str × List Int))
def gadd (P : GR) (key : List Str) : GR := if key ∈ P.map (·.1) then P else P ++ [(key, [])]
def gval (P : GR) (key : List Str) (tag : Str) : List Int := (pget ((pget P key).getD []) tag).getD []
def gput (P : GR) (key : List Str) (tag : Str) (ns : List Int) : GR := pset P key (pset ((pget P key).getD []) tag ns)
def gstep (P : GR) (key : List Str) (tag : Str) (found : List Int) : GR := if found = [] then P else gput (gadd P key) key tag (low3 (gval (gadd P key) key tag ++ found))
def LiR (G : Mem) (a : AV) (b : List Int) : Prop := ∃ l, a = .ref l ∧ G l = some (.list (b.map .int))
def InR (G : Mem) (a : AV) (b : List (Str × List Int)) : Prop := ∃ d ikv ie, a = .ref d ∧ G d = some (.dS ikv ie) ∧ ListsAt G ikv b
theorem ListsAt.all {G : Mem} {kv : List (Str × AV)} {P : List (Str × List Int)} (h : ListsAt G kv P) : All2 (fun p q => p.1 = q.1 ∧ LiR G p.2 q.2) kv P := h
theorem InnersAt.all {G : Mem} {kv : List (List Str × AV)} {P : GR} (h : InnersAt G kv P) : All2 (fun p q => p.1 = q.1 ∧ InR G p.2 q.2) kv P := h
def GrpAt (G : Mem) (g : Addr) (P : GR) : Prop := ∃ kvs e, G g = some (.dT kvs e) ∧ InnersAt G kvs P ∧ (kvs.map (·.2)).Nodup ∧ (P.map (·.1)).Nodup
theorem ListsAt.keep {G G' : Mem} {kv : List (Str × AV)} {P : List (Str × List Int)} (k : ∀ l v, G l = some (.list v) → G' l = some (.list v)) (h : ListsAt G kv P) : ListsAt G' kv P := h.mono fun _ _ ⟨e, l, h1, h2⟩ => ⟨e, l, h1, k _ _ h2⟩
theorem InnersAt.keep {G G' : Mem} {kv : List (List Str × AV)} {P : GR} (k : ∀ l v, G l = some (.list v) → G' l = some (.list v)) (k2 : ∀ d v e, G d = some (.dS v e) → G' d = some (.dS v e)) (h : InnersAt G kv P) : InnersAt G' kv P :=
  h.mono fun _ _ ⟨e, d, ikv, ie, h1, h2, h3⟩ => ⟨e, d, ikv, ie, h1, k2 _ _ _ h2, h3.keep k⟩
theorem GrpAt.sub {G G' : Mem} {g : Addr} {P : GR} (k : Sub [] G G') (h : GrpAt G g P) : GrpAt G' g P := let ⟨kvs, e, h1, h2, h3⟩ := h; ⟨kvs, e, k _ _ h1 rfl (by simp), h2.keep (fun _ _ e => k _ _ e rfl (by simp)) (fun _ _ _ e => k _ _ e rfl (by simp)), h3⟩
theorem InnersAt.ref {G : Mem} {kvs : List (List Str × AV)} {P : GR} (h : InnersAt G kvs P) : ∀ p ∈ kvs, ∃ d ikv ie, p.2 = .ref d ∧ G d = some (.dS ikv ie) := by
  induction h with
  | nil => intro p hp; cases hp
  | cons r _ ih =>
    intro p hp
    rcases List.mem_cons.mp hp with rfl | hp
    · obtain ⟨_, d, ikv, ie, h1, h2, _⟩ := r; exact ⟨d, ikv, ie, h1, h2⟩
    · exact ih p hp
theorem GrpAt.nil {G : Mem} {g : Addr} {e : Nat} (h : G g = some (.dT [] e)) : GrpAt G g [] := ⟨[], e, h, .nil, List.nodup_nil, List.nodup_nil⟩
theorem GrpAt.add {G : Mem} {g d : Addr} {P : GR} {key : List Str} {kvs : List (List Str × AV)} {e e' : Nat} (hg : G g = some (.dT kvs e)) (h1 : InnersAt G kvs P) (h2 : (kvs.map (·.2)).Nodup) (h3 : (P.map (·.1)).Nodup) (hk : key ∉ P.map (·.1)) (hd : G d = none) :
    GrpAt ((G.set d (.dS [] 0)).set g (.dT (aset kvs key (.ref d)) e')) g (P ++ [(key, [])]) ∧ aset kvs key (.ref d) = kvs ++ [(key, .ref d)] := by
  have hgd : d ≠ g := fun e => by rw [e, hg] at hd; cases hd
  have hkl : key ∉ kvs.map (·.1) := by rw [All2.keys (InnersAt.all h1)]; exact hk
  have e1 : aset kvs key (.ref d) = kvs ++ [(key, .ref d)] := by
    unfold aset
    rw [if_neg (fun q => hkl (pany_iff.mp q))]
  have kp : ∀ {a : Addr} {o : AO}, G a = some o → (∀ k e, o ≠ .dT k e) → ((G.set d (.dS [] 0)).set g (.dT (aset kvs key (.ref d)) e')) a = some o := fun {a o} h hn => by
    rw [Mem.set_ne, Mem.set_ne]
    · exact h
    · intro q; rw [q, hd] at h; cases h
    · intro q; rw [q, hg] at h; cases h; exact hn _ _ rfl
  refine ⟨⟨_, e', Mem.set_self _ _ _, ?_, ?_, ?_⟩, e1⟩
  · have q1 := h1.keep (G' := (G.set d (.dS [] 0)).set g (.dT (aset kvs key (.ref d)) e')) (fun l v h => kp h (by simp)) fun d v e h => kp h (by simp)
    rw [e1] at q1 ⊢
    refine All2.app ⟨rfl, d, [], 0, rfl, ?_, .nil⟩ q1
    rw [Mem.set_ne _ _ hgd, Mem.set_self]
  · rw [e1, List.map_append]
    refine List.nodup_append.mpr ⟨h2, by simp, fun a ha b hb e => ?_⟩
    simp at hb
    obtain ⟨p, hp, rfl⟩ := List.mem_map.mp ha
    obtain ⟨d', ikv, ie, q1, q2⟩ := h1.ref p hp
    rw [e, hb] at q1; injection q1 with q1
    rw [← q1, hd] at q2; cases q2
  · rw [List.map_append]
    exact List.nodup_append.mpr ⟨h3, by simp, fun a ha b hb e => hk (by simp at hb; rw [← hb, ← e]; exact ha)⟩
theorem GrpAt.inner {G : Mem} {kvs : List (List Str × AV)} {P : GR} {key : List Str} {Pin : List (Str × List Int)} (h1 : InnersAt G kvs P) (hk : pget P key = some Pin) : ∃ d ikv ie, aget kvs key = some (.ref d) ∧ G d = some (.dS ikv ie) ∧ ListsAt G ikv Pin := by
  have := All2.pget (InnersAt.all h1) key
  rw [hk] at this
  obtain ⟨x, hx, d, ikv, ie, rfl, h2, h3⟩ := this
  exact ⟨d, ikv, ie, hx, h2, h3⟩
theorem GrpAt.put {G G' : Mem} {g d : Addr} {P : GR} {key : List Str} {kvs : List (List Str × AV)} {e ie : Nat} {Pin Pin' : List (Str × List Int)} {ikv' : List (Str × AV)} (hg : G g = some (.dT kvs e)) (h1 : InnersAt G kvs P) (h2 : (kvs.map (·.2)).Nodup) (h3 : (P.map (·.1)).Nodup)
    (hd : aget kvs key = some (.ref d)) (ho : ∃ v e, G d = some (.dS v e)) (hG' : G' = G.set d (.dS ikv' ie)) (hl : ListsAt G' ikv' Pin') : GrpAt G' g (pset P key Pin') := by
  obtain ⟨v0, e0, ho⟩ := ho
  have kl : ∀ l v, G l = some (.list v) → G' l = some (.list v) := fun l v h => by
    rw [hG', Mem.set_ne]; exact h
    intro q; rw [q, ho] at h; cases h
  refine ⟨kvs, e, ?_, ?_, h2, pset_nodup h3 _ _⟩
  · rw [hG', Mem.set_ne]; exact hg
    intro q; rw [← q, hg] at ho; cases ho
  · refine All2.upd (R := InR G) (R' := InR G') h3 hd (fun p hp hne c ⟨d', ikv, ie', q1, q2, q3⟩ => ⟨d', ikv, ie', q1, ?_, q3.keep kl⟩) ⟨d, ikv', ie, rfl, by rw [hG']; exact Mem.set_self _ _ _, hl⟩ h1.all
    rw [hG', Mem.set_ne]; exact q2
    intro q
    subst q
    -- two places of one address
    have hm := pget_mem hd
    have key2 : ∀ (kvs : List (List Str × AV)), (kvs.map (·.2)).Nodup → ∀ p ∈ kvs, ∀ p' ∈ kvs, p.2 = p'.2 → p = p' := by
      intro kvs hn
      induction kvs with
      | nil => intro p hp; cases hp
      | cons a r ih =>
        rw [List.map_cons, List.nodup_cons] at hn
        intro p hp p' hp' e
        rcases List.mem_cons.mp hp with h1 | hq
        · rcases List.mem_cons.mp hp' with h2 | hq'
          · rw [h1, h2]
          · exact absurd (h1 ▸ e ▸ List.mem_map_of_mem (f := (·.2)) hq') hn.1
        · rcases List.mem_cons.mp hp' with h2 | hq'
          · exact absurd (h2 ▸ e ▸ List.mem_map_of_mem (f := (·.2)) hq) hn.1
          · exact ih hn.2 p hq p' hq' e
    have := key2 kvs h2 p hp _ hm q1
    exact hne (by rw [this])
theorem ListsAt.set {G : Mem} {ikv : List (Str × AV)} {Pin : List (Str × List Int)} {tag : Str} {l : Addr} {ns : List Int} (h : ListsAt G ikv Pin) (hl : G l = some (.list (ns.map .int))) : ListsAt G (aset ikv tag (.ref l)) (pset Pin tag ns) := All2.pset (R := LiR G) ⟨l, rfl, hl⟩ h.all
theorem ListsAt.get {G : Mem} {ikv : List (Str × AV)} {Pin : List (Str × List Int)} (h : ListsAt G ikv Pin) (tag : Str) : match pget Pin tag with
    | some ns => ∃ l, aget ikv tag = some (.ref l) ∧ G l = some (.list (ns.map .int))
    | none => aget ikv tag = none := by
  have := All2.pget (R := LiR G) h.all tag
  cases e : pget Pin tag with
  | none => rw [e] at this; exact this
  | some ns => rw [e] at this; obtain ⟨x, hx, l, rfl, hl⟩ := this; exact ⟨l, hx, hl⟩
structure FR where
  t : Str
  s : Str
  l : Str
  ns : List Str
def FRowAt (G : Mem) (a : Addr) (r : FR) : Prop := ∃ dx, G a = some (.inst 272 dx) ∧ G dx = some (.ns [("tag", .str r.t), ("script", .str r.s), ("language", .str r.l), ("lookups", .tup (r.ns.map .str))])
def FRowsAt (G : Mem) (l : List AV) (R : List FR) : Prop := All2 (fun av r => ∃ f, av = .ref f ∧ FRowAt G f r) l R
theorem FRowAt.sub {G G' : Mem} {a : Addr} {r : FR} {Ws : List Addr} (k : Sub [] G G') (h : FRowAt G a r) : FRowAt G' a r := let ⟨dx, h1, h2⟩ := h; ⟨dx, k _ _ h1 rfl (by simp), k _ _ h2 rfl (by simp)⟩
theorem FRowsAt.sub {G G' : Mem} {l : List AV} {R : List FR} (k : Sub [] G G') (h : FRowsAt G l R) : FRowsAt G' l R := h.mono fun av r ⟨f, e, h⟩ => ⟨f, e, h.sub (Ws := []) k⟩
def numK (nl : List (Str × Int)) : List (Str × AV) := nl.map fun p => (p.1, .int p.2)
def nums (nl : List (Str × Int)) (ns : List Str) : List Int := ns.filterMap (pget nl)
theorem aget_numK (nl : List (Str × Int)) (k : Str) : aget (numK nl) k = (pget nl k).map .int := by
  unfold aget pget numK
  induction nl with
  | nil => rfl
  | cons p r ih =>
    simp only [List.map_cons, List.find?_cons]
    by_cases h : p.1 = k
    · simp [h]
    · simp only [h, decide_false]; exact ih
def gfold (nl : List (Str × Int)) (P : GR) (R : List FR) : GR := R.foldl (fun P r => gstep P [pad4 r.s, pad4 r.l] (pad4 r.t) (nums nl r.ns)) P
end Mine

namespace Mine
theorem low3_low (l : List Int) : (∀ k ∈ low3 l, Low k) ∧ (low3 l).length ≤ 3 := by
  unfold low3
  refine ⟨fun k hk => ?_, Nat.le_trans (List.length_filter_le _ _) (by simp)⟩
  have := (List.mem_filter.mp hk).1
  simp at this
  exact this
theorem low3_sorted (l : List Int) : (low3 l).Pairwise (· ≤ ·) := List.Pairwise.sublist (List.filter_sublist) (by decide)
def SizeG (P : GR) (n : Nat) : Prop := P.length ≤ n ∧ ∀ q ∈ P, q.2.length ≤ n
def LowG (P : GR) : Prop := ∀ q ∈ P, ∀ r ∈ q.2, (∀ k ∈ r.2, Low k) ∧ r.2.length ≤ 3
theorem pset_mem {κ β : Type} [DecidableEq κ] {l : List (κ × β)} {k : κ} {v : β} {p : κ × β} (h : p ∈ pset l k v) : p = (k, v) ∨ p ∈ l := by
  unfold pset at h
  split at h
  · obtain ⟨q, hq, rfl⟩ := List.mem_map.mp h
    split
    · rename_i e; exact .inl (by rw [e])
    · exact .inr hq
  · rcases List.mem_append.mp h with h | h
    · exact .inr h
    · exact .inl (List.mem_singleton.mp h)
theorem gadd_mem {P : GR} {key : List Str} : key ∈ (gadd P key).map (·.1) := by
  unfold gadd
  split
  · assumption
  · simp
theorem gadd_get {P : GR} {key : List Str} : ∃ Pin, pget (gadd P key) key = some Pin := by
  cases e : pget (gadd P key) key with
  | some v => exact ⟨v, rfl⟩
  | none => exact absurd gadd_mem (pget_none.mp e)
theorem SizeG.gstep {P : GR} {n : Nat} (h : SizeG P n) (key : List Str) (tag : Str) (found : List Int) : SizeG (gstep P key tag found) (n + 1) := by
  unfold Mine.gstep
  split
  · exact ⟨Nat.le_succ_of_le h.1, fun q hq => Nat.le_succ_of_le (h.2 q hq)⟩
  · have h1 : (gadd P key).length ≤ n + 1 ∧ ∀ q ∈ gadd P key, q.2.length ≤ n := by
      unfold gadd
      split
      · exact ⟨Nat.le_succ_of_le h.1, h.2⟩
      · refine ⟨by simp; exact h.1, fun q hq => ?_⟩
        rcases List.mem_append.mp hq with hq | hq
        · exact h.2 q hq
        · rw [List.mem_singleton.mp hq]; exact Nat.zero_le _
    unfold gput
    refine ⟨by rw [pset_length' gadd_mem]; exact h1.1, fun q hq => ?_⟩
    rcases pset_mem hq with rfl | hq
    · obtain ⟨Pin, hP⟩ := gadd_get (P := P) (key := key)
      rw [hP]
      exact Nat.le_trans (pset_length _ _ _) (Nat.succ_le_succ (h1.2 _ (pget_mem hP)))
    · exact Nat.le_succ_of_le (h1.2 q hq)
theorem LowG.gadd {P : GR} (h : LowG P) (key : List Str) : LowG (gadd P key) := by
  unfold Mine.gadd
  split
  · exact h
  · intro q hq
    rcases List.mem_append.mp hq with hq | hq
    · exact h q hq
    · rw [List.mem_singleton.mp hq]; intro r hr; cases hr
theorem LowG.val {P : GR} (h : LowG P) (key : List Str) (tag : Str) : (∀ k ∈ gval P key tag, Low k) ∧ (gval P key tag).length ≤ 3 := by
  unfold gval
  cases e : pget P key with
  | none => simp [pget]
  | some Pin =>
    cases e2 : pget Pin tag with
    | none => simp [e2]
    | some ns => simpa [e2] using h _ (pget_mem e) _ (pget_mem e2)
theorem LowG.gstep {P : GR} (h : LowG P) (key : List Str) (tag : Str) (found : List Int) : LowG (gstep P key tag found) := by
  unfold Mine.gstep
  split
  · exact h
  · unfold gput
    intro q hq
    rcases pset_mem hq with rfl | hq
    · intro r hr
      rcases pset_mem hr with rfl | hr
      · exact low3_low _
      · obtain ⟨Pin, hP⟩ := gadd_get (P := P) (key := key)
        rw [hP] at hr
        exact h.gadd key _ (pget_mem hP) r hr
    · exact h.gadd key q hq
section
variable {W : Wd} {A : Around} {Fs : List FA} {G : Mem} {Q : AV → Mem → Prop} {n : Nat} {K : Frag} {env : Env} {pos : Pos}
theorem EV_sortset {arg : Expr} {p1 p2 q1 q2 : Pos} (X : Base W K) (hh : A.handled = none) (e1 : nsIn K mainGlobals "sorted" = some none) (e2 : nsIn K mainGlobals "set" = some none) (hk : env.scope.kind = .function) (hx1 : env.kindOf "sorted" = some .globalImplicit) (hx2 : env.kindOf "set" = some .globalImplicit) (hg : env.globals = mainGlobals) (hb : env.builtins = builtinsNs)
    (h1 : (backTo p2 (starEach [.Call (.Name "set" q1) [arg] [] p1] env)).any (·.1) = false) (h2 : (backTo p1 (starEach [arg] env)).any (·.1) = false)
    (hs1 : starEach [.Call (.Name "set" q1) [arg] [] p1] env = (false, eval (.Call (.Name "set" q1) [arg] [] p1) env) :: starEach [] env) (hs2 : starEach [arg] env = (false, eval arg env) :: starEach [] env)
    (x : EV W A Fs G (eval arg env) fun a G1 => ∃ b l, a = .ref b ∧ G1 b = some (.list (l.map .int)) ∧ (∀ i ∈ l, Low i) ∧ ∀ c G2, Keeps G1 G2 → G2 c = some (.list ((low3 l).map .int)) → Q (.ref c) G2) :
    EV W A Fs G (eval (.Call (.Name "sorted" q2) [.Call (.Name "set" q1) [arg] [] p1] [] p2) env) Q := by
  refine EV_callB X e1 rfl (by decide) hk hx1 hg hb (ES_cons (EV_callT X e2 rfl (by decide) hk hx2 hg hb (ES_cons (x.mono fun a G1 ⟨b, l, e, hG1, hl, q⟩ => ?_) hs2) h2) hs1) h1
  subst e
  refine ES_nil (OL_set hh hG1 hl fun b2 hb2 => ES_nil (OL_sorted (P := fun avs => ∃ l' : List Int, avs = l'.map .int ∧ l'.Perm (low3 l)) (P' := fun _ avs' => avs' = (low3 l).map .int) (COL_set (by exact hh) (Mem.set_self _ _ _)) (fun avs ⟨l', e, hp⟩ => ?_) (fun avs ⟨l', e, hp⟩ => ?_) fun avs avs' D _ hP' hD => ?_))
  · rw [e, List.length_map, hp.length_eq]; have := (low3_low l).2; omega
  · rw [e]
    intro s D vs n ho rv R hR
    refine SRT_ints (by rw [hp.length_eq]; have := (low3_low l).2; omega) s D vs n ho rv R fun vs' avs' h' e' a1 a2 a3 ⟨l2, e2, h2, h3⟩ => hR vs' avs' h' e' a1 a2 a3 ?_
    rw [e2]
    congr 1
    exact lks_uniq (h2.trans hp) h3 (low3_sorted l)
  · rw [hP']
    exact q D _ (((Keeps.refl G1).set hb2).trans ((Keeps.refl _).set hD)) (Mem.set_self _ _ _)
end
end Mine

namespace Mine
theorem Ex.setN {Ws : List Addr} {G0 G : Mem} {a : Addr} {o : AO} (x : Ex Ws G0 G) (h : G0 a = none) : Ex Ws G0 (G.set a o) := by
  have ne : ∀ {b : Addr} {o' : AO}, G0 b = some o' → b ≠ a := fun e q => by rw [q, h] at e; cases e
  exact ⟨fun b o' e r n => by rw [Mem.set_ne _ _ (ne e)]; exact x.sub b o' e r n, fun b o' e r => by rw [Mem.set_ne _ _ (ne e)]; exact x.its b o' e r⟩
theorem Ex.none {G0 G : Mem} (x : Ex [] G0 G) {a : Addr} (h : G a = none) : G0 a = none := by
  cases e : G0 a with
  | none => rfl
  | some o =>
    by_cases hr : o.real = true
    · rw [x.sub a o e hr (by simp)] at h; cases h
    · rw [x.its a o e (by simpa using hr)] at h; cases h
theorem KeepIt.setReal {G : Mem} {a : Addr} {o o0 : AO} (h : G a = some o0) (hr : o0.real = true) : KeepIt G (G.set a o) := (show Ex [a] G _ from Ex.set h hr (by simp)).its
theorem KeepIt.setNew {G : Mem} {a : Addr} {o : AO} (h : G a = none) : KeepIt G (G.set a o) := (show Ex [] G _ from Ex.new h).its
def GrpF (G0 G : Mem) (g : Addr) (P : GR) : Prop := ∃ kvs e, G g = some (.dT kvs e) ∧ InnersAt G kvs P ∧ (kvs.map (·.2)).Nodup ∧ (P.map (·.1)).Nodup ∧ ∀ p ∈ kvs, ∀ d, p.2 = .ref d → G0 d = none
theorem GrpF.at {G0 G : Mem} {g : Addr} {P : GR} (h : GrpF G0 G g P) : GrpAt G g P := let ⟨kvs, e, h1, h2, h3, h4, _⟩ := h; ⟨kvs, e, h1, h2, h3, h4⟩
theorem GrpF.sub {G0 G G' : Mem} {g : Addr} {P : GR} (k : Sub [] G G') (h : GrpF G0 G g P) : GrpF G0 G' g P := let ⟨kvs, e, h1, h2, h3⟩ := h; ⟨kvs, e, k _ _ h1 rfl (by simp), h2.keep (fun _ _ e => k _ _ e rfl (by simp)) (fun _ _ _ e => k _ _ e rfl (by simp)), h3⟩
theorem GrpF.add {G0 G : Mem} {g d : Addr} {P : GR} {key : List Str} {kvs : List (List Str × AV)} {e e' : Nat} (hg : G g = some (.dT kvs e)) (h : GrpF G0 G g P) (hk : key ∉ P.map (·.1)) (hd : G d = none) (hd0 : G0 d = none) :
    GrpF G0 ((G.set d (.dS [] 0)).set g (.dT (aset kvs key (.ref d)) e')) g (P ++ [(key, [])]) := by
  obtain ⟨kvs', e1, h1, h2, h3, h4, h5⟩ := h
  rw [hg] at h1; cases h1
  obtain ⟨⟨kv2, e2, a1, a2, a3, a4⟩, a5⟩ := GrpAt.add (e' := e') hg h2 h3 h4 hk hd
  rw [Mem.set_self] at a1
  cases a1
  refine ⟨_, _, Mem.set_self _ _ _, a2, a3, a4, fun p hp d' e => ?_⟩
  rw [a5] at hp
  rcases List.mem_append.mp hp with hp | hp
  · exact h5 p hp d' e
  · rw [List.mem_singleton.mp hp] at e; cases e; exact hd0
theorem GrpF.put {G0 G : Mem} {g d : Addr} {P : GR} {key : List Str} {tag : Str} {kvs : List (List Str × AV)} {e ie ie' : Nat} {Pin : List (Str × List Int)} {ikv : List (Str × AV)} {l : Addr} {ns : List Int} (hg : G g = some (.dT kvs e)) (h : GrpF G0 G g P) (hP : pget P key = some Pin)
    (hd : aget kvs key = some (.ref d)) (ho : G d = some (.dS ikv ie)) (hl : ListsAt G ikv Pin) (hns : G l = some (.list (ns.map .int))) : GrpF G0 (G.set d (.dS (aset ikv tag (.ref l)) ie')) g (pset P key (pset Pin tag ns)) := by
  obtain ⟨kvs', e1, h1, h2, h3, h4, h5⟩ := h
  rw [hg] at h1; cases h1
  have hl2 : ListsAt (G.set d (.dS (aset ikv tag (.ref l)) ie')) (aset ikv tag (.ref l)) (pset Pin tag ns) := (hl.set hns).keep fun l v h => by
    rw [Mem.set_ne]; exact h
    intro q; rw [q, ho] at h; cases h
  obtain ⟨kv2, e2, a1, a2, a3, a4⟩ := GrpAt.put (Pin := Pin) (ie := ie') hg h2 h3 h4 hd ⟨_, _, ho⟩ rfl hl2
  have hgd : g ≠ d := fun q => by rw [q, ho] at hg; cases hg
  rw [Mem.set_ne _ _ hgd, hg] at a1
  cases a1
  exact ⟨kvs, e, by rw [Mem.set_ne _ _ hgd]; exact hg, a2, a3, a4, h5⟩
theorem gfold_size (nl : List (Str × Int)) : ∀ (R : List FR) (P : GR) (n : Nat), SizeG P n → LowG P → SizeG (gfold nl P R) (n + R.length) ∧ LowG (gfold nl P R)
  | [], _, _, h, h2 => ⟨h, h2⟩
  | r :: R, P, n, h, h2 => by
    have := gfold_size nl R _ _ (h.gstep [pad4 r.s, pad4 r.l] (pad4 r.t) (nums nl r.ns)) (h2.gstep [pad4 r.s, pad4 r.l] (pad4 r.t) (nums nl r.ns))
    rw [show n + (r :: R).length = n + 1 + R.length by simp; omega]
    exact this
theorem nums_low {nl : List (Str × Int)} (h : ∀ p ∈ nl, Low p.2) (ns : List Str) : (∀ k ∈ nums nl ns, Low k) ∧ (nums nl ns).length ≤ ns.length := by
  refine ⟨fun k hk => ?_, List.length_filterMap_le _ _⟩
  obtain ⟨x, _, hx⟩ := List.mem_filterMap.mp hk
  exact h _ (pget_mem hx)
theorem eqv_nil (l : List Int) : (!PyData.eqvAll (toPDs (l.map .int)) (toPDs [])) = decide (l ≠ []) := by
  cases l <;> simp [toPDs, PyData.eqvAll]
section
variable {W : Wd} {A : Around} {Fs : List FA} {G : Mem} {Q : AV → Mem → Prop} {n : Nat}
theorem C_feature_groups {tr fl nu dx e0 : Addr} {nl : List (Str × Int)} {ne : Nat} {fr : List AV} {R : List FR} (X : Base W (KP W)) (hA : AOk (n + 2) A) (ht : G tr = some (.inst 244 dx)) (hd : G dx = some (.ns [("lookups", .ref e0), ("features", .ref fl)])) (hf : G fl = some (.list fr)) (hR : FRowsAt G fr R)
    (hn : G nu = some (.dS (numK nl) ne)) (hlow : ∀ p ∈ nl, Low p.2) (hRz : R.length ≤ 63) (hRs : ∀ r ∈ R, r.ns.length ≤ 3 ∧ (pad4 r.s).length ≤ 1000 ∧ (pad4 r.l).length ≤ 1000 ∧ (pad4 r.t).length ≤ 1000)
    (q : ∀ g G', Ex [] G G' → GrpAt G' g (gfold nl [] R) → Q (.ref g) G') : OC W A Fs G [.ref tr, .ref nu] 145 Q := by
  refine CALL_fnC (n := n + 1) (m := [("tree", .ref tr)]) (cv := [("numbers", .ref nu)]) X hA (by exact rfl) rfl rfl rfl rfl rfl rfl rfl (B2 fun s v1 v2 => BindsTo.of_eq rfl) rfl (by decide) rfl rfl ?_
  intro L hL0
  show EX _ _ _ _ _ (G.set (L + 1) (.cell (some (.ref nu)))) _ _
  have hA' := hA.deeper (n := n + 1)
  have hcG : G (L + 1) = none := hL0 _ (Nat.le_succ _)
  generalize hc : L + 1 = c at *
  generalize hG0 : G.set c (.cell (some (.ref nu))) = G0
  have k0 : Keeps G G0 := hG0 ▸ (Keeps.refl G).set hcG
  have c0 : G0 c = some (.cell (some (.ref nu))) := by rw [← hG0]; exact Mem.set_self _ _ _
  refine EX_cons (EX_assign (EV_dict0 (sysB X) (.dT [] 0) (.inr (.inr rfl)) fun g hg => (SV_name (SV_local rfl rfl rfl ?_))))
  have k1 : Keeps G0 (G0.set g (.dT [] 0)) := (Keeps.refl G0).set hg
  refine EX_cons (EX_forS (fun i G3 => Sub [] G0 G3 ∧ GrpF G0 G3 g (gfold nl [] (R.take i))) (fun h k => ⟨h.1.trans k, h.2.sub k⟩) (Sup.refl _)
    (EV_attr X ((EV_local rfl rfl rfl rfl ⟨tr, 244, dx, _, .ref fl, rfl, k1 _ _ (k0 _ _ ht), k1 _ _ (k0 _ _ hd), (⟨by exact rfl, by exact rfl, by exact rfl⟩ : PlainAttr _ _ _), rfl, fr, _, IT_list (hA' _).h (k1 _ _ (k0 _ _ hf)), fun i G3 h => h.1 _ _ (k0 _ _ hf) rfl (by simp), ⟨fun a o e _ _ => k1 a o e, [], 0, Mem.set_self _ _ _, .nil, List.nodup_nil, List.nodup_nil, fun _ h => nomatch h⟩, ?turn, ?done⟩))))
  case turn =>
    rintro i x G3 hi ⟨hs3, hG3⟩ hkt
    have x3 : Ex [] G0 G3 := ⟨hs3, fun a o e r => hkt a o (k1 a o e) r⟩
    obtain ⟨r, hr, f, rfl, hF⟩ := hR.get hi
    obtain ⟨dy, f1, f2⟩ := hF.sub (Ws := []) (fun a o e r n => hs3 a o (k0 a o e) r n)
    obtain ⟨rz1, rz2, rz3, rz4⟩ := hRs r (List.mem_of_getElem? hr)
    have htake : gfold nl [] (R.take (i + 1)) = gstep (gfold nl [] (R.take i)) [pad4 r.s, pad4 r.l] (pad4 r.t) (nums nl r.ns) := by
      unfold gfold
      rw [List.take_add_one, hr, List.foldl_append]; rfl
    have hsz := gfold_size nl (R.take i) [] 0 ⟨Nat.le_refl _, fun _ h => nomatch h⟩ fun _ h => nomatch h
    have hil : 0 + (R.take i).length ≤ 63 := by simp; omega
    obtain ⟨hfl, hfz⟩ := nums_low hlow r.ns
    generalize gfold nl [] (R.take i) = P at *
    have cell3 := hs3 _ _ c0 rfl (by simp)
    have num3 := hs3 _ _ (k0 _ _ hn) rfl (by simp)
    refine (SV_name (SV_local rfl rfl rfl ?_))
    -- found
    refine EX_cons (EX_assignCompI (cl := [("numbers", c)]) (by exact rfl) (by rw [← hc]; exact rfl) (by decide) rfl (by decide) rfl rfl rfl (EV_attr X ((EV_local rfl rfl rfl rfl ⟨f, 272, dy, _, .tup (r.ns.map .str), rfl, f1, f2, (⟨by exact rfl, by exact rfl, by exact rfl⟩ : PlainAttr _ _ _), rfl, ?_⟩))))
    refine ⟨fun j acc G5 => Sub [] G3 G5 ∧ acc = (nums nl (r.ns.take j)).map .int, (fun h k => ⟨h.1.trans k, h.2⟩), _, _, IT_tuple (hA' _).h, fun _ _ _ _ => trivial, ⟨Sub.refl _ _, rfl⟩, by rw [sizeLine_eq]; simp; omega, ?turn2, ?done2⟩
    case turn2 =>
      rintro C j x acc G5 hj ⟨hs5, rfl⟩
      obtain ⟨nm, hk1, rfl⟩ : ∃ k, r.ns[j]? = some k ∧ x = .str k := by
        rw [List.getElem?_map] at hj
        obtain ⟨t, e1, e2⟩ := Option.map_eq_some_iff.mp hj
        exact ⟨t, e1, e2.symm⟩
      have c5 := hs5 _ _ cell3 rfl (by simp)
      have n5 := hs5 _ _ num3 rfl (by simp)
      have htk : nums nl (r.ns.take (j + 1)) = nums nl (r.ns.take j) ++ (pget nl nm).toList := by
        unfold nums
        rw [List.take_add_one, hk1, List.filterMap_append]
        cases h : pget nl nm <;> simp [h]
      refine (SV_name (SV_local rfl rfl rfl ?_))
      show EB _ _ _ _ _ _
      refine EB_compare ((EV_local rfl rfl rfl rfl (EV_cell (c := c) rfl rfl rfl c5 (O2_in_dS n5 (OB_bool ?_)))))
      rw [aget_numK]
      cases h : pget nl nm with
      | none =>
        rw [h] at htk
        exact ⟨KeepIt.refl _, hs5, by rw [htk]; simp⟩
      | some v =>
        rw [h] at htk
        refine EV_subS (EV_cell (c := c) rfl rfl rfl c5 ((EV_local rfl rfl rfl rfl ⟨nu, numK nl, nm, ne, .int v, rfl, rfl, n5, by rw [aget_numK, h]; rfl, KeepIt.refl _, hs5, by rw [htk]; simp⟩)))
    case done2 =>
      rintro acc G5 D hD ⟨hs5, rfl⟩ hkeep5
      rw [show (r.ns.map AV.str).length = r.ns.length by simp, List.take_length]
      have x35 : Ex [] G3 G5 := ⟨hs5, hkeep5⟩
      generalize hG6 : G5.set D (.list ((nums nl r.ns).map .int)) = G6
      have x36 : Ex [] G3 G6 := hG6 ▸ x35.trans ((Keeps.refl G5).set hD).ex
      have d6 : G6 D = some (.list ((nums nl r.ns).map .int)) := by rw [← hG6]; exact Mem.set_self _ _ _
      have dS : ∀ x ∈ ([] : List AV), (toPD x).depth ≤ 60 := fun _ h => nomatch h
      refine EX_cons (EX_if (EB_compare ((EV_local rfl rfl rfl rfl (EV_list (ES_nil ⟨by rw [sizeLine_eq]; simp, fun b hb => O2_ne_list (hA' _) (l := (nums nl r.ns).map .int) (l' := []) ?_ (Mem.set_self _ _ _) (dats_ints _) rfl ?_ dS (OB_bool ?_)⟩))))))
      · rw [Mem.set_ne]; exact d6
        intro q; rw [q, hb] at d6; cases d6
      · intro x hx
        obtain ⟨i, _, rfl⟩ := List.mem_map.mp hx
        simp [toPD, PyData.depth]
      rw [eqv_nil]
      generalize hG7 : G6.set b (.list []) = G7
      have x37 : Ex [] G3 G7 := hG7 ▸ x36.trans ((Keeps.refl G6).set hb).ex
      have d7 : G7 D = some (.list ((nums nl r.ns).map .int)) := by
        rw [← hG7, Mem.set_ne]; exact d6
        intro q; rw [q, hb] at d6; cases d6
      clear hG7 hG6 hb d6 x36 x35 hs5 hkeep5 hD
      generalize hfd : nums nl r.ns = found at *
      by_cases hne : found = []
      · rw [decide_eq_false (by simpa using hne)]
        refine EX_nil (EX_nil ⟨x37.its, by (focus (repeat (first | exact Sup.refl _ | exact Sup.nil _ | refine Sup.cons (by exact rfl) ?_))), hs3.trans x37.sub, ?_⟩)
        rw [htake, show gstep P [pad4 r.s, pad4 r.l] (pad4 r.t) found = P by unfold gstep; rw [if_pos hne]]
        exact hG3.sub x37.sub
      · rw [decide_eq_true hne]
        have e1 : gstep P [pad4 r.s, pad4 r.l] (pad4 r.t) found = gput (gadd P [pad4 r.s, pad4 r.l]) [pad4 r.s, pad4 r.l] (pad4 r.t) (low3 (gval (gadd P [pad4 r.s, pad4 r.l]) [pad4 r.s, pad4 r.l] (pad4 r.t) ++ found)) := by unfold gstep; rw [if_neg hne]
        rw [e1] at htake
        have F7 := x37.sub _ _ f1 rfl (by simp)
        have F7' := x37.sub _ _ f2 rfl (by simp)
        refine EX_cons (EX_assign (EV_tuple (ES_cons (EV_call X (by exact rfl) rfl rfl rfl rfl (ES_cons (EV_attr X ((EV_local rfl rfl rfl rfl ⟨f, 272, dy, _, .str r.s, rfl, F7, F7', (⟨by exact rfl, by exact rfl, by exact rfl⟩ : PlainAttr _ _ _), rfl, ES_nil (OC.ol (C_padded (n := n) X (hA' _) (by rw [sizeLine_eq]; omega) (ES_cons (EV_call X (by exact rfl) rfl rfl rfl rfl (ES_cons (EV_attr X ((EV_local rfl rfl rfl rfl ⟨f, 272, dy, _, .str r.l, rfl, F7, F7', (⟨by exact rfl, by exact rfl, by exact rfl⟩ : PlainAttr _ _ _), rfl, ES_nil (OC.ol (C_padded (n := n) X (hA' _) (by rw [sizeLine_eq]; omega) (ES_nil ⟨by rw [sizeLine_eq]; simp, (SV_name (SV_local rfl rfl rfl ?_))⟩)))⟩))))))))⟩))))))))
        have hG7 := hG3.sub x37.sub
        have x07 := x3.trans x37
        have hF0 : ∃ dz, G0 f = some (.inst 272 dz) ∧ G0 dz = some (.ns [("tag", .str r.t), ("script", .str r.s), ("language", .str r.l), ("lookups", .tup (r.ns.map .str))]) := hF.sub (Ws := []) k0.ex.sub
        obtain ⟨dz, z1, z2⟩ := hF0
        refine EX_cons (EX.mono (Q := fun af m' G8 => af = .next ∧ Sup m' [("tree", .ref tr), ("groups", .ref g), ("feature", .ref f), ("found", .ref D), ("key", tupS [pad4 r.s, pad4 r.l])] ∧ Ex [] G0 G8 ∧ KeepIt G3 G8 ∧ G8 D = some (.list (found.map .int)) ∧ GrpF G0 G8 g (gadd P [pad4 r.s, pad4 r.l])) ?ifs ?rest)
        case ifs =>
          obtain ⟨kvs, e, g7, inn, nd, kn, hfr⟩ := id hG7
          refine EX_if (EB_compare ((EV_local rfl rfl rfl rfl ((EV_local rfl rfl rfl rfl (O2_notIn_dT (k := [pad4 r.s, pad4 r.l]) (hA' _) g7 (OB_bool ?_)))))))
          cases hP : pget P [pad4 r.s, pad4 r.l] with
          | some Pin =>
            obtain ⟨d, ikv, ie, h1, _⟩ := GrpAt.inner inn hP
            rw [h1]
            refine EX_nil ⟨rfl, by (focus (repeat (first | exact Sup.refl _ | exact Sup.nil _ | refine Sup.cons (by exact rfl) ?_))), x07, x37.its, d7, ?_⟩
            have : gadd P [pad4 r.s, pad4 r.l] = P := by unfold gadd; rw [if_pos (List.mem_map.mpr ⟨_, pget_mem hP, rfl⟩)]
            rw [this]; exact hG7
          | none =>
            have hk : [pad4 r.s, pad4 r.l] ∉ P.map (·.1) := pget_none.mp hP
            have h1 : aget kvs [pad4 r.s, pad4 r.l] = none := by
              have := All2.pget (InnersAt.all inn) [pad4 r.s, pad4 r.l]
              rw [hP] at this; exact this
            rw [h1]
            have hgr : kvs.length ≤ sizeLine := by rw [All2.length inn, sizeLine_eq]; have := hsz.1.1; omega
            refine EX_cons (EX_assign (EV_dict0 (sysB X) (.dS [] 0) (.inl rfl) fun d hd => SV_sub ((EV_local rfl rfl rfl rfl ((EV_local rfl rfl rfl rfl (O3_set_dT (k := [pad4 r.s, pad4 r.l]) (hA' _) (kvs := kvs) (e := e) ?_ hgr fun e' => ?_)))))))
            · rw [Mem.set_ne]; exact g7
              intro q; rw [q, hd] at g7; cases g7
            · have hd0 := x07.none hd
              refine EX_nil ⟨rfl, by (focus (repeat (first | exact Sup.refl _ | exact Sup.nil _ | refine Sup.cons (by exact rfl) ?_))), (x07.setN hd0).setN hg, x37.its.trans ((KeepIt.setNew hd).trans (KeepIt.setReal (o0 := .dT kvs e) ?_ rfl)), ?_, ?_⟩
              · rw [Mem.set_ne]; exact g7
                intro q; rw [q, hd] at g7; cases g7
              · rw [Mem.set_ne, Mem.set_ne]
                · exact d7
                · intro q; rw [q, hd] at d7; cases d7
                · intro q; rw [q, g7] at d7; cases d7
              · have : gadd P [pad4 r.s, pad4 r.l] = P ++ [([pad4 r.s, pad4 r.l], [])] := by unfold gadd; rw [if_neg hk]
                rw [this]
                exact GrpF.add g7 hG7 hk hd hd0
        case rest =>
          rintro af m8 G8 ⟨rfl, hsup8, x8, k8, d8, hG8⟩
          refine EX.weaken (m' := [("tree", .ref tr), ("groups", .ref g), ("feature", .ref f), ("found", .ref D), ("key", tupS [pad4 r.s, pad4 r.l])]) ?_ hsup8
          have F8 := x8.sub _ _ z1 rfl (by simp)
          have F8' := x8.sub _ _ z2 rfl (by simp)
          refine EX_cons (EX_assign (EV_call X (by exact rfl) rfl rfl rfl rfl (ES_cons (EV_attr X ((EV_local rfl rfl rfl rfl ⟨f, 272, dz, _, .str r.t, rfl, F8, F8', (⟨by exact rfl, by exact rfl, by exact rfl⟩ : PlainAttr _ _ _), rfl, ES_nil (OC.ol (C_padded (n := n) X (hA' _) (by rw [sizeLine_eq]; omega) ((SV_name (SV_local rfl rfl rfl ?_)))))⟩))))))
          obtain ⟨kvs, e, g8, inn, nd, kn, hfr⟩ := id hG8
          obtain ⟨Pin, hPin⟩ := gadd_get (P := P) (key := [pad4 r.s, pad4 r.l])
          obtain ⟨d, ikv, ie, hd1, hd2, hd3⟩ := GrpAt.inner inn hPin
          have hdn : G0 d = none := hfr _ (pget_mem hd1) d rfl
          have hval : gval (gadd P [pad4 r.s, pad4 r.l]) [pad4 r.s, pad4 r.l] (pad4 r.t) = (pget Pin (pad4 r.t)).getD [] := by unfold gval; rw [hPin]; rfl
          have hlow8 := (hsz.2.gadd [pad4 r.s, pad4 r.l]).val [pad4 r.s, pad4 r.l] (pad4 r.t)
          have hsz8 : Pin.length ≤ 100 := by
            have hm := pget_mem hPin
            unfold gadd at hm
            split at hm
            · have := hsz.1.2 _ hm; dsimp only at this; omega
            · rcases List.mem_append.mp hm with hm | hm
              · have := hsz.1.2 _ hm; dsimp only at this; omega
              · have := List.mem_singleton.mp hm
                injection this with _ h2; rw [h2]; simp
          refine EX_cons (EX_assign (EV_sortset X (hA' _).h (by exact rfl) (by exact rfl) rfl rfl rfl rfl rfl rfl rfl rfl rfl (EV_binop (EV_method "dict" "dict.get" F.plainAttrs_dict F.slot_dict_get F.type_dict_get (EV_subT (hA' _) ((EV_local rfl rfl rfl rfl ((EV_local rfl rfl rfl rfl ⟨g, kvs, [pad4 r.s, pad4 r.l], e, .ref d, rfl, rfl, g8, hd1, TyIs.dS hd2, ES_cons ((EV_local rfl rfl rfl rfl (ES_cons (EV_list (ES_nil ⟨by rw [sizeLine_eq]; simp, fun b2 hb2 => ES_nil (OL_get2_dS (kvs := ikv) (e := ie) ?_ ?_)⟩)))))⟩)))))))))
          · rw [Mem.set_ne]; exact hd2
            intro q; rw [q, hb2] at hd2; cases hd2
          · have hkb : Keeps G8 (G8.set b2 (.list [])) := (Keeps.refl G8).set hb2
            obtain ⟨b, e1, hb⟩ : ∃ b, (aget ikv (pad4 r.t)).getD (.ref b2) = .ref b ∧ (G8.set b2 (.list [])) b = some (.list (((pget Pin (pad4 r.t)).getD []).map .int)) := by
              have := hd3.get (pad4 r.t)
              cases hq : pget Pin (pad4 r.t) with
              | none => rw [hq] at this; rw [this]; exact ⟨b2, rfl, Mem.set_self _ _ _⟩
              | some ns => rw [hq] at this; obtain ⟨l, h1, h2⟩ := this; rw [h1]; exact ⟨l, rfl, hkb _ _ h2⟩
            rw [e1]
            rw [← hval] at hb
            refine (EV_local rfl rfl rfl rfl (O2_add_list hb (hkb _ _ d8) (by rw [sizeLine_eq]; simp; omega) fun b3 hb3 => ⟨b3, gval (gadd P [pad4 r.s, pad4 r.l]) [pad4 r.s, pad4 r.l] (pad4 r.t) ++ found, rfl, by rw [Mem.set_self, List.map_append], fun i hi => ?_, fun b4 G9 k9 hb4 => ?_⟩))
            · rcases List.mem_append.mp hi with hi | hi
              · exact hlow8.1 i hi
              · exact hfl i hi
            · have k89 : Keeps G8 G9 := (hkb.trans ((Keeps.refl _).set hb3)).trans k9
              have hik : ikv.length ≤ sizeLine := by rw [All2.length hd3, sizeLine_eq]; omega
              refine SV_sub (EV_subT (hA' _) ((EV_local rfl rfl rfl rfl ((EV_local rfl rfl rfl rfl ⟨g, kvs, [pad4 r.s, pad4 r.l], e, .ref d, rfl, rfl, k89 _ _ g8, hd1, (EV_local rfl rfl rfl rfl (O3_set_dS (k89 _ _ hd2) hik fun e' => ?_))⟩)))))
              refine EX_nil (EX_nil ⟨?_, by (focus (repeat (first | exact Sup.refl _ | exact Sup.nil _ | refine Sup.cons (by exact rfl) ?_))), ?_, ?_⟩)
              · exact k8.trans ((k89.ex (Ws := [])).its.trans (KeepIt.setReal (k89 _ _ hd2) rfl))
              · exact ((x8.trans k89.ex).setN hdn).sub
              · rw [htake]
                unfold gput
                rw [hPin]
                exact GrpF.put (k89 _ _ g8) (hG8.sub k89.ex.sub) hPin hd1 (k89 _ _ hd2) (hd3.keep fun l v h => k89 _ _ h) hb4
  case done =>
    rintro m3 G3 hm ⟨hs3, hG3⟩ hkeep
    have x3 : Ex [] G0 G3 := ⟨hs3, fun a o e r => hkeep a o (k1 a o e) r⟩
    have : R.take fr.length = R := by rw [hR.length]; exact List.take_length
    rw [this] at hG3
    refine EX.weaken (EX_cons (EX_return ((EV_local rfl rfl rfl rfl (q g G3 ((k0.ex).trans x3) hG3.at))))) hm
end
end Mine

namespace Mine
def strFits (x : Str) : Prop := (PyData.str x).canLay0 = true
theorem rowA_dat {r : Str × List Int} (h : strFits r.1) : (rowA r).dat = true := by
  unfold strFits at h
  simp only [rowA, AV.dat, AV.dats, dats_ints, h, Bool.and_true]
theorem rowA_depth (r : Str × List Int) : (toPD (rowA r)).depth ≤ 2 := by
  simp only [rowA, toPD, toPDs, PyData.depth, PyData.depthAll, depth_ints]; omega
theorem rowA_inj {r r' : Str × List Int} (h : rowA r = rowA r') : r = r' := by
  obtain ⟨a, l⟩ := r; obtain ⟨b, m⟩ := r'
  simp only [rowA, AV.tup.injEq, List.cons.injEq, AV.str.injEq, and_true] at h
  obtain ⟨rfl, h⟩ := h
  have : l = m := by
    induction l generalizing m with
    | nil => cases m <;> simp_all
    | cons x l ih =>
      cases m with
      | nil => simp at h
      | cons y m =>
        simp only [List.map_cons, List.cons.injEq, AV.int.injEq] at h
        rw [h.1, ih m h.2]
  rw [this]
theorem any_row {Rw : List (Str × List Int)} {r : Str × List Int} (hR : ∀ x ∈ Rw, strFits x.1) (hr : strFits r.1) : ((Rw.map rowA).any fun y => PyData.eqv (toPD y) (toPD (rowA r))) = decide (r ∈ Rw) := by
  rw [Bool.eq_iff_iff, List.any_eq_true, decide_eq_true_iff]
  constructor
  · rintro ⟨y, hy, e⟩
    obtain ⟨x, hx, rfl⟩ := List.mem_map.mp hy
    rw [eqv_iff _ _ (rowA_dat (hR x hx)) (rowA_dat hr)] at e
    rw [← rowA_inj e]; exact hx
  · intro h
    exact ⟨rowA r, List.mem_map_of_mem h, (eqv_iff _ _ (rowA_dat hr) (rowA_dat hr)).mpr rfl⟩
def KeysG (P : GR) (KS : List (Str × Str)) : Prop := P.map (·.1) = KS.map (fun p => [p.1, p.2]) ∧ (∀ p ∈ KS, strFits p.1 ∧ strFits p.2) ∧ ∀ q ∈ P, ∀ r ∈ q.2, strFits r.1
section
variable {W : Wd} {A : Around} {Fs : List FA} {G : Mem} {Q : AV → Mem → Prop} {n : Nat}
theorem C_feature_rows {g : Addr} {P : GR} {KS : List (Str × Str)} (X : Base W (KP W)) (hA : AOk (n + 1) A) (hG : GrpAt G g P) (hK : KeysG P KS) (hPz : P.length ≤ 60) (hT : (P.flatMap (·.2)).length ≤ 60) (hin : ∀ q ∈ P, (q.2.map (·.1)).Nodup ∧ q.2.length ≤ 60 ∧ ∀ r ∈ q.2, r.2.length ≤ 1000)
    (q : ∀ b G' (Rw : List (Str × List Int)), Ex [] G G' → (∀ r, r ∈ Rw ↔ ∃ p ∈ P, r ∈ p.2) → Rw.Nodup → G' b = some (.list (Rw.map rowA)) → Q (.ref b) G') : OC W A Fs G [.ref g] 152 Q := by
  refine CALL_fnC (n := n) (m := [("groups", .ref g)]) (cv := []) X hA (by exact rfl) rfl rfl rfl rfl rfl rfl rfl (B1 fun s v1 => BindsTo.of_eq rfl) rfl (by decide) rfl rfl ?_
  intro L hL0
  show EX _ _ _ _ _ G _ _
  have hA' := hA.deeper (n := n)
  have sl : sizeLine = 16777216 := sizeLine_eq
  refine EX_cons (EX_assign (EV_list (ES_nil ⟨Nat.zero_le _, fun rb hrb => (SV_name (SV_local rfl rfl rfl ?_))⟩)))
  have k1 : Keeps G (G.set rb (.list [])) := (Keeps.refl G).set hrb
  generalize hG1 : G.set rb (.list []) = G1 at *
  have r1 : G1 rb = some (.list []) := by rw [← hG1]; exact Mem.set_self _ _ _
  obtain ⟨kvs, e, g0, inn, nd, kn⟩ := id hG
  have hu : ∀ {A : Around}, AOk n A → A.in1.in1.units + 30 < cLine := fun {A} h => by have := h.u; have : A.in1.in1.units = A.units + 2 := rfl; omega
  have hKl : KS.length = P.length := by have := congrArg List.length hK.1; simpa using this.symm
  have hkeys : (kvs.map fun p => tupS p.1) = KS.map pairA := by
    have : kvs.map (fun p => tupS p.1) = (kvs.map (·.1)).map tupS := by rw [List.map_map]; rfl
    rw [this, All2.keys (InnersAt.all inn), hK.1, List.map_map]; rfl
  refine EX_cons (EX_forSI (m0 := [("groups", .ref g), ("rows", .ref rb)]) (by (focus (repeat (first | exact Sup.refl _ | exact Sup.nil _ | refine Sup.cons (by exact rfl) ?_)))) (EV_callB X (by exact rfl) rfl (by decide) rfl rfl rfl rfl (ES_cons ((EV_local rfl rfl rfl rfl (ES_nil
    (OL_sorted (P := fun avs => avs = KS.map pairA) (P' := fun _ avs' => avs'.Perm (KS.map pairA)) (fun s v hs r R hR => COL_dT (hA' _).h1 (by rw [All2.length inn]; omega) (k1 _ _ g0) s v hs r R fun vs avs s' a1 a2 a3 a4 => hR vs avs s' a1 a2 a3 (by rw [a4, hkeys]))
      (fun avs h => by rw [h]; simp; omega) (fun avs h => by rw [h]; exact SRT_pairs (by omega) (hu (hA' _)) hK.2.1) fun avs avs' D hP hP' hD => ?_)))))))
  obtain ⟨ks, rfl, hks⟩ := perm_map_inv hP'
  have hDr : D ≠ rb := fun q => by rw [q, r1] at hD; cases hD
  have k2 : Keeps G1 (G1.set D (.list (ks.map pairA))) := (Keeps.refl G1).set hD
  have d2 : (G1.set D (.list (ks.map pairA))) D = some (.list (ks.map pairA)) := Mem.set_self _ _ _
  generalize hG2 : G1.set D (.list (ks.map pairA)) = G2 at *
  have k02 := k1.trans k2
  have r2 := k2 _ _ r1
  have key : ∀ {G3 : Mem}, Sub [rb] G2 G3 → Sub [] G G3 := fun h a o e r _ => h a o (k02 a o e) r (by
    rw [List.mem_singleton]; intro e2; rw [e2, hrb] at e; cases e)
  have bound : ∀ {Rw : List (Str × List Int)}, Rw.Nodup → (∀ r ∈ Rw, ∃ p ∈ P, r ∈ p.2) → Rw.length ≤ 60 := fun hn hsub => Nat.le_trans (len_sub (P.flatMap (·.2)) _ hn fun x hx => by
    obtain ⟨p, hp, hx⟩ := hsub x hx
    exact List.mem_flatMap.mpr ⟨p, hp, hx⟩) hT
  refine ⟨fun i G3 => Sub [rb] G2 G3 ∧ ∃ Rw : List (Str × List Int), G3 rb = some (.list (Rw.map rowA)) ∧ Rw.Nodup ∧ ∀ r, r ∈ Rw ↔ ∃ p ∈ ks.take i, ∃ Pin, pget P [p.1, p.2] = some Pin ∧ r ∈ Pin, _, _, (fun h k => ⟨h.1.trans (k.up (by simp)), let ⟨Rw, h1, h2⟩ := h.2; ⟨Rw, k _ _ h1 rfl (by simp), h2⟩⟩), IT_list (hA' _).h d2, fun i G3 h => h.1 _ _ d2 rfl (by simpa using hDr), ⟨Sub.refl _ _, [], r2, List.nodup_nil, by simp⟩, ?turn, ?done⟩
  case turn =>
    rintro i x G3 hi ⟨hs3, Rw, h3, hnd, hmem⟩ hkt
    obtain ⟨p, hp1, rfl⟩ : ∃ p, ks[i]? = some p ∧ x = pairA p := by
      rw [List.getElem?_map] at hi
      obtain ⟨k, e1, e2⟩ := Option.map_eq_some_iff.mp hi
      exact ⟨k, e1, e2.symm⟩
    have hpK : p ∈ KS := hks.mem_iff.mp (List.mem_of_getElem? hp1)
    have hpP : [p.1, p.2] ∈ P.map (·.1) := by rw [hK.1]; exact List.mem_map.mpr ⟨p, hpK, rfl⟩
    obtain ⟨Pin, hPin⟩ : ∃ Pin, pget P [p.1, p.2] = some Pin := by
      cases e : pget P [p.1, p.2] with
      | some v => exact ⟨v, rfl⟩
      | none => exact absurd hpP (pget_none.mp e)
    obtain ⟨d, ikv, ie, hd1, hd2, hd3⟩ := GrpAt.inner inn hPin
    obtain ⟨in1, in2, in3⟩ := hin _ (pget_mem hPin)
    dsimp only at in1 in2 in3
    have s3 := key hs3
    have g3 := s3 _ _ g0 rfl (by simp)
    have e3 := s3 _ _ hd2 rfl (by simp)
    have l3 : ListsAt G3 ikv Pin := hd3.keep fun l v h => s3 _ _ h rfl (by simp)
    have hik : (ikv.map fun p => AV.str p.1) = (Pin.map (·.1)).map .str := by
      have : ikv.map (fun p => AV.str p.1) = (ikv.map (·.1)).map .str := by rw [List.map_map]; rfl
      rw [this, All2.keys (ListsAt.all hd3)]
    have htake : ks.take (i + 1) = ks.take i ++ [p] := by rw [List.take_add_one, hp1]; rfl
    refine (SV_name (SV_local rfl rfl rfl ?_))
    refine EX_cons (EX_forSI (m0 := [("groups", .ref g), ("rows", .ref rb), ("key", pairA p)]) (by (focus (repeat (first | exact Sup.refl _ | exact Sup.nil _ | refine Sup.cons (by exact rfl) ?_)))) (EV_callB X (by exact rfl) rfl (by decide) rfl rfl rfl rfl (ES_cons (EV_subT (hA' _) ((EV_local rfl rfl rfl rfl ((EV_local rfl rfl rfl rfl ⟨g, kvs, [p.1, p.2], e, .ref d, rfl, rfl, g3, hd1, ES_nil
      (OL_sorted (P := fun avs => avs = (Pin.map (·.1)).map .str) (P' := fun _ avs' => avs'.Perm ((Pin.map (·.1)).map .str)) (fun s v hs r R hR => COL_dS (hA' _).h1 (by rw [All2.length hd3]; omega) e3 s v hs r R fun vs avs s' a1 a2 a3 a4 => hR vs avs s' a1 a2 a3 (by rw [a4, hik]))
        (fun avs h => by rw [h]; simp; omega) (fun avs h => by rw [h]; exact SRT_strs (by simp; omega)) fun avs avs' D2 hP2 hP2' hD2 => ?_)⟩))))))))
    obtain ⟨ts, rfl, hts⟩ := perm_map_inv hP2'
    have hDr2 : D2 ≠ rb := fun q => by rw [q, h3] at hD2; cases hD2
    have k4 : Keeps G3 (G3.set D2 (.list (ts.map .str))) := (Keeps.refl G3).set hD2
    have d4 : (G3.set D2 (.list (ts.map .str))) D2 = some (.list (ts.map .str)) := Mem.set_self _ _ _
    generalize hG4 : G3.set D2 (.list (ts.map .str)) = G4 at *
    have s4 : Sub [] G G4 := fun a o e r n => k4 a o (s3 a o e r n)
    have h4 := k4 _ _ h3
    have key4 : ∀ {G5 : Mem}, Sub [rb] G4 G5 → Sub [] G G5 := fun h a o e r _ => h a o (s4 a o e r (by simp)) r (by
      rw [List.mem_singleton]; intro e2; rw [e2, hrb] at e; cases e)
    refine ⟨fun j G5 => Sub [rb] G4 G5 ∧ ∃ Rw' : List (Str × List Int), G5 rb = some (.list (Rw'.map rowA)) ∧ Rw'.Nodup ∧ ∀ r, r ∈ Rw' ↔ r ∈ Rw ∨ ∃ t ∈ ts.take j, ∃ ns, pget Pin t = some ns ∧ r = (t, ns), _, _, (fun h k => ⟨h.1.trans (k.up (by simp)), let ⟨Rw, h1, h2⟩ := h.2; ⟨Rw, k _ _ h1 rfl (by simp), h2⟩⟩), IT_list (hA' _).h d4, fun i G3 h => h.1 _ _ d4 rfl (by simpa using hDr2), ⟨Sub.refl _ _, Rw, h4, hnd, by simp⟩, ?turn2, ?done2⟩
    case turn2 =>
      rintro j x G5 hj ⟨hs5, Rw', h5, hnd5, hmem5⟩ hkt5
      obtain ⟨t, ht1, rfl⟩ : ∃ p, ts[j]? = some p ∧ x = .str p := by
        rw [List.getElem?_map] at hj
        obtain ⟨k, e1, e2⟩ := Option.map_eq_some_iff.mp hj
        exact ⟨k, e1, e2.symm⟩
      have htP : t ∈ Pin.map (·.1) := hts.mem_iff.mp (List.mem_of_getElem? ht1)
      obtain ⟨ns, hns⟩ : ∃ ns, pget Pin t = some ns := by
        cases e : pget Pin t with
        | some v => exact ⟨v, rfl⟩
        | none => exact absurd htP (pget_none.mp e)
      have s5 := key4 hs5
      have g5 := s5 _ _ g0 rfl (by simp)
      have e5 := s5 _ _ hd2 rfl (by simp)
      have l5 : ListsAt G5 ikv Pin := hd3.keep fun l v h => s5 _ _ h rfl (by simp)
      have hget := l5.get t
      rw [hns] at hget
      obtain ⟨l, hl1, hl2⟩ := hget
      have hnsz := in3 _ (pget_mem hns)
      dsimp only at hnsz
      have hfit : strFits t := hK.2.2 _ (pget_mem hPin) _ (pget_mem hns)
      have hall : ∀ x ∈ Rw', ∃ p ∈ P, x ∈ p.2 := fun x hx => by
        rcases (hmem5 x).mp hx with hx | ⟨t', _, ns', h1, rfl⟩
        · obtain ⟨p', _, Pin', h1, h2⟩ := (hmem x).mp hx
          exact ⟨_, pget_mem h1, h2⟩
        · exact ⟨_, pget_mem hPin, pget_mem h1⟩
      have hfitR : ∀ x ∈ Rw', strFits x.1 := fun x hx => by
        obtain ⟨p', h1, h2⟩ := hall x hx
        exact hK.2.2 _ h1 _ h2
      have hb5 := bound hnd5 hall
      have htk : ts.take (j + 1) = ts.take j ++ [t] := by rw [List.take_add_one, ht1]; rfl
      refine (SV_name (SV_local rfl rfl rfl ?_))
      refine EX_cons (EX_assign (EV_tuple (ES_cons ((EV_local rfl rfl rfl rfl (ES_cons (EV_callT X (by exact rfl) rfl (by decide) rfl rfl rfl rfl (ES_cons (EV_subS (EV_subT (hA' _) ((EV_local rfl rfl rfl rfl ((EV_local rfl rfl rfl rfl ⟨g, kvs, [p.1, p.2], e, .ref d, rfl, rfl, g5, hd1, (EV_local rfl rfl rfl rfl ⟨d, ikv, t, ie, .ref l, rfl, rfl, e5, hl1, ES_nil (OL_tuple hl2 (by simp; omega) (ES_nil ⟨by rw [sl]; simp, (SV_name (SV_local rfl rfl rfl ?_))⟩))⟩)⟩))))))))))))))
      refine EX_cons (EX_if (EB_compare ((EV_local rfl rfl rfl rfl ((EV_local rfl rfl rfl rfl (O2_notIn_list (x := rowA (t, ns)) (hA' _) h5 (dats_iff.mpr fun x hx => ?_) (rowA_dat hfit) (Nat.le_trans (rowA_depth _) (by omega)) (OB_bool ?_))))))))
      · obtain ⟨r, hr, rfl⟩ := List.mem_map.mp hx
        exact rowA_dat (hfitR r hr)
      rw [any_row hfitR hfit]
      by_cases hin5 : (t, ns) ∈ Rw'
      · rw [decide_eq_true hin5]
        refine EX_nil (EX_nil ⟨KeepIt.refl _, by (focus (repeat (first | exact Sup.refl _ | exact Sup.nil _ | refine Sup.cons (by exact rfl) ?_))), hs5, Rw', h5, hnd5, fun r => ?_⟩)
        rw [hmem5 r, htk]
        constructor
        · rintro (h | ⟨t', h1, h2⟩)
          · exact .inl h
          · exact .inr ⟨t', by simp [h1], h2⟩
        · rintro (h | ⟨t', h1, ns', h2, rfl⟩)
          · exact .inl h
          · rcases List.mem_append.mp h1 with h1 | h1
            · exact .inr ⟨t', h1, ns', h2, rfl⟩
            · rw [List.mem_singleton] at h1; subst h1
              rw [hns] at h2; cases h2
              exact (hmem5 _).mp hin5
      · rw [decide_eq_false hin5]
        refine EX_cons (EX_expr (EV_method "list" "list.append" F.plainAttrs_list F.slot_list_append F.type_list_append ((EV_local rfl rfl rfl rfl ⟨TyIs.list h5, ES_cons ((EV_local rfl rfl rfl rfl (ES_nil (OL_append h5 (by simp; omega) ?_))))⟩))))
        refine EX_nil (EX_nil ⟨KeepIt.setReal h5 rfl, by (focus (repeat (first | exact Sup.refl _ | exact Sup.nil _ | refine Sup.cons (by exact rfl) ?_))), hs5.trans (Sub.set (by simp)), Rw' ++ [(t, ns)], by rw [Mem.set_self, List.map_append]; rfl, List.nodup_append.mpr ⟨hnd5, by simp, fun a ha b hb e => hin5 (by simp at hb; rw [← hb, ← e]; exact ha)⟩, fun r => ?_⟩)
        rw [List.mem_append, hmem5 r, htk]
        constructor
        · rintro ((h | ⟨t', h1, h2⟩) | h)
          · exact .inl h
          · exact .inr ⟨t', by simp [h1], h2⟩
          · rw [List.mem_singleton] at h; exact .inr ⟨t, by simp, ns, hns, h⟩
        · rintro (h | ⟨t', h1, ns', h2, rfl⟩)
          · exact .inl (.inl h)
          · rcases List.mem_append.mp h1 with h1 | h1
            · exact .inl (.inr ⟨t', h1, ns', h2, rfl⟩)
            · rw [List.mem_singleton] at h1; subst h1
              rw [hns] at h2; cases h2
              exact .inr (by simp)
    case done2 =>
      rintro m5 G5 hsup5 ⟨hs5, Rw', h5, hnd5, hmem5⟩ hkeep5
      rw [show (ts.map AV.str).length = ts.length by simp, List.take_length] at hmem5
      refine EX_nil ⟨fun a o e r => hkeep5 a o (k4 a o e) r, hsup5.trans (by (focus (repeat (first | exact Sup.refl _ | exact Sup.nil _ | refine Sup.cons (by exact rfl) ?_)))), fun a o e r n => hs5 a o (k4 a o (hs3 a o e r n)) r n, Rw', h5, hnd5, fun r => ?_⟩
      rw [hmem5 r, hmem r, htake]
      constructor
      · rintro (⟨p', h1, h2⟩ | ⟨t, h1, ns, h2, rfl⟩)
        · exact ⟨p', by simp [h1], h2⟩
        · exact ⟨p, by simp, Pin, hPin, pget_mem h2⟩
      · rintro ⟨p', h1, Pin', h2, h3⟩
        rcases List.mem_append.mp h1 with h1 | h1
        · exact .inl ⟨p', h1, Pin', h2, h3⟩
        · rw [List.mem_singleton] at h1; subst h1
          rw [hPin] at h2; cases h2
          refine .inr ⟨r.1, hts.mem_iff.mpr (List.mem_map.mpr ⟨r, h3, rfl⟩), r.2, pget_of_mem in1 h3, rfl⟩
  case done =>
    rintro m3 G3 hsup ⟨hs3, Rw, h3, hnd, hmem⟩ hkeep
    rw [show (ks.map pairA).length = ks.length by simp, List.take_length] at hmem
    have hall : ∀ r, r ∈ Rw ↔ ∃ p ∈ P, r ∈ p.2 := fun r => by
      rw [hmem r]
      constructor
      · rintro ⟨p, _, Pin, h1, h2⟩; exact ⟨_, pget_mem h1, h2⟩
      · rintro ⟨p, h1, h2⟩
        have hk : p.1 ∈ P.map (·.1) := List.mem_map.mpr ⟨p, h1, rfl⟩
        rw [hK.1] at hk
        obtain ⟨k, hk1, hk2⟩ := List.mem_map.mp hk
        exact ⟨k, hks.mem_iff.mpr hk1, p.2, by rw [hk2]; exact pget_of_mem kn h1, h2⟩
    have hb := bound hnd fun r hr => (hall r).mp hr
    have hfitR : ∀ x ∈ Rw, strFits x.1 := fun x hx => by
      obtain ⟨p', h1, h2⟩ := (hall x).mp hx
      exact hK.2.2 _ h1 _ h2
    refine EX.weaken (EX_cons (EX_return (EV_callB X (by exact rfl) rfl (by decide) rfl rfl rfl rfl (ES_cons ((EV_local rfl rfl rfl rfl (ES_nil
      (OL_sorted (P := fun avs => avs = Rw.map rowA) (P' := fun _ avs' => avs'.Perm (Rw.map rowA)) (COL_list h3 (by simp; omega)) (fun avs h => by rw [h]; simp; omega) (fun avs h => by rw [h]; exact SRT_rows (by omega) (hu (hA' _)) hfitR) fun avs avs' D3 hP3 hP3' hD3 => ?_))))))))
      hsup
    obtain ⟨Rw', rfl, hR'⟩ := perm_map_inv hP3'
    refine q D3 _ Rw' ?_ (fun r => by rw [hR'.mem_iff]; exact hall r) (hR'.nodup_iff.mpr hnd) (Mem.set_self _ _ _)
    have x3 : Ex [] G G3 := ⟨key hs3, fun a o e r => hkeep a o (k02 a o e) r⟩
    exact x3.trans ((Keeps.refl G3).set hD3).ex
end
end Mine

namespace Mine
def idxR (Rw : List (Str × List Int)) (r : Str × List Int) : Nat := Rw.findIdx fun x => decide (x = r)
theorem idxR_at {Rw : List (Str × List Int)} {r : Str × List Int} (h : r ∈ Rw) : Rw[idxR Rw r]? = some r ∧ ∀ i, i < idxR Rw r → Rw[i]? ≠ some r := by
  have hlt : idxR Rw r < Rw.length := List.findIdx_lt_length_of_exists ⟨r, h, by simp⟩
  refine ⟨?_, fun i hi e => ?_⟩
  · have := List.findIdx_getElem (xs := Rw) (p := fun x => decide (x = r)) (w := hlt)
    rw [List.getElem?_eq_getElem hlt]
    have e : Rw[List.findIdx (fun x => decide (x = r)) Rw] = r := by simpa using this
    exact congrArg some e
  · have := List.not_of_lt_findIdx (xs := Rw) (p := fun x => decide (x = r)) hi
    obtain ⟨h1, h2⟩ := List.getElem?_eq_some_iff.mp e
    simp [h2] at this
section
variable {W : Wd} {A : Around} {Fs : List FA} {G : Mem} {Q : AV → Mem → Prop} {n : Nat}
theorem C_langsys_of {d rb : Addr} {ikv : List (Str × AV)} {ie : Nat} {Pin : List (Str × List Int)} {Rw : List (Str × List Int)} (X : Base W (KP W)) (hA : AOk (n + 3) A) (hd : G d = some (.dS ikv ie)) (hl : ListsAt G ikv Pin) (hr : G rb = some (.list (Rw.map rowA))) (hin : ∀ r ∈ Pin, r ∈ Rw)
    (hfit : ∀ r ∈ Rw, strFits r.1) (hn : (Pin.map (·.1)).Nodup) (hz : Pin.length ≤ 60) (hRz : Rw.length ≤ 60) (hnz : ∀ r ∈ Pin, r.2.length ≤ 1000)
    (q : ∀ a G' fs, Ex [] G G' → LSysAt G' a fs → fs.Perm (Pin.map fun r => ((idxR Rw r : Nat) : Int)) → Q (.ref a) G') : OC W A Fs G [.ref d, .ref rb] 157 Q := by
  refine CALL_fnC (n := n + 2) (m := []) (cv := [("group", .ref d), ("rows", .ref rb)]) X hA (by exact rfl) rfl rfl rfl rfl rfl rfl rfl (B2 fun s v1 v2 => BindsTo.of_eq rfl) rfl (by decide) rfl rfl ?_
  intro L hL0
  show EX _ _ _ _ _ ((G.set (L + 2) (.cell (some (.ref rb)))).set (L + 1) (.cell (some (.ref d)))) _ _
  have hA' := hA.deeper (n := n + 2)
  have sl : sizeLine = 16777216 := sizeLine_eq
  have hg1 : G (L + 1) = none := hL0 _ (Nat.le_succ _)
  have hg2 : G (L + 2) = none := hL0 _ (Nat.le_add_right L 2)
  have k0 : Keeps G ((G.set (L + 2) (.cell (some (.ref rb)))).set (L + 1) (.cell (some (.ref d)))) := ((Keeps.refl G).set hg2).set hg1
  have c1 : ((G.set (L + 2) (.cell (some (.ref rb)))).set (L + 1) (.cell (some (.ref d)))) (L + 1) = some (.cell (some (.ref d))) := Mem.set_self _ _ _
  have c2 : ((G.set (L + 2) (.cell (some (.ref rb)))).set (L + 1) (.cell (some (.ref d)))) (L + 2) = some (.cell (some (.ref rb))) := by
    rw [Mem.set_ne _ _ (Nat.succ_ne_self (L + 1))]; exact Mem.set_self _ _ _
  generalize (G.set (L + 2) (.cell (some (.ref rb)))).set (L + 1) (.cell (some (.ref d))) = G1 at *
  have hik : (ikv.map fun p => AV.str p.1) = (Pin.map (·.1)).map .str := by
    have : ikv.map (fun p => AV.str p.1) = (ikv.map (·.1)).map .str := by rw [List.map_map]; rfl
    rw [this, All2.keys (ListsAt.all hl)]
  refine EX_cons (EX_return (EV_call X (by exact rfl) (by exact rfl) rfl rfl rfl (ES_cons (EV_unary (EV_int (O1_neg_int ?_))))))
  refine ES_cons (EV_callB X (by exact rfl) rfl (by decide) rfl rfl rfl rfl (ES_cons (EV_compI (cl := [("rows", L + 2), ("group", L + 1)]) (by exact rfl) (by decide) rfl (by decide) (EV_cell rfl rfl rfl c1 ?_))))
  have hd1 := k0 _ _ hd
  have hr1 := k0 _ _ hr
  refine ⟨fun j acc G5 => Sub [] G1 G5 ∧ acc = (Pin.take j).map fun r => .int ((idxR Rw r : Nat) : Int), (fun h k => ⟨h.1.trans k, h.2⟩), _, _, IT_dS (hA' _).h hd1, fun i acc G5 h => h.1 _ _ hd1 rfl (by simp), ⟨Sub.refl _ _, rfl⟩, by simp; rw [All2.length hl]; omega, ?turn, ?done⟩
  case turn =>
    rintro C j x acc G5 hj ⟨hs5, rfl⟩
    rw [hik] at hj
    obtain ⟨t, ht1, rfl⟩ : ∃ p, (Pin.map (·.1))[j]? = some p ∧ x = .str p := by
      rw [List.getElem?_map] at hj
      obtain ⟨k, e1, e2⟩ := Option.map_eq_some_iff.mp hj
      exact ⟨k, e1, e2.symm⟩
    rw [List.getElem?_map] at ht1
    obtain ⟨r, hr0, rfl⟩ := Option.map_eq_some_iff.mp ht1
    have hrP := List.mem_of_getElem? hr0
    have d5 := hs5 _ _ hd1 rfl (by simp)
    have r5 := hs5 _ _ hr1 rfl (by simp)
    have c15 := hs5 _ _ c1 rfl (by simp)
    have c25 := hs5 _ _ c2 rfl (by simp)
    have l5 : ListsAt G5 ikv Pin := hl.keep fun l v h => hs5 _ _ (k0 _ _ h) rfl (by simp)
    have hget := l5.get r.1
    rw [pget_of_mem (v := r.2) hn hrP] at hget
    obtain ⟨l, hl1, hl2⟩ := hget
    obtain ⟨hix1, hix2⟩ := idxR_at (hin r hrP)
    have hnr := hnz r hrP
    have hfr := hfit r (hin r hrP)
    refine (SV_name (SV_local rfl rfl rfl ?_))
    refine EV_method "list" "list.index" F.plainAttrs_list F.slot_list_index F.type_list_index (EV_cell rfl rfl rfl c25 ⟨TyIs.list r5, ES_cons (EV_tuple (ES_cons ((EV_local rfl rfl rfl rfl (ES_cons (EV_callT X (by exact rfl) rfl (by decide) rfl rfl rfl rfl (ES_cons (EV_subS (EV_cell rfl rfl rfl c15 ((EV_local rfl rfl rfl rfl ⟨d, ikv, r.1, ie, .ref l, rfl, rfl, d5, hl1, ES_nil (OL_tuple hl2 (by simp; omega) (ES_nil ⟨by rw [sl]; simp, ES_nil (OL_index (x := rowA r) (j := idxR Rw r) (hA' _) r5 (dats_iff.mpr fun x hx => ?_) (rowA_dat hfr) (Nat.le_trans (rowA_depth _) (by omega)) (by simp; omega) ?_ ?_ ?_)⟩))⟩)))))))))))⟩)
    · obtain ⟨r', hr', rfl⟩ := List.mem_map.mp hx
      exact rowA_dat (hfit r' hr')
    · rw [List.getElem?_map, hix1]; rfl
    · intro i hi e
      rw [List.getElem?_map] at e
      obtain ⟨r', e1, e2⟩ := Option.map_eq_some_iff.mp e
      exact hix2 i hi (by rw [e1, rowA_inj e2])
    · refine ⟨KeepIt.refl _, hs5, ?_⟩
      rw [List.take_add_one, hr0, List.map_append]; rfl
  case done =>
    rintro acc G5 D hD ⟨hs5, rfl⟩ hkeep5
    rw [hik, show ((Pin.map (·.1)).map AV.str).length = Pin.length by simp, List.take_length]
    have x15 : Ex [] G1 G5 := ⟨hs5, hkeep5⟩
    have k56 : Keeps G5 (G5.set D (.list (Pin.map fun r => .int ((idxR Rw r : Nat) : Int)))) := (Keeps.refl G5).set hD
    have d6 : (G5.set D (.list (Pin.map fun r => .int ((idxR Rw r : Nat) : Int)))) D = some (.list ((Pin.map fun r => ((idxR Rw r : Nat) : Int)).map .int)) := by
      rw [Mem.set_self, List.map_map]; rfl
    generalize G5.set D (.list (Pin.map fun r => .int ((idxR Rw r : Nat) : Int))) = G6 at *
    refine ES_nil (OL_sorted (P := fun avs => avs = (Pin.map fun r => ((idxR Rw r : Nat) : Int)).map .int) (P' := fun _ avs' => ∃ l' : List Int, avs' = l'.map .int ∧ l'.Perm (Pin.map fun r => ((idxR Rw r : Nat) : Int)) ∧ l'.Pairwise (· ≤ ·)) (COL_list d6 (by simp; omega)) (fun avs h => by rw [h]; simp; omega) (fun avs h => by rw [h]; exact SRT_ints (by simp; omega)) fun avs avs' D2 hP hP' hD2 => ?_)
    obtain ⟨l', rfl, hl1, hl2⟩ := hP'
    have k67 : Keeps G6 (G6.set D2 (.list (l'.map .int))) := (Keeps.refl G6).set hD2
    refine ES_nil (C_LangSys (n := n) X (hA' _) (b := D2) (l := l'.map .int) (Mem.set_self _ _ _) (by simp; rw [hl1.length_eq]; simp; omega) fun a dx c G7 k7 ha h1 h2 h3 => q a G7 l' ?_ ⟨dx, c, h1, h2, h3⟩ hl1)
    exact (k0.ex.trans x15).trans ((k56.trans (k67.trans k7)).ex)
end
end Mine

namespace Mine
structure SE where
  s : Str
  a : Addr
  dx : Addr
  ld : Addr
  d : AV
  lk : List (Str × AV)
  le : Nat
def SE.kv (x : SE) : Str × AV := (x.s, .ref x.a)
def SE.nsm (x : SE) : List (Str × AV) := [("tag", .str x.s), ("default", x.d), ("languages", .ref x.ld)]
def SE.ok (G0 G : Mem) (sd : Addr) (x : SE) : Prop := x.ld ≠ sd ∧ G x.a = some (.inst 73 x.dx) ∧ G x.dx = some (.ns x.nsm) ∧ G x.ld = some (.dS x.lk x.le) ∧ G0 x.a = none ∧ G0 x.dx = none ∧ G0 x.ld = none
def ScrL (G0 G : Mem) (sd : Addr) (S : List SE) : Prop := (∃ e, G sd = some (.dS (S.map SE.kv) e)) ∧ (S.map (·.s)).Nodup ∧ (S.map (·.dx)).Nodup ∧ (S.map (·.ld)).Nodup ∧ ∀ x ∈ S, x.ok G0 G sd
theorem SE.ok.sub {G0 G G' : Mem} {sd : Addr} {x : SE} (k : Sub [] G G') (h : x.ok G0 G sd) : x.ok G0 G' sd := ⟨h.1, k _ _ h.2.1 rfl (by simp), k _ _ h.2.2.1 rfl (by simp), k _ _ h.2.2.2.1 rfl (by simp), h.2.2.2.2⟩
theorem ScrL.sub {G0 G G' : Mem} {sd : Addr} {S : List SE} (k : Sub [] G G') (h : ScrL G0 G sd S) : ScrL G0 G' sd S := ⟨let ⟨e, h⟩ := h.1; ⟨e, k _ _ h rfl (by simp)⟩, h.2.1, h.2.2.1, h.2.2.2.1, fun x hx => (h.2.2.2.2 x hx).sub k⟩
theorem nodup_inj {α β : Type} {f : α → β} : ∀ {l : List α}, (l.map f).Nodup → ∀ x ∈ l, ∀ y ∈ l, f x = f y → x = y
  | a :: l, hn, x, hx, y, hy, e => by
    rw [List.map_cons, List.nodup_cons] at hn
    rcases List.mem_cons.mp hx with h1 | h1
    · rcases List.mem_cons.mp hy with h2 | h2
      · rw [h1, h2]
      · exact absurd (h1 ▸ e ▸ List.mem_map_of_mem (f := f) h2) hn.1
    · rcases List.mem_cons.mp hy with h2 | h2
      · exact absurd (h2 ▸ e ▸ List.mem_map_of_mem (f := f) h1) hn.1
      · exact nodup_inj hn.2 x h1 y h2 e
theorem ScrL.add {G0 G : Mem} {sd a dx ld : Addr} {S : List SE} {s : Str} {e' : Nat} (h : ScrL G0 G sd S) (hs : s ∉ S.map (·.s)) (h1 : G a = some (.inst 73 dx)) (h2 : G dx = some (.ns [("tag", .str s), ("default", .none), ("languages", .ref ld)])) (h3 : G ld = some (.dS [] 0)) (h4 : dx ∉ S.map (·.dx)) (h5 : ld ∉ S.map (·.ld)) (h6 : ld ≠ sd)
    (f1 : G0 a = none) (f2 : G0 dx = none) (f3 : G0 ld = none) : ScrL G0 (G.set sd (.dS (aset (S.map SE.kv) s (.ref a)) e')) sd (S ++ [⟨s, a, dx, ld, .none, [], 0⟩]) := by
  obtain ⟨⟨e, hG⟩, n1, n2, n3, hall⟩ := h
  have ek : (S.map SE.kv).map (·.1) = S.map (·.s) := by rw [List.map_map]; rfl
  have ea : aset (S.map SE.kv) s (.ref a) = (S ++ [(⟨s, a, dx, ld, .none, [], 0⟩ : SE)]).map SE.kv := by
    unfold aset
    rw [if_neg (fun q => hs (by rw [← ek]; exact pany_iff.mp q)), List.map_append]; rfl
  have kp : ∀ {b : Addr} {o : AO}, G b = some o → (∀ k e, o ≠ .dS k e) → (G.set sd (.dS (aset (S.map SE.kv) s (.ref a)) e')) b = some o := fun {b o} h hn => by
    rw [Mem.set_ne]; exact h
    intro q; rw [q, hG] at h; cases h; exact hn _ _ rfl
  have app : ∀ {α : Type} (f : SE → α) {v : α}, (S.map f).Nodup → v ∉ S.map f → f ⟨s, a, dx, ld, .none, [], 0⟩ = v → ((S ++ [(⟨s, a, dx, ld, .none, [], 0⟩ : SE)]).map f).Nodup := fun f v hn hv hf => by
    rw [List.map_append]
    exact List.nodup_append.mpr ⟨hn, by simp, fun x hx y hy e => hv (by simp at hy; rw [← hf, ← hy, ← e]; exact hx)⟩
  refine ⟨⟨e', by rw [Mem.set_self, ea]⟩, app _ n1 hs rfl, app _ n2 h4 rfl, app _ n3 h5 rfl, fun x hx => ?_⟩
  rcases List.mem_append.mp hx with hx | hx
  · obtain ⟨a1, a2, a3, a4, a5⟩ := hall x hx
    exact ⟨a1, kp a2 (by simp), kp a3 (by simp), by rw [Mem.set_ne _ _ a1]; exact a4, a5⟩
  · rw [List.mem_singleton.mp hx]
    exact ⟨h6, kp h1 (by simp), kp h2 (by simp), by rw [Mem.set_ne _ _ h6]; exact h3, f1, f2, f3⟩
def SE.setD (s : Str) (v : AV) (x : SE) : SE := if x.s = s then { x with d := v } else x
def SE.setL (s : Str) (lk : List (Str × AV)) (le : Nat) (x : SE) : SE := if x.s = s then { x with lk := lk, le := le } else x
theorem SE.setD_same (s : Str) (v : AV) (x : SE) : (x.setD s v).s = x.s ∧ (x.setD s v).a = x.a ∧ (x.setD s v).dx = x.dx ∧ (x.setD s v).ld = x.ld ∧ (x.setD s v).lk = x.lk ∧ (x.setD s v).le = x.le := by
  unfold SE.setD; split <;> exact ⟨rfl, rfl, rfl, rfl, rfl, rfl⟩
theorem SE.setL_same (s : Str) (lk : List (Str × AV)) (le : Nat) (x : SE) : (x.setL s lk le).s = x.s ∧ (x.setL s lk le).a = x.a ∧ (x.setL s lk le).dx = x.dx ∧ (x.setL s lk le).ld = x.ld ∧ (x.setL s lk le).d = x.d := by
  unfold SE.setL; split <;> exact ⟨rfl, rfl, rfl, rfl, rfl⟩
theorem ScrL.setD {G0 G : Mem} {sd : Addr} {S : List SE} {x : SE} {v : AV} (h : ScrL G0 G sd S) (hx : x ∈ S) : ScrL G0 (G.set x.dx (.ns [("tag", .str x.s), ("default", v), ("languages", .ref x.ld)])) sd (S.map (SE.setD x.s v)) := by
  obtain ⟨⟨e, hG⟩, n1, n2, n3, hall⟩ := h
  obtain ⟨x1, x2, x3, x4, x5⟩ := hall x hx
  have kp : ∀ {b : Addr} {o : AO}, G b = some o → (∀ m, o ≠ .ns m) → (G.set x.dx (.ns [("tag", .str x.s), ("default", v), ("languages", .ref x.ld)])) b = some o := fun {b o} h hn => by
    rw [Mem.set_ne]; exact h
    intro q; rw [q, x3] at h; cases h; exact hn _ rfl
  have mp : ∀ {α : Type} (f : SE → α), (∀ y, f (y.setD x.s v) = f y) → (S.map (SE.setD x.s v)).map f = S.map f := fun f hf => by
    rw [List.map_map]; exact List.map_congr_left fun y _ => hf y
  refine ⟨⟨e, ?_⟩, ?_, ?_, ?_, fun y hy => ?_⟩
  · have : (S.map (SE.setD x.s v)).map SE.kv = S.map SE.kv := mp _ fun y => by
      obtain ⟨a1, a2, _⟩ := SE.setD_same x.s v y
      simp only [SE.kv, a1, a2]
    rw [this]; exact kp hG (by simp)
  · rw [mp (·.s) fun y => (SE.setD_same x.s v y).1]; exact n1
  · rw [mp (·.dx) fun y => (SE.setD_same x.s v y).2.2.1]; exact n2
  · rw [mp (·.ld) fun y => (SE.setD_same x.s v y).2.2.2.1]; exact n3
  · obtain ⟨z, hz, rfl⟩ := List.mem_map.mp hy
    obtain ⟨z1, z2, z3, z4, z5, z6, z7⟩ := hall z hz
    unfold SE.setD
    by_cases hs : z.s = x.s
    · rw [if_pos hs]
      have hzx : z = x := nodup_inj n1 z hz x hx hs
      subst hzx
      exact ⟨z1, kp z2 (by simp), Mem.set_self _ _ _, kp z4 (by simp), z5, z6, z7⟩
    · rw [if_neg hs]
      refine ⟨z1, kp z2 (by simp), ?_, kp z4 (by simp), z5, z6, z7⟩
      rw [Mem.set_ne]; exact z3
      intro q; exact hs (by rw [nodup_inj n2 z hz x hx q])
theorem ScrL.setL {G0 G : Mem} {sd : Addr} {S : List SE} {x : SE} {lk : List (Str × AV)} {le : Nat} (h : ScrL G0 G sd S) (hx : x ∈ S) : ScrL G0 (G.set x.ld (.dS lk le)) sd (S.map (SE.setL x.s lk le)) := by
  obtain ⟨⟨e, hG⟩, n1, n2, n3, hall⟩ := h
  obtain ⟨x1, x2, x3, x4, x5⟩ := hall x hx
  have kp : ∀ {b : Addr} {o : AO}, G b = some o → (∀ m e, o ≠ .dS m e) → (G.set x.ld (.dS lk le)) b = some o := fun {b o} h hn => by
    rw [Mem.set_ne]; exact h
    intro q; rw [q, x4] at h; cases h; exact hn _ _ rfl
  have mp : ∀ {α : Type} (f : SE → α), (∀ y, f (y.setL x.s lk le) = f y) → (S.map (SE.setL x.s lk le)).map f = S.map f := fun f hf => by
    rw [List.map_map]; exact List.map_congr_left fun y _ => hf y
  refine ⟨⟨e, ?_⟩, ?_, ?_, ?_, fun y hy => ?_⟩
  · have : (S.map (SE.setL x.s lk le)).map SE.kv = S.map SE.kv := mp _ fun y => by
      obtain ⟨a1, a2, _⟩ := SE.setL_same x.s lk le y
      simp only [SE.kv, a1, a2]
    rw [this, Mem.set_ne _ _ (Ne.symm x1)]; exact hG
  · rw [mp (·.s) fun y => (SE.setL_same x.s lk le y).1]; exact n1
  · rw [mp (·.dx) fun y => (SE.setL_same x.s lk le y).2.2.1]; exact n2
  · rw [mp (·.ld) fun y => (SE.setL_same x.s lk le y).2.2.2.1]; exact n3
  · obtain ⟨z, hz, rfl⟩ := List.mem_map.mp hy
    obtain ⟨z1, z2, z3, z4, z5, z6, z7⟩ := hall z hz
    unfold SE.setL
    by_cases hs : z.s = x.s
    · rw [if_pos hs]
      have hzx : z = x := nodup_inj n1 z hz x hx hs
      subst hzx
      exact ⟨z1, kp z2 (by simp), kp z3 (by simp), Mem.set_self _ _ _, z5, z6, z7⟩
    · rw [if_neg hs]
      refine ⟨z1, kp z2 (by simp), kp z3 (by simp), ?_, z5, z6, z7⟩
      rw [Mem.set_ne]; exact z4
      intro q; exact hs (by rw [nodup_inj n3 z hz x hx q])
theorem kv_get {S : List SE} {x : SE} (hn : (S.map (·.s)).Nodup) (hx : x ∈ S) : aget (S.map SE.kv) x.s = some (.ref x.a) :=
  pget_of_mem (by rw [List.map_map]; exact hn) (List.mem_map.mpr ⟨x, hx, rfl⟩)
theorem kv_none {S : List SE} {s : Str} (hx : s ∉ S.map (·.s)) : aget (S.map SE.kv) s = none := by
  rw [aget_eq, pget_none, List.map_map]; exact hx
def LsD (G : Mem) (Rw : List (Str × List Int)) (d : AV) : Option (List (Str × List Int)) → Prop
  | none => d = .none
  | some Pin => ∃ b fs, d = .ref b ∧ LSysAt G b fs ∧ fs.Perm (Pin.map fun r => ((idxR Rw r : Nat) : Int))
def LsO (G : Mem) (Rw : List (Str × List Int)) (o : Option AV) : Option (List (Str × List Int)) → Prop
  | none => o = none
  | some Pin => ∃ b fs, o = some (.ref b) ∧ LSysAt G b fs ∧ fs.Perm (Pin.map fun r => ((idxR Rw r : Nat) : Int))
def selD (P : GR) (done : List (Str × Str)) (s l : Str) : Option (List (Str × List Int)) := if (s, l) ∈ done then pget P [s, l] else none
def selL (P : GR) (done : List (Str × Str)) (s l : Str) : Option (List (Str × List Int)) := if l = "dflt" then none else selD P done s l
def SemS (P : GR) (Rw : List (Str × List Int)) (done : List (Str × Str)) (G : Mem) (S : List SE) : Prop :=
  (∀ x ∈ S, (∃ l, (x.s, l) ∈ done) ∧ LsD G Rw x.d (selD P done x.s "dflt") ∧ (∀ l, LsO G Rw (aget x.lk l) (selL P done x.s l)) ∧ x.lk.length ≤ done.length) ∧ (∀ p ∈ done, p.1 ∈ S.map (·.s)) ∧ S.length ≤ done.length
theorem LsD.keep {G G' : Mem} {Rw : List (Str × List Int)} {d : AV} {o : Option (List (Str × List Int))} (k : ∀ b fs, LSysAt G b fs → LSysAt G' b fs) (h : LsD G Rw d o) : LsD G' Rw d o := by
  cases o with
  | none => exact h
  | some Pin => obtain ⟨b, fs, e, h1, h2⟩ := h; exact ⟨b, fs, e, k _ _ h1, h2⟩
theorem LsO.keep {G G' : Mem} {Rw : List (Str × List Int)} {d : Option AV} {o : Option (List (Str × List Int))} (k : ∀ b fs, LSysAt G b fs → LSysAt G' b fs) (h : LsO G Rw d o) : LsO G' Rw d o := by
  cases o with
  | none => exact h
  | some Pin => obtain ⟨b, fs, e, h1, h2⟩ := h; exact ⟨b, fs, e, k _ _ h1, h2⟩
theorem SemS.keep {P : GR} {Rw : List (Str × List Int)} {done : List (Str × Str)} {G G' : Mem} {S : List SE} (k : ∀ b fs, LSysAt G b fs → LSysAt G' b fs) (h : SemS P Rw done G S) : SemS P Rw done G' S :=
  ⟨fun x hx => let ⟨a1, a2, a3, a4⟩ := h.1 x hx; ⟨a1, a2.keep k, fun l => (a3 l).keep k, a4⟩, h.2⟩
end Mine

namespace Mine
theorem selD_app (P : GR) (done : List (Str × Str)) (p : Str × Str) (s l : Str) : selD P (done ++ [p]) s l = if (s, l) = p then pget P [s, l] else selD P done s l := by
  unfold selD
  by_cases h : (s, l) = p
  · simp [h]
  · simp [h]
theorem LSysAt.setNs {G : Mem} {b dx : Addr} {fs : List Int} {s : Str} {d : AV} {ld : Addr} {m : List (Str × AV)} (h : G dx = some (.ns [("tag", .str s), ("default", d), ("languages", .ref ld)])) (k : LSysAt G b fs) : LSysAt (G.set dx (.ns m)) b fs := by
  obtain ⟨dx', c, h1, h2, h3⟩ := k
  refine ⟨dx', c, ?_, ?_, ?_⟩
  · rw [Mem.set_ne]; exact h1
    intro q; rw [q, h] at h1; cases h1
  · rw [Mem.set_ne]; exact h2
    intro q; rw [q, h] at h2; simp at h2
  · rw [Mem.set_ne]; exact h3
    intro q; rw [q, h] at h3; cases h3
theorem LSysAt.setDS {G : Mem} {b ld : Addr} {fs : List Int} {m m' : List (Str × AV)} {e e' : Nat} (h : G ld = some (.dS m e)) (k : LSysAt G b fs) : LSysAt (G.set ld (.dS m' e')) b fs := by
  obtain ⟨dx', c, h1, h2, h3⟩ := k
  refine ⟨dx', c, ?_, ?_, ?_⟩
  · rw [Mem.set_ne]; exact h1
    intro q; rw [q, h] at h1; cases h1
  · rw [Mem.set_ne]; exact h2
    intro q; rw [q, h] at h2; cases h2
  · rw [Mem.set_ne]; exact h3
    intro q; rw [q, h] at h3; cases h3
def SemT (P : GR) (Rw : List (Str × List Int)) (done : List (Str × Str)) (s0 : Str) (G : Mem) (S : List SE) : Prop :=
  (∀ x ∈ S, (x.s = s0 ∨ ∃ l, (x.s, l) ∈ done) ∧ LsD G Rw x.d (selD P done x.s "dflt") ∧ (∀ l, LsO G Rw (aget x.lk l) (selL P done x.s l)) ∧ x.lk.length ≤ done.length) ∧ (∀ p ∈ done, p.1 ∈ S.map (·.s)) ∧ S.length ≤ done.length + 1 ∧ s0 ∈ S.map (·.s)
theorem SemT.keep {P : GR} {Rw : List (Str × List Int)} {done : List (Str × Str)} {s0 : Str} {G G' : Mem} {S : List SE} (k : ∀ b fs, LSysAt G b fs → LSysAt G' b fs) (h : SemT P Rw done s0 G S) : SemT P Rw done s0 G' S :=
  ⟨fun x hx => let ⟨a1, a2, a3, a4⟩ := h.1 x hx; ⟨a1, a2.keep k, fun l => (a3 l).keep k, a4⟩, h.2⟩
theorem SemS.old {P : GR} {Rw : List (Str × List Int)} {done : List (Str × Str)} {s0 : Str} {G : Mem} {S : List SE} (h : SemS P Rw done G S) (hs : s0 ∈ S.map (·.s)) : SemT P Rw done s0 G S :=
  ⟨fun x hx => let ⟨a1, a2⟩ := h.1 x hx; ⟨.inr a1, a2⟩, h.2.1, Nat.le_succ_of_le h.2.2, hs⟩
theorem SemS.new {P : GR} {Rw : List (Str × List Int)} {done : List (Str × Str)} {s0 : Str} {G : Mem} {S : List SE} {a dx ld : Addr} (h : SemS P Rw done G S) (hs : s0 ∉ S.map (·.s)) : SemT P Rw done s0 G (S ++ [⟨s0, a, dx, ld, .none, [], 0⟩]) := by
  have hno : ∀ l, (s0, l) ∉ done := fun l hm => hs (h.2.1 _ hm)
  refine ⟨fun x hx => ?_, fun p hp => ?_, by simp; exact h.2.2, by simp⟩
  · rcases List.mem_append.mp hx with hx | hx
    · obtain ⟨a1, a2⟩ := h.1 x hx
      exact ⟨.inr a1, a2⟩
    · rw [List.mem_singleton.mp hx]
      have e : ∀ l, selD P done s0 l = none := fun l => by unfold selD; rw [if_neg (hno l)]
      refine ⟨.inl rfl, ?_, fun l => ?_, Nat.zero_le _⟩
      · rw [e]; rfl
      · unfold selL; split
        · rfl
        · rw [e]; rfl
  · rw [List.map_append]; exact List.mem_append_left _ (h.2.1 p hp)
theorem SemT.setD {P : GR} {Rw : List (Str × List Int)} {done : List (Str × Str)} {s0 : Str} {G : Mem} {S : List SE} {b : Addr} {fs : List Int} {Pin : List (Str × List Int)} (h : SemT P Rw done s0 G S) (hP : pget P [s0, "dflt"] = some Pin) (hb : LSysAt G b fs) (hf : fs.Perm (Pin.map fun r => ((idxR Rw r : Nat) : Int))) :
    SemS P Rw (done ++ [(s0, ("dflt" : Str))]) G (S.map (SE.setD s0 (.ref b))) := by
  obtain ⟨h1, h2, h3, h4⟩ := h
  have ek : (S.map (SE.setD s0 (.ref b))).map (·.s) = S.map (·.s) := by
    rw [List.map_map]; exact List.map_congr_left fun y _ => (SE.setD_same s0 (.ref b) y).1
  refine ⟨fun x hx => ?_, fun p hp => ?_, by simpa using h3⟩
  · obtain ⟨y, hy, rfl⟩ := List.mem_map.mp hx
    obtain ⟨y1, y2, y3, y4⟩ := h1 y hy
    obtain ⟨q1, q2, q3, q4, q5, q6⟩ := SE.setD_same s0 (.ref b) y
    have hsel : ∀ l, selL P (done ++ [(s0, ("dflt" : Str))]) y.s l = selL P done y.s l := fun l => by
      unfold selL
      split
      · rfl
      · rename_i hl
        rw [selD_app, if_neg]
        intro e; injection e with _ e; exact hl e
    rw [q1, q5]
    refine ⟨?_, ?_, fun l => by rw [hsel]; exact y3 l, by rw [List.length_append]; simp; omega⟩
    · rcases y1 with e | ⟨l, hl⟩
      · exact ⟨"dflt", by rw [e]; simp⟩
      · exact ⟨l, List.mem_append_left _ hl⟩
    · rw [selD_app]
      unfold SE.setD
      by_cases e : y.s = s0
      · rw [if_pos e, if_pos (by rw [e]), e, hP]
        exact ⟨b, fs, rfl, hb, hf⟩
      · rw [if_neg e, if_neg (fun q => e (by injection q))]
        exact y2
  · rw [ek]
    rcases List.mem_append.mp hp with hp | hp
    · exact h2 p hp
    · rw [List.mem_singleton.mp hp]; exact h4
theorem SemT.setL {P : GR} {Rw : List (Str × List Int)} {done : List (Str × Str)} {s0 l0 : Str} {G : Mem} {S : List SE} {b : Addr} {fs : List Int} {Pin : List (Str × List Int)} {x : SE} {le : Nat} (h : SemT P Rw done s0 G S) (hP : pget P [s0, l0] = some Pin) (hb : LSysAt G b fs) (hf : fs.Perm (Pin.map fun r => ((idxR Rw r : Nat) : Int))) (hl0 : l0 ≠ "dflt")
    (hn : (S.map (·.s)).Nodup) (hx : x ∈ S) (hxs : x.s = s0) : SemS P Rw (done ++ [(s0, l0)]) G (S.map (SE.setL s0 (aset x.lk l0 (.ref b)) le)) := by
  obtain ⟨h1, h2, h3, h4⟩ := h
  have ek : (S.map (SE.setL s0 (aset x.lk l0 (.ref b)) le)).map (·.s) = S.map (·.s) := by
    rw [List.map_map]; exact List.map_congr_left fun y _ => (SE.setL_same s0 _ le y).1
  refine ⟨fun z hz => ?_, fun p hp => ?_, by simpa using h3⟩
  · obtain ⟨y, hy, rfl⟩ := List.mem_map.mp hz
    obtain ⟨y1, y2, y3, y4⟩ := h1 y hy
    obtain ⟨q1, q2, q3, q4, q5⟩ := SE.setL_same s0 (aset x.lk l0 (.ref b)) le y
    rw [q1, q5]
    refine ⟨?_, ?_, fun l => ?_, ?_⟩
    · rcases y1 with e | ⟨l, hl⟩
      · exact ⟨l0, by rw [e]; simp⟩
      · exact ⟨l, List.mem_append_left _ hl⟩
    · rw [selD_app, if_neg (fun q => hl0 (by injection q with _ q; exact q.symm))]
      exact y2
    · unfold SE.setL
      by_cases e : y.s = s0
      · rw [if_pos e]
        have hyx : y = x := nodup_inj hn y hy x hx (e.trans hxs.symm)
        subst hyx
        show LsO G Rw (aget (aset y.lk l0 (.ref b)) l) _
        rw [aset_eq, aget_eq, pget_pset]
        unfold selL
        by_cases hl : l = l0
        · rw [if_pos hl, hl, if_neg hl0, selD_app, if_pos (by rw [e]), e, hP]
          exact ⟨b, fs, rfl, hb, hf⟩
        · rw [if_neg hl]
          have := y3 l
          unfold selL at this
          by_cases hd : l = "dflt"
          · rw [if_pos hd] at this ⊢; exact this
          · rw [if_neg hd] at this ⊢
            rw [selD_app, if_neg (fun q => hl (by injection q))]
            exact this
      · rw [if_neg e]
        have := y3 l
        unfold selL at this ⊢
        by_cases hd : l = "dflt"
        · rw [if_pos hd] at this ⊢; exact this
        · rw [if_neg hd] at this ⊢
          rw [selD_app, if_neg (fun q => e (by injection q))]
          exact this
    · rw [List.length_append]
      unfold SE.setL
      split
      · have := h1 x hx
        have := this.2.2.2
        have h5 := pset_length x.lk l0 (AV.ref b)
        rw [← aset_eq] at h5
        simp only [List.length_singleton]
        omega
      · simp only [List.length_singleton]; omega
  · rw [ek]
    rcases List.mem_append.mp hp with hp | hp
    · exact h2 p hp
    · rw [List.mem_singleton.mp hp]; exact h4
end Mine

namespace Mine
section
variable {W : Wd} {A : Around} {Fs : List FA} {G : Mem} {Q : AV → Mem → Prop} {n : Nat}
theorem C_scripts_of {g rb : Addr} {P : GR} {KS : List (Str × Str)} {Rw : List (Str × List Int)} (X : Base W (KP W)) (hA : AOk (n + 4) A) (hG : GrpAt G g P) (hK : KeysG P KS) (hr : G rb = some (.list (Rw.map rowA))) (hRw : ∀ q ∈ P, ∀ r ∈ q.2, r ∈ Rw) (hfit : ∀ r ∈ Rw, strFits r.1) (hPz : P.length ≤ 60)
    (hin : ∀ q ∈ P, (q.2.map (·.1)).Nodup ∧ q.2.length ≤ 60 ∧ ∀ r ∈ q.2, r.2.length ≤ 1000) (hRz : Rw.length ≤ 60)
    (q : ∀ sd G' S ks, Ex [] G G' → ks.Perm KS → ScrL G G' sd S → SemS P Rw ks G' S → Q (.ref sd) G') : OC W A Fs G [.ref g, .ref rb] 164 Q := by
  refine CALL_fnC (n := n + 3) (m := [("groups", .ref g), ("rows", .ref rb)]) (cv := []) X hA (by exact rfl) rfl rfl rfl rfl rfl rfl rfl (B2 fun s v1 v2 => BindsTo.of_eq rfl) rfl (by decide) rfl rfl ?_
  intro L hL0
  show EX _ _ _ _ _ G _ _
  have hA' := hA.deeper (n := n + 3)
  have sl : sizeLine = 16777216 := sizeLine_eq
  refine EX_cons (EX_assign (EV_dict0 (sysB X) (.dS [] 0) (.inl rfl) fun sd hsd => (SV_name (SV_local rfl rfl rfl ?_))))
  have k1 : Keeps G (G.set sd (.dS [] 0)) := (Keeps.refl G).set hsd
  have r1 : (G.set sd (.dS [] 0)) sd = some (.dS [] 0) := Mem.set_self _ _ _
  generalize hG1 : G.set sd (.dS [] 0) = G1 at *
  obtain ⟨kvs, e, g0, inn, nd, kn⟩ := id hG
  have hu : ∀ {A : Around}, AOk (n + 3) A → A.in1.in1.units + 30 < cLine := fun {A} h => by have := h.u; have : A.in1.in1.units = A.units + 2 := rfl; omega
  have hKl : KS.length = P.length := by have := congrArg List.length hK.1; simpa using this.symm
  have hkeys : (kvs.map fun p => tupS p.1) = KS.map pairA := by
    have : kvs.map (fun p => tupS p.1) = (kvs.map (·.1)).map tupS := by rw [List.map_map]; rfl
    rw [this, All2.keys (InnersAt.all inn), hK.1, List.map_map]; rfl
  refine EX_cons (EX_forSI (m0 := [("groups", .ref g), ("rows", .ref rb), ("scripts", .ref sd)]) (by (focus (repeat (first | exact Sup.refl _ | exact Sup.nil _ | refine Sup.cons (by exact rfl) ?_)))) (EV_callB X (by exact rfl) rfl (by decide) rfl rfl rfl rfl (ES_cons ((EV_local rfl rfl rfl rfl (ES_nil
    (OL_sorted (P := fun avs => avs = KS.map pairA) (P' := fun _ avs' => avs'.Perm (KS.map pairA)) (fun s v hs r R hR => COL_dT (hA' _).h1 (by rw [All2.length inn]; omega) (k1 _ _ g0) s v hs r R fun vs avs s' a1 a2 a3 a4 => hR vs avs s' a1 a2 a3 (by rw [a4, hkeys]))
      (fun avs h => by rw [h]; simp; omega) (fun avs h => by rw [h]; exact SRT_pairs (by omega) (hu (hA' _)) hK.2.1) fun avs avs' D hP hP' hD => ?_)))))))
  obtain ⟨ks, rfl, hks⟩ := perm_map_inv hP'
  have k2 : Keeps G1 (G1.set D (.list (ks.map pairA))) := (Keeps.refl G1).set hD
  have d2 : (G1.set D (.list (ks.map pairA))) D = some (.list (ks.map pairA)) := Mem.set_self _ _ _
  have hDG : G D = none := k1.none hD
  generalize hG2 : G1.set D (.list (ks.map pairA)) = G2 at *
  have k02 := k1.trans k2
  have r2 := k2 _ _ r1
  refine ⟨fun i G3 => Sub [] G G3 ∧ G3 D = some (.list (ks.map pairA)) ∧ ∃ S, ScrL G G3 sd S ∧ SemS P Rw (ks.take i) G3 S, _, _, (fun h k => ⟨h.1.trans k, k _ _ h.2.1 rfl (by simp), let ⟨S, h1, h2⟩ := h.2.2; ⟨S, h1.sub k, h2.keep fun b fs h => h.sub k⟩⟩), IT_list (hA' _).h d2, fun i G3 h => h.2.1, ⟨fun a o e r n => k02 a o e, d2, [], ⟨⟨0, r2⟩, List.nodup_nil, List.nodup_nil, List.nodup_nil, fun _ h => nomatch h⟩, fun _ h => (nomatch h), (by simp), Nat.le_refl _⟩, ?turn, ?done⟩
  case turn =>
    rintro i x G3 hi ⟨hs3, hD3, S, hS, hM⟩ hkt
    have x3 : Ex [] G G3 := ⟨hs3, fun a o e r => hkt a o (k02 a o e) r⟩
    obtain ⟨p, hp1, rfl⟩ : ∃ p, ks[i]? = some p ∧ x = pairA p := by
      rw [List.getElem?_map] at hi
      obtain ⟨k, e1, e2⟩ := Option.map_eq_some_iff.mp hi
      exact ⟨k, e1, e2.symm⟩
    have hpK : p ∈ KS := hks.mem_iff.mp (List.mem_of_getElem? hp1)
    have hpP : [p.1, p.2] ∈ P.map (·.1) := by rw [hK.1]; exact List.mem_map.mpr ⟨p, hpK, rfl⟩
    obtain ⟨Pin, hPin⟩ : ∃ Pin, pget P [p.1, p.2] = some Pin := by
      cases e : pget P [p.1, p.2] with
      | some v => exact ⟨v, rfl⟩
      | none => exact absurd hpP (pget_none.mp e)
    obtain ⟨d, ikv, ie, hd1, hd2, hd3⟩ := GrpAt.inner inn hPin
    obtain ⟨in1, in2, in3⟩ := hin _ (pget_mem hPin)
    dsimp only at in1 in2 in3
    have hks60 : ks.length ≤ 60 := by rw [hks.length_eq, hKl]; exact hPz
    have hdl : (ks.take i).length ≤ 60 := by simp; omega
    have htake : ks.take (i + 1) = ks.take i ++ [p] := by rw [List.take_add_one, hp1]; rfl
    generalize ks.take i = done at *
    have SZ : S.length ≤ 60 := Nat.le_trans hM.2.2 hdl
    refine SV_tuple (hA' _).h rfl rfl ?_
    show SV _ _ _ _ _ _ _ _ _
    refine (SV_name (SV_local rfl rfl rfl ((SV_name (SV_local rfl rfl rfl ?_)))))
    refine EX_cons (EX.mono (Q := fun af m' G5 => af = .next ∧ Sup m' [("groups", .ref g), ("rows", .ref rb), ("scripts", .ref sd), ("script", .str p.1), ("language", .str p.2)] ∧ Ex [] G G5 ∧ KeepIt G3 G5 ∧ G5 D = some (.list (ks.map pairA)) ∧ ∃ S', ScrL G G5 sd S' ∧ SemT P Rw done p.1 G5 S') ?ifs ?rest)
    case ifs =>
      obtain ⟨es, hsd3⟩ := hS.1
      refine EX_if (EB_compare ((EV_local rfl rfl rfl rfl ((EV_local rfl rfl rfl rfl (O2_notIn_dS hsd3 (OB_bool ?_)))))))
      by_cases hin : p.1 ∈ S.map (·.s)
      · obtain ⟨y, hy, hys⟩ := List.mem_map.mp hin
        have := kv_get hS.2.1 hy
        rw [hys] at this
        rw [this]
        exact EX_nil ⟨rfl, by (focus (repeat (first | exact Sup.refl _ | exact Sup.nil _ | refine Sup.cons (by exact rfl) ?_))), x3, KeepIt.refl _, hD3, S, hS, hM.old hin⟩
      · rw [kv_none hin]
        refine EX_cons (EX_assign (EV_call X (by exact rfl) (by exact rfl) rfl rfl rfl (ES_cons ((EV_local rfl rfl rfl rfl (ES_cons (EV_none (ES_cons (EV_dict0 (sysB X) (.dS [] 0) (.inl rfl) fun ld hld => ES_nil (C_Script (n := n + 1) X (hA' _) fun a dx G4 k4 ha hdx h1 h2 => ?_))))))))))
        have k34 : Keeps G3 G4 := ((Keeps.refl G3).set hld).trans k4
        have hld4 := k4 _ _ (Mem.set_self G3 ld (.dS [] 0))
        have x4 : Ex [] G G4 := x3.trans k34.ex
        have hS4 := hS.sub (k34.ex (Ws := [])).sub
        obtain ⟨es4, hsd4⟩ := hS4.1
        have ha3 : G3 a = none := by
          have : (G3.set ld (.dS [] 0)) a = none := ha
          exact ((Keeps.refl G3).set hld).none this
        have hdx3 : G3 dx = none := by
          have : (G3.set ld (.dS [] 0)) dx = none := hdx
          exact ((Keeps.refl G3).set hld).none this
        have hD4 := k34 _ _ hD3
        refine SV_sub ((EV_local rfl rfl rfl rfl ((EV_local rfl rfl rfl rfl (O3_set_dS hsd4 (by simp; omega) fun e' => EX_nil ⟨rfl, by (focus (repeat (first | exact Sup.refl _ | exact Sup.nil _ | refine Sup.cons (by exact rfl) ?_))), x4.setN hsd, k34.ex (Ws := []) |>.its |>.trans (KeepIt.setReal hsd4 rfl), ?_, _, ScrL.add hS4 hin h1 h2 hld4 ?_ ?_ ?_ (x3.none ha3) (x3.none hdx3) (x3.none hld), ?_⟩)))))
        · rw [Mem.set_ne]; exact hD4
          intro q; rw [q, hsd4] at hD4; cases hD4
        · intro hm
          obtain ⟨y, hy, hyd⟩ := List.mem_map.mp hm
          obtain ⟨_, _, y3, _⟩ := hS.2.2.2.2 y hy
          rw [hyd, hdx3] at y3; cases y3
        · intro hm
          obtain ⟨y, hy, hyd⟩ := List.mem_map.mp hm
          obtain ⟨_, _, _, y4, _⟩ := hS.2.2.2.2 y hy
          rw [hyd, hld] at y4; cases y4
        · intro q
          obtain ⟨es, h0⟩ := hS.1
          rw [← q, hld] at h0; cases h0
        · exact (hM.keep fun b fs h => (h.sub (k34.ex (Ws := [])).sub).setDS hsd4).new hin
    case rest =>
      rintro af m8 G5 ⟨rfl, hsup8, x5, k5, hD5, S', hS', hT⟩
      refine EX.weaken (m' := [("groups", .ref g), ("rows", .ref rb), ("scripts", .ref sd), ("script", .str p.1), ("language", .str p.2)]) ?_ hsup8
      have g5 := x5.sub _ _ g0 rfl (by simp)
      have e5 := x5.sub _ _ hd2 rfl (by simp)
      have l5 : ListsAt G5 ikv Pin := hd3.keep fun l v h => x5.sub _ _ h rfl (by simp)
      have rb5 := x5.sub _ _ hr rfl (by simp)
      have hPinRw : ∀ r ∈ Pin, r ∈ Rw := fun r hr => hRw _ (pget_mem hPin) r hr
      refine EX_cons (EX_assign (EV_call X (by exact rfl) rfl rfl rfl rfl (ES_cons (EV_subT (hA' _) ((EV_local rfl rfl rfl rfl (EV_tuple (ES_cons ((EV_local rfl rfl rfl rfl (ES_cons ((EV_local rfl rfl rfl rfl (ES_nil ⟨by rw [sl]; simp, g, kvs, [p.1, p.2], e, .ref d, rfl, rfl, g5, hd1, ES_cons ((EV_local rfl rfl rfl rfl (ES_nil (OC.ol (C_langsys_of (n := n) X (hA' _) e5 l5 rb5 hPinRw hfit in1 in2 hRz in3 fun b0 G6 fs hex hls hperm => (SV_name (SV_local rfl rfl rfl ?_)))))))⟩))))))))))))))
      have x6 := x5.trans hex
      have hS6 := hS'.sub hex.sub
      have hT6 := hT.keep (fun b fs h => h.sub hex.sub)
      have hD6 := hex.sub _ _ hD5 rfl (by simp)
      obtain ⟨y, hy, hys⟩ := List.mem_map.mp hT6.2.2.2
      obtain ⟨es, hsd6⟩ := hS6.1
      obtain ⟨y1, y2, y3, y4, y5, y6, y7⟩ := hS6.2.2.2.2 y hy
      have hkv := kv_get hS6.2.1 hy
      rw [hys] at hkv
      have hlk := (hT6.1 y hy).2.2.2
      refine EX_cons (EX_if (EB_compare ((EV_local rfl rfl rfl rfl (EV_str (O2_eq_str (OB_bool ?_)))))))
      by_cases hdf : p.2 = "dflt"
      · rw [show (p.2 == ("dflt" : Str)) = true by simpa using hdf]
        refine EX_cons (EX_assign ((EV_local rfl rfl rfl rfl (SV_attr X (EV_subS ((EV_local rfl rfl rfl rfl ((EV_local rfl rfl rfl rfl ⟨sd, _, p.1, es, .ref y.a, rfl, rfl, hsd6, hkv, y.a, 73, y.dx, y.nsm, rfl, y2, y3, ⟨by exact rfl, by exact rfl, by exact rfl, by exact rfl⟩, by simp [SE.nsm], ?_⟩)))))))))
        have hse : setm y.nsm "default" (.ref b0) = ([("tag", .str y.s), ("default", .ref b0), ("languages", .ref y.ld)] : List (Str × AV)) := rfl
        rw [hse]
        refine EX_nil (EX_nil ⟨k5.trans (hex.its.trans (KeepIt.setReal y3 rfl)), by (focus (repeat (first | exact Sup.refl _ | exact Sup.nil _ | refine Sup.cons (by exact rfl) ?_))), (x6.setN y6).sub, ?_, _, hS6.setD hy, ?_⟩)
        · rw [Mem.set_ne]; exact hD6
          intro q; rw [q, y3] at hD6; cases hD6
        · have hP' : pget P [p.1, "dflt"] = some Pin := by rw [← hdf]; exact hPin
          have this := (hT6.keep fun b fs h => h.setNs (m := [("tag", .str y.s), ("default", .ref b0), ("languages", .ref y.ld)]) y3).setD hP' (hls.setNs (m := [("tag", .str y.s), ("default", .ref b0), ("languages", .ref y.ld)]) y3) hperm
          have e1 : done ++ [p] = done ++ [(p.1, ("dflt" : Str))] := by rw [← hdf]
          have e2 : S'.map (SE.setD y.s (.ref b0)) = S'.map (SE.setD p.1 (.ref b0)) := by rw [hys]
          rw [htake, e1, e2]
          exact this
      · rw [show (p.2 == ("dflt" : Str)) = false by simpa using hdf]
        refine EX_cons (EX_assign ((EV_local rfl rfl rfl rfl (SV_sub (EV_attr X (EV_subS ((EV_local rfl rfl rfl rfl ((EV_local rfl rfl rfl rfl ⟨sd, _, p.1, es, .ref y.a, rfl, rfl, hsd6, hkv, y.a, 73, y.dx, y.nsm, .ref y.ld, rfl, y2, y3, (⟨by exact rfl, by exact rfl, by exact rfl⟩ : PlainAttr _ _ _), rfl, (EV_local rfl rfl rfl rfl (O3_set_dS y4 (by omega) fun e' => ?_))⟩))))))))))
        refine EX_nil (EX_nil ⟨k5.trans (hex.its.trans (KeepIt.setReal y4 rfl)), by (focus (repeat (first | exact Sup.refl _ | exact Sup.nil _ | refine Sup.cons (by exact rfl) ?_))), (x6.setN y7).sub, ?_, _, hS6.setL hy, ?_⟩)
        · rw [Mem.set_ne]; exact hD6
          intro q; rw [q, y4] at hD6; cases hD6
        · have this := (hT6.keep fun b fs h => h.setDS (m' := aset y.lk p.2 (.ref b0)) (e' := e') y4).setL (le := e') hPin (hls.setDS y4) hperm hdf hS6.2.1 hy hys
          have e2 : S'.map (SE.setL y.s (aset y.lk p.2 (.ref b0)) e') = S'.map (SE.setL p.1 (aset y.lk p.2 (.ref b0)) e') := by rw [hys]
          rw [htake, e2]
          exact this
  case done =>
    rintro m3 G3 hsup ⟨hs3, hD3, S, hS, hM⟩ hkeep
    rw [show (ks.map pairA).length = ks.length by simp, List.take_length] at hM
    refine EX.weaken (EX_cons (EX_return ((EV_local rfl rfl rfl rfl (q sd G3 S ks ⟨hs3, fun a o e r => hkeep a o (k02 a o e) r⟩ hks hS hM))))) hsup
end
end Mine

namespace Mine
def fnData : Obj → Option FuncData
  | ⟨_, _, .func fd, _⟩ => some fd
  | _ => none
noncomputable def lawFdS (P : Params) : { fd : FuncData // (List.lookup 288 (KF P)).bind fnData = some fd } := ⟨_, by exact rfl⟩
noncomputable def lawFd (P : Params) : FuncData := (lawFdS P).1
noncomputable def lawBodyS (P : Params) : { b : List Stmt // (lawFd P).body = .stmts b } := ⟨_, by exact rfl⟩
noncomputable def lawBody (P : Params) : List Stmt := (lawBodyS P).1
def withKind (k : NameKind) (ns : List Str) : List (Str × NameKind) := ns.map fun n => (n, k)
theorem lawNames (P : Params) : (lawFd P).scope.names = withKind .local ["script", "cells"] ++ (withKind .cell ["pen", "numbers"] ++ (withKind .local ["features", "known", "lap", "tag", "writing", "language", "names", "some", "key", "groups", "plain", "rows", "layout", "wishes", "chosen", "there", "met", "group"] ++ (withKind .cell ["masks"] ++
   (withKind .local ["number"] ++ (withKind .globalImplicit ["sum", "range", "_law_draw", "tuple", "FeatureRow", "sorted", "set", "feature_groups", "RuleTree", "feature_rows", "Layout", "scripts_of", "choose_script", "list", "gather", "choose_langsys"] ++ []))))) := by exact rfl
theorem cellsFrom_skip {n : Nat} {k : NameKind} (hk : (k == .cell) = false) : ∀ (ns : List Str) (r : List (Str × NameKind)) (acc : List (Str × Addr)), cellsFrom n (withKind k ns ++ r) acc = cellsFrom n r acc
  | [], _, _ => rfl
  | x :: ns, r, acc => by
    rw [withKind, List.map_cons, List.cons_append]
    conv => lhs; unfold cellsFrom
    rw [hk]
    exact cellsFrom_skip hk ns r acc
theorem cellsFrom_cell {n : Nat} {x : Str} (xs : List Str) (r : List (Str × NameKind)) (acc : List (Str × Addr)) : cellsFrom n (withKind .cell (x :: xs) ++ r) acc = cellsFrom (n + 1) (withKind .cell xs ++ r) ((x, n) :: acc) := by
  rw [withKind, List.map_cons, List.cons_append]
  conv => lhs; unfold cellsFrom
  rfl
theorem cellsFrom_cell0 {n : Nat} (r : List (Str × NameKind)) (acc : List (Str × Addr)) : cellsFrom n (withKind .cell [] ++ r) acc = cellsFrom n r acc := rfl
def lawCs (L : Addr) : List (Str × Addr) := [("masks", L + 3), ("numbers", L + 2), ("pen", L + 1)]
theorem lawCells (P : Params) (L : Addr) : cellsFrom (L + 1) (lawFd P).scope.names [] = lawCs L := by
  rw [lawNames, cellsFrom_skip rfl, cellsFrom_cell, cellsFrom_cell, cellsFrom_cell0, cellsFrom_skip rfl, cellsFrom_cell, cellsFrom_cell0, cellsFrom_skip rfl, cellsFrom_skip rfl]
  rfl
noncomputable def lawEnv (P : Params) (L fa : Addr) (cd : Value) : Env :=
  { scope := (lawFd P).scope, locals := L, globals := mainGlobals, cells := lawCs L, qual := "law" ++ ".<locals>.", func := some fa, code := cd, frame := some L, builtins := builtinsNs }
theorem lawEnv_eq (P : Params) (L fa : Addr) (cd : Value) : envOfC "law" (lawFd P).scope L fa cd = lawEnv P L fa cd := by
  unfold envOfC lawEnv
  rw [lawCells]
theorem cPen {P : Params} {L fa : Addr} {cd : Value} : List.lookup (α := Str) "pen" (lawEnv P L fa cd).cells = some (L + 1) := by exact rfl
theorem cNum {P : Params} {L fa : Addr} {cd : Value} : List.lookup (α := Str) "numbers" (lawEnv P L fa cd).cells = some (L + 2) := by exact rfl
theorem cMask {P : Params} {L fa : Addr} {cd : Value} : List.lookup (α := Str) "masks" (lawEnv P L fa cd).cells = some (L + 3) := by exact rfl
noncomputable def tl0 (P : Params) : List Stmt := lawBody P
noncomputable def lawS1 (P : Params) : { x : Stmt × List Stmt // tl0 P = x.1 :: x.2 } := ⟨(_, _), by exact rfl⟩
noncomputable def st1 (P : Params) : Stmt := (lawS1 P).1.1
noncomputable def tl1 (P : Params) : List Stmt := (lawS1 P).1.2
theorem tl0_eq (P : Params) : tl0 P = st1 P :: tl1 P := (lawS1 P).2
noncomputable def lawS2 (P : Params) : { x : Stmt × List Stmt // tl1 P = x.1 :: x.2 } := ⟨(_, _), by exact rfl⟩
noncomputable def st2 (P : Params) : Stmt := (lawS2 P).1.1
noncomputable def tl2 (P : Params) : List Stmt := (lawS2 P).1.2
theorem tl1_eq (P : Params) : tl1 P = st2 P :: tl2 P := (lawS2 P).2
noncomputable def lawS3 (P : Params) : { x : Stmt × List Stmt // tl2 P = x.1 :: x.2 } := ⟨(_, _), by exact rfl⟩
noncomputable def st3 (P : Params) : Stmt := (lawS3 P).1.1
noncomputable def tl3 (P : Params) : List Stmt := (lawS3 P).1.2
theorem tl2_eq (P : Params) : tl2 P = st3 P :: tl3 P := (lawS3 P).2
noncomputable def lawS4 (P : Params) : { x : Stmt × List Stmt // tl3 P = x.1 :: x.2 } := ⟨(_, _), by exact rfl⟩
noncomputable def st4 (P : Params) : Stmt := (lawS4 P).1.1
noncomputable def tl4 (P : Params) : List Stmt := (lawS4 P).1.2
theorem tl3_eq (P : Params) : tl3 P = st4 P :: tl4 P := (lawS4 P).2
noncomputable def lawS5 (P : Params) : { x : Stmt × List Stmt // tl4 P = x.1 :: x.2 } := ⟨(_, _), by exact rfl⟩
noncomputable def st5 (P : Params) : Stmt := (lawS5 P).1.1
noncomputable def tl5 (P : Params) : List Stmt := (lawS5 P).1.2
theorem tl4_eq (P : Params) : tl4 P = st5 P :: tl5 P := (lawS5 P).2
noncomputable def lawS6 (P : Params) : { x : Stmt × List Stmt // tl5 P = x.1 :: x.2 } := ⟨(_, _), by exact rfl⟩
noncomputable def st6 (P : Params) : Stmt := (lawS6 P).1.1
noncomputable def tl6 (P : Params) : List Stmt := (lawS6 P).1.2
theorem tl5_eq (P : Params) : tl5 P = st6 P :: tl6 P := (lawS6 P).2
noncomputable def lawS7 (P : Params) : { x : Stmt × List Stmt // tl6 P = x.1 :: x.2 } := ⟨(_, _), by exact rfl⟩
noncomputable def st7 (P : Params) : Stmt := (lawS7 P).1.1
noncomputable def tl7 (P : Params) : List Stmt := (lawS7 P).1.2
theorem tl6_eq (P : Params) : tl6 P = st7 P :: tl7 P := (lawS7 P).2
noncomputable def lawS8 (P : Params) : { x : Stmt × List Stmt // tl7 P = x.1 :: x.2 } := ⟨(_, _), by exact rfl⟩
noncomputable def st8 (P : Params) : Stmt := (lawS8 P).1.1
noncomputable def tl8 (P : Params) : List Stmt := (lawS8 P).1.2
theorem tl7_eq (P : Params) : tl7 P = st8 P :: tl8 P := (lawS8 P).2
noncomputable def lawS9 (P : Params) : { x : Stmt × List Stmt // tl8 P = x.1 :: x.2 } := ⟨(_, _), by exact rfl⟩
noncomputable def st9 (P : Params) : Stmt := (lawS9 P).1.1
noncomputable def tl9 (P : Params) : List Stmt := (lawS9 P).1.2
theorem tl8_eq (P : Params) : tl8 P = st9 P :: tl9 P := (lawS9 P).2
noncomputable def lawS10 (P : Params) : { x : Stmt × List Stmt // tl9 P = x.1 :: x.2 } := ⟨(_, _), by exact rfl⟩
noncomputable def st10 (P : Params) : Stmt := (lawS10 P).1.1
noncomputable def tl10 (P : Params) : List Stmt := (lawS10 P).1.2
theorem tl9_eq (P : Params) : tl9 P = st10 P :: tl10 P := (lawS10 P).2
noncomputable def lawS11 (P : Params) : { x : Stmt × List Stmt // tl10 P = x.1 :: x.2 } := ⟨(_, _), by exact rfl⟩
noncomputable def st11 (P : Params) : Stmt := (lawS11 P).1.1
noncomputable def tl11 (P : Params) : List Stmt := (lawS11 P).1.2
theorem tl10_eq (P : Params) : tl10 P = st11 P :: tl11 P := (lawS11 P).2
noncomputable def lawS12 (P : Params) : { x : Stmt × List Stmt // tl11 P = x.1 :: x.2 } := ⟨(_, _), by exact rfl⟩
noncomputable def st12 (P : Params) : Stmt := (lawS12 P).1.1
noncomputable def tl12 (P : Params) : List Stmt := (lawS12 P).1.2
theorem tl11_eq (P : Params) : tl11 P = st12 P :: tl12 P := (lawS12 P).2
noncomputable def lawS13 (P : Params) : { x : Stmt × List Stmt // tl12 P = x.1 :: x.2 } := ⟨(_, _), by exact rfl⟩
noncomputable def st13 (P : Params) : Stmt := (lawS13 P).1.1
noncomputable def tl13 (P : Params) : List Stmt := (lawS13 P).1.2
theorem tl12_eq (P : Params) : tl12 P = st13 P :: tl13 P := (lawS13 P).2
theorem tl13_eq (P : Params) : tl13 P = [] := by exact rfl
structure Run (p : Prop) : Prop where
  go : p
section
variable {W : Wd} {A : Around} {G : Mem} {n : Nat}
theorem Run.weaken {L : Addr} {m m' : List (Str × AV)} {Fs : List FA} {t : Sem Flow} {Q : AF → List (Str × AV) → Mem → Prop} (x : Run (EX W A L m' Fs G t Q)) (hm : Sup m m') : EX W A L m Fs G t Q := EX.weaken x.go hm
theorem fmod_ok (i : Int) : 0 ≤ i.fmod 997 ∧ i.fmod 997 < 997 := ⟨Int.fmod_nonneg_of_pos _ (by decide), Int.fmod_lt_of_pos _ (by decide)⟩
theorem vrs_ints {h : Heap} : ∀ {us : List Value}, (∀ v ∈ us, IntV v) → VRs h us ((us.map intOf).map .int)
  | [], _ => .nil
  | v :: us, hv => by
    obtain ⟨i, t, rfl⟩ := hv v (.head _)
    exact .cons (.int i t) (vrs_ints fun u hu => hv u (.tail _ hu))
theorem slice_ints {vs : List Value} {ns : List Int} (hI : IntsAre vs ns) : (∀ v ∈ (slicePick (List.toArray vs) none (some 60) none).toList, IntV v) ∧ (slicePick (List.toArray vs) none (some 60) none).toList.length ≤ ns.length := by
  constructor
  · intro v hv
    unfold slicePick at hv
    rw [List.toList_toArray] at hv
    obtain ⟨i, _, hi⟩ := List.mem_filterMap.mp hv
    have : v ∈ vs := by
      have := Array.mem_of_getElem? hi
      simpa using this
    obtain ⟨j, hj⟩ := List.getElem?_of_mem this
    obtain ⟨t, rfl⟩ := hI.int_at j v hj
    exact ⟨_, t, rfl⟩
  · unfold slicePick
    rw [List.toList_toArray]
    refine Nat.le_trans (List.length_filterMap_le _ _) ?_
    rw [← hI.length]
    have e : (List.toArray vs).size = vs.length := by simp
    rw [e]
    refine sliceRange_length_le _ _ _ _ (fun _ => ?_) (fun h => absurd ?_ h)
    · simp only [sliceBounds, Option.getD_none]
      simp
      omega
    · simp [sliceBounds]
theorem Sub.setW {Ws : List Addr} {G0 G : Mem} {a : Addr} {o : AO} (x : Sub Ws G0 G) (h : a ∈ Ws ∨ G0 a = none) : Sub Ws G0 (G.set a o) := fun b o' e r n => by
  rw [Mem.set_ne]; exact x b o' e r n
  intro q; subst q
  rcases h with h | h
  · exact n h
  · rw [h] at e; cases e
theorem LAW1 {L fa sl : Addr} {cd : Value} {vs : List Value} {ns : List Int} {Q : AF → List (Str × AV) → Mem → Prop} (X : Base W (KP W)) (hA : AOk (n + 1) A) (hc1 : G (L + 1) = some (.cell none)) (hl : W.B.IsList sl (List.toArray vs)) (hI : IntsAre vs ns) (hz : ns.length ≤ 63)
    (q : ∀ G' p cl, G' (L + 1) = some (.cell (some (.ref p))) → Ex [L + 1] G G' → PenOk G' p cl 0 → Run (EX W A L [("cells", .ref cl)] [] G' (execs (tl2 W.w.params) (lawEnv W.w.params L fa cd)) Q)) :
    Run (EX W A L [("script", .ref sl)] [] G (execs (tl0 W.w.params) (lawEnv W.w.params L fa cd)) Q) := ⟨by
  have slz : sizeLine = 16777216 := sizeLine_eq
  obtain ⟨hi1, hi2⟩ := slice_ints hI
  rw [tl0_eq]
  refine EX_cons (EX_assignCompI (cl := []) (by exact rfl) (by exact rfl) (by decide) rfl (by decide) rfl rfl rfl (EV_listSlice (k := 60) ((EV_local rfl rfl rfl rfl (EV_int ⟨sl, rfl, rfl, fun s hs => ?_⟩)))))
  obtain ⟨o, ho, hoc, hod⟩ := hl
  refine ⟨vs, _, ⟨o, hs.base _ _ ho, hoc, hod⟩, by rw [hI.length]; omega, vrs_ints hi1, fun b hb => ?_⟩
  generalize (slicePick (List.toArray vs) none (some 60) none).toList = us at *
  generalize hzs : us.map intOf = zs at *
  have hzl : zs.length ≤ 63 := by rw [← hzs]; simp; omega
  have k1 : Keeps G (G.set b (.list (zs.map .int))) := (Keeps.refl G).set hb
  have b1 : (G.set b (.list (zs.map .int))) b = some (.list (zs.map .int)) := Mem.set_self _ _ _
  generalize G.set b (.list (zs.map .int)) = G1 at *
  refine ⟨fun j acc G5 => Sub [] G1 G5 ∧ ∃ ws : List Int, acc = ws.map .int ∧ ws.length = j, (fun h k => ⟨h.1.trans k, h.2⟩), _, _, IT_list hA.h b1, fun i acc G5 h => h.1 _ _ b1 rfl (by simp), ⟨Sub.refl _ _, [], rfl, rfl⟩, by simp; omega, ?turn, ?done⟩
  case turn =>
    rintro C j x acc G5 hj ⟨hs5, ws, rfl, hw⟩
    obtain ⟨k, _, rfl⟩ : ∃ k, zs[j]? = some k ∧ x = .int k := by
      rw [List.getElem?_map] at hj
      obtain ⟨k, e1, e2⟩ := Option.map_eq_some_iff.mp hj
      exact ⟨k, e1, e2.symm⟩
    refine (SV_name (SV_local rfl rfl rfl ?_))
    refine EV_binop (EV_callT X (by exact rfl) rfl (by decide) rfl rfl rfl rfl (ES_cons ((EV_local rfl rfl rfl rfl (ES_nil (OL_int (EV_int (O2_mod_int (by decide) ⟨KeepIt.refl _, hs5, ws ++ [k.fmod 1000003], by simp, by simp [hw]⟩))))))))
  case done =>
    rintro acc G5 D hD ⟨hs5, ws, rfl, hw⟩ hkeep5
    have x5 : Ex [] G G5 := (k1.ex).trans ⟨hs5, hkeep5⟩
    have k6 : Keeps G5 (G5.set D (.list (ws.map .int))) := (Keeps.refl G5).set hD
    have d6 : (G5.set D (.list (ws.map .int))) D = some (.list (ws.map .int)) := Mem.set_self _ _ _
    have x6 : Ex [] G (G5.set D (.list (ws.map .int))) := x5.trans k6.ex
    generalize G5.set D (.list (ws.map .int)) = G6 at *
    have hwl : ws.length ≤ 63 := by rw [hw]; simpa using hzl
    have c6 := x6.sub _ _ hc1 rfl (by simp)
    show EX _ _ _ _ _ _ (execs (tl1 _) _) _
    rw [tl1_eq]
    refine EX_cons ?_
    refine EX_assign ?_
    refine EV_list ?_
    refine ES_cons ?_
    refine (EV_local rfl rfl rfl rfl ?_)
    refine ES_cons ?_
    refine EV_int ?_
    refine ES_cons ?_
    refine EV_binop ?_
    refine EV_callB X (by exact rfl) rfl (by decide) rfl rfl rfl rfl ?_
    refine ES_cons ?_
    refine (EV_local rfl rfl rfl rfl ?_)
    refine ES_nil ?_
    refine OL_sum hA.h d6 fun i => ?_
    refine EV_int ?_
    refine O2_mod_int (by decide) ?_
    refine ES_nil ⟨by rw [slz]; simp, fun pb hpb => ?_⟩
    refine SV_name ?_
    refine SV_cell (c := L + 1) (v₀ := none) ?_ ?_ ?_ ?_ ?_
    · exact rfl
    · exact rfl
    · exact cPen
    · rw [Mem.set_ne]; exact c6
      intro e; rw [e, hpb] at c6; cases c6
    · have hpc : pb ≠ L + 1 := fun e => by rw [e, c6] at hpb; cases hpb
      have e1 : Ex [L + 1] G ((G6.set pb (.list [.ref D, .int 0, .int (i.fmod 997)])).set (L + 1) (.cell (some (.ref pb)))) :=
        ((x6.up (by simp)).trans (Ex.new hpb)).trans (Ex.set (o₀ := .cell none) (by rw [Mem.set_ne _ _ (Ne.symm hpc)]; exact c6) rfl (by simp))
      have e2 : PenOk ((G6.set pb (.list [.ref D, .int 0, .int (i.fmod 997)])).set (L + 1) (.cell (some (.ref pb)))) pb D 0 := by
        refine ⟨0, i.fmod 997, ws, .inl ?_, ?_, by omega, Nat.le_refl _⟩
        · rw [Mem.set_ne _ _ hpc, Mem.set_self]; simp [penL]
        · rw [Mem.set_ne, Mem.set_ne]
          · exact d6
          · intro e; rw [e, hpb] at d6; cases d6
          · intro e; rw [e, c6] at d6; cases d6
      have hq := q ((G6.set pb (.list [.ref D, .int 0, .int (i.fmod 997)])).set (L + 1) (.cell (some (.ref pb)))) pb D (Mem.set_self _ _ _) e1 e2
      refine Run.weaken (m' := [("cells", .ref D)]) ?_ ?_
      · exact hq
      · (focus (repeat (first | exact Sup.refl _ | exact Sup.nil _ | refine Sup.cons (by exact rfl) ?_)))⟩
end
end Mine

namespace Mine
def nlA : List (Str × Int) := [("A", 0), ("B", 1), ("C", 2)]
section
variable {W : Wd} {A : Around} {G : Mem} {n : Nat}
theorem LAW2 {L fa cl : Addr} {cd : Value} {Q : AF → List (Str × AV) → Mem → Prop} (X : Base W (KP W)) (hA : AOk (n + 1) A) (hc2 : G (L + 2) = some (.cell none))
    (q : ∀ G' nu ne fe kn, G' (L + 2) = some (.cell (some (.ref nu))) → Ex [L + 2] G G' → G' nu = some (.dS (numK nlA) ne) → G' fe = some (.list []) → G' kn = some (.dT [] 0) → G fe = none → Run (EX W A L [("features", .ref fe), ("known", .ref kn)] [] G' (execs (tl3 W.w.params) (lawEnv W.w.params L fa cd)) Q)) :
    Run (EX W A L [("cells", .ref cl)] [] G (execs (tl2 W.w.params) (lawEnv W.w.params L fa cd)) Q) := ⟨by
  have slz : sizeLine = 16777216 := sizeLine_eq
  rw [tl2_eq]
  refine EX_cons ?_
  refine EX_assign ?_
  refine EV_tuple ?_
  refine ES_cons ?_
  refine EV_dict3 (sysB X) (by decide) fun nu ne hnu => ?_
  refine ES_cons ?_
  refine EV_list (ES_nil ⟨by rw [slz]; simp, fun fe hfe => ?_⟩)
  refine ES_cons ?_
  refine EV_dict0 (sysB X) (.dT [] 0) (.inr (.inr rfl)) fun kn hkn => ?_
  refine ES_nil ⟨by rw [slz]; simp, ?_⟩
  refine SV_tuple hA.h rfl rfl ?_
  show SV _ _ _ _ _ _ _ _ _
  have k1 : Keeps G (G.set nu (.dS (numK nlA) ne)) := (Keeps.refl G).set hnu
  have u1 : (G.set nu (.dS (numK nlA) ne)) nu = some (.dS (numK nlA) ne) := Mem.set_self _ _ _
  have e0 : ((G.set nu (.dS [("A", .int 0), ("B", .int 1), ("C", .int 2)] ne)).set fe (.list [])).set kn (.dT [] 0) = ((G.set nu (.dS (numK nlA) ne)).set fe (.list [])).set kn (.dT [] 0) := rfl
  have hfe' : (G.set nu (.dS (numK nlA) ne)) fe = none := hfe
  have hkn' : ((G.set nu (.dS (numK nlA) ne)).set fe (.list [])) kn = none := hkn
  rw [e0]
  generalize G.set nu (.dS (numK nlA) ne) = G1 at *
  have k2 : Keeps G1 (G1.set fe (.list [])) := (Keeps.refl G1).set hfe'
  have f2 : (G1.set fe (.list [])) fe = some (.list []) := Mem.set_self _ _ _
  have hf0 := k1.none hfe'
  generalize G1.set fe (.list []) = G2 at *
  have k3 : Keeps G2 (G2.set kn (.dT [] 0)) := (Keeps.refl G2).set hkn'
  have n3 : (G2.set kn (.dT [] 0)) kn = some (.dT [] 0) := Mem.set_self _ _ _
  generalize G2.set kn (.dT [] 0) = G3 at *
  have k := k1.trans (k2.trans k3)
  have c3 := k _ _ hc2
  have u3 := k3 _ _ (k2 _ _ u1)
  have f3 := k3 _ _ f2
  refine SV_name ?_
  refine SV_cell (c := L + 2) (v₀ := none) ?_ ?_ ?_ ?_ ?_
  · exact rfl
  · exact rfl
  · exact cNum
  · exact c3
  have ne1 : ∀ {a o}, G3 a = some o → o ≠ .cell none → a ≠ L + 2 := fun h1 h2 e => by rw [e, c3] at h1; injection h1 with h1; exact h2 h1.symm
  have hq := q (G3.set (L + 2) (.cell (some (.ref nu)))) nu ne fe kn (Mem.set_self _ _ _) ((k.ex (Ws := [L + 2])).trans (Ex.set c3 rfl (by simp))) (by rw [Mem.set_ne _ _ (ne1 u3 (by simp))]; exact u3)
    (by rw [Mem.set_ne _ _ (ne1 f3 (by simp))]; exact f3) (by rw [Mem.set_ne _ _ (ne1 n3 (by simp))]; exact n3) hf0
  show SV _ _ _ _ _ _ _ _ _
  refine (SV_name (SV_local rfl rfl rfl ?_))
  show SV _ _ _ _ _ _ _ _ _
  refine (SV_name (SV_local rfl rfl rfl ?_))
  refine Run.weaken (m' := [("features", .ref fe), ("known", .ref kn)]) ?_ ?_
  · exact hq
  · (focus (repeat (first | exact Sup.refl _ | exact Sup.nil _ | refine Sup.cons (by exact rfl) ?_)))⟩
end
end Mine

namespace Mine
section
variable {κ β : Type} [DecidableEq κ]
theorem pset_in {l : List (κ × β)} {k : κ} (h : k ∈ l.map (·.1)) (v : β) : pset l k v = l.map fun p => if p.1 = k then (p.1, v) else p := by
  unfold pset; rw [if_pos (pany_iff.mpr h)]
theorem pset_out {l : List (κ × β)} {k : κ} (h : k ∉ l.map (·.1)) (v : β) : pset l k v = l ++ [(k, v)] := by
  unfold pset; rw [if_neg (fun e => h (pany_iff.mp e))]
theorem pset_key_in {l : List (κ × β)} {k k' : κ} {v : β} (h : k ∈ l.map (·.1)) : k ∈ (pset l k' v).map (·.1) := by
  rw [pset_keys]; split
  · exact h
  · exact List.mem_append_left _ h
theorem pset_self_in (l : List (κ × β)) (k : κ) (v : β) : k ∈ (pset l k v).map (·.1) := by
  rw [pset_keys]; split
  · assumption
  · exact List.mem_append_right _ (.head _)
theorem pset_pset (l : List (κ × β)) (k : κ) (v v' : β) : pset (pset l k v) k v' = pset l k v' := by
  rw [pset_in (pset_self_in l k v)]
  by_cases h : k ∈ l.map (·.1)
  · rw [pset_in h, pset_in h, List.map_map]
    refine List.map_congr_left fun p _ => ?_
    by_cases e : p.1 = k <;> simp [e]
  · rw [pset_out h, pset_out h, List.map_append]
    congr 1
    · conv => rhs; rw [← List.map_id l]
      refine List.map_congr_left fun p hp => ?_
      rw [if_neg]; rfl
      intro e; exact h (List.mem_map.mpr ⟨p, hp, e⟩)
    · simp
theorem pset_comm {l : List (κ × β)} {k k' : κ} (hk : k ∈ l.map (·.1)) (hne : k ≠ k') (v v' : β) : pset (pset l k' v') k v = pset (pset l k v) k' v' := by
  rw [pset_in (pset_key_in hk)]
  by_cases h : k' ∈ l.map (·.1)
  · rw [pset_in h, pset_in (pset_key_in h), pset_in hk, List.map_map, List.map_map]
    refine List.map_congr_left fun p _ => ?_
    by_cases e : p.1 = k
    · have : p.1 ≠ k' := fun q => hne (e.symm.trans q)
      simp [e, hne]
    · by_cases e' : p.1 = k'
      · simp [e', Ne.symm hne]
      · simp [e, e']
  · rw [pset_out h, pset_out (by rw [pset_keys, if_pos hk]; exact h), List.map_append, pset_in hk]
    congr 1
    simp [Ne.symm hne]
end
theorem gput_eq (P : GR) (k : List Str) (t : Str) (v : List Int) : gput P k t v = pset P k (pset ((pget P k).getD []) t v) := rfl
theorem gadd_get' (P : GR) (k : List Str) : (pget (gadd P k) k).getD [] = (pget P k).getD [] := by
  unfold gadd
  split
  · rfl
  · rename_i h
    rw [pget_none.mpr h]
    unfold pget
    rw [List.find?_append]
    cases e : P.find? fun p => decide (p.1 = k) with
    | some p => exact absurd (List.mem_map.mpr ⟨p, List.mem_of_find?_eq_some e, by simpa using List.find?_some e⟩) h
    | none => simp
theorem gput_gadd (P : GR) (k : List Str) (t : Str) (v : List Int) : gput (gadd P k) k t v = gput P k t v := by
  rw [gput_eq, gput_eq, gadd_get']
  unfold gadd
  split
  · rfl
  · rename_i h
    rw [pset_out h, pset_in (by simp), List.map_append]
    congr 1
    · conv => rhs; rw [← List.map_id P]
      refine List.map_congr_left fun p hp => ?_
      rw [if_neg]; rfl
      intro e; exact h (List.mem_map.mpr ⟨p, hp, e⟩)
    · simp
theorem gval_gadd (P : GR) (k : List Str) (t : Str) : gval (gadd P k) k t = gval P k t := by
  unfold gval; rw [gadd_get']
theorem gval_gput (P : GR) (k k' : List Str) (t t' : Str) (v : List Int) : gval (gput P k t v) k' t' = if k' = k ∧ t' = t then v else gval P k' t' := by
  unfold gval
  rw [gput_eq, pget_pset]
  by_cases e : k' = k
  · subst e
    rw [if_pos rfl, Option.getD_some, pget_pset]
    by_cases e' : t' = t
    · subst e'; simp
    · rw [if_neg e', if_neg (fun h => e' h.2)]
  · rw [if_neg e, if_neg (fun h => e h.1)]
theorem gput_gput (P : GR) (k : List Str) (t : Str) (v v' : List Int) : gput (gput P k t v) k t v' = gput P k t v' := by
  rw [gput_eq, gput_eq P, pget_pset, if_pos rfl, Option.getD_some, pset_pset, pset_pset, ← gput_eq]
def HasT (P : GR) (k : List Str) (t : Str) : Prop := k ∈ P.map (·.1) ∧ t ∈ ((pget P k).getD []).map (·.1)
theorem HasT.put {P : GR} {k : List Str} {t : Str} (h : HasT P k t) (k' : List Str) (t' : Str) (v : List Int) : HasT (gput P k' t' v) k t := by
  refine ⟨pset_key_in h.1, ?_⟩
  rw [gput_eq, pget_pset]
  split
  · rename_i e; subst e
    exact pset_key_in h.2
  · exact h.2
theorem HasT.self (P : GR) (k : List Str) (t : Str) (v : List Int) : HasT (gput P k t v) k t := by
  refine ⟨pset_self_in _ _ _, ?_⟩
  rw [gput_eq, pget_pset, if_pos rfl]
  exact pset_self_in _ _ _
theorem gput_comm {P : GR} {k k' : List Str} {t t' : Str} {v v' : List Int} (h : HasT P k t) (hne : ¬ (k' = k ∧ t' = t)) : gput (gput P k' t' v') k t v = gput (gput P k t v) k' t' v' := by
  by_cases e : k' = k
  · subst e
    have e' : t ≠ t' := fun e' => hne ⟨rfl, e'.symm⟩
    rw [gput_eq, gput_eq P, pget_pset, if_pos rfl, Option.getD_some, pset_pset, gput_eq (gput P k' t v), gput_eq P, pget_pset, if_pos rfl, Option.getD_some, pset_pset, pset_comm h.2 e']
  · have e1 : k ≠ k' := fun q => e q.symm
    rw [gput_eq, gput_eq P, pget_pset, if_neg e1, gput_eq (gput P k t v), gput_eq P k, pget_pset, if_neg e, pset_comm h.1 e1]
def pput (P : GR) (q : List Str × List Int) : GR := match q.1 with
  | [s, l, t] => gput P [s, l] t q.2
  | _ => P
def pl (P : GR) (K : List (List Str × List Int)) : GR := K.foldl pput P
def Tri (k : List Str) : Prop := ∃ s l t, k = [s, l, t]
theorem pl_over {s l t : Str} {v : List Int} : ∀ (K : List (List Str × List Int)) (P : GR), HasT P [s, l] t → [s, l, t] ∉ K.map (·.1) → gput (pl P K) [s, l] t v = pl (gput P [s, l] t v) K
  | [], _, _, _ => rfl
  | q :: K, P, h, hn => by
    have hn1 : [s, l, t] ≠ q.1 := fun e => hn (by rw [List.map_cons, e]; exact .head _)
    have hn2 : [s, l, t] ∉ K.map (·.1) := fun e => hn (by rw [List.map_cons]; exact .tail _ e)
    show gput (pl (pput P q) K) _ _ _ = pl (pput (gput P [s, l] t v) q) K
    unfold pput
    split
    · rename_i s' l' t' e
      rw [pl_over K _ (h.put _ _ _) hn2, gput_comm h]
      rintro ⟨e1, e2⟩
      apply hn1
      rw [e]
      injection e1 with e1 e3
      injection e3 with e3
      rw [e1, e3, e2]
    · exact pl_over K _ h hn2
theorem pl_pset {s l t : Str} {v : List Int} : ∀ {K : List (List Str × List Int)} (P : GR), (K.map (·.1)).Nodup → [s, l, t] ∈ K.map (·.1) → pl P (pset K [s, l, t] v) = gput (pl P K) [s, l] t v := by
  intro K P hn hk
  rw [pset_in hk]
  induction K generalizing P with
  | nil => cases hk
  | cons q K ih =>
    rw [List.map_cons, List.nodup_cons] at hn
    by_cases e : q.1 = [s, l, t]
    · rw [e] at hn
      have e2 : K.map (fun p => if p.1 = [s, l, t] then (p.1, v) else p) = K := by
        conv => rhs; rw [← List.map_id K]
        refine List.map_congr_left fun p hp => ?_
        rw [if_neg]; rfl
        intro e'; exact hn.1 (List.mem_map.mpr ⟨p, hp, e'⟩)
      rw [List.map_cons, e2, if_pos e]
      show pl (pput P (q.1, v)) K = gput (pl (pput P q) K) [s, l] t v
      have e3 : pput P (q.1, v) = gput (pput P q) [s, l] t v := by
        unfold pput
        rw [e]
        exact (gput_gput ..).symm
      have e4 : HasT (pput P q) [s, l] t := by
        unfold pput; rw [e]; exact HasT.self ..
      rw [e3, pl_over K _ e4 hn.1]
    · rw [List.map_cons, if_neg e]
      show pl (pput P q) _ = gput (pl (pput P q) K) [s, l] t v
      refine ih (pput P q) hn.2 ?_
      rw [List.map_cons] at hk
      rcases List.mem_cons.mp hk with h | h
      · exact absurd h.symm e
      · exact h
theorem pl_val {s l t : Str} : ∀ {K : List (List Str × List Int)} (P : GR), (K.map (·.1)).Nodup → gval (pl P K) [s, l] t = (pget K [s, l, t]).getD (gval P [s, l] t)
  | [], _, _ => rfl
  | q :: K, P, hn => by
    rw [List.map_cons, List.nodup_cons] at hn
    show gval (pl (pput P q) K) _ _ = _
    rw [pl_val (pput P q) hn.2]
    by_cases e : q.1 = [s, l, t]
    · have : pget K [s, l, t] = none := pget_none.mpr (e ▸ hn.1)
      rw [this]
      unfold pput pget
      rw [e]
      simp [gval_gput, e]
    · have e1 : pget (q :: K) [s, l, t] = pget K [s, l, t] := by
        unfold pget
        rw [List.find?_cons_of_neg (by simpa using e)]
      rw [e1]
      congr 1
      unfold pput
      split
      · rename_i s' l' t' e2
        rw [gval_gput, if_neg]
        rintro ⟨h1, h2⟩
        apply e
        rw [e2, h2]
        injection h1 with h1 h3
        injection h3 with h3
        rw [h1, h3]
      · rfl
def kkey (r : FR) : List Str := [pad4 r.s, pad4 r.l, pad4 r.t]
def kstep (nl : List (Str × Int)) (K : List (List Str × List Int)) (r : FR) : List (List Str × List Int) :=
  if nums nl r.ns = [] then K else pset K (kkey r) (low3 ((pget K (kkey r)).getD [] ++ nums nl r.ns))
def kfold (nl : List (Str × Int)) (R : List FR) : List (List Str × List Int) := R.foldl (kstep nl) []
theorem kfold_nodup (nl : List (Str × Int)) : ∀ (R : List FR) (K : List (List Str × List Int)), (K.map (·.1)).Nodup → ((R.foldl (kstep nl) K).map (·.1)).Nodup
  | [], _, h => h
  | r :: R, K, h => by
    refine kfold_nodup nl R (kstep nl K r) ?_
    unfold kstep
    split
    · exact h
    · exact pset_nodup h _ _
theorem pl_kstep {nl : List (Str × Int)} {K : List (List Str × List Int)} (hn : (K.map (·.1)).Nodup) (r : FR) : pl [] (kstep nl K r) = gstep (pl [] K) [pad4 r.s, pad4 r.l] (pad4 r.t) (nums nl r.ns) := by
  unfold kstep gstep
  by_cases h : nums nl r.ns = []
  · rw [if_pos h, if_pos h]
  · rw [if_neg h, if_neg h, gput_gadd, gval_gadd, pl_val [] hn]
    have e0 : gval ([] : GR) [pad4 r.s, pad4 r.l] (pad4 r.t) = [] := rfl
    rw [e0]
    show pl [] (pset K [pad4 r.s, pad4 r.l, pad4 r.t] _) = _
    by_cases hk : [pad4 r.s, pad4 r.l, pad4 r.t] ∈ K.map (·.1)
    · rw [pl_pset [] hn hk]; rfl
    · rw [pset_out hk]
      unfold pl
      rw [List.foldl_append]
      rfl
theorem pl_kfold (nl : List (Str × Int)) : ∀ (R : List FR) (K : List (List Str × List Int)), (K.map (·.1)).Nodup → pl [] (R.foldl (kstep nl) K) = gfold nl (pl [] K) R
  | [], _, _ => rfl
  | r :: R, K, hn => by
    show pl [] (R.foldl (kstep nl) (kstep nl K r)) = gfold nl (gstep (pl [] K) [pad4 r.s, pad4 r.l] (pad4 r.t) (nums nl r.ns)) R
    rw [pl_kfold nl R _ (by
      unfold kstep
      split
      · exact hn
      · exact pset_nodup hn _ _), pl_kstep hn]
end Mine

namespace Mine
def SubW (G G' : Mem) : Prop := ∀ a o, G a = some o → o.real = true → (∀ w, o ≠ .wl w) → G' a = some o
structure ExW (G G' : Mem) : Prop where
  sub : SubW G G'
  its : KeepIt G G'
theorem SubW.refl (G : Mem) : SubW G G := fun _ _ e _ _ => e
theorem SubW.trans {G G1 G2 : Mem} (x : SubW G G1) (y : SubW G1 G2) : SubW G G2 := fun a o e r n => y a o (x a o e r n) r n
theorem Sub.subW {G G' : Mem} (x : Sub [] G G') : SubW G G' := fun a o e r _ => x a o e r (by simp)
theorem ExW.refl (G : Mem) : ExW G G := ⟨.refl _, .refl _⟩
theorem ExW.trans {G G1 G2 : Mem} (x : ExW G G1) (y : ExW G1 G2) : ExW G G2 := ⟨x.sub.trans y.sub, x.its.trans y.its⟩
theorem Ex.exW {G G' : Mem} (x : Ex [] G G') : ExW G G' := ⟨x.sub.subW, x.its⟩
theorem ExW.pen {G : Mem} {p : Addr} {w : List AV} {o : AO} (h : G p = some (.wl w)) : ExW G (G.set p o) :=
  ⟨fun a o e r n => by
    rw [Mem.set_ne]; exact e
    intro q; subst q; rw [h] at e; injection e with e; exact n _ e.symm, KeepIt.setReal h rfl⟩
def PenW (G : Mem) (p c : Addr) (k : Nat) : Prop := PenOk G p c k ∧ ∃ w, G p = some (.wl w)
theorem PenOk.sub {G G' : Mem} {p c : Addr} {k : Nat} (x : Sub [] G G') (h : PenOk G p c k) : PenOk G' p c k := by
  obtain ⟨spot, seed, l, h1, h2, h3, h4⟩ := h
  refine ⟨spot, seed, l, ?_, x _ _ h2 rfl (by simp), h3, h4⟩
  rcases h1 with h1 | h1
  · exact .inl (x _ _ h1 rfl (by simp))
  · exact .inr (x _ _ h1 rfl (by simp))
theorem PenOk.le {G : Mem} {p c : Addr} {k k' : Nat} (hk : k ≤ k') (h : PenOk G p c k) : PenOk G p c k' := by
  obtain ⟨spot, seed, l, h1, h2, h3, h4⟩ := h
  exact ⟨spot, seed, l, h1, h2, h3, by omega⟩
theorem PenW.sub {G G' : Mem} {p c : Addr} {k : Nat} (x : Sub [] G G') (h : PenW G p c k) : PenW G' p c k := ⟨h.1.sub x, let ⟨w, e⟩ := h.2; ⟨w, x _ _ e rfl (by simp)⟩⟩
theorem PenW.le {G : Mem} {p c : Addr} {k k' : Nat} (hk : k ≤ k') (h : PenW G p c k) : PenW G p c k' := ⟨h.1.le hk, h.2⟩
theorem PenW.set {G : Mem} {p c a : Addr} {k : Nat} {o o0 : AO} (h : PenW G p c k) (ha : G a = some o0) (hn : ∀ w, o0 ≠ .wl w) (hca : c ≠ a) : PenW (G.set a o) p c k := by
  obtain ⟨⟨spot, seed, l, h1, h2, h3, h4⟩, w, hw⟩ := h
  have hpa : p ≠ a := fun e => by rw [e, ha] at hw; injection hw with hw; exact hn _ hw
  exact ⟨⟨spot, seed, l, by rw [Mem.set_ne _ _ hpa]; exact h1, by rw [Mem.set_ne _ _ hca]; exact h2, h3, h4⟩, w, by rw [Mem.set_ne _ _ hpa]; exact hw⟩
section
variable {W : Wd} {A : Around} {Fs : List FA} {G : Mem} {Q : AV → Mem → Prop} {n : Nat} {env : Env} {pos : Pos}
theorem EV_draw {np pp cp kp : Pos} {c p cl : Addr} {k ck : Nat} {many : Int} (X : Base W (KP W)) (hA : AOk (n + 1) A) (hk : env.scope.kind = .function) (hx : env.kindOf "_law_draw" = some .globalImplicit) (hg : env.globals = mainGlobals) (hl : env.kindOf "pen" = some .cell) (hc : List.lookup (α := Str) "pen" env.cells = some c)
    (hgc : G c = some (.cell (some (.ref p)))) (hp : PenOk G p cl k) (hz : k ≤ 1000) (hm : 0 < many) (q : ∀ r G' l, 0 ≤ r → r < many → G' = G.set p (.wl l) → PenOk G' p cl (k + 1) → Q (.int r) G')
    (hplain : (backTo cp (starEach [.Name "pen" pp, .Constant (.int many) ck kp] env)).any (·.1) = false := by rfl) :
    EV W A Fs G (eval (.Call (.Name "_law_draw" np) [.Name "pen" pp, .Constant (.int many) ck kp] [] cp) env) Q := by
  refine EV_call X (by exact rfl) (by exact rfl) hk hx hg ?_ hplain
  refine ES_cons ?_
  refine EV_cell hk hl hc hgc ?_
  refine ES_cons (EV_int ?_)
  refine ES_nil ?_
  exact OC.ol (C_draw (n := n) X hA hp hz hm q)
theorem EV_pick {elts : List Expr} {lp np pp cp kp : Pos} {c p cl : Addr} {k ck : Nat} {many : Int} {xs : List Str} (X : Base W (KP W)) (hA : AOk (n + 1) A) (hk : env.scope.kind = .function) (hx : env.kindOf "_law_draw" = some .globalImplicit) (hg : env.globals = mainGlobals) (hl : env.kindOf "pen" = some .cell) (hc : List.lookup (α := Str) "pen" env.cells = some c)
    (hE : ∀ R : List AV → Mem → Prop, R (xs.map .str) G → ES W A Fs G (spliced (backTo lp (starEach elts env))) R) (hxs : many = xs.length) (hxz : 0 < xs.length ∧ xs.length ≤ 10)
    (hgc : G c = some (.cell (some (.ref p)))) (hp : PenW G p cl k) (hz : k ≤ 1000) (q : ∀ x G', x ∈ xs → ExW G G' → PenW G' p cl (k + 1) → Q (.str x) G')
    (hplain : (backTo cp (starEach [.Name "pen" pp, .Constant (.int many) ck kp] env)).any (·.1) = false := by rfl) :
    EV W A Fs G (eval (.Subscript (.List elts lp) (.Call (.Name "_law_draw" np) [.Name "pen" pp, .Constant (.int many) ck kp] [] cp) pos) env) Q := by
  refine EV_subL (EV_list (hE _ ⟨by rw [sizeLine_eq, List.length_map]; omega, fun a ha => ?_⟩))
  have k1 : Ex [] G (G.set a (.list (xs.map .str))) := Ex.new ha
  have a1 : (G.set a (.list (xs.map .str))) a = some (.list (xs.map .str)) := Mem.set_self _ _ _
  generalize G.set a (.list (xs.map .str)) = G1 at *
  have hp1 := hp.sub k1.sub
  refine EV_draw (n := n) X hA hk hx hg hl hc (k1.sub _ _ hgc rfl (by simp)) hp1.1 hz (by omega) (fun r G2 l h0 hr e hp2 => ?_) hplain
  obtain ⟨w, hw⟩ := hp1.2
  have hap : a ≠ p := fun q => by rw [q, hw] at a1; cases a1
  have hlt : r.toNat < xs.length := by omega
  refine ⟨a, xs.map .str, r, .str xs[r.toNat], rfl, rfl, .inl ?_, h0, by omega, ?_, q _ _ (List.getElem_mem hlt) (k1.exW.trans ?_) ⟨hp2, l, ?_⟩⟩
  · rw [e, Mem.set_ne _ _ hap]; exact a1
  · rw [List.getElem?_map, List.getElem?_eq_getElem hlt]; rfl
  · rw [e]; exact ExW.pen hw
  · rw [e]; exact Mem.set_self _ _ _
end
def tagsA : List Str := ["liga", "kern", "ss"]
def scrsA : List Str := ["DFLT", "latn", "arab"]
def lngsA : List Str := ["dflt", "TRK"]
def OkR (r : FR) : Prop := r.t ∈ tagsA ∧ r.s ∈ scrsA ∧ r.l ∈ lngsA ∧ r.ns.length ≤ 2
def KnownAt (G : Mem) (kvs : List (List Str × AV)) (K : List (List Str × List Int)) : Prop := All2 (fun p q => p.1 = q.1 ∧ LiR G p.2 q.2) kvs K
def Core (L nu ne fe kn : Nat) (R : List FR) (G : Mem) : Prop := G (L + 2) = some (.cell (some (.ref nu))) ∧ G nu = some (.dS (numK nlA) ne) ∧ (∃ fr, G fe = some (.list fr) ∧ FRowsAt G fr R) ∧ (∀ r ∈ R, OkR r) ∧ ∃ kvs e, G kn = some (.dT kvs e) ∧ KnownAt G kvs (kfold nlA R)
theorem FRowAt.subW {G G' : Mem} {a : Addr} {r : FR} (k : SubW G G') (h : FRowAt G a r) : FRowAt G' a r := by
  obtain ⟨dx, h1, h2⟩ := h
  exact ⟨dx, k _ _ h1 rfl (by intro w e; cases e), k _ _ h2 rfl (by intro w e; cases e)⟩
theorem FRowsAt.subW {G G' : Mem} {l : List AV} {R : List FR} (k : SubW G G') (h : FRowsAt G l R) : FRowsAt G' l R := h.mono fun _ _ ⟨f, e, h⟩ => ⟨f, e, h.subW k⟩
theorem KnownAt.keep {G G' : Mem} {kvs : List (List Str × AV)} {K : List (List Str × List Int)} (k : ∀ l v, G l = some (.list v) → G' l = some (.list v)) (h : KnownAt G kvs K) : KnownAt G' kvs K :=
  h.mono fun _ _ ⟨e, l, h1, h2⟩ => ⟨e, l, h1, k _ _ h2⟩
theorem SubW.list {G G' : Mem} (k : SubW G G') : ∀ l v, G l = some (.list v) → G' l = some (.list v) := fun l v h => k _ _ h rfl (by intro w e; cases e)
theorem Core.subW {L nu ne fe kn : Nat} {R : List FR} {G G' : Mem} (k : SubW G G') (h : Core L nu ne fe kn R G) : Core L nu ne fe kn R G' := by
  obtain ⟨h1, h2, ⟨fr, h3, h4⟩, h5, kvs, e, h6, h7⟩ := h
  exact ⟨k _ _ h1 rfl (by intro w e; cases e), k _ _ h2 rfl (by intro w e; cases e), ⟨fr, k.list _ _ h3, h4.subW k⟩, h5, kvs, e, k _ _ h6 rfl (by intro w e; cases e), h7.keep k.list⟩
end Mine

namespace Mine
noncomputable def lapForS (P : Params) : { x : (Expr × Expr) × List Stmt × Pos // st4 P = .For x.1.1 x.1.2 x.2.1 [] x.2.2 } := ⟨((_, _), _, _), by exact rfl⟩
noncomputable def lapBody (P : Params) : List Stmt := (lapForS P).1.2.1
noncomputable def lapT0 (P : Params) : List Stmt := lapBody P
noncomputable def lapS1 (P : Params) : { x : Stmt × List Stmt // lapT0 P = x.1 :: x.2 } := ⟨(_, _), by exact rfl⟩
noncomputable def lap1 (P : Params) : Stmt := (lapS1 P).1.1
noncomputable def lapT1 (P : Params) : List Stmt := (lapS1 P).1.2
theorem lapT0_eq (P : Params) : lapT0 P = lap1 P :: lapT1 P := (lapS1 P).2
noncomputable def lapS2 (P : Params) : { x : Stmt × List Stmt // lapT1 P = x.1 :: x.2 } := ⟨(_, _), by exact rfl⟩
noncomputable def lap2 (P : Params) : Stmt := (lapS2 P).1.1
noncomputable def lapT2 (P : Params) : List Stmt := (lapS2 P).1.2
theorem lapT1_eq (P : Params) : lapT1 P = lap2 P :: lapT2 P := (lapS2 P).2
noncomputable def lapS3 (P : Params) : { x : Stmt × List Stmt // lapT2 P = x.1 :: x.2 } := ⟨(_, _), by exact rfl⟩
noncomputable def lap3 (P : Params) : Stmt := (lapS3 P).1.1
noncomputable def lapT3 (P : Params) : List Stmt := (lapS3 P).1.2
theorem lapT2_eq (P : Params) : lapT2 P = lap3 P :: lapT3 P := (lapS3 P).2
noncomputable def lapS4 (P : Params) : { x : Stmt × List Stmt // lapT3 P = x.1 :: x.2 } := ⟨(_, _), by exact rfl⟩
noncomputable def lap4 (P : Params) : Stmt := (lapS4 P).1.1
noncomputable def lapT4 (P : Params) : List Stmt := (lapS4 P).1.2
theorem lapT3_eq (P : Params) : lapT3 P = lap4 P :: lapT4 P := (lapS4 P).2
noncomputable def lapS5 (P : Params) : { x : Stmt × List Stmt // lapT4 P = x.1 :: x.2 } := ⟨(_, _), by exact rfl⟩
noncomputable def lap5 (P : Params) : Stmt := (lapS5 P).1.1
noncomputable def lapT5 (P : Params) : List Stmt := (lapS5 P).1.2
theorem lapT4_eq (P : Params) : lapT4 P = lap5 P :: lapT5 P := (lapS5 P).2
noncomputable def lapS6 (P : Params) : { x : Stmt × List Stmt // lapT5 P = x.1 :: x.2 } := ⟨(_, _), by exact rfl⟩
noncomputable def lap6 (P : Params) : Stmt := (lapS6 P).1.1
noncomputable def lapT6 (P : Params) : List Stmt := (lapS6 P).1.2
theorem lapT5_eq (P : Params) : lapT5 P = lap6 P :: lapT6 P := (lapS6 P).2
theorem lapT6_eq (P : Params) : lapT6 P = [] := by exact rfl
section
variable {W : Wd} {A : Around} {G : Mem} {n : Nat}
theorem LAPa {L fa nu ne fe kn p cl k : Nat} {lap : AV} {R : List FR} {cd : Value} {Q : AF → List (Str × AV) → Mem → Prop} (X : Base W (KP W)) (hA : AOk (n + 1) A) (hc1 : G (L + 1) = some (.cell (some (.ref p)))) (hp : PenW G p cl k) (hz : k ≤ 900) (hC : Core L nu ne fe kn R G)
    (q : ∀ t s l G', t ∈ tagsA → s ∈ scrsA → l ∈ lngsA → ExW G G' → PenW G' p cl (k + 3) → Run (EX W A L [("features", .ref fe), ("known", .ref kn), ("tag", .str t), ("writing", .str s), ("language", .str l)] [] G' (execs (lapT1 W.w.params) (lawEnv W.w.params L fa cd)) Q)) :
    Run (EX W A L [("features", .ref fe), ("known", .ref kn), ("lap", lap)] [] G (execs (lapT0 W.w.params) (lawEnv W.w.params L fa cd)) Q) := ⟨by
  have slz : sizeLine = 16777216 := sizeLine_eq
  rw [lapT0_eq]
  refine EX_cons ?_
  refine EX_assignSwap hA.h ?_
  refine EV_tuple ?_
  refine ES_cons ?_
  refine EV_pick (n := n) (c := L + 1) (p := p) (k := k) (xs := tagsA) X hA rfl (by exact rfl) rfl (by exact rfl) (by exact rfl) (fun R hR => ES_cons (EV_str (ES_cons (EV_str (ES_cons (EV_str (ES_nil hR))))))) rfl (by decide) hc1 hp (by omega) fun t G1 ht x1 hp1 => ?_
  have c1 := x1.sub _ _ hc1 rfl (by intro w e; cases e)
  refine ES_cons ?_
  refine EV_pick (n := n) (c := L + 1) (p := p) (k := k + 1) (xs := scrsA) X hA rfl (by exact rfl) rfl (by exact rfl) (by exact rfl) (fun R hR => ES_cons (EV_str (ES_cons (EV_str (ES_cons (EV_str (ES_nil hR))))))) rfl (by decide) c1 hp1 (by omega) fun s G2 hs x2 hp2 => ?_
  have c2 := x2.sub _ _ c1 rfl (by intro w e; cases e)
  refine ES_cons ?_
  refine EV_pick (n := n) (c := L + 1) (p := p) (k := k + 2) (xs := lngsA) X hA rfl (by exact rfl) rfl (by exact rfl) (by exact rfl) (fun R hR => ES_cons (EV_str (ES_cons (EV_str (ES_nil hR))))) rfl (by decide) c2 hp2 (by omega) fun l G3 hl x3 hp3 => ?_
  refine ES_nil ⟨by rw [slz]; simp, [_, _, _], rfl, rfl, ?_⟩
  have hq := q t s l G3 ht hs hl (x1.trans (x2.trans x3)) hp3
  show SV _ _ _ _ _ _ _ _ _
  refine SV_bind (SV_local rfl rfl rfl ?_)
  show SV _ _ _ _ _ _ _ _ _
  refine SV_bind (SV_local rfl rfl rfl ?_)
  show SV _ _ _ _ _ _ _ _ _
  refine SV_bind (SV_local rfl rfl rfl ?_)
  refine Run.weaken (m' := [("features", .ref fe), ("known", .ref kn), ("tag", .str t), ("writing", .str s), ("language", .str l)]) ?_ ?_
  · exact hq
  · (focus (repeat (first | exact Sup.refl _ | exact Sup.nil _ | refine Sup.cons (by exact rfl) ?_)))⟩
end
end Mine

namespace Mine
theorem All2.append {α β : Type} {R : α → β → Prop} : ∀ {l : List α} {m : List β} {l' : List α} {m' : List β}, All2 R l m → All2 R l' m' → All2 R (l ++ l') (m ++ m')
  | _, _, _, _, .nil, h => h
  | _, _, _, _, .cons r h, h' => .cons r (h.append h')
section
variable {W : Wd} {A : Around} {G : Mem} {n : Nat}
theorem LAPb {L fa nu ne fe kn p cl k : Nat} {R : List FR} {cd : Value} {t s l : Str} {Q : AF → List (Str × AV) → Mem → Prop} (X : Base W (KP W)) (hA : AOk (n + 1) A) (hc1 : G (L + 1) = some (.cell (some (.ref p)))) (hp : PenW G p cl k) (hz : k ≤ 900)
    (q : ∀ (ns : List Str) G', ns.length ≤ 2 → ExW G G' → PenW G' p cl (k + 3) → Run (EX W A L [("features", .ref fe), ("known", .ref kn), ("tag", .str t), ("writing", .str s), ("language", .str l), ("names", .tup (ns.map .str))] [] G' (execs (lapT2 W.w.params) (lawEnv W.w.params L fa cd)) Q)) :
    Run (EX W A L [("features", .ref fe), ("known", .ref kn), ("tag", .str t), ("writing", .str s), ("language", .str l)] [] G (execs (lapT1 W.w.params) (lawEnv W.w.params L fa cd)) Q) := ⟨by
  have slz : sizeLine = 16777216 := sizeLine_eq
  rw [lapT1_eq]
  refine EX_cons ?_
  refine EX_assign ?_
  refine EV_callT X (by exact rfl) rfl (by decide) rfl rfl rfl rfl ?_
  refine ES_cons ?_
  refine EV_compI (cl := [("pen", L + 1)]) (by exact rfl) (by decide) rfl (by decide) ?_
  refine EV_callT X (by exact rfl) rfl (by decide) rfl rfl rfl rfl ?_
  refine ES_cons ?_
  refine EV_binop ?_
  refine EV_int ?_
  refine EV_draw (n := n) X hA rfl (by exact rfl) rfl (by exact rfl) (by exact rfl) hc1 hp.1 (by omega) (by decide) fun r G1 w h0 h2 e hp1 => ?_
  obtain ⟨w0, hw0⟩ := hp.2
  have x1 : ExW G G1 := e ▸ ExW.pen hw0
  have hp1 : PenW G1 p cl (k + 1) := ⟨hp1, w, by rw [e]; exact Mem.set_self _ _ _⟩
  clear e hw0
  refine O2_add_int ?_
  refine ES_nil ?_
  refine OL_range fun a t1 t2 t3 ha => ?_
  obtain ⟨m, hm1, hm2⟩ : ∃ m : Nat, (1 : Int) + r = (m : Int) ∧ m ≤ 2 := ⟨(1 + r).toNat, by omega, by omega⟩
  rw [hm1]
  have x2 : Ex [] G1 (G1.set a (.fx "range" #[.int 0 t1, .int (m : Int) t2, .int 1 t3])) := Ex.new ha
  have a2 : (G1.set a (.fx "range" #[.int 0 t1, .int (m : Int) t2, .int 1 t3])) a = some (.fx "range" #[.int 0 t1, .int (m : Int) t2, .int 1 t3]) := Mem.set_self _ _ _
  generalize G1.set a (.fx "range" #[.int 0 t1, .int (m : Int) t2, .int 1 t3]) = G2 at *
  have x12 := x1.trans x2.exW
  have hp2 := hp1.sub x2.sub
  have c2 := x12.sub _ _ hc1 rfl (by intro w e; cases e)
  refine ⟨fun j acc G5 => SubW G2 G5 ∧ PenW G5 p cl (k + 1 + j) ∧ ∃ ns : List Str, acc = ns.map .str ∧ ns.length = j, (fun h k => ⟨h.1.trans k.subW, h.2.1.sub k, h.2.2⟩), _, _, IT_range hA.h (by omega) a2, fun _ _ _ _ => trivial, ⟨.refl _, hp2, [], rfl, rfl⟩, by rw [slz]; simp; omega, ?turn, ?done⟩
  case turn =>
    rintro C j x acc G5 hj ⟨hs5, hp5, ns, rfl, hns⟩
    have hj2 : j < m := by
      rcases Nat.lt_or_ge j m with h | h
      · exact h
      · rw [List.getElem?_eq_none (by simpa using h)] at hj; cases hj
    refine (SV_name (SV_local rfl rfl rfl ?_))
    show EV _ _ _ _ _ _
    refine EV_pick (n := n) (c := L + 1) (p := p) (k := k + 1 + j) (xs := ["A", "B", "C", "X"]) X hA rfl (by exact rfl) rfl (by exact rfl) (by exact rfl) (fun R hR => ES_cons (EV_str (ES_cons (EV_str (ES_cons (EV_str (ES_cons (EV_str (ES_nil hR))))))))) rfl (by decide) (hs5 _ _ c2 rfl (by intro w e; cases e)) hp5 (by omega) fun y G6 hy x6 hp6 => ?_
    exact ⟨x6.its, hs5.trans x6.sub, hp6, ns ++ [y], by simp, by simp [hns]⟩
  case done =>
    rintro acc G5 D hD ⟨hs5, hp5, ns, rfl, hns⟩ hkeep5
    have hns2 : ns.length ≤ 2 := by rw [hns]; simpa using hm2
    have x5 : ExW G G5 := x12.trans ⟨hs5, hkeep5⟩
    have x56 : Ex [] G5 (G5.set D (.list (ns.map .str))) := Ex.new hD
    have d6 : (G5.set D (.list (ns.map .str))) D = some (.list (ns.map .str)) := Mem.set_self _ _ _
    have hp6 : PenW G5 p cl (k + 3) := hp5.le (by simp; omega)
    generalize G5.set D (.list (ns.map .str)) = G6 at *
    refine ES_nil (OL_tuple d6 (by rw [slz]; simp; omega) ?_)
    have hq := q ns G6 hns2 (x5.trans x56.exW) (hp6.sub x56.sub)
    refine (SV_name (SV_local rfl rfl rfl ?_))
    refine Run.weaken (m' := [("features", .ref fe), ("known", .ref kn), ("tag", .str t), ("writing", .str s), ("language", .str l), ("names", .tup (ns.map .str))]) ?_ ?_
    · exact hq
    · (focus (repeat (first | exact Sup.refl _ | exact Sup.nil _ | refine Sup.cons (by exact rfl) ?_)))⟩
theorem LAPc {L fa nu ne fe kn p cl k : Nat} {R : List FR} {cd : Value} {t s l : Str} {ns : List Str} {Q : AF → List (Str × AV) → Mem → Prop} (X : Base W (KP W)) (hA : AOk (n + 2) A) (hp : PenW G p cl k) (hR : R.length ≤ 60) (hC : Core L nu ne fe kn R G) (hcl : cl ≠ fe)
    (q : ∀ G' fr, KeepIt G G' → PenW G' p cl k → (∀ a o, G a = some o → a ≠ fe → G' a = some o) → G' fe = some (.list fr) → FRowsAt G' fr (R ++ [⟨t, s, l, ns⟩]) →
      Run (EX W A L [("features", .ref fe), ("known", .ref kn), ("tag", .str t), ("writing", .str s), ("language", .str l), ("names", .tup (ns.map .str))] [] G' (execs (lapT3 W.w.params) (lawEnv W.w.params L fa cd)) Q)) :
    Run (EX W A L [("features", .ref fe), ("known", .ref kn), ("tag", .str t), ("writing", .str s), ("language", .str l), ("names", .tup (ns.map .str))] [] G (execs (lapT2 W.w.params) (lawEnv W.w.params L fa cd)) Q) := ⟨by
  have slz : sizeLine = 16777216 := sizeLine_eq
  obtain ⟨h1, h2, ⟨fr, h3, h4⟩, h5, h6⟩ := hC
  rw [lapT2_eq]
  refine EX_cons ?_
  refine EX_expr ?_
  refine EV_method "list" "list.append" F.plainAttrs_list F.slot_list_append F.type_list_append ?_
  refine (EV_local rfl rfl rfl rfl ?_)
  refine ⟨TyIs.list h3, ?_⟩
  refine ES_cons ?_
  refine EV_call X (by exact rfl) (by exact rfl) rfl (by exact rfl) rfl ?_
  refine ES_cons ((EV_local rfl rfl rfl rfl ?_))
  refine ES_cons ((EV_local rfl rfl rfl rfl ?_))
  refine ES_cons ((EV_local rfl rfl rfl rfl ?_))
  refine ES_cons ((EV_local rfl rfl rfl rfl ?_))
  refine ES_nil ?_
  refine C_FeatureRow (n := n) X hA fun a dx G1 k1 ha a1 d1 => ?_
  have f1 := k1 _ _ h3
  have hfl : fr.length = R.length := h4.length
  refine ES_nil (OL_append f1 (by rw [slz]; omega) ?_)
  have hp1 : PenW (G1.set fe (.list (fr ++ [.ref a]))) p cl k := (hp.sub k1.ex.sub).set f1 (by intro w e; cases e) hcl
  have hafe : a ≠ fe := fun e => by rw [e, h3] at ha; cases ha
  have hdfe : dx ≠ fe := fun e => by rw [e, f1] at d1; cases d1
  have keep : ∀ b o, G1 b = some o → b ≠ fe → (G1.set fe (.list (fr ++ [.ref a]))) b = some o := fun b o e hb => by rw [Mem.set_ne _ _ hb]; exact e
  have hq := q (G1.set fe (.list (fr ++ [.ref a]))) (fr ++ [.ref a]) (KeepIt.trans (k1.ex (Ws := [])).its (KeepIt.setReal f1 rfl)) hp1 (fun b o e hb => keep b o (k1 b o e) hb) (Mem.set_self _ _ _)
    (All2.append (h4.mono fun _ _ ⟨f, e, dy, y1, y2⟩ => ⟨f, e, dy, keep _ _ (k1 _ _ y1) (fun e => by rw [e, h3] at y1; cases y1), keep _ _ (k1 _ _ y2) (fun e => by rw [e, h3] at y2; cases y2)⟩) (.cons ⟨a, rfl, dx, keep _ _ a1 hafe, keep _ _ d1 hdfe⟩ .nil))
  refine Run.weaken (m' := [("features", .ref fe), ("known", .ref kn), ("tag", .str t), ("writing", .str s), ("language", .str l), ("names", .tup (ns.map .str))]) ?_ ?_
  · exact hq
  · (focus (repeat (first | exact Sup.refl _ | exact Sup.nil _ | refine Sup.cons (by exact rfl) ?_)))⟩
theorem LAPd {L fa nu ne fe kn p : Nat} {cd : Value} {t s l : Str} {ns : List Str} {Q : AF → List (Str × AV) → Mem → Prop} (X : Base W (KP W)) (hA : AOk (n + 2) A) (hns : ns.length ≤ 2) (h1 : G (L + 2) = some (.cell (some (.ref nu)))) (h2 : G nu = some (.dS (numK nlA) ne))
    (q : ∀ G' D, Ex [] G G' → G' D = some (.list ((nums nlA ns).map .int)) →
      Run (EX W A L [("features", .ref fe), ("known", .ref kn), ("tag", .str t), ("writing", .str s), ("language", .str l), ("some", .ref D)] [] G' (execs (lapT4 W.w.params) (lawEnv W.w.params L fa cd)) Q)) :
    Run (EX W A L [("features", .ref fe), ("known", .ref kn), ("tag", .str t), ("writing", .str s), ("language", .str l), ("names", .tup (ns.map .str))] [] G (execs (lapT3 W.w.params) (lawEnv W.w.params L fa cd)) Q) := ⟨by
  have slz : sizeLine = 16777216 := sizeLine_eq
  rw [lapT3_eq]
  refine EX_cons ?_
  refine EX_assignCompI (cl := [("numbers", L + 2)]) (by exact rfl) (by exact rfl) (by decide) rfl (by decide) rfl rfl rfl ?_
  refine (EV_local rfl rfl rfl rfl ?_)
  refine ⟨fun j acc G5 => Sub [] G G5 ∧ acc = (nums nlA (ns.take j)).map .int, (fun h k => ⟨h.1.trans k, h.2⟩), _, _, IT_tuple hA.h, fun _ _ _ _ => trivial, ⟨Sub.refl _ _, rfl⟩, by rw [slz]; simp; omega, ?turn, ?done⟩
  case turn =>
    rintro C j x acc G5 hj ⟨hs5, rfl⟩
    obtain ⟨nm, hk1, rfl⟩ : ∃ k, ns[j]? = some k ∧ x = .str k := by
      rw [List.getElem?_map] at hj
      obtain ⟨t, e1, e2⟩ := Option.map_eq_some_iff.mp hj
      exact ⟨t, e1, e2.symm⟩
    have c5 := hs5 _ _ h1 rfl (by simp)
    have n5 := hs5 _ _ h2 rfl (by simp)
    have htk : nums nlA (ns.take (j + 1)) = nums nlA (ns.take j) ++ (pget nlA nm).toList := by
      unfold nums
      rw [List.take_add_one, hk1, List.filterMap_append]
      cases h : pget nlA nm <;> simp [h]
    refine (SV_name (SV_local rfl rfl rfl ?_))
    show EB _ _ _ _ _ _
    refine EB_compare ((EV_local rfl rfl rfl rfl (EV_cell (c := L + 2) rfl rfl rfl c5 (O2_in_dS n5 (OB_bool ?_)))))
    rw [aget_numK]
    cases h : pget nlA nm with
    | none =>
      rw [h] at htk
      exact ⟨KeepIt.refl _, hs5, by rw [htk]; simp⟩
    | some v =>
      rw [h] at htk
      refine EV_subS (EV_cell (c := L + 2) rfl rfl rfl c5 ((EV_local rfl rfl rfl rfl ⟨nu, numK nlA, nm, ne, .int v, rfl, rfl, n5, by rw [aget_numK, h]; rfl, KeepIt.refl _, hs5, by rw [htk]; simp⟩)))
  case done =>
    rintro acc G5 D hD ⟨hs5, rfl⟩ hkeep5
    rw [show (ns.map AV.str).length = ns.length by simp, List.take_length]
    have hq := q (G5.set D (.list ((nums nlA ns).map .int))) D ((show Ex [] G G5 from ⟨hs5, hkeep5⟩).trans (Ex.new hD)) (Mem.set_self _ _ _)
    refine Run.weaken (m' := [("features", .ref fe), ("known", .ref kn), ("tag", .str t), ("writing", .str s), ("language", .str l), ("some", .ref D)]) ?_ ?_
    · exact hq
    · (focus (repeat (first | exact Sup.refl _ | exact Sup.nil _ | refine Sup.cons (by exact rfl) ?_)))⟩
theorem slc_t {t : Str} (h : t ∈ tagsA) : ∀ tk v, sliceMade (t ++ "  ") tk none (some (4, v)) none = .val (.str (pad4 t) tk) ∨ sliceMade (t ++ "  ") tk none (some (4, v)) none = .str (pad4 t) := by
  intro tk v
  simp only [tagsA, List.mem_cons, List.not_mem_nil, or_false] at h
  rcases h with rfl | rfl | rfl
  · right; rfl
  · right; rfl
  · left; rfl
end
end Mine

namespace Mine
def LowK (K : List (List Str × List Int)) : Prop := ∀ q ∈ K, (∀ k ∈ q.2, Low k) ∧ q.2.length ≤ 3
theorem kfold_size (nl : List (Str × Int)) : ∀ (R : List FR) (K : List (List Str × List Int)), LowK K → LowK (R.foldl (kstep nl) K) ∧ (R.foldl (kstep nl) K).length ≤ K.length + R.length
  | [], K, h => ⟨h, Nat.le_refl _⟩
  | r :: R, K, h => by
    have h1 : LowK (kstep nl K r) := by
      unfold kstep
      split
      · exact h
      · intro q hq
        rcases pset_mem hq with rfl | hq
        · exact low3_low _
        · exact h q hq
    have h2 : (kstep nl K r).length ≤ K.length + 1 := by
      unfold kstep
      split
      · omega
      · exact pset_length ..
    obtain ⟨a, b⟩ := kfold_size nl R (kstep nl K r) h1
    refine ⟨a, ?_⟩
    have b' : (List.foldl (kstep nl) K (r :: R)).length ≤ (kstep nl K r).length + R.length := b
    rw [List.length_cons]; omega
theorem KnownAt.set {G : Mem} {kvs : List (List Str × AV)} {K : List (List Str × List Int)} {key : List Str} {l : Addr} {ns : List Int} (h : KnownAt G kvs K) (hl : G l = some (.list (ns.map .int))) : KnownAt G (aset kvs key (.ref l)) (pset K key ns) := All2.pset (R := LiR G) ⟨l, rfl, hl⟩ h
theorem KnownAt.get {G : Mem} {kvs : List (List Str × AV)} {K : List (List Str × List Int)} (h : KnownAt G kvs K) (key : List Str) : match pget K key with
    | some ns => ∃ l, aget kvs key = some (.ref l) ∧ G l = some (.list (ns.map .int))
    | none => aget kvs key = none := by
  have := All2.pget (R := LiR G) h key
  cases hq : pget K key with
  | none => rw [hq] at this; exact this
  | some ns => rw [hq] at this; obtain ⟨x, h1, l, rfl, h2⟩ := this; exact ⟨l, h1, h2⟩
theorem pad_s {s : Str} (h : s ∈ scrsA) : pad4 s = s := by
  simp only [scrsA, List.mem_cons, List.not_mem_nil, or_false] at h
  rcases h with rfl | rfl | rfl <;> rfl
theorem slc_l {t : Str} (h : t ∈ lngsA) : ∀ tk v, sliceMade (t ++ "  ") tk none (some (4, v)) none = .val (.str (pad4 t) tk) ∨ sliceMade (t ++ "  ") tk none (some (4, v)) none = .str (pad4 t) := by
  intro tk v
  simp only [lngsA, List.mem_cons, List.not_mem_nil, or_false] at h
  rcases h with rfl | rfl
  · right; rfl
  · right; rfl
theorem len_t {t : Str} (h : t ∈ tagsA) : t.length ≤ 4 ∧ (pad4 t).length = 4 := by
  simp only [tagsA, List.mem_cons, List.not_mem_nil, or_false] at h
  rcases h with rfl | rfl | rfl <;> decide
theorem len_l {t : Str} (h : t ∈ lngsA) : t.length ≤ 4 ∧ (pad4 t).length = 4 := by
  simp only [lngsA, List.mem_cons, List.not_mem_nil, or_false] at h
  rcases h with rfl | rfl <;> decide
theorem len_s {t : Str} (h : t ∈ scrsA) : t.length ≤ 4 ∧ (pad4 t).length = 4 := by
  simp only [scrsA, List.mem_cons, List.not_mem_nil, or_false] at h
  rcases h with rfl | rfl | rfl <;> decide
section
variable {W : Wd} {A : Around} {G : Mem} {n : Nat}
theorem EV_strSliceT {Fs : List FA} {env : Env} {pos : Pos} {Q : AV → Mem → Prop} {value u : Expr} {p : Pos} {k : Int} (h : EV W A Fs G (eval value env) fun x G1 => EV W A Fs G1 (eval u env) fun y G2 => ∃ a b, x = .str a ∧ y = .int k ∧ b.length ≤ sizeLine ∧
      (∀ t v, sliceMade a t none (some (k, v)) none = .val (.str b t) ∨ sliceMade a t none (some (k, v)) none = .str b) ∧ Q (.str b) G2) :
    EV W A Fs G (eval (.Subscript value (.Slice none (some u) none p) pos) env) Q := fun s h0 => by
  refine Subscript_ (noE (h s h0) fun v s1 ⟨x, G1, hs1, k1, r1, x1⟩ => ?_)
  refine wpAny_Slice ?_
  rw [evalPart_none, evalPart_some]
  refine wpAny_pure (noE (x1 s1 hs1) fun i s2 ⟨y, G2, hs2, k2, r2, a, b, e1, e2, hz, hm, q⟩ => ?_)
  refine wpAny_pure ?_
  subst e1 e2
  obtain ⟨t, rfl⟩ := (r1.keep k2).strI
  obtain ⟨v, rfl⟩ := r2.intI
  refine tail_any (ops := [.ref s2.heap.objs.size, .str a t]) (typeIs_str _ a t) F.slot_str_getitem.lookup (wpAny_getItem_str_slice (l := none) (u := some (k, v)) (st := none) ⟨_, Heap.get?_push_size _ rfl, rfl, rfl⟩ rfl ?_) rfl
  have e : ∀ a o, s2.heap.get? a = some o → (s2.heap.push { cls := .type "slice", data := .fields #[.none, .int k v, .none] }).get? a = some o := fun a o e => Heap.get?_push_of_some _ e
  have fin : ∀ t' tk, VP W Fs s.heap Q (.str b t') { s2 with heap := s2.heap.push { cls := .type "slice", data := .fields #[.none, .int k v, .none] }, toks := tk } := fun t' tk =>
    ⟨_, G2, hs2.ext e, k1.trans (k2.trans fun a o h _ => e a o h), .str _ _, q⟩
  rcases hm t v with hm | hm
  · rw [hm]; exact fin t s2.toks
  · rw [hm]; exact ⟨hz, fin _ _⟩
theorem LAPe {L fa fe kn D : Nat} {cd : Value} {t s l : Str} {Q : AF → List (Str × AV) → Mem → Prop} (X : Base W (KP W)) (hA : AOk (n + 2) A) (ht : t ∈ tagsA) (hs : s ∈ scrsA) (hl : l ∈ lngsA)
    (q : Run (EX W A L [("features", .ref fe), ("known", .ref kn), ("some", .ref D), ("key", tupS [pad4 s, pad4 l, pad4 t])] [] G (execs (lapT5 W.w.params) (lawEnv W.w.params L fa cd)) Q)) :
    Run (EX W A L [("features", .ref fe), ("known", .ref kn), ("tag", .str t), ("writing", .str s), ("language", .str l), ("some", .ref D)] [] G (execs (lapT4 W.w.params) (lawEnv W.w.params L fa cd)) Q) := ⟨by
  have slz : sizeLine = 16777216 := sizeLine_eq
  have h2 : Str.length "  " = 2 := by decide
  rw [lapT4_eq]
  refine EX_cons ?_
  refine EX_assign ?_
  refine EV_tuple ?_
  refine ES_cons ((EV_local rfl rfl rfl rfl ?_))
  refine ES_cons ?_
  refine EV_strSliceT (k := 4) ?_
  refine EV_binop ((EV_local rfl rfl rfl rfl (EV_str ?_)))
  refine O2_add_str (by rw [slz, h2]; have := len_l hl; omega) ?_
  refine EV_int ?_
  refine ⟨_, pad4 l, rfl, rfl, by rw [slz, (len_l hl).2]; omega, slc_l hl, ?_⟩
  refine ES_cons ?_
  refine EV_strSliceT (k := 4) ?_
  refine EV_binop ((EV_local rfl rfl rfl rfl (EV_str ?_)))
  refine O2_add_str (by rw [slz, h2]; have := len_t ht; omega) ?_
  refine EV_int ?_
  refine ⟨_, pad4 t, rfl, rfl, by rw [slz, (len_t ht).2]; omega, slc_t ht, ?_⟩
  refine ES_nil ⟨by rw [slz]; simp, ?_⟩
  have e : AV.tup [.str s, .str (pad4 l), .str (pad4 t)] = tupS [pad4 s, pad4 l, pad4 t] := by rw [pad_s hs]; rfl
  rw [e]
  refine (SV_name (SV_local rfl rfl rfl ?_))
  refine Run.weaken (m' := [("features", .ref fe), ("known", .ref kn), ("some", .ref D), ("key", tupS [pad4 s, pad4 l, pad4 t])]) ?_ ?_
  · exact q
  · (focus (repeat (first | exact Sup.refl _ | exact Sup.nil _ | refine Sup.cons (by exact rfl) ?_)))⟩
theorem LAPf {L fa fe kn D e : Nat} {cd : Value} {r : FR} {kvs : List (List Str × AV)} {K : List (List Str × List Int)} {Q : AF → List (Str × AV) → Mem → Prop} (X : Base W (KP W)) (hA : AOk (n + 2) A) (hns : r.ns.length ≤ 2) (hD : G D = some (.list ((nums nlA r.ns).map .int)))
    (hkn : G kn = some (.dT kvs e)) (hK : KnownAt G kvs K) (hKz : K.length ≤ 60) (hKl : LowK K)
    (q : ∀ G' m' kvs' e', Sup m' [("features", .ref fe), ("known", .ref kn)] → KeepIt G G' → (∀ a o, G a = some o → o.real = true → a ≠ kn → G' a = some o) → G' kn = some (.dT kvs' e') → KnownAt G' kvs' (kstep nlA K r) → Q .next m' G') :
    Run (EX W A L [("features", .ref fe), ("known", .ref kn), ("some", .ref D), ("key", tupS (kkey r))] [] G (execs (lapT5 W.w.params) (lawEnv W.w.params L fa cd)) Q) := ⟨by
  have slz : sizeLine = 16777216 := sizeLine_eq
  obtain ⟨hfl, hfz⟩ := nums_low (nl := nlA) (by simp [nlA, Low]) r.ns
  rw [lapT5_eq]
  refine EX_cons ?_
  refine EX_if ?_
  refine EB_compare ?_
  refine (EV_local rfl rfl rfl rfl ?_)
  have dS : ∀ x ∈ ([] : List AV), (toPD x).depth ≤ 60 := fun _ h => nomatch h
  refine EV_list (ES_nil ⟨by rw [slz]; simp, fun b hb => ?_⟩)
  refine O2_ne_list hA (l := (nums nlA r.ns).map .int) (l' := []) ?_ (Mem.set_self _ _ _) (dats_ints _) rfl ?_ dS (OB_bool ?_)
  · rw [Mem.set_ne]; exact hD
    intro q; rw [q, hb] at hD; cases hD
  · intro x hx
    obtain ⟨i, _, rfl⟩ := List.mem_map.mp hx
    simp [toPD, PyData.depth]
  rw [eqv_nil]
  have k1 : Keeps G (G.set b (.list [])) := (Keeps.refl G).set hb
  generalize G.set b (.list []) = G1 at *
  have d1 := k1 _ _ hD
  have n1 := k1 _ _ hkn
  have hK1 := hK.keep (fun l v h => k1 _ _ h)
  rw [lapT6_eq]
  unfold kstep at q
  by_cases hne : nums nlA r.ns = []
  · rw [decide_eq_false (by simpa using hne)]
    rw [if_pos hne] at q
    refine EX_nil (EX_nil (q G1 _ kvs e ?_ (k1.ex (Ws := [])).its (fun a o h _ _ => k1 _ _ h) n1 hK1))
    (focus (repeat (first | exact Sup.refl _ | exact Sup.nil _ | refine Sup.cons (by exact rfl) ?_)))
  · rw [decide_eq_true hne]
    rw [if_neg hne] at q
    have hlow8 : (∀ k ∈ (pget K (kkey r)).getD [], Low k) ∧ ((pget K (kkey r)).getD []).length ≤ 3 := by
      cases h : pget K (kkey r) with
      | none => exact ⟨(fun _ h => nomatch h), by simp⟩
      | some v => exact hKl _ (pget_mem h)
    generalize hfd : nums nlA r.ns = found at *
    refine EX_cons ?_
    refine EX_assign ?_
    refine EV_sortset X hA.h (by exact rfl) (by exact rfl) rfl (by exact rfl) (by exact rfl) rfl rfl rfl rfl rfl rfl ?_
    refine EV_binop ?_
    refine EV_method "dict" "dict.get" F.plainAttrs_dict F.slot_dict_get F.type_dict_get ?_
    refine (EV_local rfl rfl rfl rfl ⟨TyIs.dT n1, ?_⟩)
    refine ES_cons ((EV_local rfl rfl rfl rfl ?_))
    refine ES_cons (EV_list (ES_nil ⟨by rw [slz]; simp, fun b2 hb2 => ?_⟩))
    refine ES_nil ?_
    have hkb : Keeps G1 (G1.set b2 (.list [])) := (Keeps.refl G1).set hb2
    refine OL_get2_dT (k := kkey r) hA (kvs := kvs) (e := e) (hkb _ _ n1) ?_
    obtain ⟨b5, e1, hb5⟩ : ∃ b, (aget kvs (kkey r)).getD (.ref b2) = .ref b ∧ (G1.set b2 (.list [])) b = some (.list (((pget K (kkey r)).getD []).map .int)) := by
      have := hK1.get (kkey r)
      cases hq : pget K (kkey r) with
      | none => rw [hq] at this; rw [this]; exact ⟨b2, rfl, Mem.set_self _ _ _⟩
      | some ns => rw [hq] at this; obtain ⟨l, h1, h2⟩ := this; rw [h1]; exact ⟨l, rfl, hkb _ _ h2⟩
    rw [e1]
    refine (EV_local rfl rfl rfl rfl (O2_add_list hb5 (hkb _ _ d1) (by rw [slz, List.length_map, List.length_map]; omega) fun b3 hb3 => ⟨b3, (pget K (kkey r)).getD [] ++ found, rfl, by rw [Mem.set_self, List.map_append], fun i hi => ?_, fun b4 G9 k9 hb4 => ?_⟩))
    · rcases List.mem_append.mp hi with hi | hi
      · exact hlow8.1 i hi
      · exact hfl i hi
    have k19 : Keeps G1 G9 := (hkb.trans ((Keeps.refl _).set hb3)).trans k9
    have hKz' : kvs.length ≤ sizeLine := by rw [All2.length hK1, slz]; omega
    refine SV_sub ((EV_local rfl rfl rfl rfl ((EV_local rfl rfl rfl rfl (O3_set_dT (k := kkey r) hA (k19 _ _ n1) hKz' fun e' => ?_)))))
    have kk := k1.trans k19
    refine EX_nil (EX_nil (q _ _ (aset kvs (kkey r) (.ref b4)) e' ?_ ((kk.ex (Ws := [])).its.trans (KeepIt.setReal (k19 _ _ n1) rfl)) (fun a o h _ ha => by rw [Mem.set_ne _ _ ha]; exact kk _ _ h) (Mem.set_self _ _ _) ?_))
    · (focus (repeat (first | exact Sup.refl _ | exact Sup.nil _ | refine Sup.cons (by exact rfl) ?_)))
    · have hb4' : b4 ≠ kn := fun e => by rw [e, k19 _ _ n1] at hb4; cases hb4
      refine KnownAt.set ((hK1.keep fun l v h => ?_)) ?_
      · rw [Mem.set_ne]; exact k19 _ _ h
        intro e; rw [e, n1] at h; cases h
      · rw [Mem.set_ne _ _ hb4']; exact hb4⟩
end
end Mine

namespace Mine
theorem low3_ne {l : List Int} {x : Int} (h : x ∈ l) (hx : Low x) : low3 l ≠ [] := by
  have : x ∈ low3 l := by
    unfold low3
    rw [List.mem_filter]
    refine ⟨?_, by simpa using h⟩
    rcases hx with rfl | rfl | rfl <;> decide
  intro e; rw [e] at this; cases this
def FullK (K : List (List Str × List Int)) : Prop := ∀ q ∈ K, q.2 ≠ []
theorem FullK.step {K : List (List Str × List Int)} (h : FullK K) (r : FR) : FullK (kstep nlA K r) := by
  unfold kstep
  by_cases hne : nums nlA r.ns = []
  · rw [if_pos hne]; exact h
  · rw [if_neg hne]
    intro q hq
    rcases pset_mem hq with rfl | hq
    · obtain ⟨x, hx⟩ := List.exists_mem_of_ne_nil _ hne
      exact low3_ne (List.mem_append_right _ hx) ((nums_low (nl := nlA) (by simp [nlA, Low]) r.ns).1 x hx)
    · exact h q hq
theorem FullK.fold : ∀ (R : List FR) {K : List (List Str × List Int)}, FullK K → FullK (R.foldl (kstep nlA) K)
  | [], _, h => h
  | r :: R, _, h => FullK.fold R (h.step r)
theorem KnownAt.keepBut {G G' : Mem} {kvs : List (List Str × AV)} {K : List (List Str × List Int)} {fe : Addr} {fr : List AV} {R : List FR} (hf : G fe = some (.list fr)) (hR : FRowsAt G fr R) (k : ∀ a o, G a = some o → a ≠ fe → G' a = some o) (hK : FullK K) (h : KnownAt G kvs K) : KnownAt G' kvs K := by
  induction h with
  | nil => exact .nil
  | @cons a b _ _ r _ ih =>
    obtain ⟨e, l, h1, h2⟩ := r
    refine .cons ⟨e, l, h1, k _ _ h2 ?_⟩ (ih fun q hq => hK q (.tail _ hq))
    intro q; subst q
    rw [hf] at h2
    injection h2 with h2; injection h2 with h2
    have hne := hK b (.head _)
    cases hb : b.2 with
    | nil => exact hne hb
    | cons z zs =>
      rw [hb] at h2
      rw [h2] at hR
      cases R with
      | nil => cases hR
      | cons r0 R0 =>
        cases hR with
        | cons r _ => obtain ⟨f, e, _⟩ := r; cases e
theorem PenW.keep {G G' : Mem} {p c a0 : Addr} {k : Nat} (h : PenW G p c k) (kp : ∀ a o, G a = some o → o.real = true → a ≠ a0 → G' a = some o) (hp : p ≠ a0) (hc : c ≠ a0) : PenW G' p c k := by
  obtain ⟨⟨spot, seed, l, h1, h2, h3, h4⟩, w, hw⟩ := h
  refine ⟨⟨spot, seed, l, ?_, kp _ _ h2 rfl hc, h3, h4⟩, w, kp _ _ hw rfl hp⟩
  rcases h1 with h1 | h1
  · exact .inl (kp _ _ h1 rfl hp)
  · exact .inr (kp _ _ h1 rfl hp)
theorem FRowsAt.keep {G G' : Mem} {a0 : Addr} {l : List AV} {R : List FR} (kp : ∀ a o, G a = some o → o.real = true → a ≠ a0 → G' a = some o) (h1 : ∀ C dx, G a0 ≠ some (.inst C dx)) (h2 : ∀ m, G a0 ≠ some (.ns m)) (h : FRowsAt G l R) : FRowsAt G' l R :=
  h.mono fun _ _ ⟨f, e, dx, x1, x2⟩ => ⟨f, e, dx, kp _ _ x1 rfl (fun q => by subst q; exact h1 _ _ x1), kp _ _ x2 rfl (fun q => by subst q; exact h2 _ x2)⟩
def KC (G G' : Mem) : Prop := ∀ a v, G a = some (.cell v) → G' a = some (.cell v)
theorem KC.trans {G G1 G2 : Mem} (x : KC G G1) (y : KC G1 G2) : KC G G2 := fun a v h => y a v (x a v h)
theorem SubW.kc {G G' : Mem} (x : SubW G G') : KC G G' := fun a v h => x _ _ h rfl (by intro w e; cases e)
theorem Sub.kc {G G' : Mem} (x : Sub [] G G') : KC G G' := x.subW.kc
section
variable {W : Wd} {A : Around} {G : Mem} {n : Nat}
theorem LAP {L fa nu ne fe kn p cl k : Nat} {lap : AV} {R : List FR} {cd : Value} (X : Base W (KP W)) (hA : AOk (n + 2) A) (hc1 : G (L + 1) = some (.cell (some (.ref p)))) (hp : PenW G p cl k) (hz : k ≤ 800) (hC : Core L nu ne fe kn R G) (hRz : R.length ≤ 50) (hcf : cl ≠ fe) :
    EX W A L [("features", .ref fe), ("known", .ref kn), ("lap", lap)] [] G (execs (lapT0 W.w.params) (lawEnv W.w.params L fa cd)) fun af m' G' => af = .next ∧ KC G G' ∧ KeepIt G G' ∧ Sup m' [("features", .ref fe), ("known", .ref kn)] ∧ G' (L + 1) = some (.cell (some (.ref p))) ∧ PenW G' p cl (k + 6) ∧ ∃ R', R'.length = R.length + 1 ∧ Core L nu ne fe kn R' G' := by
  refine Run.go ?_
  refine LAPa (n := n + 1) X hA hc1 hp (by omega) hC fun t s l G1 ht hs hl x1 hp1 => ?_
  have c1 := x1.sub _ _ hc1 rfl (by intro w e; cases e)
  refine LAPb (n := n + 1) (R := R) (nu := nu) (ne := ne) X hA c1 hp1 (by omega) fun ns G2 hns x2 hp2 => ?_
  have c2 := x2.sub _ _ c1 rfl (by intro w e; cases e)
  have C2 := (hC.subW x1.sub).subW x2.sub
  refine LAPc (n := n) X hA hp2 (by omega) C2 hcf fun G3 fr3 i3 hp3 k3 f3 R3 => ?_
  obtain ⟨d1, d2, ⟨fr, d3, d4⟩, d5, kvs, e, d6, d7⟩ := C2
  have c3 := k3 _ _ c2 (fun q => by rw [q, d3] at c2; cases c2)
  have n3 := k3 _ _ d1 (fun q => by rw [q, d3] at d1; cases d1)
  have u3 := k3 _ _ d2 (fun q => by rw [q, d3] at d2; cases d2)
  have t3 := k3 _ _ d6 (fun q => by rw [q, d3] at d6; cases d6)
  have hful : FullK (kfold nlA R) := FullK.fold R (fun _ h => nomatch h)
  have K3 := d7.keepBut d3 d4 k3 hful
  refine LAPd (n := n) (p := p) X hA hns n3 u3 fun G4 D x4 hD => ?_
  refine LAPe (n := n) X hA ht hs hl ?_
  have t4 := x4.sub _ _ t3 rfl (by simp)
  have K4 : KnownAt G4 kvs (kfold nlA R) := K3.keep fun l v h => x4.sub _ _ h rfl (by simp)
  obtain ⟨lowK, szK⟩ := kfold_size nlA R [] (fun _ h => nomatch h)
  refine LAPf (n := n) (r := ⟨t, s, l, ns⟩) X hA hns hD t4 K4 (by have := szK; simp at this; unfold kfold; omega) lowK fun G5 m5 kvs5 e5 hsup i5 k5 t5 K5 => ?_
  have c4 := x4.sub _ _ c3 rfl (by simp)
  have n4 := x4.sub _ _ n3 rfl (by simp)
  have u4 := x4.sub _ _ u3 rfl (by simp)
  have f4 := x4.sub _ _ f3 rfl (by simp)
  have R4 := R3.sub x4.sub
  have hp4 := hp3.sub x4.sub
  have hpk : p ≠ kn := fun q => by obtain ⟨w, hw⟩ := hp4.2; rw [q, t4] at hw; cases hw
  have hck : cl ≠ kn := fun q => by obtain ⟨⟨_, _, _, _, h2, _⟩, _⟩ := hp4; rw [q, t4] at h2; cases h2
  refine ⟨rfl, ?_, ?_, hsup, k5 _ _ c4 rfl (fun q => by rw [q, t4] at c4; cases c4), (hp4.keep k5 hpk hck).le (by omega), R ++ [⟨t, s, l, ns⟩], by simp, ?_⟩
  · exact x1.sub.kc.trans (x2.sub.kc.trans (KC.trans (fun a v h => k3 _ _ h fun q => by rw [q, d3] at h; cases h) (x4.sub.kc.trans fun a v h => k5 _ _ h rfl fun q => by rw [q, t4] at h; cases h)))
  · exact x1.its.trans (x2.its.trans (i3.trans (x4.its.trans i5)))
  · refine ⟨k5 _ _ n4 rfl (fun q => by rw [q, t4] at n4; cases n4), k5 _ _ u4 rfl (fun q => by rw [q, t4] at u4; cases u4), ⟨fr3, k5 _ _ f4 rfl (fun q => by rw [q, t4] at f4; cases f4), R4.keep k5 (by rw [t4]; simp) (by rw [t4]; simp)⟩, ?_, kvs5, e5, t5, ?_⟩
    · intro r hr
      rcases List.mem_append.mp hr with hr | hr
      · exact d5 r hr
      · rw [List.mem_singleton] at hr; subst hr; exact ⟨ht, hs, hl, hns⟩
    · unfold kfold
      rw [List.foldl_append]
      exact K5
theorem lapFor (P : Params) : st4 P = .For (lapForS P).1.1.1 (lapForS P).1.1.2 (lapT0 P) [] (lapForS P).1.2.2 := (lapForS P).2
theorem LAW3 {L fa nu ne fe kn p cl : Nat} {cd : Value} {Q : AF → List (Str × AV) → Mem → Prop} (X : Base W (KP W)) (hA : AOk (n + 2) A) (hc1 : G (L + 1) = some (.cell (some (.ref p)))) (hp : PenOk G p cl 0) (hcf : cl ≠ fe) (hpf : p ≠ fe) (h1 : G (L + 2) = some (.cell (some (.ref nu)))) (h2 : G nu = some (.dS (numK nlA) ne))
    (h3 : G fe = some (.list [])) (h4 : G kn = some (.dT [] 0))
    (q : ∀ G' R, R.length ≤ 6 → KC G G' → Core L nu ne fe kn R G' → Run (EX W A L [("features", .ref fe), ("known", .ref kn)] [] G' (execs (tl4 W.w.params) (lawEnv W.w.params L fa cd)) Q)) :
    Run (EX W A L [("features", .ref fe), ("known", .ref kn)] [] G (execs (tl3 W.w.params) (lawEnv W.w.params L fa cd)) Q) := ⟨by
  have slz : sizeLine = 16777216 := sizeLine_eq
  rw [tl3_eq]
  refine EX_cons ?_
  rw [lapFor]
  refine EX_forSI (m0 := [("features", .ref fe), ("known", .ref kn)]) (Sup.refl _) ?_
  refine EV_callT X (by exact rfl) rfl (by decide) rfl rfl rfl rfl ?_
  refine ES_cons ?_
  refine EV_draw (n := n + 1) X hA rfl (by exact rfl) rfl (by exact rfl) (by exact rfl) hc1 hp (by omega) (by decide) fun r G1 w h0 h7 e hp1 => ?_
  refine ES_nil ?_
  refine OL_range fun a t1 t2 t3 ha => ?_
  have hpc : p ≠ L + 1 := fun q => by obtain ⟨_, _, _, hq, _⟩ := hp; rw [q, hc1] at hq; rcases hq with hq | hq <;> cases hq
  have hp0 : ∃ o, G p = some o ∧ o.real = true := by
    obtain ⟨_, _, _, hq, _⟩ := hp
    rcases hq with hq | hq
    · exact ⟨_, hq, rfl⟩
    · exact ⟨_, hq, rfl⟩
  obtain ⟨op, hop, hopr⟩ := hp0
  have pk : ∀ a o, G a = some o → a ≠ p → G1 a = some o := fun a o h n => by rw [e, Mem.set_ne _ _ n]; exact h
  have x1 : Ex [p] G G1 := by rw [e]; exact Ex.set hop hopr (by simp)
  have hpw : PenW G1 p cl 1 := ⟨hp1, w, by rw [e]; exact Mem.set_self _ _ _⟩
  have c1 := pk _ _ hc1 (Ne.symm hpc)
  have np : ∀ {a o}, G a = some o → o.real = true → (∀ l, o ≠ .list l) → (∀ l, o ≠ .wl l) → a ≠ p := fun h _ n1 n2 q => by
    obtain ⟨_, _, _, hq, _⟩ := hp
    rw [q] at h
    rcases hq with hq | hq <;> rw [h] at hq <;> injection hq with hq
    · exact n1 _ hq
    · exact n2 _ hq
  have n1 := pk _ _ h1 (np h1 rfl (by intro l e; cases e) (by intro l e; cases e))
  have u1 := pk _ _ h2 (np h2 rfl (by intro l e; cases e) (by intro l e; cases e))
  have f1 := pk _ _ h3 (Ne.symm hpf)
  have t1' := pk _ _ h4 (np h4 rfl (by intro l e; cases e) (by intro l e; cases e))
  have C1 : Core L nu ne fe kn [] G1 := ⟨n1, u1, ⟨[], f1, .nil⟩, (fun _ h => nomatch h), [], 0, t1', .nil⟩
  clear e
  obtain ⟨m, rfl, hm6⟩ : ∃ m : Nat, r = (m : Int) ∧ m ≤ 6 := ⟨r.toNat, by omega, by omega⟩
  have x2 : Ex [] G1 (G1.set a (.fx "range" #[.int 0 t1, .int (m : Int) t2, .int 1 t3])) := Ex.new ha
  have a2 : (G1.set a (.fx "range" #[.int 0 t1, .int (m : Int) t2, .int 1 t3])) a = some (.fx "range" #[.int 0 t1, .int (m : Int) t2, .int 1 t3]) := Mem.set_self _ _ _
  generalize G1.set a (.fx "range" #[.int 0 t1, .int (m : Int) t2, .int 1 t3]) = G2 at *
  have x12 : KC G G2 := KC.trans (fun a v h => pk _ _ h (np h rfl (by intro l e; cases e) (by intro l e; cases e))) x2.sub.kc
  refine ⟨fun i G5 => KC G G5 ∧ G5 (L + 1) = some (.cell (some (.ref p))) ∧ PenW G5 p cl (1 + 6 * i) ∧ ∃ R, R.length = i ∧ Core L nu ne fe kn R G5, _, _, (fun h k => ⟨h.1.trans k.kc, k _ _ h.2.1 rfl (by simp), h.2.2.1.sub k, h.2.2.2.imp fun R h => ⟨h.1, h.2.subW k.subW⟩⟩), IT_range hA.h (by omega) a2, fun _ _ _ => trivial, ⟨x12, x2.sub _ _ c1 rfl (by simp), hpw.sub x2.sub, [], rfl, C1.subW x2.sub.subW⟩, ?turn, ?done⟩
  case turn =>
    rintro i x G5 hi ⟨hs5, hc5, hp5, R, hR, hC5⟩ hkt
    have him : i < m := by
      rcases Nat.lt_or_ge i m with h | h
      · exact h
      · rw [List.getElem?_eq_none (by simpa using h)] at hi; cases hi
    refine (SV_name (SV_local rfl rfl rfl ?_))
    refine EX.mono (LAP (n := n) X hA hc5 hp5 (by omega) hC5 (by omega) hcf) ?_
    rintro af m6 G6 ⟨rfl, kc6, i6, hsup, c6, hp6, R', hR', C6⟩
    exact ⟨i6, hsup, hs5.trans kc6, c6, hp6.le (by omega), R', by omega, C6⟩
  case done =>
    rintro m6 G6 hsup ⟨hs6, hc6, hp6, R, hR, hC6⟩ hkt
    have hq := q G6 R (by rw [hR]; simpa using hm6) hs6 hC6
    refine Run.weaken (m' := [("features", .ref fe), ("known", .ref kn)]) ?_ ?_
    · exact hq
    · exact hsup⟩
end
end Mine

namespace Mine
noncomputable def plForS (P : Params) : { x : (Expr × Expr) × List Stmt × Pos // st7 P = .For x.1.1 x.1.2 x.2.1 [] x.2.2 } := ⟨((_, _), _, _), by exact rfl⟩
noncomputable def plBody (P : Params) : List Stmt := (plForS P).1.2.1
noncomputable def plaT0 (P : Params) : List Stmt := plBody P
noncomputable def plaS1 (P : Params) : { x : Stmt × List Stmt // plaT0 P = x.1 :: x.2 } := ⟨(_, _), by exact rfl⟩
noncomputable def pla1 (P : Params) : Stmt := (plaS1 P).1.1
noncomputable def plaT1 (P : Params) : List Stmt := (plaS1 P).1.2
theorem plaT0_eq (P : Params) : plaT0 P = pla1 P :: plaT1 P := (plaS1 P).2
noncomputable def plaS2 (P : Params) : { x : Stmt × List Stmt // plaT1 P = x.1 :: x.2 } := ⟨(_, _), by exact rfl⟩
noncomputable def pla2 (P : Params) : Stmt := (plaS2 P).1.1
noncomputable def plaT2 (P : Params) : List Stmt := (plaS2 P).1.2
theorem plaT1_eq (P : Params) : plaT1 P = pla2 P :: plaT2 P := (plaS2 P).2
theorem plaT2_eq (P : Params) : plaT2 P = [] := by exact rfl
theorem plFor (P : Params) : st7 P = .For (plForS P).1.1.1 (plForS P).1.1.2 (plaT0 P) [] (plForS P).1.2.2 := (plForS P).2
theorem SizeG.gput {P : GR} {n : Nat} (h : SizeG P n) (k : List Str) (t : Str) (v : List Int) : SizeG (gput P k t v) (n + 1) := by
  constructor
  · exact Nat.le_trans (pset_length ..) (Nat.add_le_add_right h.1 1)
  · intro q hq
    rcases pset_mem hq with rfl | hq
    · refine Nat.le_trans (pset_length ..) (Nat.add_le_add_right ?_ 1)
      cases e : pget P k with
      | none => simp
      | some I => exact h.2 _ (pget_mem e)
    · exact Nat.le_succ_of_le (h.2 q hq)
theorem SizeG.pput {P : GR} {n : Nat} (h : SizeG P n) (q : List Str × List Int) : SizeG (pput P q) (n + 1) := by
  unfold Mine.pput
  split
  · exact h.gput ..
  · exact ⟨Nat.le_succ_of_le h.1, fun q hq => Nat.le_succ_of_le (h.2 q hq)⟩
theorem SizeG.pl : ∀ (K : List (List Str × List Int)) {P : GR} {n : Nat}, SizeG P n → SizeG (pl P K) (n + K.length)
  | [], _, _, h => h
  | q :: K, P, n, h => by
    have := SizeG.pl K (h.pput q)
    rw [List.length_cons]
    have e : n + (K.length + 1) = n + 1 + K.length := by omega
    rw [e]; exact this
def TriK (K : List (List Str × List Int)) : Prop := ∀ q ∈ K, Tri q.1
theorem TriK.fold (nl : List (Str × Int)) : ∀ (R : List FR) {K : List (List Str × List Int)}, TriK K → TriK (R.foldl (kstep nl) K)
  | [], _, h => h
  | r :: R, K, h => TriK.fold nl R (by
    unfold kstep
    split
    · exact h
    · intro q hq
      rcases pset_mem hq with rfl | hq
      · exact ⟨_, _, _, rfl⟩
      · exact h q hq)
section
variable {W : Wd} {A : Around} {G : Mem} {n : Nat}
theorem LAW4 {L fa nu ne fe kn : Nat} {R : List FR} {cd : Value} {Q : AF → List (Str × AV) → Mem → Prop} (X : Base W (KP W)) (hA : AOk (n + 2) A) (hRz : R.length ≤ 6) (hC : Core L nu ne fe kn R G)
    (q : ∀ G' g, Ex [] G G' → GrpAt G' g (gfold nlA [] R) → Run (EX W A L [("known", .ref kn), ("groups", .ref g)] [] G' (execs (tl5 W.w.params) (lawEnv W.w.params L fa cd)) Q)) :
    Run (EX W A L [("features", .ref fe), ("known", .ref kn)] [] G (execs (tl4 W.w.params) (lawEnv W.w.params L fa cd)) Q) := ⟨by
  have slz : sizeLine = 16777216 := sizeLine_eq
  rw [tl4_eq]
  obtain ⟨d1, d2, ⟨fr, d3, d4⟩, d5, d6⟩ := hC
  refine EX_cons ?_
  refine EX_assign ?_
  refine EV_call X (by exact rfl) (by exact rfl) rfl (by exact rfl) rfl ?_
  refine ES_cons ?_
  refine EV_call X (by exact rfl) (by exact rfl) rfl (by exact rfl) rfl ?_
  refine ES_cons ?_
  refine EV_list (ES_nil ⟨by rw [slz]; simp, fun e0 he0 => ?_⟩)
  have k1 : Keeps G (G.set e0 (.list [])) := (Keeps.refl G).set he0
  generalize G.set e0 (.list []) = G1 at *
  refine ES_cons ((EV_local rfl rfl rfl rfl ?_))
  refine ES_nil ?_
  refine C_RuleTree (n := n) X hA fun a dx G2 k2 ha a2 dx2 => ?_
  have k12 := k1.trans k2
  refine ES_cons ?_
  refine EV_cell rfl (by exact rfl) cNum (k12 _ _ d1) ?_
  refine ES_nil ?_
  refine OC.ol (C_feature_groups (n := n) (nl := nlA) X hA a2 dx2 (k12 _ _ d3) (d4.sub k12.ex.sub) (k12 _ _ d2) (by simp [nlA, Low]) (by omega) ?_ fun g G3 x3 hg => ?_)
  · intro r hr
    obtain ⟨h1, h2, h3, h4⟩ := d5 r hr
    have := len_s h2
    have := len_l h3
    have := len_t h1
    omega
  have hq := q G3 g (k12.ex.trans x3) hg
  refine (SV_name (SV_local rfl rfl rfl ?_))
  refine Run.weaken (m' := [("known", .ref kn), ("groups", .ref g)]) ?_ ?_
  · exact hq
  · (focus (repeat (first | exact Sup.refl _ | exact Sup.nil _ | refine Sup.cons (by exact rfl) ?_)))⟩
theorem PLT {L fa kn p e : Nat} {G0 : Mem} {kvs : List (List Str × AV)} {s l t : Str} {v : List Int} {P : GR} {lst : Addr} {cd : Value} {gr : Nat} (X : Base W (KP W)) (hA : AOk (n + 2) A) (hkn : G kn = some (.dT kvs e)) (hv : aget kvs [s, l, t] = some (.ref lst)) (hl : G lst = some (.list (v.map .int)))
    (hP : GrpF G0 G p P) (hS : SizeG P 60) (h0 : G0 p = none) (h00 : Sub [] G0 G) (hx00 : ∀ a, G a = none → G0 a = none) (hkp : p ≠ kn) :
    EX W A L [("known", .ref kn), ("groups", .ref gr), ("plain", .ref p), ("writing", .str s), ("language", .str l), ("tag", .str t)] [] G (execs (plaT0 W.w.params) (lawEnv W.w.params L fa cd)) fun af m' G' => af = .next ∧ KeepIt G G' ∧ Sup m' [("known", .ref kn), ("groups", .ref gr), ("plain", .ref p)] ∧ Sub [] G0 G' ∧ GrpF G0 G' p (pput P ([s, l, t], v)) := by
  have slz : sizeLine = 16777216 := sizeLine_eq
  rw [plaT0_eq]
  refine EX_cons ?_
  refine EX.mono (Q := fun af m' G8 => af = .next ∧ Sup m' [("known", .ref kn), ("groups", .ref gr), ("plain", .ref p), ("writing", .str s), ("language", .str l), ("tag", .str t)] ∧ Sub [] G0 G8 ∧ KeepIt G G8 ∧ G8 kn = some (.dT kvs e) ∧ G8 lst = some (.list (v.map .int)) ∧ GrpF G0 G8 p (gadd P [s, l])) ?ifs ?rest
  case ifs =>
    obtain ⟨pkv, pe, g7, inn, nd, kn7, hfr⟩ := id hP
    refine EX_if ?_
    refine EB_compare ?_
    refine EV_tuple (ES_cons ((EV_local rfl rfl rfl rfl (ES_cons ((EV_local rfl rfl rfl rfl (ES_nil ⟨by rw [slz]; simp, ?_⟩)))))))
    refine (EV_local rfl rfl rfl rfl ?_)
    refine O2_notIn_dT (k := [s, l]) hA g7 (OB_bool ?_)
    cases hPk : pget P [s, l] with
    | some Pin =>
      obtain ⟨d, ikv, ie, h1, _⟩ := GrpAt.inner inn hPk
      rw [h1]
      refine EX_nil ⟨rfl, by (focus (repeat (first | exact Sup.refl _ | exact Sup.nil _ | refine Sup.cons (by exact rfl) ?_))), h00, .refl _, hkn, hl, ?_⟩
      have : gadd P [s, l] = P := by unfold gadd; rw [if_pos (List.mem_map.mpr ⟨_, pget_mem hPk, rfl⟩)]
      rw [this]; exact hP
    | none =>
      have hk : [s, l] ∉ P.map (·.1) := pget_none.mp hPk
      have h1 : aget pkv [s, l] = none := by
        have := All2.pget (InnersAt.all inn) [s, l]
        rw [hPk] at this; exact this
      rw [h1]
      have hgr : pkv.length ≤ sizeLine := by rw [All2.length inn, slz]; have := hS.1; omega
      refine EX_cons ?_
      refine EX_assign ?_
      refine EV_dict0 (sysB X) (.dS [] 0) (.inl rfl) fun d hd => ?_
      refine SV_sub ((EV_local rfl rfl rfl rfl ?_))
      refine EV_tuple (ES_cons ((EV_local rfl rfl rfl rfl (ES_cons ((EV_local rfl rfl rfl rfl (ES_nil ⟨by rw [slz]; simp, ?_⟩)))))))
      refine O3_set_dT (k := [s, l]) hA (kvs := pkv) (e := pe) ?_ hgr fun e' => ?_
      · rw [Mem.set_ne]; exact g7
        intro q; rw [q, hd] at g7; cases g7
      · have hd0 := hx00 _ hd
        have hdp : p ≠ d := fun q => by rw [q, hd] at g7; cases g7
        refine EX_nil ⟨rfl, by (focus (repeat (first | exact Sup.refl _ | exact Sup.nil _ | refine Sup.cons (by exact rfl) ?_))), (h00.setW (.inr hd0)).setW (.inr h0), (KeepIt.setNew hd).trans (KeepIt.setReal (o0 := .dT pkv pe) ?_ rfl), ?_, ?_, ?_⟩
        · rw [Mem.set_ne _ _ hdp]; exact g7
        · rw [Mem.set_ne _ _ (Ne.symm hkp), Mem.set_ne]
          · exact hkn
          · intro q; rw [q, hd] at hkn; cases hkn
        · rw [Mem.set_ne, Mem.set_ne]
          · exact hl
          · intro q; rw [q, hd] at hl; cases hl
          · intro q; rw [q, g7] at hl; cases hl
        · have : gadd P [s, l] = P ++ [([s, l], [])] := by unfold gadd; rw [if_neg hk]
          rw [this]
          exact GrpF.add g7 hP hk hd hd0
  case rest =>
    rintro af m8 G8 ⟨rfl, hsup8, x8, k8, kn8, l8, hG8⟩
    show EX _ _ _ _ _ _ (execs (plaT1 _) _) _
    refine EX.weaken (m' := [("known", .ref kn), ("groups", .ref gr), ("plain", .ref p), ("writing", .str s), ("language", .str l), ("tag", .str t)]) ?_ hsup8
    rw [plaT1_eq]
    obtain ⟨pkv, pe, g8, inn, nd, kn7, hfr⟩ := id hG8
    obtain ⟨Pin, hPin⟩ := gadd_get (P := P) (key := [s, l])
    obtain ⟨d, ikv, ie, hd1, hd2, hd3⟩ := GrpAt.inner inn hPin
    have hdn : G0 d = none := hfr _ (pget_mem hd1) d rfl
    have hsz8 : Pin.length ≤ 60 := by
      have hm := pget_mem hPin
      unfold gadd at hm
      split at hm
      · have := hS.2 _ hm; dsimp only at this; omega
      · rcases List.mem_append.mp hm with hm | hm
        · have := hS.2 _ hm; dsimp only at this; omega
        · have := List.mem_singleton.mp hm
          injection this with _ h2; rw [h2]; simp
    refine EX_cons ?_
    refine EX_assign ?_
    refine EV_subT hA ((EV_local rfl rfl rfl rfl ?_))
    refine EV_tuple (ES_cons ((EV_local rfl rfl rfl rfl (ES_cons ((EV_local rfl rfl rfl rfl (ES_cons ((EV_local rfl rfl rfl rfl (ES_nil ⟨by rw [slz]; simp, ?_⟩))))))))))
    refine ⟨kn, kvs, [s, l, t], e, .ref lst, rfl, rfl, kn8, hv, ?_⟩
    refine SV_sub ?_
    refine EV_subT hA ((EV_local rfl rfl rfl rfl ?_))
    refine EV_tuple (ES_cons ((EV_local rfl rfl rfl rfl (ES_cons ((EV_local rfl rfl rfl rfl (ES_nil ⟨by rw [slz]; simp, ?_⟩)))))))
    refine ⟨p, pkv, [s, l], pe, .ref d, rfl, rfl, g8, hd1, (EV_local rfl rfl rfl rfl ?_)⟩
    have hik : ikv.length ≤ sizeLine := by rw [All2.length hd3, slz]; omega
    refine O3_set_dS hd2 hik fun e' => ?_
    rw [plaT2_eq]
    refine EX_nil ⟨rfl, ?_, ?_, ?_, ?_⟩
    · exact k8.trans (KeepIt.setReal hd2 rfl)
    · (focus (repeat (first | exact Sup.refl _ | exact Sup.nil _ | refine Sup.cons (by exact rfl) ?_)))
    · exact x8.setW (.inr hdn)
    · have e1 : pput P ([s, l, t], v) = pset (gadd P [s, l]) [s, l] (pset Pin t v) := by
        show gput P [s, l] t v = _
        rw [← gput_gadd, gput_eq, hPin]; rfl
      rw [e1]
      exact GrpF.put g8 hG8 hPin hd1 hd2 hd3 l8
end
end Mine

namespace Mine
section
variable {W : Wd} {A : Around} {G : Mem} {n : Nat}
theorem LAW5 {L fa kn gr e : Nat} {kvs : List (List Str × AV)} {K : List (List Str × List Int)} {cd : Value} {Q : AF → List (Str × AV) → Mem → Prop} (X : Base W (KP W)) (hA : AOk (n + 2) A) (hkn : G kn = some (.dT kvs e)) (hK : KnownAt G kvs K) (hKn : (K.map (·.1)).Nodup) (hKt : TriK K) (hKz : K.length ≤ 50)
    (q : ∀ G' p, Ex [] G G' → GrpAt G' p (pl [] K) → Run (EX W A L [("groups", .ref gr), ("plain", .ref p)] [] G' (execs (tl7 W.w.params) (lawEnv W.w.params L fa cd)) Q)) :
    Run (EX W A L [("known", .ref kn), ("groups", .ref gr)] [] G (execs (tl5 W.w.params) (lawEnv W.w.params L fa cd)) Q) := ⟨by
  have slz : sizeLine = 16777216 := sizeLine_eq
  rw [tl5_eq]
  refine EX_cons ?_
  refine EX_assign ?_
  refine EV_dict0 (sysB X) (.dT [] 0) (.inr (.inr rfl)) fun p hp => ?_
  have k1 : Keeps G (G.set p (.dT [] 0)) := (Keeps.refl G).set hp
  have p1 : (G.set p (.dT [] 0)) p = some (.dT [] 0) := Mem.set_self _ _ _
  have hkp : p ≠ kn := fun q => by rw [q, hkn] at hp; cases hp
  generalize G.set p (.dT [] 0) = G1 at *
  refine (SV_name (SV_local rfl rfl rfl ?_))
  show EX _ _ _ _ _ _ (execs (tl6 _) _) _
  rw [tl6_eq]
  refine EX_cons ?_
  rw [plFor]
  refine EX_forSI (m0 := [("known", .ref kn), ("groups", .ref gr), ("plain", .ref p)]) ?_ ?_
  · (focus (repeat (first | exact Sup.refl _ | exact Sup.nil _ | refine Sup.cons (by exact rfl) ?_)))
  refine (EV_local rfl rfl rfl rfl ?_)
  refine ⟨fun i G5 => Sub [] G G5 ∧ GrpF G G5 p (pl [] (K.take i)), _, _, (fun h k => ⟨h.1.trans k, h.2.sub k⟩), IT_dT hA.h (k1 _ _ hkn), fun i G5 h => h.1 _ _ hkn rfl (by simp), ⟨(k1.ex (Ws := [])).sub, [], 0, p1, .nil, List.nodup_nil, List.nodup_nil, fun _ h => nomatch h⟩, ?turn, ?done⟩
  case turn =>
    rintro i x G5 hi ⟨hs5, hG5⟩ hkt
    have x5 : Ex [] G G5 := ⟨hs5, fun a o e r => hkt a o (k1 a o e) r⟩
    obtain ⟨pv, hpv, rfl⟩ : ∃ pv, kvs[i]? = some pv ∧ x = tupS pv.1 := by
      rw [List.getElem?_map] at hi
      obtain ⟨t, e1, e2⟩ := Option.map_eq_some_iff.mp hi
      exact ⟨t, e1, e2.symm⟩
    obtain ⟨qv, hqv, heq, lst, hl1, hl2⟩ := All2.get hK hpv
    have hqm : qv ∈ K := List.mem_of_getElem? hqv
    obtain ⟨s, l, t, htri⟩ := hKt qv hqm
    obtain ⟨key, val⟩ := qv
    obtain ⟨pk, pvv⟩ := pv
    dsimp only at htri heq hl1 hl2
    subst htri heq hl1
    have hkvn : (kvs.map (·.1)).Nodup := by
      have : kvs.map (·.1) = K.map (·.1) := All2.keys (R := LiR G) hK
      rw [this]; exact hKn
    have hget : aget kvs [s, l, t] = some (.ref lst) := pget_of_mem hkvn (List.mem_of_getElem? hpv)
    have htake : pl [] (K.take (i + 1)) = pput (pl [] (K.take i)) ([s, l, t], val) := by
      unfold pl
      rw [List.take_add_one, hqv, List.foldl_append]; rfl
    have hsz : SizeG (pl [] (K.take i)) 60 := by
      have := SizeG.pl (K.take i) (P := []) (n := 0) ⟨Nat.le_refl _, fun _ h => nomatch h⟩
      have hl : (K.take i).length ≤ 50 := by rw [List.length_take]; omega
      exact ⟨by have := this.1; omega, fun q hq => by have := this.2 q hq; omega⟩
    refine SV_tuple hA.h rfl rfl ?_
    show SV _ _ _ _ _ _ _ _ _
    refine (SV_name (SV_local rfl rfl rfl ?_))
    show SV _ _ _ _ _ _ _ _ _
    refine (SV_name (SV_local rfl rfl rfl ?_))
    show SV _ _ _ _ _ _ _ _ _
    refine (SV_name (SV_local rfl rfl rfl ?_))
    refine EX.mono (PLT (n := n) (gr := gr) X hA (hs5 _ _ hkn rfl (by simp)) hget (hs5 _ _ hl2 rfl (by simp)) hG5 hsz hp hs5 (fun a h => x5.none h) hkp) ?_
    rintro af m6 G6 ⟨rfl, k6, hsup, hs6, hG6⟩
    refine ⟨k6, hsup, hs6, ?_⟩
    rw [htake]; exact hG6
  case done =>
    rintro m3 G3 hm ⟨hs3, hG3⟩ hkeep
    have x3 : Ex [] G G3 := ⟨hs3, fun a o e r => hkeep a o (k1 a o e) r⟩
    have : K.take (kvs.map fun p => tupS p.1).length = K := by rw [List.length_map, All2.length hK]; exact List.take_length
    rw [this] at hG3
    have hq := q G3 p x3 hG3.at
    refine Run.weaken (m' := [("groups", .ref gr), ("plain", .ref p)]) ?_ ?_
    · exact hq
    · refine Sup.trans hm ?_
      (focus (repeat (first | exact Sup.refl _ | exact Sup.nil _ | refine Sup.cons (by exact rfl) ?_)))⟩
end
end Mine

namespace Mine
def plngs : List Str := ["dflt", "TRK "]
def ptags : List Str := ["liga", "kern", "ss  "]
structure GP (P : GR) : Prop where
  keys : (P.map (·.1)).Nodup
  two : ∀ q ∈ P, ∃ s l, q.1 = [s, l] ∧ s ∈ scrsA ∧ l ∈ plngs
  inn : ∀ q ∈ P, (q.2.map (·.1)).Nodup
  tag : ∀ q ∈ P, ∀ r ∈ q.2, r.1 ∈ ptags
theorem GP.nil : GP [] := ⟨List.nodup_nil, (fun _ h => nomatch h), (fun _ h => nomatch h), (fun _ h => nomatch h)⟩
theorem GP.gput {P : GR} (h : GP P) {s l t : Str} (hs : s ∈ scrsA) (hl : l ∈ plngs) (ht : t ∈ ptags) (v : List Int) : GP (gput P [s, l] t v) := by
  have hI : ∀ I, (pget P [s, l]).getD [] = I → (I.map (·.1)).Nodup ∧ ∀ r ∈ I, r.1 ∈ ptags := by
    rintro I rfl
    cases e : pget P [s, l] with
    | none => exact ⟨List.nodup_nil, (fun _ h => nomatch h)⟩
    | some I => exact ⟨h.inn _ (pget_mem e), h.tag _ (pget_mem e)⟩
  obtain ⟨h1, h2⟩ := hI _ rfl
  refine ⟨pset_nodup h.keys _ _, fun q hq => ?_, fun q hq => ?_, fun q hq => ?_⟩
  · rcases pset_mem hq with rfl | hq
    · exact ⟨s, l, rfl, hs, hl⟩
    · exact h.two q hq
  · rcases pset_mem hq with rfl | hq
    · exact pset_nodup h1 _ _
    · exact h.inn q hq
  · rcases pset_mem hq with rfl | hq
    · intro r hr
      rcases pset_mem hr with rfl | hr
      · exact ht
      · exact h2 r hr
    · exact h.tag q hq
theorem pad_l {l : Str} (h : l ∈ lngsA) : pad4 l ∈ plngs := by
  simp only [lngsA, List.mem_cons, List.not_mem_nil, or_false] at h
  rcases h with rfl | rfl <;> decide
theorem pad_t {l : Str} (h : l ∈ tagsA) : pad4 l ∈ ptags := by
  simp only [tagsA, List.mem_cons, List.not_mem_nil, or_false] at h
  rcases h with rfl | rfl | rfl <;> decide
theorem GP.gstep {P : GR} (h : GP P) {r : FR} (hr : OkR r) (f : List Int) : GP (gstep P [pad4 r.s, pad4 r.l] (pad4 r.t) f) := by
  unfold Mine.gstep
  split
  · exact h
  · rw [gput_gadd]
    exact h.gput (by rw [pad_s hr.2.1]; exact hr.2.1) (pad_l hr.2.2.1) (pad_t hr.1) _
theorem GP.fold (nl : List (Str × Int)) : ∀ (R : List FR) {P : GR}, GP P → (∀ r ∈ R, OkR r) → GP (gfold nl P R)
  | [], _, h, _ => h
  | r :: R, P, h, hr => GP.fold nl R (P := Mine.gstep P [pad4 r.s, pad4 r.l] (pad4 r.t) (nums nl r.ns)) (h.gstep (hr r (.head _)) _) fun r h => hr r (.tail _ h)
def twoOf : List Str → Str × Str
  | [s, l] => (s, l)
  | _ => ("", "")
def keysOf (P : GR) : List (Str × Str) := P.map fun q => twoOf q.1
theorem fit_s {s : Str} (h : s ∈ scrsA) : strFits s := by
  simp only [scrsA, List.mem_cons, List.not_mem_nil, or_false] at h
  rcases h with rfl | rfl | rfl <;> (unfold strFits; decide +kernel)
theorem fit_l {s : Str} (h : s ∈ plngs) : strFits s := by
  simp only [plngs, List.mem_cons, List.not_mem_nil, or_false] at h
  rcases h with rfl | rfl <;> (unfold strFits; decide +kernel)
theorem fit_t {s : Str} (h : s ∈ ptags) : strFits s := by
  simp only [ptags, List.mem_cons, List.not_mem_nil, or_false] at h
  rcases h with rfl | rfl | rfl <;> (unfold strFits; decide +kernel)
theorem GP.keysG {P : GR} (h : GP P) : KeysG P (keysOf P) := by
  refine ⟨?_, fun p hp => ?_, fun q hq r hr => fit_t (h.tag q hq r hr)⟩
  · unfold keysOf
    rw [List.map_map]
    refine List.map_congr_left fun q hq => ?_
    obtain ⟨s, l, e, _⟩ := h.two q hq
    show q.1 = [(twoOf q.1).1, (twoOf q.1).2]
    rw [e]; rfl
  · obtain ⟨q, hq, rfl⟩ := List.mem_map.mp hp
    obtain ⟨s, l, e, h1, h2⟩ := h.two q hq
    rw [e]
    exact ⟨fit_s h1, fit_l h2⟩
theorem flat_len {α : Type} {k : Nat} : ∀ (l : List (α × List β)), (∀ q ∈ l, q.2.length ≤ k) → (l.flatMap (·.2)).length ≤ l.length * k
  | [], _ => by simp
  | q :: l, h => by
    rw [List.flatMap_cons, List.length_append, List.length_cons, Nat.add_mul, Nat.one_mul]
    have h1 := h q (.head _)
    have h2 := flat_len l fun q hq => h q (.tail _ hq)
    omega
structure PF (P : GR) : Prop where
  gp : GP P
  len : P.length ≤ 6
  inl : ∀ q ∈ P, q.2.length ≤ 6
  low : LowG P
theorem PF.of {R : List FR} (hR : R.length ≤ 6) (hr : ∀ r ∈ R, OkR r) : PF (gfold nlA [] R) := by
  obtain ⟨h1, h2⟩ := gfold_size nlA R [] 0 ⟨Nat.le_refl _, fun _ h => nomatch h⟩ (fun _ h => nomatch h)
  exact ⟨GP.nil.fold nlA R hr, by have := h1.1; omega, fun q hq => by have := h1.2 q hq; omega, h2⟩
section
variable {W : Wd} {A : Around} {G : Mem} {n : Nat} {Fs : List FA}
theorem C_FeatureT {t : AV} {l : List AV} {Q : AV → Mem → Prop} (X : Base W (KP W)) (hA : AOk (n + 2) A) (hz : l.length ≤ sizeLine) (q : ∀ a dx c G', Keeps G G' → G a = none → G' a = some (.inst 101 dx) → G' dx = some (.ns [("tag", t), ("lookups", .ref c)]) → G' c = some (.list l) → Q (.ref a) G') :
    OL W A Fs G [t, .tup l] (fun vs => call (.ref 101) vs) Q := by
  refine CALL_cls (n := n + 1) (f := 91) X hA (by exact rfl) (by exact rfl) (by exact rfl) fun A' a dx hA' ha hdx hne => ?_
  refine CALL_fnC (n := n) (m := [("self", .ref a), ("tag", t), ("lookups", .tup l)]) (cv := []) X hA' (by exact rfl) rfl rfl rfl rfl rfl rfl rfl (B3 fun s v1 v2 v3 => BindsTo.of_eq rfl) rfl (by decide) rfl rfl ?_
  intro L hL
  refine EX_cons (EX_self X ⟨by exact rfl, by exact rfl, by exact rfl, by exact rfl⟩ hne (Nat.le_of_ble_eq_true rfl) rfl rfl rfl rfl rfl (EV_local rfl rfl rfl rfl ⟨_, rfl, ?_⟩))
  refine EX_cons (EX_self X ⟨by exact rfl, by exact rfl, by exact rfl, by exact rfl⟩ hne (Nat.le_of_ble_eq_true rfl) rfl rfl rfl rfl rfl (EV_callT X (by exact rfl) rfl (by decide) rfl rfl rfl rfl (ES_cons (EV_local rfl rfl rfl rfl (ES_nil (OL_listT (l := l) hz fun c hc => ⟨G.set c (.list l), ?_, ?_⟩))))))
  · have hca : a ≠ c := fun e => by rw [← e] at hc; exact absurd hc (by rw [Mem.set_self]; simp)
    have hcd : dx ≠ c := fun e => by rw [← e] at hc; exact absurd hc (by rw [Mem.set_ne _ _ (Ne.symm hne), Mem.set_self]; simp)
    show ((G.set dx _).set a _).set c _ = _
    rw [set_comm hca, set_comm hcd]
  · have hca : a ≠ c := fun e => by rw [← e] at hc; exact absurd hc (by rw [Mem.set_self]; simp)
    have hcd : dx ≠ c := fun e => by rw [← e] at hc; exact absurd hc (by rw [Mem.set_ne _ _ (Ne.symm hne), Mem.set_self]; simp)
    have hcG : G c = none := by
      have : ((G.set dx (.ns (setm [] "tag" t))).set a (.inst 101 dx)) c = none := hc
      rwa [Mem.set_ne _ _ (Ne.symm hca), Mem.set_ne _ _ (Ne.symm hcd)] at this
    refine EX_nil ⟨rfl, q a dx c _ ((((Keeps.refl G).set hcG).set hdx).set ha) ha (Mem.set_self _ _ _) ?_ ?_⟩
    · rw [Mem.set_ne _ _ (Ne.symm hne), Mem.set_self]
      exact congrArg some (congrArg AO.ns (by exact rfl))
    · rw [Mem.set_ne _ _ (Ne.symm hca), Mem.set_ne _ _ (Ne.symm hcd), Mem.set_self]
theorem LAW6 {L fa gr p : Nat} {P : GR} {cd : Value} {Q : AF → List (Str × AV) → Mem → Prop} (X : Base W (KP W)) (hA : AOk (n + 2) A) (h1 : GrpAt G gr P) (h2 : GrpAt G p P)
    (q : Run (EX W A L [("groups", .ref gr), ("plain", .ref p)] [] G (execs (tl8 W.w.params) (lawEnv W.w.params L fa cd)) Q)) :
    Run (EX W A L [("groups", .ref gr), ("plain", .ref p)] [] G (execs (tl7 W.w.params) (lawEnv W.w.params L fa cd)) Q) := ⟨by
  rw [tl7_eq]
  obtain ⟨k1, e1, a1, a2, _⟩ := h1
  obtain ⟨k2, e2, b1, b2, _⟩ := h2
  refine EX_cons ?_
  refine EX_if ?_
  refine EB_compare ((EV_local rfl rfl rfl rfl ((EV_local rfl rfl rfl rfl ?_))))
  refine O2_ne_groups hA a1 b1 a2 b2 (OB_bool ?_)
  show EX _ _ _ _ _ _ (execs [] _) _
  refine EX_nil ?_
  refine Run.weaken (m' := [("groups", .ref gr), ("plain", .ref p)]) ?_ ?_
  · exact q
  · exact Sup.refl _⟩
theorem LAW7 {L fa gr p : Nat} {P : GR} {cd : Value} {Q : AF → List (Str × AV) → Mem → Prop} (X : Base W (KP W)) (hA : AOk (n + 2) A) (h1 : GrpAt G gr P) (hP : PF P)
    (q : ∀ b G' (Rw : List (Str × List Int)), Ex [] G G' → (∀ r, r ∈ Rw ↔ ∃ p ∈ P, r ∈ p.2) → Rw.Nodup → G' b = some (.list (Rw.map rowA)) → Run (EX W A L [("groups", .ref gr), ("plain", .ref p), ("rows", .ref b)] [] G' (execs (tl9 W.w.params) (lawEnv W.w.params L fa cd)) Q)) :
    Run (EX W A L [("groups", .ref gr), ("plain", .ref p)] [] G (execs (tl8 W.w.params) (lawEnv W.w.params L fa cd)) Q) := ⟨by
  rw [tl8_eq]
  refine EX_cons ?_
  refine EX_assign ?_
  refine EV_call X (by exact rfl) (by exact rfl) rfl (by exact rfl) rfl ?_
  refine ES_cons ((EV_local rfl rfl rfl rfl ?_))
  refine ES_nil ?_
  have hfl : (P.flatMap (·.2)).length ≤ 60 := by
    have h1 := flat_len P hP.inl
    have h2 : P.length * 6 ≤ 6 * 6 := Nat.mul_le_mul_right _ hP.len
    omega
  refine OC.ol (C_feature_rows (n := n + 1) X hA h1 hP.gp.keysG (by have := hP.len; omega) hfl (fun q hq => ⟨hP.gp.inn q hq, by have := hP.inl q hq; omega, fun r hr => by have := (hP.low q hq r hr).2; omega⟩) fun b G1 Rw x1 hm hn hb => ?_)
  have hq := q b G1 Rw x1 hm hn hb
  refine (SV_name (SV_local rfl rfl rfl ?_))
  refine Run.weaken (m' := [("groups", .ref gr), ("plain", .ref p), ("rows", .ref b)]) ?_ ?_
  · exact hq
  · (focus (repeat (first | exact Sup.refl _ | exact Sup.nil _ | refine Sup.cons (by exact rfl) ?_)))⟩
end
end Mine

namespace Mine
structure LW (G0 G : Mem) (lay sd fl ll p : Addr) (l : List AV) (S : List SE) (P : GR) (Rw : List (Str × List Int)) (ks : List (Str × Str)) : Prop where
  lay : LayAt G lay sd fl ll
  flr : G fl = some (.list l)
  fes : FeatsAt G l Rw
  lls : ∃ nl, G ll = some (.list nl) ∧ nl.length = 3
  scr : ScrL G0 G sd S
  sem : SemS P Rw ks G S
  pla : GrpAt G p P
theorem LW.sub {G0 G G' : Mem} {lay sd fl ll p : Addr} {l : List AV} {S : List SE} {P : GR} {Rw : List (Str × List Int)} {ks : List (Str × Str)} (k : Sub [] G G') (h : LW G0 G lay sd fl ll p l S P Rw ks) : LW G0 G' lay sd fl ll p l S P Rw ks :=
  ⟨h.lay.sub k, k _ _ h.flr rfl (by simp), h.fes.sub k, let ⟨nl, a, b⟩ := h.lls; ⟨nl, k _ _ a rfl (by simp), b⟩, h.scr.sub k, h.sem.keep fun b fs h => h.sub k, h.pla.sub k⟩
section
variable {W : Wd} {A : Around} {G : Mem} {n : Nat}
theorem LAW8 {L fa gr p rb : Nat} {P : GR} {Rw : List (Str × List Int)} {cd : Value} {Q : AF → List (Str × AV) → Mem → Prop} (X : Base W (KP W)) (hA : AOk (n + 4) A) (h1 : GrpAt G gr P) (h2 : GrpAt G p P) (hP : PF P) (hr : G rb = some (.list (Rw.map rowA))) (hRw : ∀ r, r ∈ Rw ↔ ∃ p ∈ P, r ∈ p.2) (hn : Rw.Nodup)
    (q : ∀ G' lay sd fl ll l S ks, Ex [] G G' → ks.Perm (keysOf P) → LW G G' lay sd fl ll p l S P Rw ks → Run (EX W A L [("plain", .ref p), ("layout", .ref lay)] [] G' (execs (tl10 W.w.params) (lawEnv W.w.params L fa cd)) Q)) :
    Run (EX W A L [("groups", .ref gr), ("plain", .ref p), ("rows", .ref rb)] [] G (execs (tl9 W.w.params) (lawEnv W.w.params L fa cd)) Q) := ⟨by
  have slz : sizeLine = 16777216 := sizeLine_eq
  have hfl : (P.flatMap (·.2)).length ≤ 60 := by
    have h1 := flat_len P hP.inl
    have h2 : P.length * 6 ≤ 6 * 6 := Nat.mul_le_mul_right _ hP.len
    omega
  have hRz : Rw.length ≤ 60 := Nat.le_trans (len_sub (P.flatMap (·.2)) Rw hn fun x hx => List.mem_flatMap.mpr ((hRw x).mp hx)) hfl
  have hfit : ∀ r ∈ Rw, strFits r.1 := fun r hr => by
    obtain ⟨q, hq, hr⟩ := (hRw r).mp hr
    exact hP.gp.keysG.2.2 q hq r hr
  rw [tl9_eq]
  refine EX_cons ?_
  refine EX_assign ?_
  refine EV_call X (by exact rfl) (by exact rfl) rfl (by exact rfl) rfl ?_
  refine ES_cons ?_
  refine EV_call X (by exact rfl) (by exact rfl) rfl (by exact rfl) rfl ?_
  refine ES_cons ((EV_local rfl rfl rfl rfl ?_))
  refine ES_cons ((EV_local rfl rfl rfl rfl ?_))
  refine ES_nil ?_
  refine OC.ol (C_scripts_of (n := n) X hA h1 hP.gp.keysG hr (fun q hq r hr => (hRw r).mpr ⟨q, hq, hr⟩) hfit (by have := hP.len; omega) (fun q hq => ⟨hP.gp.inn q hq, by have := hP.inl q hq; omega, fun r hr => by have := (hP.low q hq r hr).2; omega⟩) hRz fun sd G1 S ks x1 hks hS hM => ?_)
  refine ES_cons ?_
  refine EV_compI (cl := []) (by exact rfl) (by decide) rfl (by decide) ?_
  refine (EV_local rfl rfl rfl rfl ?_)
  have r1 := x1.sub _ _ hr rfl (by simp)
  refine ⟨fun j acc G5 => Sub [] G1 G5 ∧ FeatsAt G5 acc (Rw.take j), (fun h k => ⟨h.1.trans k, h.2.sub k⟩), _, _, IT_list hA.h r1, fun j acc G5 h => h.1 _ _ r1 rfl (by simp), ⟨Sub.refl _ _, .nil⟩, by rw [slz]; simp; omega, ?turn, ?done⟩
  case turn =>
    rintro C j x acc G5 hj ⟨hs5, hF5⟩
    obtain ⟨r, hr1, rfl⟩ : ∃ r, Rw[j]? = some r ∧ x = rowA r := by
      rw [List.getElem?_map] at hj
      obtain ⟨t, e1, e2⟩ := Option.map_eq_some_iff.mp hj
      exact ⟨t, e1, e2.symm⟩
    have hrm : r ∈ Rw := List.mem_of_getElem? hr1
    obtain ⟨q0, hq0, hr0⟩ := (hRw r).mp hrm
    have hrz := (hP.low q0 hq0 r hr0).2
    refine SV_tuple hA.h rfl rfl ?_
    show SV _ _ _ _ _ _ _ _ _
    refine (SV_name (SV_local rfl rfl rfl ?_))
    show SV _ _ _ _ _ _ _ _ _
    refine (SV_name (SV_local rfl rfl rfl ?_))
    show EV _ _ _ _ _ _
    refine EV_call X (by exact rfl) (by exact rfl) rfl (by exact rfl) rfl ?_
    refine ES_cons ((EV_local rfl rfl rfl rfl ?_))
    refine ES_cons ((EV_local rfl rfl rfl rfl ?_))
    refine ES_nil ?_
    refine C_FeatureT (n := n + 2) X hA (by rw [slz, List.length_map]; omega) fun a dx c G6 k6 ha a6 dx6 c6 => ?_
    refine ⟨(k6.ex (Ws := [])).its, hs5.trans k6.ex.sub, ?_⟩
    have htake : Rw.take (j + 1) = Rw.take j ++ [r] := by rw [List.take_add_one, hr1]; rfl
    rw [htake]
    exact All2.append (hF5.sub k6.ex.sub) (.cons ⟨a, rfl, dx, c, a6, dx6, c6⟩ .nil)
  case done =>
    rintro acc G5 D hD ⟨hs5, hF5⟩ hkeep5
    rw [show (Rw.map rowA).length = Rw.length by simp, List.take_length] at hF5
    have x5 : Ex [] G1 G5 := ⟨hs5, hkeep5⟩
    have k6 : Keeps G5 (G5.set D (.list acc)) := (Keeps.refl G5).set hD
    have d6 : (G5.set D (.list acc)) D = some (.list acc) := Mem.set_self _ _ _
    generalize G5.set D (.list acc) = G6 at *
    refine ES_cons ?_
    refine EV_list (ES_cons (EV_none (ES_cons (EV_none (ES_cons (EV_none (ES_nil ⟨by rw [slz]; simp, fun ll hll => ?_⟩)))))))
    have k7 : Keeps G6 (G6.set ll (.list [.none, .none, .none])) := (Keeps.refl G6).set hll
    have l7 : (G6.set ll (.list [.none, .none, .none])) ll = some (.list [.none, .none, .none]) := Mem.set_self _ _ _
    generalize G6.set ll (.list [.none, .none, .none]) = G7 at *
    refine ES_nil ?_
    refine C_Layout (n := n + 2) X hA fun lay dx G8 k8 hlay a8 dx8 => ?_
    have x68 : Ex [] G6 G8 := (k7.trans k8).ex
    have x58 : Ex [] G5 G8 := k6.ex.trans x68
    have x18 : Ex [] G1 G8 := x5.trans x58
    have hq := q G8 lay sd D ll acc S ks (x1.trans x18) hks ⟨⟨dx, a8, dx8⟩, k8 _ _ (k7 _ _ d6), hF5.sub x58.sub, ⟨_, k8 _ _ l7, rfl⟩, hS.sub x18.sub, hM.keep fun b fs h => h.sub x18.sub, h2.sub (x1.trans x18).sub⟩
    refine (SV_name (SV_local rfl rfl rfl ?_))
    refine Run.weaken (m' := [("plain", .ref p), ("layout", .ref lay)]) ?_ ?_
    · exact hq
    · (focus (repeat (first | exact Sup.refl _ | exact Sup.nil _ | refine Sup.cons (by exact rfl) ?_)))⟩
def wlA : List (Str × Nat) := [("liga", 2), ("kern", 4), ("ss  ", 8)]
theorem LAW9 {L fa p lay : Nat} {cd : Value} {Q : AF → List (Str × AV) → Mem → Prop} (X : Base W (KP W)) (hA : AOk (n + 4) A)
    (q : ∀ G' wa we, Ex [] G G' → G' wa = some (.dS (wishK wlA) we) → Run (EX W A L [("plain", .ref p), ("layout", .ref lay), ("wishes", .ref wa)] [] G' (execs (tl11 W.w.params) (lawEnv W.w.params L fa cd)) Q)) :
    Run (EX W A L [("plain", .ref p), ("layout", .ref lay)] [] G (execs (tl10 W.w.params) (lawEnv W.w.params L fa cd)) Q) := ⟨by
  rw [tl10_eq]
  refine EX_cons ?_
  refine EX_assign ?_
  refine EV_dict3 (sysB X) (by decide) fun wa we hwa => ?_
  have hq := q (G.set wa (.dS (wishK wlA) we)) wa we (Ex.new hwa) (Mem.set_self _ _ _)
  refine (SV_name (SV_local rfl rfl rfl ?_))
  refine Run.weaken (m' := [("plain", .ref p), ("layout", .ref lay), ("wishes", .ref wa)]) ?_ ?_
  · exact hq
  · (focus (repeat (first | exact Sup.refl _ | exact Sup.nil _ | refine Sup.cons (by exact rfl) ?_)))⟩
end
end Mine

namespace Mine
def evf (ev : List (Nat × Int)) (mk : MK) : MK := ev.foldl (fun mk e => mor e.1 mk e.2) mk
theorem mget_mor (m : Nat) (mk : MK) (k' k : Int) : mget (mor m mk k') k = if k = k' then some ((mget mk k').getD 0 ||| m) else mget mk k := pget_pset mk k' k _
theorem evf_none : ∀ (ev : List (Nat × Int)) (mk : MK) (k : Int), mget (evf ev mk) k = none ↔ mget mk k = none ∧ ∀ e ∈ ev, e.2 ≠ k
  | [], mk, k => by simp [evf]
  | e :: ev, mk, k => by
    show mget (evf ev (mor e.1 mk e.2)) k = none ↔ _
    rw [evf_none ev, mget_mor]
    by_cases h : k = e.2
    · subst h; simp
    · rw [if_neg h]
      constructor
      · rintro ⟨h1, h2⟩
        refine ⟨h1, fun x hx => ?_⟩
        rcases List.mem_cons.mp hx with rfl | hx
        · exact fun q => h q.symm
        · exact h2 x hx
      · rintro ⟨h1, h2⟩
        exact ⟨h1, fun x hx => h2 x (.tail _ hx)⟩
theorem evf_bit : ∀ (ev : List (Nat × Int)) (mk : MK) (k : Int) (i : Nat), ((mget (evf ev mk) k).getD 0).testBit i = true ↔ ((mget mk k).getD 0).testBit i = true ∨ ∃ e ∈ ev, e.2 = k ∧ e.1.testBit i = true
  | [], mk, k, i => by simp [evf]
  | e :: ev, mk, k, i => by
    show ((mget (evf ev (mor e.1 mk e.2)) k).getD 0).testBit i = true ↔ _
    rw [evf_bit ev, mget_mor]
    by_cases h : k = e.2
    · subst h
      rw [if_pos rfl, Option.getD_some, Nat.testBit_or, Bool.or_eq_true]
      constructor
      · rintro ((h1 | h1) | ⟨x, hx, h2⟩)
        · exact .inl h1
        · exact .inr ⟨e, .head _, rfl, h1⟩
        · exact .inr ⟨x, .tail _ hx, h2⟩
      · rintro (h1 | ⟨x, hx, h2, h3⟩)
        · exact .inl (.inl h1)
        · rcases List.mem_cons.mp hx with rfl | hx
          · exact .inl (.inr h3)
          · exact .inr ⟨x, hx, h2, h3⟩
    · rw [if_neg h]
      constructor
      · rintro (h1 | ⟨x, hx, h2⟩)
        · exact .inl h1
        · exact .inr ⟨x, .tail _ hx, h2⟩
      · rintro (h1 | ⟨x, hx, h2, h3⟩)
        · exact .inl h1
        · rcases List.mem_cons.mp hx with rfl | hx
          · exact absurd h2.symm h
          · exact .inr ⟨x, hx, h2, h3⟩
theorem evf_same {ev ev' : List (Nat × Int)} (h : ∀ e, e ∈ ev ↔ e ∈ ev') (k : Int) : mget (evf ev []) k = mget (evf ev' []) k := by
  have hn : mget (evf ev []) k = none ↔ mget (evf ev' []) k = none := by
    rw [evf_none, evf_none]
    exact and_congr_right fun _ => ⟨fun a e he => a e ((h e).mpr he), fun a e he => a e ((h e).mp he)⟩
  have hb : (mget (evf ev []) k).getD 0 = (mget (evf ev' []) k).getD 0 := by
    refine Nat.eq_of_testBit_eq fun i => ?_
    rw [Bool.eq_iff_iff, evf_bit, evf_bit]
    refine or_congr_right ⟨?_, ?_⟩
    · rintro ⟨e, he, h2⟩; exact ⟨e, (h e).mp he, h2⟩
    · rintro ⟨e, he, h2⟩; exact ⟨e, (h e).mpr he, h2⟩
  cases a : mget (evf ev []) k with
  | none => rw [hn.mp a]
  | some x =>
    cases b : mget (evf ev' []) k with
    | none => rw [hn.mpr b] at a; cases a
    | some y => rw [a, b] at hb; exact congrArg some hb
theorem addAll_evf (m : Nat) (mk : MK) (ns : List Int) : addAll m mk ns = evf (ns.map fun x => (m, x)) mk := by
  unfold addAll evf
  rw [List.foldl_map]
theorem evf_app (a b : List (Nat × Int)) (mk : MK) : evf (a ++ b) mk = evf b (evf a mk) := by unfold evf; rw [List.foldl_append]
def lawM (wl : List (Str × Nat)) (Pin : List (Str × List Int)) (mk : MK) : MK := Pin.foldl (fun mk r => addAll (wishOf wl r.1) mk r.2) mk
def lawEv (wl : List (Str × Nat)) (Pin : List (Str × List Int)) : List (Nat × Int) := Pin.flatMap fun r => r.2.map fun x => (wishOf wl r.1, x)
theorem lawM_evf (wl : List (Str × Nat)) : ∀ (Pin : List (Str × List Int)) (mk : MK), lawM wl Pin mk = evf (lawEv wl Pin) mk
  | [], _ => rfl
  | r :: Pin, mk => by
    show lawM wl Pin (addAll (wishOf wl r.1) mk r.2) = evf ((r.2.map fun x => (wishOf wl r.1, x)) ++ lawEv wl Pin) mk
    rw [lawM_evf wl Pin, evf_app, addAll_evf]
def gtEv (R : List (Str × List Int)) (m : Nat) (ks : List Int) : List (Nat × Int) := ks.flatMap fun k => (numsAt R k).map fun x => (m, x)
theorem gatT_evf (R : List (Str × List Int)) (m : Nat) : ∀ (ks : List Int) (mk : MK), gatT R m mk ks = evf (gtEv R m ks) mk
  | [], _ => rfl
  | k :: ks, mk => by
    show gatT R m (addAll m mk (numsAt R k)) ks = evf (((numsAt R k).map fun x => (m, x)) ++ gtEv R m ks) mk
    rw [gatT_evf R m ks, evf_app, addAll_evf]
def gfEv (R : List (Str × List Int)) (fs : List Int) (wl : List (Str × Nat)) (ts : List Str) : List (Nat × Int) := ts.flatMap fun t => gtEv R (wishOf wl t) (withTag R t fs)
theorem gatF_evf' (R : List (Str × List Int)) (fs : List Int) (wl : List (Str × Nat)) : ∀ (ts : List Str) (mk : MK), ts.foldl (fun mk t => gatT R (wishOf wl t) mk (withTag R t fs)) mk = evf (gfEv R fs wl ts) mk
  | [], _ => rfl
  | t :: ts, mk => by
    show ts.foldl _ (gatT R (wishOf wl t) mk (withTag R t fs)) = evf (gtEv R (wishOf wl t) (withTag R t fs) ++ gfEv R fs wl ts) mk
    rw [gatF_evf' R fs wl ts, evf_app, gatT_evf]
theorem rsl_eq {a b : MK} (ha : GoodM a) (hb : GoodM b) (h : ∀ k, mget a k = mget b k) : rsl a = rsl b := by
  have hk : (a.map (·.1)).Perm (b.map (·.1)) := by
    refine (List.perm_ext_iff_of_nodup ha.1 hb.1).mpr fun k => ?_
    have h1 : mget a k = none ↔ k ∉ a.map (·.1) := pget_none
    have h2 : mget b k = none ↔ k ∉ b.map (·.1) := pget_none
    rw [h k] at h1
    have h3 := h1.symm.trans h2
    exact ⟨fun hx => Classical.byContradiction fun hn => h3.mpr hn hx, fun hx => Classical.byContradiction fun hn => h3.mp hn hx⟩
  have e : rsl a = ((a.map (·.1)).mergeSort (· ≤ ·)).map fun k => (k, (mget b k).getD 0) := by
    unfold rsl
    exact List.map_congr_left fun k _ => by rw [h k]
  rw [e]
  refine sort_uniq ((List.mergeSort_perm ..).trans hk) ?_
  have := List.pairwise_mergeSort (le := fun (x y : Int) => decide (x ≤ y)) (fun a b c h1 h2 => by simp at *; omega) (fun a b => by simp; omega) (a.map (·.1))
  exact this.imp fun h => by simpa using h
theorem masks_eq {Rw Pin : List (Str × List Int)} {fs : List Int} {wl : List (Str × Nat)} {ts : List Str} (hf : fs.Perm (Pin.map fun r => ((idxR Rw r : Nat) : Int))) (hin : ∀ r ∈ Pin, r ∈ Rw) (ht : ts.Perm (wl.map (·.1))) (htag : ∀ r ∈ Pin, r.1 ∈ wl.map (·.1))
    (hlow : ∀ r ∈ Rw, ∀ k ∈ r.2, Low k) : rsl (gatF Rw fs wl ts) = rsl (lawM wl Pin []) ∧ GoodM (lawM wl Pin []) := by
  have g2 : ∀ (l : List (Str × List Int)) (mk : MK), (∀ r ∈ l, r ∈ Rw) → GoodM mk → GoodM (lawM wl l mk) := by
    intro l
    induction l with
    | nil => intro mk _ h; exact h
    | cons r l ih => intro mk hl h; exact ih _ (fun r hr => hl r (.tail _ hr)) (h.all (hlow r (hl r (.head _))))
  have g3 := g2 Pin [] hin GoodM.nil
  refine ⟨rsl_eq (GoodM.gatF hlow ts) g3 fun k => ?_, g3⟩
  have e1 : gatF Rw fs wl ts = evf (gfEv Rw fs wl ts) [] := gatF_evf' Rw fs wl ts []
  rw [e1, lawM_evf]
  refine evf_same (fun e => ?_) k
  unfold gfEv lawEv gtEv
  simp only [List.mem_flatMap, List.mem_map]
  constructor
  · rintro ⟨t, _, k, hk, x, hx, rfl⟩
    obtain ⟨hk1, hk2⟩ := List.mem_filter.mp hk
    obtain ⟨r, hr, rfl⟩ := List.mem_map.mp (hf.mem_iff.mp hk1)
    have hat := (idxR_at (hin r hr)).1
    have h1 : tagAt Rw ((idxR Rw r : Nat) : Int) = some r.1 := by unfold tagAt; rw [Int.toNat_natCast, hat]; rfl
    have h2 : numsAt Rw ((idxR Rw r : Nat) : Int) = r.2 := by unfold numsAt; rw [Int.toNat_natCast, hat]; rfl
    rw [h1] at hk2
    rw [h2] at hx
    have : r.1 = t := by simpa using hk2
    exact ⟨r, hr, x, hx, by rw [this]⟩
  · rintro ⟨r, hr, x, hx, rfl⟩
    have hat := (idxR_at (hin r hr)).1
    have h1 : tagAt Rw ((idxR Rw r : Nat) : Int) = some r.1 := by unfold tagAt; rw [Int.toNat_natCast, hat]; rfl
    have h2 : numsAt Rw ((idxR Rw r : Nat) : Int) = r.2 := by unfold numsAt; rw [Int.toNat_natCast, hat]; rfl
    refine ⟨r.1, ht.mem_iff.mpr (htag r hr), ((idxR Rw r : Nat) : Int), List.mem_filter.mpr ⟨hf.mem_iff.mpr (List.mem_map.mpr ⟨r, hr, rfl⟩), by rw [h1]; simp⟩, x, by rw [h2]; exact hx, rfl⟩
end Mine

namespace Mine
def SubC (G G' : Mem) : Prop := ∀ a o, G a = some o → o.real = true → (∀ v, o ≠ .cell v) → G' a = some o
theorem SubC.refl (G : Mem) : SubC G G := fun _ _ e _ _ => e
theorem SubC.trans {G G1 G2 : Mem} (x : SubC G G1) (y : SubC G1 G2) : SubC G G2 := fun a o e r n => y a o (x a o e r n) r n
theorem Sub.subC {G G' : Mem} (x : Sub [] G G') : SubC G G' := fun a o e r _ => x a o e r (by simp)
theorem SubC.setCell {G : Mem} {c : Addr} {v : Option AV} {o : AO} (h : G c = some (.cell v)) : SubC G (G.set c o) := fun a o' e r n => by
  rw [Mem.set_ne]; exact e
  intro q; subst q; rw [h] at e; injection e with e; exact n _ e.symm
theorem nc_list {l : List AV} : ∀ v, AO.list l ≠ .cell v := fun _ e => by cases e
theorem nc_inst {a b : Addr} : ∀ v, AO.inst a b ≠ .cell v := fun _ e => by cases e
theorem nc_ns {m : List (Str × AV)} : ∀ v, AO.ns m ≠ .cell v := fun _ e => by cases e
theorem nc_dS {m : List (Str × AV)} {e : Nat} : ∀ v, AO.dS m e ≠ .cell v := fun _ e => by cases e
theorem nc_dI {m : List (Int × AV)} {e : Nat} : ∀ v, AO.dI m e ≠ .cell v := fun _ e => by cases e
theorem nc_dT {m : List (List Str × AV)} {e : Nat} : ∀ v, AO.dT m e ≠ .cell v := fun _ e => by cases e
theorem LayAt.subC {G G' : Mem} {a sd fl ll : Addr} (k : SubC G G') (h : LayAt G a sd fl ll) : LayAt G' a sd fl ll := let ⟨dx, h1, h2⟩ := h; ⟨dx, k _ _ h1 rfl nc_inst, k _ _ h2 rfl nc_ns⟩
theorem LSysAt.subC {G G' : Mem} {a : Addr} {fs : List Int} (k : SubC G G') (h : LSysAt G a fs) : LSysAt G' a fs := let ⟨dx, c, h1, h2, h3⟩ := h; ⟨dx, c, k _ _ h1 rfl nc_inst, k _ _ h2 rfl nc_ns, k _ _ h3 rfl nc_list⟩
theorem FeatAt.subC {G G' : Mem} {a : Addr} {t : Str} {fs : List Int} (k : SubC G G') (h : FeatAt G a t fs) : FeatAt G' a t fs := let ⟨dx, c, h1, h2, h3⟩ := h; ⟨dx, c, k _ _ h1 rfl nc_inst, k _ _ h2 rfl nc_ns, k _ _ h3 rfl nc_list⟩
theorem FeatsAt.subC {G G' : Mem} {l : List AV} {R : List (Str × List Int)} (k : SubC G G') (h : FeatsAt G l R) : FeatsAt G' l R := h.mono fun _ _ ⟨f, e, h⟩ => ⟨f, e, h.subC k⟩
theorem ScrL.subC {G0 G G' : Mem} {sd : Addr} {S : List SE} (k : SubC G G') (h : ScrL G0 G sd S) : ScrL G0 G' sd S := by
  obtain ⟨⟨e, h1⟩, h2, h3, h4, h5⟩ := h
  refine ⟨⟨e, k _ _ h1 rfl nc_dS⟩, h2, h3, h4, fun x hx => ?_⟩
  obtain ⟨y1, y2, y3, y4, y5⟩ := h5 x hx
  exact ⟨y1, k _ _ y2 rfl nc_inst, k _ _ y3 rfl nc_ns, k _ _ y4 rfl nc_dS, y5⟩
theorem GrpAt.subC {G G' : Mem} {g : Addr} {P : GR} (k : SubC G G') (h : GrpAt G g P) : GrpAt G' g P := by
  obtain ⟨kvs, e, h1, h2, h3⟩ := h
  exact ⟨kvs, e, k _ _ h1 rfl nc_dT, h2.keep (fun _ _ e => k _ _ e rfl nc_list) (fun _ _ _ e => k _ _ e rfl nc_dS), h3⟩
theorem LW.subC {G0 G G' : Mem} {lay sd fl ll p : Addr} {l : List AV} {S : List SE} {P : GR} {Rw : List (Str × List Int)} {ks : List (Str × Str)} (k : SubC G G') (h : LW G0 G lay sd fl ll p l S P Rw ks) : LW G0 G' lay sd fl ll p l S P Rw ks :=
  ⟨h.lay.subC k, k _ _ h.flr rfl nc_list, h.fes.subC k, let ⟨nl, a, b⟩ := h.lls; ⟨nl, k _ _ a rfl nc_list, b⟩, h.scr.subC k, h.sem.keep fun b fs h => h.subC k, h.pla.subC k⟩
def namesOf (P : GR) : List Str := (keysOf P).map (·.1)
def metOf (P : GR) (w : Str) : Str := if w ∈ namesOf P then w else if ("DFLT" : Str) ∈ namesOf P then "DFLT" else if ("latn" : Str) ∈ namesOf P then "latn" else ""
theorem GP.names {P : GR} (h : GP P) {s : Str} (hs : s ∈ namesOf P) : s ∈ scrsA := by
  obtain ⟨p, hp, rfl⟩ := List.mem_map.mp hs
  obtain ⟨q, hq, rfl⟩ := List.mem_map.mp hp
  obtain ⟨s, l, e, h1, h2⟩ := h.two q hq
  rw [e]; exact h1
theorem scr_names {G0 G : Mem} {lay sd fl ll p : Addr} {l : List AV} {S : List SE} {P : GR} {Rw : List (Str × List Int)} {ks : List (Str × Str)} (h : LW G0 G lay sd fl ll p l S P Rw ks) (hks : ks.Perm (keysOf P)) (s : Str) : s ∈ S.map (·.s) ↔ s ∈ namesOf P := by
  constructor
  · intro hs
    obtain ⟨x, hx, rfl⟩ := List.mem_map.mp hs
    obtain ⟨⟨l, hl⟩, _⟩ := h.sem.1 x hx
    exact List.mem_map.mpr ⟨_, hks.mem_iff.mp hl, rfl⟩
  · intro hs
    obtain ⟨q, hq, rfl⟩ := List.mem_map.mp hs
    exact h.sem.2.1 q (hks.mem_iff.mpr hq)
theorem firstIn_cons_none {kvs : List (Str × AV)} {t : Str} {r : List Str} (h : aget kvs t = none) : firstIn kvs (t :: r) = firstIn kvs r := by
  conv => lhs; unfold firstIn
  rw [h]
theorem firstIn_cons_some {kvs : List (Str × AV)} {t : Str} {r : List Str} {v : AV} (h : aget kvs t = some v) : firstIn kvs (t :: r) = some v := by
  conv => lhs; unfold firstIn
  rw [h]
theorem ne_empty {s : Str} (h : s ∈ scrsA) : s ≠ "" := by
  simp only [scrsA, List.mem_cons, List.not_mem_nil, or_false] at h
  rcases h with rfl | rfl | rfl <;> decide
theorem chosen_spec {G0 G : Mem} {lay sd fl ll p : Addr} {l : List AV} {S : List SE} {P : GR} {Rw : List (Str × List Int)} {ks : List (Str × Str)} (h : LW G0 G lay sd fl ll p l S P Rw ks) (hks : ks.Perm (keysOf P)) (hP : GP P) (w : Str) :
    (metOf P w = "" ∧ firstIn (S.map SE.kv) [w, "DFLT", "dflt", "latn"] = none) ∨ ∃ x ∈ S, x.s = metOf P w ∧ metOf P w ≠ "" ∧ firstIn (S.map SE.kv) [w, "DFLT", "dflt", "latn"] = some (.ref x.a) := by
  have hn := scr_names h hks
  have get : ∀ s, s ∈ namesOf P → ∃ x ∈ S, x.s = s ∧ aget (S.map SE.kv) s = some (.ref x.a) := fun s hs => by
    obtain ⟨x, hx, e⟩ := List.mem_map.mp ((hn s).mpr hs)
    exact ⟨x, hx, e, e ▸ kv_get h.scr.2.1 hx⟩
  have non : ∀ s, s ∉ namesOf P → aget (S.map SE.kv) s = none := fun s hs => kv_none fun q => hs ((hn s).mp q)
  have ndf : ("dflt" : Str) ∉ namesOf P := fun q => by have := hP.names q; revert this; decide
  unfold metOf
  by_cases h1 : w ∈ namesOf P
  · obtain ⟨x, hx, e1, e2⟩ := get w h1
    rw [if_pos h1]
    exact .inr ⟨x, hx, e1, ne_empty (hP.names h1), firstIn_cons_some e2⟩
  · rw [if_neg h1, firstIn_cons_none (non _ h1)]
    by_cases h2 : ("DFLT" : Str) ∈ namesOf P
    · obtain ⟨x, hx, e1, e2⟩ := get _ h2
      rw [if_pos h2]
      exact .inr ⟨x, hx, e1, by decide, firstIn_cons_some e2⟩
    · rw [if_neg h2, firstIn_cons_none (non _ h2), firstIn_cons_none (non _ ndf)]
      by_cases h3 : ("latn" : Str) ∈ namesOf P
      · obtain ⟨x, hx, e1, e2⟩ := get _ h3
        rw [if_pos h3]
        exact .inr ⟨x, hx, e1, by decide, firstIn_cons_some e2⟩
      · rw [if_neg h3, firstIn_cons_none (non _ h3)]
        exact .inl ⟨rfl, rfl⟩
def pinOf (P : GR) (s l : Str) : List (Str × List Int) := (pget P [s, l]).getD ((pget P [s, "dflt"]).getD [])
theorem key_in {P : GR} (hP : GP P) (s l : Str) : (s, l) ∈ keysOf P ↔ [s, l] ∈ P.map (·.1) := by
  rw [hP.keysG.1]
  constructor
  · intro h; exact List.mem_map.mpr ⟨_, h, rfl⟩
  · intro h
    obtain ⟨⟨a, b⟩, hq, e⟩ := List.mem_map.mp h
    injection e with e1 e2
    injection e2 with e2
    rw [← e1, ← e2]; exact hq
theorem selD_eq {P : GR} (hP : GP P) {ks : List (Str × Str)} (hks : ks.Perm (keysOf P)) (s l : Str) : selD P ks s l = pget P [s, l] := by
  unfold selD
  split
  · rfl
  · rename_i h
    rw [pget_none.mpr]
    exact fun q => h (hks.mem_iff.mpr ((key_in hP s l).mpr q))
theorem ls_spec {G0 G : Mem} {lay sd fl ll p : Addr} {l : List AV} {S : List SE} {P : GR} {Rw : List (Str × List Int)} {ks : List (Str × Str)} (h : LW G0 G lay sd fl ll p l S P Rw ks) (hks : ks.Perm (keysOf P)) (hP : GP P) {x : SE} (hx : x ∈ S) (lng : Str) :
    ∃ fs, LsOk G ((aget x.lk lng).getD x.d) fs ∧ fs.Perm ((pinOf P x.s lng).map fun r => ((idxR Rw r : Nat) : Int)) := by
  obtain ⟨_, hd, ho, _⟩ := h.sem.1 x hx
  have ho := ho lng
  rw [selD_eq hP hks] at hd
  have dcase : ∃ fs, LsOk G x.d fs ∧ fs.Perm (((pget P [x.s, "dflt"]).getD []).map fun r => ((idxR Rw r : Nat) : Int)) := by
    cases e : pget P [x.s, "dflt"] with
    | none => rw [e] at hd; exact ⟨[], .inl ⟨hd, rfl⟩, .nil⟩
    | some Pin => rw [e] at hd; obtain ⟨b, fs, e1, e2, e3⟩ := hd; exact ⟨fs, .inr ⟨b, e1, e2⟩, e3⟩
  unfold pinOf
  unfold selL at ho
  by_cases hl : lng = "dflt"
  · rw [if_pos hl] at ho
    have ho : aget x.lk lng = none := ho
    rw [ho, hl]
    obtain ⟨fs, f1, f2⟩ := dcase
    refine ⟨fs, f1, ?_⟩
    cases e : pget P [x.s, "dflt"] with
    | none => rw [e] at f2; exact f2
    | some Pin => rw [e] at f2; exact f2
  · rw [if_neg hl, selD_eq hP hks] at ho
    cases e : pget P [x.s, lng] with
    | none =>
      rw [e] at ho
      have ho : aget x.lk lng = none := ho
      rw [ho]
      exact dcase
    | some Pin =>
      rw [e] at ho
      obtain ⟨b, fs, e1, e2, e3⟩ := ho
      rw [e1]
      exact ⟨fs, .inr ⟨b, rfl, e2⟩, e3⟩
theorem pin_mem {P : GR} {s l : Str} {r : Str × List Int} (h : r ∈ pinOf P s l) : ∃ q ∈ P, r ∈ q.2 := by
  unfold pinOf at h
  cases e : pget P [s, l] with
  | some Pin => rw [e] at h; exact ⟨_, pget_mem e, h⟩
  | none =>
    rw [e] at h
    cases e2 : pget P [s, "dflt"] with
    | some Pin => rw [e2] at h; exact ⟨_, pget_mem e2, h⟩
    | none => rw [e2] at h; cases h
theorem pin_len {P : GR} (hP : PF P) {s l : Str} : (pinOf P s l).length ≤ 6 := by
  unfold pinOf
  cases e : pget P [s, l] with
  | some Pin => exact hP.inl _ (pget_mem e)
  | none =>
    cases e2 : pget P [s, "dflt"] with
    | some Pin => exact hP.inl _ (pget_mem e2)
    | none => simp
theorem any_str {l : List Str} {w : Str} (hl : ∀ x ∈ l, strFits x) (hw : strFits w) : ((l.map .str).any fun y => PyData.eqv (toPD y) (toPD (.str w))) = decide (w ∈ l) := by
  rw [Bool.eq_iff_iff, List.any_eq_true, decide_eq_true_eq]
  constructor
  · rintro ⟨y, hy, h⟩
    obtain ⟨x, hx, rfl⟩ := List.mem_map.mp hy
    have := (eqv_iff (.str x) (.str w) (hl x hx) hw).mp h
    injection this with this
    rw [← this]; exact hx
  · intro h
    exact ⟨.str w, List.mem_map.mpr ⟨w, h, rfl⟩, (eqv_iff (.str w) (.str w) hw hw).mpr rfl⟩
end Mine

namespace Mine
noncomputable def outForS (P : Params) : { x : (Expr × Expr) × List Stmt × Pos // st12 P = .For x.1.1 x.1.2 x.2.1 [] x.2.2 } := ⟨((_, _), _, _), by exact rfl⟩
noncomputable def outBody (P : Params) : List Stmt := (outForS P).1.2.1
noncomputable def outT0 (P : Params) : List Stmt := outBody P
noncomputable def outS1 (P : Params) : { x : Stmt × List Stmt // outT0 P = x.1 :: x.2 } := ⟨(_, _), by exact rfl⟩
noncomputable def out1 (P : Params) : Stmt := (outS1 P).1.1
noncomputable def outT1 (P : Params) : List Stmt := (outS1 P).1.2
theorem outT0_eq (P : Params) : outT0 P = out1 P :: outT1 P := (outS1 P).2
theorem outT1_eq (P : Params) : outT1 P = [] := by exact rfl
theorem outFor (P : Params) : st12 P = .For (outForS P).1.1.1 (outForS P).1.1.2 (outT0 P) [] (outForS P).1.2.2 := (outForS P).2
noncomputable def innForS (P : Params) : { x : (Expr × Expr) × List Stmt × Pos // out1 P = .For x.1.1 x.1.2 x.2.1 [] x.2.2 } := ⟨((_, _), _, _), by exact rfl⟩
noncomputable def innBody (P : Params) : List Stmt := (innForS P).1.2.1
noncomputable def innT0 (P : Params) : List Stmt := innBody P
noncomputable def innS1 (P : Params) : { x : Stmt × List Stmt // innT0 P = x.1 :: x.2 } := ⟨(_, _), by exact rfl⟩
noncomputable def inn1 (P : Params) : Stmt := (innS1 P).1.1
noncomputable def innT1 (P : Params) : List Stmt := (innS1 P).1.2
theorem innT0_eq (P : Params) : innT0 P = inn1 P :: innT1 P := (innS1 P).2
noncomputable def innS2 (P : Params) : { x : Stmt × List Stmt // innT1 P = x.1 :: x.2 } := ⟨(_, _), by exact rfl⟩
noncomputable def inn2 (P : Params) : Stmt := (innS2 P).1.1
noncomputable def innT2 (P : Params) : List Stmt := (innS2 P).1.2
theorem innT1_eq (P : Params) : innT1 P = inn2 P :: innT2 P := (innS2 P).2
noncomputable def innS3 (P : Params) : { x : Stmt × List Stmt // innT2 P = x.1 :: x.2 } := ⟨(_, _), by exact rfl⟩
noncomputable def inn3 (P : Params) : Stmt := (innS3 P).1.1
noncomputable def innT3 (P : Params) : List Stmt := (innS3 P).1.2
theorem innT2_eq (P : Params) : innT2 P = inn3 P :: innT3 P := (innS3 P).2
noncomputable def innS4 (P : Params) : { x : Stmt × List Stmt // innT3 P = x.1 :: x.2 } := ⟨(_, _), by exact rfl⟩
noncomputable def inn4 (P : Params) : Stmt := (innS4 P).1.1
noncomputable def innT4 (P : Params) : List Stmt := (innS4 P).1.2
theorem innT3_eq (P : Params) : innT3 P = inn4 P :: innT4 P := (innS4 P).2
noncomputable def innS5 (P : Params) : { x : Stmt × List Stmt // innT4 P = x.1 :: x.2 } := ⟨(_, _), by exact rfl⟩
noncomputable def inn5 (P : Params) : Stmt := (innS5 P).1.1
noncomputable def innT5 (P : Params) : List Stmt := (innS5 P).1.2
theorem innT4_eq (P : Params) : innT4 P = inn5 P :: innT5 P := (innS5 P).2
noncomputable def innS6 (P : Params) : { x : Stmt × List Stmt // innT5 P = x.1 :: x.2 } := ⟨(_, _), by exact rfl⟩
noncomputable def inn6 (P : Params) : Stmt := (innS6 P).1.1
noncomputable def innT6 (P : Params) : List Stmt := (innS6 P).1.2
theorem innT5_eq (P : Params) : innT5 P = inn6 P :: innT6 P := (innS6 P).2
noncomputable def innS7 (P : Params) : { x : Stmt × List Stmt // innT6 P = x.1 :: x.2 } := ⟨(_, _), by exact rfl⟩
noncomputable def inn7 (P : Params) : Stmt := (innS7 P).1.1
noncomputable def innT7 (P : Params) : List Stmt := (innS7 P).1.2
theorem innT6_eq (P : Params) : innT6 P = inn7 P :: innT7 P := (innS7 P).2
noncomputable def innS8 (P : Params) : { x : Stmt × List Stmt // innT7 P = x.1 :: x.2 } := ⟨(_, _), by exact rfl⟩
noncomputable def inn8 (P : Params) : Stmt := (innS8 P).1.1
noncomputable def innT8 (P : Params) : List Stmt := (innS8 P).1.2
theorem innT7_eq (P : Params) : innT7 P = inn8 P :: innT8 P := (innS8 P).2
noncomputable def innS9 (P : Params) : { x : Stmt × List Stmt // innT8 P = x.1 :: x.2 } := ⟨(_, _), by exact rfl⟩
noncomputable def inn9 (P : Params) : Stmt := (innS9 P).1.1
noncomputable def innT9 (P : Params) : List Stmt := (innS9 P).1.2
theorem innT8_eq (P : Params) : innT8 P = inn9 P :: innT9 P := (innS9 P).2
theorem innT9_eq (P : Params) : innT9 P = [] := by exact rfl
theorem innFor (P : Params) : out1 P = .For (innForS P).1.1.1 (innForS P).1.1.2 (innT0 P) [] (innForS P).1.2.2 := (innForS P).2
noncomputable def mskForS (P : Params) : { x : (Expr × Expr) × List Stmt × Pos // inn8 P = .For x.1.1 x.1.2 x.2.1 [] x.2.2 } := ⟨((_, _), _, _), by exact rfl⟩
noncomputable def mskBody (P : Params) : List Stmt := (mskForS P).1.2.1
noncomputable def mskT0 (P : Params) : List Stmt := mskBody P
noncomputable def mskS1 (P : Params) : { x : Stmt × List Stmt // mskT0 P = x.1 :: x.2 } := ⟨(_, _), by exact rfl⟩
noncomputable def msk1 (P : Params) : Stmt := (mskS1 P).1.1
noncomputable def mskT1 (P : Params) : List Stmt := (mskS1 P).1.2
theorem mskT0_eq (P : Params) : mskT0 P = msk1 P :: mskT1 P := (mskS1 P).2
theorem mskT1_eq (P : Params) : mskT1 P = [] := by exact rfl
theorem mskFor (P : Params) : inn8 P = .For (mskForS P).1.1.1 (mskForS P).1.1.2 (mskT0 P) [] (mskForS P).1.2.2 := (mskForS P).2
noncomputable def numForS (P : Params) : { x : (Expr × Expr) × List Stmt × Pos // msk1 P = .For x.1.1 x.1.2 x.2.1 [] x.2.2 } := ⟨((_, _), _, _), by exact rfl⟩
noncomputable def numBody (P : Params) : List Stmt := (numForS P).1.2.1
noncomputable def numT0 (P : Params) : List Stmt := numBody P
noncomputable def numS1 (P : Params) : { x : Stmt × List Stmt // numT0 P = x.1 :: x.2 } := ⟨(_, _), by exact rfl⟩
noncomputable def num1 (P : Params) : Stmt := (numS1 P).1.1
noncomputable def numT1 (P : Params) : List Stmt := (numS1 P).1.2
theorem numT0_eq (P : Params) : numT0 P = num1 P :: numT1 P := (numS1 P).2
theorem numT1_eq (P : Params) : numT1 P = [] := by exact rfl
theorem numFor (P : Params) : msk1 P = .For (numForS P).1.1.1 (numForS P).1.1.2 (numT0 P) [] (numForS P).1.2.2 := (numForS P).2
def BQ (L : Addr) (m0 : List (Str × AV)) (G : Mem) (af : AF) (m' : List (Str × AV)) (G' : Mem) : Prop := (af = .next ∨ af = .cont) ∧ KeepIt G G' ∧ Sup m' m0 ∧ SubC G G' ∧ ∃ v, G' (L + 3) = some (.cell v)
theorem BQ.pre {L : Addr} {m0 : List (Str × AV)} {G G1 : Mem} (k : KeepIt G G1) (c : SubC G G1) : ∀ (af : AF) (m' : List (Str × AV)) (G' : Mem), BQ L m0 G1 af m' G' → BQ L m0 G af m' G' :=
  fun _ _ _ ⟨h1, h2, h3, h4, h5⟩ => ⟨h1, k.trans h2, h3, c.trans h4, h5⟩
section
variable {W : Wd} {A : Around} {G : Mem} {n : Nat}
theorem Run.use {L : Addr} {m m' : List (Str × AV)} {Fs : List FA} {t : Sem Flow} {Q Q' : AF → List (Str × AV) → Mem → Prop} (x : Run (EX W A L m' Fs G t Q)) (hm : Sup m m') (k : ∀ a n g, Q a n g → Q' a n g) : EX W A L m Fs G t Q' := EX.mono (EX.weaken x.go hm) k
theorem BE {L fa p wa lay sd fl ll mm : Nat} {G0 : Mem} {we me : Nat} {l : List AV} {S : List SE} {P : GR} {Rw : List (Str × List Int)} {ks : List (Str × Str)} {cd : Value} {w lng : Str} {x : SE} (X : Base W (KP W)) (hA : AOk (n + 4) A) (hW : LW G0 G lay sd fl ll p l S P Rw ks) (hks : ks.Perm (keysOf P)) (hP : PF P)
    (hRw : ∀ r, r ∈ Rw ↔ ∃ p ∈ P, r ∈ p.2) (hRz : Rw.length ≤ 60) (hwa : G wa = some (.dS (wishK wlA) we)) (hx : x ∈ S) (hc : G (L + 3) = some (.cell (some (.ref mm)))) (hm : G mm = some (.dI (toK (lawM wlA (pinOf P x.s lng) [])) me)) :
    Run (EX W A L [("plain", .ref p), ("layout", .ref lay), ("wishes", .ref wa), ("writing", .str w), ("language", .str lng), ("chosen", .ref x.a)] [] G (execs (innT8 W.w.params) (lawEnv W.w.params L fa cd)) (BQ L [("plain", .ref p), ("layout", .ref lay), ("wishes", .ref wa), ("writing", .str w)] G)) := ⟨by
  have slz : sizeLine = 16777216 := sizeLine_eq
  rw [innT8_eq]
  refine EX_cons ?_
  refine EX_if ?_
  refine EB_compare ?_
  refine EV_callT X (by exact rfl) rfl (by decide) rfl (by exact rfl) rfl rfl ?_
  refine ES_cons ?_
  refine EV_call X (by exact rfl) (by exact rfl) rfl (by exact rfl) rfl ?_
  refine ES_cons ((EV_local rfl rfl rfl rfl ?_))
  refine ES_cons ?_
  refine EV_call X (by exact rfl) (by exact rfl) rfl (by exact rfl) rfl ?_
  refine ES_cons ((EV_local rfl rfl rfl rfl ?_))
  refine ES_cons ((EV_local rfl rfl rfl rfl ?_))
  refine ES_nil ?_
  obtain ⟨y1, y2, y3, y4, y5, y6, y7⟩ := hW.scr.2.2.2.2 x hx
  refine OC.ol (C_choose_langsys (n := n + 3) X hA ⟨x.dx, y2, y3⟩ y4 ?_)
  refine ES_cons ((EV_local rfl rfl rfl rfl ?_))
  refine ES_nil ?_
  obtain ⟨fs, hfs1, hfs2⟩ := ls_spec hW hks hP.gp hx lng
  have hin : ∀ r ∈ pinOf P x.s lng, r ∈ Rw := fun r hr => (hRw r).mpr (pin_mem hr)
  have hlow : ∀ r ∈ Rw, r.2.length ≤ 100 ∧ ∀ k ∈ r.2, Low k := fun r hr => by
    obtain ⟨q, hq, hr⟩ := (hRw r).mp hr
    have := hP.low q hq r hr
    exact ⟨by omega, this.1⟩
  have htag : ∀ r ∈ pinOf P x.s lng, r.1 ∈ wlA.map (·.1) := fun r hr => by
    obtain ⟨q, hq, hr⟩ := pin_mem hr
    exact hP.gp.tag q hq r hr
  have hfl : fs.length ≤ 6 := by
    rw [hfs2.length_eq, List.length_map]
    exact pin_len hP
  have hfr : ∀ k ∈ fs, 0 ≤ k ∧ k < Rw.length := fun k hk => by
    obtain ⟨r, hr, rfl⟩ := List.mem_map.mp (hfs2.mem_iff.mp hk)
    have hat := (idxR_at (hin r hr)).1
    have := (List.getElem?_eq_some_iff.mp hat).1
    omega
  obtain ⟨nl, hnl1, hnl2⟩ := hW.lls
  refine OC.ol (C_gather (n := n) X hA hW.lay hW.flr hW.fes (by rw [hW.fes.length]; omega) hfs1 (by omega) hfr hnl1 hnl2 hwa (by decide) (by decide) hlow fun b G1 ts x1 hts hb => ?_)
  obtain ⟨heq, good⟩ := masks_eq hfs2 hin hts htag (fun r hr => (hlow r hr).2)
  rw [heq] at hb
  generalize lawM wlA (pinOf P x.s lng) [] = mk at *
  have hrl : (rsl mk).length ≤ 3 := by
    unfold rsl
    rw [List.length_map, List.length_mergeSort, List.length_map]
    exact good.length
  refine ES_nil (OL_listL hb (by rw [slz, List.length_map]; omega) fun b2 hb2 => ?_)
  have k2 : Keeps G1 (G1.set b2 (.list ((rsl mk).map prA))) := (Keeps.refl G1).set hb2
  have d2 : (G1.set b2 (.list ((rsl mk).map prA))) b2 = some (.list ((rsl mk).map prA)) := Mem.set_self _ _ _
  generalize G1.set b2 (.list ((rsl mk).map prA)) = G2 at *
  have x2 : Ex [] G G2 := x1.trans k2.ex
  have c2 := x2.sub _ _ hc rfl (by simp)
  have m2 := x2.sub _ _ hm rfl (by simp)
  have hmkl := good.length
  refine EV_compI (cl := [("masks", L + 3)]) (by exact rfl) (by decide) rfl (by decide) ?_
  refine EV_callB X (by exact rfl) rfl (by decide) rfl (by exact rfl) rfl rfl ?_
  refine ES_cons ?_
  refine EV_cell rfl (by exact rfl) cMask c2 ?_
  refine ES_nil ?_
  refine OL_sorted (P := fun avs => avs = (mk.map (·.1)).map .int) (P' := fun _ avs' => ∃ l' : List Int, avs' = l'.map .int ∧ l'.Perm (mk.map (·.1)) ∧ l'.Pairwise (· ≤ ·)) (fun s v hs r R hR => COL_dI hA.h1 (by simp [toK, sizeLine_eq]; omega) m2 s v hs r R fun vs avs s' a1 a2 a3 a4 => hR vs avs s' a1 a2 a3 (by rw [a4]; simp [toK]))
        (fun avs h => by rw [h]; simp; omega) (fun avs h => by rw [h]; exact SRT_ints (by simp; omega)) fun avs avs' D2 hP hP' hD2 => ?_
  obtain ⟨l', rfl, hl1, hl2⟩ := hP'
  have k4 : Keeps G2 (G2.set D2 (.list (l'.map .int))) := (Keeps.refl G2).set hD2
  have d4 : (G2.set D2 (.list (l'.map .int))) D2 = some (.list (l'.map .int)) := Mem.set_self _ _ _
  generalize G2.set D2 (.list (l'.map .int)) = G4 at *
  have hlen : l'.length ≤ 3 := by rw [hl1.length_eq]; simpa using hmkl
  refine ⟨fun j acc G5 => Sub [] G4 G5 ∧ acc = (l'.take j).map fun k => prA (k, (mget mk k).getD 0), (fun h k => ⟨h.1.trans k, h.2⟩), _, _, IT_list hA.h d4, fun i acc G5 h => h.1 _ _ d4 rfl (by simp), ⟨Sub.refl _ _, rfl⟩, by rw [slz]; simp; omega, ?turn3, ?done3⟩
  case turn3 =>
    rintro C j x acc G5 hj ⟨hs5, rfl⟩
    obtain ⟨k, hk1, rfl⟩ : ∃ k, l'[j]? = some k ∧ x = .int k := by
      rw [List.getElem?_map] at hj
      obtain ⟨t, e1, e2⟩ := Option.map_eq_some_iff.mp hj
      exact ⟨t, e1, e2.symm⟩
    have hmem : k ∈ mk.map (·.1) := hl1.mem_iff.mp (List.mem_of_getElem? hk1)
    obtain ⟨v, hv⟩ : ∃ v, mget mk k = some v := by
      cases e : mget mk k with
      | some v => exact ⟨v, rfl⟩
      | none => exact absurd hmem (pget_none.mp e)
    have c5 := hs5 _ _ (k4 _ _ c2) rfl (by simp)
    have m5 := hs5 _ _ (k4 _ _ m2) rfl (by simp)
    refine (SV_name (SV_local rfl rfl rfl ?_))
    show EV _ _ _ _ _ _
    refine EV_tuple (ES_cons ((EV_local rfl rfl rfl rfl (ES_cons ?_))))
    refine EV_subI ?_
    refine EV_cell (c := L + 3) rfl rfl rfl c5 ?_
    refine (EV_local rfl rfl rfl rfl ?_)
    refine ⟨mm, toK mk, k, me, .int v, rfl, rfl, m5, by rw [aget_toK, hv]; rfl, ?_⟩
    refine ES_nil ⟨by rw [slz]; simp, KeepIt.refl _, hs5, ?_⟩
    rw [List.take_add_one, hk1, List.map_append]
    simp [prA, hv]
  case done3 =>
    rintro acc G5 D3 hD3 ⟨hs5, rfl⟩ hkeep5
    have e5 : (l'.take (l'.map AV.int).length).map (fun k => prA (k, (mget mk k).getD 0)) = (rsl mk).map prA := by
      rw [List.length_map, List.take_length, ← sort_uniq hl1 hl2, List.map_map]; rfl
    rw [e5]
    have x5 : Ex [] G4 G5 := ⟨hs5, hkeep5⟩
    have x6 : Ex [] G5 (G5.set D3 (.list ((rsl mk).map prA))) := Ex.new hD3
    have d6 : (G5.set D3 (.list ((rsl mk).map prA))) D3 = some (.list ((rsl mk).map prA)) := Mem.set_self _ _ _
    generalize G5.set D3 (.list ((rsl mk).map prA)) = G6 at *
    have x26 : Ex [] G2 G6 := (k4.ex).trans (x5.trans x6)
    have x06 : Ex [] G G6 := x2.trans x26
    have dts : AV.dats ((rsl mk).map prA) = true := dats_iff.mpr fun y hy => by
      obtain ⟨p, _, rfl⟩ := List.mem_map.mp hy
      rfl
    have dep : ∀ y ∈ (rsl mk).map prA, (toPD y).depth ≤ 60 := fun y hy => by
      obtain ⟨p, _, rfl⟩ := List.mem_map.mp hy
      simp [prA, toPD, toPDs, PyData.depth, PyData.depthAll]
    refine O2_ne_list hA (x26.sub _ _ d2 rfl (by simp)) d6 dts dts dep dep (OB_bool ?_)
    rw [(eqvAll_iff _ _ dts dts).mpr rfl]
    show EX _ _ _ _ _ _ (execs [] _) _
    refine EX_nil ?_
    show EX _ _ _ _ _ _ (execs (innT9 _) _) _
    rw [innT9_eq]
    refine EX_nil ⟨.inl rfl, x06.its, ?_, x06.sub.subC, _, x06.sub _ _ hc rfl (by simp)⟩
    (focus (repeat (first | exact Sup.refl _ | exact Sup.nil _ | refine Sup.cons (by exact rfl) ?_)))⟩
end
end Mine

namespace Mine
theorem pin_nodup {P : GR} (hP : GP P) {s l : Str} : ((pinOf P s l).map (·.1)).Nodup := by
  unfold pinOf
  cases e : pget P [s, l] with
  | some Pin => exact hP.inn _ (pget_mem e)
  | none =>
    cases e2 : pget P [s, "dflt"] with
    | some Pin => exact hP.inn _ (pget_mem e2)
    | none => exact List.nodup_nil
theorem lawM_good {wl : List (Str × Nat)} : ∀ {l : List (Str × List Int)} {mk : MK}, (∀ r ∈ l, ∀ k ∈ r.2, Low k) → GoodM mk → GoodM (lawM wl l mk)
  | [], _, _, h => h
  | r :: l, mk, hl, h => lawM_good (l := l) (mk := addAll (wishOf wl r.1) mk r.2) (fun r hr => hl r (.tail _ hr)) (h.all (hl r (.head _)))
section
variable {W : Wd} {A : Around} {G : Mem} {n : Nat}
theorem BDn {L fa gd wa mm e : Nat} {we : Nat} {v1 v2 v3 v4 v5 : AV} {mk : MK} {t : Str} {k : Int} {cd : Value} (X : Base W (KP W)) (hA : AOk (n + 4) A) (hwa : G wa = some (.dS (wishK wlA) we)) (ht : t ∈ wlA.map (·.1)) (hc : G (L + 3) = some (.cell (some (.ref mm)))) (hm : G mm = some (.dI (toK mk) e)) (hz : mk.length ≤ 100) :
    Run (EX W A L [("plain", v1), ("layout", v2), ("wishes", .ref wa), ("writing", v3), ("language", v4), ("chosen", v5), ("group", .ref gd), ("tag", .str t), ("number", .int k)] [] G (execs (numT0 W.w.params) (lawEnv W.w.params L fa cd)) fun af m' G' => af = .next ∧ KeepIt G G' ∧
      Sup m' [("plain", v1), ("layout", v2), ("wishes", .ref wa), ("writing", v3), ("language", v4), ("chosen", v5), ("group", .ref gd), ("tag", .str t)] ∧ ∃ e', G' = G.set mm (.dI (toK (mor (wishOf wlA t) mk k)) e')) := ⟨by
  have slz : sizeLine = 16777216 := sizeLine_eq
  rw [numT0_eq]
  refine EX_cons ?_
  refine EX_assign ?_
  refine EV_binop ?_
  refine EV_method "dict" "dict.get" F.plainAttrs_dict F.slot_dict_get F.type_dict_get ?_
  refine EV_cell rfl (by exact rfl) cMask hc ?_
  refine ⟨TyIs.dI hm, ?_⟩
  refine ES_cons ((EV_local rfl rfl rfl rfl ?_))
  refine ES_cons (EV_int ?_)
  refine ES_nil ?_
  refine OL_get1_dI hm ?_
  rw [mor_get]
  refine EV_subS ((EV_local rfl rfl rfl rfl ((EV_local rfl rfl rfl rfl ?_))))
  refine ⟨wa, wishK wlA, t, we, .int (wishOf wlA t), rfl, rfl, hwa, aget_wish ht, ?_⟩
  refine O2_or_int ?_
  refine SV_sub ?_
  refine EV_cell rfl (by exact rfl) cMask hc ?_
  refine (EV_local rfl rfl rfl rfl ?_)
  refine O3_set_dI hm (by rw [slz]; simp [toK]; omega) fun e2 => ?_
  rw [numT1_eq]
  refine EX_nil ⟨rfl, KeepIt.setReal hm rfl, ?_, e2, ?_⟩
  · (focus (repeat (first | exact Sup.refl _ | exact Sup.nil _ | refine Sup.cons (by exact rfl) ?_)))
  · rw [bitOr_nat, aset_toK]; rfl⟩
theorem BD {L fa p wa lay sd fl ll gd : Nat} {G0 : Mem} {we ge : Nat} {gkv : List (Str × AV)} {v0 : Option AV} {l : List AV} {S : List SE} {P : GR} {Rw : List (Str × List Int)} {ks : List (Str × Str)} {cd : Value} {w lng : Str} {x : SE} (X : Base W (KP W)) (hA : AOk (n + 4) A) (hW : LW G0 G lay sd fl ll p l S P Rw ks) (hks : ks.Perm (keysOf P)) (hP : PF P)
    (hRw : ∀ r, r ∈ Rw ↔ ∃ p ∈ P, r ∈ p.2) (hRz : Rw.length ≤ 60) (hwa : G wa = some (.dS (wishK wlA) we)) (hx : x ∈ S) (hc : G (L + 3) = some (.cell v0)) (hgd : G gd = some (.dS gkv ge)) (hgl : ListsAt G gkv (pinOf P x.s lng)) :
    Run (EX W A L [("plain", .ref p), ("layout", .ref lay), ("wishes", .ref wa), ("writing", .str w), ("language", .str lng), ("chosen", .ref x.a), ("group", .ref gd)] [] G (execs (innT6 W.w.params) (lawEnv W.w.params L fa cd)) (BQ L [("plain", .ref p), ("layout", .ref lay), ("wishes", .ref wa), ("writing", .str w)] G)) := ⟨by
  have slz : sizeLine = 16777216 := sizeLine_eq
  rw [innT6_eq]
  refine EX_cons ?_
  refine EX_assign ?_
  refine EV_dict0 (sysB X) (.dI [] 0) (.inr (.inl rfl)) fun mm hmm => ?_
  have hmc : L + 3 ≠ mm := fun q => by rw [← q, hc] at hmm; cases hmm
  have k1 : Keeps G (G.set mm (.dI [] 0)) := (Keeps.refl G).set hmm
  have m1 : (G.set mm (.dI [] 0)) mm = some (.dI [] 0) := Mem.set_self _ _ _
  generalize G.set mm (.dI [] 0) = Ga at *
  have ca := k1 _ _ hc
  refine SV_name ?_
  refine SV_cell (c := L + 3) (v₀ := v0) ?_ ?_ ?_ ?_ ?_
  · exact rfl
  · exact rfl
  · exact cMask
  · exact ca
  have sc1 : SubC G (Ga.set (L + 3) (.cell (some (.ref mm)))) := (k1.ex (Ws := [])).sub.subC.trans (SubC.setCell ca)
  have it1 : KeepIt G (Ga.set (L + 3) (.cell (some (.ref mm)))) := (k1.ex (Ws := [])).its.trans (KeepIt.setReal ca rfl)
  have c1 : (Ga.set (L + 3) (.cell (some (.ref mm)))) (L + 3) = some (.cell (some (.ref mm))) := Mem.set_self _ _ _
  have mm1 : (Ga.set (L + 3) (.cell (some (.ref mm)))) mm = some (.dI [] 0) := by rw [Mem.set_ne _ _ (Ne.symm hmc)]; exact m1
  generalize Ga.set (L + 3) (.cell (some (.ref mm))) = G1 at *
  have nm : ∀ {a o}, G a = some o → a ≠ mm := fun h q => by rw [q, hmm] at h; cases h
  have key : ∀ {G5 : Mem}, Sub [mm] G1 G5 → SubC G G5 := fun h a o e r c => h a o (sc1 a o e r c) r (by rw [List.mem_singleton]; exact nm e)
  have gd1 := sc1 _ _ hgd rfl nc_dS
  have hnd : (gkv.map (·.1)).Nodup := by
    have : gkv.map (·.1) = (pinOf P x.s lng).map (·.1) := All2.keys (R := LiR G) hgl.all
    rw [this]; exact pin_nodup hP.gp
  have hlowP : ∀ r ∈ pinOf P x.s lng, (∀ k ∈ r.2, Low k) ∧ r.2.length ≤ 3 := fun r hr => by
    obtain ⟨q, hq, hr⟩ := pin_mem hr
    exact hP.low q hq r hr
  have htagP : ∀ r ∈ pinOf P x.s lng, r.1 ∈ wlA.map (·.1) := fun r hr => by
    obtain ⟨q, hq, hr⟩ := pin_mem hr
    exact hP.gp.tag q hq r hr
  generalize hPn : pinOf P x.s lng = Pin at *
  show EX _ _ _ _ _ _ (execs (innT7 _) _) _
  rw [innT7_eq]
  refine EX_cons ?_
  rw [mskFor]
  refine EX_forSI (m0 := [("plain", .ref p), ("layout", .ref lay), ("wishes", .ref wa), ("writing", .str w), ("language", .str lng), ("chosen", .ref x.a), ("group", .ref gd)]) (Sup.refl _) ?_
  refine (EV_local rfl rfl rfl rfl ?_)
  refine ⟨fun i G5 => Sub [mm] G1 G5 ∧ ∃ e, G5 mm = some (.dI (toK (lawM wlA (Pin.take i) [])) e), _, _, (fun h k => ⟨h.1.trans (k.up (by simp)), h.2.imp fun e h => k _ _ h rfl (by simp)⟩), IT_dS hA.h gd1, fun i G5 h => h.1 _ _ gd1 rfl (by simpa using nm hgd), ⟨Sub.refl _ _, 0, mm1⟩, ?turn, ?done⟩
  case turn =>
    rintro i y G5 hi ⟨hs5, e5, hm5⟩ hkt
    obtain ⟨pv, hpv, rfl⟩ : ∃ pv, gkv[i]? = some pv ∧ y = .str pv.1 := by
      rw [List.getElem?_map] at hi
      obtain ⟨t, e1, e2⟩ := Option.map_eq_some_iff.mp hi
      exact ⟨t, e1, e2.symm⟩
    obtain ⟨r, hr, heq, lst, hl1, hl2⟩ := All2.get hgl hpv
    have hrm : r ∈ Pin := List.mem_of_getElem? hr
    obtain ⟨t, ns⟩ := r
    obtain ⟨pt, pvv⟩ := pv
    dsimp only at heq hl1 hl2
    subst heq hl1
    have hget : aget gkv pt = some (.ref lst) := pget_of_mem hnd (List.mem_of_getElem? hpv)
    have htake : lawM wlA (Pin.take (i + 1)) [] = addAll (wishOf wlA pt) (lawM wlA (Pin.take i) []) ns := by
      unfold lawM
      rw [List.take_add_one, hr, List.foldl_append]; rfl
    have good : GoodM (lawM wlA (Pin.take i) []) := lawM_good (fun r hr => (hlowP r (List.mem_of_mem_take hr)).1) GoodM.nil
    generalize lawM wlA (Pin.take i) [] = mk at *
    have hns := hlowP _ hrm
    have s5 := key hs5
    have c5 : G5 (L + 3) = some (.cell (some (.ref mm))) := hs5 _ _ c1 rfl (by simpa using hmc)
    have l5 := s5 _ _ hl2 rfl nc_list
    refine (SV_name (SV_local rfl rfl rfl ?_))
    rw [mskT0_eq]
    refine EX_cons ?_
    rw [numFor]
    refine EX_forSI (m0 := [("plain", .ref p), ("layout", .ref lay), ("wishes", .ref wa), ("writing", .str w), ("language", .str lng), ("chosen", .ref x.a), ("group", .ref gd), ("tag", .str pt)]) ?_ ?_
    · (focus (repeat (first | exact Sup.refl _ | exact Sup.nil _ | refine Sup.cons (by exact rfl) ?_)))
    refine EV_subS ((EV_local rfl rfl rfl rfl ((EV_local rfl rfl rfl rfl ?_))))
    refine ⟨gd, gkv, pt, ge, .ref lst, rfl, rfl, s5 _ _ hgd rfl nc_dS, hget, ?_⟩
    refine ⟨fun j G6 => Sub [mm] G5 G6 ∧ ∃ e, G6 mm = some (.dI (toK (addAll (wishOf wlA pt) mk (ns.take j))) e), _, _, (fun h k => ⟨h.1.trans (k.up (by simp)), h.2.imp fun e h => k _ _ h rfl (by simp)⟩), IT_list hA.h l5, fun i G6 h => h.1 _ _ l5 rfl (by simpa using nm hl2), ⟨Sub.refl _ _, e5, hm5⟩, ?turn2, ?done2⟩
    case turn2 =>
      rintro j y G6 hj ⟨hs6, e6, hm6⟩ hkt6
      obtain ⟨k, hk1, rfl⟩ : ∃ k, ns[j]? = some k ∧ y = .int k := by
        rw [List.getElem?_map] at hj
        obtain ⟨t, e1, e2⟩ := Option.map_eq_some_iff.mp hj
        exact ⟨t, e1, e2.symm⟩
      have htake6 : addAll (wishOf wlA pt) mk (ns.take (j + 1)) = mor (wishOf wlA pt) (addAll (wishOf wlA pt) mk (ns.take j)) k := by
        unfold addAll
        rw [List.take_add_one, hk1, List.foldl_append]; rfl
      have good6 : GoodM (addAll (wishOf wlA pt) mk (ns.take j)) := good.all fun k hk => hns.1 k (List.mem_of_mem_take hk)
      have hl6 := good6.length
      have s6 : SubC G G6 := fun a o e r c => hs6 a o (s5 a o e r c) r (by rw [List.mem_singleton]; exact nm e)
      have c6 : G6 (L + 3) = some (.cell (some (.ref mm))) := hs6 _ _ c5 rfl (by simpa using hmc)
      refine (SV_name (SV_local rfl rfl rfl ?_))
      refine Run.use (m' := [("plain", .ref p), ("layout", .ref lay), ("wishes", .ref wa), ("writing", .str w), ("language", .str lng), ("chosen", .ref x.a), ("group", .ref gd), ("tag", .str pt), ("number", .int k)]) (Q := fun af m' G' => af = .next ∧ KeepIt G6 G' ∧ Sup m' [("plain", .ref p), ("layout", .ref lay), ("wishes", .ref wa), ("writing", .str w), ("language", .str lng), ("chosen", .ref x.a), ("group", .ref gd), ("tag", .str pt)] ∧ ∃ e', G' = G6.set mm (.dI (toK (mor (wishOf wlA pt) (addAll (wishOf wlA pt) mk (ns.take j)) k)) e')) ?_ ?_ ?_
      · exact BDn (n := n) X hA (s6 _ _ hwa rfl nc_dS) (htagP _ hrm) c6 hm6 (by omega)
      · (focus (repeat (first | exact Sup.refl _ | exact Sup.nil _ | refine Sup.cons (by exact rfl) ?_)))
      · rintro af m9 G9 ⟨rfl, i9, hsup9, e9, rfl⟩
        refine ⟨i9, hsup9, hs6.trans (Sub.set (by simp)), e9, ?_⟩
        rw [Mem.set_self, htake6]
    case done2 =>
      rintro m7 G7 hsup7 ⟨hs7, e7, hm7⟩ hkeep7
      show EX _ _ _ _ _ _ (execs (mskT1 _) _) _
      rw [mskT1_eq]
      refine EX_nil ⟨hkeep7, Sup.trans hsup7 (by (focus (repeat (first | exact Sup.refl _ | exact Sup.nil _ | refine Sup.cons (by exact rfl) ?_)))), hs5.trans hs7, e7, ?_⟩
      rw [hm7, htake]; simp
  case done =>
    rintro m8 G8 hsup8 ⟨hs8, e8, hm8⟩ hkeep8
    rw [show (gkv.map fun p => AV.str p.1).length = Pin.length by rw [List.length_map]; exact All2.length hgl, List.take_length] at hm8
    subst hPn
    have s8 := key hs8
    refine Run.use (m' := [("plain", .ref p), ("layout", .ref lay), ("wishes", .ref wa), ("writing", .str w), ("language", .str lng), ("chosen", .ref x.a)]) (Q := BQ L [("plain", .ref p), ("layout", .ref lay), ("wishes", .ref wa), ("writing", .str w)] G8) ?_ ?_ ?_
    · exact BE (n := n) X hA (hW.subC s8) hks hP hRw hRz (s8 _ _ hwa rfl nc_dS) hx (hs8 _ _ c1 rfl (by simpa using hmc)) hm8
    · exact Sup.trans hsup8 (by (focus (repeat (first | exact Sup.refl _ | exact Sup.nil _ | refine Sup.cons (by exact rfl) ?_))))
    · exact BQ.pre (it1.trans hkeep8) s8⟩
end
end Mine

namespace Mine
section
variable {W : Wd} {A : Around} {G : Mem} {n : Nat}
theorem BC {L fa p wa lay sd fl ll : Nat} {G0 : Mem} {we : Nat} {v0 : Option AV} {l : List AV} {S : List SE} {P : GR} {Rw : List (Str × List Int)} {ks : List (Str × Str)} {cd : Value} {w lng : Str} {x : SE} (X : Base W (KP W)) (hA : AOk (n + 4) A) (hW : LW G0 G lay sd fl ll p l S P Rw ks) (hks : ks.Perm (keysOf P)) (hP : PF P)
    (hRw : ∀ r, r ∈ Rw ↔ ∃ p ∈ P, r ∈ p.2) (hRz : Rw.length ≤ 60) (hwa : G wa = some (.dS (wishK wlA) we)) (hx : x ∈ S) (hc : G (L + 3) = some (.cell v0)) :
    Run (EX W A L [("plain", .ref p), ("layout", .ref lay), ("wishes", .ref wa), ("writing", .str w), ("language", .str lng), ("chosen", .ref x.a), ("met", .str x.s)] [] G (execs (innT5 W.w.params) (lawEnv W.w.params L fa cd)) (BQ L [("plain", .ref p), ("layout", .ref lay), ("wishes", .ref wa), ("writing", .str w)] G)) := ⟨by
  have slz : sizeLine = 16777216 := sizeLine_eq
  obtain ⟨kvs, e, g1, inn, _⟩ := hW.pla
  rw [innT5_eq]
  refine EX_cons ?_
  refine EX_assign ?_
  refine EV_method "dict" "dict.get" F.plainAttrs_dict F.slot_dict_get F.type_dict_get ?_
  refine (EV_local rfl rfl rfl rfl ⟨TyIs.dT g1, ?_⟩)
  refine ES_cons (EV_tuple (ES_cons ((EV_local rfl rfl rfl rfl (ES_cons ((EV_local rfl rfl rfl rfl (ES_nil ⟨by rw [slz]; simp, ?_⟩))))))))
  refine ES_cons ?_
  refine EV_method "dict" "dict.get" F.plainAttrs_dict F.slot_dict_get F.type_dict_get ?_
  refine (EV_local rfl rfl rfl rfl ⟨TyIs.dT g1, ?_⟩)
  refine ES_cons (EV_tuple (ES_cons ((EV_local rfl rfl rfl rfl (ES_cons (EV_str (ES_nil ⟨by rw [slz]; simp, ?_⟩)))))))
  refine ES_cons ?_
  refine EV_dict0 (sysB X) (.dS [] 0) (.inl rfl) fun d0 hd0 => ?_
  have k1 : Keeps G (G.set d0 (.dS [] 0)) := (Keeps.refl G).set hd0
  have d1 : (G.set d0 (.dS [] 0)) d0 = some (.dS [] 0) := Mem.set_self _ _ _
  generalize G.set d0 (.dS [] 0) = G1 at *
  refine ES_nil (OL_get2_dT (k := [x.s, "dflt"]) hA (k1 _ _ g1) ?_)
  refine ES_nil (OL_get2_dT (k := [x.s, lng]) hA (k1 _ _ g1) ?_)
  obtain ⟨gd, gkv, ge, he, hg1, hg2⟩ : ∃ gd gkv ge, (aget kvs [x.s, lng]).getD ((aget kvs [x.s, "dflt"]).getD (.ref d0)) = .ref gd ∧ G1 gd = some (.dS gkv ge) ∧ ListsAt G1 gkv (pinOf P x.s lng) := by
    have inn1 : InnersAt G1 kvs P := inn.keep (fun _ _ h => k1 _ _ h) (fun _ _ _ h => k1 _ _ h)
    unfold pinOf
    cases h1 : pget P [x.s, lng] with
    | some Pin =>
      obtain ⟨d, ikv, ie, a1, a2, a3⟩ := GrpAt.inner inn1 h1
      rw [a1]
      exact ⟨d, ikv, ie, rfl, a2, a3⟩
    | none =>
      have a0 : aget kvs [x.s, lng] = none := by
        have := All2.pget (InnersAt.all inn1) [x.s, lng]
        rw [h1] at this; exact this
      rw [a0]
      cases h2 : pget P [x.s, "dflt"] with
      | some Pin =>
        obtain ⟨d, ikv, ie, a1, a2, a3⟩ := GrpAt.inner inn1 h2
        rw [a1]
        exact ⟨d, ikv, ie, rfl, a2, a3⟩
      | none =>
        have b0 : aget kvs [x.s, "dflt"] = none := by
          have := All2.pget (InnersAt.all inn1) [x.s, "dflt"]
          rw [h2] at this; exact this
        rw [b0]
        exact ⟨d0, [], 0, rfl, d1, .nil⟩
  rw [he]
  refine (SV_name (SV_local rfl rfl rfl ?_))
  have x1 : Ex [] G G1 := k1.ex
  refine Run.use (m' := [("plain", .ref p), ("layout", .ref lay), ("wishes", .ref wa), ("writing", .str w), ("language", .str lng), ("chosen", .ref x.a), ("group", .ref gd)]) (Q := BQ L [("plain", .ref p), ("layout", .ref lay), ("wishes", .ref wa), ("writing", .str w)] G1) ?_ ?_ ?_
  · exact BD (n := n) X hA (hW.sub x1.sub) hks hP hRw hRz (k1 _ _ hwa) hx (k1 _ _ hc) hg1 hg2
  · (focus (repeat (first | exact Sup.refl _ | exact Sup.nil _ | refine Sup.cons (by exact rfl) ?_)))
  · exact BQ.pre x1.its x1.sub.subC⟩
theorem BBn {L fa p wa lay : Nat} {v0 : Option AV} {cd : Value} {w lng : Str} (X : Base W (KP W)) (hA : AOk (n + 4) A) (hc : G (L + 3) = some (.cell v0)) :
    Run (EX W A L [("plain", .ref p), ("layout", .ref lay), ("wishes", .ref wa), ("writing", .str w), ("language", .str lng), ("chosen", .none), ("met", .str "")] [] G (execs (innT3 W.w.params) (lawEnv W.w.params L fa cd)) (BQ L [("plain", .ref p), ("layout", .ref lay), ("wishes", .ref wa), ("writing", .str w)] G)) := ⟨by
  rw [innT3_eq]
  refine EX_cons ?_
  refine EX_if ?_
  refine EB_or ?_
  refine EB_compare ?_
  refine EV_compare ((EV_local rfl rfl rfl rfl (EV_none (O2_is_none ?_))))
  refine EV_compare ((EV_local rfl rfl rfl rfl (EV_str (O2_eq_str ?_))))
  refine O2_ne_bool (OB_bool ?_)
  show EB _ _ _ _ _ _
  refine EB_or ?_
  refine EB_and ?_
  refine EB_compare ?_
  refine (EV_local rfl rfl rfl rfl (EV_none (O2_isnot_none (OB_bool ?_))))
  show EB _ _ _ _ _ _
  refine EB_or_nil ?_
  show EX _ _ _ _ _ _ (execs [] _) _
  refine EX_nil ?_
  show EX _ _ _ _ _ _ (execs (innT4 _) _) _
  rw [innT4_eq]
  refine EX_cons ?_
  refine EX_if ?_
  refine EB_compare ?_
  refine (EV_local rfl rfl rfl rfl (EV_none (O2_is_none (OB_bool ?_))))
  show EX _ _ _ _ _ _ _ _
  refine EX_cons ?_
  refine EX_continue ?_
  refine ⟨.inr rfl, .refl _, ?_, .refl _, _, hc⟩
  (focus (repeat (first | exact Sup.refl _ | exact Sup.nil _ | refine Sup.cons (by exact rfl) ?_)))⟩
theorem BBs {L fa p wa lay sd fl ll : Nat} {G0 : Mem} {we : Nat} {v0 : Option AV} {l : List AV} {S : List SE} {P : GR} {Rw : List (Str × List Int)} {ks : List (Str × Str)} {cd : Value} {w lng : Str} {x : SE} (X : Base W (KP W)) (hA : AOk (n + 4) A) (hW : LW G0 G lay sd fl ll p l S P Rw ks) (hks : ks.Perm (keysOf P)) (hP : PF P)
    (hRw : ∀ r, r ∈ Rw ↔ ∃ p ∈ P, r ∈ p.2) (hRz : Rw.length ≤ 60) (hwa : G wa = some (.dS (wishK wlA) we)) (hx : x ∈ S) (hne : x.s ≠ "") (hc : G (L + 3) = some (.cell v0)) :
    Run (EX W A L [("plain", .ref p), ("layout", .ref lay), ("wishes", .ref wa), ("writing", .str w), ("language", .str lng), ("chosen", .ref x.a), ("met", .str x.s)] [] G (execs (innT3 W.w.params) (lawEnv W.w.params L fa cd)) (BQ L [("plain", .ref p), ("layout", .ref lay), ("wishes", .ref wa), ("writing", .str w)] G)) := ⟨by
  obtain ⟨y1, y2, y3, y4, y5, y6, y7⟩ := hW.scr.2.2.2.2 x hx
  rw [innT3_eq]
  refine EX_cons ?_
  refine EX_if ?_
  refine EB_or ?_
  refine EB_compare ?_
  refine EV_compare ((EV_local rfl rfl rfl rfl (EV_none (O2_is_none ?_))))
  refine EV_compare ((EV_local rfl rfl rfl rfl (EV_str (O2_eq_str ?_))))
  rw [show (x.s == ("" : Str)) = false from beq_eq_false_iff_ne.mpr hne]
  refine O2_ne_bool (OB_bool ?_)
  show EB _ _ _ _ _ _
  refine EB_or ?_
  refine EB_and ?_
  refine EB_compare ?_
  refine (EV_local rfl rfl rfl rfl (EV_none (O2_isnot_none (OB_bool ?_))))
  show EB _ _ _ _ _ _
  refine EB_and ?_
  refine EB_compare ?_
  refine EV_attr X ((EV_local rfl rfl rfl rfl ?_))
  refine ⟨x.a, 73, x.dx, _, .str x.s, rfl, y2, y3, (⟨by exact rfl, by exact rfl, by exact rfl⟩ : PlainAttr _ _ _), rfl, ?_⟩
  refine (EV_local rfl rfl rfl rfl (O2_ne_str (OB_bool ?_)))
  rw [show (x.s != x.s) = false by simp]
  show EB _ _ _ _ _ _
  refine EB_or_nil ?_
  show EX _ _ _ _ _ _ (execs [] _) _
  refine EX_nil ?_
  show EX _ _ _ _ _ _ (execs (innT4 _) _) _
  rw [innT4_eq]
  refine EX_cons ?_
  refine EX_if ?_
  refine EB_compare ?_
  refine (EV_local rfl rfl rfl rfl (EV_none (O2_is_none (OB_bool ?_))))
  show EX _ _ _ _ _ _ (execs [] _) _
  refine EX_nil ?_
  refine Run.use (m' := [("plain", .ref p), ("layout", .ref lay), ("wishes", .ref wa), ("writing", .str w), ("language", .str lng), ("chosen", .ref x.a), ("met", .str x.s)]) (Q := BQ L [("plain", .ref p), ("layout", .ref lay), ("wishes", .ref wa), ("writing", .str w)] G) ?_ ?_ ?_
  · exact BC (n := n) X hA hW hks hP hRw hRz hwa hx hc
  · exact Sup.refl _
  · exact BQ.pre (.refl _) (.refl _)⟩
end
end Mine

namespace Mine
theorem fit_w {w : Str} (h : w ∈ (["DFLT", "latn", "arab", "grek"] : List Str)) : strFits w := by
  simp only [List.mem_cons, List.not_mem_nil, or_false] at h
  rcases h with rfl | rfl | rfl | rfl <;> (unfold strFits; decide +kernel)
section
variable {W : Wd} {A : Around} {G : Mem} {n : Nat}
theorem BMet {L fa th : Nat} {P : GR} {v1 v2 v3 v4 v5 : AV} {w : Str} {cd : Value} {Q : AF → List (Str × AV) → Mem → Prop} (X : Base W (KP W)) (hA : AOk (n + 4) A) (hP : GP P) (hw : strFits w) (ht : G th = some (.list ((namesOf P).map .str)))
    (q : Run (EX W A L [("plain", v1), ("layout", v2), ("wishes", v3), ("writing", .str w), ("language", v4), ("chosen", v5), ("met", .str (metOf P w))] [] G (execs (innT3 W.w.params) (lawEnv W.w.params L fa cd)) Q)) :
    EX W A L [("plain", v1), ("layout", v2), ("wishes", v3), ("writing", .str w), ("language", v4), ("chosen", v5), ("there", .ref th)] [] G (execs (innT2 W.w.params) (lawEnv W.w.params L fa cd)) Q := by
  have hfit : ∀ x ∈ namesOf P, strFits x := fun x hx => fit_s (hP.names hx)
  have dts : AV.dats ((namesOf P).map .str) = true := dats_iff.mpr fun y hy => by
    obtain ⟨p, hp, rfl⟩ := List.mem_map.mp hy
    exact hfit p hp
  have dep : ∀ x : Str, (toPD (.str x)).depth ≤ 64 := fun x => by simp [toPD, PyData.depth]
  have f1 : strFits "DFLT" := by unfold strFits; decide +kernel
  have f2 : strFits "latn" := by unfold strFits; decide +kernel
  rw [innT2_eq]
  refine EX_cons ?_
  refine EX_assign ?_
  have fin : ∀ s : Str, s = metOf P w → SV W A L [("plain", v1), ("layout", v2), ("wishes", v3), ("writing", .str w), ("language", v4), ("chosen", v5), ("there", .ref th)] [] G (.str s) (storeName (lawEnv W.w.params L fa cd) "met") fun m' G2 => EX W A L m' [] G2 (execs (innT3 W.w.params) (lawEnv W.w.params L fa cd)) Q := fun s hs => by
    subst hs
    refine SV_local rfl rfl rfl ?_
    refine Run.weaken (m' := [("plain", v1), ("layout", v2), ("wishes", v3), ("writing", .str w), ("language", v4), ("chosen", v5), ("met", .str (metOf P w))]) ?_ ?_
    · exact q
    · (focus (repeat (first | exact Sup.refl _ | exact Sup.nil _ | refine Sup.cons (by exact rfl) ?_)))
  refine EV_ifexp ?_
  refine EB_compare ((EV_local rfl rfl rfl rfl ((EV_local rfl rfl rfl rfl ?_))))
  refine O2_in_list hA ht dts hw (dep w) (OB_bool ?_)
  rw [any_str hfit hw]
  unfold metOf at fin
  by_cases h1 : w ∈ namesOf P
  · rw [decide_eq_true h1]
    rw [if_pos h1] at fin
    show EV _ _ _ _ _ _
    refine (EV_local rfl rfl rfl rfl (SV_name ?_))
    exact fin w rfl
  · rw [decide_eq_false h1]
    rw [if_neg h1] at fin
    show EV _ _ _ _ _ _
    refine EV_ifexp ?_
    refine EB_compare (EV_str ((EV_local rfl rfl rfl rfl ?_)))
    refine O2_in_list hA ht dts f1 (dep _) (OB_bool ?_)
    rw [any_str hfit f1]
    by_cases h2 : ("DFLT" : Str) ∈ namesOf P
    · rw [decide_eq_true h2]
      rw [if_pos h2] at fin
      show EV _ _ _ _ _ _
      refine EV_str (SV_name ?_)
      exact fin _ rfl
    · rw [decide_eq_false h2]
      rw [if_neg h2] at fin
      show EV _ _ _ _ _ _
      refine EV_ifexp ?_
      refine EB_compare (EV_str ((EV_local rfl rfl rfl rfl ?_)))
      refine O2_in_list hA ht dts f2 (dep _) (OB_bool ?_)
      rw [any_str hfit f2]
      by_cases h3 : ("latn" : Str) ∈ namesOf P
      · rw [decide_eq_true h3]
        rw [if_pos h3] at fin
        show EV _ _ _ _ _ _
        refine EV_str (SV_name ?_)
        exact fin _ rfl
      · rw [decide_eq_false h3]
        rw [if_neg h3] at fin
        show EV _ _ _ _ _ _
        refine EV_str (SV_name ?_)
        exact fin _ rfl
theorem BA {L fa p wa lay sd fl ll : Nat} {G0 : Mem} {we : Nat} {v0 : Option AV} {l : List AV} {S : List SE} {P : GR} {Rw : List (Str × List Int)} {ks : List (Str × Str)} {cd : Value} {w lng : Str} (X : Base W (KP W)) (hA : AOk (n + 4) A) (hW : LW G0 G lay sd fl ll p l S P Rw ks) (hks : ks.Perm (keysOf P)) (hP : PF P)
    (hRw : ∀ r, r ∈ Rw ↔ ∃ p ∈ P, r ∈ p.2) (hRz : Rw.length ≤ 60) (hwa : G wa = some (.dS (wishK wlA) we)) (hw : strFits w) (hc : G (L + 3) = some (.cell v0)) :
    Run (EX W A L [("plain", .ref p), ("layout", .ref lay), ("wishes", .ref wa), ("writing", .str w), ("language", .str lng)] [] G (execs (innT0 W.w.params) (lawEnv W.w.params L fa cd)) (BQ L [("plain", .ref p), ("layout", .ref lay), ("wishes", .ref wa), ("writing", .str w)] G)) := ⟨by
  have slz : sizeLine = 16777216 := sizeLine_eq
  rw [innT0_eq]
  refine EX_cons ?_
  refine EX_assign ?_
  refine EV_call X (by exact rfl) (by exact rfl) rfl (by exact rfl) rfl ?_
  refine ES_cons ((EV_local rfl rfl rfl rfl ?_))
  refine ES_cons ?_
  refine EV_list (ES_cons ((EV_local rfl rfl rfl rfl (ES_nil ⟨by rw [slz]; simp, fun tl htl => ?_⟩))))
  have k1 : Keeps G (G.set tl (.list [.str w])) := (Keeps.refl G).set htl
  have t1 : (G.set tl (.list [.str w])) tl = some (.list [.str w]) := Mem.set_self _ _ _
  generalize G.set tl (.list [.str w]) = G1 at *
  have x1 : Ex [] G G1 := k1.ex
  have hW1 := hW.sub x1.sub
  obtain ⟨e, hsd⟩ := hW1.scr.1
  refine ES_nil (OC.ol (C_choose_script (n := n + 3) X hA hW1.lay hsd t1 fun G2 x2 => ?_))
  have hW2 := hW1.sub x2.sub
  have x02 : Ex [] G G2 := x1.trans x2
  generalize hcv : (firstIn (S.map SE.kv) [w, "DFLT", "dflt", "latn"]).getD .none = cv
  refine (SV_name (SV_local rfl rfl rfl ?_))
  show EX _ _ _ _ _ _ (execs (innT1 _) _) _
  rw [innT1_eq]
  refine EX_cons ?_
  obtain ⟨kvs, pe, g2, inn, _⟩ := hW2.pla
  refine EX_assignCompI (cl := []) (by exact rfl) (by exact rfl) (by decide) rfl (by decide) rfl rfl rfl ?_
  refine (EV_local rfl rfl rfl rfl ?_)
  have hkeys : kvs.map (·.1) = P.map (·.1) := All2.keys (R := InR G2) inn.all
  have hkl : kvs.length = P.length := All2.length inn
  refine ⟨fun j acc G5 => Sub [] G2 G5 ∧ acc = ((namesOf P).take j).map .str, (fun h k => ⟨h.1.trans k, h.2⟩), _, _, IT_dT hA.h g2, fun j acc G5 h => h.1 _ _ g2 rfl (by simp), ⟨Sub.refl _ _, rfl⟩, by rw [slz, List.length_map, hkl]; have := hP.len; omega, ?turn, ?done⟩
  case turn =>
    rintro C j x acc G5 hj ⟨hs5, rfl⟩
    obtain ⟨pv, hpv, rfl⟩ : ∃ pv, kvs[j]? = some pv ∧ x = tupS pv.1 := by
      rw [List.getElem?_map] at hj
      obtain ⟨t, e1, e2⟩ := Option.map_eq_some_iff.mp hj
      exact ⟨t, e1, e2.symm⟩
    obtain ⟨qv, hqv, heq, _⟩ := All2.get inn hpv
    obtain ⟨s, l, e1, _⟩ := hP.gp.two qv (List.mem_of_getElem? hqv)
    have hnm : (namesOf P)[j]? = some s := by
      unfold namesOf keysOf
      rw [List.getElem?_map, List.getElem?_map, hqv]
      show some (twoOf qv.1).1 = some s
      rw [e1]; rfl
    rw [heq, e1]
    refine SV_tuple hA.h rfl rfl ?_
    show SV _ _ _ _ _ _ _ _ _
    refine (SV_name (SV_local rfl rfl rfl ?_))
    show SV _ _ _ _ _ _ _ _ _
    refine (SV_name (SV_local rfl rfl rfl ?_))
    show EV _ _ _ _ _ _
    refine (EV_local rfl rfl rfl rfl ⟨.refl _, hs5, ?_⟩)
    rw [List.take_add_one, hnm, List.map_append]; rfl
  case done =>
    rintro acc G5 D hD ⟨hs5, rfl⟩ hkeep5
    rw [show (kvs.map fun p => tupS p.1).length = (namesOf P).length by rw [List.length_map, hkl]; unfold namesOf keysOf; simp, List.take_length]
    have x5 : Ex [] G2 G5 := ⟨hs5, hkeep5⟩
    have x6 : Ex [] G5 (G5.set D (.list ((namesOf P).map .str))) := Ex.new hD
    have d6 : (G5.set D (.list ((namesOf P).map .str))) D = some (.list ((namesOf P).map .str)) := Mem.set_self _ _ _
    generalize G5.set D (.list ((namesOf P).map .str)) = G6 at *
    have x06 : Ex [] G G6 := x02.trans (x5.trans x6)
    have hW6 := hW.sub x06.sub
    have wa6 := x06.sub _ _ hwa rfl (by simp)
    have c6 := x06.sub _ _ hc rfl (by simp)
    show EX _ _ _ _ _ _ (execs (innT2 _) _) _
    refine EX.weaken (m' := [("plain", .ref p), ("layout", .ref lay), ("wishes", .ref wa), ("writing", .str w), ("language", .str lng), ("chosen", cv), ("there", .ref D)]) ?_ ?_
    · refine BMet (n := n) (P := P) X hA hP.gp hw d6 ⟨?_⟩
      rcases chosen_spec hW6 hks hP.gp w with ⟨h1, h2⟩ | ⟨x, hx, h1, h2, h3⟩
      · rw [h2] at hcv
        rw [h1, ← hcv]
        refine Run.use (m' := [("plain", .ref p), ("layout", .ref lay), ("wishes", .ref wa), ("writing", .str w), ("language", .str lng), ("chosen", .none), ("met", .str "")]) (Q := BQ L [("plain", .ref p), ("layout", .ref lay), ("wishes", .ref wa), ("writing", .str w)] G6) ?_ ?_ ?_
        · exact BBn (n := n) X hA c6
        · exact Sup.refl _
        · exact BQ.pre x06.its x06.sub.subC
      · rw [h3] at hcv
        rw [← h1] at h2
        rw [← h1, ← hcv]
        refine Run.use (m' := [("plain", .ref p), ("layout", .ref lay), ("wishes", .ref wa), ("writing", .str w), ("language", .str lng), ("chosen", .ref x.a), ("met", .str x.s)]) (Q := BQ L [("plain", .ref p), ("layout", .ref lay), ("wishes", .ref wa), ("writing", .str w)] G6) ?_ ?_ ?_
        · exact BBs (n := n) X hA hW6 hks hP hRw hRz wa6 hx h2 c6
        · exact Sup.refl _
        · exact BQ.pre x06.its x06.sub.subC
    · (focus (repeat (first | exact Sup.refl _ | exact Sup.nil _ | refine Sup.cons (by exact rfl) ?_)))⟩
end
end Mine

namespace Mine
section
variable {W : Wd} {A : Around} {G : Mem} {n : Nat}
theorem LAW12 {L fa p wa lay sd fl ll : Nat} {G0 : Mem} {we : Nat} {v0 : Option AV} {l : List AV} {S : List SE} {P : GR} {Rw : List (Str × List Int)} {ks : List (Str × Str)} {cd : Value} (X : Base W (KP W)) (hA : AOk (n + 4) A) (hW : LW G0 G lay sd fl ll p l S P Rw ks) (hks : ks.Perm (keysOf P)) (hP : PF P)
    (hRw : ∀ r, r ∈ Rw ↔ ∃ p ∈ P, r ∈ p.2) (hRz : Rw.length ≤ 60) (hwa : G wa = some (.dS (wishK wlA) we)) (hc : G (L + 3) = some (.cell v0)) :
    Run (EX W A L [("plain", .ref p), ("layout", .ref lay), ("wishes", .ref wa)] [] G (execs (tl11 W.w.params) (lawEnv W.w.params L fa cd)) fun af _ _ => af = .ret (.bool true)) := ⟨by
  have slz : sizeLine = 16777216 := sizeLine_eq
  rw [tl11_eq]
  refine EX_cons ?_
  rw [outFor]
  refine EX_forSI (m0 := [("plain", .ref p), ("layout", .ref lay), ("wishes", .ref wa)]) (Sup.refl _) ?_
  refine EV_tuple (ES_cons (EV_str (ES_cons (EV_str (ES_cons (EV_str (ES_cons (EV_str (ES_nil ⟨by rw [slz]; simp, ?_⟩)))))))))
  refine ⟨fun i G5 => LW G0 G5 lay sd fl ll p l S P Rw ks ∧ G5 wa = some (.dS (wishK wlA) we) ∧ ∃ v, G5 (L + 3) = some (.cell v), _, _, (fun h k => ⟨h.1.sub k, k _ _ h.2.1 rfl (by simp), h.2.2.imp fun v h => k _ _ h rfl (by simp)⟩), IT_tuple hA.h, fun _ _ _ => trivial, ⟨hW, hwa, _, hc⟩, ?turn, ?done⟩
  case turn =>
    rintro i y G5 hi ⟨hW5, hwa5, v5, hc5⟩ hkt
    obtain ⟨w, rfl, hw⟩ : ∃ w, y = .str w ∧ strFits w := by
      have := List.mem_of_getElem? hi
      simp only [List.mem_cons, List.not_mem_nil, or_false] at this
      rcases this with rfl | rfl | rfl | rfl
      · exact ⟨_, rfl, fit_w (by decide)⟩
      · exact ⟨_, rfl, fit_w (by decide)⟩
      · exact ⟨_, rfl, fit_w (by decide)⟩
      · exact ⟨_, rfl, fit_w (by decide)⟩
    refine (SV_name (SV_local rfl rfl rfl ?_))
    rw [outT0_eq]
    refine EX_cons ?_
    rw [innFor]
    refine EX_forSI (m0 := [("plain", .ref p), ("layout", .ref lay), ("wishes", .ref wa), ("writing", .str w)]) ?_ ?_
    · (focus (repeat (first | exact Sup.refl _ | exact Sup.nil _ | refine Sup.cons (by exact rfl) ?_)))
    refine EV_tuple (ES_cons (EV_str (ES_cons (EV_str (ES_cons (EV_str (ES_nil ⟨by rw [slz]; simp, ?_⟩)))))))
    refine ⟨fun i G6 => LW G0 G6 lay sd fl ll p l S P Rw ks ∧ G6 wa = some (.dS (wishK wlA) we) ∧ ∃ v, G6 (L + 3) = some (.cell v), _, _, (fun h k => ⟨h.1.sub k, k _ _ h.2.1 rfl (by simp), h.2.2.imp fun v h => k _ _ h rfl (by simp)⟩), IT_tuple hA.h, fun _ _ _ => trivial, ⟨hW5, hwa5, v5, hc5⟩, ?turn2, ?done2⟩
    case turn2 =>
      rintro j y G6 hj ⟨hW6, hwa6, v6, hc6⟩ hkt6
      obtain ⟨lng, rfl⟩ : ∃ lng, y = .str lng := by
        have := List.mem_of_getElem? hj
        simp only [List.mem_cons, List.not_mem_nil, or_false] at this
        rcases this with rfl | rfl | rfl
        · exact ⟨_, rfl⟩
        · exact ⟨_, rfl⟩
        · exact ⟨_, rfl⟩
      refine (SV_name (SV_local rfl rfl rfl ?_))
      refine Run.use (m' := [("plain", .ref p), ("layout", .ref lay), ("wishes", .ref wa), ("writing", .str w), ("language", .str lng)]) (Q := BQ L [("plain", .ref p), ("layout", .ref lay), ("wishes", .ref wa), ("writing", .str w)] G6) ?_ ?_ ?_
      · exact BA (n := n) X hA hW6 hks hP hRw hRz hwa6 hw hc6
      · (focus (repeat (first | exact Sup.refl _ | exact Sup.nil _ | refine Sup.cons (by exact rfl) ?_)))
      · rintro af m7 G7 ⟨haf, k7, s7, c7, v7⟩
        rcases haf with rfl | rfl
        · exact ⟨k7, s7, hW6.subC c7, c7 _ _ hwa6 rfl nc_dS, v7⟩
        · exact ⟨k7, s7, hW6.subC c7, c7 _ _ hwa6 rfl nc_dS, v7⟩
    case done2 =>
      rintro m7 G7 hsup7 ⟨hW7, hwa7, v7⟩ hkeep7
      show EX _ _ _ _ _ _ (execs (outT1 _) _) _
      rw [outT1_eq]
      refine EX_nil ⟨hkeep7, Sup.trans hsup7 (by (focus (repeat (first | exact Sup.refl _ | exact Sup.nil _ | refine Sup.cons (by exact rfl) ?_)))), hW7, hwa7, v7⟩
  case done =>
    rintro m8 G8 hsup8 ⟨hW8, _, _⟩ hkeep8
    show EX _ _ _ _ _ _ (execs (tl12 _) _) _
    rw [tl12_eq]
    refine EX_cons ?_
    refine EX_return ?_
    refine EV_bool ?_
    rfl⟩
theorem LAW {L fa sl : Addr} {cd : Value} {vs : List Value} {ns : List Int} (X : Base W (KP W)) (hA : AOk (n + 4) A) (hc1 : G (L + 1) = some (.cell none)) (hc2 : G (L + 2) = some (.cell none)) (hc3 : G (L + 3) = some (.cell none)) (hl : W.B.IsList sl (List.toArray vs)) (hI : IntsAre vs ns) (hz : ns.length ≤ 63) :
    Run (EX W A L [("script", .ref sl)] [] G (execs (tl0 W.w.params) (lawEnv W.w.params L fa cd)) fun af _ _ => af = .ret (.bool true)) := by
  refine LAW1 (n := n + 3) X hA hc1 hl hI hz fun G1 p cl p1 x1 pen1 => ?_
  have c21 := x1.sub _ _ hc2 rfl (by simp)
  have c31 := x1.sub _ _ hc3 rfl (by simp)
  refine LAW2 (n := n + 3) X hA c21 fun G2 nu ne fe kn n2 x2 u2 f2 k2 hfe => ?_
  have c32 := x2.sub _ _ c31 rfl (by simp)
  have p2 := x2.sub _ _ p1 rfl (by simp)
  have hpen1 := pen1
  obtain ⟨spot, seed, li, q1, q2, q3, q4⟩ := pen1
  have hpf : p ≠ fe := fun e => by rw [e, hfe] at q1; rcases q1 with q1 | q1 <;> cases q1
  have hcf : cl ≠ fe := fun e => by rw [e, hfe] at q2; cases q2
  have hp2 : p ≠ L + 2 := fun e => by rw [e, c21] at q1; rcases q1 with q1 | q1 <;> cases q1
  have hcl2 : cl ≠ L + 2 := fun e => by rw [e, c21] at q2; cases q2
  have pen2 : PenOk G2 p cl 0 := by
    refine ⟨spot, seed, li, ?_, x2.sub _ _ q2 rfl (by simpa using hcl2), q3, q4⟩
    rcases q1 with q1 | q1
    · exact .inl (x2.sub _ _ q1 rfl (by simpa using hp2))
    · exact .inr (x2.sub _ _ q1 rfl (by simpa using hp2))
  refine LAW3 (n := n + 2) X hA p2 pen2 hcf hpf n2 u2 f2 k2 fun G3 R hR kc C3 => ?_
  have c33 := kc _ _ c32
  refine LAW4 (n := n + 2) X hA hR C3 fun G4 g x4 hg => ?_
  have c34 := x4.sub _ _ c33 rfl (by simp)
  obtain ⟨d1, d2, d3, d5, kvs, e, d6, d7⟩ := C3.subW x4.sub.subW
  obtain ⟨szL, szK⟩ := kfold_size nlA R [] (fun _ h => nomatch h)
  have hPF := PF.of hR d5
  have hpl : pl [] (kfold nlA R) = gfold nlA [] R := pl_kfold nlA R [] List.nodup_nil
  refine LAW5 (n := n + 2) X hA d6 d7 (kfold_nodup nlA R [] List.nodup_nil) (TriK.fold nlA R (fun _ h => nomatch h)) (by have := szK; simp at this; unfold kfold; omega) fun G5 pp x5 hpp => ?_
  have c35 := x5.sub _ _ c34 rfl (by simp)
  rw [hpl] at hpp
  generalize gfold nlA [] R = P at *
  have hg5 := hg.sub x5.sub
  refine LAW6 (n := n + 2) X hA hg5 hpp ?_
  refine LAW7 (n := n + 2) X hA hg5 hPF fun b G6 Rw x6 hRw hRn hb => ?_
  have c36 := x6.sub _ _ c35 rfl (by simp)
  have hfl : (P.flatMap (·.2)).length ≤ 60 := by
    have h1 := flat_len P hPF.inl
    have h2 : P.length * 6 ≤ 6 * 6 := Nat.mul_le_mul_right _ hPF.len
    omega
  have hRz : Rw.length ≤ 60 := Nat.le_trans (len_sub (P.flatMap (·.2)) Rw hRn fun x hx => List.mem_flatMap.mpr ((hRw x).mp hx)) hfl
  refine LAW8 (n := n) X hA (hg5.sub x6.sub) (hpp.sub x6.sub) hPF hb hRw hRn fun G7 lay sd fl ll l S ks x7 hks hW => ?_
  have c37 := x7.sub _ _ c36 rfl (by simp)
  refine LAW9 (n := n) X hA fun G8 wa we x8 hwa => ?_
  exact LAW12 (n := n) X hA (hW.sub x8.sub) hks hPF hRw hRz hwa (x8.sub _ _ c37 rfl (by simp))
end
end Mine

namespace Mine
theorem EX.run {W : Wd} {A : Around} {L : Addr} {m : List (Str × AV)} {Fs : List FA} {G : Mem} {t : Sem Flow} {Q : AF → List (Str × AV) → Mem → Prop} {R : Flow → Shared → Prop} {E : Value → Shared → Prop} {s : Shared} (x : Run (EX W A L m Fs G t Q)) (hs : W.St (⟨L, m⟩ :: Fs) G s) (k : ∀ f s', FP W L Fs s.heap Q f s' → R f s') :
    wpAny (model W.prog W.w) A t R E s := noE (x.go s hs) k
theorem aok_caller (env : Env) : AOk 4 (callerA.deeper env) := AOk.deeper (n := 4) ⟨rfl, by decide, by decide⟩ env
theorem JOIN {prog : Program} {w : World} {s₁ : Shared} {h₁ : Heap} {tk fa lst : Nat} {cd : Value} {m mg mb : Str → Option Value} {vs : List Value} {ns : List Int} {o1 o2 o3 : Obj} {E : Value → Shared → Prop}
    (KX : (KF w.params).In s₁.heap) (hgl : s₁.heap.Ns mainGlobals mg) (hb : s₁.heap.Ns builtinsNs mb) (hmb : ∀ x : Str, x ≠ "__name__" → mb x = bootBuiltins x) (hlim : s₁.heap.NoLimit)
    (hl : s₁.heap.IsList lst (List.toArray vs)) (hI : IntsAre vs ns) (hz : ns.length ≤ 63) (F : Fr s₁.heap s₁.heap.objs.size h₁ m) (hm : m "script" = some (.ref lst))
    (N : News s₁.heap s₁.heap.objs.size h₁ [(s₁.heap.objs.size + 1 + 1 + 1, o3), (s₁.heap.objs.size + 1 + 1, o2), (s₁.heap.objs.size + 1, o1)]) (e1 : o1.data = .cell none) (e2 : o2.data = .cell none) (e3 : o3.data = .cell none) (hgens : s₁.gens = #[]) :
    wpAny (model prog w) (callerA.deeper (lawEnv w.params s₁.heap.objs.size fa cd)) (execs (tl0 w.params) (lawEnv w.params s₁.heap.objs.size fa cd)) (fun f s' => f = .ret (.bool true) ∧ (∀ b o, s₁.heap.get? b = some o → s'.heap.get? b = some o) ∧ s'.os = s₁.os ∧ s'.gens = #[]) E
      { s₁ with heap := h₁, toks := tk } := by
  generalize hL : s₁.heap.objs.size = L at *
  obtain ⟨n1, _, b1⟩ := N _ (.tail _ (.tail _ (.head _)))
  obtain ⟨n2, _, b2⟩ := N _ (.tail _ (.head _))
  obtain ⟨n3, _, b3⟩ := N _ (.head _)
  refine EX.run (W := ⟨prog, w, s₁.heap, s₁⟩) (L := L) (m := [("script", .ref lst)]) (Fs := []) (G := fun a => if a = L + 1 ∨ a = L + 2 ∨ a = L + 3 then some (.cell none) else none) (Q := fun af _ _ => af = .ret (.bool true)) ?_ ?_ ?_
  · refine LAW (W := ⟨prog, w, s₁.heap, s₁⟩) (n := 0) (vs := vs) (ns := ns) ⟨KX, ⟨mg, hgl⟩, ⟨mb, hb, hmb⟩, hlim⟩ (aok_caller _) (by simp) (by simp) (by simp) hl hI hz
  · refine ⟨F.keep, ?_, ?_, ?_, ?_, ?_, rfl⟩
    · intro f hf
      rw [List.mem_singleton] at hf
      subst hf
      refine ⟨m, F.ns, fun x av hx => ?_⟩
      by_cases hxs : x = "script"
      · subst hxs
        have : av = .ref lst := by simpa using hx.symm
        subst this
        exact ⟨_, hm, .ref _⟩
      · rw [List.lookup_cons, beq_eq_false_iff_ne.mpr hxs] at hx
        cases hx
    · intro f hf
      rw [List.mem_singleton] at hf
      subst hf
      refine ⟨?_, Heap.get?_none_of_le (by rw [hL]; exact Nat.le_refl _)⟩
      show (if L = L + 1 ∨ L = L + 2 ∨ L = L + 3 then some (AO.cell none) else none) = none
      rw [if_neg (by omega)]
    · simp
    · intro a o ha
      split at ha
      · rename_i h
        injection ha with ha
        subst ha
        rcases h with rfl | rfl | rfl
        · exact ⟨o1, none, n1, e1, rfl⟩
        · exact ⟨o2, none, n2, e2, rfl⟩
        · exact ⟨o3, none, n3, e3, rfl⟩
      · cases ha
    · intro a o ha
      split at ha
      · rename_i h
        rcases h with rfl | rfl | rfl
        · exact b1
        · exact b2
        · exact b3
      · cases ha
  · rintro f s' ⟨af, m', G', S, _, rf, rfl⟩
    cases rf with
    | ret rv =>
      cases rv
      refine ⟨rfl, S.base, ?_, ?_⟩
      · rw [S.sh]
      · rw [S.sh]; exact hgens
theorem FIN {prog p : Program} {w : World} {s₁ : Shared} {h₁ : Heap} {tk fa lst : Nat} {cd : Value} {m mg mb : Str → Option Value} {vs : List Value} {ns : List Int} {o1 o2 o3 : Obj} {E : Value → Shared → Prop} {loose : List Str} {mean : ExcName → Option Value} {name : Str} {scope : Scope} {body : List Stmt} {R : Flow → Shared → Prop}
    (KX : (KF w.params).In s₁.heap) (T : Top p loose mean mg mb s₁.heap) (hl : s₁.heap.IsList lst (List.toArray vs)) (hI : IntsAre vs ns) (hz : ¬ ((63 : Nat) : Int) < ((ns.length : Nat) : Int)) (F : Fr s₁.heap s₁.heap.objs.size h₁ m) (hm : m "script" = some (.ref lst))
    (N : News s₁.heap s₁.heap.objs.size h₁ [(s₁.heap.objs.size + 1 + 1 + 1, o3), (s₁.heap.objs.size + 1 + 1, o2), (s₁.heap.objs.size + 1, o1)]) (e1 : o1.data = .cell none) (e2 : o2.data = .cell none) (e3 : o3.data = .cell none) (hgens : s₁.gens = #[])
    (hname : name = "law") (hsc : scope = (lawFd w.params).scope) (hb : body = tl0 w.params) (hR : ∀ s', (∀ b o, s₁.heap.get? b = some o → s'.heap.get? b = some o) → s'.os = s₁.os → s'.gens = #[] → R (.ret (.bool true)) s') :
    wpAny (model prog w) (callerA.deeper (envOfC name scope s₁.heap.objs.size fa cd)) (execs body (envOfC name scope s₁.heap.objs.size fa cd)) R E { s₁ with heap := h₁, toks := tk } := by
  subst hname hsc hb
  rw [lawEnv_eq]
  refine wpAny_mono (JOIN (E := E) KX T.g T.b T.builtins T.nolimit hl hI (by omega) F hm N e1 e2 e3 hgens) ?_ ?_
  · rintro f s' ⟨rfl, h1, h2, h3⟩
    exact hR s' h1 h2 h3
  · intro _ _ h; exact h
end Mine

namespace Mine
theorem leftO_of {p q : Program} {loose : List Str} {Xt : Shared → Bool} {α : Type} {Yf : Shared → α} {Ya : World → α} {N : Nat} {g0 : Bool} {H₀ : Params → Heap} {gs₀ : Array GenState} {d₀ : Drawn} {k₀ : Nat}
    (open_ : ∀ w : World, (fencedOpening treeTable p w N).map (fun s => (s.heap, s.gens, s.drawn, s.toks)) = some (H₀ w.params, gs₀, d₀, k₀))
    (size : ∀ w : World, ((H₀ w.params).isNs mainGlobals && gs₀.size == 0) = true)
    (run : ∀ (w : World) (os : OsState), (topRun treeTable p w (H₀ w.params).objs.size ((H₀ w.params).nsMap mainGlobals "__annotations__") N ⟨H₀ w.params, gs₀, d₀, k₀, os⟩ (topStub p)).map
      (fun s₁ => ((staticsOk (importedModules p.main.body) (H₀ w.params) s₁.heap && namesBound p s₁.heap && gensDone s₁ && laidKept (H₀ w.params) s₁.heap), openSeen q loose (importedModules p.main.body) Xt g0 s₁, Yf s₁)) = some (true, openGood q loose, Ya w)) :
    LeftO p q loose Xt Yf Ya N g0 := fun w => by
  obtain ⟨⟨h, gs, d, k, os⟩, e, e'⟩ := Option.map_eq_some_iff.mp (open_ w)
  obtain ⟨rfl, rfl, rfl, rfl⟩ : h = H₀ w.params ∧ gs = gs₀ ∧ d = d₀ ∧ k = k₀ := by simpa using e'
  obtain ⟨s₁, r, x⟩ := Option.map_eq_some_iff.mp (run w os)
  obtain ⟨x1, x2, x3⟩ : _ ∧ _ ∧ _ := by simpa only [Prod.mk.injEq] using x
  have t : topFrom treeTable p w N ⟨H₀ w.params, gs, d, k, os⟩ = some s₁ := by
    unfold topFrom
    rw [size w]
    show (topRun treeTable p w (H₀ w.params).objs.size ((H₀ w.params).nsMap mainGlobals "__annotations__") N ⟨H₀ w.params, gs, d, k, os⟩ (topStub p)).bind _ = _
    rw [r]
    show (match staticsOk (importedModules p.main.body) (H₀ w.params) s₁.heap && namesBound p s₁.heap && gensDone s₁ && laidKept (H₀ w.params) s₁.heap with | true => some s₁ | false => none) = _
    rw [x1]
  unfold openEnds
  rw [e]
  show (topFrom treeTable p w N ⟨H₀ w.params, gs, d, k, os⟩).map _ = _
  rw [t]
  show some (openSeen q loose (importedModules p.main.body) Xt g0 s₁, Yf s₁) = _
  rw [x2, x3]
noncomputable def Xt0 (s : Shared) : Bool := xlAt qv [] s && recOk (RowW.records PySem.Challenge.rw_pb0176_01.row.toRowW) s
theorem pw_open : ∀ w : World, (fencedOpening treeTable pw w 2300).map (fun s => (s.heap, s.gens, s.drawn, s.toks)) = some (boot_heap w.params, Array.mk [], boot_drawn, boot_toks) :=
  boot_open (p := pw) (N := 2300) (by kernel_rfl) (by kernel_rfl) (fun s => by kernel_rfl)
theorem pw_size : ∀ w : World, ((boot_heap w.params).isNs mainGlobals && (Array.mk [] : Array GenState).size == 0) = true := fun w => by kernel_rfl
def goF (ok : Thread → Bool) (st : SharedT → Thread → Option (SharedT × Thread)) : Nat → SharedT → Thread → Option SharedT
  | 0, _, _ => none
  | n + 1, s, t => match through t with
    | true => some s
    | false => match ok t with
      | false => none
      | true => match st s t with
        | some (s', t') => goF ok st n s' t'
        | none => none
theorem goF_run {tb : String → Option Builtin} {p : Program} {w : World} {n₀ : Nat} {ann : Option Value} : ∀ {n : Nat} {s s' : SharedT} {t : Thread}, goF (stepOk n₀ ann) (stepT (denote tb) p w) n s t = some s' → topRun tb p w n₀ ann n s.abs t = some s'.abs
  | 0, _, _, _, h => by cases h
  | n + 1, s, s', t, h => by
    unfold goF at h
    unfold topRun
    cases he : through t with
    | true => rw [he] at h; cases h; rfl
    | false =>
      rw [he] at h
      cases hk : stepOk n₀ ann t with
      | false => rw [hk] at h; cases h
      | true =>
        rw [hk] at h
        cases hs : stepT (denote tb) p w s t with
        | none => rw [hs] at h; cases h
        | some r => obtain ⟨s₂, t₂⟩ := r; rw [hs] at h; rw [stepT_spec hs]; exact goF_run h
def tins : Nat → BT → List Obj → BT
  | _, t, [] => t
  | n, t, o :: r => tins (n + 1) (t.ins n o) r
noncomputable def S0T (w : World) (os : OsState) : SharedT := ⟨tins 0 .nil (boot_heap w.params).objs.toList, (boot_heap w.params).objs.size, (boot_heap w.params).life, Array.mk [], boot_drawn, boot_toks, os⟩
theorem S0T_abs : ∀ (w : World) (os : OsState), (S0T w os).abs = ⟨boot_heap w.params, Array.mk [], boot_drawn, boot_toks, os⟩ := fun w os => by kernel_rfl
noncomputable def seenAll (w : World) (s₁ : Shared) := ((staticsOk (importedModules pw.main.body) (boot_heap w.params) s₁.heap && namesBound pw s₁.heap && gensDone s₁ && laidKept (boot_heap w.params) s₁.heap), openSeen qv [Str.ofString "gather"] (importedModules pw.main.body) Xt0 true s₁, HK.obs s₁)
noncomputable def seenAllQ (w : World) (s₁ : Shared) := ((staticsOk (importedModules pw.main.body) (boot_heap w.params) s₁.heap && namesBound pw s₁.heap && gensDone s₁ && laidKept (boot_heap w.params) s₁.heap), PySem.W.Fast.tw4187177175401517315 qv [Str.ofString "gather"] (importedModules pw.main.body) Xt0 true s₁, HK.obs s₁)
theorem seen_eq : seenAll = seenAllQ := by
  unfold seenAll seenAllQ
  rw [PySem.W.Fast.te4187177175401517315]
theorem pw_runQ : ∀ (w : World) (os : OsState), (goF (PySem.W.Fast.tw6613529449190102663 (boot_heap w.params).objs.size ((boot_heap w.params).nsMap mainGlobals "__annotations__")) (PySem.W.Fast.tw10156331382660048174 (PySem.W.Fast.tw11892475500146522536 PySem.W.Fast.tw14364793385576792824) pw w) 2300 (S0T w os) (topStub pw)).map
      (fun s₁ => seenAllQ w s₁.abs) = some (true, openGood qv [Str.ofString "gather"], HK.val w) := fun w os => by kernel_rfl
theorem pw_run : ∀ (w : World) (os : OsState), (topRun treeTable pw w (boot_heap w.params).objs.size ((boot_heap w.params).nsMap mainGlobals "__annotations__") 2300 ⟨boot_heap w.params, Array.mk [], boot_drawn, boot_toks, os⟩ (topStub pw)).map (seenAll w) = some (true, openGood qv [Str.ofString "gather"], HK.val w) := fun w os => by
  have x := pw_runQ w os
  rw [← PySem.W.Fast.te6613529449190102663, ← PySem.W.Fast.te10156331382660048174, ← PySem.W.Fast.te11892475500146522536, ← PySem.W.Fast.te14364793385576792824, ← seen_eq] at x
  obtain ⟨sT, r, x⟩ := Option.map_eq_some_iff.mp x
  rw [← S0T_abs, goF_run r]
  exact congrArg some x
theorem pw_left : LeftO pw qv [Str.ofString "gather"] Xt0 HK.obs HK.val 2300 := leftO_of pw_open pw_size pw_run
end Mine

theorem PySem.Challenge.cw_pb0176_01_holds : PySem.Challenge.rw_pb0176_01.Holds := by
  w_on
  o_law
  refine holds_open (q := Mine.qv) (loose := [Str.ofString "gather"]) (Xt := Mine.Xt0) (XP := XL Mine.qv []) (Yf := Hook.obs Mine.HK) (Ya := Hook.val Mine.HK) (YP := Hook.says Mine.HK) (N := 2300) Mine.pw_left (Hook.of Mine.HK) (Hook.keeps Mine.HK) (fun s e => xl_of s (Bool.and_eq_true_iff.mp e).1) XL.keeps (by rfl) (by rfl) (by rfl) (fun s e => recFacts_of (Bool.and_eq_true_iff.mp e).2) (by rfl) (by first | assumption | decide +kernel) (by decide +kernel) ⟨rfl, rfl, rfl, rfl, rfl, by decide +kernel⟩ ?hw ?hc
  case hw => w_witness2
  case hc =>
    intro w s₀ s₁ mg mb G Y fa o pm cd doc dV kV ho hd hcd hD hmg hg args vals as hpre hlay hrd hwl hlo
    have KX := kIn_of Y
    k_behind G ho hd hcd hD hmg hpre hlay hrd hwl hlo cd
    rename_i h1 tk1 F o3 o2 o1 hc3 hc2 hc1 N0 X0
    refine Mine.FIN (by assumption) (by assumption) (by assumption) (by assumption) (by assumption) F ?_ N0 ?_ ?_ ?_ (by assumption) ?_ ?_ ?_ ?_
    · exact rfl
    · exact hc1
    · exact hc2
    · exact hc3
    · exact rfl
    · exact rfl
    · exact rfl
    · intro s' k1 k2 k3
      refine ⟨.inl ⟨.bool true, .bool true, [], rfl, fun _ => rfl, .bool true, ?_, fun _ => ⟨List.nodup_nil, fun _ h => nomatch h⟩⟩, k1, k2, k3⟩
      wrow_post
