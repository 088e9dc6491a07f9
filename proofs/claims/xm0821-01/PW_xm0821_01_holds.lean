import PyProof.Rows.All
import Wide.All
import OpenK.AllK
import Wide.FinOn
import PySem.Challenge.RW_xm0821_01

set_option Elab.async false
set_option maxRecDepth 100000
set_option linter.all false
open PySem PySem.W PyProof.Rows
namespace Mine

noncomputable def fP (i : Nat) : PySem.Arguments := match PySem.Challenge.pw_xm0821_01.main.body[i]? with
  | some (.FunctionDef _ p _ _ _ _ _ _ _ _) => p
  | _ => { posonlyargs := [], args := [], vararg := none, kwonlyargs := [], kw_defaults := [], kwarg := none, defaults := [] }
noncomputable def fB (i : Nat) : List PySem.Stmt := match PySem.Challenge.pw_xm0821_01.main.body[i]? with
  | some (.FunctionDef _ _ b _ _ _ _ _ _ _) => b
  | _ => []
noncomputable def fS (i : Nat) : PySem.Scope := match PySem.Challenge.pw_xm0821_01.main.body[i]? with
  | some (.FunctionDef _ _ _ _ _ _ s _ _ _) => s
  | _ => { kind := .function, names := [], isGenerator := false, isCoroutine := false }
noncomputable def cBody (i : Nat) : List PySem.Stmt := match PySem.Challenge.pw_xm0821_01.main.body[i]? with
  | some (.ClassDef _ _ _ b _ _ _ _ _ _ _) => b
  | _ => []
noncomputable def mP (i j : Nat) : PySem.Arguments := match (cBody i)[j]? with
  | some (.FunctionDef _ p _ _ _ _ _ _ _ _) => p
  | _ => { posonlyargs := [], args := [], vararg := none, kwonlyargs := [], kw_defaults := [], kwarg := none, defaults := [] }
noncomputable def mB (i j : Nat) : List PySem.Stmt := match (cBody i)[j]? with
  | some (.FunctionDef _ _ b _ _ _ _ _ _ _) => b
  | _ => []
noncomputable def mS (i j : Nat) : PySem.Scope := match (cBody i)[j]? with
  | some (.FunctionDef _ _ _ _ _ _ s _ _ _) => s
  | _ => { kind := .function, names := [], isGenerator := false, isCoroutine := false }
noncomputable def KF : Params → Frag := fun P => (nat_lit 2, { cls := Value.none, data := Data.dict #[{ hash := PyData.keyHash P (Str.ofString "type.__subclasses__.Exception.0"), key := Value.str (Str.ofString "type.__subclasses__.Exception.0") 205, val := Value.int 24 0 }, { hash := PyData.keyHash P (Str.ofString "type.__subclasses__.Exception.n"), key := Value.str (Str.ofString "type.__subclasses__.Exception.n") 206, val := Value.int 1 0 }] 2 }) ::
  (nat_lit 3, { cls := Value.type "dict", data := Data.dict #[{ hash := PyData.keyHash P (Str.ofString "__name__"), key := Value.str (Str.ofString "__name__") 165, val := Value.str (Str.ofString "law_xm0821_01") 502 }, { hash := PyData.keyHash P (Str.ofString "__doc__"), key := Value.str (Str.ofString "__doc__") 166, val := Value.none }, { hash := PyData.keyHash P (Str.ofString "__package__"), key := Value.str (Str.ofString "__package__") 167, val := Value.none }, { hash := PyData.keyHash P (Str.ofString "__loader__"), key := Value.str (Str.ofString "__loader__") 168, val := Value.builtin "__main__.__loader__#opaque" }, { hash := PyData.keyHash P (Str.ofString "__spec__"), key := Value.str (Str.ofString "__spec__") 169, val := Value.none }, { hash := PyData.keyHash P (Str.ofString "__annotations__"), key := Value.str (Str.ofString "__annotations__") 170, val := Value.ref 6 }, { hash := PyData.keyHash P (Str.ofString "__builtins__"), key := Value.str (Str.ofString "__builtins__") 171, val := Value.ref 4 }, { hash := PyData.keyHash P (Str.ofString "__file__"), key := Value.str (Str.ofString "__file__") 173, val := Value.str (Str.ofString "/claim/cut.py") 172 }, { hash := PyData.keyHash P (Str.ofString "__cached__"), key := Value.str (Str.ofString "__cached__") 174, val := Value.none }, { hash := PyData.keyHash P (Str.ofString "KeepError"), key := Value.str (Str.ofString "KeepError") 208, val := Value.ref 24 }, { hash := PyData.keyHash P (Str.ofString "StoreError"), key := Value.str (Str.ofString "StoreError") 224, val := Value.ref 37 }, { hash := PyData.keyHash P (Str.ofString "BadOption"), key := Value.str (Str.ofString "BadOption") 240, val := Value.ref 49 }, { hash := PyData.keyHash P (Str.ofString "RaftError"), key := Value.str (Str.ofString "RaftError") 256, val := Value.ref 61 }, { hash := PyData.keyHash P (Str.ofString "BadConfig"), key := Value.str (Str.ofString "BadConfig") 272, val := Value.ref 73 }, { hash := PyData.keyHash P (Str.ofString "CHECK_CRC"), key := Value.str (Str.ofString "CHECK_CRC") 274, val := Value.int 1 273 }, { hash := PyData.keyHash P (Str.ofString "CHECK_SUM"), key := Value.str (Str.ofString "CHECK_SUM") 276, val := Value.int 2 275 }, { hash := PyData.keyHash P (Str.ofString "LEAST_BLOCK"), key := Value.str (Str.ofString "LEAST_BLOCK") 280, val := Value.int 8 279 }, { hash := PyData.keyHash P (Str.ofString "MOST_BLOCK"), key := Value.str (Str.ofString "MOST_BLOCK") 282, val := Value.int 65542 281 }, { hash := PyData.keyHash P (Str.ofString "MOST_LEVELS"), key := Value.str (Str.ofString "MOST_LEVELS") 284, val := Value.int 12 283 }, { hash := PyData.keyHash P (Str.ofString "Options"), key := Value.str (Str.ofString "Options") 352, val := Value.ref 106 }, { hash := PyData.keyHash P (Str.ofString "check_heights"), key := Value.str (Str.ofString "check_heights") 361, val := Value.ref 117 }, { hash := PyData.keyHash P (Str.ofString "SAFE"), key := Value.str (Str.ofString "SAFE") 363, val := Value.int 0 362 }, { hash := PyData.keyHash P (Str.ofString "LEASE"), key := Value.str (Str.ofString "LEASE") 365, val := Value.int 1 364 }, { hash := PyData.keyHash P (Str.ofString "NONE"), key := Value.str (Str.ofString "NONE") 367, val := Value.int 0 366 }, { hash := PyData.keyHash P (Str.ofString "NO_LIMIT"), key := Value.str (Str.ofString "NO_LIMIT") 369, val := Value.int 18446744073709551615 368 }, { hash := PyData.keyHash P (Str.ofString "RaftConfig"), key := Value.str (Str.ofString "RaftConfig") 425, val := Value.ref 141 }, { hash := PyData.keyHash P (Str.ofString "ONE_LOG"), key := Value.str (Str.ofString "ONE_LOG") 429, val := Value.int 1 428 }, { hash := PyData.keyHash P (Str.ofString "TWO_LOGS"), key := Value.str (Str.ofString "TWO_LOGS") 431, val := Value.int 2 430 }, { hash := PyData.keyHash P (Str.ofString "ReplicaOptions"), key := Value.str (Str.ofString "ReplicaOptions") 501, val := Value.ref 183 }, { hash := PyData.keyHash P (Str.ofString "_law_draw"), key := Value.str (Str.ofString "_law_draw") 511, val := Value.ref 194 }, { hash := PyData.keyHash P (Str.ofString "_law_first"), key := Value.str (Str.ofString "_law_first") 517, val := Value.ref 201 }, { hash := PyData.keyHash P (Str.ofString "_law_small"), key := Value.str (Str.ofString "_law_small") 523, val := Value.ref 208 }, { hash := PyData.keyHash P (Str.ofString "_law_sizes"), key := Value.str (Str.ofString "_law_sizes") 531, val := Value.ref 215 }, { hash := PyData.keyHash P (Str.ofString "_law_told"), key := Value.str (Str.ofString "_law_told") 537, val := Value.ref 220 }, { hash := PyData.keyHash P (Str.ofString "_law_shown"), key := Value.str (Str.ofString "_law_shown") 545, val := Value.ref 227 }, { hash := PyData.keyHash P (Str.ofString "_law_wanted"), key := Value.str (Str.ofString "_law_wanted") 556, val := Value.ref 234 }, { hash := PyData.keyHash P (Str.ofString "_law_same"), key := Value.str (Str.ofString "_law_same") 562, val := Value.ref 239 }, { hash := PyData.keyHash P (Str.ofString "_law_stand"), key := Value.str (Str.ofString "_law_stand") 568, val := Value.ref 244 }, { hash := PyData.keyHash P (Str.ofString "_law_put"), key := Value.str (Str.ofString "_law_put") 578, val := Value.ref 251 }, { hash := PyData.keyHash P (Str.ofString "_law_set"), key := Value.str (Str.ofString "_law_set") 587, val := Value.ref 258 }, { hash := PyData.keyHash P (Str.ofString "_law_other"), key := Value.str (Str.ofString "_law_other") 595, val := Value.ref 265 }, { hash := PyData.keyHash P (Str.ofString "_law_value"), key := Value.str (Str.ofString "_law_value") 603, val := Value.ref 272 }, { hash := PyData.keyHash P (Str.ofString "_law_end"), key := Value.str (Str.ofString "_law_end") 611, val := Value.ref 279 }, { hash := PyData.keyHash P (Str.ofString "_law_edge"), key := Value.str (Str.ofString "_law_edge") 620, val := Value.ref 286 }, { hash := PyData.keyHash P (Str.ofString "_law_stops"), key := Value.str (Str.ofString "_law_stops") 627, val := Value.ref 293 }, { hash := PyData.keyHash P (Str.ofString "_law_unfit"), key := Value.str (Str.ofString "_law_unfit") 636, val := Value.ref 300 }, { hash := PyData.keyHash P (Str.ofString "_law_settled"), key := Value.str (Str.ofString "_law_settled") 642, val := Value.ref 305 }, { hash := PyData.keyHash P (Str.ofString "_law_plain"), key := Value.str (Str.ofString "_law_plain") 649, val := Value.ref 312 }, { hash := PyData.keyHash P (Str.ofString "_law_refused"), key := Value.str (Str.ofString "_law_refused") 656, val := Value.ref 319 }, { hash := PyData.keyHash P (Str.ofString "_law_useless"), key := Value.str (Str.ofString "_law_useless") 663, val := Value.ref 326 }, { hash := PyData.keyHash P (Str.ofString "law"), key := Value.str (Str.ofString "law") 669, val := Value.ref 331 }] 51 }) ::
  (nat_lit 23, { cls := Value.type "dict", data := Data.dict #[{ hash := PyData.keyHash P (Str.ofString "__module__"), key := Value.str (Str.ofString "__module__") 196, val := Value.str (Str.ofString "raftkeep.errors") 187 }, { hash := PyData.keyHash P (Str.ofString "__firstlineno__"), key := Value.str (Str.ofString "__firstlineno__") 200, val := Value.int 2 199 }, { hash := PyData.keyHash P (Str.ofString "__static_attributes__"), key := Value.str (Str.ofString "__static_attributes__") 201, val := Value.ref 22 }, { hash := PyData.keyHash P (Str.ofString "__weakref__"), key := Value.str (Str.ofString "__weakref__") 203, val := Value.ref 25 }, { hash := PyData.keyHash P (Str.ofString "__doc__"), key := Value.str (Str.ofString "__doc__") 204, val := Value.none }] 3 }) ::
  (nat_lit 24, { cls := Value.type "type", data := Data.cls { name := Str.ofString "KeepError", bases := [Value.type "Exception"], mro := [Value.ref 24, Value.type "Exception", Value.type "BaseException", Value.type "object"], ns := 23, qualname := Str.ofString "KeepError", subclasses := [Value.ref 37, Value.ref 61] }, slots := #[some (Value.ref 15), none, some (Value.str (Str.ofString "KeepError") 189), some (Value.str (Str.ofString "KeepError") 197), some (Value.builtin "Exception.__new__"), some (Value.bool true)] }) ::
  (nat_lit 25, { cls := Value.type "getset_descriptor", data := Data.fields #[Value.str (Str.ofString "__weakref__") 202, Value.ref 24, Value.builtin "ExceptionGroup.__weakref__", Value.none] }) ::
  (nat_lit 36, { cls := Value.type "dict", data := Data.dict #[{ hash := PyData.keyHash P (Str.ofString "__module__"), key := Value.str (Str.ofString "__module__") 216, val := Value.str (Str.ofString "raftkeep.errors") 187 }, { hash := PyData.keyHash P (Str.ofString "__firstlineno__"), key := Value.str (Str.ofString "__firstlineno__") 220, val := Value.int 4 219 }, { hash := PyData.keyHash P (Str.ofString "__static_attributes__"), key := Value.str (Str.ofString "__static_attributes__") 221, val := Value.ref 35 }, { hash := PyData.keyHash P (Str.ofString "__doc__"), key := Value.str (Str.ofString "__doc__") 222, val := Value.none }] 2 }) ::
  (nat_lit 37, { cls := Value.type "type", data := Data.cls { name := Str.ofString "StoreError", bases := [Value.ref 24], mro := [Value.ref 37, Value.ref 24, Value.type "Exception", Value.type "BaseException", Value.type "object"], ns := 36, qualname := Str.ofString "StoreError", subclasses := [Value.ref 49] }, slots := #[some (Value.ref 28), none, some (Value.str (Str.ofString "StoreError") 209), some (Value.str (Str.ofString "StoreError") 217), some (Value.builtin "Exception.__new__"), some (Value.bool true)] }) ::
  (nat_lit 48, { cls := Value.type "dict", data := Data.dict #[{ hash := PyData.keyHash P (Str.ofString "__module__"), key := Value.str (Str.ofString "__module__") 232, val := Value.str (Str.ofString "raftkeep.errors") 187 }, { hash := PyData.keyHash P (Str.ofString "__firstlineno__"), key := Value.str (Str.ofString "__firstlineno__") 236, val := Value.int 6 235 }, { hash := PyData.keyHash P (Str.ofString "__static_attributes__"), key := Value.str (Str.ofString "__static_attributes__") 237, val := Value.ref 47 }, { hash := PyData.keyHash P (Str.ofString "__doc__"), key := Value.str (Str.ofString "__doc__") 238, val := Value.none }] 2 }) ::
  (nat_lit 49, { cls := Value.type "type", data := Data.cls { name := Str.ofString "BadOption", bases := [Value.ref 37], mro := [Value.ref 49, Value.ref 37, Value.ref 24, Value.type "Exception", Value.type "BaseException", Value.type "object"], ns := 48, qualname := Str.ofString "BadOption" }, slots := #[some (Value.ref 40), none, some (Value.str (Str.ofString "BadOption") 225), some (Value.str (Str.ofString "BadOption") 233), some (Value.builtin "Exception.__new__"), some (Value.bool true)] }) ::
  (nat_lit 60, { cls := Value.type "dict", data := Data.dict #[{ hash := PyData.keyHash P (Str.ofString "__module__"), key := Value.str (Str.ofString "__module__") 248, val := Value.str (Str.ofString "raftkeep.errors") 187 }, { hash := PyData.keyHash P (Str.ofString "__firstlineno__"), key := Value.str (Str.ofString "__firstlineno__") 252, val := Value.int 8 251 }, { hash := PyData.keyHash P (Str.ofString "__static_attributes__"), key := Value.str (Str.ofString "__static_attributes__") 253, val := Value.ref 59 }, { hash := PyData.keyHash P (Str.ofString "__doc__"), key := Value.str (Str.ofString "__doc__") 254, val := Value.none }] 2 }) ::
  (nat_lit 61, { cls := Value.type "type", data := Data.cls { name := Str.ofString "RaftError", bases := [Value.ref 24], mro := [Value.ref 61, Value.ref 24, Value.type "Exception", Value.type "BaseException", Value.type "object"], ns := 60, qualname := Str.ofString "RaftError", subclasses := [Value.ref 73] }, slots := #[some (Value.ref 52), none, some (Value.str (Str.ofString "RaftError") 241), some (Value.str (Str.ofString "RaftError") 249), some (Value.builtin "Exception.__new__"), some (Value.bool true)] }) ::
  (nat_lit 72, { cls := Value.type "dict", data := Data.dict #[{ hash := PyData.keyHash P (Str.ofString "__module__"), key := Value.str (Str.ofString "__module__") 264, val := Value.str (Str.ofString "raftkeep.errors") 187 }, { hash := PyData.keyHash P (Str.ofString "__firstlineno__"), key := Value.str (Str.ofString "__firstlineno__") 268, val := Value.int 10 267 }, { hash := PyData.keyHash P (Str.ofString "__static_attributes__"), key := Value.str (Str.ofString "__static_attributes__") 269, val := Value.ref 71 }, { hash := PyData.keyHash P (Str.ofString "__doc__"), key := Value.str (Str.ofString "__doc__") 270, val := Value.none }] 2 }) ::
  (nat_lit 73, { cls := Value.type "type", data := Data.cls { name := Str.ofString "BadConfig", bases := [Value.ref 61], mro := [Value.ref 73, Value.ref 61, Value.ref 24, Value.type "Exception", Value.type "BaseException", Value.type "object"], ns := 72, qualname := Str.ofString "BadConfig" }, slots := #[some (Value.ref 64), none, some (Value.str (Str.ofString "BadConfig") 257), some (Value.str (Str.ofString "BadConfig") 265), some (Value.builtin "Exception.__new__"), some (Value.bool true)] }) ::
  (nat_lit 88, { cls := Value.type "code", data := Data.fields #[Value.str (Str.ofString "__init__") 297, Value.str (Str.ofString "Options.__init__") 298, Value.str (Str.ofString "/claim/cut.py") 299, Value.int 20 0, Value.int 1 0, Value.int 0 0, Value.int 0 0, Value.int 3 0, Value.ref 83, Value.bool true, Value.int 181 0, Value.ref 84, Value.none, Value.ref 85, Value.ref 86, Value.ref 87, Value.int 301 0, Value.int 20 0, Value.str (Str.ofString "/claim/cut.py") 302] }) ::
  (nat_lit 89, { cls := Value.type "function", data := Data.func { name := Str.ofString "__init__", qualname := Str.ofString "Options.__init__", params := mP 12 0, body := .stmts (mB 12 0), scope := mS 12 0, globals := 3, closure := [], defaults := Value.none, kwdefaults := Value.none, pyModule := Value.str (Str.ofString "raftkeep.keys") 277, code := Value.ref 88 } }) ::
  (nat_lit 95, { cls := Value.type "code", data := Data.fields #[Value.str (Str.ofString "check_all") 304, Value.str (Str.ofString "Options.check_all") 305, Value.str (Str.ofString "/claim/cut.py") 306, Value.int 43 0, Value.int 1 0, Value.int 0 0, Value.int 0 0, Value.int 3 0, Value.ref 90, Value.bool true, Value.int 181 0, Value.ref 91, Value.none, Value.ref 92, Value.ref 93, Value.ref 94, Value.int 314 0, Value.int 43 0, Value.str (Str.ofString "/claim/cut.py") 315] }) ::
  (nat_lit 96, { cls := Value.type "function", data := Data.func { name := Str.ofString "check_all", qualname := Str.ofString "Options.check_all", params := mP 12 1, body := .stmts (mB 12 1), scope := mS 12 1, globals := 3, closure := [], defaults := Value.none, kwdefaults := Value.none, pyModule := Value.str (Str.ofString "raftkeep.keys") 277, code := Value.ref 95 } }) ::
  (nat_lit 102, { cls := Value.type "code", data := Data.fields #[Value.str (Str.ofString "tiny") 317, Value.str (Str.ofString "Options.tiny") 318, Value.str (Str.ofString "/claim/cut.py") 319, Value.int 58 0, Value.int 1 0, Value.int 0 0, Value.int 0 0, Value.int 3 0, Value.ref 97, Value.bool true, Value.int 181 0, Value.ref 98, Value.none, Value.ref 99, Value.ref 100, Value.ref 101, Value.int 321 0, Value.int 58 0, Value.str (Str.ofString "/claim/cut.py") 322] }) ::
  (nat_lit 103, { cls := Value.type "function", data := Data.func { name := Str.ofString "tiny", qualname := Str.ofString "Options.tiny", params := mP 12 2, body := .stmts (mB 12 2), scope := mS 12 2, globals := 3, closure := [], defaults := Value.none, kwdefaults := Value.none, pyModule := Value.str (Str.ofString "raftkeep.keys") 277, code := Value.ref 102 } }) ::
  (nat_lit 105, { cls := Value.type "dict", data := Data.dict #[{ hash := PyData.keyHash P (Str.ofString "__module__"), key := Value.str (Str.ofString "__module__") 292, val := Value.str (Str.ofString "raftkeep.keys") 277 }, { hash := PyData.keyHash P (Str.ofString "__firstlineno__"), key := Value.str (Str.ofString "__firstlineno__") 296, val := Value.int 18 295 }, { hash := PyData.keyHash P (Str.ofString "__init__"), key := Value.str (Str.ofString "__init__") 303, val := Value.ref 89 }, { hash := PyData.keyHash P (Str.ofString "check_all"), key := Value.str (Str.ofString "check_all") 316, val := Value.ref 96 }, { hash := PyData.keyHash P (Str.ofString "tiny"), key := Value.str (Str.ofString "tiny") 323, val := Value.ref 103 }, { hash := PyData.keyHash P (Str.ofString "__static_attributes__"), key := Value.str (Str.ofString "__static_attributes__") 345, val := Value.ref 104 }, { hash := PyData.keyHash P (Str.ofString "__dict__"), key := Value.str (Str.ofString "__dict__") 347, val := Value.ref 107 }, { hash := PyData.keyHash P (Str.ofString "__weakref__"), key := Value.str (Str.ofString "__weakref__") 349, val := Value.ref 108 }, { hash := PyData.keyHash P (Str.ofString "__doc__"), key := Value.str (Str.ofString "__doc__") 350, val := Value.none }] 4 }) ::
  (nat_lit 106, { cls := Value.type "type", data := Data.cls { name := Str.ofString "Options", bases := [Value.type "object"], mro := [Value.ref 106, Value.type "object"], ns := 105, qualname := Str.ofString "Options" }, slots := #[none, none, some (Value.str (Str.ofString "Options") 285), some (Value.str (Str.ofString "Options") 293), some (Value.builtin "object.__new__"), some (Value.bool true)] }) ::
  (nat_lit 107, { cls := Value.type "getset_descriptor", data := Data.fields #[Value.str (Str.ofString "__dict__") 346, Value.ref 106, Value.builtin "function.__dict__", Value.builtin "function.__dict__#set"] }) ::
  (nat_lit 108, { cls := Value.type "getset_descriptor", data := Data.fields #[Value.str (Str.ofString "__weakref__") 348, Value.ref 106, Value.builtin "ExceptionGroup.__weakref__", Value.none] }) ::
  (nat_lit 116, { cls := Value.type "code", data := Data.fields #[Value.str (Str.ofString "check_heights") 353, Value.str (Str.ofString "check_heights") 354, Value.str (Str.ofString "/claim/cut.py") 355, Value.int 74 0, Value.int 2 0, Value.int 0 0, Value.int 0 0, Value.int 3 0, Value.ref 111, Value.bool true, Value.int 181 0, Value.ref 112, Value.none, Value.ref 113, Value.ref 114, Value.ref 115, Value.int 359 0, Value.int 74 0, Value.str (Str.ofString "/claim/cut.py") 360] }) ::
  (nat_lit 117, { cls := Value.type "function", data := Data.func { name := Str.ofString "check_heights", qualname := Str.ofString "check_heights", params := fP 13, body := .stmts (fB 13), scope := fS 13, globals := 3, closure := [], defaults := Value.none, kwdefaults := Value.none, pyModule := Value.str (Str.ofString "raftkeep.keys") 277, code := Value.ref 116 } }) ::
  (nat_lit 130, { cls := Value.type "code", data := Data.fields #[Value.str (Str.ofString "__init__") 384, Value.str (Str.ofString "RaftConfig.__init__") 385, Value.str (Str.ofString "/claim/cut.py") 386, Value.int 87 0, Value.int 5 0, Value.int 0 0, Value.int 0 0, Value.int 3 0, Value.ref 125, Value.bool true, Value.int 181 0, Value.ref 126, Value.none, Value.ref 127, Value.ref 128, Value.ref 129, Value.int 392 0, Value.int 87 0, Value.str (Str.ofString "/claim/cut.py") 393] }) ::
  (nat_lit 131, { cls := Value.type "function", data := Data.func { name := Str.ofString "__init__", qualname := Str.ofString "RaftConfig.__init__", params := mP 19 0, body := .stmts (mB 19 0), scope := mS 19 0, globals := 3, closure := [], defaults := Value.none, kwdefaults := Value.none, pyModule := Value.str (Str.ofString "raftkeep.core") 370, code := Value.ref 130 } }) ::
  (nat_lit 137, { cls := Value.type "code", data := Data.fields #[Value.str (Str.ofString "check_all") 395, Value.str (Str.ofString "RaftConfig.check_all") 396, Value.str (Str.ofString "/claim/cut.py") 397, Value.int 105 0, Value.int 1 0, Value.int 0 0, Value.int 0 0, Value.int 3 0, Value.ref 132, Value.bool true, Value.int 181 0, Value.ref 133, Value.none, Value.ref 134, Value.ref 135, Value.ref 136, Value.int 399 0, Value.int 105 0, Value.str (Str.ofString "/claim/cut.py") 400] }) ::
  (nat_lit 138, { cls := Value.type "function", data := Data.func { name := Str.ofString "check_all", qualname := Str.ofString "RaftConfig.check_all", params := mP 19 1, body := .stmts (mB 19 1), scope := mS 19 1, globals := 3, closure := [], defaults := Value.none, kwdefaults := Value.none, pyModule := Value.str (Str.ofString "raftkeep.core") 370, code := Value.ref 137 } }) ::
  (nat_lit 140, { cls := Value.type "dict", data := Data.dict #[{ hash := PyData.keyHash P (Str.ofString "__module__"), key := Value.str (Str.ofString "__module__") 379, val := Value.str (Str.ofString "raftkeep.core") 370 }, { hash := PyData.keyHash P (Str.ofString "__firstlineno__"), key := Value.str (Str.ofString "__firstlineno__") 383, val := Value.int 85 382 }, { hash := PyData.keyHash P (Str.ofString "__init__"), key := Value.str (Str.ofString "__init__") 394, val := Value.ref 131 }, { hash := PyData.keyHash P (Str.ofString "check_all"), key := Value.str (Str.ofString "check_all") 401, val := Value.ref 138 }, { hash := PyData.keyHash P (Str.ofString "__static_attributes__"), key := Value.str (Str.ofString "__static_attributes__") 418, val := Value.ref 139 }, { hash := PyData.keyHash P (Str.ofString "__dict__"), key := Value.str (Str.ofString "__dict__") 420, val := Value.ref 142 }, { hash := PyData.keyHash P (Str.ofString "__weakref__"), key := Value.str (Str.ofString "__weakref__") 422, val := Value.ref 143 }, { hash := PyData.keyHash P (Str.ofString "__doc__"), key := Value.str (Str.ofString "__doc__") 423, val := Value.none }] 4 }) ::
  (nat_lit 141, { cls := Value.type "type", data := Data.cls { name := Str.ofString "RaftConfig", bases := [Value.type "object"], mro := [Value.ref 141, Value.type "object"], ns := 140, qualname := Str.ofString "RaftConfig" }, slots := #[none, none, some (Value.str (Str.ofString "RaftConfig") 372), some (Value.str (Str.ofString "RaftConfig") 380), some (Value.builtin "object.__new__"), some (Value.bool true)] }) ::
  (nat_lit 142, { cls := Value.type "getset_descriptor", data := Data.fields #[Value.str (Str.ofString "__dict__") 419, Value.ref 141, Value.builtin "function.__dict__", Value.builtin "function.__dict__#set"] }) ::
  (nat_lit 143, { cls := Value.type "getset_descriptor", data := Data.fields #[Value.str (Str.ofString "__weakref__") 421, Value.ref 141, Value.builtin "ExceptionGroup.__weakref__", Value.none] }) ::
  (nat_lit 158, { cls := Value.type "code", data := Data.fields #[Value.str (Str.ofString "__init__") 444, Value.str (Str.ofString "ReplicaOptions.__init__") 445, Value.str (Str.ofString "/claim/cut.py") 446, Value.int 135 0, Value.int 1 0, Value.int 0 0, Value.int 0 0, Value.int 3 0, Value.ref 153, Value.bool true, Value.int 181 0, Value.ref 154, Value.none, Value.ref 155, Value.ref 156, Value.ref 157, Value.int 448 0, Value.int 135 0, Value.str (Str.ofString "/claim/cut.py") 449] }) ::
  (nat_lit 159, { cls := Value.type "function", data := Data.func { name := Str.ofString "__init__", qualname := Str.ofString "ReplicaOptions.__init__", params := mP 23 0, body := .stmts (mB 23 0), scope := mS 23 0, globals := 3, closure := [], defaults := Value.none, kwdefaults := Value.none, pyModule := Value.str (Str.ofString "raftkeep.replica") 426, code := Value.ref 158 } }) ::
  (nat_lit 165, { cls := Value.type "code", data := Data.fields #[Value.str (Str.ofString "check_all") 451, Value.str (Str.ofString "ReplicaOptions.check_all") 452, Value.str (Str.ofString "/claim/cut.py") 453, Value.int 154 0, Value.int 1 0, Value.int 0 0, Value.int 0 0, Value.int 3 0, Value.ref 160, Value.bool true, Value.int 181 0, Value.ref 161, Value.none, Value.ref 162, Value.ref 163, Value.ref 164, Value.int 455 0, Value.int 154 0, Value.str (Str.ofString "/claim/cut.py") 456] }) ::
  (nat_lit 166, { cls := Value.type "function", data := Data.func { name := Str.ofString "check_all", qualname := Str.ofString "ReplicaOptions.check_all", params := mP 23 1, body := .stmts (mB 23 1), scope := mS 23 1, globals := 3, closure := [], defaults := Value.none, kwdefaults := Value.none, pyModule := Value.str (Str.ofString "raftkeep.replica") 426, code := Value.ref 165 } }) ::
  (nat_lit 172, { cls := Value.type "code", data := Data.fields #[Value.str (Str.ofString "copy") 458, Value.str (Str.ofString "ReplicaOptions.copy") 459, Value.str (Str.ofString "/claim/cut.py") 460, Value.int 162 0, Value.int 1 0, Value.int 0 0, Value.int 0 0, Value.int 3 0, Value.ref 167, Value.bool true, Value.int 181 0, Value.ref 168, Value.none, Value.ref 169, Value.ref 170, Value.ref 171, Value.int 463 0, Value.int 162 0, Value.str (Str.ofString "/claim/cut.py") 464] }) ::
  (nat_lit 173, { cls := Value.type "function", data := Data.func { name := Str.ofString "copy", qualname := Str.ofString "ReplicaOptions.copy", params := mP 23 2, body := .stmts (mB 23 2), scope := mS 23 2, globals := 3, closure := [], defaults := Value.none, kwdefaults := Value.none, pyModule := Value.str (Str.ofString "raftkeep.replica") 426, code := Value.ref 172 } }) ::
  (nat_lit 179, { cls := Value.type "code", data := Data.fields #[Value.str (Str.ofString "raft_config") 466, Value.str (Str.ofString "ReplicaOptions.raft_config") 467, Value.str (Str.ofString "/claim/cut.py") 468, Value.int 174 0, Value.int 4 0, Value.int 0 0, Value.int 0 0, Value.int 3 0, Value.ref 174, Value.bool true, Value.int 181 0, Value.ref 175, Value.none, Value.ref 176, Value.ref 177, Value.ref 178, Value.int 474 0, Value.int 174 0, Value.str (Str.ofString "/claim/cut.py") 475] }) ::
  (nat_lit 180, { cls := Value.type "function", data := Data.func { name := Str.ofString "raft_config", qualname := Str.ofString "ReplicaOptions.raft_config", params := mP 23 3, body := .stmts (mB 23 3), scope := mS 23 3, globals := 3, closure := [], defaults := Value.none, kwdefaults := Value.none, pyModule := Value.str (Str.ofString "raftkeep.replica") 426, code := Value.ref 179 } }) ::
  (nat_lit 182, { cls := Value.type "dict", data := Data.dict #[{ hash := PyData.keyHash P (Str.ofString "__module__"), key := Value.str (Str.ofString "__module__") 439, val := Value.str (Str.ofString "raftkeep.replica") 426 }, { hash := PyData.keyHash P (Str.ofString "__firstlineno__"), key := Value.str (Str.ofString "__firstlineno__") 443, val := Value.int 133 442 }, { hash := PyData.keyHash P (Str.ofString "__init__"), key := Value.str (Str.ofString "__init__") 450, val := Value.ref 159 }, { hash := PyData.keyHash P (Str.ofString "check_all"), key := Value.str (Str.ofString "check_all") 457, val := Value.ref 166 }, { hash := PyData.keyHash P (Str.ofString "copy"), key := Value.str (Str.ofString "copy") 465, val := Value.ref 173 }, { hash := PyData.keyHash P (Str.ofString "raft_config"), key := Value.str (Str.ofString "raft_config") 476, val := Value.ref 180 }, { hash := PyData.keyHash P (Str.ofString "__static_attributes__"), key := Value.str (Str.ofString "__static_attributes__") 494, val := Value.ref 181 }, { hash := PyData.keyHash P (Str.ofString "__dict__"), key := Value.str (Str.ofString "__dict__") 496, val := Value.ref 184 }, { hash := PyData.keyHash P (Str.ofString "__weakref__"), key := Value.str (Str.ofString "__weakref__") 498, val := Value.ref 185 }, { hash := PyData.keyHash P (Str.ofString "__doc__"), key := Value.str (Str.ofString "__doc__") 499, val := Value.none }] 4 }) ::
  (nat_lit 183, { cls := Value.type "type", data := Data.cls { name := Str.ofString "ReplicaOptions", bases := [Value.type "object"], mro := [Value.ref 183, Value.type "object"], ns := 182, qualname := Str.ofString "ReplicaOptions" }, slots := #[none, none, some (Value.str (Str.ofString "ReplicaOptions") 432), some (Value.str (Str.ofString "ReplicaOptions") 440), some (Value.builtin "object.__new__"), some (Value.bool true)] }) ::
  (nat_lit 184, { cls := Value.type "getset_descriptor", data := Data.fields #[Value.str (Str.ofString "__dict__") 495, Value.ref 183, Value.builtin "function.__dict__", Value.builtin "function.__dict__#set"] }) ::
  (nat_lit 185, { cls := Value.type "getset_descriptor", data := Data.fields #[Value.str (Str.ofString "__weakref__") 497, Value.ref 183, Value.builtin "ExceptionGroup.__weakref__", Value.none] }) ::
  (nat_lit 193, { cls := Value.type "code", data := Data.fields #[Value.str (Str.ofString "_law_draw") 504, Value.str (Str.ofString "_law_draw") 505, Value.str (Str.ofString "/claim/cut.py") 506, Value.int 188 0, Value.int 2 0, Value.int 0 0, Value.int 0 0, Value.int 3 0, Value.ref 188, Value.bool true, Value.int 181 0, Value.ref 189, Value.none, Value.ref 190, Value.ref 191, Value.ref 192, Value.int 509 0, Value.int 188 0, Value.str (Str.ofString "/claim/cut.py") 510] }) ::
  (nat_lit 194, { cls := Value.type "function", data := Data.func { name := Str.ofString "_law_draw", qualname := Str.ofString "_law_draw", params := fP 25, body := .stmts (fB 25), scope := fS 25, globals := 3, closure := [], defaults := Value.none, kwdefaults := Value.none, pyModule := Value.str (Str.ofString "law_xm0821_01") 502, code := Value.ref 193 } }) ::
  (nat_lit 200, { cls := Value.type "code", data := Data.fields #[Value.str (Str.ofString "_law_first") 512, Value.str (Str.ofString "_law_first") 513, Value.str (Str.ofString "/claim/cut.py") 514, Value.int 190 0, Value.int 0 0, Value.int 0 0, Value.int 0 0, Value.int 3 0, Value.ref 195, Value.bool true, Value.int 181 0, Value.ref 196, Value.none, Value.ref 197, Value.ref 198, Value.ref 199, Value.int 515 0, Value.int 190 0, Value.str (Str.ofString "/claim/cut.py") 516] }) ::
  (nat_lit 201, { cls := Value.type "function", data := Data.func { name := Str.ofString "_law_first", qualname := Str.ofString "_law_first", params := fP 26, body := .stmts (fB 26), scope := fS 26, globals := 3, closure := [], defaults := Value.none, kwdefaults := Value.none, pyModule := Value.str (Str.ofString "law_xm0821_01") 502, code := Value.ref 200 } }) ::
  (nat_lit 207, { cls := Value.type "code", data := Data.fields #[Value.str (Str.ofString "_law_small") 518, Value.str (Str.ofString "_law_small") 519, Value.str (Str.ofString "/claim/cut.py") 520, Value.int 192 0, Value.int 0 0, Value.int 0 0, Value.int 0 0, Value.int 3 0, Value.ref 202, Value.bool true, Value.int 181 0, Value.ref 203, Value.none, Value.ref 204, Value.ref 205, Value.ref 206, Value.int 521 0, Value.int 192 0, Value.str (Str.ofString "/claim/cut.py") 522] }) ::
  (nat_lit 208, { cls := Value.type "function", data := Data.func { name := Str.ofString "_law_small", qualname := Str.ofString "_law_small", params := fP 27, body := .stmts (fB 27), scope := fS 27, globals := 3, closure := [], defaults := Value.none, kwdefaults := Value.none, pyModule := Value.str (Str.ofString "law_xm0821_01") 502, code := Value.ref 207 } }) ::
  (nat_lit 214, { cls := Value.type "code", data := Data.fields #[Value.str (Str.ofString "_law_sizes") 524, Value.str (Str.ofString "_law_sizes") 525, Value.str (Str.ofString "/claim/cut.py") 526, Value.int 194 0, Value.int 1 0, Value.int 0 0, Value.int 0 0, Value.int 3 0, Value.ref 209, Value.bool true, Value.int 181 0, Value.ref 210, Value.none, Value.ref 211, Value.ref 212, Value.ref 213, Value.int 529 0, Value.int 194 0, Value.str (Str.ofString "/claim/cut.py") 530] }) ::
  (nat_lit 215, { cls := Value.type "function", data := Data.func { name := Str.ofString "_law_sizes", qualname := Str.ofString "_law_sizes", params := fP 28, body := .stmts (fB 28), scope := fS 28, globals := 3, closure := [], defaults := Value.none, kwdefaults := Value.none, pyModule := Value.str (Str.ofString "law_xm0821_01") 502, code := Value.ref 214 } }) ::
  (nat_lit 219, { cls := Value.type "code", data := Data.fields #[Value.str (Str.ofString "_law_told") 532, Value.str (Str.ofString "_law_told") 533, Value.str (Str.ofString "/claim/cut.py") 534, Value.int 199 0, Value.int 2 0, Value.int 0 0, Value.int 0 0, Value.int 3 0, Value.ref 216, Value.bool true, Value.int 181 0, Value.ref 217, Value.none, Value.none, Value.none, Value.ref 218, Value.int 535 0, Value.int 199 0, Value.str (Str.ofString "/claim/cut.py") 536] }) ::
  (nat_lit 220, { cls := Value.type "function", data := Data.func { name := Str.ofString "_law_told", qualname := Str.ofString "_law_told", params := fP 29, body := .stmts (fB 29), scope := fS 29, globals := 3, closure := [], defaults := Value.none, kwdefaults := Value.none, pyModule := Value.str (Str.ofString "law_xm0821_01") 502, code := Value.ref 219 } }) ::
  (nat_lit 226, { cls := Value.type "code", data := Data.fields #[Value.str (Str.ofString "_law_shown") 538, Value.str (Str.ofString "_law_shown") 539, Value.str (Str.ofString "/claim/cut.py") 540, Value.int 204 0, Value.int 1 0, Value.int 0 0, Value.int 0 0, Value.int 3 0, Value.ref 221, Value.bool true, Value.int 181 0, Value.ref 222, Value.none, Value.ref 223, Value.ref 224, Value.ref 225, Value.int 543 0, Value.int 204 0, Value.str (Str.ofString "/claim/cut.py") 544] }) ::
  (nat_lit 227, { cls := Value.type "function", data := Data.func { name := Str.ofString "_law_shown", qualname := Str.ofString "_law_shown", params := fP 30, body := .stmts (fB 30), scope := fS 30, globals := 3, closure := [], defaults := Value.none, kwdefaults := Value.none, pyModule := Value.str (Str.ofString "law_xm0821_01") 502, code := Value.ref 226 } }) ::
  (nat_lit 233, { cls := Value.type "code", data := Data.fields #[Value.str (Str.ofString "_law_wanted") 546, Value.str (Str.ofString "_law_wanted") 547, Value.str (Str.ofString "/claim/cut.py") 548, Value.int 208 0, Value.int 4 0, Value.int 0 0, Value.int 0 0, Value.int 3 0, Value.ref 228, Value.bool true, Value.int 181 0, Value.ref 229, Value.none, Value.ref 230, Value.ref 231, Value.ref 232, Value.int 554 0, Value.int 208 0, Value.str (Str.ofString "/claim/cut.py") 555] }) ::
  (nat_lit 234, { cls := Value.type "function", data := Data.func { name := Str.ofString "_law_wanted", qualname := Str.ofString "_law_wanted", params := fP 31, body := .stmts (fB 31), scope := fS 31, globals := 3, closure := [], defaults := Value.none, kwdefaults := Value.none, pyModule := Value.str (Str.ofString "law_xm0821_01") 502, code := Value.ref 233 } }) ::
  (nat_lit 238, { cls := Value.type "code", data := Data.fields #[Value.str (Str.ofString "_law_same") 557, Value.str (Str.ofString "_law_same") 558, Value.str (Str.ofString "/claim/cut.py") 559, Value.int 211 0, Value.int 2 0, Value.int 0 0, Value.int 0 0, Value.int 3 0, Value.ref 235, Value.bool true, Value.int 181 0, Value.ref 236, Value.none, Value.none, Value.none, Value.ref 237, Value.int 560 0, Value.int 211 0, Value.str (Str.ofString "/claim/cut.py") 561] }) ::
  (nat_lit 239, { cls := Value.type "function", data := Data.func { name := Str.ofString "_law_same", qualname := Str.ofString "_law_same", params := fP 32, body := .stmts (fB 32), scope := fS 32, globals := 3, closure := [], defaults := Value.none, kwdefaults := Value.none, pyModule := Value.str (Str.ofString "law_xm0821_01") 502, code := Value.ref 238 } }) ::
  (nat_lit 243, { cls := Value.type "code", data := Data.fields #[Value.str (Str.ofString "_law_stand") 563, Value.str (Str.ofString "_law_stand") 564, Value.str (Str.ofString "/claim/cut.py") 565, Value.int 213 0, Value.int 3 0, Value.int 0 0, Value.int 0 0, Value.int 3 0, Value.ref 240, Value.bool true, Value.int 181 0, Value.ref 241, Value.none, Value.none, Value.none, Value.ref 242, Value.int 566 0, Value.int 213 0, Value.str (Str.ofString "/claim/cut.py") 567] }) ::
  (nat_lit 244, { cls := Value.type "function", data := Data.func { name := Str.ofString "_law_stand", qualname := Str.ofString "_law_stand", params := fP 33, body := .stmts (fB 33), scope := fS 33, globals := 3, closure := [], defaults := Value.none, kwdefaults := Value.none, pyModule := Value.str (Str.ofString "law_xm0821_01") 502, code := Value.ref 243 } }) ::
  (nat_lit 250, { cls := Value.type "code", data := Data.fields #[Value.str (Str.ofString "_law_put") 569, Value.str (Str.ofString "_law_put") 570, Value.str (Str.ofString "/claim/cut.py") 571, Value.int 215 0, Value.int 4 0, Value.int 0 0, Value.int 0 0, Value.int 3 0, Value.ref 245, Value.bool true, Value.int 181 0, Value.ref 246, Value.none, Value.ref 247, Value.ref 248, Value.ref 249, Value.int 576 0, Value.int 215 0, Value.str (Str.ofString "/claim/cut.py") 577] }) ::
  (nat_lit 251, { cls := Value.type "function", data := Data.func { name := Str.ofString "_law_put", qualname := Str.ofString "_law_put", params := fP 34, body := .stmts (fB 34), scope := fS 34, globals := 3, closure := [], defaults := Value.none, kwdefaults := Value.none, pyModule := Value.str (Str.ofString "law_xm0821_01") 502, code := Value.ref 250 } }) ::
  (nat_lit 257, { cls := Value.type "code", data := Data.fields #[Value.str (Str.ofString "_law_set") 579, Value.str (Str.ofString "_law_set") 580, Value.str (Str.ofString "/claim/cut.py") 581, Value.int 251 0, Value.int 3 0, Value.int 0 0, Value.int 0 0, Value.int 3 0, Value.ref 252, Value.bool true, Value.int 181 0, Value.ref 253, Value.none, Value.ref 254, Value.ref 255, Value.ref 256, Value.int 585 0, Value.int 251 0, Value.str (Str.ofString "/claim/cut.py") 586] }) ::
  (nat_lit 258, { cls := Value.type "function", data := Data.func { name := Str.ofString "_law_set", qualname := Str.ofString "_law_set", params := fP 35, body := .stmts (fB 35), scope := fS 35, globals := 3, closure := [], defaults := Value.none, kwdefaults := Value.none, pyModule := Value.str (Str.ofString "law_xm0821_01") 502, code := Value.ref 257 } }) ::
  (nat_lit 264, { cls := Value.type "code", data := Data.fields #[Value.str (Str.ofString "_law_other") 588, Value.str (Str.ofString "_law_other") 589, Value.str (Str.ofString "/claim/cut.py") 590, Value.int 285 0, Value.int 2 0, Value.int 0 0, Value.int 0 0, Value.int 3 0, Value.ref 259, Value.bool true, Value.int 181 0, Value.ref 260, Value.none, Value.ref 261, Value.ref 262, Value.ref 263, Value.int 593 0, Value.int 285 0, Value.str (Str.ofString "/claim/cut.py") 594] }) ::
  (nat_lit 265, { cls := Value.type "function", data := Data.func { name := Str.ofString "_law_other", qualname := Str.ofString "_law_other", params := fP 36, body := .stmts (fB 36), scope := fS 36, globals := 3, closure := [], defaults := Value.none, kwdefaults := Value.none, pyModule := Value.str (Str.ofString "law_xm0821_01") 502, code := Value.ref 264 } }) ::
  (nat_lit 271, { cls := Value.type "code", data := Data.fields #[Value.str (Str.ofString "_law_value") 596, Value.str (Str.ofString "_law_value") 597, Value.str (Str.ofString "/claim/cut.py") 598, Value.int 301 0, Value.int 2 0, Value.int 0 0, Value.int 0 0, Value.int 3 0, Value.ref 266, Value.bool true, Value.int 181 0, Value.ref 267, Value.none, Value.ref 268, Value.ref 269, Value.ref 270, Value.int 601 0, Value.int 301 0, Value.str (Str.ofString "/claim/cut.py") 602] }) ::
  (nat_lit 272, { cls := Value.type "function", data := Data.func { name := Str.ofString "_law_value", qualname := Str.ofString "_law_value", params := fP 37, body := .stmts (fB 37), scope := fS 37, globals := 3, closure := [], defaults := Value.none, kwdefaults := Value.none, pyModule := Value.str (Str.ofString "law_xm0821_01") 502, code := Value.ref 271 } }) ::
  (nat_lit 278, { cls := Value.type "code", data := Data.fields #[Value.str (Str.ofString "_law_end") 604, Value.str (Str.ofString "_law_end") 605, Value.str (Str.ofString "/claim/cut.py") 606, Value.int 317 0, Value.int 2 0, Value.int 0 0, Value.int 0 0, Value.int 3 0, Value.ref 273, Value.bool true, Value.int 181 0, Value.ref 274, Value.none, Value.ref 275, Value.ref 276, Value.ref 277, Value.int 609 0, Value.int 317 0, Value.str (Str.ofString "/claim/cut.py") 610] }) ::
  (nat_lit 279, { cls := Value.type "function", data := Data.func { name := Str.ofString "_law_end", qualname := Str.ofString "_law_end", params := fP 38, body := .stmts (fB 38), scope := fS 38, globals := 3, closure := [], defaults := Value.none, kwdefaults := Value.none, pyModule := Value.str (Str.ofString "law_xm0821_01") 502, code := Value.ref 278 } }) ::
  (nat_lit 285, { cls := Value.type "code", data := Data.fields #[Value.str (Str.ofString "_law_edge") 612, Value.str (Str.ofString "_law_edge") 613, Value.str (Str.ofString "/claim/cut.py") 614, Value.int 327 0, Value.int 3 0, Value.int 0 0, Value.int 0 0, Value.int 3 0, Value.ref 280, Value.bool true, Value.int 181 0, Value.ref 281, Value.none, Value.ref 282, Value.ref 283, Value.ref 284, Value.int 618 0, Value.int 327 0, Value.str (Str.ofString "/claim/cut.py") 619] }) ::
  (nat_lit 286, { cls := Value.type "function", data := Data.func { name := Str.ofString "_law_edge", qualname := Str.ofString "_law_edge", params := fP 39, body := .stmts (fB 39), scope := fS 39, globals := 3, closure := [], defaults := Value.none, kwdefaults := Value.none, pyModule := Value.str (Str.ofString "law_xm0821_01") 502, code := Value.ref 285 } }) ::
  (nat_lit 292, { cls := Value.type "code", data := Data.fields #[Value.str (Str.ofString "_law_stops") 621, Value.str (Str.ofString "_law_stops") 622, Value.str (Str.ofString "/claim/cut.py") 623, Value.int 347 0, Value.int 1 0, Value.int 0 0, Value.int 0 0, Value.int 3 0, Value.ref 287, Value.bool true, Value.int 181 0, Value.ref 288, Value.none, Value.ref 289, Value.ref 290, Value.ref 291, Value.int 625 0, Value.int 347 0, Value.str (Str.ofString "/claim/cut.py") 626] }) ::
  (nat_lit 293, { cls := Value.type "function", data := Data.func { name := Str.ofString "_law_stops", qualname := Str.ofString "_law_stops", params := fP 40, body := .stmts (fB 40), scope := fS 40, globals := 3, closure := [], defaults := Value.none, kwdefaults := Value.none, pyModule := Value.str (Str.ofString "law_xm0821_01") 502, code := Value.ref 292 } }) ::
  (nat_lit 299, { cls := Value.type "code", data := Data.fields #[Value.str (Str.ofString "_law_unfit") 628, Value.str (Str.ofString "_law_unfit") 629, Value.str (Str.ofString "/claim/cut.py") 630, Value.int 349 0, Value.int 1 0, Value.int 0 0, Value.int 0 0, Value.int 3 0, Value.ref 294, Value.bool true, Value.int 181 0, Value.ref 295, Value.none, Value.ref 296, Value.ref 297, Value.ref 298, Value.int 634 0, Value.int 349 0, Value.str (Str.ofString "/claim/cut.py") 635] }) ::
  (nat_lit 300, { cls := Value.type "function", data := Data.func { name := Str.ofString "_law_unfit", qualname := Str.ofString "_law_unfit", params := fP 41, body := .stmts (fB 41), scope := fS 41, globals := 3, closure := [], defaults := Value.none, kwdefaults := Value.none, pyModule := Value.str (Str.ofString "law_xm0821_01") 502, code := Value.ref 299 } }) ::
  (nat_lit 304, { cls := Value.type "code", data := Data.fields #[Value.str (Str.ofString "_law_settled") 637, Value.str (Str.ofString "_law_settled") 638, Value.str (Str.ofString "/claim/cut.py") 639, Value.int 356 0, Value.int 1 0, Value.int 0 0, Value.int 0 0, Value.int 3 0, Value.ref 301, Value.bool true, Value.int 181 0, Value.ref 302, Value.none, Value.none, Value.none, Value.ref 303, Value.int 640 0, Value.int 356 0, Value.str (Str.ofString "/claim/cut.py") 641] }) ::
  (nat_lit 305, { cls := Value.type "function", data := Data.func { name := Str.ofString "_law_settled", qualname := Str.ofString "_law_settled", params := fP 42, body := .stmts (fB 42), scope := fS 42, globals := 3, closure := [], defaults := Value.none, kwdefaults := Value.none, pyModule := Value.str (Str.ofString "law_xm0821_01") 502, code := Value.ref 304 } }) ::
  (nat_lit 311, { cls := Value.type "code", data := Data.fields #[Value.str (Str.ofString "_law_plain") 643, Value.str (Str.ofString "_law_plain") 644, Value.str (Str.ofString "/claim/cut.py") 645, Value.int 365 0, Value.int 1 0, Value.int 0 0, Value.int 0 0, Value.int 3 0, Value.ref 306, Value.bool true, Value.int 181 0, Value.ref 307, Value.none, Value.ref 308, Value.ref 309, Value.ref 310, Value.int 647 0, Value.int 365 0, Value.str (Str.ofString "/claim/cut.py") 648] }) ::
  (nat_lit 312, { cls := Value.type "function", data := Data.func { name := Str.ofString "_law_plain", qualname := Str.ofString "_law_plain", params := fP 43, body := .stmts (fB 43), scope := fS 43, globals := 3, closure := [], defaults := Value.none, kwdefaults := Value.none, pyModule := Value.str (Str.ofString "law_xm0821_01") 502, code := Value.ref 311 } }) ::
  (nat_lit 318, { cls := Value.type "code", data := Data.fields #[Value.str (Str.ofString "_law_refused") 650, Value.str (Str.ofString "_law_refused") 651, Value.str (Str.ofString "/claim/cut.py") 652, Value.int 367 0, Value.int 1 0, Value.int 0 0, Value.int 0 0, Value.int 3 0, Value.ref 313, Value.bool true, Value.int 181 0, Value.ref 314, Value.none, Value.ref 315, Value.ref 316, Value.ref 317, Value.int 654 0, Value.int 367 0, Value.str (Str.ofString "/claim/cut.py") 655] }) ::
  (nat_lit 319, { cls := Value.type "function", data := Data.func { name := Str.ofString "_law_refused", qualname := Str.ofString "_law_refused", params := fP 44, body := .stmts (fB 44), scope := fS 44, globals := 3, closure := [], defaults := Value.none, kwdefaults := Value.none, pyModule := Value.str (Str.ofString "law_xm0821_01") 502, code := Value.ref 318 } }) ::
  (nat_lit 325, { cls := Value.type "code", data := Data.fields #[Value.str (Str.ofString "_law_useless") 657, Value.str (Str.ofString "_law_useless") 658, Value.str (Str.ofString "/claim/cut.py") 659, Value.int 373 0, Value.int 1 0, Value.int 0 0, Value.int 0 0, Value.int 3 0, Value.ref 320, Value.bool true, Value.int 181 0, Value.ref 321, Value.none, Value.ref 322, Value.ref 323, Value.ref 324, Value.int 661 0, Value.int 373 0, Value.str (Str.ofString "/claim/cut.py") 662] }) ::
  (nat_lit 326, { cls := Value.type "function", data := Data.func { name := Str.ofString "_law_useless", qualname := Str.ofString "_law_useless", params := fP 45, body := .stmts (fB 45), scope := fS 45, globals := 3, closure := [], defaults := Value.none, kwdefaults := Value.none, pyModule := Value.str (Str.ofString "law_xm0821_01") 502, code := Value.ref 325 } }) ::
  (nat_lit 330, { cls := Value.type "code", data := Data.fields #[Value.str (Str.ofString "law") 664, Value.str (Str.ofString "law") 665, Value.str (Str.ofString "/claim/cut.py") 666, Value.int 379 0, Value.int 1 0, Value.int 0 0, Value.int 0 0, Value.int 3 0, Value.ref 327, Value.bool true, Value.int 181 0, Value.ref 328, Value.none, Value.none, Value.none, Value.ref 329, Value.int 667 0, Value.int 379 0, Value.str (Str.ofString "/claim/cut.py") 668] }) ::
  (nat_lit 331, { cls := Value.type "function", data := Data.func { name := Str.ofString "law", qualname := Str.ofString "law", params := fP 46, body := .stmts (fB 46), scope := fS 46, globals := 3, closure := [], defaults := Value.none, kwdefaults := Value.none, pyModule := Value.str (Str.ofString "law_xm0821_01") 502, code := Value.ref 330 } }) :: []
noncomputable def KA : List Addr := 2 :: 3 :: 23 :: 24 :: 25 :: 36 :: 37 :: 48 :: 49 :: 60 :: 61 :: 72 :: 73 :: 88 :: 89 :: 95 :: 96 :: 102 :: 103 :: 105 :: 106 :: 107 :: 108 :: 116 :: 117 :: 130 :: 131 :: 137 :: 138 :: 140 :: 141 :: 142 :: 143 :: 158 :: 159 :: 165 :: 166 :: 172 :: 173 :: 179 :: 180 :: 182 :: 183 :: 184 :: 185 :: 193 :: 194 :: 200 :: 201 :: 207 :: 208 :: 214 :: 215 :: 219 :: 220 :: 226 :: 227 :: 233 :: 234 :: 238 :: 239 :: 243 :: 244 :: 250 :: 251 :: 257 :: 258 :: 264 :: 265 :: 271 :: 272 :: 278 :: 279 :: 285 :: 286 :: 292 :: 293 :: 299 :: 300 :: 304 :: 305 :: 311 :: 312 :: 318 :: 319 :: 325 :: 326 :: 330 :: 331 :: []
noncomputable def QV : PySem.Program := PySem.W.view PySem.Challenge.pw_xm0821_01 [1, 2, 3, 4, 5, 6, 7, 9, 10, 11, 12, 13, 14, 15, 16, 17, 19, 21, 22, 23, 25, 26, 27, 28, 29, 30, 31, 32, 33, 34, 35, 36, 37, 38, 39, 40, 41, 42, 43, 44, 45, 46]
theorem kaKF (P : Params) : KA = (KF P).map (·.1) := by kernel_rfl
noncomputable def HK : Hook := kHook KF KA kaKF
noncomputable def lhsP (p q : PySem.Program) (rr : WRecords) (w : World) := (openEnds treeTable p w 5738).map (fun s => (openSeen q [] (importedModules p.main.body) (fun s => xlAt q [] s && recOk rr s) true s, KA.map s.heap.get?))
theorem lhsP_self : lhsP = lhsP := rfl

end Mine
lay_quick Mine.lhsP
name_quick Mine.lhsPT for Mine.lhsP by Mine.lhsP_self
namespace Mine
theorem left_run (w : World) : PySem.W.Fast.Mine.lhsPT PySem.Challenge.pw_xm0821_01 QV (RowW.records PySem.Challenge.rw_xm0821_01.row.toRowW) w = some (openGood QV [], (KF w.params).map fun p => some p.2) := by
  kernel_rfl
theorem left_all (w : World) : lhsP PySem.Challenge.pw_xm0821_01 QV (RowW.records PySem.Challenge.rw_xm0821_01.row.toRowW) w = some (openGood QV [], (KF w.params).map fun p => some p.2) := by
  rw [PySem.W.Fast.Mine.lhsPT_eq]
  exact left_run w
theorem left : LeftO PySem.Challenge.rw_xm0821_01.row.prog QV [] (fun s => xlAt QV [] s && recOk (RowW.records PySem.Challenge.rw_xm0821_01.row.toRowW) s) (Hook.obs HK) (Hook.val HK) 5738 := fun w => left_all w

noncomputable def fPos (i : Nat) : PySem.Pos := match PySem.Challenge.pw_xm0821_01.main.body[i]? with
  | some (.FunctionDef _ _ _ _ _ _ _ _ _ p) => p
  | _ => default
noncomputable def dLaw : DefRec := { name := Str.ofString "law", params := fP 46, body := fB 46, scope := fS 46, pos := fPos 46 }
theorem h1 : defOf QV PySem.Challenge.rw_xm0821_01.row.name = some (dLaw, []) := by kernel_rfl
theorem h2 : PySem.Challenge.rw_xm0821_01.row.prog.theDef PySem.Challenge.rw_xm0821_01.row.name = some (dLaw.params, dLaw.body, dLaw.scope) := by kernel_rfl
theorem h3 : (chainsOk QV && opensWell PySem.Challenge.rw_xm0821_01.row.prog && (frees PySem.Challenge.rw_xm0821_01.row.toRowW && PySem.Challenge.rw_xm0821_01.row.within.isEmpty)) = true := by kernel_rfl
theorem h4 : kwWritten? dLaw.params.kwonlyargs dLaw.params.kw_defaults = some [] := by kernel_rfl
theorem h5 : PySem.Challenge.rw_xm0821_01.row.prog.bare := ⟨rfl, rfl, rfl, rfl, rfl, by decide +kernel⟩
set_option maxHeartbeats 4000000 in
theorem ws : OpenLaw.wellSaid PySem.Challenge.rw_xm0821_01 = true := by
  unfold OpenLaw.wellSaid OpenRow.wellSaid OpenRow.partSaid looksOpen
  repeat' with_reducible refine look_both ?_ ?_
  all_goals decide +kernel
set_option maxHeartbeats 4000000 in
theorem hd (call : WalkO QV [] (XL QV []) (Hook.says (kHook KF KA kaKF)) PySem.Challenge.rw_xm0821_01.row.toRowW dLaw [] fun f vs => PySem.call f vs) : PySem.Challenge.rw_xm0821_01.Holds := by
  w_on
  refine holds_law ws fun said => ?_
  refine holds_open (q := QV) (loose := []) (XP := XL QV []) (YP := Hook.says (kHook KF KA kaKF)) left (Hook.of HK) (Hook.keeps HK) (fun s e => xl_of s (Bool.and_eq_true_iff.mp e).1) XL.keeps h1 h2 h4 (fun s e => recFacts_of (Bool.and_eq_true_iff.mp e).2) (by rfl) (by assumption) h3 h5 ?hw call
  case hw => w_witness2

noncomputable def Ctr (w : World) (dn ut : Nat) (news : List (Addr × Obj)) (f : Addr) (args : List Value) (Post : Value → List (Addr × Obj) → Prop) : Prop :=
  ∀ (mean : ExcName → Option Value) (mg mb : Str → Option Value) (dp un : Nat) (gd : Option (List Code)) (cn : Str) (cs : Scope) (a : Addr) (ccd : Value) (cl : List (Str × Addr)) (outer : List Env) (A₀ : Around) (base h₀ : Heap) (L : Addr) (m : Str → Option Value) (s : Shared) (Q E : Value → Shared → Prop),
    Below A₀ base outer h₀ → Fr h₀ L s.heap m → (KF w.params).In h₀ → News h₀ L s.heap news → Top QV (looseW QV []) mean mg mb h₀ → cs.kind = .function → dp + dn < recursionLimit → un + ut < cLine →
    (∀ v h' tk' news', Fr h₀ L h' m → News h₀ L h' news' → Post v news' → Q v { s with heap := h', toks := tk' }) →
    wpAny (model PySem.Challenge.rw_xm0821_01.row.prog w) (ktrTop dp un gd cn cs L a ccd cl outer) (call (.ref f) args) Q E s

theorem newsSub {h₀ h : Heap} {L : Addr} {a b : List (Addr × Obj)} (N : News h₀ L h a) (hs : ∀ p ∈ b, p ∈ a) : News h₀ L h b := fun q hq => N _ (hs _ hq)
theorem canLay_ints : ∀ ns : List Int, PyData.canLayAll0 (ns.map PyData.int) = true
  | [] => rfl
  | _ :: r => by simp [PyData.canLayAll0, PyData.canLay0, canLay_ints r]
theorem depth_ints : ∀ ns : List Int, PyData.depthAll (ns.map PyData.int) = 0
  | [] => rfl
  | _ :: r => by simp [PyData.depthAll, PyData.depth, depth_ints r]
noncomputable def setL (N : List (Addr × Obj)) (d : Addr) (o' : Obj) : List (Addr × Obj) := N.map fun p => if p.1 = d then (d, o') else p
theorem setL_keep {N : List (Addr × Obj)} {d : Addr} {o' : Obj} {p : Addr × Obj} (h : p ∈ N) (hn : p.1 ≠ d) : p ∈ setL N d o' :=
  List.mem_map.mpr ⟨p, h, by rw [if_neg hn]⟩
theorem setL_self {N : List (Addr × Obj)} {d : Addr} {o o' : Obj} (h : (d, o) ∈ N) : (d, o') ∈ setL N d o' :=
  List.mem_map.mpr ⟨(d, o), h, by rw [if_pos rfl]⟩
theorem setL_cases {N : List (Addr × Obj)} {d : Addr} {o' : Obj} {p : Addr × Obj} (h : p ∈ setL N d o') : p = (d, o') ∨ (p ∈ N ∧ p.1 ≠ d) := by
  obtain ⟨q, hq, e⟩ := List.mem_map.mp h
  by_cases hd : q.1 = d
  · rw [if_pos hd] at e; exact .inl e.symm
  · rw [if_neg hd] at e; subst e; exact .inr ⟨hq, hd⟩
theorem newsCut {h₀ h : Heap} {L : Addr} {N : List (Addr × Obj)} {d : Addr} {o : Obj} (n : News h₀ L h N) (hd : (d, o) ∈ N) :
    ∃ rest, (∀ p ∈ rest, p.1 ≠ d) ∧ News h₀ L h ((d, o) :: rest) ∧ (∀ p ∈ N, p.1 ≠ d → p ∈ rest) ∧ ∀ p ∈ rest, p ∈ N := by
  refine ⟨N.filter fun p => decide (p.1 ≠ d), fun p hp => by simpa using (List.mem_filter.mp hp).2, fun p hp => ?_, fun p hp hn => List.mem_filter.mpr ⟨hp, by simpa using hn⟩, fun p hp => (List.mem_filter.mp hp).1⟩
  rcases List.mem_cons.mp hp with rfl | hp
  · exact n _ hd
  · exact n _ (List.mem_filter.mp hp).1
theorem newsSet {h₀ h : Heap} {L : Addr} {N rest : List (Addr × Obj)} {d : Addr} {o' : Obj} (n : News h₀ L h ((d, o') :: rest)) (hr : ∀ p ∈ N, p.1 ≠ d → p ∈ rest) : News h₀ L h (setL N d o') := by
  intro p hp
  rcases setL_cases hp with rfl | ⟨hp, hn⟩
  · exact n _ (.head _)
  · exact n _ (.tail _ (hr p hp hn))
abbrev PG := PySem.Challenge.rw_xm0821_01.row.prog
abbrev Led := List (Addr × Obj)
abbrev Loc := PySem.Str → Option Value
structure Cx where
  w : World
  mean : ExcName → Option Value
  mg : Loc
  mb : Loc
  dp : Nat
  un : Nat
  gd : Option (List Code)
  cn : PySem.Str
  cs : Scope
  L : Addr
  a : Addr
  ccd : Value
  cl : List (PySem.Str × Addr)
  outer : List Env
  A₀ : Around
  base : Heap
  h₀ : Heap
noncomputable abbrev Cx.A (c : Cx) : Around := ktrTop c.dp c.un c.gd c.cn c.cs c.L c.a c.ccd c.cl c.outer
noncomputable abbrev Cx.env (c : Cx) : Env := envX c.cn c.cs c.L c.a c.ccd c.cl
structure Cx.Ok (c : Cx) : Prop where
  B : Below c.A₀ c.base c.outer c.h₀
  X : (KF c.w.params).In c.h₀
  T : Top QV (looseW QV []) c.mean c.mg c.mb c.h₀
  hk : c.cs.kind = .function
noncomputable def Sub (N N' : Led) : Prop := ∀ p ∈ N, p ∈ N'
theorem Sub.rfl {N : Led} : Sub N N := fun _ h => h
theorem Sub.trans {A B C : Led} (h : Sub A B) (k : Sub B C) : Sub A C := fun p hp => k p (h p hp)
theorem Sub.one {N : Led} {p : Addr × Obj} : Sub N (p :: N) := fun _ h => .tail _ h

section
variable {c : Cx} {env : Env} {m : Loc} {N : Led} {e a b : PySem.Expr} {es : List PySem.Expr} {p : Pos} {R R' : Led → Value → Prop} {x y : Int} {u v : Value} {bb bc : Bool}
variable {ss : List PySem.Stmt} {Rn : Loc → Led → Prop} {Rr : Value → Led → Prop}
end

structure Rs where
  mean : ExcName → Option Value
  mg : Loc
  mb : Loc
  dp : Nat
  un : Nat
  gd : Option (List Code)
  L : Addr
  outer : List Env
  A₀ : Around
  base : Heap
  h₀ : Heap
noncomputable abbrev mkCx (w : World) (qual : PySem.Str) (scope : Scope) (f : Addr) (ccd : Value) (cl : List (PySem.Str × Addr)) (k : Rs) : Cx :=
  { w := w, mean := k.mean, mg := k.mg, mb := k.mb, dp := k.dp, un := k.un, gd := k.gd, cn := qual, cs := scope, L := k.L, a := f, ccd := ccd, cl := cl, outer := k.outer, A₀ := k.A₀, base := k.base, h₀ := k.h₀ }
section
variable {c : Cx} {env : Env} {m : Loc} {N : Led} {e a b : PySem.Expr} {es : List PySem.Expr} {p : Pos} {R R' : Led → Value → Prop} {ss : List PySem.Stmt}
theorem call_ctr {f : Addr} {vs : List Value} {dn ut : Nat} {Post : Value → Led → Prop} (ok : c.Ok) (h : Ctr c.w dn ut N f vs Post) (h1 : c.dp + dn < recursionLimit) (h2 : c.un + ut < cLine) {Q E : Value → Shared → Prop} {s : Shared} (F : Fr c.h₀ c.L s.heap m) (n : News c.h₀ c.L s.heap N)
    (q : ∀ v h' tk' N', Fr c.h₀ c.L h' m → News c.h₀ c.L h' N' → Post v N' → Q v { s with heap := h', toks := tk' }) : wpAny (model PG c.w) c.A (call (.ref f) vs) Q E s :=
  h _ _ _ _ _ _ _ _ _ _ _ _ _ _ _ _ _ _ _ _ ok.B F ok.X n ok.T ok.hk h1 h2 q
end

inductive Bi where
  | len | isi | min | any | all | range | bool
noncomputable def Bi.val : Bi → Value
  | .len => .builtin "len"
  | .isi => .builtin "isinstance"
  | .min => .builtin "min"
  | .any => .builtin "any"
  | .all => .builtin "all"
  | .range => .type "range"
  | .bool => .type "bool"
noncomputable def Bi.str : Bi → PySem.Str
  | .len => Str.ofString "len"
  | .isi => Str.ofString "isinstance"
  | .min => Str.ofString "min"
  | .any => Str.ofString "any"
  | .all => Str.ofString "all"
  | .range => Str.ofString "range"
  | .bool => Str.ofString "bool"
inductive V where
  | none | bool (b : Bool) | int (n : Int) | ref (i : Nat) | glob (a : Nat) | ty (b : Bi)
  | tup (vs : List V) | lst (vs : List V) | rng (n : Int)
inductive O where
  | lst (vs : List V) | inst (C : Nat) (fs : List (PySem.Str × V)) | hole
abbrev AS := List O
abbrev Lc := List (PySem.Str × V)
abbrev KV := V → AS → Prop
inductive Cell where
  | l (a : Addr) | o (a d : Addr) | dead (a : Addr)
noncomputable def Cell.adr : Cell → Addr
  | .l a => a
  | .o a _ => a
  | .dead a => a
noncomputable def Cell.adrs : Cell → List Addr
  | .l a => [a]
  | .o a d => [a, d]
  | .dead _ => []
noncomputable def Ext (ρ ρ' : List Cell) : Prop := ∀ (i : Nat) (c : Cell), ρ[i]? = some c → ∃ c', ρ'[i]? = some c' ∧ c'.adr = c.adr
theorem Ext.rfl {ρ : List Cell} : Ext ρ ρ := fun i c h => ⟨c, h, Eq.refl _⟩
theorem Ext.trans {a b d : List Cell} (h : Ext a b) (k : Ext b d) : Ext a d := fun i c e => by
  obtain ⟨c1, e1, a1⟩ := h i c e
  obtain ⟨c2, e2, a2⟩ := k i c1 e1
  exact ⟨c2, e2, a2.trans a1⟩
theorem Ext.app {ρ : List Cell} {r : List Cell} : Ext ρ (ρ ++ r) := fun i c h => ⟨c, by
  rw [List.getElem?_append_left (List.getElem?_eq_some_iff.mp h).1]
  exact h, Eq.refl _⟩
noncomputable def adrs (ρ : List Cell) : List Addr := ρ.flatMap Cell.adrs
noncomputable abbrev tupOf (us : List Value) (cc : Nat) : Obj := { cls := .type "tuple", data := .seq us.toArray cc }
noncomputable abbrev rngOf (n : Int) (t u v : Tok) : Obj := { cls := .type "range", dict := none, data := .fields #[.int 0 t, .int n u, .int 1 v], slots := #[] }

structure ZL where
  v : Led
  w : Led
noncomputable def ZL.all (Z : ZL) : Led := Z.v ++ Z.w
noncomputable abbrev ZL.add (Z : ZL) (p : Addr × Obj) : ZL := ⟨p :: Z.v, Z.w⟩
noncomputable def SubZ (Z Z' : ZL) : Prop := Sub Z.v Z'.v ∧ Sub Z.w Z'.w
theorem SubZ.rfl {Z : ZL} : SubZ Z Z := ⟨Sub.rfl, Sub.rfl⟩
theorem SubZ.trans {a b d : ZL} (h : SubZ a b) (k : SubZ b d) : SubZ a d := ⟨h.1.trans k.1, h.2.trans k.2⟩
theorem SubZ.one {Z : ZL} {p : Addr × Obj} : SubZ Z (Z.add p) := ⟨Sub.one, Sub.rfl⟩
theorem SubZ.all {Z Z' : ZL} (h : SubZ Z Z') : Sub Z.all Z'.all := fun p hp => by
  rcases List.mem_append.mp hp with hp | hp
  · exact List.mem_append.mpr (.inl (h.1 _ hp))
  · exact List.mem_append.mpr (.inr (h.2 _ hp))
mutual
inductive VR (ρ : List Cell) (Z : ZL) : Value → V → Prop
  | none : VR ρ Z .none .none
  | bool (b : Bool) : VR ρ Z (.bool b) (.bool b)
  | int (n : Int) (t : Tok) : VR ρ Z (.int n t) (.int n)
  | ref {i : Nat} {c : Cell} (h : ρ[i]? = some c) : VR ρ Z (.ref c.adr) (.ref i)
  | glob (a : Addr) : VR ρ Z (.ref a) (.glob a)
  | ty (b : Bi) : VR ρ Z b.val (.ty b)
  | tup {a : Addr} {us : List Value} {cc : Nat} {vs : List V} (hm : (a, tupOf us cc) ∈ Z.v) (h : VRs ρ Z us vs) : VR ρ Z (.ref a) (.tup vs)
  | lst {a : Addr} {us : List Value} {cc : Nat} {vs : List V} (hm : (a, listOf us.toArray cc) ∈ Z.v) (h : VRs ρ Z us vs) : VR ρ Z (.ref a) (.lst vs)
  | rng {a : Addr} {n : Int} {t u v : Tok} (hm : (a, rngOf n t u v) ∈ Z.v) : VR ρ Z (.ref a) (.rng n)
inductive VRs (ρ : List Cell) (Z : ZL) : List Value → List V → Prop
  | nil : VRs ρ Z [] []
  | cons {u : Value} {v : V} {us : List Value} {vs : List V} (a : VR ρ Z u v) (b : VRs ρ Z us vs) : VRs ρ Z (u :: us) (v :: vs)
end
inductive FR (P : Params) (ρ : List Cell) (Z : ZL) : List DictEntry → List (PySem.Str × V) → Prop
  | nil : FR P ρ Z [] []
  | cons {n : PySem.Str} {k : Tok} {u : Value} {v : V} {es : List DictEntry} {fs : List (PySem.Str × V)} (a : VR ρ Z u v) (b : FR P ρ Z es fs) : FR P ρ Z (⟨PyData.keyHash P n, .str n k, u⟩ :: es) ((n, v) :: fs)
structure ClsOk (P : Params) (C : Addr) : Prop where
  get : plainGet (KF P) C (Str.ofString "") = true
  dict : hasDictIn (KF P) C = true
  over : plainOver (KF P) C = true
  setA : findIn (KF P) (.ref C) (Str.ofString "__setattr__") = some (some (.builtin "object.__setattr__"))
noncomputable def AtrOk (P : Params) (C : Addr) (x : PySem.Str) : Prop := findIn (KF P) (.ref C) x = some none
noncomputable def OR (P : Params) (ρ : List Cell) (Z : ZL) (N : Led) : Cell → O → Prop
  | .l a, .lst vs => ∃ us cc, (a, listOf us.toArray cc) ∈ N ∧ VRs ρ Z us vs
  | .o a d, .inst C fs => (a, instObj C d) ∈ N ∧ (ClsOk P C ∧ ∀ p ∈ fs, AtrOk P C p.1) ∧ ∃ es, (d, dictOf es fs.length) ∈ N ∧ FR P ρ Z es fs
  | .dead _, .hole => True
  | _, _ => False
structure Rel (P : Params) (ρ : List Cell) (S : AS) (Z : ZL) (N : Led) : Prop where
  len : ρ.length = S.length
  own : ∀ (i : Nat) (c : Cell) (o : O), ρ[i]? = some c → S[i]? = some o → OR P ρ Z N c o
  sub : Sub Z.all N
  nodup : (adrs ρ).Nodup
  off : ∀ p ∈ Z.all, p.1 ∉ adrs ρ
  inN : ∀ b ∈ adrs ρ, ∃ o, (b, o) ∈ N
  vw : ∀ p ∈ Z.v, ∀ q ∈ Z.w, p.1 ≠ q.1

theorem Rel.v {P : Params} {ρ : List Cell} {S : AS} {Z : ZL} {N : Led} (r : Rel P ρ S Z N) : Sub Z.v N := fun p hp => r.sub p (List.mem_append.mpr (.inl hp))
mutual
theorem VR.monoV {ρ ρ' : List Cell} {Z Z' : ZL} (h1 : Ext ρ ρ') (h2 : Sub Z.v Z'.v) : ∀ {u : Value} {v : V}, VR ρ Z u v → VR ρ' Z' u v
  | _, _, .none => .none
  | _, _, .bool b => .bool b
  | _, _, .int n t => .int n t
  | _, _, .ref h => by
      obtain ⟨c', e', a'⟩ := h1 _ _ h
      rw [← a']
      exact .ref e'
  | _, _, .glob a => .glob a
  | _, _, .ty s => .ty s
  | _, _, .tup hm h => .tup (h2 _ hm) (VRs.monoV h1 h2 h)
  | _, _, .lst hm h => .lst (h2 _ hm) (VRs.monoV h1 h2 h)
  | _, _, .rng hm => .rng (h2 _ hm)
theorem VRs.monoV {ρ ρ' : List Cell} {Z Z' : ZL} (h1 : Ext ρ ρ') (h2 : Sub Z.v Z'.v) : ∀ {u : List Value} {v : List V}, VRs ρ Z u v → VRs ρ' Z' u v
  | _, _, .nil => .nil
  | _, _, .cons a b => .cons (VR.monoV h1 h2 a) (VRs.monoV h1 h2 b)
end
theorem VR.mono {ρ ρ' : List Cell} {Z Z' : ZL} (h1 : Ext ρ ρ') (h2 : SubZ Z Z') {u : Value} {v : V} (h : VR ρ Z u v) : VR ρ' Z' u v := h.monoV h1 h2.1
theorem VRs.mono {ρ ρ' : List Cell} {Z Z' : ZL} (h1 : Ext ρ ρ') (h2 : SubZ Z Z') {u : List Value} {v : List V} (h : VRs ρ Z u v) : VRs ρ' Z' u v := h.monoV h1 h2.1
theorem FR.mono {P : Params} {ρ ρ' : List Cell} {Z Z' : ZL} (h1 : Ext ρ ρ') (h2 : SubZ Z Z') : ∀ {es : List DictEntry} {fs : List (PySem.Str × V)}, FR P ρ Z es fs → FR P ρ' Z' es fs
  | _, _, .nil => .nil
  | _, _, .cons a b => .cons (a.mono h1 h2) (b.mono h1 h2)
theorem OR.mono {P : Params} {ρ ρ' : List Cell} {Z Z' : ZL} {N N' : Led} (h1 : Ext ρ ρ') (h2 : SubZ Z Z') (h3 : Sub N N') : ∀ {c : Cell} {o : O}, OR P ρ Z N c o → OR P ρ' Z' N' c o
  | .l a, .lst vs, ⟨us, cc, hm, h⟩ => ⟨us, cc, h3 _ hm, h.mono h1 h2⟩
  | .o a d, .inst C fs, ⟨hm, ic, es, hd, h⟩ => ⟨h3 _ hm, ic, es, h3 _ hd, h.mono h1 h2⟩
  | .dead _, .hole, _ => trivial
theorem VRs.length {ρ : List Cell} {Z : ZL} : ∀ {u : List Value} {v : List V}, VRs ρ Z u v → u.length = v.length
  | _, _, .nil => rfl
  | _, _, .cons a b => congrArg Nat.succ b.length
theorem VRs.get {ρ : List Cell} {Z : ZL} : ∀ {us : List Value} {vs : List V}, VRs ρ Z us vs → ∀ {i : Nat} {v : V}, vs[i]? = some v → ∃ u, us[i]? = some u ∧ VR ρ Z u v
  | _, _, .nil, _, _, h => by simp at h
  | _, _, .cons a b, 0, _, h => by
    rw [List.getElem?_cons_zero] at h
    cases h
    exact ⟨_, rfl, a⟩
  | _, _, .cons a b, i + 1, _, h => by
    rw [List.getElem?_cons_succ] at h
    obtain ⟨u, e, r⟩ := b.get h
    exact ⟨u, by rw [List.getElem?_cons_succ]; exact e, r⟩
theorem VRs.append {ρ : List Cell} {Z : ZL} : ∀ {us us' : List Value} {vs vs' : List V}, VRs ρ Z us vs → VRs ρ Z us' vs' → VRs ρ Z (us ++ us') (vs ++ vs')
  | _, _, _, _, .nil, h => h
  | _, _, _, _, .cons a b, h => .cons a (b.append h)
theorem VRs.set {ρ : List Cell} {Z : ZL} {u : Value} {v : V} (x : VR ρ Z u v) : ∀ {us : List Value} {vs : List V} (i : Nat), VRs ρ Z us vs → VRs ρ Z (us.set i u) (vs.set i v)
  | _, _, _, .nil => .nil
  | _, _, 0, .cons a b => .cons x b
  | _, _, i + 1, .cons a b => .cons a (b.set x i)
theorem VRs.drop {ρ : List Cell} {Z : ZL} : ∀ {us : List Value} {vs : List V} (i : Nat), VRs ρ Z us vs → VRs ρ Z (us.drop i) (vs.drop i)
  | _, _, 0, h => h
  | _, _, _ + 1, .nil => .nil
  | _, _, i + 1, .cons a b => b.drop i
theorem VRs.take {ρ : List Cell} {Z : ZL} : ∀ {us : List Value} {vs : List V} (i : Nat), VRs ρ Z us vs → VRs ρ Z (us.take i) (vs.take i)
  | _, _, 0, _ => .nil
  | _, _, _ + 1, .nil => .nil
  | _, _, i + 1, .cons a b => .cons a (b.take i)
theorem VR.handed {ρ : List Cell} {Z : ZL} {u : Value} {v : V} (h : VR ρ Z u v) : handedIn u = true := by
  cases h with
  | ty b => cases b <;> first | rfl | decide +kernel
  | _ => rfl

mutual
noncomputable def dat0 : V → Option PyData
  | .none => some .none
  | .bool b => some (.bool b)
  | .int n => some (.int n)
  | .tup vs => (dats0 vs).map .tuple
  | .lst vs => (dats0 vs).map .list
  | _ => none
noncomputable def dats0 : List V → Option (List PyData)
  | [] => some []
  | v :: r => (dat0 v).bind fun d => (dats0 r).map (d :: ·)
end
noncomputable def getO : AS → Nat → Option O
  | [], _ => none
  | o :: _, 0 => some o
  | _ :: r, i + 1 => getO r i
noncomputable def putO : AS → Nat → O → AS
  | [], _, _ => []
  | _ :: r, 0, o => o :: r
  | a :: r, i + 1, o => a :: putO r i o
noncomputable def seqOf (S : AS) : V → Option (List V)
  | .lst vs => some vs
  | .ref i => match getO S i with
    | some (.lst vs) => some vs
    | _ => none
  | _ => none
noncomputable def dat (S : AS) : V → Option PyData
  | .ref i => match getO S i with
    | some (.lst vs) => (dats0 vs).map .list
    | _ => none
  | v => dat0 v
noncomputable def fld (x : PySem.Str) : List (PySem.Str × V) → Option V
  | [] => none
  | (y, v) :: r => if x = y then some v else fld x r
noncomputable def setF (x : PySem.Str) (v : V) : List (PySem.Str × V) → List (PySem.Str × V)
  | [] => [(x, v)]
  | (y, u) :: r => if x = y then (y, v) :: r else (y, u) :: setF x v r
noncomputable def isB : V → Bool
  | .bool _ => true
  | _ => false
noncomputable def evs (ev : PySem.Expr → AS → KV → Prop) : List PySem.Expr → AS → (List V → AS → Prop) → Prop
  | [], S, k => k [] S
  | e :: r, S, k => ev e S fun v S' => evs ev r S' fun vs S'' => k (v :: vs) S''
structure Tab where
  cal : Nat → List V → AS → KV → Prop
  mu : Pos → Bool
  glb : PySem.Str → Option V
  mth : Nat → PySem.Str → Option Nat
  atr : Nat → PySem.Str → Bool
  live : Pos → List PySem.Str
structure Ev3 where
  e : Scope → Lc → PySem.Expr → AS → KV → Prop
  t : Scope → Lc → PySem.Expr → AS → (Bool → AS → Prop) → Prop
  x : Scope → Lc → List PySem.Stmt → AS → (Lc → AS → Prop) → KV → Prop
noncomputable def num2 (n : Int) : Bool := decide (-18446744073709551616 < n) && decide (n < 18446744073709551616)
noncomputable def binI (op : Operator) (x y : Int) (S : AS) (k : KV) : Prop :=
  match op with
  | .Add => k (.int (x + y)) S
  | .Sub => k (.int (x - y)) S
  | .Mult => cond (num2 x) (k (.int (x * y)) S) False
  | .Mod => cond (y == 0) False (k (.int (x.fmod y)) S)
  | .FloorDiv => cond (y == 0 || Builtin.divisionGoesByPylong x y) False (k (.int (x.fdiv y)) S)
  | .Pow => cond (decide (0 ≤ y) && decide (y ≤ 100) && x == 2) (k (.int (x ^ y.toNat)) S) False
  | .LShift => cond (decide (0 ≤ y) && decide (y ≤ 100) && x == 1) (k (.int (x * 2 ^ y.toNat)) S) False
  | _ => False
noncomputable def binV (mu : Bool) (op : Operator) (a b : V) (S : AS) (k : KV) : Prop :=
  match a, b with
  | .int x, .int y => binI op x y S k
  | a, b => match op with
    | .Add => match seqOf S a, seqOf S b with
      | some us, some vs => cond (Nat.ble (us.length + vs.length) 1000) (cond mu (k (.ref S.length) (S ++ [.lst (us ++ vs)])) (k (.lst (us ++ vs)) S)) False
      | _, _ => False
    | _ => False
noncomputable def cmpV (op : CmpOp) (a b : V) (S : AS) (k : Bool → AS → Prop) : Prop :=
  match op, a, b with
  | .Lt, .int x, .int y => k (decide (x < y)) S
  | .Gt, .int x, .int y => k (decide (y < x)) S
  | .LtE, .int x, .int y => k (decide (x ≤ y)) S
  | .Eq, .int x, .int y => k (x == y) S
  | .NotEq, .int x, .int y => k (x != y) S
  | .Is, .ref i, .ref j => (match getO S i, getO S j with
    | some (.inst _ _), some (.inst _ _) => k (i == j) S
    | _, _ => False)
  | .Is, .none, .none => k true S
  | .Is, .int _, .none => k false S
  | .NotIn, .int x, .lst [.int y, .int z] => k (!(x == y || x == z)) S
  | .Eq, a, b => match dat S a, dat S b with
    | some x, some y => SeqAt.shaped x = true ∧ SeqAt.shaped y = true ∧ k (PyData.eqv x y) S
    | _, _ => False
  | .NotEq, a, b => match dat S a, dat S b with
    | some x, some y => SeqAt.shaped x = true ∧ SeqAt.shaped y = true ∧ k (!PyData.eqv x y) S
    | _, _ => False
  | _, _, _ => False
noncomputable def compW (ev : V → AS → KV → Prop) : List V → AS → (List V → AS → Prop) → Prop
  | [], S, k => k [] S
  | v :: r, S, k => ev v S fun u S' => compW ev r S' fun us S'' => k (u :: us) S''
noncomputable def compT (ts : V → AS → (Bool → AS → Prop) → Prop) (ev : V → AS → KV → Prop) : List V → AS → (List V → AS → Prop) → Prop
  | [], S, k => k [] S
  | v :: r, S, k => ts v S fun b S' => cond b (ev v S' fun u S'' => compT ts ev r S'' fun us S3 => k (u :: us) S3) (compT ts ev r S' k)
noncomputable def mkL (mu : Bool) (vs : List V) (S : AS) (k : KV) : Prop :=
  cond (Nat.ble vs.length 1000) (cond mu (k (.ref S.length) (S ++ [.lst vs])) (k (.lst vs) S)) False
noncomputable def rngL (n : Int) : List V := (List.range n.toNat).map fun (i : Nat) => V.int (i : Int)
noncomputable def pick : List PySem.Str → Lc → Lc
  | [], _ => []
  | x :: r, l => match fld x l with
    | some v => (x, v) :: pick r l
    | none => pick r l
noncomputable def rm (x : PySem.Str) : Lc → Lc
  | [] => []
  | (y, v) :: r => if x = y then rm x r else (y, v) :: rm x r
noncomputable def forW (pk : Lc → Lc) (body : V → Lc → AS → (Lc → AS → Prop) → KV → Prop) : List V → Lc → AS → (Lc → AS → Prop) → KV → Prop
  | [], l, S, kn, kr => kn (pk l) S
  | v :: r, l, S, kn, kr => body v (pk l) S (fun l' S' => forW pk body r l' S' kn kr) kr
noncomputable def plainE : PySem.Expr → Bool
  | .Starred _ _ => false
  | _ => true
noncomputable def isDat : V → Bool
  | .glob _ => false
  | .ref _ => false
  | .rng _ => false
  | .ty _ => false
  | _ => true
noncomputable def baseOk : PySem.Expr → Bool
  | .Name _ _ => true
  | .Subscript _ _ _ => true
  | .Call (.Name id _) [] [] _ => id != Str.ofString "super"
  | _ => false
noncomputable def noSlice : PySem.Expr → Bool
  | .Slice _ _ _ _ => false
  | _ => true
noncomputable def testOk : PySem.Expr → Bool
  | .Name _ _ => true
  | .Call _ _ _ _ => true
  | .Attribute _ _ _ => true
  | .Subscript _ _ _ => true
  | _ => false
noncomputable def isName : PySem.Expr → Bool
  | .Name _ _ => true
  | _ => false
noncomputable def isCopy (x : PySem.Str) : PySem.Expr → Bool
  | .Name y _ => x == y
  | _ => false
noncomputable def capt (cs : Scope) : Lc → Lc
  | [] => []
  | (y, v) :: r => cond (cs.names.lookup y == some .free) ((y, v) :: capt cs r) (capt cs r)
noncomputable def relab (cs sc : Scope) : Scope :=
  { cs with names := cs.names.map fun (n, k) => if (k == .free && sc.kind == .function && sc.names.lookup n == some .cell) then (n, .cell) else (n, k) }
noncomputable def compOk (sc : Scope) (l : Lc) (cs : Scope) (x : PySem.Str) : Bool :=
  x != Str.ofString "__debug__" && cs.kind == .function && cs.names.lookup x == some .local && cs.names.all fun p => p.2 != .cell && (p.2 != .local || cs.names.lookup p.1 == some .local) && (p.2 != .free || (cs.names.lookup p.1 == some .free && sc.names.lookup p.1 == some .cell && (fld p.1 l).isSome))
noncomputable def notSet : PySem.Expr → Bool
  | .Set _ _ _ => false
  | _ => true
noncomputable def locK (sc : Scope) (x : PySem.Str) : Bool := sc.names.lookup x == some .globalImplicit
noncomputable def CompH (T : Tab) (I : Ev3) (sc : Scope) (l : Lc) (elt : PySem.Expr) (x : PySem.Str) (cs : Scope) (mu : Bool) (k : KV) (v : V) (S1 : AS) : Prop :=
  match v with
    | .ref i => (match getO S1 i with
      | some (.lst us) => cond (Nat.ble us.length 1000) (cond (isCopy x elt) (mkL mu us S1 k) (match elt with
        | .Call (.Name f _) [.Name y _, .Name b _] [] _ => cond (x == y && locK (relab cs sc) f && locK (relab cs sc) b && us.all isDat) (match T.glb f, T.glb b with
          | some (.ty .isi), some (.ty .bool) => mkL mu (us.map fun u => .bool (isB u)) S1 k
          | _, _ => False) False
        | _ => False)) False
      | _ => False)
    | .lst us => cond (Nat.ble us.length 1000) (compW (fun u S2 k2 => I.e (relab cs sc) ((x, u) :: capt cs l) elt S2 k2) us S1 fun vs S2 => mkL mu vs S2 k) False
    | .rng n => cond (decide (n ≤ 1000) && decide (-1000 ≤ n)) (compW (fun u S2 k2 => I.e (relab cs sc) ((x, u) :: capt cs l) elt S2 k2) (rngL n) S1 fun vs S2 => mkL mu vs S2 k) False
    | _ => False
section
variable (T : Tab) (I : Ev3) (sc : Scope)
noncomputable def bOf : V → Bool
  | .bool b => b
  | _ => false
noncomputable def bcal (b : Bi) (vs : List V) (S : AS) (k : KV) : Prop :=
  match b, vs with
  | .range, [.int n] => cond (decide (n ≤ 1000) && decide (-1000 ≤ n)) (k (.rng n) S) False
  | .len, [.tup us] => cond (Nat.ble us.length 1000) (k (.int us.length) S) False
  | .len, [v] => (match seqOf S v with
    | some us => cond (Nat.ble us.length 1000) (k (.int us.length) S) False
    | none => False)
  | .isi, [v, .ty .bool] => cond (isDat v) (k (.bool (isB v)) S) False
  | .min, [.int x, .int y, .int z] => k (.int (if y < x then (if z < y then z else y) else (if z < x then z else x))) S
  | .any, [.lst us] => cond (us.all isB) (k (.bool (us.any bOf)) S) False
  | .all, [.lst us] => cond (us.all isB) (k (.bool (us.all bOf)) S) False
  | _, _ => False
noncomputable def methW (x : PySem.Str) (args : List PySem.Expr) (l : Lc) (v : V) (S' : AS) (k : KV) : Prop :=
  match v with
      | .ref i => (match getO S' i with
        | some (.inst C fs) => (match fld x fs, T.mth C x with
          | none, some a => evs (I.e sc l) args S' fun vs S'' => T.cal a (.ref i :: vs) S'' k
          | _, _ => False)
        | some (.lst us) => cond (x == Str.ofString "append") (match args with
          | [a] => I.e sc l a S' fun v S'' => (match getO S'' i with
            | some (.lst us) => cond (Nat.ble us.length 1000) (k .none (putO S'' i (.lst (us ++ [v])))) False
            | _ => False)
          | _ => False) False
        | _ => False)
      | _ => False
noncomputable def callW (f : PySem.Expr) (args : List PySem.Expr) (l : Lc) (p : Pos) (S : AS) (k : KV) : Prop :=
  match f with
  | .Name x _ =>
    cond ((fld x l).isNone && locK sc x && args.all plainE) (match T.glb x with
      | some (.glob a) => evs (I.e sc l) args S fun vs S' => T.cal a vs S' k
      | some (.ty b) => cond args.isEmpty False (evs (I.e sc l) args S fun vs S' => bcal b vs S' k)
      | _ => False) False
  | .Attribute e x ap =>
    cond (args.all plainE && Nat.blt args.length 20 && ap.endLine == p.line && baseOk e) (I.e sc l e S fun v S' => methW T I sc x args l v S' k) False
  | _ => False
noncomputable def subW (v : V) (i : V) (S : AS) (k : KV) : Prop :=
  match i with
  | .int x => cond (decide (0 ≤ x)) (match seqOf S v with
    | some us => (match us[x.toNat]? with
      | some u => cond (decide (x < 1000)) (k u S) False
      | none => False)
    | none => (match v with
      | .tup us => (match us[x.toNat]? with
        | some u => cond (decide (x < 1000)) (k u S) False
        | none => False)
      | _ => False)) False
  | _ => False
noncomputable def optW (e : Option PySem.Expr) (l : Lc) (S : AS) (k : Option Int → AS → Prop) : Prop :=
  match e with
  | none => k none S
  | some e => I.e sc l e S fun v S' => match v with
    | .int n => k (some n) S'
    | _ => False
noncomputable def posO : Option Int → Bool
  | none => true
  | some n => decide (0 ≤ n) && decide (n ≤ 1000)
noncomputable def cutL (lo hi : Option Int) (us : List V) : List V :=
  match lo, hi with
  | none, none => us
  | some a, none => us.drop a.toNat
  | none, some b => us.take b.toNat
  | some a, some b => (us.drop a.toNat).take (b.toNat - a.toNat)
noncomputable def evE (l : Lc) (e : PySem.Expr) (S : AS) (k : KV) : Prop :=
  match e with
  | .Name x _ => (match fld x l with
    | some v => k v S
    | none => cond (locK sc x) (match T.glb x with
      | some (.int n) => k (.int n) S
      | some (.ty b) => k (.ty b) S
      | _ => False) False)
  | .Constant c _ _ => (match c with
    | .none => k .none S
    | .bool b => k (.bool b) S
    | .int n => k (.int n) S
    | _ => False)
  | .BinOp a op b p => I.e sc l a S fun va S1 => I.e sc l b S1 fun vb S2 => binV (T.mu p) op va vb S2 k
  | .UnaryOp .Not a _ => I.e sc l a S fun v S' => (match v with
    | .bool b => k (.bool (!b)) S'
    | _ => False)
  | .BoolOp op (a :: r) p => I.e sc l a S fun v S' => (match r with
    | [] => k v S'
    | _ => (match v, op with
      | .bool true, .And => I.e sc l (.BoolOp .And r p) S' k
      | .bool false, .And => k (.bool false) S'
      | .bool true, .Or => k (.bool true) S'
      | .bool false, .Or => I.e sc l (.BoolOp .Or r p) S' k
      | _, _ => False))
  | .Compare a [op] [b] _ => cond (notSet b) (I.e sc l a S fun va S1 => I.e sc l b S1 fun vb S2 => cmpV op va vb S2 fun r S3 => k (.bool r) S3) False
  | .Call f args [] p => callW T I sc f args l p S k
  | .Attribute a x _ => cond (isName a) (I.e sc l a S fun v S' => (match v with
    | .ref i => (match getO S' i with
      | some (.inst C fs) => (match fld x fs with
        | some u => k u S'
        | none => False)
      | _ => False)
    | _ => False)) False
  | .Subscript a (.Slice lo hi none _) _ => I.e sc l a S fun v S1 => optW I sc lo l S1 fun x S2 => optW I sc hi l S2 fun y S3 => (match seqOf S3 v with
    | some us => cond (Nat.ble us.length 1000 && posO x && posO y) (k (.lst (cutL x y us)) S3) False
    | none => False)
  | .Subscript a i _ => cond (noSlice i) (I.e sc l a S fun v S1 => I.e sc l i S1 fun x S2 => subW v x S2 k) False
  | .List es p => evs (I.e sc l) es S fun vs S' => mkL (T.mu p) vs S' k
  | .Tuple es _ _ => evs (I.e sc l) es S fun vs S' => cond (Nat.ble vs.length 1000) (k (.tup vs) S') False
  | .ListComp elt [⟨.Name x _, it, [], 0⟩] cs p => cond (compOk sc l cs x && notSet it) (I.e sc l it S (CompH T I sc l elt x cs (T.mu p) k)) False
  | .ListComp elt [⟨.Name x _, it, [c], 0⟩] cs p => cond (compOk sc l cs x && notSet it) (I.e sc l it S fun v S1 => (match v with
    | .rng n => cond (decide (n ≤ 1000) && decide (-1000 ≤ n)) (compT (fun u S2 k2 => I.t (relab cs sc) ((x, u) :: capt cs l) c S2 k2) (fun u S2 k2 => I.e (relab cs sc) ((x, u) :: capt cs l) elt S2 k2) (rngL n) S1 fun vs S2 => mkL (T.mu p) vs S2 k) False
    | _ => False)) False
  | .ListComp elt [⟨.Tuple [.Name x _, .Name y _] _ _, it, [], 0⟩] cs p => cond (compOk sc l cs x && compOk sc l cs y && x != y && notSet it) (I.e sc l it S fun v S1 => (match v with
    | .ref i => (match getO S1 i with
      | some (.lst us) => cond (Nat.ble us.length 1000) (compW (fun u S2 k2 => match u with
        | .tup [a, b] => I.e (relab cs sc) ((y, b) :: (x, a) :: capt cs l) elt S2 k2
        | _ => False) us (putO S1 i .hole) fun vs S2 => mkL (T.mu p) vs S2 k) False
      | _ => False)
    | _ => False)) False
  | _ => False
noncomputable def evT (l : Lc) (e : PySem.Expr) (S : AS) (k : Bool → AS → Prop) : Prop :=
  match e with
  | .UnaryOp .Not a _ => I.t sc l a S fun b S' => k (!b) S'
  | .BoolOp .And [] _ => k true S
  | .BoolOp .Or [] _ => k false S
  | .BoolOp .And (a :: r) p => I.t sc l a S fun b S' => cond b (I.t sc l (.BoolOp .And r p) S' k) (k false S')
  | .BoolOp .Or (a :: r) p => I.t sc l a S fun b S' => cond b (k true S') (I.t sc l (.BoolOp .Or r p) S' k)
  | .Compare a [op] [b] _ => cond (notSet b) (I.e sc l a S fun va S1 => I.e sc l b S1 fun vb S2 => cmpV op va vb S2 k) False
  | e => cond (testOk e) (I.e sc l e S fun v S' => (match v with
    | .bool b => k b S'
    | _ => False)) False
noncomputable def swapB (sc cs : Scope) (y : PySem.Str) (yp p : Pos) : Bool :=
  sc.names.lookup y == some .local && yp.line == p.line && !(cs.names.any fun (n, k) => n == y && (k == .local || k == .cell))
noncomputable def tgtOk : PySem.Expr → Bool
  | .Name _ _ => true
  | .Attribute _ _ _ => true
  | .Subscript _ _ _ => true
  | _ => false
noncomputable def notTup : PySem.Expr → Bool
  | .Tuple _ _ _ => false
  | _ => true
noncomputable def isAttr : PySem.Expr → Bool
  | .Attribute _ _ _ => true
  | _ => false
noncomputable def noCell (sc : Scope) : Bool := sc.names.all fun p => p.2 != .cell
noncomputable def noComp : PySem.Expr → Bool
  | .ListComp _ _ _ _ => false
  | .SetComp _ _ _ _ => false
  | .DictComp _ _ _ _ _ => false
  | _ => true
noncomputable def asgW (l : Lc) (t : PySem.Expr) (v : V) (S : AS) (k : Lc → AS → Prop) : Prop :=
  match t with
  | .Name x _ => cond (sc.names.lookup x == some .local && x != Str.ofString "__debug__") (k ((x, v) :: rm x l) S) False
  | .Attribute e x _ => I.e sc l e S fun o S' => (match o with
    | .ref i => (match getO S' i with
      | some (.inst C fs) => cond (Nat.ble fs.length 100 && ((fld x fs).isSome || T.atr C x)) (k l (putO S' i (.inst C (setF x v fs)))) False
      | _ => False)
    | _ => False)
  | .Subscript e i _ => I.e sc l e S fun o S1 => I.e sc l i S1 fun j S2 => (match o, j with
    | .ref a, .int n => (match getO S2 a with
      | some (.lst us) => cond (decide (0 ≤ n) && decide (n < (us.length : Int)) && Nat.ble us.length 1000) (k l (putO S2 a (.lst (us.set n.toNat v)))) False
      | _ => False)
    | _, _ => False)
  | _ => False
noncomputable def asgs : Lc → List PySem.Expr → List V → AS → (Lc → AS → Prop) → Prop
  | l, [], [], S, k => k l S
  | l, t :: ts, v :: vs, S, k => asgW T I sc l t v S fun l' S' => asgs l' ts vs S' k
  | _, _, _, _, _ => False
noncomputable def stW (l : Lc) (st : PySem.Stmt) (S : AS) (kn : Lc → AS → Prop) (kr : KV) : Prop :=
  match st with
  | .Assign [.Tuple ts _ _] e _ => cond (noComp e && ts.all plainE && (notTup e || ts.all isAttr)) (I.e sc l e S fun v S' => (match v with
    | .tup vs => cond (vs.length == ts.length) (asgs T I sc l ts vs S' kn) False
    | _ => False)) False
  | .Assign [.Name y yp] (.ListComp elt [⟨.Name x _, it, [], 0⟩] cs p) _ => cond (swapB sc cs y yp p && compOk sc l cs x && notSet it && y != Str.ofString "__debug__") (I.e sc l it S (CompH T I sc l elt x cs (T.mu p) fun v S' => kn ((y, v) :: l) S')) False
  | .Assign [t] e _ => cond (noComp e && tgtOk t) (I.e sc l e S fun v S' => asgW T I sc l t v S' kn) False
  | .If c a b _ => I.t sc l c S fun b' S' => cond b' (I.x sc l a S' kn kr) (I.x sc l b S' kn kr)
  | .Return (some e) _ => I.e sc l e S kr
  | .Expr e _ => cond (noComp e) (I.e sc l e S fun _ S' => kn l S') False
  | .For (.Name x _) it body [] p => cond (sc.names.lookup x == some .local && x != Str.ofString "__debug__" && notSet it && noCell sc) (I.e sc l it S fun v S1 => (match v with
    | .rng n => cond (decide (n ≤ 1000) && decide (-1000 ≤ n)) (forW (pick (T.live p)) (fun u l' S' kn' kr' => I.x sc ((x, u) :: l') body S' kn' kr') (rngL n) l S1 kn kr) False
    | .lst us => cond (Nat.ble us.length 1000) (forW (pick (T.live p)) (fun u l' S' kn' kr' => I.x sc ((x, u) :: l') body S' kn' kr') us l S1 kn kr) False
    | _ => False)) False
  | .For (.Tuple [.Name x _, .Name y _] _ _) it body [] p => cond (sc.names.lookup x == some .local && sc.names.lookup y == some .local && x != Str.ofString "__debug__" && y != Str.ofString "__debug__" && notSet it && noCell sc) (I.e sc l it S fun v S1 => (match v with
    | .lst us => cond (Nat.ble us.length 1000) (forW (pick (T.live p)) (fun u l' S' kn' kr' => match u with
      | .tup [a, b] => I.x sc ((y, b) :: (x, a) :: l') body S' kn' (fun _ _ => False)
      | _ => False) us l S1 kn kr) False
    | _ => False)) False
  | _ => False
noncomputable def evX (l : Lc) (ss : List PySem.Stmt) (S : AS) (kn : Lc → AS → Prop) (kr : KV) : Prop :=
  match ss with
  | [] => kn l S
  | st :: r => stW T I sc l st S (fun l' S' => I.x sc l' r S' kn kr) kr
end
noncomputable def sem (T : Tab) : Nat → Ev3
  | 0 => ⟨fun _ _ _ _ _ => False, fun _ _ _ _ _ => False, fun _ _ _ _ _ _ => False⟩
  | n + 1 => ⟨fun sc l e S k => evE T (sem T n) sc l e S k, fun sc l e S k => evT (sem T n) sc l e S k, fun sc l ss S kn kr => evX T (sem T n) sc l ss S kn kr⟩

theorem getO_eq : ∀ {S : AS} {i : Nat}, getO S i = S[i]?
  | [], _ => by simp [getO]
  | _ :: _, 0 => by simp [getO]
  | _ :: r, i + 1 => by simp [getO, getO_eq]
theorem putO_eq : ∀ {S : AS} {i : Nat} {o : O}, putO S i o = S.set i o
  | [], _, _ => by simp [putO]
  | _ :: _, 0, _ => by simp [putO]
  | _ :: r, i + 1, _ => by simp [putO, putO_eq]
structure TopAt (c : Cx) : Prop where
  outer : c.outer = []
  cl : c.cl = []
  X : (KF c.w.params).In c.base
  T : Top QV (looseW QV []) c.mean c.mg c.mb c.base
structure EnvOk (c : Cx) (env : Env) (n : Nat) : Prop where
  top : n = 40 → TopAt c
  g : env.globals = mainGlobals
  b : env.builtins = builtinsNs
  k : env.scope.kind = .function
  dp : c.dp + n < recursionLimit
  un : c.un + 3 * n + 200 < cLine
noncomputable def Rd (c : Cx) (env : Env) (m : Loc) (Z : ZL) (x : PySem.Str) (u : Value) : Prop :=
  ∀ N' : Led, Sub Z.all N' → ∀ (p : Pos) (Q E : Value → Shared → Prop) (s : Shared), Fr c.h₀ c.L s.heap m → News c.h₀ c.L s.heap N' → Q u s → wpAny (model PG c.w) c.A (PySem.eval (.Name x p) env) Q E s
noncomputable def CellAt (env : Env) (Z : ZL) (x : PySem.Str) (u : Value) : Prop := ∃ a o, env.cells.lookup x = some a ∧ (a, o) ∈ Z.all ∧ o.data = .cell (some u)
noncomputable def LR (c : Cx) (env : Env) (m : Loc) (ρ : List Cell) (Z : ZL) (l : Lc) : Prop := ∀ x v, fld x l = some v → ∃ u, VR ρ Z u v ∧ Rd c env m Z x u ∧ (x == Str.ofString "__debug__") = false ∧ (env.kindOf x = some .cell → CellAt env Z x u)
theorem LR.mono {c : Cx} {env : Env} {m : Loc} {ρ ρ' : List Cell} {Z Z' : ZL} {l : Lc} (h : LR c env m ρ Z l) (h1 : Ext ρ ρ') (h2 : SubZ Z Z') : LR c env m ρ' Z' l := fun x v e =>
  let ⟨u, a, b, d, cc⟩ := h x v e
  ⟨u, a.mono h1 h2, fun N'' h3 => b N'' (h2.all.trans h3), d, fun hk => let ⟨a, o, e1, e2, e3⟩ := cc hk; ⟨a, o, e1, h2.all _ e2, e3⟩⟩
noncomputable def PostV (c : Cx) (m : Loc) (ρ : List Cell) (Z : ZL) (k : KV) (Q : Value → Shared → Prop) (s : Shared) : Prop :=
  ∀ V S' v h' tk' ρ' Z' N', Fr c.h₀ c.L h' m → News c.h₀ c.L h' N' → Rel c.w.params ρ' S' Z' N' → Ext ρ ρ' → SubZ Z Z' → VR ρ' Z' v V → k V S' → Q v { s with heap := h', toks := tk' }
noncomputable def PostVs (c : Cx) (m : Loc) (ρ : List Cell) (Z : ZL) (k : List V → AS → Prop) (Q : List Value → Shared → Prop) (s : Shared) : Prop :=
  ∀ V S' v h' tk' ρ' Z' N', Fr c.h₀ c.L h' m → News c.h₀ c.L h' N' → Rel c.w.params ρ' S' Z' N' → Ext ρ ρ' → SubZ Z Z' → VRs ρ' Z' v V → k V S' → Q v { s with heap := h', toks := tk' }
noncomputable def PostB (c : Cx) (m : Loc) (ρ : List Cell) (Z : ZL) (k : Bool → AS → Prop) (Q : Bool → Shared → Prop) (s : Shared) : Prop :=
  ∀ b S' h' tk' ρ' Z' N', Fr c.h₀ c.L h' m → News c.h₀ c.L h' N' → Rel c.w.params ρ' S' Z' N' → Ext ρ ρ' → SubZ Z Z' → k b S' → Q b { s with heap := h', toks := tk' }
noncomputable def EvA (c : Cx) (env : Env) (m : Loc) (ρ : List Cell) (Z : ZL) (N : Led) (e : PySem.Expr) (k : KV) : Prop :=
  ∀ (Q E : Value → Shared → Prop) (s : Shared), Fr c.h₀ c.L s.heap m → News c.h₀ c.L s.heap N → PostV c m ρ Z k Q s → wpAny (model PG c.w) c.A (PySem.eval e env) Q E s
noncomputable def EvsA (c : Cx) (env : Env) (m : Loc) (ρ : List Cell) (Z : ZL) (N : Led) (es : List PySem.Expr) (k : List V → AS → Prop) : Prop :=
  ∀ (pos : Pos) (Q : List Value → Shared → Prop) (E : Value → Shared → Prop) (s : Shared), Fr c.h₀ c.L s.heap m → News c.h₀ c.L s.heap N → PostVs c m ρ Z k Q s → wpAny (model PG c.w) c.A (spliced (backTo pos (starEach es env))) Q E s
noncomputable def TsA (c : Cx) (env : Env) (m : Loc) (ρ : List Cell) (Z : ZL) (N : Led) (e : PySem.Expr) (k : Bool → AS → Prop) : Prop :=
  ∀ (Q : Bool → Shared → Prop) (E : Value → Shared → Prop) (s : Shared), Fr c.h₀ c.L s.heap m → News c.h₀ c.L s.heap N → PostB c m ρ Z k Q s → wpAny (model PG c.w) c.A (PySem.isTrue e env (PySem.eval e env)) Q E s
noncomputable def SE (n : Nat) (f : Scope → Lc → PySem.Expr → AS → KV → Prop) : Prop :=
  ∀ c env l e S k m ρ Z N, c.Ok → EnvOk c env n → f env.scope l e S k → LR c env m ρ Z l → Rel c.w.params ρ S Z N → EvA c env m ρ Z N e k
noncomputable def ST (n : Nat) (f : Scope → Lc → PySem.Expr → AS → (Bool → AS → Prop) → Prop) : Prop :=
  ∀ c env l e S k m ρ Z N, c.Ok → EnvOk c env n → f env.scope l e S k → LR c env m ρ Z l → Rel c.w.params ρ S Z N → TsA c env m ρ Z N e k
theorem PostV.up {c : Cx} {m : Loc} {ρ ρ' : List Cell} {Z Z' : ZL} {k : KV} {Q : Value → Shared → Prop} {s : Shared} (h : PostV c m ρ Z k Q s) (h1 : Ext ρ ρ') (h2 : SubZ Z Z') {h' : Heap} {tk' : Tok} : PostV c m ρ' Z' k Q { s with heap := h', toks := tk' } :=
  fun V S' v h'' tk'' ρ'' Z'' N' F n r p z x y => h V S' v h'' tk'' ρ'' Z'' N' F n r (h1.trans p) (h2.trans z) x y
theorem PostB.up {c : Cx} {m : Loc} {ρ ρ' : List Cell} {Z Z' : ZL} {k : Bool → AS → Prop} {Q : Bool → Shared → Prop} {s : Shared} (h : PostB c m ρ Z k Q s) (h1 : Ext ρ ρ') (h2 : SubZ Z Z') {h' : Heap} {tk' : Tok} : PostB c m ρ' Z' k Q { s with heap := h', toks := tk' } :=
  fun V S' h'' tk'' ρ'' Z'' N' F n r p z y => h V S' h'' tk'' ρ'' Z'' N' F n r (h1.trans p) (h2.trans z) y

-- the relation's changes
theorem adrs_app {ρ : List Cell} {c : Cell} : adrs (ρ ++ [c]) = adrs ρ ++ c.adrs := by simp [adrs]
theorem Rel.frozO {P : Params} {ρ : List Cell} {S : AS} {Z : ZL} {N : Led} {l : Addr} {o : Obj} (r : Rel P ρ S Z N) (hl : ∀ p ∈ N, p.1 ≠ l) : Rel P ρ S (Z.add (l, o)) ((l, o) :: N) where
  len := r.len
  own i c ob h1 h2 := (r.own i c ob h1 h2).mono Ext.rfl SubZ.one Sub.one
  sub p hp := by
    rcases List.mem_cons.mp hp with rfl | hp
    · exact .head _
    · exact .tail _ (r.sub p hp)
  nodup := r.nodup
  off p hp := by
    rcases List.mem_cons.mp hp with rfl | hp
    · intro hm
      obtain ⟨o', ho⟩ := r.inN _ hm
      exact hl _ ho rfl
    · exact r.off p hp
  inN b hb := let ⟨o', ho⟩ := r.inN b hb; ⟨o', .tail _ ho⟩
  vw p hp q hq := by
    rcases List.mem_cons.mp hp with rfl | hp
    · exact fun e => hl q (r.sub _ (List.mem_append.mpr (.inr hq))) e.symm
    · exact r.vw p hp q hq
theorem Rel.froz {P : Params} {ρ : List Cell} {S : AS} {Z : ZL} {N : Led} {l : Addr} {o : Obj} (r : Rel P ρ S Z N) (hl : ∀ p ∈ N, p.1 < l) : Rel P ρ S (Z.add (l, o)) ((l, o) :: N) := r.frozO fun p hp => Nat.ne_of_lt (hl p hp)
noncomputable abbrev ZL.pin (Z : ZL) (p : Addr × Obj) : ZL := ⟨Z.v, p :: Z.w⟩
theorem SubZ.pin {Z : ZL} {p : Addr × Obj} : SubZ Z (Z.pin p) := ⟨Sub.rfl, Sub.one⟩
theorem Rel.pin {P : Params} {ρ : List Cell} {S : AS} {Z : ZL} {N : Led} {l : Addr} {o : Obj} (r : Rel P ρ S Z N) (hl : ∀ p ∈ N, p.1 ≠ l) : Rel P ρ S (Z.pin (l, o)) ((l, o) :: N) where
  len := r.len
  own i c ob h1 h2 := (r.own i c ob h1 h2).mono Ext.rfl SubZ.pin Sub.one
  sub p hp := by
    rcases List.mem_append.mp hp with hp | hp
    · exact .tail _ (r.v p hp)
    · rcases List.mem_cons.mp hp with rfl | hp
      · exact .head _
      · exact .tail _ (r.sub p (List.mem_append.mpr (.inr hp)))
  nodup := r.nodup
  off p hp := by
    rcases List.mem_append.mp hp with hp | hp
    · exact r.off p (List.mem_append.mpr (.inl hp))
    · rcases List.mem_cons.mp hp with rfl | hp
      · intro hm
        obtain ⟨o', ho⟩ := r.inN _ hm
        exact hl _ ho rfl
      · exact r.off p (List.mem_append.mpr (.inr hp))
  inN b hb := let ⟨o', ho⟩ := r.inN b hb; ⟨o', .tail _ ho⟩
  vw p hp q hq := by
    rcases List.mem_cons.mp hq with rfl | hq
    · exact hl p (r.v p hp)
    · exact r.vw p hp q hq
theorem vcut {ρ : List Cell} {Z : ZL} {w : Led} {us : List Value} {vs : List V} (h : VRs ρ Z us vs) : VRs ρ ⟨Z.v, w⟩ us vs := VRs.monoV (Z := Z) (Z' := ⟨Z.v, w⟩) Ext.rfl Sub.rfl h
theorem fcut {P : Params} {ρ : List Cell} {Z : ZL} {w : Led} : ∀ {es : List DictEntry} {fs : List (PySem.Str × V)}, FR P ρ Z es fs → FR P ρ ⟨Z.v, w⟩ es fs
  | _, _, .nil => .nil
  | _, _, .cons a b => .cons (VR.monoV (Z := Z) (Z' := ⟨Z.v, w⟩) Ext.rfl Sub.rfl a) (fcut b)
theorem OR.cut {P : Params} {ρ : List Cell} {Z : ZL} {w N N' : Led} : ∀ {c : Cell} {o : O}, (∀ p ∈ N, p.1 ∈ c.adrs → p ∈ N') → OR P ρ Z N c o → OR P ρ ⟨Z.v, w⟩ N' c o
  | .l a, .lst vs, hn, ⟨us, cc, hm, h⟩ => ⟨us, cc, hn _ hm (by simp [Cell.adrs]), vcut h⟩
  | .o a d, .inst C fs, hn, ⟨hm, ic, es, hd, h⟩ => ⟨hn _ hm (by simp [Cell.adrs]), ic, es, hn _ hd (by simp [Cell.adrs]), fcut h⟩
  | .dead _, .hole, _, _ => trivial
theorem Rel.cutX {P : Params} {ρ : List Cell} {S : AS} {Z : ZL} {N N' : Led} {w : Led} (X : List Addr) (r : Rel P ρ S Z N) (hX : ∀ x ∈ X, ∃ o, (x, o) ∈ Z.w) (hw : Sub w Z.w) (hwX : ∀ p ∈ w, p.1 ∉ X) (hN : ∀ p ∈ N, p.1 ∉ X → p ∈ N') (hN2 : Sub N' N) : Rel P ρ S ⟨Z.v, w⟩ N' := by
  have offA : ∀ x ∈ X, x ∉ adrs ρ := fun x hx hm => by
    obtain ⟨o, ho⟩ := hX x hx
    exact r.off _ (List.mem_append.mpr (.inr ho)) hm
  have offV : ∀ p ∈ Z.v, p.1 ∉ X := fun p hp hm => by
    obtain ⟨o, ho⟩ := hX _ hm
    exact r.vw p hp _ ho rfl
  refine ⟨r.len, fun i c o h1 h2 => ?_, fun p hp => ?_, r.nodup, fun p hp => ?_, fun b hb => ?_, fun p hp q hq => r.vw p hp q (hw q hq)⟩
  · exact OR.cut (Z := Z) (fun p hp hm => hN p hp fun hx => offA _ hx (List.mem_flatMap.mpr ⟨c, List.mem_of_getElem? h1, hm⟩)) (r.own i c o h1 h2)
  · rcases List.mem_append.mp hp with hp | hp
    · exact hN p (r.v p hp) (offV p hp)
    · exact hN p (r.sub p (List.mem_append.mpr (.inr (hw p hp)))) (hwX p hp)
  · rcases List.mem_append.mp hp with hp | hp
    · exact r.off p (List.mem_append.mpr (.inl hp))
    · exact r.off p (List.mem_append.mpr (.inr (hw p hp)))
  · obtain ⟨o, ho⟩ := r.inN b hb
    exact ⟨o, hN _ ho fun hx => offA _ hx hb⟩
theorem Rel.newLO {P : Params} {ρ : List Cell} {S : AS} {Z : ZL} {N : Led} {l : Addr} {us : List Value} {vs : List V} {cc : Nat} (r : Rel P ρ S Z N) (hl : ∀ p ∈ N, p.1 ≠ l) (h : VRs ρ Z us vs) :
    Rel P (ρ ++ [.l l]) (S ++ [.lst vs]) Z ((l, listOf us.toArray cc) :: N) where
  len := by simp [r.len]
  own i c ob h1 h2 := by
    have hp : Ext ρ (ρ ++ [.l l]) := Ext.app
    by_cases hi : i < ρ.length
    · rw [List.getElem?_append_left hi] at h1
      rw [List.getElem?_append_left (by rw [← r.len]; exact hi)] at h2
      exact (r.own i c ob h1 h2).mono hp SubZ.rfl Sub.one
    · have hi' : i = ρ.length := by
        have := (List.getElem?_eq_some_iff.mp h1).1
        simp at this
        omega
      subst hi'
      rw [List.getElem?_append_right (Nat.le_refl _), Nat.sub_self] at h1
      rw [r.len, List.getElem?_append_right (Nat.le_refl _), Nat.sub_self] at h2
      cases h1
      cases h2
      exact ⟨us, cc, .head _, h.mono hp SubZ.rfl⟩
  sub p hp := .tail _ (r.sub p hp)
  nodup := by
    rw [adrs_app]
    refine List.nodup_append.mpr ⟨r.nodup, by simp [Cell.adrs], fun b hb b' hb' e => ?_⟩
    simp only [Cell.adrs, List.mem_singleton] at hb'
    subst hb'
    subst e
    obtain ⟨o', ho⟩ := r.inN _ hb
    exact hl _ ho rfl
  off p hp hm := by
    rw [adrs_app] at hm
    rcases List.mem_append.mp hm with hm | hm
    · exact r.off p hp hm
    · simp only [Cell.adrs, List.mem_singleton] at hm
      exact hl _ (r.sub p hp) hm
  inN b hb := by
    rw [adrs_app] at hb
    rcases List.mem_append.mp hb with hm | hm
    · obtain ⟨o', ho⟩ := r.inN b hm
      exact ⟨o', .tail _ ho⟩
    · simp only [Cell.adrs, List.mem_singleton] at hm
      subst hm
      exact ⟨_, .head _⟩
  vw := r.vw
theorem Rel.newL {P : Params} {ρ : List Cell} {S : AS} {Z : ZL} {N : Led} {l : Addr} {us : List Value} {vs : List V} {cc : Nat} (r : Rel P ρ S Z N) (hl : ∀ p ∈ N, p.1 < l) (h : VRs ρ Z us vs) :
    Rel P (ρ ++ [.l l]) (S ++ [.lst vs]) Z ((l, listOf us.toArray cc) :: N) := r.newLO (fun p hp => Nat.ne_of_lt (hl p hp)) h
theorem ltNews {h₀ h : Heap} {L : Addr} {N : Led} (n : News h₀ L h N) : ∀ p ∈ N, p.1 < h.objs.size := fun p hp => Heap.lt_size (n p hp).1
-- a list's items, as they lie
theorem Rel.seq {P : Params} {ρ : List Cell} {S : AS} {Z : ZL} {N : Led} {u : Value} {v : V} {us : List V} (r : Rel P ρ S Z N) (h : VR ρ Z u v) (e : seqOf S v = some us) :
    ∃ a xs cc, u = .ref a ∧ (a, listOf xs.toArray cc) ∈ N ∧ VRs ρ Z xs us := by
  cases h with
  | lst hm hv =>
    simp only [seqOf, Option.some.injEq] at e
    subst e
    exact ⟨_, _, _, rfl, r.v _ hm, hv⟩
  | @ref i c hc =>
    simp only [seqOf, getO_eq] at e
    cases hs : S[i]? with
    | none => rw [hs] at e; cases e
    | some o =>
      rw [hs] at e
      cases o with
      | hole => cases e
      | inst C fs => cases e
      | lst vs =>
        simp only [Option.some.injEq] at e
        subst e
        have x := r.own i c _ hc hs
        cases c with
        | o a d => exact x.elim
        | dead a => exact x.elim
        | l a =>
          obtain ⟨xs, cc, hm, hv⟩ := x
          exact ⟨a, xs, cc, rfl, hm, hv⟩
  | _ => simp [seqOf] at e
section
variable {c : Cx} {env : Env} {m : Loc} {ρ : List Cell} {Z : ZL} {N : Led} {S : AS} {l : Lc} {e a b : PySem.Expr} {p : Pos} {k : KV} {n : Nat} {f : Scope → Lc → PySem.Expr → AS → KV → Prop}
theorem ea_name {x : PySem.Str} {v : V} (lr : LR c env m ρ Z l) (rel : Rel c.w.params ρ S Z N) (h : fld x l = some v) (hk : k v S) : EvA c env m ρ Z N (.Name x p) k := by
  intro Q E s F nw q
  obtain ⟨u, a, b, _⟩ := lr x v h
  exact b Z.all Sub.rfl p Q E s F (newsSub nw rel.sub) (q v S u s.heap s.toks ρ Z N F nw rel Ext.rfl SubZ.rfl a hk)
theorem ea_none {j : Nat} (rel : Rel c.w.params ρ S Z N) (hk : k .none S) : EvA c env m ρ Z N (.Constant .none j p) k := by
  intro Q E s F nw q
  refine wpAny_Constant_none ?_
  exact q _ S _ s.heap s.toks ρ Z N F nw rel Ext.rfl SubZ.rfl .none hk
theorem ea_bool {j : Nat} {bb : Bool} (rel : Rel c.w.params ρ S Z N) (hk : k (.bool bb) S) : EvA c env m ρ Z N (.Constant (.bool bb) j p) k := by
  intro Q E s F nw q
  refine wpAny_Constant_bool ?_
  exact q _ S _ s.heap s.toks ρ Z N F nw rel Ext.rfl SubZ.rfl (.bool _) hk
theorem ea_int {j : Nat} {x : Int} (rel : Rel c.w.params ρ S Z N) (hk : k (.int x) S) : EvA c env m ρ Z N (.Constant (.int x) j p) k := by
  intro Q E s F nw q
  refine wpAny_Constant_int ?_
  exact q _ S _ s.heap _ ρ Z N F nw rel Ext.rfl SubZ.rfl (.int _ _) hk
theorem wp_mkL {mu : Bool} {us : List Value} {vs : List V} {Q E : Value → Shared → Prop} {s : Shared} (F : Fr c.h₀ c.L s.heap m) (nw : News c.h₀ c.L s.heap N) (rel : Rel c.w.params ρ S Z N) (hv : VRs ρ Z us vs) (hk : mkL mu vs S k)
    (q : PostV c m ρ Z k Q s) : wpAny (model PG c.w) c.A (newList us) Q E s := by
  unfold mkL at hk
  cases hz : Nat.ble vs.length 1000 with
  | false => rw [hz] at hk; exact hk.elim
  | true =>
    rw [hz] at hk
    have hz' := Nat.le_of_ble_eq_true hz
    refine newList_K F nw (fun l h'' F'' n'' hlt => ?_) (by rw [sizeLine_eq, hv.length]; omega)
    cases mu with
    | true => exact q _ _ _ h'' s.toks _ Z _ F'' n'' (rel.newL hlt hv) Ext.app SubZ.rfl (.ref (c := .l l) (by rw [← rel.len]; simp)) hk
    | false => exact q _ _ _ h'' s.toks ρ _ _ F'' n'' (rel.froz hlt) Ext.rfl SubZ.one (.lst (.head _) (hv.mono Ext.rfl SubZ.one)) hk
theorem wp_binI {op : Operator} {x y : Int} {t u : Tok} {Q E : Value → Shared → Prop} {s : Shared} (F : Fr c.h₀ c.L s.heap m) (nw : News c.h₀ c.L s.heap N) (rel : Rel c.w.params ρ S Z N) (hk : binI op x y S k) (q : PostV c m ρ Z k Q s) :
    wpAny (model PG c.w) c.A (binaryOp op (.int x t) (.int y u)) Q E s := by
  have fin : ∀ z t' tk', k (.int z) S → Q (.int z t') { s with heap := s.heap, toks := tk' } := fun z t' tk' hz => q _ S _ s.heap tk' ρ Z N F nw rel Ext.rfl SubZ.rfl (.int _ _) hz
  cases op with
  | Add => exact add_int (fin _ _ _ hk)
  | Sub => exact sub_int (fin _ _ _ hk)
  | Mult =>
    simp only [binI] at hk
    cases hn : num2 x with
    | false => rw [hn] at hk; exact hk.elim
    | true =>
      rw [hn] at hk
      simp only [num2, Bool.and_eq_true, decide_eq_true_eq] at hn
      exact mul_int (fin _ _ _ hk) (IntMulOk.of_left (intBits_le_64 (by omega) (by omega)))
  | Mod =>
    simp only [binI] at hk
    cases hy : (y == 0) with
    | true => rw [hy] at hk; exact hk.elim
    | false =>
      rw [hy] at hk
      exact mod_int (by simpa using hy) (fin _ _ _ hk)
  | FloorDiv =>
    simp only [binI] at hk
    cases hy : (y == 0 || Builtin.divisionGoesByPylong x y) with
    | true => rw [hy] at hk; exact hk.elim
    | false =>
      rw [hy] at hk
      simp only [Bool.or_eq_false_iff] at hy
      exact floordiv_int (by simpa using hy.1) (fin _ _ _ hk) (.inl hy.2)
  | Pow =>
    simp only [binI] at hk
    cases hy : (decide (0 ≤ y) && decide (y ≤ 100) && x == 2) with
    | false => rw [hy] at hk; exact hk.elim
    | true =>
      rw [hy] at hk
      simp only [Bool.and_eq_true, decide_eq_true_eq, beq_iff_eq] at hy
      obtain ⟨⟨h0, h1⟩, rfl⟩ := hy
      exact pow_int_small h0 (by omega) (by decide) (fin _ _ _ hk)
  | LShift =>
    simp only [binI] at hk
    cases hy : (decide (0 ≤ y) && decide (y ≤ 100) && x == 1) with
    | false => rw [hy] at hk; exact hk.elim
    | true =>
      rw [hy] at hk
      simp only [Bool.and_eq_true, decide_eq_true_eq, beq_iff_eq] at hy
      obtain ⟨⟨h0, h1⟩, rfl⟩ := hy
      exact lshift_int_small h0 (by omega) (by decide) (fin _ _ _ hk)
  | _ => exact hk.elim
end

theorem mem_adrs {ρ : List Cell} {i : Nat} {c : Cell} (h : ρ[i]? = some c) {b : Addr} (hb : b ∈ c.adrs) : b ∈ adrs ρ := List.mem_flatMap.mpr ⟨c, List.mem_of_getElem? h, hb⟩
theorem adrs_ne : ∀ {ρ : List Cell}, (adrs ρ).Nodup → ∀ {i j : Nat} {ci cj : Cell}, ρ[i]? = some ci → ρ[j]? = some cj → i ≠ j → ∀ x ∈ ci.adrs, ∀ y ∈ cj.adrs, x ≠ y
  | [], _, _, _, _, _, h, _, _, _, _, _, _ => by simp at h
  | c :: r, hd, 0, 0, _, _, _, _, hn, _, _, _, _ => absurd rfl hn
  | c :: r, hd, 0, j + 1, ci, cj, h1, h2, _, x, hx, y, hy => by
    simp only [List.getElem?_cons_zero, Option.some.injEq] at h1
    subst h1
    rw [List.getElem?_cons_succ] at h2
    have hd' : (c.adrs ++ adrs r).Nodup := hd
    intro e
    exact (List.nodup_append.mp hd').2.2 x hx y (mem_adrs h2 hy) e
  | c :: r, hd, i + 1, 0, ci, cj, h1, h2, _, x, hx, y, hy => by
    simp only [List.getElem?_cons_zero, Option.some.injEq] at h2
    subst h2
    rw [List.getElem?_cons_succ] at h1
    have hd' : (c.adrs ++ adrs r).Nodup := hd
    intro e
    exact (List.nodup_append.mp hd').2.2 y hy x (mem_adrs h1 hx) e.symm
  | c :: r, hd, i + 1, j + 1, ci, cj, h1, h2, hn, x, hx, y, hy => by
    rw [List.getElem?_cons_succ] at h1 h2
    have hd' : (c.adrs ++ adrs r).Nodup := hd
    exact adrs_ne (List.nodup_append.mp hd').2.1 h1 h2 (fun e => hn (by rw [e])) x hx y hy
mutual
theorem dat0_reads {ρ : List Cell} {Z : ZL} {h₀ h : Heap} {L : Addr} (n : News h₀ L h Z.v) : ∀ {u : Value} {v : V}, VR ρ Z u v → ∀ {d : PyData}, dat0 v = some d → ∃ as, Reads h u d as
  | _, _, .none, _, e => by
    simp only [dat0, Option.some.injEq] at e
    subst e
    exact ⟨_, .none⟩
  | _, _, .bool b, _, e => by
    simp only [dat0, Option.some.injEq] at e
    subst e
    exact ⟨_, .bool _⟩
  | _, _, .int x t, _, e => by
    simp only [dat0, Option.some.injEq] at e
    subst e
    exact ⟨_, .int _ _⟩
  | _, _, .ref h, _, e => by simp [dat0] at e
  | _, _, .glob a, _, e => by simp [dat0] at e
  | _, _, .ty a, _, e => by simp [dat0] at e
  | _, _, .rng a, _, e => by simp [dat0] at e
  | _, _, .tup (vs := vs) hm h, _, e => by
    simp only [dat0] at e
    cases hd : dats0 vs with
    | none => rw [hd] at e; cases e
    | some ds =>
      rw [hd] at e
      cases e
      obtain ⟨as, r⟩ := dats0_reads n h hd
      exact ⟨_, reads_tuple_at (n _ hm).1 rfl rfl r⟩
  | _, _, .lst (vs := vs) hm h, _, e => by
    simp only [dat0] at e
    cases hd : dats0 vs with
    | none => rw [hd] at e; cases e
    | some ds =>
      rw [hd] at e
      cases e
      obtain ⟨as, r⟩ := dats0_reads n h hd
      exact ⟨_, reads_list_at (n _ hm).1 rfl rfl r⟩
theorem dats0_reads {ρ : List Cell} {Z : ZL} {h₀ h : Heap} {L : Addr} (n : News h₀ L h Z.v) : ∀ {us : List Value} {vs : List V}, VRs ρ Z us vs → ∀ {ds : List PyData}, dats0 vs = some ds → ∃ as, ReadsAll h us ds as
  | _, _, .nil, _, e => by
    simp only [dats0, Option.some.injEq] at e
    subst e
    exact ⟨_, .nil⟩
  | _, _, .cons (v := v) (vs := vs) a b, _, e => by
    simp only [dats0] at e
    cases hd : dat0 v with
    | none => rw [hd] at e; cases e
    | some d =>
      rw [hd] at e
      cases hr : dats0 vs with
      | none => rw [hr] at e; cases e
      | some ds =>
        rw [hr] at e
        cases e
        obtain ⟨as, r⟩ := dat0_reads n a hd
        obtain ⟨bs, r'⟩ := dats0_reads n b hr
        exact ⟨_, .cons r r'⟩
end
theorem dat_reads {P : Params} {ρ : List Cell} {S : AS} {Z : ZL} {N : Led} {h₀ h : Heap} {L : Addr} (n : News h₀ L h N) (rel : Rel P ρ S Z N) {u : Value} {v : V} (r : VR ρ Z u v) {d : PyData} (e : dat S v = some d) : ∃ as, Reads h u d as := by
  cases r with
  | @ref i c hc =>
    simp only [dat, getO_eq] at e
    cases hs : S[i]? with
    | none => rw [hs] at e; cases e
    | some o =>
      rw [hs] at e
      cases o with
      | hole => cases e
      | inst C fs => cases e
      | lst vs =>
        simp only at e
        have x := rel.own i c _ hc hs
        cases c with
        | o a d => exact x.elim
        | dead a => exact x.elim
        | l a =>
          obtain ⟨xs, cc, hm, hv⟩ := x
          cases hd : dats0 vs with
          | none => rw [hd] at e; cases e
          | some ds =>
            rw [hd] at e
            cases e
            obtain ⟨as, r⟩ := dats0_reads (newsSub n rel.v) hv hd
            exact ⟨_, reads_list_at (n _ hm).1 rfl rfl r⟩
  | none => exact dat0_reads (ρ := ρ) (newsSub n rel.v) .none e
  | bool b => exact dat0_reads (ρ := ρ) (newsSub n rel.v) (.bool b) e
  | int x t => exact dat0_reads (ρ := ρ) (newsSub n rel.v) (.int x t) e
  | glob a => exact dat0_reads (ρ := ρ) (newsSub n rel.v) (.glob a) e
  | ty a => exact dat0_reads (ρ := ρ) (newsSub n rel.v) (.ty a) e
  | rng hm => exact dat0_reads (ρ := ρ) (newsSub n rel.v) (.rng hm) e
  | tup hm h => exact dat0_reads (ρ := ρ) (newsSub n rel.v) (.tup hm h) e
  | lst hm h => exact dat0_reads (ρ := ρ) (newsSub n rel.v) (.lst hm h) e
section
variable {c : Cx} {env : Env} {m : Loc} {ρ : List Cell} {Z : ZL} {N : Led} {S : AS} {l : Lc} {e a b : PySem.Expr} {p : Pos} {k : KV} {n : Nat} {I : Ev3} {T : Tab}
theorem wp_binV {mu : Bool} {op : Operator} {va vb : V} {a b : Value} {Q E : Value → Shared → Prop} {s : Shared} (ra : VR ρ Z a va) (rb : VR ρ Z b vb) (F : Fr c.h₀ c.L s.heap m) (nw : News c.h₀ c.L s.heap N) (rel : Rel c.w.params ρ S Z N) (hk : binV mu op va vb S k) (q : PostV c m ρ Z k Q s) :
    wpAny (model PG c.w) c.A (binaryOp op a b) Q E s := by
  unfold binV at hk
  split at hk
  · cases ra
    cases rb
    exact wp_binI F nw rel hk q
  · split at hk
    · split at hk
      · rename_i us vs e1 e2
        obtain ⟨x, xs, cx, rfl, hx, rx⟩ := rel.seq ra e1
        obtain ⟨y, ys, cy, rfl, hy, ry⟩ := rel.seq rb e2
        cases hz : Nat.ble (us.length + vs.length) 1000 with
        | false => rw [hz] at hk; exact hk.elim
        | true =>
          rw [hz] at hk
          have hz' := Nat.le_of_ble_eq_true hz
          refine add_lists F nw (News.isList nw hx) (News.isList nw hy) (fun h'' F'' n'' => ?_) (by rw [sizeLine_eq, rx.length, ry.length]; omega)
          have hlt := ltNews nw
          cases mu with
          | true => exact q _ _ _ h'' s.toks _ Z _ F'' n'' (rel.newL (cc := 0) hlt (rx.append ry)) Ext.app SubZ.rfl (.ref (c := .l s.heap.objs.size) (by rw [← rel.len]; simp)) hk
          | false => exact q _ _ _ h'' s.toks ρ _ _ F'' n'' (rel.froz hlt) Ext.rfl SubZ.one (.lst (cc := 0) (.head _) ((rx.append ry).mono Ext.rfl SubZ.one)) hk
      · exact hk.elim
    · exact hk.elim
theorem ea_bin {mu : Bool} {op : Operator} (hI : SE n I.e) (ok : c.Ok) (eo : EnvOk c env n) (h : I.e env.scope l a S fun va S1 => I.e env.scope l b S1 fun vb S2 => binV mu op va vb S2 k) (lr : LR c env m ρ Z l) (rel : Rel c.w.params ρ S Z N) :
    EvA c env m ρ Z N (.BinOp a op b p) k := by
  intro Q E s F nw q
  refine wpAny_BinOp (hI _ _ _ _ _ _ _ _ _ _ ok eo h lr rel _ _ _ F nw ?_)
  intro Va S1 va h1 tk1 ρ1 Z1 N1 F1 n1 rel1 p1 z1 ra hb
  refine hI _ _ _ _ _ _ _ _ _ _ ok eo hb (lr.mono p1 z1) rel1 _ _ _ F1 n1 ?_
  intro Vb S2 vb h2 tk2 ρ2 Z2 N2 F2 n2 rel2 p2 z2 rb hop
  exact wp_binV (s := { s with heap := h2, toks := tk2 }) (ra.mono p2 z2) rb F2 n2 rel2 hop (q.up (p1.trans p2) (z1.trans z2))
-- comparing
theorem wp_cmpV {op : CmpOp} {va vb : V} {a b : Value} {kb : Bool → AS → Prop} {Q E : Value → Shared → Prop} {s : Shared} (un : c.un + 200 < cLine) (ra : VR ρ Z a va) (rb : VR ρ Z b vb) (F : Fr c.h₀ c.L s.heap m) (nw : News c.h₀ c.L s.heap N) (rel : Rel c.w.params ρ S Z N) (hk : cmpV op va vb S kb)
    (q : ∀ r, kb r S → Q (.bool r) s) : wpAny (model PG c.w) c.A (compareOp op a b) Q E s := by
  have hu : c.A.units + 64 < cLine := by show c.un + 64 < cLine; omega
  unfold cmpV at hk
  split at hk
  · cases ra; cases rb; exact lt_int (q _ hk)
  · cases ra; cases rb; exact gt_int (q _ hk)
  · cases ra; cases rb; exact le_int (q _ hk)
  · cases ra; cases rb; exact eq_int (q _ hk)
  · cases ra; cases rb; exact ne_int (q _ hk)
  · rename_i i j
    split at hk
    · rename_i C fs C' fs' hs1 hs2
      cases ra with
      | @ref _ ci hi =>
      cases rb with
      | @ref _ cj hj =>
      rw [getO_eq] at hs1 hs2
      have x1 := rel.own i ci _ hi hs1
      have x2 := rel.own j cj _ hj hs2
      cases ci with
      | l a => exact x1.elim
      | dead a => exact x1.elim
      | o a d =>
      cases cj with
      | l a' => exact x2.elim
      | dead a' => exact x2.elim
      | o a' d' =>
      by_cases hij : i = j
      · subst hij
        rw [hi] at hj
        cases hj
        refine wpAny_is_ref_self (q _ ?_)
        simpa using hk
      · refine wpAny_is_ref_other ?_ (nw _ x1.1).1 (nw _ x2.1).1 (fun e => Value.noConfusion e) (q _ ?_)
        · exact adrs_ne rel.nodup hi hj hij _ (by simp [Cell.adr, Cell.adrs]) _ (by simp [Cell.adr, Cell.adrs])
        · rw [show (i == j) = false by simpa using hij] at hk
          exact hk
    · exact hk.elim
  · cases ra; cases rb; exact wpAny_is_self rfl (q _ hk)
  · cases ra; cases rb; exact wpAny_is_other rfl (fun e => Value.noConfusion e) (q _ hk)
  · rename_i x y z
    cases ra
    cases rb with
    | lst hm h =>
    cases h with
    | cons a b =>
    cases a
    cases b with
    | cons a b =>
    cases a
    cases b
    refine PySem.SeqAt.notIn_list_reads (xs := [.int y, .int z]) (d := .int x) (reads_list_at (nw _ (rel.v _ hm)).1 rfl rfl (.cons (.int _ _) (.cons (.int _ _) .nil))) (.int _ _) (by rfl) (by rfl) (by show c.un + 1 + min _ 0 < cLine; omega) ?_
    have e : List.any [PyData.int y, PyData.int z] (fun d => PyData.eqv d (.int x)) = (x == y || x == z) := by
      simp only [List.any_cons, List.any_nil, Bool.or_false, PyData.eqv]
      rw [show (y == x) = (x == y) from Bool.beq_comm, show (z == x) = (x == z) from Bool.beq_comm]
    rw [e]
    exact q _ hk
  · split at hk
    · rename_i x y e1 e2
      obtain ⟨as, r1⟩ := dat_reads nw rel ra e1
      obtain ⟨bs, r2⟩ := dat_reads nw rel rb e2
      exact eq_dataH r1 r2 hk.1 hk.2.1 hu (q _ hk.2.2)
    · exact hk.elim
  · split at hk
    · rename_i x y e1 e2
      obtain ⟨as, r1⟩ := dat_reads nw rel ra e1
      obtain ⟨bs, r2⟩ := dat_reads nw rel rb e2
      exact ne_dataH r1 r2 hk.1 hk.2.1 hu (q _ hk.2.2)
    · exact hk.elim
  · exact hk.elim
end

section
variable {c : Cx} {env : Env} {m : Loc} {ρ : List Cell} {Z : ZL} {N : Led} {S : AS} {l : Lc} {e a b : PySem.Expr} {p : Pos} {k : KV} {kb : Bool → AS → Prop} {n : Nat} {I : Ev3} {T : Tab} {es : List PySem.Expr}
theorem EnvOk.un' (eo : EnvOk c env n) : c.un + 200 < cLine := by have := eo.un; omega
theorem ea_cmp {op : CmpOp} (hI : SE n I.e) (ok : c.Ok) (eo : EnvOk c env n) (h : I.e env.scope l a S fun va S1 => I.e env.scope l b S1 fun vb S2 => cmpV op va vb S2 fun r S3 => k (.bool r) S3) (lr : LR c env m ρ Z l) (rel : Rel c.w.params ρ S Z N) (hm : behindInMarks op b = false) :
    EvA c env m ρ Z N (.Compare a [op] [b] p) k := by
  intro Q E s F nw q
  refine wpAny_Compare1 (hI _ _ _ _ _ _ _ _ _ _ ok eo h lr rel _ _ _ F nw ?_) hm
  intro Va S1 va h1 tk1 ρ1 Z1 N1 F1 n1 rel1 p1 z1 ra hb
  refine hI _ _ _ _ _ _ _ _ _ _ ok eo hb (lr.mono p1 z1) rel1 _ _ _ F1 n1 ?_
  intro Vb S2 vb h2 tk2 ρ2 Z2 N2 F2 n2 rel2 p2 z2 rb hop
  exact wp_cmpV (s := { s with heap := h2, toks := tk2 }) eo.un' (ra.mono p2 z2) rb F2 n2 rel2 hop fun r hk => q _ S2 _ h2 tk2 ρ2 Z2 N2 F2 n2 rel2 (p1.trans p2) (z1.trans z2) (.bool _) hk
theorem ta_cmp {op : CmpOp} (hI : SE n I.e) (ok : c.Ok) (eo : EnvOk c env n) (h : I.e env.scope l a S fun va S1 => I.e env.scope l b S1 fun vb S2 => cmpV op va vb S2 kb) (lr : LR c env m ρ Z l) (rel : Rel c.w.params ρ S Z N) (hm : behindInMarks op b = false) :
    TsA c env m ρ Z N (.Compare a [op] [b] p) kb := by
  intro Q E s F nw q
  refine wpAny_isTrue_Compare1 (hI _ _ _ _ _ _ _ _ _ _ ok eo h lr rel _ _ _ F nw ?_) hm
  intro Va S1 va h1 tk1 ρ1 Z1 N1 F1 n1 rel1 p1 z1 ra hb
  refine hI _ _ _ _ _ _ _ _ _ _ ok eo hb (lr.mono p1 z1) rel1 _ _ _ F1 n1 ?_
  intro Vb S2 vb h2 tk2 ρ2 Z2 N2 F2 n2 rel2 p2 z2 rb hop
  exact wp_cmpV (s := { s with heap := h2, toks := tk2 }) eo.un' (ra.mono p2 z2) rb F2 n2 rel2 hop fun r hk => wpAny_truthy_bool (q _ S2 h2 tk2 ρ2 Z2 N2 F2 n2 rel2 (p1.trans p2) (z1.trans z2) hk)
theorem ea_not (hI : SE n I.e) (ok : c.Ok) (eo : EnvOk c env n) (h : I.e env.scope l a S fun v S' => (match v with
    | .bool b => k (.bool (!b)) S'
    | _ => False)) (lr : LR c env m ρ Z l) (rel : Rel c.w.params ρ S Z N) : EvA c env m ρ Z N (.UnaryOp .Not a p) k := by
  intro Q E s F nw q
  refine wpAny_UnaryOp (hI _ _ _ _ _ _ _ _ _ _ ok eo h lr rel _ _ _ F nw ?_)
  intro V S1 v h1 tk1 ρ1 Z1 N1 F1 n1 rel1 p1 z1 r hb
  split at hb
  · cases r
    exact not_of (wpAny_truthy_bool (q _ S1 _ h1 tk1 ρ1 Z1 N1 F1 n1 rel1 p1 z1 (.bool _) hb))
  · exact hb.elim
theorem ta_not (hT : ST n I.t) (ok : c.Ok) (eo : EnvOk c env n) (h : I.t env.scope l a S fun b S' => kb (!b) S') (lr : LR c env m ρ Z l) (rel : Rel c.w.params ρ S Z N) : TsA c env m ρ Z N (.UnaryOp .Not a p) kb := by
  intro Q E s F nw q
  refine isTrue_not (hT _ _ _ _ _ _ _ _ _ _ ok eo h lr rel _ _ _ F nw ?_)
  intro b S1 h1 tk1 ρ1 Z1 N1 F1 n1 rel1 p1 z1 hb
  exact q _ S1 h1 tk1 ρ1 Z1 N1 F1 n1 rel1 p1 z1 hb
theorem ta_nil {op : BoolOp} (h : kb (match op with | .And => true | .Or => false) S) (rel : Rel c.w.params ρ S Z N) : TsA c env m ρ Z N (.BoolOp op [] p) kb := by
  intro Q E s F nw q
  cases op with
  | And => exact isTrue_and_nil (q true S s.heap s.toks ρ Z N F nw rel Ext.rfl SubZ.rfl h)
  | Or => exact isTrue_or_nil (q false S s.heap s.toks ρ Z N F nw rel Ext.rfl SubZ.rfl h)
theorem ta_and (hT : ST n I.t) (ok : c.Ok) (eo : EnvOk c env n) (h : I.t env.scope l a S fun b S' => cond b (I.t env.scope l (.BoolOp .And es p) S' kb) (kb false S')) (lr : LR c env m ρ Z l) (rel : Rel c.w.params ρ S Z N) : TsA c env m ρ Z N (.BoolOp .And (a :: es) p) kb := by
  intro Q E s F nw q
  refine isTrue_and (hT _ _ _ _ _ _ _ _ _ _ ok eo h lr rel _ _ _ F nw ?_)
  intro b S1 h1 tk1 ρ1 Z1 N1 F1 n1 rel1 p1 z1 hb
  cases b with
  | false => exact q _ S1 h1 tk1 ρ1 Z1 N1 F1 n1 rel1 p1 z1 hb
  | true => exact hT _ _ _ _ _ _ _ _ _ _ ok eo hb (lr.mono p1 z1) rel1 _ _ _ F1 n1 (q.up p1 z1)
theorem ta_or (hT : ST n I.t) (ok : c.Ok) (eo : EnvOk c env n) (h : I.t env.scope l a S fun b S' => cond b (kb true S') (I.t env.scope l (.BoolOp .Or es p) S' kb)) (lr : LR c env m ρ Z l) (rel : Rel c.w.params ρ S Z N) : TsA c env m ρ Z N (.BoolOp .Or (a :: es) p) kb := by
  intro Q E s F nw q
  refine isTrue_or (hT _ _ _ _ _ _ _ _ _ _ ok eo h lr rel _ _ _ F nw ?_)
  intro b S1 h1 tk1 ρ1 Z1 N1 F1 n1 rel1 p1 z1 hb
  cases b with
  | true => exact q _ S1 h1 tk1 ρ1 Z1 N1 F1 n1 rel1 p1 z1 hb
  | false => exact hT _ _ _ _ _ _ _ _ _ _ ok eo hb (lr.mono p1 z1) rel1 _ _ _ F1 n1 (q.up p1 z1)
theorem ta_val (hI : SE n I.e) (ok : c.Ok) (eo : EnvOk c env n) (h : I.e env.scope l e S fun v S' => (match v with
    | .bool b => kb b S'
    | _ => False)) (lr : LR c env m ρ Z l) (rel : Rel c.w.params ρ S Z N) (hw : PySem.isTrue e env (PySem.eval e env) = (do let v ← PySem.eval e env; standAt e.pos; holding [v] (truthy v))) : TsA c env m ρ Z N e kb := by
  intro Q E s F nw q
  refine isTrue_plain (hI _ _ _ _ _ _ _ _ _ _ ok eo h lr rel _ _ _ F nw ?_) hw
  intro V S1 v h1 tk1 ρ1 Z1 N1 F1 n1 rel1 p1 z1 r hb
  split at hb
  · cases r
    exact wpAny_truthy_bool (q _ S1 h1 tk1 ρ1 Z1 N1 F1 n1 rel1 p1 z1 hb)
  · exact hb.elim
theorem ea_bool1 {op : BoolOp} (hI : SE n I.e) (ok : c.Ok) (eo : EnvOk c env n) (h : I.e env.scope l a S k) (lr : LR c env m ρ Z l) (rel : Rel c.w.params ρ S Z N) : EvA c env m ρ Z N (.BoolOp op [a] p) k := by
  intro Q E s F nw q
  exact BoolOp_one (hI _ _ _ _ _ _ _ _ _ _ ok eo h lr rel _ _ _ F nw q)
theorem ea_bool2 {op : BoolOp} (hI : SE n I.e) (ok : c.Ok) (eo : EnvOk c env n) (h : I.e env.scope l a S fun v S' => (match v, op with
      | .bool true, .And => I.e env.scope l (.BoolOp .And (b :: es) p) S' k
      | .bool false, .And => k (.bool false) S'
      | .bool true, .Or => k (.bool true) S'
      | .bool false, .Or => I.e env.scope l (.BoolOp .Or (b :: es) p) S' k
      | _, _ => False)) (lr : LR c env m ρ Z l) (rel : Rel c.w.params ρ S Z N) : EvA c env m ρ Z N (.BoolOp op (a :: b :: es) p) k := by
  intro Q E s F nw q
  cases op with
  | And =>
    refine BoolOp_and (hI _ _ _ _ _ _ _ _ _ _ ok eo h lr rel _ _ _ F nw ?_)
    intro V S1 v h1 tk1 ρ1 Z1 N1 F1 n1 rel1 p1 z1 r hb
    cases V with
    | bool bb =>
      cases r
      refine wpAny_truthy_bool ?_
      cases bb with
      | true => exact hI _ _ _ _ _ _ _ _ _ _ ok eo hb (lr.mono p1 z1) rel1 _ _ _ F1 n1 (q.up p1 z1)
      | false => exact q _ S1 _ h1 tk1 ρ1 Z1 N1 F1 n1 rel1 p1 z1 (.bool _) hb
    | _ => exact hb.elim
  | Or =>
    refine BoolOp_or (hI _ _ _ _ _ _ _ _ _ _ ok eo h lr rel _ _ _ F nw ?_)
    intro V S1 v h1 tk1 ρ1 Z1 N1 F1 n1 rel1 p1 z1 r hb
    cases V with
    | bool bb =>
      cases r
      refine wpAny_truthy_bool ?_
      cases bb with
      | false => exact hI _ _ _ _ _ _ _ _ _ _ ok eo hb (lr.mono p1 z1) rel1 _ _ _ F1 n1 (q.up p1 z1)
      | true => exact q _ S1 _ h1 tk1 ρ1 Z1 N1 F1 n1 rel1 p1 z1 (.bool _) hb
    | _ => exact hb.elim
-- arguments
theorem starE {a : PySem.Expr} {es : List PySem.Expr} {env : Env} (h : plainE a = true) : starEach (a :: es) env = (false, PySem.eval a env) :: starEach es env := by
  cases a <;> first | rfl | exact absurd h (fun e => Bool.noConfusion e)
theorem eas (hI : SE n I.e) (hp : ∀ sc l a S k, I.e sc l a S k → plainE a = true) (ok : c.Ok) (eo : EnvOk c env n) : ∀ {es : List PySem.Expr} {S : AS} {kk : List V → AS → Prop} {ρ : List Cell} {Z : ZL} {N : Led}, evs (I.e env.scope l) es S kk → LR c env m ρ Z l → Rel c.w.params ρ S Z N → EvsA c env m ρ Z N es kk
  | [], S, kk, ρ, Z, N, h, lr, rel => by
    intro pos Q E s F nw q
    exact args_nil (q [] S [] s.heap s.toks ρ Z N F nw rel Ext.rfl SubZ.rfl .nil h)
  | a :: es, S, kk, ρ, Z, N, h, lr, rel => by
    intro pos Q E s F nw q
    refine args_cons (hI _ _ _ _ _ _ _ _ _ _ ok eo h lr rel _ _ _ F nw ?_) (starE (hp _ _ _ _ _ h))
    intro V S1 v h1 tk1 ρ1 Z1 N1 F1 n1 rel1 p1 z1 r hb
    refine eas hI hp ok eo hb (lr.mono p1 z1) rel1 pos _ _ _ F1 n1 ?_
    intro Vs S2 vs h2 tk2 ρ2 Z2 N2 F2 n2 rel2 p2 z2 rs hk
    exact q _ S2 _ h2 tk2 ρ2 Z2 N2 F2 n2 rel2 (p1.trans p2) (z1.trans z2) (.cons (r.mono p2 z2) rs) hk
theorem ea_list {mu : Bool} (hI : SE n I.e) (hp : ∀ sc l a S k, I.e sc l a S k → plainE a = true) (ok : c.Ok) (eo : EnvOk c env n) (h : evs (I.e env.scope l) es S fun vs S' => mkL mu vs S' k) (lr : LR c env m ρ Z l) (rel : Rel c.w.params ρ S Z N) : EvA c env m ρ Z N (.List es p) k := by
  intro Q E s F nw q
  refine List_ (eas hI hp ok eo h lr rel p _ _ _ F nw ?_)
  intro Vs S2 vs h2 tk2 ρ2 Z2 N2 F2 n2 rel2 p2 z2 rs hk
  exact wp_mkL (s := { s with heap := h2, toks := tk2 }) F2 n2 rel2 rs hk (q.up p2 z2)
theorem ea_tuple {j : Nat} (hI : SE n I.e) (hp : ∀ sc l a S k, I.e sc l a S k → plainE a = true) (ok : c.Ok) (eo : EnvOk c env n) (h : evs (I.e env.scope l) es S fun vs S' => cond (Nat.ble vs.length 1000) (k (.tup vs) S') False) (lr : LR c env m ρ Z l) (rel : Rel c.w.params ρ S Z N) : EvA c env m ρ Z N (.Tuple es j p) k := by
  intro Q E s F nw q
  refine Tuple_ (eas hI hp ok eo h lr rel p _ _ _ F nw ?_)
  intro Vs S2 vs h2 tk2 ρ2 Z2 N2 F2 n2 rel2 p2 z2 rs hk
  cases hz : Nat.ble Vs.length 1000 with
  | false => rw [hz] at hk; exact hk.elim
  | true =>
    rw [hz] at hk
    have hz' := Nat.le_of_ble_eq_true hz
    have hlt := ltNews n2
    refine newTuple_N (s := { s with heap := h2, toks := tk2 }) F2 n2 (fun h'' F'' n'' => ?_) (by rw [sizeLine_eq, rs.length]; omega)
    exact q _ _ _ h'' tk2 ρ2 _ _ F'' n'' (rel2.froz hlt) p2 (z2.trans SubZ.one) (.tup (cc := 0) (.head _) (rs.mono Ext.rfl SubZ.one)) hk
end

theorem isStr_of (n x : PySem.Str) (k : Tok) : (Value.str n k).isStr x = (n == x) := rfl
theorem FR.get {P : Params} {ρ : List Cell} {Z : ZL} {x : PySem.Str} {v : V} : ∀ {es : List DictEntry} {fs : List (PySem.Str × V)}, FR P ρ Z es fs → fld x fs = some v → ∃ u, getL x es = some (some u) ∧ VR ρ Z u v
  | _, _, .nil, h => by simp [fld] at h
  | _, _, .cons (n := n) (k := k) (u := u) (es := es) (fs := fs) a b, h => by
    simp only [fld] at h
    by_cases hx : x = n
    · rw [if_pos hx] at h
      cases h
      subst hx
      refine ⟨u, ?_, a⟩
      simp [getL, isStr_of]
    · rw [if_neg hx] at h
      obtain ⟨u', e, r⟩ := b.get h
      refine ⟨u', ?_, r⟩
      have hn : (n == x) = false := by simpa using fun e => hx e.symm
      unfold getL at e ⊢
      simp only [List.find?_cons, isStr_of, hn]
      cases hf : es.find? (·.key.isStr x) with
      | none =>
        rw [hf] at e
        simp only at e
        split at e
        · cases e
        · cases e
      | some y => rw [hf] at e; exact e
theorem FR.no {P : Params} {ρ : List Cell} {Z : ZL} {x : PySem.Str} : ∀ {es : List DictEntry} {fs : List (PySem.Str × V)}, FR P ρ Z es fs → fld x fs = none → es.find? (·.key.isStr x) = none ∧ es.any (·.refKey) = false ∧ es.any (·.key.isStr x) = false
  | _, _, .nil, h => by simp
  | _, _, .cons (n := n) (k := k) (u := u) (es := es) (fs := fs) a b, h => by
    simp only [fld] at h
    by_cases hx : x = n
    · rw [if_pos hx] at h; cases h
    · rw [if_neg hx] at h
      obtain ⟨e1, e2, e3⟩ := b.no h
      have hn : (n == x) = false := by simpa using fun e => hx e.symm
      refine ⟨by simp only [List.find?_cons, isStr_of, hn]; exact e1, ?_, by simp only [List.any_cons, isStr_of, hn, Bool.false_or]; exact e3⟩
      simp only [List.any_cons, e2, Bool.or_false]
      rfl
theorem FR.put {P : Params} {ρ : List Cell} {Z : ZL} {x : PySem.Str} {v : V} {u : Value} {k : Tok} (r : VR ρ Z u v) : ∀ {es : List DictEntry} {fs : List (PySem.Str × V)}, FR P ρ Z es fs →
    FR P ρ Z (putL x (PyData.keyHash P x) (.str x k) u es) (setF x v fs) ∧ es.length = fs.length
  | _, _, .nil => ⟨.cons r .nil, rfl⟩
  | _, _, .cons (n := n) (k := k') (u := u') (es := es) (fs := fs) a b => by
    obtain ⟨ih, hl⟩ := b.put (x := x) (k := k) r
    refine ⟨?_, congrArg Nat.succ hl⟩
    show FR P ρ Z (if (n == x) = true then ⟨PyData.keyHash P n, .str n k', u⟩ :: es else ⟨PyData.keyHash P n, .str n k', u'⟩ :: putL x (PyData.keyHash P x) (.str x k) u es) (if x = n then (n, v) :: fs else _ :: setF x v fs)
    by_cases hx : x = n
    · subst hx
      rw [if_pos rfl, if_pos (beq_self_eq_true x)]
      exact .cons r b
    · have hn : ¬ (n == x) = true := by simpa using fun e => hx e.symm
      rw [if_neg hn, if_neg hx]
      exact .cons a ih
theorem FR.getSome {P : Params} {ρ : List Cell} {Z : ZL} {x : PySem.Str} {es : List DictEntry} {fs : List (PySem.Str × V)} (f : FR P ρ Z es fs) : (getL x es).isSome = true := by
  cases h : fld x fs with
  | some v => obtain ⟨u, e, _⟩ := f.get h; rw [e]; rfl
  | none =>
    obtain ⟨e1, e2, _⟩ := f.no h
    unfold getL
    rw [e1, e2]
    rfl
theorem setF_len {x : PySem.Str} {v : V} : ∀ {fs : List (PySem.Str × V)}, (setF x v fs).length = if (fld x fs).isSome then fs.length else fs.length + 1
  | [] => rfl
  | (y, u) :: r => by
    by_cases hx : x = y
    · have e1 : setF x v ((y, u) :: r) = (y, v) :: r := by simp only [setF]; rw [if_pos hx]
      have e2 : fld x ((y, u) :: r) = some u := by simp only [fld]; rw [if_pos hx]
      rw [e1, e2]; rfl
    · have e1 : setF x v ((y, u) :: r) = (y, u) :: setF x v r := by simp only [setF]; rw [if_neg hx]
      have e2 : fld x ((y, u) :: r) = fld x r := by simp only [fld]; rw [if_neg hx]
      rw [e1, e2, List.length_cons, setF_len, List.length_cons]
      split <;> rfl
theorem setF_names {x : PySem.Str} {v : V} : ∀ {fs : List (PySem.Str × V)}, ∀ p ∈ setF x v fs, (∃ q ∈ fs, q.1 = p.1) ∨ p.1 = x
  | [], p, h => by simp only [setF, List.mem_singleton] at h; exact .inr (by rw [h])
  | (y, u) :: r, p, h => by
    simp only [setF] at h
    by_cases hx : x = y
    · rw [if_pos hx] at h
      rcases List.mem_cons.mp h with rfl | h
      · exact .inr hx.symm
      · exact .inl ⟨p, .tail _ h, rfl⟩
    · rw [if_neg hx] at h
      rcases List.mem_cons.mp h with rfl | h
      · exact .inl ⟨_, .head _, rfl⟩
      · rcases setF_names p h with ⟨q, hq, e⟩ | e
        · exact .inl ⟨q, .tail _ hq, e⟩
        · exact .inr e
theorem fld_mem {x : PySem.Str} {v : V} : ∀ {fs : List (PySem.Str × V)}, fld x fs = some v → ∃ q ∈ fs, q.1 = x
  | (y, u) :: r, h => by
    simp only [fld] at h
    by_cases hx : x = y
    · exact ⟨_, .head _, hx.symm⟩
    · rw [if_neg hx] at h
      obtain ⟨q, hq, e⟩ := fld_mem h
      exact ⟨q, .tail _ hq, e⟩
theorem FR.putN {P : Params} {ρ : List Cell} {Z : ZL} {x : PySem.Str} {es : List DictEntry} {fs : List (PySem.Str × V)} (f : FR P ρ Z es fs) {v : V} : putN x es fs.length = (setF x v fs).length := by
  rw [setF_len]
  unfold PySem.W.putN
  cases h : fld x fs with
  | some v =>
    have : es.any (·.key.isStr x) = true := by
      cases ha : es.any (·.key.isStr x) with
      | true => rfl
      | false =>
        exfalso
        obtain ⟨u, e, _⟩ := f.get h
        unfold getL at e
        have hf : es.find? (·.key.isStr x) = none := by
          rw [List.find?_eq_none]
          intro y hy hc
          rw [List.any_eq_false] at ha
          exact ha y hy hc
        rw [hf] at e
        simp only at e
        split at e <;> cases e
    rw [this]; rfl
  | none => rw [(f.no h).2.2]; rfl

theorem OR.setL {P : Params} {ρ : List Cell} {Z : ZL} {N : Led} {b : Addr} {ob' : Obj} : ∀ {c : Cell} {o : O}, (∀ x ∈ c.adrs, x ≠ b) → OR P ρ Z N c o → OR P ρ Z (setL N b ob') c o
  | .l a, .lst vs, hn, ⟨us, cc, hm, h⟩ => ⟨us, cc, setL_keep hm (hn a (by simp [Cell.adrs])), h⟩
  | .o a d, .inst C fs, hn, ⟨hm, ic, es, hd, h⟩ => ⟨setL_keep hm (hn a (by simp [Cell.adrs])), ic, es, setL_keep hd (hn d (by simp [Cell.adrs])), h⟩
  | .dead _, .hole, _, _ => trivial
theorem setL_in {N : Led} {b x : Addr} {ob' : Obj} (h : ∃ o, (x, o) ∈ N) : ∃ o, (x, o) ∈ setL N b ob' := by
  obtain ⟨o, ho⟩ := h
  by_cases e : x = b
  · subst e; exact ⟨_, setL_self ho⟩
  · exact ⟨o, setL_keep ho e⟩
theorem Rel.put {P : Params} {ρ : List Cell} {S : AS} {Z : ZL} {N : Led} {i : Nat} {c : Cell} {b : Addr} {ob ob' : Obj} {o' : O} (r : Rel P ρ S Z N) (hc : ρ[i]? = some c) (hb : b ∈ c.adrs) (hm : (b, ob) ∈ N) (h : OR P ρ Z (setL N b ob') c o') : Rel P ρ (S.set i o') Z (setL N b ob') where
  len := by rw [List.length_set]; exact r.len
  own j cj o hj hs := by
    by_cases e : i = j
    · subst e
      rw [hc] at hj
      cases hj
      have hlt : i < S.length := by rw [← r.len]; exact (List.getElem?_eq_some_iff.mp hc).1
      rw [List.getElem?_set_self hlt] at hs
      cases hs
      exact h
    · rw [List.getElem?_set_ne e] at hs
      exact OR.setL (fun x hx => adrs_ne r.nodup hj hc (fun e' => e e'.symm) x hx b hb) (r.own j cj o hj hs)
  sub p hp := setL_keep (r.sub p hp) fun e => r.off p hp (e ▸ mem_adrs hc hb)
  nodup := r.nodup
  off := r.off
  inN x hx := setL_in (r.inN x hx)
  vw := r.vw
theorem Rel.lst {P : Params} {ρ : List Cell} {S : AS} {Z : ZL} {N : Led} {i : Nat} {u : Value} {vs : List V} (r : Rel P ρ S Z N) (h : VR ρ Z u (.ref i)) (hs : getO S i = some (.lst vs)) : ∃ a us cc, ρ[i]? = some (.l a) ∧ u = .ref a ∧ (a, listOf us.toArray cc) ∈ N ∧ VRs ρ Z us vs := by
  cases h with
  | @ref _ c hc =>
    rw [getO_eq] at hs
    have x := r.own i c _ hc hs
    cases c with
    | o a d => exact x.elim
    | dead a => exact x.elim
    | l a =>
      obtain ⟨us, cc, hm, hv⟩ := x
      exact ⟨a, us, cc, hc, rfl, hm, hv⟩
theorem Rel.inst {P : Params} {ρ : List Cell} {S : AS} {Z : ZL} {N : Led} {i : Nat} {u : Value} {C : Nat} {fs : List (PySem.Str × V)} (r : Rel P ρ S Z N) (h : VR ρ Z u (.ref i)) (hs : getO S i = some (.inst C fs)) :
    ∃ a d es, ρ[i]? = some (.o a d) ∧ u = .ref a ∧ (a, instObj C d) ∈ N ∧ (d, dictOf es fs.length) ∈ N ∧ FR P ρ Z es fs ∧ ClsOk P C ∧ ∀ p ∈ fs, AtrOk P C p.1 := by
  cases h with
  | @ref _ c hc =>
    rw [getO_eq] at hs
    have x := r.own i c _ hc hs
    cases c with
    | l a => exact x.elim
    | dead a => exact x.elim
    | o a d =>
      obtain ⟨hm, ic, es, hd, hv⟩ := x
      exact ⟨a, d, es, hc, rfl, hm, hd, hv, ic⟩
section
variable {c : Cx} {env : Env} {m : Loc} {ρ : List Cell} {Z : ZL} {N : Led} {S : AS} {l : Lc} {e a b : PySem.Expr} {p : Pos} {k : KV} {kb : Bool → AS → Prop} {n : Nat} {I : Ev3} {T : Tab} {es : List PySem.Expr}
theorem ea_attr {x : PySem.Str} (hI : SE n I.e) (ok : c.Ok) (eo : EnvOk c env n) (hn : isName a = true) (h : I.e env.scope l a S fun v S' => (match v with
    | .ref i => (match getO S' i with
      | some (.inst C fs) => (match fld x fs with
        | some u => k u S'
        | none => False)
      | _ => False)
    | _ => False)) (lr : LR c env m ρ Z l) (rel : Rel c.w.params ρ S Z N) : EvA c env m ρ Z N (.Attribute a x p) k := by
  intro Q E s F nw q
  refine Attribute_any_ (hI _ _ _ _ _ _ _ _ _ _ ok eo h lr rel _ _ _ F nw ?_) (by cases a <;> first | rfl | exact absurd hn (fun e => Bool.noConfusion e))
  intro V S1 v h1 tk1 ρ1 Z1 N1 F1 n1 rel1 p1 z1 r hb
  split at hb
  · split at hb
    · split at hb
      · rename_i i _ C fs hs _ u hf
        obtain ⟨a, d, es, hc, rfl, hm, hd, fr, co, ao⟩ := rel1.inst r hs
        obtain ⟨u', e', r'⟩ := fr.get hf
        obtain ⟨q', hq, eq⟩ := fld_mem hf
        have hat : AtrOk c.w.params C x := eq ▸ ao q' hq
        refine get_own (h₀ := c.h₀) (L := c.L) (m := m) F1 ok.X (InstAt.of_news n1 hm hd) co.get co.dict hat rfl e' r'.handed ?_
        exact q _ S1 _ h1 _ ρ1 Z1 N1 F1 n1 rel1 p1 z1 r' hb
      · exact hb.elim
    · exact hb.elim
  · exact hb.elim
theorem sub_plain {b : PySem.Expr} (h : noSlice b = true) (o i : Value) : subscripted b false o i = operate [o, i] (getItem o i) := by
  cases b <;> first | rfl | exact absurd h (fun e => Bool.noConfusion e)
theorem wp_sub {va vi : V} {a b : Value} {x y : PySem.Expr} {Q E : Value → Shared → Prop} {s : Shared} (hn : noSlice y = true) (ra : VR ρ Z a va) (rb : VR ρ Z b vi) (F : Fr c.h₀ c.L s.heap m) (nw : News c.h₀ c.L s.heap N) (rel : Rel c.w.params ρ S Z N) (hk : subW va vi S k) (q : PostV c m ρ Z k Q s) :
    wpAny (model PG c.w) c.A (subscriptTail x y a b) Q E s := by
  unfold subW at hk
  split at hk
  · rename_i j
    cases rb
    cases h0 : decide (0 ≤ j) with
    | false => rw [h0] at hk; exact hk.elim
    | true =>
      rw [h0] at hk
      have h0' := of_decide_eq_true h0
      simp only [cond_true] at hk
      split at hk
      · rename_i us e1
        obtain ⟨o, xs, cc, rfl, hm, rs⟩ := rel.seq ra e1
        split at hk
        · rename_i u e2
          obtain ⟨u', e3, r⟩ := rs.get e2
          cases h1 : decide (j < 1000) with
          | false => rw [h1] at hk; exact hk.elim
          | true =>
            rw [h1] at hk
            have h1' := of_decide_eq_true h1
            exact item_litK (News.isList nw hm) h0' (by omega) e3 (q _ S _ s.heap s.toks ρ Z N F nw rel Ext.rfl SubZ.rfl r hk) (sub_plain hn _ _)
        · exact hk.elim
      · split at hk
        · rename_i us
          cases ra with
          | tup hm rs =>
          split at hk
          · rename_i u e2
            obtain ⟨u', e3, r⟩ := rs.get e2
            cases h1 : decide (j < 1000) with
            | false => rw [h1] at hk; exact hk.elim
            | true =>
              rw [h1] at hk
              have h1' := of_decide_eq_true h1
              have hlt := (List.getElem?_eq_some_iff.mp e3).1
              exact item_tupleT (l := _) (j := j.toNat) ⟨_, (nw _ (rel.v _ hm)).1, rfl, _, rfl⟩ (by omega) (by omega) (seqIndex_of h0' (by omega)) e3 (q _ S _ s.heap s.toks ρ Z N F nw rel Ext.rfl SubZ.rfl r hk) (sub_plain hn _ _)
          · exact hk.elim
        · exact hk.elim
  · exact hk.elim
theorem ea_sub (hI : SE n I.e) (ok : c.Ok) (eo : EnvOk c env n) (hn : noSlice b = true) (h : I.e env.scope l a S fun v S1 => I.e env.scope l b S1 fun x S2 => subW v x S2 k) (lr : LR c env m ρ Z l) (rel : Rel c.w.params ρ S Z N) : EvA c env m ρ Z N (.Subscript a b p) k := by
  intro Q E s F nw q
  refine Subscript_ (hI _ _ _ _ _ _ _ _ _ _ ok eo h lr rel _ _ _ F nw ?_)
  intro Va S1 va h1 tk1 ρ1 Z1 N1 F1 n1 rel1 p1 z1 ra hb
  refine hI _ _ _ _ _ _ _ _ _ _ ok eo hb (lr.mono p1 z1) rel1 _ _ _ F1 n1 ?_
  intro Vb S2 vb h2 tk2 ρ2 Z2 N2 F2 n2 rel2 p2 z2 rb hop
  exact wp_sub (s := { s with heap := h2, toks := tk2 }) hn (ra.mono p2 z2) rb F2 n2 rel2 hop (q.up (p1.trans p2) (z1.trans z2))
end

theorem cut_min {α : Type} (xs : List α) (a b : Nat) : (xs.drop (min a xs.length)).take (min b xs.length - min a xs.length) = (xs.drop a).take (b - a) := by
  by_cases ha : a ≤ xs.length
  · rw [Nat.min_eq_left ha]
    by_cases hb : b ≤ xs.length
    · rw [Nat.min_eq_left hb]
    · rw [Nat.min_eq_right (by omega), List.take_of_length_le (by rw [List.length_drop]; exact Nat.le_refl _), List.take_of_length_le (by rw [List.length_drop]; omega)]
  · have e : min a xs.length = xs.length := Nat.min_eq_right (by omega)
    have e2 : xs.drop a = [] := List.drop_of_length_le (by omega)
    have e3 : xs.drop xs.length = [] := List.drop_of_length_le (Nat.le_refl _)
    rw [e, e2, e3, List.take_nil, List.take_nil]
noncomputable def cutV (lo hi : Option Int) (us : List Value) : List Value :=
  match lo, hi with
  | none, none => us
  | some a, none => us.drop a.toNat
  | none, some b => us.take b.toNat
  | some a, some b => (us.drop a.toNat).take (b.toNat - a.toNat)
theorem pick_cut {us : List Value} : ∀ {lo hi : Option Int}, posO lo = true → posO hi = true → slicePick us.toArray lo hi none = (cutV lo hi us).toArray
  | none, none, _, _ => by
    have e : sliceBounds none none none us.toArray.size = (((0 : Nat) : Int), ((us.length : Nat) : Int), 1) := by simp [sliceBounds]
    rw [kmk_pick_nat _ e]
    simp [cutV]
  | some a, none, ha, _ => by
    simp only [posO, Bool.and_eq_true, decide_eq_true_eq] at ha
    have e : sliceBounds (some a) none none us.toArray.size = (((min a.toNat us.length : Nat) : Int), ((us.length : Nat) : Int), 1) := by
      simp only [sliceBounds, Option.getD_none, show (1 : Int) > 0 by decide, if_true, if_neg (show ¬ (a < 0) by omega), List.size_toArray]
      congr 1
      omega
    rw [kmk_pick_nat _ e]
    have := cut_min us a.toNat us.length
    rw [Nat.min_self] at this
    simp only [cutV]
    rw [this, List.take_of_length_le (by rw [List.length_drop]; exact Nat.le_refl _)]
  | none, some b, _, hb => by
    simp only [posO, Bool.and_eq_true, decide_eq_true_eq] at hb
    have e : sliceBounds none (some b) none us.toArray.size = (((0 : Nat) : Int), ((min b.toNat us.length : Nat) : Int), 1) := by
      simp only [sliceBounds, Option.getD_none, show (1 : Int) > 0 by decide, if_true, if_neg (show ¬ (b < 0) by omega), List.size_toArray]
      congr 1
      congr 1
      omega
    rw [kmk_pick_nat _ e]
    have := cut_min us 0 b.toNat
    simp only [Nat.zero_min, Nat.sub_zero, List.drop_zero] at this
    simp only [cutV, Nat.sub_zero, List.drop_zero]
    rw [this]
  | some a, some b, ha, hb => by
    simp only [posO, Bool.and_eq_true, decide_eq_true_eq] at ha hb
    have e : sliceBounds (some a) (some b) none us.toArray.size = (((min a.toNat us.length : Nat) : Int), ((min b.toNat us.length : Nat) : Int), 1) := by
      simp only [sliceBounds, Option.getD_none, show (1 : Int) > 0 by decide, if_true, if_neg (show ¬ (a < 0) by omega), if_neg (show ¬ (b < 0) by omega), List.size_toArray]
      congr 1
      · omega
      · congr 1
        omega
    rw [kmk_pick_nat _ e]
    simp only [cutV]
    rw [cut_min]
theorem VRs.cut {ρ : List Cell} {Z : ZL} {us : List Value} {vs : List V} (h : VRs ρ Z us vs) : ∀ {lo hi : Option Int}, VRs ρ Z (cutV lo hi us) (cutL lo hi vs)
  | none, none => h
  | some a, none => h.drop _
  | none, some b => h.take _
  | some a, some b => (h.drop _).take _
section
variable {c : Cx} {env : Env} {m : Loc} {ρ : List Cell} {Z : ZL} {N : Led} {S : AS} {l : Lc} {e a b : PySem.Expr} {p : Pos} {k : KV} {kb : Bool → AS → Prop} {n : Nat} {I : Ev3} {T : Tab} {es : List PySem.Expr}
theorem wp_opt {x : Option PySem.Expr} {kk : Option Int → AS → Prop} (hI : SE n I.e) (ok : c.Ok) (eo : EnvOk c env n) (h : optW I env.scope x l S kk) (lr : LR c env m ρ Z l) (rel : Rel c.w.params ρ S Z N)
    {Q E : Value → Shared → Prop} {s : Shared} (F : Fr c.h₀ c.L s.heap m) (nw : News c.h₀ c.L s.heap N)
    (q : ∀ o S' v h' tk' ρ' Z' N', Fr c.h₀ c.L h' m → News c.h₀ c.L h' N' → Rel c.w.params ρ' S' Z' N' → Ext ρ ρ' → SubZ Z Z' → IsPart v o → kk o S' → Q v { s with heap := h', toks := tk' }) : wpAny (model PG c.w) c.A (evalPart x env) Q E s := by
  cases x with
  | none => exact evalPart_none_step (q none S _ s.heap s.toks ρ Z N F nw rel Ext.rfl SubZ.rfl .none h)
  | some e =>
    refine evalPart_some_step (hI _ _ _ _ _ _ _ _ _ _ ok eo h lr rel _ _ _ F nw ?_)
    intro V S1 v h1 tk1 ρ1 Z1 N1 F1 n1 rel1 p1 z1 r hb
    split at hb
    · cases r
      exact q _ S1 _ h1 tk1 ρ1 Z1 N1 F1 n1 rel1 p1 z1 (.int _ _) hb
    · exact hb.elim
theorem ea_slice {lo hi : Option PySem.Expr} {p' : Pos} (hI : SE n I.e) (ok : c.Ok) (eo : EnvOk c env n) (h : I.e env.scope l a S fun v S1 => optW I env.scope lo l S1 fun x S2 => optW I env.scope hi l S2 fun y S3 => (match seqOf S3 v with
    | some us => cond (Nat.ble us.length 1000 && posO x && posO y) (k (.lst (cutL x y us)) S3) False
    | none => False)) (lr : LR c env m ρ Z l) (rel : Rel c.w.params ρ S Z N) : EvA c env m ρ Z N (.Subscript a (.Slice lo hi none p') p) k := by
  intro Q E s F nw q
  refine Subscript_ (hI _ _ _ _ _ _ _ _ _ _ ok eo h lr rel _ _ _ F nw ?_)
  intro Va S1 va h1 tk1 ρ1 Z1 N1 F1 n1 rel1 p1 z1 ra hb
  refine wpAny_Slice (wp_opt (s := { s with heap := h1, toks := tk1 }) hI ok eo hb (lr.mono p1 z1) rel1 F1 n1 ?_)
  intro x S2 v2 h2 tk2 ρ2 Z2 N2 F2 n2 rel2 p2 z2 i2 hb2
  refine wp_opt (s := { s with heap := h2, toks := tk2 }) hI ok eo hb2 ((lr.mono p1 z1).mono p2 z2) rel2 F2 n2 ?_
  intro y S3 v3 h3 tk3 ρ3 Z3 N3 F3 n3 rel3 p3 z3 i3 hb3
  refine evalPart_none_step ?_
  split at hb3
  · rename_i us e1
    cases hz : (Nat.ble us.length 1000 && posO x && posO y) with
    | false => rw [hz] at hb3; exact hb3.elim
    | true =>
      rw [hz] at hb3
      simp only [Bool.and_eq_true] at hz
      obtain ⟨⟨hz1, hx⟩, hy⟩ := hz
      have hz' := Nat.le_of_ble_eq_true hz1
      obtain ⟨o, xs, cc, rfl, hm, rs⟩ := rel3.seq ((ra.mono p2 z2).mono p3 z3) e1
      have il : h3.IsList o xs.toArray := News.isList n3 hm
      have n4 := n3.grown (h' := h3.push { cls := .type "slice", data := .fields #[v2, v3, .none] }) fun _ _ e => Heap.get?_push_of_some _ e
      have F4 : Fr c.h₀ c.L (h3.push { cls := .type "slice", data := .fields #[v2, v3, .none] }) m := F3.push _
      have hlt := ltNews n4
      refine tail_any (Heap.IsList.typeIs (s := { s with heap := h3.push { cls := .type "slice", data := .fields #[v2, v3, .none] }, toks := tk3 }) (il.push _)) slot_list_getitem.lookup
        (wpAny_getItem_list_slice (s := { s with heap := h3.push { cls := .type "slice", data := .fields #[v2, v3, .none] }, toks := tk3 }) (il.push _) (Heap.IsSliceOf.new ..) i2 i3 .none (by simp) ?_ (by rw [sizeLine_eq, List.size_toArray, rs.length]; omega)) (by rfl)
      rw [pick_cut hx hy]
      exact q _ S3 _ _ tk3 ρ3 _ _ (F4.push _) (News.push F4 n4 _) (rel3.froz hlt) (p1.trans (p2.trans p3)) ((z1.trans (z2.trans z3)).trans SubZ.one) (.lst (cc := 0) (.head _) (rs.cut.mono Ext.rfl SubZ.one)) hb3
  · exact hb3.elim
-- storing
theorem wp_setAttr {x : PySem.Str} {i C : Nat} {fs : List (PySem.Str × V)} {u o : Value} {v : V} {Q : Unit → Shared → Prop} {E : Value → Shared → Prop} {s : Shared} (ok : c.Ok) (F : Fr c.h₀ c.L s.heap m) (nw : News c.h₀ c.L s.heap N) (rel : Rel c.w.params ρ S Z N)
    (ro : VR ρ Z o (.ref i)) (rv : VR ρ Z u v) (hs : getO S i = some (.inst C fs)) (hz : fs.length ≤ 100) (hx : AtrOk c.w.params C x)
    (q : ∀ h' tk' N', Fr c.h₀ c.L h' m → News c.h₀ c.L h' N' → Rel c.w.params ρ (putO S i (.inst C (setF x v fs))) Z N' → Q () { s with heap := h', toks := tk' }) : wpAny (model PG c.w) c.A (setAttr o x u) Q E s := by
  obtain ⟨a, d, es, hc, rfl, hm, hd, fr, co, ao⟩ := rel.inst ro hs
  obtain ⟨rest, off, n1, sub1, sub2⟩ := newsCut nw hd
  obtain ⟨fr', hl⟩ := fr.put (x := x) (k := s.toks + 1) rv
  have hlen : (setF x v fs).length ≤ 101 := by rw [setF_len]; split <;> omega
  have had : @Ne Nat a d := by
    have hd' := rel.nodup
    have := mem_adrs hc (b := a) (by simp [Cell.adrs])
    intro e
    have e' : a = d := e
    subst e'
    have ma := (nw _ hm).1
    rw [(nw _ hd).1] at ma
    have := congrArg Obj.cls (Option.some.inj ma)
    exact Value.noConfusion this
  refine set_dict (K := KF c.w.params) (h₀ := c.h₀) (L := c.L) (m := m) (C := C) (dx := d) F ok.X n1 (InstAt.of_news nw hm hd) rfl co.setA co.over (by unfold takerIn; rw [show findIn (KF c.w.params) (.ref C) x = some none from hx]; rfl) co.dict fr.getSome rfl (Upd.head off) (by have := fr'.put (x := x) (k := 0) rv; rw [this.2]; omega) fun h' F' n' => ?_
  rw [fr.putN (v := v)] at n'
  refine q h' _ (setL N d (dictOf (putL x (PyData.keyHash c.w.params x) (.str x (s.toks + 1)) u es) (setF x v fs).length)) F' (newsSet n' sub1) ?_
  rw [putO_eq]
  refine rel.put hc (by simp [Cell.adrs]) hd ?_
  refine ⟨setL_keep hm had, ⟨co, fun p hp => ?_⟩, _, setL_self hd, fr'⟩
  rcases setF_names p hp with ⟨q', hq, e⟩ | e
  · rw [← e]; exact ao q' hq
  · rw [e]; exact hx
theorem wp_setItem {i : Nat} {vs : List V} {j : Int} {t : Tok} {u o : Value} {v : V} {Q : Unit → Shared → Prop} {E : Value → Shared → Prop} {s : Shared} (F : Fr c.h₀ c.L s.heap m) (nw : News c.h₀ c.L s.heap N) (rel : Rel c.w.params ρ S Z N)
    (ro : VR ρ Z o (.ref i)) (rv : VR ρ Z u v) (hs : getO S i = some (.lst vs)) (h0 : 0 ≤ j) (hj : j < vs.length) (hz : vs.length ≤ 1000)
    (q : ∀ h' tk' N', Fr c.h₀ c.L h' m → News c.h₀ c.L h' N' → Rel c.w.params ρ (putO S i (.lst (vs.set j.toNat v))) Z N' → Q () { s with heap := h', toks := tk' }) : wpAny (model PG c.w) c.A (setItem o (.int j t) u) Q E s := by
  obtain ⟨a, us, cc, hc, rfl, hm, rs⟩ := rel.lst ro hs
  obtain ⟨rest, off, n1, sub1, sub2⟩ := newsCut nw hm
  have hlen := rs.length
  refine ki_setAt (n := cc) (items := us.toArray) (nw _ hm).1 h0 (by omega) (by rw [List.size_toArray]; omega) ?_
  have n2 : News c.h₀ c.L (s.heap.update a (Obj.mapSeq (·.setIfInBounds j.toNat u))) ((a, listOf (us.set j.toNat u).toArray cc) :: rest) :=
    ki_turn (pre := []) (post := rest) (its := us.toArray) (n := cc) (D := a) (fun x => x.setIfInBounds j.toNat u) n1 (fun _ h => nomatch h) off (by simp) (by simp)
  refine q _ s.toks (setL N a (listOf (us.set j.toNat u).toArray cc)) (F.change (Heap.SameBut.update ..) (nw _ hm).2.1 (nw _ hm).2.2) (newsSet n2 sub1) ?_
  rw [putO_eq]
  exact rel.put hc (by simp [Cell.adrs]) hm ⟨_, _, setL_self hm, rs.set rv _⟩
theorem wp_append {i : Nat} {vs : List V} {u o : Value} {v : V} {Q : Value → Shared → Prop} {E : Value → Shared → Prop} {s : Shared} (F : Fr c.h₀ c.L s.heap m) (nw : News c.h₀ c.L s.heap N) (rel : Rel c.w.params ρ S Z N)
    (ro : VR ρ Z o (.ref i)) (rv : VR ρ Z u v) (hs : getO S i = some (.lst vs)) (hz : vs.length ≤ 1000)
    (q : ∀ h' tk' N', Fr c.h₀ c.L h' m → News c.h₀ c.L h' N' → Rel c.w.params ρ (putO S i (.lst (vs ++ [v]))) Z N' → Q .none { s with heap := h', toks := tk' }) : wpAny (model PG c.w) c.A (call (.builtin "list.append") [o, u]) Q E s := by
  obtain ⟨a, us, cc, hc, rfl, hm, rs⟩ := rel.lst ro hs
  obtain ⟨rest, off, n1, sub1, sub2⟩ := newsCut nw hm
  have hlen := rs.length
  refine append_K (its := us.toArray) (n := cc) F n1 (Upd.head off) (fun h' F' n' => ?_) (by rw [sizeLine_eq, List.size_toArray]; omega)
  have e : us.toArray.push u = (us ++ [u]).toArray := by simp
  rw [e] at n'
  refine q h' s.toks (setL N a (listOf (us ++ [u]).toArray (cc + 1))) F' (newsSet n' sub1) ?_
  rw [putO_eq]
  exact rel.put hc (by simp [Cell.adrs]) hm ⟨_, _, setL_self hm, rs.append (.cons rv .nil)⟩
end

theorem plain_any {env : Env} {p : Pos} : ∀ {es : List PySem.Expr}, es.all plainE = true → (backTo p (starEach es env)).any (·.1) = false
  | [], _ => rfl
  | a :: r, h => by
    simp only [List.all_cons, Bool.and_eq_true] at h
    rw [starE h.1]
    show (false || (backTo p (starEach r env)).any (·.1)) = false
    rw [plain_any h.2]
    rfl
theorem plain_form {env : Env} {p : Pos} : ∀ {es : List PySem.Expr}, es.all plainE = true → (backTo p (starEach es env)).all (!·.1) = true
  | [], _ => rfl
  | a :: r, h => by
    simp only [List.all_cons, Bool.and_eq_true] at h
    rw [starE h.1]
    show (true && (backTo p (starEach r env)).all (!·.1)) = true
    rw [plain_form h.2]
    rfl
noncomputable def CtrT (w : World) (n : Nat) (N : Led) (f : Addr) (args : List Value) (Post : Value → Led → Prop) : Prop :=
  ∀ (c : Cx) (m : Loc) (s : Shared) (Q E : Value → Shared → Prop), c.w = w → c.Ok → (n = 40 → TopAt c) → c.dp + n < recursionLimit → c.un + (3 * n + 200) < cLine → Fr c.h₀ c.L s.heap m → News c.h₀ c.L s.heap N →
    (∀ v h' tk' N', Fr c.h₀ c.L h' m → News c.h₀ c.L h' N' → Post v N' → Q v { s with heap := h', toks := tk' }) → wpAny (model PG w) c.A (call (.ref f) args) Q E s
theorem Ctr.toT {w : World} {n : Nat} {N : Led} {f : Addr} {args : List Value} {Post : Value → Led → Prop} (h : Ctr w n (3 * n + 200) N f args Post) : CtrT w n N f args Post := by
  intro c m s Q E hw ok _ h1 h2 F nw q
  subst hw
  exact call_ctr ok h h1 h2 F nw q
structure TabOk (w : World) (n : Nat) (T : Tab) : Prop where
  cal : ∀ a Vs S k, T.cal a Vs S k → ∀ ρ Z N us, Rel w.params ρ S Z N → VRs ρ Z us Vs → CtrT w n N a us (fun v N' => ∃ ρ' Z' S' V, Rel w.params ρ' S' Z' N' ∧ Ext ρ ρ' ∧ SubZ Z Z' ∧ VR ρ' Z' v V ∧ k V S')
  glob : ∀ x a, T.glb x = some (.glob a) → (x == Str.ofString "__debug__") = false ∧ nsIn (KF w.params) mainGlobals x = some (some (.ref a)) ∧ keepIn (KF w.params) (.ref a) = true
  num : ∀ x i, T.glb x = some (.int i) → (x == Str.ofString "__debug__") = false ∧ ∃ t, nsIn (KF w.params) mainGlobals x = some (some (.int i t))
  bi : ∀ x b, T.glb x = some (.ty b) → (x == Str.ofString "__debug__") = false ∧ nsIn (KF w.params) mainGlobals x = some none ∧ x = b.str
  mth : ∀ C x a, T.mth C x = some a → findIn (KF w.params) (.ref C) x = some (some (.ref a)) ∧ isFn (KF w.params) (.ref a) = true ∧ keepIn (KF w.params) (.ref a) = true
  atr : ∀ C x, T.atr C x = true → AtrOk w.params C x
theorem bi_boot (b : Bi) : bootBuiltins b.str = some b.val ∧ b.str ≠ Str.ofString "__name__" := by
  cases b <;> exact ⟨by kernel_rfl, by decide⟩
section
variable {c : Cx} {env : Env} {m : Loc} {ρ : List Cell} {Z : ZL} {N : Led} {S : AS} {l : Lc} {e a b : PySem.Expr} {p : Pos} {k : KV} {kb : Bool → AS → Prop} {n : Nat} {I : Ev3} {T : Tab} {es : List PySem.Expr}
theorem isB_wp {u : Value} {v : V} {Q E : Value → Shared → Prop} {s : Shared} (h : isDat v = true) (r : VR ρ Z u v) (nw : News c.h₀ c.L s.heap Z.v) (q : ∀ tk, Q (.bool (isB v)) { s with toks := tk }) : wpAny (model PG c.w) c.A (call (.builtin "isinstance") [u, .type "bool"]) Q E s := by
  cases r with
  | none => exact PySem.IsiPair.NoneType_bool (q _)
  | bool b => exact PySem.IsiPair.bool_bool (q s.toks)
  | int x t => exact PySem.IsiPair.int_bool (q _)
  | tup hm _ => exact PySem.IsiPair.tuple_bool (nw _ hm).1 rfl (q _)
  | lst hm _ => exact PySem.IsiPair.list_bool (nw _ hm).1 rfl (q _)
  | _ => exact absurd h (fun e => Bool.noConfusion e)
theorem bools {us : List Value} : ∀ {vs : List V}, VRs ρ Z us vs → vs.all isB = true → LSm.BoolsAre us (vs.map bOf)
  | _, .nil, _ => .nil
  | _, .cons a b, h => by
    simp only [List.all_cons, Bool.and_eq_true] at h
    cases a with
    | bool bb => exact .cons _ (bools b h.2)
    | _ => exact absurd h.1 (fun e => Bool.noConfusion e)
theorem wp_bcal {bi : Bi} {us : List Value} {vs : List V} {Q E : Value → Shared → Prop} {s : Shared} (rs : VRs ρ Z us vs) (F : Fr c.h₀ c.L s.heap m) (nw : News c.h₀ c.L s.heap N) (rel : Rel c.w.params ρ S Z N) (hk : bcal bi vs S k) (q : PostV c m ρ Z k Q s) :
    wpAny (model PG c.w) c.A (call bi.val us) Q E s := by
  have hh : c.A.handled = none := by rfl
  unfold bcal at hk
  split at hk
  · rename_i x
    cases rs with
    | cons a b =>
    cases b
    cases a
    cases hz : (decide (x ≤ 1000) && decide (-1000 ≤ x)) with
    | false => rw [hz] at hk; exact hk.elim
    | true =>
      rw [hz] at hk
      refine call_range_1 ?_
      exact q _ S _ _ _ ρ _ _ (F.push _) (nw.push F _) (rel.froz (ltNews nw)) Ext.rfl SubZ.one (.rng (t := s.toks) (u := _) (v := s.toks + 1) (.head _)) hk
  · rename_i xs
    cases rs with
    | cons a b =>
    cases b
    cases a with
    | tup hm h =>
    cases hz : Nat.ble xs.length 1000 with
    | false => rw [hz] at hk; exact hk.elim
    | true =>
      rw [hz] at hk
      have hz' := Nat.le_of_ble_eq_true hz
      have hl := h.length
      refine len_tuple ⟨_, (nw _ (rel.v _ hm)).1, rfl, _, rfl⟩ (by rw [List.size_toArray]; omega) ?_
      rw [List.size_toArray, hl]
      exact q _ S _ s.heap _ ρ Z N F nw rel Ext.rfl SubZ.rfl (.int _ _) hk
  · rename_i v _
    cases rs with
    | cons a b =>
    cases b
    split at hk
    · rename_i xs e1
      obtain ⟨o, ys, cc, rfl, hm, ry⟩ := rel.seq a e1
      cases hz : Nat.ble xs.length 1000 with
      | false => rw [hz] at hk; exact hk.elim
      | true =>
        rw [hz] at hk
        have hz' := Nat.le_of_ble_eq_true hz
        exact kst_len nw hm ry.length (by omega) (q _ S _ s.heap _ ρ Z N F nw rel Ext.rfl SubZ.rfl (.int _ _) hk)
    · exact hk.elim
  · rename_i v
    cases rs with
    | cons a b =>
    cases b with
    | cons b b' =>
    cases b'
    cases b
    cases hz : isDat v with
    | false => rw [hz] at hk; exact hk.elim
    | true =>
      rw [hz] at hk
      exact isB_wp hz a (newsSub nw rel.v) fun tk => q _ S _ s.heap _ ρ Z N F nw rel Ext.rfl SubZ.rfl (.bool _) hk
  · cases rs with
    | cons a b =>
    cases b with
    | cons b b' =>
    cases b' with
    | cons d b'' =>
    cases b''
    cases a
    cases b
    cases d
    refine min_three_ints hh fun h' tk hkp => ?_
    have F' : Fr c.h₀ c.L h' m := F.keeps hkp
    have n' : News c.h₀ c.L h' N := nw.grown hkp
    rename_i x y z tx ty tz
    obtain ⟨t', e⟩ : ∃ t', (if y < x then (if z < y then Value.int z tz else .int y ty) else (if z < x then .int z tz else .int x tx)) = Value.int (if y < x then (if z < y then z else y) else (if z < x then z else x)) t' := by
      split <;> split <;> exact ⟨_, rfl⟩
    rw [e]
    exact q _ S _ h' tk ρ Z N F' n' rel Ext.rfl SubZ.rfl (.int _ _) hk
  · rename_i xs
    cases rs with
    | cons a b =>
    cases b
    cases a with
    | lst hm h =>
    cases hz : xs.all isB with
    | false => rw [hz] at hk; exact hk.elim
    | true =>
      rw [hz] at hk
      refine LSm.any_bools F nw hh (News.isList nw (rel.v _ hm)) (bools h hz) fun h' tk F' n' => ?_
      rw [show (xs.map bOf).any id = xs.any bOf by rw [List.any_map]; rfl]
      exact q _ S _ h' tk ρ Z N F' n' rel Ext.rfl SubZ.rfl (.bool _) hk
  · rename_i xs
    cases rs with
    | cons a b =>
    cases b
    cases a with
    | lst hm h =>
    cases hz : xs.all isB with
    | false => rw [hz] at hk; exact hk.elim
    | true =>
      rw [hz] at hk
      refine LSm.all_bools F nw hh (News.isList nw (rel.v _ hm)) (bools h hz) fun h' tk F' n' => ?_
      rw [show (xs.map bOf).all id = xs.all bOf by rw [List.all_map]; rfl]
      exact q _ S _ h' tk ρ Z N F' n' rel Ext.rfl SubZ.rfl (.bool _) hk
  · exact hk.elim
-- calls
theorem name_glob {x : PySem.Str} {u : Value} {Q E : Value → Shared → Prop} {s : Shared} (ok : c.Ok) (eo : EnvOk c env n) (hl : locK env.scope x = true) (hd : (x == Str.ofString "__debug__") = false) (e : nsIn (KF c.w.params) mainGlobals x = some (some u)) (F : Fr c.h₀ c.L s.heap m) (q : Q u s) :
    wpAny (model PG c.w) c.A (PySem.eval (.Name x p) env) Q E s := by
  have hl' : env.kindOf x = some .globalImplicit := beq_iff_eq.mp hl
  refine PySem.Calls.Name_function_global eo.k hl' (PySem.Calls.loadGlobal_global (env := env) (by rw [eo.g]; exact (topRead_of ok.T).g.keeps F.keep) (mg_of ok.X (topRead_of ok.T).g e) ?_) hd
  exact q
theorem name_bi {x : PySem.Str} {b : Bi} {Q E : Value → Shared → Prop} {s : Shared} (ok : c.Ok) (eo : EnvOk c env n) (hl : locK env.scope x = true) (hd : (x == Str.ofString "__debug__") = false) (e : nsIn (KF c.w.params) mainGlobals x = some none) (hb : x = b.str) (F : Fr c.h₀ c.L s.heap m) (q : Q b.val s) :
    wpAny (model PG c.w) c.A (PySem.eval (.Name x p) env) Q E s := by
  have hl' : env.kindOf x = some .globalImplicit := beq_iff_eq.mp hl
  have bb := bi_boot b
  refine PySem.Calls.Name_function_global eo.k hl' (PySem.Calls.loadGlobal_builtin (env := env) (show s.heap.Ns env.globals c.mg from eo.g ▸ (ok.T.keeps F.keep).g) (mg_none_of ok.X ok.T.g e) (show s.heap.Ns env.builtins c.mb from eo.b ▸ (ok.T.keeps F.keep).b) ((ok.T.builtins x (hb ▸ bb.2)).trans (hb ▸ bb.1)) ?_) hd
  exact q
theorem wp_cal {a : Nat} {us : List Value} {Vs : List V} {Q E : Value → Shared → Prop} {s : Shared} (to : TabOk c.w n T) (ok : c.Ok) (eo : EnvOk c env n) (hk : T.cal a Vs S k) (rs : VRs ρ Z us Vs) (F : Fr c.h₀ c.L s.heap m) (nw : News c.h₀ c.L s.heap N) (rel : Rel c.w.params ρ S Z N) (q : PostV c m ρ Z k Q s) :
    wpAny (model PG c.w) c.A (call (.ref a) us) Q E s := by
  refine to.cal a Vs S k hk ρ Z N us rel rs c _ _ _ _ rfl ok eo.top eo.dp (by have := eo.un; omega) F nw fun v h' tk' N' F' n' x => ?_
  obtain ⟨ρ', Z', S', V, rel', p1, z1, r, hk'⟩ := x
  exact q V S' v h' tk' ρ' Z' N' F' n' rel' p1 z1 r hk'
theorem ea_callG {x : PySem.Str} {a : Nat} {p' : Pos} (hI : SE n I.e) (hp : ∀ sc l a S k, I.e sc l a S k → plainE a = true) (to : TabOk c.w n T) (ok : c.Ok) (eo : EnvOk c env n) (hl : locK env.scope x = true) (hall : es.all plainE = true) (hg : T.glb x = some (.glob a))
    (h : evs (I.e env.scope l) es S fun vs S' => T.cal a vs S' k) (lr : LR c env m ρ Z l) (rel : Rel c.w.params ρ S Z N) : EvA c env m ρ Z N (.Call (.Name x p') es [] p) k := by
  intro Q E s F nw q
  obtain ⟨g1, g2, g3⟩ := to.glob x a hg
  refine Call_ (name_glob ok eo hl g1 g2 F ?_) (by rfl)
  cases es with
  | nil =>
    refine callWith_K0 (K := KF c.w.params) (ok.X.keeps F.keep) g3 ?_
    exact wp_cal to ok eo h .nil F nw rel q
  | cons e r =>
    have hall' := hall
    simp only [List.all_cons, Bool.and_eq_true] at hall'
    refine callWith_K (K := KF c.w.params) (h₀ := c.h₀) ok.X g3 (eas hI hp ok eo h lr rel p _ _ _ F nw ?_) (starE hall'.1) (plain_any hall'.2)
    intro Vs S1 vs h1 tk1 ρ1 Z1 N1 F1 n1 rel1 p1 z1 rs hk
    exact ⟨ok.X.keeps F1.keep, wp_cal to ok eo hk rs F1 n1 rel1 (q.up p1 z1)⟩
theorem ea_callB {x : PySem.Str} {b : Bi} {p' : Pos} (hI : SE n I.e) (hp : ∀ sc l a S k, I.e sc l a S k → plainE a = true) (to : TabOk c.w n T) (ok : c.Ok) (eo : EnvOk c env n) (hl : locK env.scope x = true) (hall : es.all plainE = true) (hg : T.glb x = some (.ty b)) (hne : es.isEmpty = false)
    (h : evs (I.e env.scope l) es S fun vs S' => bcal b vs S' k) (lr : LR c env m ρ Z l) (rel : Rel c.w.params ρ S Z N) : EvA c env m ρ Z N (.Call (.Name x p') es [] p) k := by
  intro Q E s F nw q
  obtain ⟨g1, g2, g3⟩ := to.bi x b hg
  refine Call_ (name_bi ok eo hl g1 g2 g3 F ?_) (by rfl)
  cases es with
  | nil => exact absurd hne (fun e => Bool.noConfusion e)
  | cons e r =>
    have hall' := hall
    simp only [List.all_cons, Bool.and_eq_true] at hall'
    have tail : wpAny (model PG c.w) c.A (spliced (backTo p (starEach (e :: r) env))) (fun vs s₁ => wpAny (model PG c.w) c.A (call b.val vs) Q E s₁) E s := by
      refine eas hI hp ok eo h lr rel p _ _ _ F nw ?_
      intro Vs S1 vs h1 tk1 ρ1 Z1 N1 F1 n1 rel1 p1 z1 rs hk
      exact wp_bcal rs F1 n1 rel1 hk (q.up p1 z1)
    cases b with
    | range => exact PySem.Pv.callWith_type1 tail (starE hall'.1) (plain_any hall'.2)
    | bool => exact PySem.Pv.callWith_type1 tail (starE hall'.1) (plain_any hall'.2)
    | _ => exact PyProof.Rows.callWith_builtin1 tail (starE hall'.1) (plain_any hall'.2)
end

theorem base_eq {e : PySem.Expr} {x : PySem.Str} {env : Env} (h : baseOk e = true) : attributeBase e x env (PySem.eval e env) = PySem.eval e env := by
  unfold baseOk at h
  split at h
  · rfl
  · rfl
  · unfold attributeBase
    simp only [h, Bool.true_or, if_true, bind_pure]
  · cases h
theorem meth_eq {e : PySem.Expr} {x : PySem.Str} {env : Env} {es : List PySem.Expr} {p ap : Pos} (h : baseOk e = true) (hall : es.all plainE = true) (hl : Nat.blt es.length 20 = true) (hp : (ap.endLine == p.line) = true) :
    PySem.eval (.Call (.Attribute e x ap) es [] p) env = (do
      let ov ← PySem.eval e env
      standAt ap.atName
      let (f, first) ← holding [ov] (getMethod ov x (do return (← importBound e env).getD true))
      callWith p f first (backTo p (starEach es env)) []) := by
  have hform : methodCallForm (es.length + ([] : List Keyword).length) (backTo p (starEach es env)) (backToKw p (keywordEach [] env)) = true := by
    unfold methodCallForm
    rw [plain_form hall]
    have : es.length < 20 := by
      have h' := hl
      simp only [Nat.blt] at h'
      have := Nat.le_of_ble_eq_true h'
      omega
    show (true && true && decide (es.length + 0 + 0 < 30)) = true
    simp
    omega
  rw [arm_eval_Call, base_eq h]
  unfold methodCall
  rw [hform]
  unfold calleeOf methodCallPos
  simp only [if_true, hp, Bool.not_true, Bool.false_or, pure_bind]
  rfl
section
variable {c : Cx} {env : Env} {m : Loc} {ρ : List Cell} {Z : ZL} {N : Led} {S : AS} {l : Lc} {e a b : PySem.Expr} {p ap : Pos} {k : KV} {kb : Bool → AS → Prop} {n : Nat} {I : Ev3} {T : Tab} {es : List PySem.Expr}
theorem ea_meth {x : PySem.Str} (hI : SE n I.e) (hp : ∀ sc l a S k, I.e sc l a S k → plainE a = true) (to : TabOk c.w n T) (ok : c.Ok) (eo : EnvOk c env n) (hb : baseOk e = true) (hall : es.all plainE = true) (hlen : Nat.blt es.length 20 = true) (hpos : (ap.endLine == p.line) = true)
    (h : I.e env.scope l e S fun v S' => methW T I env.scope x es l v S' k) (lr : LR c env m ρ Z l) (rel : Rel c.w.params ρ S Z N) : EvA c env m ρ Z N (.Call (.Attribute e x ap) es [] p) k := by
  intro Q E s F nw q
  refine MethodCall_ (hI _ _ _ _ _ _ _ _ _ _ ok eo h lr rel _ _ _ F nw ?_) (meth_eq hb hall hlen hpos)
  intro V S1 v h1 tk1 ρ1 Z1 N1 F1 n1 rel1 p1 z1 r hk
  unfold methW at hk
  split at hk
  · rename_i i
    split at hk
    · rename_i C fs hs
      split at hk
      · rename_i a hf hm
        obtain ⟨aa, d, es', hc, rfl, hmm, hd, fr, co, ao⟩ := rel1.inst r hs
        obtain ⟨m1, m2, m3⟩ := to.mth C x a hm
        have hg : getL x es' = some none := by
          obtain ⟨e1, e2, _⟩ := fr.no hf
          unfold getL
          rw [e1, e2]
          rfl
        refine method_inst (K := KF c.w.params) (h₀ := c.h₀) (L := c.L) (m := m) (s := { s with heap := h1, toks := tk1 }) F1 ok.X (InstAt.of_news n1 hmm hd) co.get m1 m2 hg ?_
        cases es with
        | nil =>
          refine callWith_K0 (K := KF c.w.params) (ok.X.keeps F1.keep) m3 ?_
          exact wp_cal to ok eo hk (.cons r .nil) F1 n1 rel1 (q.up p1 z1)
        | cons e rs =>
          have hall' := hall
          simp only [List.all_cons, Bool.and_eq_true] at hall'
          refine callWith_K (K := KF c.w.params) (h₀ := c.h₀) ok.X m3 (eas hI hp ok eo hk (lr.mono p1 z1) rel1 p _ _ _ F1 n1 ?_) (starE hall'.1) (plain_any hall'.2)
          intro Vs S2 vs h2 tk2 ρ2 Z2 N2 F2 n2 rel2 p2 z2 rs hk
          exact ⟨ok.X.keeps F2.keep, wp_cal to ok eo hk (.cons (r.mono p2 z2) rs) F2 n2 rel2 (q.up (p1.trans p2) (z1.trans z2))⟩
      · exact hk.elim
    · rename_i us hs
      cases hx : (x == Str.ofString "append") with
      | false => rw [hx] at hk; exact hk.elim
      | true =>
        rw [hx] at hk
        have hx' := beq_iff_eq.mp hx
        subst hx'
        simp only [cond_true] at hk
        rcases es with _ | ⟨a, _ | ⟨b, r'⟩⟩
        · exact hk.elim
        · simp only at hk
          obtain ⟨aa, xs, cc, hc, rfl, hmm, rx⟩ := rel1.lst r hs
          refine listMethod_K (s := { s with heap := h1, toks := tk1 }) n1 hmm PySem.F.slot_list_append PySem.F.type_list_append ?_
          have hall' := hall
          simp only [List.all_cons, Bool.and_eq_true] at hall'
          have core : wpAny (model PG c.w) c.A (spliced (backTo p (starEach [a] env))) (fun vs s₁ => wpAny (model PG c.w) c.A (call (.builtin "list.append") ([Value.ref aa] ++ vs)) Q E s₁) E { s with heap := h1, toks := tk1 } := by
            refine args_cons (hI _ _ _ _ _ _ _ _ _ _ ok eo hk (lr.mono p1 z1) rel1 _ _ _ F1 n1 ?_) (starE hall'.1)
            intro V2 S2 v2 h2 tk2 ρ2 Z2 N2 F2 n2 rel2 p2 z2 r2 hk2
            refine args_nil ?_
            split at hk2
            · rename_i us2 hs2
              cases hz : Nat.ble us2.length 1000 with
              | false => rw [hz] at hk2; exact hk2.elim
              | true =>
                rw [hz] at hk2
                have hz' := Nat.le_of_ble_eq_true hz
                refine wp_append (s := { s with heap := h2, toks := tk2 }) F2 n2 rel2 (r.mono p2 z2) r2 hs2 hz' fun h3 tk3 N3 F3 n3 rel3 => ?_
                exact q _ _ _ h3 tk3 ρ2 Z2 N3 F3 n3 rel3 (p1.trans p2) (z1.trans z2) .none hk2
            · exact hk2.elim
          rw [starE hall'.1] at core ⊢
          exact Calls.callWith_builtin (by rfl) (Calls.evalArgs_plain core)
        · exact hk.elim
    · exact hk.elim
  · exact hk.elim
end

noncomputable def clo (cells : List (PySem.Str × Addr)) : List (PySem.Str × NameKind) → List (PySem.Str × Addr) → List (PySem.Str × Addr)
  | [], acc => acc
  | (y, k) :: r, acc => if (k == .free) = true then (match cells.lookup y with
    | some a => clo cells r ((y, a) :: acc)
    | none => clo cells r acc) else clo cells r acc
theorem clo_for (env : Env) : ∀ (names : List (PySem.Str × NameKind)) (acc : List (PySem.Str × Addr)), (∀ p ∈ names, p.2 = .free → (env.cells.lookup p.1).isSome = true) →
    (forIn names acc fun x r => (do
      if (x.2 == .free) = true then do
        let a ← cellOf env x.1
        pure (ForInStep.yield ((x.1, a) :: r))
      else pure (ForInStep.yield r) : Sem (ForInStep (List (PySem.Str × Addr))))) = pure (clo env.cells names acc)
  | [], acc, _ => by simp [clo]
  | (y, k) :: r, acc, h => by
    rw [List.forIn_cons]
    have ih := fun acc => clo_for env r acc fun p hp => h p (.tail _ hp)
    by_cases hk : (k == .free) = true
    · have hc := h (y, k) (.head _) (beq_iff_eq.mp hk)
      obtain ⟨a, ha⟩ := Option.isSome_iff_exists.mp hc
      have e : cellOf env y = pure a := by unfold cellOf; rw [show env.cells.lookup y = some a from ha]
      simp only [hk, if_true, e, pure_bind, clo]
      rw [show env.cells.lookup y = some a from ha]
      exact ih _
    · simp only [hk, if_false, pure_bind, clo]
      exact ih _
theorem clo_eq {scope : Scope} {env : Env} (h : ∀ p ∈ scope.names, p.2 = .free → (env.cells.lookup p.1).isSome = true) : closureFor scope env = pure (clo env.cells scope.names []) := by
  rw [← clo_for env scope.names [] h]
  unfold closureFor
  simp only [bind_pure]
theorem clo_con {cells : List (PySem.Str × Addr)} : ∀ {names : List (PySem.Str × NameKind)} {acc : List (PySem.Str × Addr)}, (∀ z a, acc.lookup z = some a → cells.lookup z = some a) → ∀ z a, (clo cells names acc).lookup z = some a → cells.lookup z = some a
  | [], _, h => h
  | (y, k) :: r, acc, h => by
    intro z a
    simp only [clo]
    by_cases hk : (k == .free) = true
    · rw [if_pos hk]
      cases hc : cells.lookup y with
      | none => exact clo_con h z a
      | some b =>
        refine clo_con (fun z' a' => ?_) z a
        rw [List.lookup_cons]
        cases hz : z' == y with
        | true =>
          intro e
          cases e
          rw [beq_iff_eq.mp hz]
          exact hc
        | false => exact h z' a'
    · rw [if_neg hk]
      exact clo_con h z a
theorem clo_has {cells : List (PySem.Str × Addr)} {z : PySem.Str} : ∀ {names : List (PySem.Str × NameKind)} {acc : List (PySem.Str × Addr)}, ((∃ k, (z, k) ∈ names ∧ k = .free) ∧ (cells.lookup z).isSome = true) ∨ (acc.lookup z).isSome = true → ((clo cells names acc).lookup z).isSome = true
  | [], _, h => by
    rcases h with ⟨⟨k, hm, _⟩, _⟩ | h
    · cases hm
    · exact h
  | (y, k) :: r, acc, h => by
    simp only [clo]
    by_cases hk : (k == .free) = true
    · rw [if_pos hk]
      cases hc : cells.lookup y with
      | none =>
        refine clo_has ?_
        rcases h with ⟨⟨k', hm, hf⟩, hs⟩ | h
        · rcases List.mem_cons.mp hm with e | hm
          · cases e
            rw [hc] at hs
            cases hs
          · exact .inl ⟨⟨k', hm, hf⟩, hs⟩
        · exact .inr h
      | some b =>
        refine clo_has ?_
        rcases h with ⟨⟨k', hm, hf⟩, hs⟩ | h
        · rcases List.mem_cons.mp hm with e | hm
          · cases e
            right
            rw [List.lookup_cons, beq_self_eq_true]
            rfl
          · exact .inl ⟨⟨k', hm, hf⟩, hs⟩
        · right
          rw [List.lookup_cons]
          cases hz : z == y with
          | true => rfl
          | false => exact h
    · rw [if_neg hk]
      refine clo_has ?_
      rcases h with ⟨⟨k', hm, hf⟩, hs⟩ | h
      · rcases List.mem_cons.mp hm with e | hm
        · cases e
          exact absurd (beq_iff_eq.mpr hf) hk
        · exact .inl ⟨⟨k', hm, hf⟩, hs⟩
      · exact .inr h
theorem clo_at {cells : List (PySem.Str × Addr)} {names : List (PySem.Str × NameKind)} {z : PySem.Str} {a : Addr} (h : (z, NameKind.free) ∈ names) (hc : cells.lookup z = some a) : (clo cells names []).lookup z = some a := by
  have h1 := clo_has (cells := cells) (z := z) (names := names) (acc := []) (.inl ⟨⟨_, h, rfl⟩, by rw [hc]; rfl⟩)
  obtain ⟨b, hb⟩ := Option.isSome_iff_exists.mp h1
  have h2 := clo_con (cells := cells) (names := names) (acc := []) (fun z a h => by simp at h) z b hb
  rw [hc] at h2
  cases h2
  exact hb
theorem mem_lookup {z : PySem.Str} {k : NameKind} : ∀ {names : List (PySem.Str × NameKind)}, names.lookup z = some k → (z, k) ∈ names
  | [], h => by simp at h
  | (y, k') :: r, h => by
    rw [List.lookup_cons] at h
    cases hz : z == y with
    | true =>
      rw [hz] at h
      cases h
      rw [beq_iff_eq.mp hz]
      exact .head _
    | false =>
      rw [hz] at h
      exact .tail _ (mem_lookup h)
theorem relab_free {env : Env} {z : PySem.Str} (hk : env.scope.kind = .function) (he : env.kindOf z = some .cell) : ∀ {names : List (PySem.Str × NameKind)}, names.lookup z = some .free →
    (names.map fun (n, k) => if (k == NameKind.free && env.scope.kind == .function && env.kindOf n == some .cell) then (n, NameKind.cell) else (n, k)).lookup z = some .cell
  | [], h => by simp at h
  | (y, k) :: r, h => by
    rw [List.lookup_cons] at h
    cases hz : z == y with
    | true =>
      rw [hz] at h
      cases h
      have hz' := beq_iff_eq.mp hz
      subst hz'
      simp [hk, he]
    | false =>
      rw [hz] at h
      have ih := relab_free hk he h
      show List.lookup z ((if (k == NameKind.free && env.scope.kind == .function && env.kindOf y == some .cell) = true then (y, NameKind.cell) else (y, k)) :: _) = _
      by_cases hc : (k == NameKind.free && env.scope.kind == .function && env.kindOf y == some .cell) = true
      · rw [if_pos hc, List.lookup_cons, hz]; exact ih
      · rw [if_neg hc, List.lookup_cons, hz]; exact ih
structure CompOk (env : Env) (l : Lc) (cs : Scope) (x : PySem.Str) : Prop where
  dbg : (x == Str.ofString "__debug__") = false
  kind : cs.kind = .function
  hx : cs.names.lookup x = some .local
  cell : ∀ y ∈ cs.names, y.2 ≠ .cell
  loc : ∀ y ∈ cs.names, y.2 = .local → cs.names.lookup y.1 = some .local
  free : ∀ y ∈ cs.names, y.2 = .free → cs.names.lookup y.1 = some .free ∧ env.kindOf y.1 = some .cell ∧ (fld y.1 l).isSome = true
theorem compOk_of {env : Env} {l : Lc} {cs : Scope} {x : PySem.Str} (h : compOk env.scope l cs x = true) : CompOk env l cs x := by
  unfold compOk at h
  simp only [Bool.and_eq_true, List.all_eq_true, beq_iff_eq, bne_iff_ne, Bool.or_eq_true, ne_eq] at h
  obtain ⟨⟨⟨h0, h1⟩, h2⟩, h3⟩ := h
  refine ⟨beq_eq_false_iff_ne.mpr h0, h1, h2, fun y hy => (h3 y hy).1.1, fun y hy hl => ?_, fun y hy hf => ?_⟩
  · rcases (h3 y hy).1.2 with h | h
    · exact absurd hl h
    · exact h
  · rcases (h3 y hy).2 with h | h
    · exact absurd hf h
    · exact ⟨h.1.1, h.1.2, h.2⟩
theorem capt_fld {cs : Scope} {z : PySem.Str} {v : V} : ∀ {l : Lc}, fld z (capt cs l) = some v → fld z l = some v ∧ cs.names.lookup z = some .free
  | [], h => by simp [capt, fld] at h
  | (y, u) :: r, h => by
    simp only [capt] at h
    cases hc : (cs.names.lookup y == some .free) with
    | true =>
      rw [hc] at h
      simp only [cond_true, fld] at h ⊢
      by_cases hz : z = y
      · rw [if_pos hz] at h ⊢
        subst hz
        exact ⟨h, beq_iff_eq.mp hc⟩
      · rw [if_neg hz] at h ⊢
        exact capt_fld h
    | false =>
      rw [hc] at h
      simp only [cond_false, fld] at h ⊢
      by_cases hz : z = y
      · subst hz
        have := capt_fld h
        rw [this.2] at hc
        cases hc
      · rw [if_neg hz]
        exact capt_fld h
section
variable {c : Cx} {env : Env} {m : Loc} {ρ : List Cell} {Z : ZL} {N : Led} {S : AS} {l : Lc} {cs : Scope} {n : Nat} {x : PySem.Str}
theorem closed (co : CompOk env l cs x) (lr : LR c env m ρ Z l) : closureFor cs env = pure (clo env.cells cs.names []) := clo_eq fun p hp hf => by
  obtain ⟨h1, h2, h3⟩ := co.free p hp hf
  obtain ⟨v, hv⟩ := Option.isSome_iff_exists.mp h3
  obtain ⟨u, _, _, _, hc⟩ := lr _ v hv
  obtain ⟨a, o, e, _⟩ := hc h2
  rw [e]; rfl
theorem eo_comp (eo : EnvOk c env n) (hk : cs.kind = .function) {C : Addr} {cl : List (PySem.Str × Addr)} : EnvOk c (compEnvC cs cl C env) n := ⟨eo.top, eo.g, eo.b, hk, eo.dp, eo.un⟩
theorem lr_comp (eo : EnvOk c env n) (co : CompOk env l cs x) {C : Addr} {oC : Obj} {m₂ : Loc} {u : Value} {v : V} (hC : (C, oC) ∈ Z.w) (hN : LCg.NsObj oC m₂) (hx : m₂ x = some u) (r : VR ρ Z u v) (lr : LR c env m ρ Z l) :
    LR c (compEnvC cs (clo env.cells cs.names []) C env) m ρ Z ((x, v) :: capt cs l) := by
  intro z w hz
  simp only [fld] at hz
  by_cases hzx : z = x
  · rw [if_pos hzx] at hz
    cases hz
    subst hzx
    refine ⟨u, r, fun N' hs p Q E s F nw q => ?_, co.dbg, fun hk => ?_⟩
    · exact LCgL.ld_own nw (hs _ (List.mem_append.mpr (.inr hC))) hN hx q co.kind (lookup_relabel_local co.hx) co.dbg
    · have : (compEnvC cs (clo env.cells cs.names []) C env).kindOf z = some .local := lookup_relabel_local co.hx
      rw [this] at hk
      cases hk
  · rw [if_neg hzx] at hz
    obtain ⟨h1, h2⟩ := capt_fld hz
    obtain ⟨u', r', _, hd', hc⟩ := lr z w h1
    obtain ⟨hf1, hf2, hf3⟩ := co.free (z, .free) (mem_lookup h2) rfl
    obtain ⟨a, o, e, hm, ho⟩ := hc hf2
    have ha := clo_at (mem_lookup h2) e
    have hk : (compEnvC cs (clo env.cells cs.names []) C env).kindOf z = some .cell := relab_free eo.k hf2 h2
    exact ⟨u', r', fun N' hs p Q E s F nw q => lcf_cell nw ha (hs _ hm) ho q co.kind hk hd', hd', fun _ => ⟨a, o, ha, hm, ho⟩⟩
end

section
variable {c : Cx} {env : Env} {m : Loc} {ρ : List Cell} {Z : ZL} {N : Led} {S : AS} {l : Lc} {cs : Scope} {n : Nat} {x : PySem.Str} {k : KV} {I : Ev3} {T : Tab}
theorem rel_pin3 (rel : Rel c.w.params ρ S Z N) {a b d : Addr} {oa ob od : Obj} (off : LCg.Off3 a b d N) (h1 : @Ne Nat a b) (h2 : @Ne Nat a d) (h3 : @Ne Nat b d) :
    Rel c.w.params ρ S ⟨Z.v, (a, oa) :: (b, ob) :: (d, od) :: Z.w⟩ ((a, oa) :: (b, ob) :: (d, od) :: N) := by
  have o := off.mem
  have r1 : Rel c.w.params ρ S (Z.pin (d, od)) ((d, od) :: N) := rel.pin fun p hp => (o p hp).2.2
  have r2 : Rel c.w.params ρ S ((Z.pin (d, od)).pin (b, ob)) ((b, ob) :: (d, od) :: N) := r1.pin fun p hp => by
    rcases List.mem_cons.mp hp with rfl | hp
    · exact Ne.symm h3
    · exact (o p hp).2.1
  exact r2.pin fun p hp => by
    rcases List.mem_cons.mp hp with rfl | hp
    · exact Ne.symm h1
    · rcases List.mem_cons.mp hp with rfl | hp
      · exact Ne.symm h2
      · exact (o p hp).1
theorem rel_cut3 {ρ2 : List Cell} {Z2 : ZL} {N2 w : Led} {S2 : AS} (rel : Rel c.w.params ρ2 S2 Z2 N2) {a b d : Addr} {oa ob od : Obj} (hs : Sub ((a, oa) :: (b, ob) :: (d, od) :: w) Z2.w) (off : LCg.Off3 a b d w) :
    Rel c.w.params ρ2 S2 ⟨Z2.v, w⟩ (N2.filter fun p => decide (p.1 ≠ a ∧ p.1 ≠ b ∧ p.1 ≠ d)) := by
  refine rel.cutX [a, b, d] (fun y hy => ?_) (fun p hp => hs _ (.tail _ (.tail _ (.tail _ hp)))) (fun p hp hm => ?_) (fun p hp hm => ?_) fun p hp => (List.mem_filter.mp hp).1
  · rcases List.mem_cons.mp hy with rfl | hy
    · exact ⟨_, hs _ (.head _)⟩
    · rcases List.mem_cons.mp hy with rfl | hy
      · exact ⟨_, hs _ (.tail _ (.head _))⟩
      · rw [List.mem_singleton.mp hy]
        exact ⟨_, hs _ (.tail _ (.tail _ (.head _)))⟩
  · have o := off.mem p hp
    rcases List.mem_cons.mp hm with e | hm
    · exact o.1 e
    · rcases List.mem_cons.mp hm with e | hm
      · exact o.2.1 e
      · exact o.2.2 (List.mem_singleton.mp hm)
  · refine List.mem_filter.mpr ⟨hp, decide_eq_true ⟨fun e => hm ?_, fun e => hm ?_, fun e => hm ?_⟩⟩
    · rw [e]; exact .head _
    · rw [e]; exact .tail _ (.head _)
    · rw [e]; exact .tail _ (.tail _ (.head _))
theorem off3_sub {a b d : Addr} {N w : Led} (h : LCg.Off3 a b d N) (hs : Sub w N) : LCg.Off3 a b d w := LCg.Off3.of fun p hp => h.mem p (hs p hp)
theorem off3_filter {a b d : Addr} {N : Led} : LCg.Off3 a b d (N.filter fun p => decide (p.1 ≠ a ∧ p.1 ≠ b ∧ p.1 ≠ d)) := LCg.Off3.of fun p hp => of_decide_eq_true (List.mem_filter.mp hp).2
theorem comp_rest {elt : PySem.Expr} {Sx : Led → Prop} {Pv : Nat → Value → Prop} {Fin : List Value → Led → Prop} {s : Shared} (Z0 : ZL) (hI : SE n I.e) (ok : c.Ok) (eo : EnvOk c env n) (co : CompOk env l cs x) (hSx : ∀ N', Sub Z0.v N' → Sx N') :
    ∀ (vs : List V) (i : Nat) (ys : List Value) (yVs : List V) (S : AS) (ρ : List Cell) (Z : ZL) (N : Led) (kk : List V → AS → Prop), compW (fun u S2 k2 => I.e (relab cs env.scope) ((x, u) :: capt cs l) elt S2 k2) vs S kk → LR c env m ρ Z l → Rel c.w.params ρ S Z N → SubZ Z0 Z → VRs ρ Z ys yVs →
      (∀ j v u, vs[j]? = some v → Pv (i + j) u → VR ρ Z u v) →
      (∀ ys' ρ' Z' S' N' Vs', Rel c.w.params ρ' S' Z' N' → Ext ρ ρ' → SubZ Z Z' → VRs ρ' Z' ys' (yVs ++ Vs') → kk Vs' S' → Fin ys' N') →
      LCg.CompRest PG c.w c.A c.h₀ c.L m env elt x cs (clo env.cells cs.names []) s Sx Pv Fin vs.length i ys N
  | [], i, ys, yVs, S, ρ, Z, N, kk, h, lr, rel, hz, ry, hP, fin => LCg.CompRest.zero (fin ys ρ Z S N [] rel Ext.rfl SubZ.rfl (by rw [List.append_nil]; exact ry) h)
  | v :: r, i, ys, yVs, S, ρ, Z, N, kk, h, lr, rel, hz, ry, hP, fin => by
    refine LCg.CompRest.succ ?_
    intro u I' oI C oC D m₂ h1 tk1 E' hPu hN hx F1 n1 off dis
    have r1 := rel_pin3 (oa := oI) (ob := oC) (od := LCg.lst ys) rel off dis.1 dis.2.1 dis.2.2
    have sz : SubZ Z ⟨Z.v, (I', oI) :: (C, oC) :: (D, LCg.lst ys) :: Z.w⟩ := ⟨Sub.rfl, fun p hp => .tail _ (.tail _ (.tail _ hp))⟩
    have rv : VR ρ Z u v := hP 0 v u rfl (by rw [Nat.add_zero]; exact hPu)
    have lr1 := lr_comp (x := x) (cs := cs) eo co (Z := ⟨Z.v, (I', oI) :: (C, oC) :: (D, LCg.lst ys) :: Z.w⟩) (C := C) (oC := oC) (.tail _ (.head _)) hN hx (rv.mono Ext.rfl sz) (lr.mono Ext.rfl sz)
    refine hI _ _ _ _ _ _ _ _ _ _ ok (eo_comp eo co.kind) h lr1 r1 _ _ _ F1 n1 ?_
    intro V S2 v2 h2 tk2 ρ2 Z2 N2 F2 n2 rel2 p2 z2 rv2 k2
    have rel3 := rel_cut3 rel2 z2.2 (off3_sub off fun p hp => rel.sub p (List.mem_append.mpr (.inr hp)))
    have sz3 : SubZ Z ⟨Z2.v, Z.w⟩ := ⟨z2.1, Sub.rfl⟩
    refine ⟨h2, tk2, N2.filter fun p => decide (p.1 ≠ I' ∧ p.1 ≠ C ∧ p.1 ≠ D), rfl, F2, fun p hp => n2 p ?_, off3_filter, hSx _ ((hz.1.trans z2.1).trans rel3.v), ?_⟩
    · rcases List.mem_cons.mp hp with rfl | hp
      · exact rel2.sub _ (List.mem_append.mpr (.inr (z2.2 _ (.head _))))
      · rcases List.mem_cons.mp hp with rfl | hp
        · exact rel2.sub _ (List.mem_append.mpr (.inr (z2.2 _ (.tail _ (.head _)))))
        · rcases List.mem_cons.mp hp with rfl | hp
          · exact rel2.sub _ (List.mem_append.mpr (.inr (z2.2 _ (.tail _ (.tail _ (.head _))))))
          · exact (List.mem_filter.mp hp).1
    · refine comp_rest Z0 hI ok eo co hSx r (i + 1) (ys ++ [v2]) (yVs ++ [V]) S2 ρ2 ⟨Z2.v, Z.w⟩ _ _ k2 (lr.mono p2 sz3) rel3 ⟨hz.1.trans z2.1, hz.2⟩ ((ry.mono p2 sz3).append (.cons (VR.monoV (Z := Z2) (Z' := ⟨Z2.v, Z.w⟩) Ext.rfl Sub.rfl rv2) .nil)) (fun j v' u' hj hPj => ?_) fun ys' ρ' Z' S' N' Vs' rel' p' z' rys kk' => ?_
      · exact (hP (j + 1) v' u' hj (by rw [show i + (j + 1) = i + 1 + j by omega]; exact hPj)).mono p2 sz3
      · exact fin ys' ρ' Z' S' N' (V :: Vs') rel' (p2.trans p') (sz3.trans z') (by rw [List.append_assoc] at rys; exact rys) kk'
end

theorem rngL_len {n : Int} : (rngL n).length = n.toNat := by simp [rngL]
theorem rngL_get {n : Int} {j : Nat} {v : V} (h : (rngL n)[j]? = some v) : v = .int (j : Int) := by
  unfold rngL at h
  rw [List.getElem?_map] at h
  cases e : (List.range n.toNat)[j]? with
  | none => rw [e] at h; cases h
  | some i =>
    rw [e] at h
    have : i = j := by
      have := List.getElem?_eq_some_iff.mp e
      simpa using this.2.symm
    subst this
    cases h
    rfl
theorem off1_mem {D : Addr} : ∀ {l : List (Addr × Obj)}, LCg.Off1 D l → ∀ p ∈ l, p.1 ≠ D
  | [], _, _, hp => absurd hp List.not_mem_nil
  | _ :: _, x, p, hp => by
    rcases List.mem_cons.mp hp with rfl | hp
    · exact x.1
    · exact off1_mem x.2 p hp
theorem notSet_eq {e : PySem.Expr} (h : notSet e = true) (env : Env) : ∀ x, foldedSetIterable e env x = pure x := by
  intro x
  cases e <;> first | rfl | exact absurd h (fun e => Bool.noConfusion e)
section
variable {c : Cx} {env : Env} {m : Loc} {ρ : List Cell} {Z : ZL} {N : Led} {S : AS} {l : Lc} {cs : Scope} {n : Nat} {x : PySem.Str} {k : KV} {I : Ev3} {T : Tab} {p : Pos}
theorem post_mkL {mu : Bool} {ys : List Value} {vs : List V} {D : Addr} {cc : Nat} (rel : Rel c.w.params ρ S Z N) (off : ∀ p ∈ N, p.1 ≠ D) (rv : VRs ρ Z ys vs) (h : mkL mu vs S k) :
    ∃ ρ' Z' S' V, Rel c.w.params ρ' S' Z' ((D, listOf ys.toArray cc) :: N) ∧ Ext ρ ρ' ∧ SubZ Z Z' ∧ VR ρ' Z' (.ref D) V ∧ k V S' := by
  unfold mkL at h
  cases hz : Nat.ble vs.length 1000 with
  | false => rw [hz] at h; exact h.elim
  | true =>
    rw [hz] at h
    cases mu with
    | true => exact ⟨_, Z, _, _, rel.newLO off rv, Ext.app, SubZ.rfl, .ref (c := .l D) (by rw [← rel.len]; simp), h⟩
    | false => exact ⟨ρ, _, S, _, rel.frozO off, Ext.rfl, SubZ.one, .lst (.head _) (rv.mono Ext.rfl SubZ.one), h⟩
inductive SrcV (c : Cx) (ρ : List Cell) (Z : ZL) : Value → List V → Prop
  | lst {ax : Addr} {xs : List Value} {cc : Nat} {us : List V} (hm : (ax, listOf xs.toArray cc) ∈ Z.v) (h : VRs ρ Z xs us) (hz : us.length ≤ 1000) : SrcV c ρ Z (.ref ax) us
  | rng {r : Addr} {j : Int} {t u v : Tok} (hm : (r, rngOf j t u v) ∈ Z.v) (h1 : j ≤ 1000) (h2 : -1000 ≤ j) : SrcV c ρ Z (.ref r) (rngL j)
theorem comp_src {elt : PySem.Expr} {Fin : Shared → List Value → Led → Prop} {u : Value} {us : List V} {s : Shared} {kk : List V → AS → Prop} (hI : SE n I.e) (ok : c.Ok) (eo : EnvOk c env n) (co : CompOk env l cs x) (hs : SrcV c ρ Z u us)
    (h : compW (fun u S2 k2 => I.e (relab cs env.scope) ((x, u) :: capt cs l) elt S2 k2) us S kk) (lr : LR c env m ρ Z l) (rel : Rel c.w.params ρ S Z N) (F : Fr c.h₀ c.L s.heap m) (nw : News c.h₀ c.L s.heap N)
    (fin : ∀ g ys' ρ' Z' S' N' Vs', Rel c.w.params ρ' S' Z' N' → Ext ρ ρ' → SubZ Z Z' → VRs ρ' Z' ys' Vs' → kk Vs' S' → Fin { s with heap := g } ys' N') :
    LCg.CompSrc PG c.w c.A c.h₀ c.L m env elt x cs (clo env.cells cs.names []) Fin u s := by
  have hh : c.A.handled = none := by rfl
  cases hs with
  | @lst ax xs cc us hm hv hz =>
    have hl := hv.length
    refine LCg.CompSrc.ledger hh F nw (rel.v _ hm) (by rw [sizeLine_eq, List.size_toArray]; omega) fun g => ?_
    have := comp_rest (Sx := LCg.SrcAt c.h₀ ax xs.toArray) (Pv := fun i v => xs.toArray[i]? = some v) (Fin := Fin { s with heap := g }) (s := { s with heap := g }) Z hI ok eo co (fun N' hs => .inr ⟨_, hs _ hm, rfl, _, rfl⟩) us 0 [] [] S ρ Z N kk h lr rel SubZ.rfl .nil (fun j v u hj hp => ?_) fun ys' ρ' Z' S' N' Vs' a b d e f => fin g ys' ρ' Z' S' N' Vs' a b d e f
    · rw [← hl, ← List.size_toArray] at this
      exact this
    · obtain ⟨u', hu, r⟩ := hv.get hj
      rw [Nat.zero_add] at hp
      have hp' : xs[j]? = some u := by simpa using hp
      rw [hu] at hp'
      cases hp'
      exact r
  | @rng r j t u v hm h1 h2 =>
    have hr : IsRange s.heap r 0 j 1 t u v := (nw _ (rel.v _ hm)).1
    refine LCg.CompSrc.range (n := j.toNat) hh F nw hr (small_one (by omega) (by omega) (by omega) (by omega)) (by rw [rangeSize_one]; split <;> omega) (by rw [sizeLine_eq]; omega) fun g => ?_
    have := comp_rest (Sx := fun _ => True) (Pv := fun i v => ∃ t, v = .int (0 + (i : Int)) t) (Fin := Fin { s with heap := g }) (s := { s with heap := g }) Z hI ok eo co (fun N' hs => trivial) (rngL j) 0 [] [] S ρ Z N kk h lr rel SubZ.rfl .nil (fun i v u hj hp => ?_) fun ys' ρ' Z' S' N' Vs' a b d e f => fin g ys' ρ' Z' S' N' Vs' a b d e f
    · rw [rngL_len] at this
      exact this
    · have := rngL_get hj
      subst this
      obtain ⟨t, rfl⟩ := hp
      rw [show (0 : Int) + ((0 + i : Nat) : Int) = (i : Int) by omega]
      exact .int _ _
noncomputable def FinOk (c : Cx) (ρ : List Cell) (Z : ZL) (s : Shared) (mu : Bool) (k : KV) (Fin : Shared → List Value → Led → Prop) : Prop :=
  ∀ g ys' ρ' Z' S' N' Vs', Rel c.w.params ρ' S' Z' N' → Ext ρ ρ' → SubZ Z Z' → VRs ρ' Z' ys' Vs' → mkL mu Vs' S' k → Fin { s with heap := g } ys' N'
theorem comp_map {elt : PySem.Expr} {Sx : Led → Prop} {Pv : Nat → Value → Prop} {Fin : List Value → Led → Prop} {s : Shared} (g : V → V) {cl : List (PySem.Str × Addr)} (hSx : Sx N) {vs₀ : List V}
    (helt : ∀ C oC m₂ u v h tk (N1 : Led), Sub N N1 → (C, oC) ∈ N1 → LCg.NsObj oC m₂ → m₂ x = some u → VR ρ Z u v → v ∈ vs₀ → Fr c.h₀ c.L h m → News c.h₀ c.L h N1 → ∀ (Q E' : Value → Shared → Prop), (∀ u' tk', VR ρ Z u' (g v) → Q u' { s with heap := h, toks := tk' }) → wpAny (model PG c.w) c.A (PySem.eval elt (compEnvC cs cl C env)) Q E' { s with heap := h, toks := tk }) :
    ∀ (vs : List V) (i : Nat) (ys : List Value) (yVs : List V), (∀ v ∈ vs, v ∈ vs₀) → VRs ρ Z ys yVs → (∀ j v u, vs[j]? = some v → Pv (i + j) u → VR ρ Z u v) → (∀ ys', VRs ρ Z ys' (yVs ++ vs.map g) → Fin ys' N) →
      LCg.CompRest PG c.w c.A c.h₀ c.L m env elt x cs cl s Sx Pv Fin vs.length i ys N
  | [], i, ys, yVs, hv, ry, hP, fin => LCg.CompRest.zero (fin ys (by rw [List.map_nil, List.append_nil]; exact ry))
  | v :: r, i, ys, yVs, hv, ry, hP, fin => by
    refine LCg.CompRest.succ ?_
    intro u I' oI C oC D m₂ h1 tk1 E' hPu hN hx F1 n1 off dis
    have rv : VR ρ Z u v := hP 0 v u rfl (by rw [Nat.add_zero]; exact hPu)
    refine helt C oC m₂ u v h1 tk1 ((I', oI) :: (C, oC) :: (D, LCg.lst ys) :: N) (fun p hp => .tail _ (.tail _ (.tail _ hp))) (.tail _ (.head _)) hN hx rv (hv v (.head _)) F1 n1 _ _ fun u' tk' r' => ?_
    refine ⟨h1, tk', N, rfl, F1, n1, off, hSx, ?_⟩
    refine comp_map g hSx helt r (i + 1) (ys ++ [u']) (yVs ++ [g v]) (fun v' hv' => hv v' (.tail _ hv')) (ry.append (.cons r' .nil)) (fun j v' u'' hj hp => hP (j + 1) v' u'' hj (by rw [show i + (j + 1) = i + 1 + j by omega]; exact hp)) fun ys' rys => fin ys' ?_
    rw [List.append_assoc] at rys
    exact rys
theorem src_comp {mu : Bool} {elt : PySem.Expr} {V' : V} {v : Value} {s : Shared} {Fin : Shared → List Value → Led → Prop} (hI : SE n I.e) (to : TabOk c.w n T) (ok : c.Ok) (eo : EnvOk c env n) (co : CompOk env l cs x) (r : VR ρ Z v V')
    (hb : CompH T I env.scope l elt x cs mu k V' S) (lr : LR c env m ρ Z l) (rel : Rel c.w.params ρ S Z N) (F : Fr c.h₀ c.L s.heap m) (nw : News c.h₀ c.L s.heap N) (fo : FinOk c ρ Z s mu k Fin) :
    LCg.CompSrc PG c.w c.A c.h₀ c.L m env elt x cs (clo env.cells cs.names []) Fin v s := by
  unfold CompH at hb
  cases V' with
  | lst us =>
    cases r with
    | lst hm hv =>
    cases hz : Nat.ble us.length 1000 with
    | false => simp only [hz] at hb; exact hb.elim
    | true =>
      simp only [hz] at hb
      exact comp_src hI ok eo co (.lst hm hv (Nat.le_of_ble_eq_true hz)) hb lr rel F nw fun g ys' ρ' Z' S' N' Vs' a b d e f => fo g ys' ρ' Z' S' N' Vs' a b d e f
  | rng j =>
    cases r with
    | rng hm =>
    cases hz : (decide (j ≤ 1000) && decide (-1000 ≤ j)) with
    | false => simp only [hz] at hb; exact hb.elim
    | true =>
      simp only [hz] at hb
      simp only [Bool.and_eq_true, decide_eq_true_eq] at hz
      exact comp_src hI ok eo co (.rng hm hz.1 hz.2) hb lr rel F nw fun g ys' ρ' Z' S' N' Vs' a b d e f => fo g ys' ρ' Z' S' N' Vs' a b d e f
  | ref i =>
    simp only at hb
    split at hb
    · rename_i us hs
      obtain ⟨a, xs, cc, hc, rfl, hm, rx⟩ := rel.lst r hs
      cases hz : Nat.ble us.length 1000 with
      | false => simp only [hz] at hb; exact hb.elim
      | true =>
        simp only [hz, cond_true] at hb
        have hz' := Nat.le_of_ble_eq_true hz
        have hl := rx.length
        have core : ∀ g : V → V, (∀ C oC m₂ u v h tk (N1 : Led), Sub N N1 → (C, oC) ∈ N1 → LCg.NsObj oC m₂ → m₂ x = some u → VR ρ Z u v → v ∈ us → Fr c.h₀ c.L h m → News c.h₀ c.L h N1 → ∀ (s' : Shared) (Q E' : Value → Shared → Prop), (∀ u' tk', VR ρ Z u' (g v) → Q u' { s' with heap := h, toks := tk' }) → wpAny (model PG c.w) c.A (PySem.eval elt (compEnvC cs (clo env.cells cs.names []) C env)) Q E' { s' with heap := h, toks := tk }) →
            mkL mu (us.map g) S k → LCg.CompSrc PG c.w c.A c.h₀ c.L m env elt x cs (clo env.cells cs.names []) Fin (.ref a) s := by
          intro g helt hk
          refine LCg.CompSrc.ledger (by rfl) F nw hm (by rw [sizeLine_eq, List.size_toArray]; omega) fun h => ?_
          have := comp_map (Sx := LCg.SrcAt c.h₀ a xs.toArray) (Pv := fun i v => xs.toArray[i]? = some v) (Fin := Fin { s with heap := h }) (s := { s with heap := h }) (cl := clo env.cells cs.names []) g (vs₀ := us) (.inr ⟨_, hm, rfl, _, rfl⟩) (fun C oC m₂ u v h' tk N1 a1 a2 a3 a4 a5 a6 a7 a8 Q E' q => helt C oC m₂ u v h' tk N1 a1 a2 a3 a4 a5 a6 a7 a8 { s with heap := h } Q E' q) us 0 [] [] (fun _ h => h) .nil (fun j v u hj hp => ?_) fun ys' rys => fo h ys' ρ Z S N _ rel Ext.rfl SubZ.rfl rys hk
          · rw [← hl, ← List.size_toArray] at this
            exact this
          · obtain ⟨u', hu, r⟩ := rx.get hj
            rw [Nat.zero_add] at hp
            have hp' : xs[j]? = some u := by simpa using hp
            rw [hu] at hp'
            cases hp'
            exact r
        cases hcp : isCopy x elt with
        | true =>
          simp only [hcp, cond_true] at hb
          refine core (fun v => v) (fun C oC m₂ u v h tk N1 _ hC hN hx rv _ F1 n1 s' Q E' q => ?_) (by rw [List.map_id']; exact hb)
          cases elt with
          | Name y yp =>
            have hy : x = y := beq_iff_eq.mp hcp
            subst hy
            exact LCgL.ld_own (s := { s' with heap := h, toks := tk }) n1 hC hN hx (q u tk rv) co.kind (lookup_relabel_local co.hx) co.dbg
          | _ => exact absurd hcp (fun e => Bool.noConfusion e)
        | false =>
          simp only [hcp, cond_false] at hb
          split at hb
          · rename_i f fp y yp b bp cp
            cases hq : (x == y && locK (relab cs env.scope) f && locK (relab cs env.scope) b && us.all isDat) with
            | false => simp only [hq] at hb; exact hb.elim
            | true =>
              simp only [hq, cond_true] at hb
              simp only [Bool.and_eq_true, beq_iff_eq] at hq
              obtain ⟨⟨⟨rfl, hf⟩, hbb⟩, hall⟩ := hq
              split at hb
              · rename_i g1 g2
                obtain ⟨a1, a2, a3⟩ := to.bi _ _ g1
                obtain ⟨b1, b2, b3⟩ := to.bi _ _ g2
                refine core (fun u => .bool (isB u)) (fun C oC m₂ u v h tk N1 hs hC hN hx rv hv F1 n1 s' Q E' q => ?_) hb
                have eo' := eo_comp (C := C) (cl := clo env.cells cs.names []) eo co.kind
                refine Call_ (name_bi ok eo' hf a1 a2 a3 F1 ?_) (by rfl)
                refine PyProof.Rows.callWith_builtin1 ?_ (by rfl) (by rfl)
                refine args_cons (LCgL.ld_own (s := { s' with heap := h, toks := tk }) n1 hC hN hx ?_ co.kind (lookup_relabel_local co.hx) co.dbg) (by rfl)
                refine args_cons (name_bi (s := { s' with heap := h, toks := tk }) ok eo' hbb b1 b2 b3 F1 ?_) (by rfl)
                refine args_nil ?_
                exact isB_wp (s := { s' with heap := h, toks := tk }) (List.all_eq_true.mp hall v hv) rv (newsSub n1 (rel.v.trans hs)) fun tk' => q _ tk' (.bool _)
              · exact hb.elim
          · exact hb.elim
    · exact hb.elim
  | _ => exact hb.elim
end

section
variable {c : Cx} {env : Env} {m : Loc} {ρ : List Cell} {Z : ZL} {N : Led} {S : AS} {l : Lc} {cs : Scope} {n : Nat} {x : PySem.Str} {k : KV} {I : Ev3} {T : Tab} {p : Pos}
theorem finE {mu : Bool} {s : Shared} {Q : Value → Shared → Prop} (q : PostV c m ρ Z k Q s) : FinOk c ρ Z s mu k (fun s₂ => LCg.FinE c.h₀ c.L m s₂ Q) := by
  intro g ys' ρ' Z' S' N' Vs' rel' p' z' rv hk
  intro D h2 tk2 F2 n2 off
  obtain ⟨ρ3, Z3, S3, V3, rel3, p3, z3, r3, k3⟩ := post_mkL (cc := ys'.length) rel' (fun p hp => off1_mem off p hp) rv hk
  exact q V3 S3 _ h2 tk2 ρ3 Z3 _ F2 n2 rel3 (p'.trans p3) (z'.trans z3) r3 k3
noncomputable def PostA (c : Cx) (m : Loc) (ρ : List Cell) (Z : ZL) (y : PySem.Str) (k : KV) (Q : Flow → Shared → Prop) (s : Shared) : Prop :=
  ∀ V S' v h' tk' ρ' Z' N', Fr c.h₀ c.L h' (fun z => if z = y then some v else m z) → News c.h₀ c.L h' N' → Rel c.w.params ρ' S' Z' N' → Ext ρ ρ' → SubZ Z Z' → VR ρ' Z' v V → k V S' → Q .next { s with heap := h', toks := tk' }
theorem finA {mu : Bool} {s : Shared} {y : PySem.Str} {Q : Flow → Shared → Prop} (q : PostA c m ρ Z y k Q s) : FinOk c ρ Z s mu k (fun s₂ => LCg.FinA c.h₀ c.L m s₂ y Q) := by
  intro g ys' ρ' Z' S' N' Vs' rel' p' z' rv hk
  intro D h2 tk2 F2 n2 off
  obtain ⟨ρ3, Z3, S3, V3, rel3, p3, z3, r3, k3⟩ := post_mkL (cc := ys'.length) rel' (fun p hp => off1_mem off p hp) rv hk
  exact q V3 S3 _ h2 tk2 ρ3 Z3 _ F2 n2 rel3 (p'.trans p3) (z'.trans z3) r3 k3
theorem ea_comp {mu : Bool} {elt it : PySem.Expr} {xp : Pos} (hI : SE n I.e) (to : TabOk c.w n T) (ok : c.Ok) (eo : EnvOk c env n) (hc : compOk env.scope l cs x = true) (hn : notSet it = true)
    (h : I.e env.scope l it S (CompH T I env.scope l elt x cs mu k)) (lr : LR c env m ρ Z l) (rel : Rel c.w.params ρ S Z N) : EvA c env m ρ Z N (.ListComp elt [⟨.Name x xp, it, [], 0⟩] cs p) k := by
  intro Q E s F nw q
  have co := compOk_of hc
  refine LCg.ListComp_U F (closed co lr) co.cell co.kind co.loc co.hx (hI _ _ _ _ _ _ _ _ _ _ ok eo h lr rel _ _ _ F nw ?_) (notSet_eq hn env)
  intro V S1 v h1 tk1 ρ1 Z1 N1 F1 n1 rel1 p1 z1 r hb
  exact src_comp (s := { s with heap := h1, toks := tk1 }) hI to ok eo co r hb (lr.mono p1 z1) rel1 F1 n1 (finE (q.up p1 z1))
theorem st_comp {mu : Bool} {elt it : PySem.Expr} {xp yp sp : Pos} {y : PySem.Str} (hI : SE n I.e) (to : TabOk c.w n T) (ok : c.Ok) (eo : EnvOk c env n) (hL : env.locals = c.L) (hc : compOk env.scope l cs x = true) (hn : notSet it = true)
    (hy : env.kindOf y = some .local) (hsw : swapsWith (.ListComp elt [⟨.Name x xp, it, [], 0⟩] cs p) (some (.Name y yp)) sp.line env = pure true)
    (h : I.e env.scope l it S (CompH T I env.scope l elt x cs mu k)) (lr : LR c env m ρ Z l) (rel : Rel c.w.params ρ S Z N) {Q : Flow → Shared → Prop} {E : Value → Shared → Prop} {s : Shared} (F : Fr c.h₀ c.L s.heap m) (nw : News c.h₀ c.L s.heap N)
    (q : PostA c m ρ Z y k Q s) : wpAny (model PG c.w) c.A (PySem.exec (.Assign [.Name y yp] (.ListComp elt [⟨.Name x xp, it, [], 0⟩] cs p) sp) env) Q E s := by
  have co := compOk_of hc
  refine LCg.Assign_ListComp_U F hL hsw (closed co lr) co.cell co.kind co.loc co.hx hy (by rw [eo.k]; rfl) (hI _ _ _ _ _ _ _ _ _ _ ok eo h lr rel _ _ _ F nw ?_) (notSet_eq hn env)
  intro V S1 v h1 tk1 ρ1 Z1 N1 F1 n1 rel1 p1 z1 r hb
  refine src_comp (s := { s with heap := h1, toks := tk1 }) hI to ok eo co r hb (lr.mono p1 z1) rel1 F1 n1 (finA ?_)
  exact fun V' S' v' h' tk' ρ' Z' N' F' n' r' p' z' x y => q V' S' v' h' tk' ρ' Z' N' F' n' r' (p1.trans p') (z1.trans z') x y
end

section
variable {c : Cx} {env : Env} {m : Loc} {ρ : List Cell} {Z : ZL} {N : Led} {S : AS} {l : Lc} {cs : Scope} {n : Nat} {x : PySem.Str} {k : KV} {I : Ev3} {T : Tab} {p : Pos}
theorem comp_restT {ct elt : PySem.Expr} {Sx : Led → Prop} {Pv : Nat → Value → Prop} {Fin : List Value → Led → Prop} {s : Shared} (Z0 : ZL) (hI : SE n I.e) (hT : ST n I.t) (ok : c.Ok) (eo : EnvOk c env n) (co : CompOk env l cs x) (hSx : ∀ N', Sub Z0.v N' → Sx N') :
    ∀ (vs : List V) (i : Nat) (ys : List Value) (yVs : List V) (S : AS) (ρ : List Cell) (Z : ZL) (N : Led) (kk : List V → AS → Prop), compT (fun u S2 k2 => I.t (relab cs env.scope) ((x, u) :: capt cs l) ct S2 k2) (fun u S2 k2 => I.e (relab cs env.scope) ((x, u) :: capt cs l) elt S2 k2) vs S kk → LR c env m ρ Z l → Rel c.w.params ρ S Z N → SubZ Z0 Z → VRs ρ Z ys yVs →
      (∀ j v u, vs[j]? = some v → Pv (i + j) u → VR ρ Z u v) →
      (∀ ys' ρ' Z' S' N' Vs', Rel c.w.params ρ' S' Z' N' → Ext ρ ρ' → SubZ Z Z' → VRs ρ' Z' ys' (yVs ++ Vs') → kk Vs' S' → Fin ys' N') →
      LCt.CompRestT PG c.w c.A c.h₀ c.L m env ct elt x cs (clo env.cells cs.names []) s Sx Pv Fin vs.length i ys N
  | [], i, ys, yVs, S, ρ, Z, N, kk, h, lr, rel, hz, ry, hP, fin => LCt.CompRestT.zero (fin ys ρ Z S N [] rel Ext.rfl SubZ.rfl (by rw [List.append_nil]; exact ry) h)
  | v :: r, i, ys, yVs, S, ρ, Z, N, kk, h, lr, rel, hz, ry, hP, fin => by
    refine LCt.CompRestT.succ ?_
    intro u I' oI C oC D m₂ h1 tk1 E' hPu hN hx F1 n1 off dis
    have r1 := rel_pin3 (oa := oI) (ob := oC) (od := LCg.lst ys) rel off dis.1 dis.2.1 dis.2.2
    have sz : SubZ Z ⟨Z.v, (I', oI) :: (C, oC) :: (D, LCg.lst ys) :: Z.w⟩ := ⟨Sub.rfl, fun p hp => .tail _ (.tail _ (.tail _ hp))⟩
    have rv : VR ρ Z u v := hP 0 v u rfl (by rw [Nat.add_zero]; exact hPu)
    have lr1 := lr_comp (x := x) (cs := cs) eo co (Z := ⟨Z.v, (I', oI) :: (C, oC) :: (D, LCg.lst ys) :: Z.w⟩) (C := C) (oC := oC) (.tail _ (.head _)) hN hx (rv.mono Ext.rfl sz) (lr.mono Ext.rfl sz)
    have back : ∀ {h2 : Heap} {ρ2 : List Cell} {Z2 : ZL} {N2 : Led} {S2 : AS}, Rel c.w.params ρ2 S2 Z2 N2 → News c.h₀ c.L h2 N2 → SubZ ⟨Z.v, (I', oI) :: (C, oC) :: (D, LCg.lst ys) :: Z.w⟩ Z2 →
        Rel c.w.params ρ2 S2 ⟨Z2.v, Z.w⟩ (N2.filter fun p => decide (p.1 ≠ I' ∧ p.1 ≠ C ∧ p.1 ≠ D)) ∧ News c.h₀ c.L h2 ((I', oI) :: (C, oC) :: (D, LCg.lst ys) :: (N2.filter fun p => decide (p.1 ≠ I' ∧ p.1 ≠ C ∧ p.1 ≠ D))) ∧ SubZ Z ⟨Z2.v, Z.w⟩ := by
      intro h2 ρ2 Z2 N2 S2 rel2 n2 z2
      have rel3 := rel_cut3 rel2 z2.2 (off3_sub off fun p hp => rel.sub p (List.mem_append.mpr (.inr hp)))
      refine ⟨rel3, fun p hp => n2 p ?_, ⟨z2.1, Sub.rfl⟩⟩
      rcases List.mem_cons.mp hp with rfl | hp
      · exact rel2.sub _ (List.mem_append.mpr (.inr (z2.2 _ (.head _))))
      · rcases List.mem_cons.mp hp with rfl | hp
        · exact rel2.sub _ (List.mem_append.mpr (.inr (z2.2 _ (.tail _ (.head _)))))
        · rcases List.mem_cons.mp hp with rfl | hp
          · exact rel2.sub _ (List.mem_append.mpr (.inr (z2.2 _ (.tail _ (.tail _ (.head _))))))
          · exact (List.mem_filter.mp hp).1
    refine hT _ _ _ _ _ _ _ _ _ _ ok (eo_comp eo co.kind) h lr1 r1 _ _ _ F1 n1 ?_
    intro b S2 h2 tk2 ρ2 Z2 N2 F2 n2 rel2 p2 z2 k2
    cases b with
    | true =>
      rw [if_pos rfl]
      refine hI _ _ _ _ _ _ _ _ _ _ ok (eo_comp eo co.kind) k2 (lr1.mono p2 z2) rel2 _ _ _ F2 n2 ?_
      intro V S4 v4 h4 tk4 ρ4 Z4 N4 F4 n4 rel4 p4 z4 rv4 k4
      obtain ⟨rel3, n3, sz3⟩ := back rel4 n4 (z2.trans z4)
      refine ⟨h4, tk4, _, rfl, F4, n3, off3_filter, hSx _ ((hz.1.trans sz3.1).trans rel3.v), ?_⟩
      refine comp_restT Z0 hI hT ok eo co hSx r (i + 1) (ys ++ [v4]) (yVs ++ [V]) S4 ρ4 ⟨Z4.v, Z.w⟩ _ _ k4 (lr.mono (p2.trans p4) sz3) rel3 (hz.trans sz3) ((ry.mono (p2.trans p4) sz3).append (.cons (VR.monoV (Z := Z4) (Z' := ⟨Z4.v, Z.w⟩) Ext.rfl Sub.rfl rv4) .nil)) (fun j v' u' hj hPj => ?_) fun ys' ρ' Z' S' N' Vs' rel' p' z' rys kk' => ?_
      · exact (hP (j + 1) v' u' hj (by rw [show i + (j + 1) = i + 1 + j by omega]; exact hPj)).mono (p2.trans p4) sz3
      · exact fin ys' ρ' Z' S' N' (V :: Vs') rel' ((p2.trans p4).trans p') (sz3.trans z') (by rw [List.append_assoc] at rys; exact rys) kk'
    | false =>
      rw [if_neg (by decide)]
      obtain ⟨rel3, n3, sz3⟩ := back rel2 n2 z2
      refine ⟨h2, tk2, _, rfl, F2, n3, off3_filter, hSx _ ((hz.1.trans sz3.1).trans rel3.v), ?_⟩
      refine comp_restT Z0 hI hT ok eo co hSx r (i + 1) ys yVs S2 ρ2 ⟨Z2.v, Z.w⟩ _ _ k2 (lr.mono p2 sz3) rel3 (hz.trans sz3) (ry.mono p2 sz3) (fun j v' u' hj hPj => ?_) fun ys' ρ' Z' S' N' Vs' rel' p' z' rys kk' => ?_
      · exact (hP (j + 1) v' u' hj (by rw [show i + (j + 1) = i + 1 + j by omega]; exact hPj)).mono p2 sz3
      · exact fin ys' ρ' Z' S' N' Vs' rel' (p2.trans p') (sz3.trans z') rys kk'
theorem ea_compT {mu : Bool} {elt it ct : PySem.Expr} {xp : Pos} (hI : SE n I.e) (hT : ST n I.t) (ok : c.Ok) (eo : EnvOk c env n) (hc : compOk env.scope l cs x = true) (hn : notSet it = true)
    (h : I.e env.scope l it S fun v S1 => (match v with
    | .rng n => cond (decide (n ≤ 1000) && decide (-1000 ≤ n)) (compT (fun u S2 k2 => I.t (relab cs env.scope) ((x, u) :: capt cs l) ct S2 k2) (fun u S2 k2 => I.e (relab cs env.scope) ((x, u) :: capt cs l) elt S2 k2) (rngL n) S1 fun vs S2 => mkL mu vs S2 k) False
    | _ => False)) (lr : LR c env m ρ Z l) (rel : Rel c.w.params ρ S Z N) : EvA c env m ρ Z N (.ListComp elt [⟨.Name x xp, it, [ct], 0⟩] cs p) k := by
  intro Q E s F nw q
  have co := compOk_of hc
  refine LCt.ListComp_T F (closed co lr) co.cell co.kind co.loc co.hx (hI _ _ _ _ _ _ _ _ _ _ ok eo h lr rel _ _ _ F nw ?_) (notSet_eq hn env)
  intro V S1 v h1 tk1 ρ1 Z1 N1 F1 n1 rel1 p1 z1 r hb
  split at hb
  · rename_i j
    cases r with
    | @rng a _ t u v hm =>
    cases hz : (decide (j ≤ 1000) && decide (-1000 ≤ j)) with
    | false => simp only [hz] at hb; exact hb.elim
    | true =>
      simp only [hz, cond_true] at hb
      simp only [Bool.and_eq_true, decide_eq_true_eq] at hz
      have hr : IsRange h1 a 0 j 1 t u v := (n1 _ (rel1.v _ hm)).1
      refine LCt.CompSrcT.range (n := j.toNat) (by rfl) F1 n1 hr (small_one (by omega) (by omega) (by omega) (by omega)) (by rw [rangeSize_one]; split <;> omega) (by rw [sizeLine_eq]; omega) fun g => ?_
      have := comp_restT (Sx := fun _ => True) (Pv := fun i v => ∃ t, v = .int (0 + (i : Int)) t) (Fin := LCg.FinE c.h₀ c.L m { s with heap := g, toks := tk1 } Q) (s := { s with heap := g, toks := tk1 }) Z1 hI hT ok eo co (fun N' hs => trivial) (rngL j) 0 [] [] S1 ρ1 Z1 N1 _ hb (lr.mono p1 z1) rel1 SubZ.rfl .nil (fun i v u hj hp => ?_)
        fun ys' ρ' Z' S' N' Vs' a b d e f => finE (s := { s with heap := h1, toks := tk1 }) (q.up p1 z1) g ys' ρ' Z' S' N' Vs' a b d e f
      · rw [rngL_len] at this
        exact this
      · have := rngL_get hj
        subst this
        obtain ⟨t, rfl⟩ := hp
        rw [show (0 : Int) + ((0 + i : Nat) : Int) = (i : Int) by omega]
        exact .int _ _
  · exact hb.elim
end

theorem adrs_dead {a : Addr} : ∀ {ρ : List Cell} {i : Nat}, (adrs (ρ.set i (.dead a))).Sublist (adrs ρ)
  | [], i => by simp [adrs]
  | c :: r, 0 => by
    show (Cell.adrs (.dead a) ++ adrs r).Sublist (c.adrs ++ adrs r)
    exact List.sublist_append_right _ _
  | c :: r, i + 1 => by
    show (c.adrs ++ adrs (r.set i (.dead a))).Sublist (c.adrs ++ adrs r)
    exact (List.Sublist.refl _).append adrs_dead
theorem Rel.freeze {P : Params} {ρ : List Cell} {S : AS} {Z : ZL} {N : Led} {i : Nat} {a : Addr} {us : List Value} {cc : Nat} (r : Rel P ρ S Z N) (hc : ρ[i]? = some (.l a)) (hm : (a, listOf us.toArray cc) ∈ N) :
    Rel P (ρ.set i (.dead a)) (S.set i .hole) (Z.add (a, listOf us.toArray cc)) N ∧ Ext ρ (ρ.set i (.dead a)) := by
  have ex : Ext ρ (ρ.set i (.dead a)) := fun j cj hj => by
    by_cases e : i = j
    · subst e
      rw [hc] at hj
      cases hj
      exact ⟨.dead a, List.getElem?_set_self (List.getElem?_eq_some_iff.mp hc).1, rfl⟩
    · exact ⟨cj, by rw [List.getElem?_set_ne e]; exact hj, rfl⟩
  have ha : a ∈ adrs ρ := mem_adrs hc (by simp [Cell.adrs])
  refine ⟨⟨by rw [List.length_set, List.length_set]; exact r.len, fun j cj o hj hs => ?_, fun p hp => ?_, r.nodup.sublist adrs_dead, fun p hp hx => ?_, fun b hb => r.inN b (adrs_dead.subset hb), fun p hp q hq => ?_⟩, ex⟩
  · by_cases e : i = j
    · subst e
      rw [List.getElem?_set_self (List.getElem?_eq_some_iff.mp hc).1] at hj
      rw [List.getElem?_set_self (by rw [← r.len]; exact (List.getElem?_eq_some_iff.mp hc).1)] at hs
      cases hj
      cases hs
      trivial
    · rw [List.getElem?_set_ne e] at hj hs
      exact (r.own j cj o hj hs).mono ex SubZ.one Sub.rfl
  · rcases List.mem_cons.mp hp with rfl | hp
    · exact hm
    · exact r.sub p hp
  · rcases List.mem_cons.mp hp with rfl | hp
    · obtain ⟨cj, hcj, hxj⟩ := List.mem_flatMap.mp hx
      obtain ⟨j, hj⟩ := List.mem_iff_getElem?.mp hcj
      by_cases e : i = j
      · subst e
        rw [List.getElem?_set_self (List.getElem?_eq_some_iff.mp hc).1] at hj
        cases hj
        simp [Cell.adrs] at hxj
      · rw [List.getElem?_set_ne e] at hj
        exact adrs_ne r.nodup hc hj e a (by simp [Cell.adrs]) a hxj rfl
    · exact r.off p hp (adrs_dead.subset hx)
  · rcases List.mem_cons.mp hp with rfl | hp
    · intro e
      exact r.off q (List.mem_append.mpr (.inr hq)) (e ▸ ha)
    · exact r.vw p hp q hq
section
variable {c : Cx} {env : Env} {m : Loc} {ρ : List Cell} {Z : ZL} {N : Led} {S : AS} {l : Lc} {cs : Scope} {n : Nat} {x y : PySem.Str} {k : KV} {I : Ev3} {T : Tab} {p : Pos}
theorem lr_comp2 (eo : EnvOk c env n) (co : CompOk env l cs x) (co2 : CompOk env l cs y) {C : Addr} {oC : Obj} {m₂ : Loc} {u u2 : Value} {v v2 : V} (hC : (C, oC) ∈ Z.w) (hN : LCg.NsObj oC m₂) (hx : m₂ x = some u) (hy : m₂ y = some u2) (r : VR ρ Z u v) (r2 : VR ρ Z u2 v2) (lr : LR c env m ρ Z l) :
    LR c (compEnvC cs (clo env.cells cs.names []) C env) m ρ Z ((y, v2) :: (x, v) :: capt cs l) := by
  intro z w hz
  simp only [fld] at hz
  by_cases hzy : z = y
  · rw [if_pos hzy] at hz
    cases hz
    subst hzy
    refine ⟨u2, r2, fun N' hs p Q E s F nw q => ?_, co2.dbg, fun hk => ?_⟩
    · exact LCgL.ld_own nw (hs _ (List.mem_append.mpr (.inr hC))) hN hy q co2.kind (lookup_relabel_local co2.hx) co2.dbg
    · have : (compEnvC cs (clo env.cells cs.names []) C env).kindOf z = some .local := lookup_relabel_local co2.hx
      rw [this] at hk
      cases hk
  · rw [if_neg hzy] at hz
    exact lr_comp eo co hC hN hx r lr z w (by simp only [fld]; exact hz)
theorem comp_restP {elt : PySem.Expr} {Sx : Led → Prop} {Pv : Nat → Value → Prop} {Fin : List Value → Led → Prop} {s : Shared} (Z0 : ZL) (hI : SE n I.e) (ok : c.Ok) (eo : EnvOk c env n) (co : CompOk env l cs x) (co2 : CompOk env l cs y) (hSx : ∀ N', Sub Z0.v N' → Sx N') :
    ∀ (vs : List V) (i : Nat) (ys : List Value) (yVs : List V) (S : AS) (ρ : List Cell) (Z : ZL) (N : Led) (kk : List V → AS → Prop), compW (fun u S2 k2 => match u with
      | .tup [a, b] => I.e (relab cs env.scope) ((y, b) :: (x, a) :: capt cs l) elt S2 k2
      | _ => False) vs S kk → LR c env m ρ Z l → Rel c.w.params ρ S Z N → SubZ Z0 Z → VRs ρ Z ys yVs →
      (∀ j v u, vs[j]? = some v → Pv (i + j) u → VR ρ Z u v) →
      (∀ ys' ρ' Z' S' N' Vs', Rel c.w.params ρ' S' Z' N' → Ext ρ ρ' → SubZ Z Z' → VRs ρ' Z' ys' (yVs ++ Vs') → kk Vs' S' → Fin ys' N') →
      LCp.CompRestP PG c.w c.A c.h₀ c.L m env elt x y cs (clo env.cells cs.names []) s Sx Pv Fin vs.length i ys N
  | [], i, ys, yVs, S, ρ, Z, N, kk, h, lr, rel, hz, ry, hP, fin => LCp.CompRestP.zero (fin ys ρ Z S N [] rel Ext.rfl SubZ.rfl (by rw [List.append_nil]; exact ry) h)
  | v :: r, i, ys, yVs, S, ρ, Z, N, kk, h, lr, rel, hz, ry, hP, fin => by
    refine LCp.CompRestP.succ ?_
    intro u hPu
    have rv : VR ρ Z u v := hP 0 v u rfl (by rw [Nat.add_zero]; exact hPu)
    simp only [compW] at h
    split at h
    · rename_i a b
      cases rv with
      | @tup t us cc _ hm hv =>
      cases hv with
      | @cons u1 _ us1 _ ra hv =>
      cases hv with
      | @cons u2 _ us2 _ rb hv =>
      cases hv
      refine ⟨t, _, u1, u2, cc, rfl, rel.v _ hm, rfl, rfl, ?_⟩
      intro I' oI C oC D m₂ h1 tk1 E' hN hx hy F1 n1 off dis
      have r1 := rel_pin3 (oa := oI) (ob := oC) (od := LCg.lst ys) rel off dis.1 dis.2.1 dis.2.2
      have sz : SubZ Z ⟨Z.v, (I', oI) :: (C, oC) :: (D, LCg.lst ys) :: Z.w⟩ := ⟨Sub.rfl, fun p hp => .tail _ (.tail _ (.tail _ hp))⟩
      have lr1 := lr_comp2 (x := x) (y := y) (cs := cs) eo co co2 (Z := ⟨Z.v, (I', oI) :: (C, oC) :: (D, LCg.lst ys) :: Z.w⟩) (C := C) (oC := oC) (.tail _ (.head _)) hN hx hy (ra.mono Ext.rfl sz) (rb.mono Ext.rfl sz) (lr.mono Ext.rfl sz)
      refine hI _ _ _ _ _ _ _ _ _ _ ok (eo_comp eo co.kind) h lr1 r1 _ _ _ F1 n1 ?_
      intro V S2 v2 h2 tk2 ρ2 Z2 N2 F2 n2 rel2 p2 z2 rv2 k2
      have rel3 := rel_cut3 rel2 z2.2 (off3_sub off fun p hp => rel.sub p (List.mem_append.mpr (.inr hp)))
      have sz3 : SubZ Z ⟨Z2.v, Z.w⟩ := ⟨z2.1, Sub.rfl⟩
      refine ⟨h2, tk2, N2.filter fun p => decide (p.1 ≠ I' ∧ p.1 ≠ C ∧ p.1 ≠ D), rfl, F2, fun p hp => n2 p ?_, off3_filter, hSx _ ((hz.1.trans z2.1).trans rel3.v), ?_⟩
      · rcases List.mem_cons.mp hp with rfl | hp
        · exact rel2.sub _ (List.mem_append.mpr (.inr (z2.2 _ (.head _))))
        · rcases List.mem_cons.mp hp with rfl | hp
          · exact rel2.sub _ (List.mem_append.mpr (.inr (z2.2 _ (.tail _ (.head _)))))
          · rcases List.mem_cons.mp hp with rfl | hp
            · exact rel2.sub _ (List.mem_append.mpr (.inr (z2.2 _ (.tail _ (.tail _ (.head _))))))
            · exact (List.mem_filter.mp hp).1
      · refine comp_restP Z0 hI ok eo co co2 hSx r (i + 1) (ys ++ [v2]) (yVs ++ [V]) S2 ρ2 ⟨Z2.v, Z.w⟩ _ _ k2 (lr.mono p2 sz3) rel3 ⟨hz.1.trans z2.1, hz.2⟩ ((ry.mono p2 sz3).append (.cons (VR.monoV (Z := Z2) (Z' := ⟨Z2.v, Z.w⟩) Ext.rfl Sub.rfl rv2) .nil)) (fun j v' u' hj hPj => ?_) fun ys' ρ' Z' S' N' Vs' rel' p' z' rys kk' => ?_
        · exact (hP (j + 1) v' u' hj (by rw [show i + (j + 1) = i + 1 + j by omega]; exact hPj)).mono p2 sz3
        · exact fin ys' ρ' Z' S' N' (V :: Vs') rel' (p2.trans p') (sz3.trans z') (by rw [List.append_assoc] at rys; exact rys) kk'
    · exact h.elim
theorem ea_compP {mu : Bool} {elt it : PySem.Expr} {xp yp tp : Pos} {tk : Nat} (hI : SE n I.e) (ok : c.Ok) (eo : EnvOk c env n) (hc : compOk env.scope l cs x = true) (hc2 : compOk env.scope l cs y = true) (hxy : (x != y) = true) (hn : notSet it = true)
    (h : I.e env.scope l it S fun v S1 => (match v with
    | .ref i => (match getO S1 i with
      | some (.lst us) => cond (Nat.ble us.length 1000) (compW (fun u S2 k2 => match u with
        | .tup [a, b] => I.e (relab cs env.scope) ((y, b) :: (x, a) :: capt cs l) elt S2 k2
        | _ => False) us (putO S1 i .hole) fun vs S2 => mkL mu vs S2 k) False
      | _ => False)
    | _ => False)) (lr : LR c env m ρ Z l) (rel : Rel c.w.params ρ S Z N) : EvA c env m ρ Z N (.ListComp elt [⟨.Tuple [.Name x xp, .Name y yp] tk tp, it, [], 0⟩] cs p) k := by
  intro Q E s F nw q
  have co := compOk_of hc
  have co2 := compOk_of hc2
  refine LCp.ListComp_P F (closed co lr) co.cell co.kind co.loc co.hx co2.hx (bne_iff_ne.mp hxy) (hI _ _ _ _ _ _ _ _ _ _ ok eo h lr rel _ _ _ F nw ?_) (notSet_eq hn env)
  intro V S1 v h1 tk1 ρ1 Z1 N1 F1 n1 rel1 p1 z1 r hb
  split at hb
  · rename_i i
    split at hb
    · rename_i us hs
      obtain ⟨a, xs, cc, hcell, rfl, hm, rx⟩ := rel1.lst r hs
      cases hz : Nat.ble us.length 1000 with
      | false => simp only [hz] at hb; exact hb.elim
      | true =>
        simp only [hz, cond_true, putO_eq] at hb
        have hz' := Nat.le_of_ble_eq_true hz
        have hl := rx.length
        obtain ⟨rel2, ex⟩ := rel1.freeze hcell hm
        refine LCp.SrcLP.ledger (by rfl) F1 n1 hm (by rw [sizeLine_eq, List.size_toArray]; omega) fun g => ?_
        have := comp_restP (Sx := LCg.SrcAt c.h₀ a xs.toArray) (Pv := fun i v => xs.toArray[i]? = some v) (Fin := LCg.FinE c.h₀ c.L m { s with heap := g, toks := tk1 } Q) (s := { s with heap := g, toks := tk1 }) (Z1.add (a, listOf xs.toArray cc)) hI ok eo co co2 (fun N' hs => .inr ⟨_, hs _ (.head _), rfl, _, rfl⟩) us 0 [] [] _ _ _ N1 _ hb ((lr.mono p1 z1).mono ex SubZ.one) rel2 SubZ.rfl .nil (fun j v u hj hp => ?_)
          fun ys' ρ' Z' S' N' Vs' a b d e f => finE (s := { s with heap := h1, toks := tk1 }) ((q.up p1 z1).up ex SubZ.one (h' := h1) (tk' := tk1)) g ys' ρ' Z' S' N' Vs' a b d e f
        · rw [← hl, ← List.size_toArray] at this
          exact this
        · obtain ⟨u', hu, r⟩ := rx.get hj
          rw [Nat.zero_add] at hp
          have hp' : xs[j]? = some u := by simpa using hp
          rw [hu] at hp'
          cases hp'
          exact r.mono ex SubZ.one
    · exact hb.elim
  · exact hb.elim
end

structure EnvD (c : Cx) (env : Env) (n : Nat) : Prop extends EnvOk c env n where
  loc : env.locals = c.L
noncomputable def LRd (c : Cx) (env : Env) (m : Loc) (ρ : List Cell) (Z : ZL) (l : Lc) : Prop := ∀ x v, fld x l = some v → ∃ u, VR ρ Z u v ∧ (x == Str.ofString "__debug__") = false ∧ ((env.kindOf x = some .local ∧ m x = some u) ∨ (env.kindOf x = some .cell ∧ CellAt env Z x u))
theorem LRd.mono {c : Cx} {env : Env} {m : Loc} {ρ ρ' : List Cell} {Z Z' : ZL} {l : Lc} (h : LRd c env m ρ Z l) (h1 : Ext ρ ρ') (h2 : SubZ Z Z') : LRd c env m ρ' Z' l := fun x v e => by
  obtain ⟨u, a, d, b⟩ := h x v e
  refine ⟨u, a.mono h1 h2, d, ?_⟩
  rcases b with b | ⟨b1, a', o, e1, e2, e3⟩
  · exact .inl b
  · exact .inr ⟨b1, a', o, e1, h2.all _ e2, e3⟩
theorem LRd.set {c : Cx} {env : Env} {m : Loc} {ρ : List Cell} {Z : ZL} {l : Lc} {y : PySem.Str} {u : Value} {v : V} (h : LRd c env m ρ Z l) (r : VR ρ Z u v) (hy : env.kindOf y = some .local) (hd : (y == Str.ofString "__debug__") = false) : LRd c env (fun z => if z = y then some u else m z) ρ Z ((y, v) :: l) := fun x w e => by
  simp only [fld] at e
  by_cases hx : x = y
  · rw [if_pos hx] at e
    cases e
    subst hx
    exact ⟨u, r, hd, .inl ⟨hy, if_pos rfl⟩⟩
  · rw [if_neg hx] at e
    obtain ⟨u', a, d, b⟩ := h x w e
    refine ⟨u', a, d, ?_⟩
    rcases b with ⟨b1, b2⟩ | b
    · exact .inl ⟨b1, by show (if x = y then some u else m x) = _; rw [if_neg hx]; exact b2⟩
    · exact .inr b
theorem fld_pick {x : PySem.Str} {v : V} {l : Lc} : ∀ {ns : List PySem.Str}, fld x (pick ns l) = some v → fld x l = some v
  | [], h => by simp [pick, fld] at h
  | y :: r, h => by
    simp only [pick] at h
    cases hy : fld y l with
    | none => rw [hy] at h; exact fld_pick h
    | some w =>
      rw [hy] at h
      simp only [fld] at h
      by_cases hx : x = y
      · rw [if_pos hx] at h
        rw [hx, hy]
        exact h
      · rw [if_neg hx] at h
        exact fld_pick h
theorem fld_rm {x z : PySem.Str} {v : V} : ∀ {l : Lc}, fld z (rm x l) = some v → fld z l = some v
  | [], h => by simp [rm, fld] at h
  | (y, u) :: r, h => by
    simp only [rm] at h
    by_cases hx : x = y
    · rw [if_pos hx] at h
      have h' := fld_rm h
      simp only [fld]
      by_cases hz : z = y
      · exfalso
        subst hz
        subst hx
        have : ∀ l : Lc, fld x (rm x l) = none := fun l => by
          induction l with
          | nil => rfl
          | cons p r ih =>
            simp only [rm]
            by_cases e : x = p.1
            · rw [if_pos e]; exact ih
            · rw [if_neg e]; simp only [fld, if_neg e]; exact ih
        rw [this] at h
        cases h
      · rw [if_neg hz]; exact h'
    · rw [if_neg hx] at h
      simp only [fld] at h ⊢
      by_cases hz : z = y
      · rw [if_pos hz] at h ⊢; exact h
      · rw [if_neg hz] at h ⊢; exact fld_rm h
theorem LRd.rm {c : Cx} {env : Env} {m : Loc} {ρ : List Cell} {Z : ZL} {l : Lc} (h : LRd c env m ρ Z l) (x : PySem.Str) : LRd c env m ρ Z (rm x l) := fun y v e => h y v (fld_rm e)
theorem LRd.pick {c : Cx} {env : Env} {m : Loc} {ρ : List Cell} {Z : ZL} {l : Lc} (h : LRd c env m ρ Z l) (ns : List PySem.Str) : LRd c env m ρ Z (pick ns l) := fun x v e => h x v (fld_pick e)
theorem LRd.lr {c : Cx} {env : Env} {m : Loc} {ρ : List Cell} {Z : ZL} {l : Lc} {n : Nat} (eo : EnvD c env n) (h : LRd c env m ρ Z l) : LR c env m ρ Z l := fun x v e => by
  obtain ⟨u, a, d, b⟩ := h x v e
  refine ⟨u, a, fun N' hs p Q E s F nw q => ?_, d, fun hk => ?_⟩
  · rcases b with ⟨b1, b2⟩ | ⟨b1, a', o, e1, e2, e3⟩
    · exact wpAny_Name (wpAny_loadName_local eo.k b1 (by rw [eo.loc]; exact F.ns) b2 q) d
    · exact wpAny_Name (wpAny_loadName_cell eo.k b1 e1 ⟨o, (nw _ (hs _ e2)).1, e3⟩ q) d
  · rcases b with ⟨b1, b2⟩ | ⟨b1, b2⟩
    · rw [b1] at hk; cases hk
    · exact b2
noncomputable abbrev FE : Value → Shared → Prop := fun _ _ => False
noncomputable def PostN (c : Cx) (env : Env) (ρ : List Cell) (Z : ZL) (kn : Lc → AS → Prop) (Q : Flow → Shared → Prop) (s : Shared) : Prop :=
  ∀ l' S' m' h' tk' ρ' Z' N', Fr c.h₀ c.L h' m' → News c.h₀ c.L h' N' → Rel c.w.params ρ' S' Z' N' → Ext ρ ρ' → SubZ Z Z' → LRd c env m' ρ' Z' l' → kn l' S' → Q .next { s with heap := h', toks := tk' }
noncomputable def PostR (c : Cx) (ρ : List Cell) (Z : ZL) (kr : KV) (Q : Flow → Shared → Prop) (s : Shared) : Prop :=
  ∀ V S' v m' h' tk' ρ' Z' N', Fr c.h₀ c.L h' m' → News c.h₀ c.L h' N' → Rel c.w.params ρ' S' Z' N' → Ext ρ ρ' → SubZ Z Z' → VR ρ' Z' v V → kr V S' → Q (.ret v) { s with heap := h', toks := tk' }
theorem PostN.up {c : Cx} {env : Env} {ρ ρ' : List Cell} {Z Z' : ZL} {kn : Lc → AS → Prop} {Q : Flow → Shared → Prop} {s : Shared} (h : PostN c env ρ Z kn Q s) (h1 : Ext ρ ρ') (h2 : SubZ Z Z') {h' : Heap} {tk' : Tok} : PostN c env ρ' Z' kn Q { s with heap := h', toks := tk' } :=
  fun l S' m' h'' tk'' ρ'' Z'' N' F n r p z x y => h l S' m' h'' tk'' ρ'' Z'' N' F n r (h1.trans p) (h2.trans z) x y
theorem PostR.up {c : Cx} {ρ ρ' : List Cell} {Z Z' : ZL} {kr : KV} {Q : Flow → Shared → Prop} {s : Shared} (h : PostR c ρ Z kr Q s) (h1 : Ext ρ ρ') (h2 : SubZ Z Z') {h' : Heap} {tk' : Tok} : PostR c ρ' Z' kr Q { s with heap := h', toks := tk' } :=
  fun V S' v m' h'' tk'' ρ'' Z'' N' F n r p z x y => h V S' v m' h'' tk'' ρ'' Z'' N' F n r (h1.trans p) (h2.trans z) x y
noncomputable def SX (n : Nat) (f : Scope → Lc → List PySem.Stmt → AS → (Lc → AS → Prop) → KV → Prop) : Prop :=
  ∀ c env l ss S kn kr m ρ Z N, c.Ok → EnvD c env n → f env.scope l ss S kn kr → LRd c env m ρ Z l → Rel c.w.params ρ S Z N →
    ∀ (Q : Flow → Shared → Prop) (s : Shared), Fr c.h₀ c.L s.heap m → News c.h₀ c.L s.heap N → PostN c env ρ Z kn Q s → PostR c ρ Z kr Q s → wpAny (model PG c.w) c.A (PySem.execs ss env) Q FE s
section
variable {c : Cx} {env : Env} {m : Loc} {ρ : List Cell} {Z : ZL} {N : Led} {S : AS} {l : Lc} {e a b : PySem.Expr} {p : Pos} {k : KV} {n : Nat} {I : Ev3} {T : Tab} {es : List PySem.Expr} {kn : Lc → AS → Prop} {kr : KV} {ss ss' : List PySem.Stmt} {Q : Flow → Shared → Prop} {s : Shared}
theorem noComp_eq (h : noComp e = true) (t : Option PySem.Expr) (ln : Nat) : swapsWith e t ln env = pure false := by
  cases e <;> first | rfl | exact absurd h (fun e => Bool.noConfusion e)
theorem wp_asg {t : PySem.Expr} {u : Value} {v : V} {ka : Lc → AS → Prop} {Q : Unit → Shared → Prop} {s : Shared} (hI : SE n I.e) (to : TabOk c.w n T) (ok : c.Ok) (eo : EnvD c env n) (r : VR ρ Z u v) (h : asgW T I env.scope l t v S ka) (lr : LRd c env m ρ Z l) (rel : Rel c.w.params ρ S Z N)
    (F : Fr c.h₀ c.L s.heap m) (nw : News c.h₀ c.L s.heap N) (q : ∀ l' S' m' h' tk' ρ' Z' N', Fr c.h₀ c.L h' m' → News c.h₀ c.L h' N' → Rel c.w.params ρ' S' Z' N' → Ext ρ ρ' → SubZ Z Z' → LRd c env m' ρ' Z' l' → ka l' S' → Q () { s with heap := h', toks := tk' }) :
    wpAny (model PG c.w) c.A (PySem.assign t env u) Q FE s := by
  unfold asgW at h
  split at h
  · rename_i x xp
    cases hx : (env.scope.names.lookup x == some .local && x != Str.ofString "__debug__") with
    | false => rw [hx] at h; exact h.elim
    | true =>
      rw [hx] at h
      simp only [Bool.and_eq_true] at hx
      have hl : env.kindOf x = some .local := beq_iff_eq.mp hx.1
      have hd : (x == Str.ofString "__debug__") = false := beq_eq_false_iff_ne.mpr (bne_iff_ne.mp hx.2)
      refine PyProof.Rows.assign_Name (wpAny_storeName_local hl (by rw [eo.loc]; exact F.ns) (fun h'' hn hs => ?_) (by show (env.scope.kind == .class || (env.scope.kind == .module && env.locals != env.globals)) = false; rw [eo.k]; rfl))
      rw [eo.loc] at hn hs
      exact q _ S _ _ _ ρ Z N (F.set hn hs) (nw.set hs) rel Ext.rfl SubZ.rfl ((lr.rm x).set r hl hd) h
  · rename_i o x op
    rw [PySem.assign_Attribute]
    refine wpAny_bind (wpAny_holding (hI _ _ _ _ _ _ _ _ _ _ ok eo.toEnvOk h (lr.lr eo) rel _ _ _ F nw ?_))
    intro V S1 ov h1 tk1 ρ1 Z1 N1 F1 n1 rel1 p1 z1 ro hb
    refine wpAny_bind (wpAny_standAt (wpAny_bind (wpAny_holding ?_)))
    split at hb
    · split at hb
      · rename_i i _ C fs hs
        cases hz : (Nat.ble fs.length 100 && ((fld x fs).isSome || T.atr C x)) with
        | false => rw [hz] at hb; exact hb.elim
        | true =>
          rw [hz] at hb
          simp only [Bool.and_eq_true, Bool.or_eq_true] at hz
          have hx : AtrOk c.w.params C x := by
            rcases hz.2 with h | h
            · obtain ⟨w, hw⟩ := Option.isSome_iff_exists.mp h
              obtain ⟨q', hq, e⟩ := fld_mem hw
              obtain ⟨_, _, _, _, _, _, _, _, _, ao⟩ := rel1.inst ro hs
              exact e ▸ ao q' hq
            · exact to.atr C x h
          refine wp_setAttr (s := { s with heap := h1, toks := tk1 }) ok F1 n1 rel1 ro (r.mono p1 z1) hs (Nat.le_of_ble_eq_true hz.1) hx fun h2 tk2 N2 F2 n2 rel2 => ?_
          refine wpAny_release ?_
          exact q l _ m h2 tk2 ρ1 Z1 N2 F2 n2 rel2 p1 z1 (lr.mono p1 z1) hb
      · exact hb.elim
    · exact hb.elim
  · rename_i o ie ip
    rw [PySem.assign_Subscript]
    refine wpAny_bind (wpAny_holding (hI _ _ _ _ _ _ _ _ _ _ ok eo.toEnvOk h (lr.lr eo) rel _ _ _ F nw ?_))
    intro V S1 ov h1 tk1 ρ1 Z1 N1 F1 n1 rel1 p1 z1 ro hb
    refine wpAny_bind (wpAny_holding (hI _ _ _ _ _ _ _ _ _ _ ok eo.toEnvOk hb ((lr.mono p1 z1).lr eo) rel1 _ _ _ F1 n1 ?_))
    intro V2 S2 iv h2 tk2 ρ2 Z2 N2 F2 n2 rel2 p2 z2 ri hb2
    refine wpAny_bind (wpAny_standAt (wpAny_bind (wpAny_holding ?_)))
    split at hb2
    · rename_i a j
      cases ri
      split at hb2
      · rename_i us hs
        cases hz : (decide (0 ≤ j) && decide (j < (us.length : Int)) && Nat.ble us.length 1000) with
        | false => rw [hz] at hb2; exact hb2.elim
        | true =>
          rw [hz] at hb2
          simp only [Bool.and_eq_true, decide_eq_true_eq] at hz
          refine wp_setItem (s := { s with heap := h2, toks := tk2 }) F2 n2 rel2 (ro.mono p2 z2) ((r.mono p1 z1).mono p2 z2) hs hz.1.1 hz.1.2 (Nat.le_of_ble_eq_true hz.2) fun h3 tk3 N3 F3 n3 rel3 => ?_
          refine wpAny_release ?_
          exact q l _ m h3 tk3 ρ2 Z2 N3 F3 n3 rel3 (p1.trans p2) (z1.trans z2) (lr.mono (p1.trans p2) (z1.trans z2)) hb2
      · exact hb2.elim
    · exact hb2.elim
  · exact h.elim
end

section
variable {c : Cx} {env : Env} {m : Loc} {ρ : List Cell} {Z : ZL} {N : Led} {S : AS} {l : Lc} {e a b : PySem.Expr} {p : Pos} {k : KV} {n : Nat} {I : Ev3} {T : Tab} {es : List PySem.Expr} {kn : Lc → AS → Prop} {kr : KV} {ss ss' : List PySem.Stmt} {Q : Flow → Shared → Prop} {s : Shared}
theorem Assign_one {t value : PySem.Expr} {pos : Pos} {E : Value → Shared → Prop} {M : Model} {A : Around}
    (h : wpAny M A (PySem.eval value env) (fun v s₁ => wpAny M A (PySem.assign t env v) (fun _ => Q .next) E s₁) E s)
    (hs : swapsWith value (some t) pos.line env = pure false) (hw : swappedStores [t] value env = pure none) (ht : plainE t = true) :
    wpAny M A (PySem.exec (.Assign [t] value pos) env) Q E s := by
  rw [PyProof.Rows.exec_Assign]
  refine wpAny_bind (wpAny_standAt ?_)
  rw [show swapsWithSole [t] value pos.line env = pure false from hs]
  refine wpAny_bind (wpAny_pure ?_)
  rw [if_neg (by decide)]
  refine wpAny_bind (wpAny_mono h (fun v s₁ h₁ => ?_) fun _ _ x => x)
  rw [hw]
  refine wpAny_bind (wpAny_pure ?_)
  have e : assignEach [t] env = [(false, PySem.assign t env)] := by cases t <;> first | rfl | exact absurd ht (fun e => Bool.noConfusion e)
  rw [e]
  show wpAny M A (do assignAll v [PySem.assign t env]; pure .next) Q E s₁
  exact wpAny_bind (wpAny_mono h₁ (fun _ _ x => wpAny_pure x) fun _ _ x => x)
noncomputable def StA (c : Cx) (env : Env) (ρ : List Cell) (Z : ZL) (m : Loc) (N : Led) (st : PySem.Stmt) (kn : Lc → AS → Prop) (kr : KV) : Prop :=
  ∀ (Q : Flow → Shared → Prop) (s : Shared), Fr c.h₀ c.L s.heap m → News c.h₀ c.L s.heap N → PostN c env ρ Z kn Q s → PostR c ρ Z kr Q s → wpAny (model PG c.w) c.A (PySem.exec st env) Q FE s
theorem st_assign {t : PySem.Expr} (hI : SE n I.e) (to : TabOk c.w n T) (ok : c.Ok) (eo : EnvD c env n) (hc : noComp e = true) (h : I.e env.scope l e S fun v S' => asgW T I env.scope l t v S' kn)
    (ht : tgtOk t = true) (lr : LRd c env m ρ Z l) (rel : Rel c.w.params ρ S Z N) : StA c env ρ Z m N (.Assign [t] e p) kn kr := by
  intro Q s F nw qn qr
  refine Assign_one (hI _ _ _ _ _ _ _ _ _ _ ok eo.toEnvOk h (lr.lr eo) rel _ _ _ F nw ?_) (noComp_eq hc _ _) (by cases t <;> first | rfl | exact absurd ht (fun e => Bool.noConfusion e)) (by cases t <;> first | rfl | exact absurd ht (fun e => Bool.noConfusion e))
  intro V S1 v h1 tk1 ρ1 Z1 N1 F1 n1 rel1 p1 z1 r hb
  exact wp_asg (s := { s with heap := h1, toks := tk1 }) hI to ok eo r hb (lr.mono p1 z1) rel1 F1 n1 fun l' S' m' h' tk' ρ' Z' N' F' n' r' p' z' lr' hk => qn l' S' m' h' tk' ρ' Z' N' F' n' r' (p1.trans p') (z1.trans z') lr' hk
theorem st_ret (hI : SE n I.e) (ok : c.Ok) (eo : EnvD c env n) (h : I.e env.scope l e S kr) (lr : LRd c env m ρ Z l) (rel : Rel c.w.params ρ S Z N) : StA c env ρ Z m N (.Return (some e) p) kn kr := by
  intro Q s F nw qn qr
  refine wpAny_Return_some (hI _ _ _ _ _ _ _ _ _ _ ok eo.toEnvOk h (lr.lr eo) rel _ _ _ F nw ?_)
  intro V S1 v h1 tk1 ρ1 Z1 N1 F1 n1 rel1 p1 z1 r hb
  exact qr V S1 v m h1 tk1 ρ1 Z1 N1 F1 n1 rel1 p1 z1 r hb
theorem st_expr (hI : SE n I.e) (ok : c.Ok) (eo : EnvD c env n) (hc : noComp e = true) (h : I.e env.scope l e S fun _ S' => kn l S') (lr : LRd c env m ρ Z l) (rel : Rel c.w.params ρ S Z N) : StA c env ρ Z m N (.Expr e p) kn kr := by
  intro Q s F nw qn qr
  refine wpAny_Expr_any (hI _ _ _ _ _ _ _ _ _ _ ok eo.toEnvOk h (lr.lr eo) rel _ _ _ F nw ?_) (by unfold interactive; rw [eo.k]; rfl) (noComp_eq hc _ _)
  intro V S1 v h1 tk1 ρ1 Z1 N1 F1 n1 rel1 p1 z1 r hb
  exact qn l S1 m h1 tk1 ρ1 Z1 N1 F1 n1 rel1 p1 z1 (lr.mono p1 z1) hb
theorem st_if (hT : ST n I.t) (hX : SX n I.x) (ok : c.Ok) (eo : EnvD c env n) (h : I.t env.scope l e S fun b' S' => cond b' (I.x env.scope l ss S' kn kr) (I.x env.scope l ss' S' kn kr)) (lr : LRd c env m ρ Z l) (rel : Rel c.w.params ρ S Z N) : StA c env ρ Z m N (.If e ss ss' p) kn kr := by
  intro Q s F nw qn qr
  refine wpAny_If (hT _ _ _ _ _ _ _ _ _ _ ok eo.toEnvOk h (lr.lr eo) rel _ _ _ F nw ?_)
  intro b S1 h1 tk1 ρ1 Z1 N1 F1 n1 rel1 p1 z1 hb
  cases b with
  | true =>
    rw [if_pos rfl]
    exact hX _ _ _ _ _ _ _ _ _ _ _ ok eo hb (lr.mono p1 z1) rel1 _ _ F1 n1 (qn.up p1 z1) (qr.up p1 z1)
  | false =>
    rw [if_neg (by decide)]
    exact hX _ _ _ _ _ _ _ _ _ _ _ ok eo hb (lr.mono p1 z1) rel1 _ _ F1 n1 (qn.up p1 z1) (qr.up p1 z1)
theorem sx_nil (h : kn l S) (lr : LRd c env m ρ Z l) (rel : Rel c.w.params ρ S Z N) (F : Fr c.h₀ c.L s.heap m) (nw : News c.h₀ c.L s.heap N) (qn : PostN c env ρ Z kn Q s) : wpAny (model PG c.w) c.A (PySem.execs [] env) Q FE s :=
  wpAny_execs_nil (qn l S m s.heap s.toks ρ Z N F nw rel Ext.rfl SubZ.rfl lr h)
theorem sx_cons {st : PySem.Stmt} (hX : SX n I.x) (ok : c.Ok) (eo : EnvD c env n) (h : StA c env ρ Z m N st (fun l' S' => I.x env.scope l' ss S' kn kr) kr) (F : Fr c.h₀ c.L s.heap m) (nw : News c.h₀ c.L s.heap N) (qn : PostN c env ρ Z kn Q s) (qr : PostR c ρ Z kr Q s) : wpAny (model PG c.w) c.A (PySem.execs (st :: ss) env) Q FE s := by
  refine wpAny_execs_cons (h _ _ F nw ?_ ?_)
  · intro l' S' m' h' tk' ρ' Z' N' F' n' rel' p' z' lr' hk
    exact hX _ _ _ _ _ _ _ _ _ _ _ ok eo hk lr' rel' _ _ F' n' (qn.up p' z') (qr.up p' z')
  · intro V S' v m' h' tk' ρ' Z' N' F' n' rel' p' z' r hk
    exact qr V S' v m' h' tk' ρ' Z' N' F' n' rel' p' z' r hk
end

section
variable {c : Cx} {env : Env} {m : Loc} {ρ : List Cell} {Z : ZL} {N : Led} {S : AS} {l : Lc} {e a b : PySem.Expr} {p : Pos} {k : KV} {n : Nat} {I : Ev3} {T : Tab} {es : List PySem.Expr} {kn : Lc → AS → Prop} {kr : KV} {ss body : List PySem.Stmt} {Q : Flow → Shared → Prop} {s : Shared} {x : PySem.Str}
theorem forW_drop {pk : Lc → Lc} {bd : V → Lc → AS → (Lc → AS → Prop) → KV → Prop} {vs : List V} {i : Nat} {v : V} (h : vs[i]? = some v) {l : Lc} {S : AS} (hf : forW pk bd (vs.drop i) l S kn kr) : bd v (pk l) S (fun l' S' => forW pk bd (vs.drop (i + 1)) l' S' kn kr) kr := by
  have hlt := (List.getElem?_eq_some_iff.mp h).1
  have e : vs.drop i = v :: vs.drop (i + 1) := by
    rw [List.drop_eq_getElem_cons hlt]
    congr 1
    exact (List.getElem?_eq_some_iff.mp h).2
  rw [e] at hf
  exact hf
theorem loop_at {J : Addr} {fp : List Addr} {vs : List V} {P : Nat → Value → Prop} {St : Nat → Heap → Prop} (hX : SX n I.x) (ok : c.Ok) (eo : EnvD c env n) (hnc : ∀ z, env.kindOf z ≠ some .cell) (hx : env.kindOf x = some .local) (hd : (x == Str.ofString "__debug__") = false)
    (W : Walks PG c.w c.A J fp [J] vs.length P St) (hLf : c.L ∉ fp) (hJ0 : c.h₀.get? J = none) (hJf : J ∈ fp) (offJ : ∀ p ∈ N, p.1 ≠ J) (hst : St 0 s.heap) (hIo : ∀ i h, St i h → ∃ o, h.get? J = some o) (hfp : ∀ b ∈ fp, b ≠ J → ∃ o, (b, o) ∈ Z.v)
    (hP : ∀ i v u, vs[i]? = some v → P i u → VR ρ Z u v) (h : forW (pick (T.live p)) (fun u l' S' kn' kr' => I.x env.scope ((x, u) :: l') body S' kn' kr') vs l S kn kr) (lr : LRd c env m ρ Z l) (rel : Rel c.w.params ρ S Z N)
    (F : Fr c.h₀ c.L s.heap m) (nw : News c.h₀ c.L s.heap N) (qn : PostN c env ρ Z kn Q s) (qr : PostR c ρ Z kr Q s) : LoopAtV PG c.w c.A c.h₀ env x body Q FE (.ref J) s := by
  have hL := eo.loc
  refine ⟨J, fp, [J], vs.length, P, St, m, N, fun i m' news => ∃ l' S' ρ' Z', LRd c env m' ρ' Z' l' ∧ Rel c.w.params ρ' S' Z' news ∧ Ext ρ ρ' ∧ SubZ Z Z' ∧ forW (pick (T.live p)) (fun u l' S' kn' kr' => I.x env.scope ((x, u) :: l') body S' kn' kr') (vs.drop i) l' S' kn kr,
    rfl, W, by rw [hL]; exact hLf, fun b hb => by rw [List.mem_singleton.mp hb]; exact hJ0, fun p hp hm => offJ p hp (List.mem_singleton.mp hm), hst, by rw [hL]; exact F, by rw [hL]; exact nw, ⟨l, S, ρ, Z, lr, rel, Ext.rfl, SubZ.rfl, h⟩, ?_, ?_⟩
  · rintro i u m₁ news₁ s₁ own ⟨hh', tk', rfl⟩ hi hPi ⟨l1, S1, ρ1, Z1, lr1, rel1, p1, z1, hf⟩ hoff hown hget hall st F₁ N₁
    rw [hL] at F₁ N₁ ⊢
    obtain ⟨v, hv⟩ : ∃ v, vs[i]? = some v := ⟨_, List.getElem?_eq_getElem hi⟩
    obtain ⟨oJ, hoJ⟩ := hIo _ _ st
    have mJ : (J, oJ) ∈ own := hall J hJf hJ0 oJ hoJ
    have off1 : ∀ p ∈ news₁, p.1 ≠ J := fun p hp e => hoff p hp (List.mem_singleton.mpr e)
    have r2 := rel1.pin (o := oJ) off1
    have sz : SubZ Z1 (Z1.pin (J, oJ)) := SubZ.pin
    have rv : VR ρ1 (Z1.pin (J, oJ)) u v := ((hP i v u hv hPi).mono p1 z1).mono Ext.rfl sz
    have n2 : News c.h₀ c.L hh' ((J, oJ) :: news₁) := fun p hp => by
      rcases List.mem_cons.mp hp with rfl | hp
      · exact N₁ _ (List.mem_append.mpr (.inl mJ))
      · exact N₁ _ (List.mem_append.mpr (.inr hp))
    refine hX _ _ _ _ _ _ _ _ _ _ _ ok eo (forW_drop hv hf) (((lr1.pick _).mono Ext.rfl sz).set rv hx hd) r2 _ _ F₁ n2 ?_ ?_
    · intro l3 S3 m3 h3 tk3 ρ3 Z3 N3 F3 n3 rel3 p3 z3 lr3 hk
      have hw : Sub Z1.w Z3.w := fun p hp => z3.2 _ (.tail _ hp)
      have rel4 := rel3.cutX (N' := N3.filter fun p => decide (p.1 ≠ J)) (w := Z1.w) [J] (fun y hy => by rw [List.mem_singleton.mp hy]; exact ⟨oJ, z3.2 _ (.head _)⟩) hw (fun p hp hm => off1 p (rel1.sub p (List.mem_append.mpr (.inr hp))) (List.mem_singleton.mp hm)) (fun p hp hm => List.mem_filter.mpr ⟨hp, decide_eq_true fun e => hm (List.mem_singleton.mpr e)⟩) fun p hp => (List.mem_filter.mp hp).1
      have sz4 : SubZ Z1 ⟨Z3.v, Z1.w⟩ := ⟨z3.1, Sub.rfl⟩
      refine .next ⟨rfl, h3, tk3, m3, N3.filter fun p => decide (p.1 ≠ J), rfl, F3, fun p hp => ?_, fun p hp hm => of_decide_eq_true (List.mem_filter.mp hp).2 (List.mem_singleton.mp hm), l3, S3, ρ3, ⟨Z3.v, Z1.w⟩, ?_, rel4, p1.trans p3, z1.trans sz4, hk⟩
      · rcases List.mem_append.mp hp with hp | hp
        · by_cases e : p.1 = J
          · have e2 := hget p hp
            rw [e] at e2
            rw [show hh'.get? J = some oJ from hoJ] at e2
            have : p = (J, oJ) := by
              obtain ⟨p1, p2⟩ := p
              cases e2
              cases e
              rfl
            rw [this]
            exact n3 _ (rel3.sub _ (List.mem_append.mpr (.inr (z3.2 _ (.head _)))))
          · obtain ⟨o, ho⟩ := hfp p.1 (hown p hp) e
            have e2 : hh'.get? p.1 = some p.2 := hget p hp
            have ho1 := rel1.v _ (z1.1 _ ho)
            have e3 := (N₁ _ (List.mem_append.mpr (.inr ho1))).1
            have e4 : o = p.2 := Option.some.inj (e3.symm.trans e2)
            subst e4
            exact n3 _ (rel3.v _ (z3.1 _ (z1.1 _ ho)))
        · exact n3 p (List.mem_filter.mp hp).1
      · intro z w hz
        obtain ⟨u', a, d, b⟩ := lr3 z w hz
        refine ⟨u', VR.monoV (Z := Z3) (Z' := ⟨Z3.v, Z1.w⟩) Ext.rfl Sub.rfl a, d, ?_⟩
        rcases b with b | ⟨b1, a', o, e1, e2, e3⟩
        · exact .inl b
        · exact absurd b1 (hnc z)
    · intro V S3 v3 m3 h3 tk3 ρ3 Z3 N3 F3 n3 rel3 p3 z3 r3 hk
      exact .ret (qr V S3 v3 m3 h3 tk3 ρ3 Z3 N3 F3 n3 rel3 (p1.trans p3) (z1.trans (sz.trans z3)) r3 hk)
  · rintro h' tk m' news' F' N' _ ⟨l1, S1, ρ1, Z1, lr1, rel1, p1, z1, hf⟩
    rw [List.drop_of_length_le (Nat.le_refl _)] at hf
    rw [hL] at F' N'
    exact qn _ S1 m' h' tk ρ1 Z1 news' F' N' rel1 p1 z1 (lr1.pick _) hf
theorem noCell_of {sc : Scope} (h : noCell sc = true) : ∀ z, sc.names.lookup z ≠ some .cell := fun z e => by
  unfold noCell at h
  rw [List.all_eq_true] at h
  have := h _ (mem_lookup e)
  simp at this
theorem st_for {it : PySem.Expr} {xp : Pos} (hI : SE n I.e) (hX : SX n I.x) (ok : c.Ok) (eo : EnvD c env n) (hx : (env.scope.names.lookup x == some .local) = true) (hd : (x != Str.ofString "__debug__") = true) (hs : notSet it = true) (hnc : noCell env.scope = true)
    (h : I.e env.scope l it S fun v S1 => (match v with
    | .rng n => cond (decide (n ≤ 1000) && decide (-1000 ≤ n)) (forW (pick (T.live p)) (fun u l' S' kn' kr' => I.x env.scope ((x, u) :: l') body S' kn' kr') (rngL n) l S1 kn kr) False
    | .lst us => cond (Nat.ble us.length 1000) (forW (pick (T.live p)) (fun u l' S' kn' kr' => I.x env.scope ((x, u) :: l') body S' kn' kr') us l S1 kn kr) False
    | _ => False)) (lr : LRd c env m ρ Z l) (rel : Rel c.w.params ρ S Z N) : StA c env ρ Z m N (.For (.Name x xp) it body [] p) kn kr := by
  intro Q s F nw qn qr
  have hk : env.kindOf x = some .local := beq_iff_eq.mp hx
  have hdd : (x == Str.ofString "__debug__") = false := beq_eq_false_iff_ne.mpr (bne_iff_ne.mp hd)
  refine For_invV c.h₀ hk (by rw [eo.k]; rfl) (hI _ _ _ _ _ _ _ _ _ _ ok eo.toEnvOk h (lr.lr eo) rel _ _ _ F nw ?_) (notSet_eq hs env) PassesOwn.never
  intro V S1 v h1 tk1 ρ1 Z1 N1 F1 n1 rel1 p1 z1 r hb
  have hne : c.L ≠ h1.objs.size := Nat.ne_of_lt F1.ns.lt
  have hJ0 : c.h₀.get? h1.objs.size = none := next_is_new F1
  split at hb
  · rename_i j
    cases r with
    | @rng a _ t u v hm =>
    cases hz : (decide (j ≤ 1000) && decide (-1000 ≤ j)) with
    | false => rw [hz] at hb; exact hb.elim
    | true =>
      rw [hz] at hb
      simp only [Bool.and_eq_true, decide_eq_true_eq] at hz
      have hr : IsRange h1 a 0 j 1 t u v := (n1 _ (rel1.v _ hm)).1
      have hn : Builtin.Range.rangeSize 0 j 1 = ((j.toNat : Nat) : Int) := by rw [rangeSize_one]; split <;> omega
      refine wpAny_pyIter_range (s := { s with heap := h1, toks := tk1 }) hr (small_one (by omega) (by omega) (by omega) (by omega)) ?_
      refine loop_at (vs := rngL j) (n := n) (s := { s with heap := h1.push _, toks := tk1 }) (fp := [h1.objs.size]) hX ok eo (noCell_of hnc) hk hdd (by rw [rngL_len]; exact LCg.range_walks (by rfl) 0 j.toNat) (by simpa using hne) hJ0 (.head _) (fun p hp => Nat.ne_of_lt (Heap.lt_size (n1 p hp).1))
        (by show IsRangeIter _ _ _ _ _; rw [hn]; simpa using Heap.get?_push_size _ rfl) (fun i h st => ⟨_, st⟩) (fun b hb hn => absurd (List.mem_singleton.mp hb) hn) (fun i w u' hw hp => ?_) hb (lr.mono p1 z1) rel1 (F1.push _) (n1.grown fun _ _ e => Heap.get?_push_of_some _ e) (qn.up p1 z1) (qr.up p1 z1)
      have := rngL_get hw
      subst this
      obtain ⟨t, rfl⟩ := hp
      rw [show (0 : Int) + (i : Int) = (i : Int) by omega]
      exact .int _ _
  · rename_i us
    cases r with
    | @lst a xs cc _ hm hv =>
    cases hz : Nat.ble us.length 1000 with
    | false => rw [hz] at hb; exact hb.elim
    | true =>
      rw [hz] at hb
      have hl := hv.length
      have il : h1.IsList a xs.toArray := News.isList n1 (rel1.v _ hm)
      have hlt : a < h1.objs.size := by obtain ⟨_, e, _⟩ := il; exact Heap.lt_size e
      have haL : c.L ≠ a := fun e => (n1 _ (rel1.v _ hm)).2.1 e.symm
      refine wpAny_pyIter_list (s := { s with heap := h1, toks := tk1 }) il ?_
      refine loop_at (vs := us) (P := fun i v => xs.toArray[i]? = some v) (St := fun i h => h.IsListIter h1.objs.size a i ∧ h.IsList a xs.toArray) (n := n) (s := { s with heap := h1.push _, toks := tk1 }) (fp := [h1.objs.size, a]) hX ok eo (noCell_of hnc) hk hdd (by rw [← hl, ← List.size_toArray]; exact Walks.list (by rfl) h1.objs.size a (Nat.ne_of_lt hlt) xs.toArray) (by simp [hne, haL]) hJ0 (.head _) (fun p hp => Nat.ne_of_lt (Heap.lt_size (n1 p hp).1))
        ⟨⟨_, Heap.get?_push_size _ rfl, rfl, rfl⟩, il.push _⟩ (fun i h st => by obtain ⟨o, e, _⟩ := st.1; exact ⟨o, e⟩) (fun b hb hn => ?_) (fun i w u' hw hp => ?_) hb (lr.mono p1 z1) rel1 (F1.push _) (n1.grown fun _ _ e => Heap.get?_push_of_some _ e) (qn.up p1 z1) (qr.up p1 z1)
      · rcases List.mem_cons.mp hb with e | hb
        · exact absurd e hn
        · rw [List.mem_singleton.mp hb]; exact ⟨_, hm⟩
      · obtain ⟨u2, hu, r⟩ := hv.get hw
        have hp' : xs[i]? = some u' := by simpa using hp
        rw [hu] at hp'
        cases hp'
        exact r
  · exact hb.elim
end

section
variable {c : Cx} {env : Env} {m : Loc} {ρ : List Cell} {Z : ZL} {N : Led} {S : AS} {l : Lc} {e a b : PySem.Expr} {p : Pos} {k : KV} {n : Nat} {I : Ev3} {T : Tab} {es ts : List PySem.Expr} {kn : Lc → AS → Prop} {kr : KV} {ss body : List PySem.Stmt} {Q : Flow → Shared → Prop} {s : Shared} {x : PySem.Str}
theorem attr_none {α : Type} {f : PySem.Expr → Option α} (hf : ∀ a b d, f (.Attribute a b d) = none) : ∀ {ts : List PySem.Expr}, ts.all isAttr = true → ts.filterMap f = []
  | [], _ => rfl
  | t :: r, h => by
    simp only [List.all_cons, Bool.and_eq_true] at h
    cases t with
    | Attribute a b d => rw [List.filterMap_cons, hf]; exact attr_none hf h.2
    | _ => exact absurd h.1 (fun e => Bool.noConfusion e)
theorem swapped_none {tk : Nat} {tp : Pos} (h : (notTup e || ts.all isAttr) = true) : swappedStores [.Tuple ts tk tp] e env = pure none := by
  simp only [Bool.or_eq_true] at h
  rcases h with h | h
  · cases e <;> first | rfl | exact absurd h (fun e => Bool.noConfusion e)
  · cases e with
    | Tuple vs vk vp =>
      unfold swappedStores
      simp only []
      split
      · rfl
      · rename_i h1
        split
        · rfl
        · rw [attr_none (fun _ _ _ => rfl) h]
          have hne : ts.length ≠ 0 := by
            intro h0
            simp [h0] at h1
          rw [if_pos (by simp [hne.symm, Ne.symm hne])]
    | _ => rfl
theorem each_len : ∀ {ts : List PySem.Expr}, ts.all plainE = true → (assignEach ts env).length = ts.length ∧ (assignEach ts env).findIdx? (·.1) = none ∧ (assignEach ts env).map (·.2) = ts.map fun t => PySem.assign t env
  | [], _ => ⟨rfl, rfl, rfl⟩
  | t :: r, h => by
    simp only [List.all_cons, Bool.and_eq_true] at h
    obtain ⟨h1, h2, h3⟩ := each_len h.2
    have e : assignEach (t :: r) env = (false, PySem.assign t env) :: assignEach r env := by cases t <;> first | rfl | exact absurd h.1 (fun e => Bool.noConfusion e)
    rw [e]
    refine ⟨by rw [List.length_cons, List.length_cons, h1], ?_, by rw [List.map_cons, List.map_cons, h3]⟩
    rw [List.findIdx?_cons, h2]
    rfl
theorem wp_asgs (hI : SE n I.e) (to : TabOk c.w n T) (ok : c.Ok) (eo : EnvD c env n) : ∀ {ts : List PySem.Expr} {us : List Value} {vs : List V} {l : Lc} {S : AS} {m : Loc} {ρ : List Cell} {Z : ZL} {N : Led} {ka : Lc → AS → Prop} {Q : Unit → Shared → Prop} {s : Shared}, VRs ρ Z us vs → asgs T I env.scope l ts vs S ka → LRd c env m ρ Z l → Rel c.w.params ρ S Z N →
    Fr c.h₀ c.L s.heap m → News c.h₀ c.L s.heap N → (∀ l' S' m' h' tk' ρ' Z' N', Fr c.h₀ c.L h' m' → News c.h₀ c.L h' N' → Rel c.w.params ρ' S' Z' N' → Ext ρ ρ' → SubZ Z Z' → LRd c env m' ρ' Z' l' → ka l' S' → Q () { s with heap := h', toks := tk' }) →
    wpAny (model PG c.w) c.A (assignInOrder (ts.map fun t => PySem.assign t env) us) Q FE s
  | [], [], [], l, S, m, ρ, Z, N, ka, Q, s, r, h, lr, rel, F, nw, q => assignInOrder_nil (q l S m s.heap s.toks ρ Z N F nw rel Ext.rfl SubZ.rfl lr h)
  | t :: ts, u :: us, v :: vs, l, S, m, ρ, Z, N, ka, Q, s, r, h, lr, rel, F, nw, q => by
    cases r with
    | cons a b =>
    refine assignInOrder_cons (wp_asg hI to ok eo a h lr rel F nw ?_)
    intro l1 S1 m1 h1 tk1 ρ1 Z1 N1 F1 n1 rel1 p1 z1 lr1 hk
    exact wp_asgs hI to ok eo (s := { s with heap := h1, toks := tk1 }) (b.mono p1 z1) hk lr1 rel1 F1 n1 fun l' S' m' h' tk' ρ' Z' N' F' n' r' p' z' lr' hk' => q l' S' m' h' tk' ρ' Z' N' F' n' r' (p1.trans p') (z1.trans z') lr' hk'
  | [], _ :: _, _, l, S, m, ρ, Z, N, ka, Q, s, r, h, lr, rel, F, nw, q => by cases r; exact h.elim
  | _ :: _, [], _, l, S, m, ρ, Z, N, ka, Q, s, r, h, lr, rel, F, nw, q => by cases r; exact h.elim
  | [], [], _ :: _, l, S, m, ρ, Z, N, ka, Q, s, r, h, lr, rel, F, nw, q => by cases r
  | _ :: _, _ :: _, [], l, S, m, ρ, Z, N, ka, Q, s, r, h, lr, rel, F, nw, q => by cases r
end

section
variable {c : Cx} {env : Env} {m : Loc} {ρ : List Cell} {Z : ZL} {N : Led} {S : AS} {l : Lc} {e a b : PySem.Expr} {p : Pos} {k : KV} {n : Nat} {I : Ev3} {T : Tab} {es ts : List PySem.Expr} {kn : Lc → AS → Prop} {kr : KV} {ss body : List PySem.Stmt} {Q : Flow → Shared → Prop} {s : Shared} {x : PySem.Str}
theorem st_tup {tk : Nat} {tp : Pos} (hI : SE n I.e) (to : TabOk c.w n T) (ok : c.Ok) (eo : EnvD c env n) (hc : noComp e = true) (hp : ts.all plainE = true) (ht : (notTup e || ts.all isAttr) = true) (h : I.e env.scope l e S fun v S' => (match v with
    | .tup vs => cond (vs.length == ts.length) (asgs T I env.scope l ts vs S' kn) False
    | _ => False)) (lr : LRd c env m ρ Z l) (rel : Rel c.w.params ρ S Z N) : StA c env ρ Z m N (.Assign [.Tuple ts tk tp] e p) kn kr := by
  intro Q s F nw qn qr
  refine PyProof.Rows.Assign_Tuple (hI _ _ _ _ _ _ _ _ _ _ ok eo.toEnvOk h (lr.lr eo) rel _ _ _ F nw ?_) (show swapsWithSole [.Tuple ts tk tp] e p.line env = pure false from noComp_eq (env := env) hc (some (.Tuple ts tk tp)) p.line) (swapped_none ht)
  intro V S1 v h1 tk1 ρ1 Z1 N1 F1 n1 rel1 p1 z1 r hb
  split at hb
  · rename_i vs
    cases r with
    | @tup t us cc _ hm hv =>
    cases hz : (vs.length == ts.length) with
    | false => rw [hz] at hb; exact hb.elim
    | true =>
      rw [hz] at hb
      have hz' : vs.length = ts.length := beq_iff_eq.mp hz
      obtain ⟨e1, e2, e3⟩ := each_len (env := env) hp
      refine PyProof.Rows.assign_Tuple_tuple (by rfl) ⟨_, (n1 _ (rel1.v _ hm)).1, rfl, _, rfl⟩ (by rw [e1, List.size_toArray, hv.length, hz']) e2 fun h' he => ?_
      have up : ∀ b o, h1.get? b = some o → h'.get? b = some o := fun b o e => he b o (Nat.ne_of_lt (Heap.lt_size e)) e
      rw [e3]
      exact wp_asgs (s := { s with heap := h', toks := tk1 }) hI to ok eo hv hb (lr.mono p1 z1) rel1 (F1.keeps up) (n1.grown up) fun l' S' m' h'' tk' ρ' Z' N' F' n' r' p' z' lr' hk => qn l' S' m' h'' tk' ρ' Z' N' F' n' r' (p1.trans p') (z1.trans z') lr' hk
  · exact hb.elim
end

theorem marks_no {op : CmpOp} {b : PySem.Expr} (h : notSet b = true) : behindInMarks op b = false := by
  cases b <;> first | rfl | exact absurd h (fun e => Bool.noConfusion e)
theorem condT {b : Bool} {P : Prop} (h : cond b P False) : b = true ∧ P := by
  cases b with
  | true => exact ⟨rfl, h⟩
  | false => exact h.elim
theorem condF {b : Bool} {P : Prop} (h : cond b False P) : b = false ∧ P := by
  cases b with
  | true => exact h.elim
  | false => exact ⟨rfl, h⟩
theorem se_step {n : Nat} {T : Tab} {I : Ev3} (to : ∀ w, TabOk w n T) (hI : SE n I.e) (hT : ST n I.t) (hp : ∀ sc l a S k, I.e sc l a S k → plainE a = true) : SE n (evE T I) := by
  intro c env l e S k m ρ Z N ok eo h lr rel
  cases e with
  | Name x p =>
    delta evE at h
    dsimp only at h
    cases hf : fld x l with
    | some v => rw [hf] at h; exact ea_name lr rel hf h
    | none =>
      rw [hf] at h
      obtain ⟨h1, h2⟩ := condT h
      cases hg : T.glb x with
      | none => rw [hg] at h2; exact h2.elim
      | some g =>
        rw [hg] at h2
        cases g with
        | int i =>
          obtain ⟨d, t, e⟩ := (to c.w).num _ _ hg
          intro Q E s F nw q
          exact name_glob ok eo h1 d e F (q _ S _ s.heap s.toks ρ Z N F nw rel Ext.rfl SubZ.rfl (.int _ t) h2)
        | ty b =>
          obtain ⟨d, e, eb⟩ := (to c.w).bi _ _ hg
          intro Q E s F nw q
          exact name_bi ok eo h1 d e eb F (q _ S _ s.heap s.toks ρ Z N F nw rel Ext.rfl SubZ.rfl (.ty _) h2)
        | _ => exact h2.elim
  | Constant c p1 p2 =>
    cases c with
    | none => exact ea_none rel h
    | bool b => exact ea_bool rel h
    | int i => exact ea_int rel h
    | _ => exact h.elim
  | BinOp a op b p => exact ea_bin hI ok eo h lr rel
  | UnaryOp op a p =>
    cases op with
    | Not => exact ea_not hI ok eo h lr rel
    | _ => exact h.elim
  | BoolOp op es p =>
    cases es with
    | nil => exact h.elim
    | cons a r =>
      cases r with
      | nil => exact ea_bool1 hI ok eo h lr rel
      | cons b es => exact ea_bool2 hI ok eo h lr rel
  | Compare a ops bs p =>
    cases ops with
    | nil => exact h.elim
    | cons op ops =>
      cases ops with
      | cons _ _ => exact h.elim
      | nil =>
        cases bs with
        | nil => exact h.elim
        | cons b bs =>
          cases bs with
          | cons _ _ => exact h.elim
          | nil =>
            obtain ⟨h1, h2⟩ := condT h
            exact ea_cmp hI ok eo h2 lr rel (marks_no h1)
  | Call f args kws p =>
    cases kws with
    | cons _ _ => exact h.elim
    | nil =>
      cases f with
      | Name x fp =>
        obtain ⟨h1, h2⟩ := condT h
        simp only [Bool.and_eq_true] at h1
        cases hg : T.glb x with
        | none => rw [hg] at h2; exact h2.elim
        | some g =>
          rw [hg] at h2
          cases g with
          | glob a => exact ea_callG hI hp (to _) ok eo h1.1.2 h1.2 hg h2 lr rel
          | ty b =>
            obtain ⟨h3, h4⟩ := condF h2
            exact ea_callB hI hp (to _) ok eo h1.1.2 h1.2 hg h3 h4 lr rel
          | _ => exact h2.elim
      | Attribute f x fp =>
        obtain ⟨h1, h2⟩ := condT h
        simp only [Bool.and_eq_true] at h1
        exact ea_meth hI hp (to _) ok eo h1.2 h1.1.1.1 h1.1.1.2 h1.1.2 h2 lr rel
      | _ => exact h.elim
  | Attribute a x p => exact ea_attr hI ok eo (condT h).1 (condT h).2 lr rel
  | Subscript a i p =>
    cases i with
    | Slice lo hi st p2 =>
      cases st with
      | none => exact ea_slice hI ok eo h lr rel
      | some _ => exact h.elim
    | _ => exact ea_sub hI ok eo rfl h lr rel
  | List es p => exact ea_list hI hp ok eo h lr rel
  | Tuple es p1 p2 => exact ea_tuple hI hp ok eo h lr rel
  | ListComp elt gs cs p =>
    cases gs with
    | nil => exact h.elim
    | cons g gs =>
      obtain ⟨t, it, ifs, ay⟩ := g
      cases t with
      | Name x xp =>
        cases ifs with
        | nil =>
          cases ay with
          | negSucc n => exact h.elim
          | ofNat n =>
            cases n with
            | succ n => exact h.elim
            | zero =>
              cases gs with
              | cons _ _ => exact h.elim
              | nil =>
                obtain ⟨h1, h2⟩ := condT h
                simp only [Bool.and_eq_true] at h1
                exact ea_comp hI (to _) ok eo h1.1 h1.2 h2 lr rel
        | cons c ifs =>
          cases ifs with
          | cons _ _ => exact h.elim
          | nil =>
            cases ay with
            | negSucc n => exact h.elim
            | ofNat n =>
              cases n with
              | succ n => exact h.elim
              | zero =>
                cases gs with
                | cons _ _ => exact h.elim
                | nil =>
                  obtain ⟨h1, h2⟩ := condT h
                  simp only [Bool.and_eq_true] at h1
                  exact ea_compT hI hT ok eo h1.1 h1.2 h2 lr rel
      | Tuple es p1 p2 =>
        cases es with
        | nil => exact h.elim
        | cons e1 es =>
          cases e1 with
          | Name x xp =>
            cases es with
            | nil => exact h.elim
            | cons e2 es =>
              cases e2 with
              | Name y yp =>
                cases es with
                | cons _ _ => exact h.elim
                | nil =>
                  cases ifs with
                  | cons _ _ => exact h.elim
                  | nil =>
                    cases ay with
                    | negSucc n => exact h.elim
                    | ofNat n =>
                      cases n with
                      | succ n => exact h.elim
                      | zero =>
                        cases gs with
                        | cons _ _ => exact h.elim
                        | nil =>
                          obtain ⟨h1, h2⟩ := condT h
                          simp only [Bool.and_eq_true] at h1
                          exact ea_compP hI ok eo h1.1.1.1 h1.1.1.2 h1.1.2 h1.2 h2 lr rel
              | _ => exact h.elim
          | _ => exact h.elim
      | _ => exact h.elim
  | _ => exact h.elim

theorem st_step {n : Nat} {I : Ev3} (hI : SE n I.e) (hT : ST n I.t) : ST n (evT I) := by
  intro c env l e S k m ρ Z N ok eo h lr rel
  unfold evT at h
  split at h
  · exact ta_not hT ok eo h lr rel
  · exact ta_nil (op := .And) h rel
  · exact ta_nil (op := .Or) h rel
  · exact ta_and hT ok eo h lr rel
  · exact ta_or hT ok eo h lr rel
  · obtain ⟨h1, h2⟩ := condT h
    exact ta_cmp hI ok eo h2 lr rel (marks_no h1)
  · obtain ⟨h1, h2⟩ := condT h
    exact ta_val hI ok eo h2 lr rel (by cases e <;> first | rfl | exact absurd h1 (fun e => Bool.noConfusion e))

theorem st_forP {T : Tab} {I : Ev3} {n : Nat} {c : Cx} {env : Env} {l : Lc} {S : AS} {kn : Lc → AS → Prop} {kr : KV} {m : Loc} {ρ : List Cell} {Z : ZL} {N : Led} {body : List PySem.Stmt} {x y : PySem.Str} {it : PySem.Expr} {xp yp tp p : Pos} {tk : Nat} (hI : SE n I.e) (hX : SX n I.x) (ok : c.Ok) (eo : EnvD c env n)
    (hx : (env.scope.names.lookup x == some .local) = true) (hy : (env.scope.names.lookup y == some .local) = true) (hd : (x != Str.ofString "__debug__") = true) (hd2 : (y != Str.ofString "__debug__") = true) (hs : notSet it = true) (hnc : noCell env.scope = true)
    (h : I.e env.scope l it S fun v S1 => (match v with
    | .lst us => cond (Nat.ble us.length 1000) (forW (pick (T.live p)) (fun u l' S' kn' kr' => match u with
      | .tup [a, b] => I.x env.scope ((y, b) :: (x, a) :: l') body S' kn' (fun _ _ => False)
      | _ => False) us l S1 kn kr) False
    | _ => False)) (lr : LRd c env m ρ Z l) (rel : Rel c.w.params ρ S Z N) : StA c env ρ Z m N (.For (.Tuple [.Name x xp, .Name y yp] tk tp) it body [] p) kn kr := by
  intro Q s F nw qn qr
  have hk : env.kindOf x = some .local := beq_iff_eq.mp hx
  have hk2 : env.kindOf y = some .local := beq_iff_eq.mp hy
  have hdd : (x == Str.ofString "__debug__") = false := beq_eq_false_iff_ne.mpr (bne_iff_ne.mp hd)
  have hdd2 : (y == Str.ofString "__debug__") = false := beq_eq_false_iff_ne.mpr (bne_iff_ne.mp hd2)
  have hpk : (env.scope.kind == .class || (env.scope.kind == .module && env.locals != env.globals)) = false := by rw [eo.k]; rfl
  have hnc' := noCell_of hnc
  refine For_invT c.h₀ (hI _ _ _ _ _ _ _ _ _ _ ok eo.toEnvOk h (lr.lr eo) rel _ _ _ F nw ?_) (notSet_eq hs env) PassesOwn.never
  intro V S1 v h1 tk1 ρ1 Z1 N1 F1 n1 rel1 p1 z1 r hb
  have hL := eo.loc
  have hne : c.L ≠ h1.objs.size := Nat.ne_of_lt F1.ns.lt
  have hJ0 : c.h₀.get? h1.objs.size = none := next_is_new F1
  split at hb
  · rename_i us
    cases r with
    | @lst a xs cc _ hm hv =>
    obtain ⟨hz, hb⟩ := condT hb
    have hl := hv.length
    have il : h1.IsList a xs.toArray := News.isList n1 (rel1.v _ hm)
    have hlt : a < h1.objs.size := by obtain ⟨_, e, _⟩ := il; exact Heap.lt_size e
    have haL : c.L ≠ a := fun e => (n1 _ (rel1.v _ hm)).2.1 e.symm
    refine wpAny_pyIter_list (s := { s with heap := h1, toks := tk1 }) il ?_
    have W : Walks PG c.w c.A h1.objs.size [h1.objs.size, a] [h1.objs.size] us.length (fun i v => xs.toArray[i]? = some v) (fun i h => h.IsListIter h1.objs.size a i ∧ h.IsList a xs.toArray) := by
      rw [← hl, ← List.size_toArray]
      exact Walks.list (by rfl) h1.objs.size a (Nat.ne_of_lt hlt) xs.toArray
    have offN : ∀ p ∈ N1, p.1 ≠ h1.objs.size := fun p hp => Nat.ne_of_lt (Heap.lt_size (n1 p hp).1)
    refine ⟨h1.objs.size, _, _, us.length, _, _, m, N1, fun i m' news => ∃ l' S' ρ' Z', LRd c env m' ρ' Z' l' ∧ Rel c.w.params ρ' S' Z' news ∧ Ext ρ1 ρ' ∧ SubZ Z1 Z' ∧ forW (pick (T.live p)) (fun u l' S' kn' kr' => match u with
      | .tup [a, b] => I.x env.scope ((y, b) :: (x, a) :: l') body S' kn' (fun _ _ => False)
      | _ => False) (us.drop i) l' S' kn kr,
      rfl, W, by rw [hL]; simp [hne, haL], fun b hb => by rw [List.mem_singleton.mp hb]; exact hJ0, fun p hp hm => offN p hp (List.mem_singleton.mp hm), ⟨⟨_, Heap.get?_push_size _ rfl, rfl, rfl⟩, il.push _⟩, by rw [hL]; exact F1.push _, by rw [hL]; exact n1.grown fun _ _ e => Heap.get?_push_of_some _ e, ?_, ⟨l, S1, ρ1, Z1, lr.mono p1 z1, rel1, Ext.rfl, SubZ.rfl, hb⟩, ?_, ?_⟩
    · intro i s' v Q' st q
      exact letGo_listiter st.1 q
    · rintro i u m₁ news₁ s₁ own hi hPi ⟨l1, S2, ρ2, Z2, lr2, rel2, p2, z2, hf⟩ hoff hown hget hall st F₁ N₁
      rw [hL] at F₁ N₁ ⊢
      obtain ⟨v, hv'⟩ : ∃ v, us[i]? = some v := ⟨_, List.getElem?_eq_getElem hi⟩
      obtain ⟨oJ, hoJ, _⟩ := st.1
      have mJ : (h1.objs.size, oJ) ∈ own := hall _ (.head _) hJ0 oJ hoJ
      have off1 : ∀ p ∈ news₁, p.1 ≠ h1.objs.size := fun p hp e => hoff p hp (List.mem_singleton.mpr e)
      have r2 := rel2.pin (o := oJ) off1
      have sz : SubZ Z2 (Z2.pin (h1.objs.size, oJ)) := SubZ.pin
      have hf' := forW_drop hv' hf
      obtain ⟨u2, hu, ru⟩ := hv.get hv'
      have hp' : xs[i]? = some u := by simpa using hPi
      rw [hu] at hp'
      cases hp'
      split at hf'
      · rename_i va vb
        have ru' := (ru.mono p2 z2).mono Ext.rfl sz
        cases ru' with
        | @tup t ys cc' _ hmt hvt =>
        cases hvt with
        | @cons u1 _ us1 _ ra hvt =>
        cases hvt with
        | @cons u2 _ us2 _ rb hvt =>
        cases hvt
        have n2 : News c.h₀ c.L s₁.heap ((h1.objs.size, oJ) :: news₁) := fun p hp => by
          rcases List.mem_cons.mp hp with rfl | hp
          · exact N₁ _ (List.mem_append.mpr (.inl mJ))
          · exact N₁ _ (List.mem_append.mpr (.inr hp))
        have ht : s₁.heap.IsTuple t #[u1, u2] := ⟨_, (n2 _ (r2.v _ hmt)).1, rfl, _, rfl⟩
        refine wpAny_assign_Tuple (by rfl) ht (by rfl) (by rfl) fun h' he => ?_
        have up : ∀ b o, s₁.heap.get? b = some o → h'.get? b = some o := fun b o e => he b o (Nat.ne_of_lt (Heap.lt_size e)) e
        have Fa := F₁.keeps up
        have na := n2.grown up
        refine assignInOrder_cons (PyProof.Rows.assign_Name (wpAny_storeName_local hk (by rw [hL]; exact Fa.ns) (fun h4 hn4 hs4 => ?_) hpk))
        rw [hL] at hn4 hs4
        have Fb := Fa.set hn4 hs4
        have nb := na.set hs4
        refine assignInOrder_cons (PyProof.Rows.assign_Name (wpAny_storeName_local hk2 (by rw [hL]; exact Fb.ns) (fun h5 hn5 hs5 => assignInOrder_nil ?_) hpk))
        rw [hL] at hn5 hs5
        have Fc := Fb.set hn5 hs5
        have nc := nb.set hs5
        refine hX _ _ _ _ _ _ _ _ _ _ _ ok eo hf' ((((lr2.pick _).mono Ext.rfl sz).set ra hk hdd).set rb hk2 hdd2) r2 _ _ Fc nc ?_ ?_
        · intro l3 S3 m3 h3 tk3 ρ3 Z3 N3 F3 n3 rel3 p3 z3 lr3 hk
          have hw : Sub Z2.w Z3.w := fun p hp => z3.2 _ (.tail _ hp)
          have rel4 := rel3.cutX (N' := N3.filter fun p => decide (p.1 ≠ h1.objs.size)) (w := Z2.w) [h1.objs.size] (fun y hy => by rw [List.mem_singleton.mp hy]; exact ⟨oJ, z3.2 _ (.head _)⟩) hw (fun p hp hm => off1 p (rel2.sub p (List.mem_append.mpr (.inr hp))) (List.mem_singleton.mp hm)) (fun p hp hm => List.mem_filter.mpr ⟨hp, decide_eq_true fun e => hm (List.mem_singleton.mpr e)⟩) fun p hp => (List.mem_filter.mp hp).1
          have sz4 : SubZ Z2 ⟨Z3.v, Z2.w⟩ := ⟨z3.1, Sub.rfl⟩
          refine ⟨rfl, h3, tk3, m3, N3.filter fun p => decide (p.1 ≠ h1.objs.size), rfl, F3, fun p hp => ?_, fun p hp hm => of_decide_eq_true (List.mem_filter.mp hp).2 (List.mem_singleton.mp hm), l3, S3, ρ3, ⟨Z3.v, Z2.w⟩, ?_, rel4, p2.trans p3, z2.trans sz4, hk⟩
          · rcases List.mem_append.mp hp with hp | hp
            · by_cases e : p.1 = h1.objs.size
              · have e2 := hget p hp
                rw [e, hoJ] at e2
                have : p = (h1.objs.size, oJ) := by
                  obtain ⟨p1, p2⟩ := p
                  cases e2
                  cases e
                  rfl
                rw [this]
                exact n3 _ (rel3.sub _ (List.mem_append.mpr (.inr (z3.2 _ (.head _)))))
              · have ea : p.1 = a := by
                  rcases List.mem_cons.mp (hown p hp) with e' | e'
                  · exact absurd e' e
                  · exact List.mem_singleton.mp e'
                have e2 : s₁.heap.get? p.1 = some p.2 := hget p hp
                have ho1 := rel2.v _ (z2.1 _ hm)
                have e3 := (N₁ _ (List.mem_append.mpr (.inr ho1))).1
                rw [ea] at e2
                have e4 := Option.some.inj (e3.symm.trans e2)
                have : p = (a, listOf xs.toArray cc) := by
                  obtain ⟨p1, p2⟩ := p
                  cases e4
                  cases ea
                  rfl
                rw [this]
                exact n3 _ (rel3.v _ (z3.1 _ (z2.1 _ hm)))
            · exact n3 p (List.mem_filter.mp hp).1
          · intro z w hz
            obtain ⟨u', a, d, b⟩ := lr3 z w hz
            refine ⟨u', VR.monoV (Z := Z3) (Z' := ⟨Z3.v, Z2.w⟩) Ext.rfl Sub.rfl a, d, ?_⟩
            rcases b with b | ⟨b1, a', o, e1, e2, e3⟩
            · exact .inl b
            · exact absurd b1 (hnc' z)
        · intro V S3 v3 m3 h3 tk3 ρ3 Z3 N3 F3 n3 rel3 p3 z3 r3 hk
          exact hk.elim
      · exact hf'.elim
    · rintro h' tk m' news' F' N' _ ⟨l1, S2, ρ2, Z2, lr2, rel2, p2, z2, hf⟩
      rw [List.drop_of_length_le (Nat.le_refl _)] at hf
      rw [hL] at F' N'
      exact qn _ S2 m' h' tk ρ2 Z2 news' F' N' rel2 (p1.trans p2) (z1.trans z2) (lr2.pick _) hf
  · exact hb.elim
theorem asg_cases {T : Tab} {I : Ev3} {sc : Scope} {l : Lc} {t e : PySem.Expr} {ts : List PySem.Expr} {p : Pos} {S : AS} {kn : Lc → AS → Prop} {kr : KV} (h : stW T I sc l (.Assign (t :: ts) e p) S kn kr) :
    ts = [] ∧ ((∃ us a b, t = .Tuple us a b) ∨ (∃ y yp elt x xp it cs q, t = .Name y yp ∧ e = .ListComp elt [⟨.Name x xp, it, [], 0⟩] cs q) ∨ cond (noComp e && tgtOk t) (I.e sc l e S fun v S' => asgW T I sc l t v S' kn) False) := by
  cases t with
  | Tuple us a b =>
    cases ts with
    | nil => exact ⟨rfl, .inl ⟨us, a, b, rfl⟩⟩
    | cons _ _ => exact h.elim
  | Name y yp =>
    cases ts with
    | cons _ _ => exact h.elim
    | nil =>
      refine ⟨rfl, .inr ?_⟩
      cases e with
      | ListComp elt gs cs q =>
        cases gs with
        | nil => exact h.elim
        | cons g gs =>
          obtain ⟨t, it, ifs, ay⟩ := g
          cases t with
          | Name x xp =>
            cases ifs with
            | cons _ _ => exact h.elim
            | nil =>
              cases ay with
              | negSucc n => exact h.elim
              | ofNat n =>
                cases n with
                | succ n => exact h.elim
                | zero =>
                  cases gs with
                  | cons _ _ => exact h.elim
                  | nil => exact .inl ⟨y, yp, elt, x, xp, it, cs, q, rfl, rfl⟩
          | _ => exact h.elim
      | _ => exact .inr h
  | _ =>
    cases ts with
    | nil => exact ⟨rfl, .inr (.inr h)⟩
    | cons _ _ => exact h.elim
theorem stA_step {n : Nat} {T : Tab} {I : Ev3} (to : ∀ w, TabOk w n T) (hI : SE n I.e) (hT : ST n I.t) (hX : SX n I.x) {c : Cx} {env : Env} {l : Lc} {st : PySem.Stmt} {S : AS} {kn : Lc → AS → Prop} {kr : KV} {m : Loc} {ρ : List Cell} {Z : ZL} {N : Led}
    (ok : c.Ok) (eo : EnvD c env n) (h : stW T I env.scope l st S kn kr) (lr : LRd c env m ρ Z l) (rel : Rel c.w.params ρ S Z N) : StA c env ρ Z m N st kn kr := by
  cases st with
  | Assign ts e p =>
    cases ts with
    | nil => exact h.elim
    | cons t ts =>
      obtain ⟨rfl, g⟩ := asg_cases h
      rcases g with ⟨us, a, b, rfl⟩ | ⟨y, yp, elt, x, xp, it, cs, q, rfl, rfl⟩ | g
      · obtain ⟨h1, h2⟩ := condT h
        simp only [Bool.and_eq_true] at h1
        exact st_tup hI (to _) ok eo h1.1.1 h1.1.2 h1.2 h2 lr rel
      · obtain ⟨h1, h2⟩ := condT h
        simp only [Bool.and_eq_true] at h1
        have hsw := h1.1.1.1
        unfold swapB at hsw
        have hsw' := hsw
        simp only [Bool.and_eq_true] at hsw
        have hy : env.kindOf _ = some .local := beq_iff_eq.mp hsw.1.1
        intro Q s F nw qn qr
        refine st_comp hI (to _) ok eo.toEnvOk eo.loc h1.1.1.2 h1.1.2 hy ?_ h2 (lr.lr eo) rel F nw ?_
        · unfold swapsWith
          simp only []
          have hb : env.blockKind = .function := by unfold Env.blockKind; rw [eo.k]; rfl
          rw [hb]
          exact congrArg pure hsw'
        · intro V S' v h' tk' ρ' Z' N' F' n' r' p' z' x y
          exact qn _ S' _ h' tk' ρ' Z' N' F' n' r' p' z' ((lr.mono p' z').set x hy (beq_eq_false_iff_ne.mpr (bne_iff_ne.mp h1.2))) y
      · obtain ⟨h1, h2⟩ := condT g
        simp only [Bool.and_eq_true] at h1
        exact st_assign hI (to _) ok eo h1.1 h2 h1.2 lr rel
  | If t a b p => exact st_if hT hX ok eo h lr rel
  | Return o p =>
    cases o with
    | none => exact h.elim
    | some e => exact st_ret hI ok eo h lr rel
  | Expr e p => exact st_expr hI ok eo (condT h).1 (condT h).2 lr rel
  | For t it body els p =>
    cases t with
    | Name x xp =>
      cases els with
      | cons _ _ => exact h.elim
      | nil =>
        obtain ⟨h1, h2⟩ := condT h
        simp only [Bool.and_eq_true] at h1
        exact st_for hI hX ok eo h1.1.1.1 h1.1.1.2 h1.1.2 h1.2 h2 lr rel
    | Tuple es p1 p2 =>
      cases es with
      | nil => exact h.elim
      | cons e1 es =>
        cases e1 with
        | Name x xp =>
          cases es with
          | nil => exact h.elim
          | cons e2 es =>
            cases e2 with
            | Name y yp =>
              cases es with
              | cons _ _ => exact h.elim
              | nil =>
                cases els with
                | cons _ _ => exact h.elim
                | nil =>
                  obtain ⟨h1, h2⟩ := condT h
                  simp only [Bool.and_eq_true] at h1
                  exact st_forP hI hX ok eo h1.1.1.1.1.1 h1.1.1.1.1.2 h1.1.1.1.2 h1.1.1.2 h1.1.2 h1.2 h2 lr rel
            | _ => exact h.elim
        | _ => exact h.elim
    | _ => exact h.elim
  | _ => exact h.elim

theorem sx_step {n : Nat} {T : Tab} {I : Ev3} (to : ∀ w, TabOk w n T) (hI : SE n I.e) (hT : ST n I.t) (hX : SX n I.x) : SX n (evX T I) := by
  intro c env l ss S kn kr m ρ Z N ok eo h lr rel Q s F nw qn qr
  unfold evX at h
  split at h
  · exact sx_nil h lr rel F nw qn
  · exact sx_cons hX ok eo (stA_step to hI hT hX ok eo h lr rel) F nw qn qr
theorem plain_step {T : Tab} {I : Ev3} : ∀ sc l a S k, evE T I sc l a S k → plainE a = true := by
  intro sc l a S k h
  cases a with
  | Starred v p => exact h.elim
  | _ => rfl
theorem sound {n : Nat} {T : Tab} (to : ∀ w, TabOk w n T) : ∀ j, SE n (sem T j).e ∧ ST n (sem T j).t ∧ SX n (sem T j).x ∧ ∀ sc l a S k, (sem T j).e sc l a S k → plainE a = true
  | 0 => ⟨fun _ _ _ _ _ _ _ _ _ _ _ _ h => h.elim, fun _ _ _ _ _ _ _ _ _ _ _ _ h => h.elim, fun _ _ _ _ _ _ _ _ _ _ _ _ _ h => h.elim, fun _ _ _ _ _ h => h.elim⟩
  | j + 1 =>
    let ⟨a, b, d, e⟩ := sound to j
    ⟨se_step to a b e, st_step a b, sx_step to a b d, plain_step⟩

theorem under_make {dp un : Nat} {gd : Option (List Code)} {cn : PySem.Str} {cs : Scope} {L a : Addr} {ccd : Value} {cl : List (PySem.Str × Addr)} {outer : List Env} {C : Addr} {pos : List Value} {kw : List (PySem.Str × Value)} :
    (ktrTop dp un gd cn cs L a ccd cl outer).under (.builtin "type.__call__" ⟨.ref C :: pos, kw⟩) = ktrTop (dp + 1) (un + 1) (pushGuards [] gd) cn cs L a ccd cl outer := by
  kernel_rfl
theorem Rel.pins {P : Params} {ρ : List Cell} {S : AS} {Z : ZL} {N X : Led} (r : Rel P ρ S Z N) (hl : ∀ x ∈ X, ∀ p ∈ N, p.1 ≠ x.1) : Rel P ρ S ⟨Z.v, X ++ Z.w⟩ (X ++ N) where
  len := r.len
  own i c ob h1 h2 := (r.own i c ob h1 h2).mono Ext.rfl (show SubZ Z ⟨Z.v, X ++ Z.w⟩ from ⟨Sub.rfl, fun p hp => List.mem_append.mpr (.inr hp)⟩) fun p hp => List.mem_append.mpr (.inr hp)
  sub p hp := by
    rcases List.mem_append.mp hp with hp | hp
    · exact List.mem_append.mpr (.inr (r.v p hp))
    · rcases List.mem_append.mp hp with hp | hp
      · exact List.mem_append.mpr (.inl hp)
      · exact List.mem_append.mpr (.inr (r.sub p (List.mem_append.mpr (.inr hp))))
  nodup := r.nodup
  off p hp := by
    rcases List.mem_append.mp hp with hp | hp
    · exact r.off p (List.mem_append.mpr (.inl hp))
    · rcases List.mem_append.mp hp with hp | hp
      · intro hm
        obtain ⟨o', ho⟩ := r.inN _ hm
        exact hl _ hp _ ho rfl
      · exact r.off p (List.mem_append.mpr (.inr hp))
  inN b hb := let ⟨o', ho⟩ := r.inN b hb; ⟨o', List.mem_append.mpr (.inr ho)⟩
  vw p hp q hq := by
    rcases List.mem_append.mp hq with hq | hq
    · exact hl q hq p (r.v p hp)
    · exact r.vw p hp q hq
structure DefOk (P : Params) (f : Addr) (xs : List PySem.Str) (body : List PySem.Stmt) (sc : Scope) : Prop where
  obj : ∃ name qual params dV kV doc pm an cdv ct oc od osl, (KF P).lookup f = some ⟨oc, od, .func (fnOf name qual params body sc dV kV doc pm an cdv ct), osl⟩ ∧ codeIn (KF P) cdv qual = true ∧
    ∀ us : List Value, us.length = xs.length → bindArgs (fnOf name qual params body sc dV kV doc pm an cdv ct) ⟨us, []⟩ = pure (xs.zip us)
  kinds : (xs.all fun y => (sc.names.lookup y == some .local || sc.names.lookup y == some .cell) && y != Str.ofString "__debug__") = true
  nd : (cellsFrom 0 sc.names []).map (·.1) |>.Nodup
  cells : (sc.names.all fun p => p.2 != .cell || xs.contains p.1) = true
  ok : (!sc.isCoroutine && !sc.isGenerator && sc.kind == .function) = true
theorem mem_zip_of {α β : Type} : ∀ {xs : List α} {us : List β} {p : α × β}, p ∈ xs.zip us → p.1 ∈ xs
  | x :: xs, u :: us, p, h => by
    rcases List.mem_cons.mp h with rfl | h
    · exact .head _
    · exact .tail _ (mem_zip_of h)
inductive ZR (ρ : List Cell) (Z : ZL) : List (PySem.Str × Value) → Lc → Prop
  | nil : ZR ρ Z [] []
  | cons {x : PySem.Str} {u : Value} {v : V} {a : List (PySem.Str × Value)} {b : Lc} (h : VR ρ Z u v) (t : ZR ρ Z a b) : ZR ρ Z ((x, u) :: a) ((x, v) :: b)
theorem ZR.append {ρ : List Cell} {Z : ZL} : ∀ {a a' : List (PySem.Str × Value)} {b b' : Lc}, ZR ρ Z a b → ZR ρ Z a' b' → ZR ρ Z (a ++ a') (b ++ b')
  | _, _, _, _, .nil, h => h
  | _, _, _, _, .cons h t, k => .cons h (t.append k)
theorem ZR.reverse {ρ : List Cell} {Z : ZL} : ∀ {a : List (PySem.Str × Value)} {b : Lc}, ZR ρ Z a b → ZR ρ Z a.reverse b.reverse
  | _, _, .nil => .nil
  | _, _, .cons h t => by
    rw [List.reverse_cons, List.reverse_cons]
    exact t.reverse.append (.cons h .nil)
theorem ZR.zip {ρ : List Cell} {Z : ZL} : ∀ {xs : List PySem.Str} {us : List Value} {vs : List V}, VRs ρ Z us vs → ZR ρ Z (xs.zip us) (xs.zip vs)
  | [], _, _, _ => by simp; exact .nil
  | x :: xs, _, _, .nil => .nil
  | x :: xs, _, _, .cons a b => .cons a (ZR.zip b)
theorem ZR.get {ρ : List Cell} {Z : ZL} {x : PySem.Str} {v : V} : ∀ {a : List (PySem.Str × Value)} {b : Lc}, ZR ρ Z a b → fld x b = some v → ∃ u, a.lookup x = some u ∧ VR ρ Z u v ∧ (x, u) ∈ a
  | _, _, .nil, h => by simp [fld] at h
  | _, _, .cons (x := y) (u := u) (v := w) r t, h => by
    simp only [fld] at h
    by_cases hx : x = y
    · rw [if_pos hx] at h
      cases h
      subst hx
      exact ⟨u, by simp [List.lookup_cons], r, .head _⟩
    · rw [if_neg hx] at h
      obtain ⟨u', e, r', hm⟩ := t.get h
      exact ⟨u', by rw [List.lookup_cons, show (x == y) = false by simpa using hx]; exact e, r', .tail _ hm⟩
theorem bindC_spec {kindOf : PySem.Str → Option NameKind} {x : PySem.Str} (hx : kindOf x = some .cell) : ∀ (binds : List (PySem.Str × Value)) (cm : Loc), bindC kindOf binds cm x = (binds.reverse.lookup x).or (cm x)
  | [], cm => rfl
  | (n, v) :: r, cm => by
    rw [bindC, bindC_spec hx r, List.reverse_cons, List.lookup_append]
    by_cases hn : x = n
    · subst hn
      rw [if_neg (by rw [hx]; decide), if_pos rfl]
      cases List.lookup x r.reverse <;> simp [List.lookup_cons]
    · have e : (if kindOf n = some .local then cm else fun y => if y = n then some v else cm y) x = cm x := by
        split
        · rfl
        · exact if_neg hn
      rw [e, List.lookup_cons, show (x == n) = false by simpa using hn]
      simp
theorem bindL_spec {kindOf : PySem.Str → Option NameKind} {x : PySem.Str} (hx : kindOf x = some .local) : ∀ (binds : List (PySem.Str × Value)) (m : Loc), bindL kindOf binds m x = (binds.reverse.lookup x).or (m x)
  | [], m => rfl
  | (n, v) :: r, m => by
    rw [bindL, bindL_spec hx r, List.reverse_cons, List.lookup_append]
    by_cases hn : x = n
    · subst hn
      rw [if_pos hx]
      cases List.lookup x r.reverse <;> simp [List.lookup_cons]
    · have e : (if kindOf n = some .local then fun y => if y = n then some v else m y else m) x = m x := by
        split
        · exact if_neg hn
        · rfl
      rw [e, List.lookup_cons, show (x == n) = false by simpa using hn]
      simp

theorem cells_mem {cm : Loc} : ∀ {cs : List (PySem.Str × Addr)} {cells : Led}, CellsAre cm cs cells → ∀ {x : PySem.Str} {a : Addr}, cs.lookup x = some a → ∃ o, (a, o) ∈ cells ∧ o.data = .cell (cm x)
  | _, _, .nil, _, _, h => by simp at h
  | _, _, .cons (n := n) (c := b) (o := o) ho t, x, a, h => by
    rw [List.lookup_cons] at h
    cases hx : x == n with
    | true =>
      rw [hx] at h
      cases h
      rw [beq_iff_eq.mp hx]
      exact ⟨o, .head _, ho⟩
    | false =>
      rw [hx] at h
      obtain ⟨o', h1, h2⟩ := cells_mem t h
      exact ⟨o', .tail _ h1, h2⟩
theorem cells_ge : ∀ {names : List (PySem.Str × NameKind)} {n : Nat} {acc : List (PySem.Str × Addr)}, ∀ p ∈ cellsFrom n names acc, p ∈ acc ∨ n ≤ p.2
  | [], n, acc, p, hp => .inl hp
  | (y, k) :: r, n, acc, p, hp => by
    unfold cellsFrom at hp
    by_cases hk : (k == .cell) = true
    · rw [if_pos hk] at hp
      rcases cells_ge p hp with h | h
      · rcases List.mem_cons.mp h with rfl | h
        · exact .inr (Nat.le_refl n)
        · exact .inl h
      · exact .inr (Nat.le_of_succ_le h)
    · rw [if_neg hk] at hp
      exact cells_ge p hp
theorem cells_adr {cm : Loc} : ∀ {cs : List (PySem.Str × Addr)} {cells : Led}, CellsAre cm cs cells → ∀ x ∈ cells, ∃ p ∈ cs, p.2 = x.1
  | _, _, .nil, _, h => by cases h
  | _, _, .cons ho t, x, h => by
    rcases List.mem_cons.mp h with rfl | h
    · exact ⟨_, .head _, rfl⟩
    · obtain ⟨p, hp, e⟩ := cells_adr t x h
      exact ⟨p, .tail _ hp, e⟩
theorem code_sem {w : World} {N : Led} {f : Addr} {xs : List PySem.Str} {body : List PySem.Stmt} {sc : Scope} {us : List Value} {Vs : List V} {n : Nat} {I : Ev3} {ρ : List Cell} {S : AS} {Z : ZL} {kn : AS → Prop} {k : KV} (d : DefOk w.params f xs body sc) (hX : SX n I.x) (rel : Rel w.params ρ S Z N) (rs : VRs ρ Z us Vs) (hl : Vs.length = xs.length) (hn40 : n ≠ 40)
    (h : I.x sc (xs.zip Vs).reverse body S (fun _ S' => kn S') k)
    {mean : ExcName → Option Value} {mg mb : Loc} {dp un : Nat} {gd : Option (List Code)} {cn : PySem.Str} {cs : Scope} {a : Addr} {ccd : Value} {cl : List (PySem.Str × Addr)} {outer : List Env} {A₀ : Around} {base h₀ : Heap} {L : Addr} {m : Loc} {s : Shared} {R : Result → Shared → Prop}
    (B : Below A₀ base outer h₀) (F : Fr h₀ L s.heap m) (X : (KF w.params).In h₀) (nw : News h₀ L s.heap N) (T : Top QV (looseW QV []) mean mg mb h₀) (hkc : cs.kind = .function) (hdn : dp + (n + 1) < recursionLimit) (hut : un + (3 * n + 203) < cLine)
    (hn : ∀ h' tk' ρ' Z' S' N', Fr h₀ L h' m → News h₀ L h' N' → Rel w.params ρ' S' Z' N' → Ext ρ ρ' → SubZ Z Z' → kn S' → R (.ok (.ret .none)) { s with heap := h', toks := tk' })
    (hret : ∀ v h' tk' ρ' Z' S' N' V, Fr h₀ L h' m → News h₀ L h' N' → Rel w.params ρ' S' Z' N' → Ext ρ ρ' → SubZ Z Z' → VR ρ' Z' v V → k V S' → R (.ok (.ret v)) { s with heap := h', toks := tk' }) :
    codeAny (model PG w) (ktrTop dp un gd cn cs L a ccd cl outer) (.call (.ref f) ⟨us, []⟩) R s := by
  obtain ⟨⟨name, qual, params, dV, kV, doc, pm, an, cdv, ct, oc, od, osl, ho, hcd, hbind⟩, hkinds, hnd, hcells, hok⟩ := d
  simp only [Bool.and_eq_true, Bool.not_eq_true', beq_iff_eq] at hok
  obtain ⟨⟨hco, hgen⟩, hk⟩ := hok
  have hus : us.length = xs.length := by rw [rs.length, hl]
  have hkx : ∀ y ∈ xs, (sc.names.lookup y = some .local ∨ sc.names.lookup y = some .cell) ∧ (y == Str.ofString "__debug__") = false := fun y hy => by
    have := List.all_eq_true.mp hkinds y hy
    simp only [Bool.and_eq_true, Bool.or_eq_true, beq_iff_eq] at this
    exact ⟨this.1, beq_eq_false_iff_ne.mpr (bne_iff_ne.mp this.2)⟩
  refine code_defC (K := KF w.params) B F X nw T rfl rfl hkc ho hcd (by show dp < recursionLimit; omega) (BindsTo.of_eq (hbind us hus)) (List.all_eq_true.mpr fun y hy => ?_) hnd (fun g L' h₁ tk cells FG F' N' Y B' X' T' hlt => ?_) hco hgen hk
  · rcases (hkx y.1 (mem_zip_of hy)).1 with e | e <;> simp [e]
  · have apart : ∀ x ∈ cells, ∀ p ∈ N, p.1 ≠ x.1 := fun x hx p hp => by
      obtain ⟨q, hq, e⟩ := cells_adr Y x hx
      rcases cells_ge q hq with h | h
      · cases h
      · have h1 : @LT.lt Nat _ p.1 L' := hlt p hp
        have h2 : @LE.le Nat _ (L' + 1) q.2 := h
        rw [← e]
        exact Nat.ne_of_lt (Nat.lt_of_lt_of_le h1 (Nat.le_of_succ_le h2))
    have rel' := rel.pins apart
    have sz : SubZ Z ⟨Z.v, cells ++ Z.w⟩ := ⟨Sub.rfl, fun p hp => List.mem_append.mpr (.inr hp)⟩
    have zr : ZR ρ ⟨Z.v, cells ++ Z.w⟩ (xs.zip us).reverse (xs.zip Vs).reverse := (ZR.zip (rs.mono Ext.rfl sz)).reverse
    refine wpAny_mono (hX (mkCx w qual sc f cdv (cellsFrom (L' + 1) sc.names []) { mean := mean, mg := mg, mb := mb, dp := dp + 1, un := un + 3, gd := gd, L := L', outer := envX cn cs L a ccd cl :: outer, A₀ := ktrTop dp un gd cn cs L a ccd cl outer, base := base, h₀ := g }) (envOfC qual sc L' f cdv) _ _ _ _ _ _ ρ ⟨Z.v, cells ++ Z.w⟩ (cells ++ N) ⟨B', X', T', hk⟩ ⟨⟨fun e => absurd e hn40, rfl, rfl, hk, by show dp + 1 + n < recursionLimit; omega, by show un + 3 + 3 * n + 200 < cLine; omega⟩, rfl⟩ h ?_ rel' _ { s with heap := h₁, toks := tk } F' N' ?_ ?_) (fun _ _ x => x) (fun _ _ x => x.elim)
    · intro x v hx
      obtain ⟨u, e, r, hm⟩ := zr.get hx
      have hmx : x ∈ xs := mem_zip_of (List.mem_reverse.mp hm)
      obtain ⟨h1, h2⟩ := hkx x hmx
      refine ⟨u, r, h2, ?_⟩
      rcases h1 with h1 | h1
      · left
        refine ⟨h1, ?_⟩
        rw [bindL_spec h1, e]
        rfl
      · right
        refine ⟨h1, ?_⟩
        have hs := cellsFrom_some sc.names (L' + 1) [] (x := x) (.inl h1)
        obtain ⟨c, hc⟩ := Option.isSome_iff_exists.mp hs
        obtain ⟨o, hmo, hdo⟩ := cells_mem Y hc
        refine ⟨c, o, hc, List.mem_append.mpr (.inr (List.mem_append.mpr (.inl hmo))), ?_⟩
        rw [hdo, bindC_spec h1, e]
        rfl
    · intro l' S' m' h' tk' ρ' Z' N2 F2 n2 rel2 p2 z2 lr2 hk2
      exact leaveK_ F2 n2 fun kF kN => hn _ _ ρ' Z' S' N2 kF kN rel2 p2 (sz.trans z2) hk2
    · intro V S' v m' h' tk' ρ' Z' N2 F2 n2 rel2 p2 z2 r2 hk2
      exact leaveK_ F2 n2 fun kF kN => hret _ _ _ ρ' Z' S' N2 _ kF kN rel2 p2 (sz.trans z2) r2 hk2

noncomputable def Out (w : World) (ρ : List Cell) (Z : ZL) (k : KV) (v : Value) (N' : Led) : Prop := ∃ ρ' Z' S' V, Rel w.params ρ' S' Z' N' ∧ Ext ρ ρ' ∧ SubZ Z Z' ∧ VR ρ' Z' v V ∧ k V S'
theorem Ctr.weak {w : World} {dn ut dn' ut' : Nat} {N : Led} {f : Addr} {us : List Value} {Post : Value → Led → Prop} (h : Ctr w dn ut N f us Post) (h1 : dn ≤ dn') (h2 : ut ≤ ut') : Ctr w dn' ut' N f us Post :=
  fun mean mg mb dp un gd cn cs a ccd cl outer A₀ base h₀ L m s Q E B F X n T hk hd hu hr => h mean mg mb dp un gd cn cs a ccd cl outer A₀ base h₀ L m s Q E B F X n T hk (by omega) (by omega) hr
section
variable {w : World} {N : Led} {f C : Addr} {xs : List PySem.Str} {x0 : PySem.Str} {body : List PySem.Stmt} {sc : Scope} {us : List Value} {Vs : List V} {n : Nat} {I : Ev3} {ρ : List Cell} {S : AS} {Z : ZL} {k : KV}
theorem ctr_sem (d : DefOk w.params f xs body sc) (hX : SX n I.x) (rel : Rel w.params ρ S Z N) (rs : VRs ρ Z us Vs) (hl : Vs.length = xs.length) (hn40 : n ≠ 40)
    (h : I.x sc (xs.zip Vs).reverse body S (fun _ S' => k .none S') k) : Ctr w (n + 1) (3 * n + 203) N f us (Out w ρ Z k) := by
  intro mean mg mb dp un gd cn cs a ccd cl outer A₀ base h₀ L m s Q E B F X nw T hkc hdn hut hret
  refine wpAny_call ?_
  refine code_sem (kn := fun S' => k .none S') d hX rel rs hl hn40 h B F X nw T hkc hdn hut (fun h' tk' ρ' Z' S' N' F' n' rel' p z hk => hret .none h' tk' N' F' n' ⟨ρ', Z', S', .none, rel', p, z, .none, hk⟩) ?_
  intro v h' tk' ρ' Z' S' N' V F' n' rel' p z r hk
  exact hret v h' tk' N' F' n' ⟨ρ', Z', S', V, rel', p, z, r, hk⟩
structure ClsDef (P : Params) (C fI : Addr) : Prop extends ClsOk P C where
  makes : makesIn (KF P) C = true
  init : findIn (KF P) (.ref C) "__init__" = some (some (.ref fI))
  fn : isFn (KF P) (.ref fI) = true
theorem Rel.newI {P : Params} {x dx : Addr} (r : Rel P ρ S Z N) (co : ClsOk P C) (h1 : ∀ p ∈ N, p.1 < dx) (h2 : @LT.lt Nat _ dx x) :
    Rel P (ρ ++ [.o x dx]) (S ++ [.inst C []]) Z ((x, instObj C dx) :: (dx, dictOf [] 0) :: N) where
  len := by simp [r.len]
  own i c ob e1 e2 := by
    by_cases hi : i < ρ.length
    · rw [List.getElem?_append_left hi] at e1
      rw [List.getElem?_append_left (by rw [← r.len]; exact hi)] at e2
      exact (r.own i c ob e1 e2).mono Ext.app SubZ.rfl fun p hp => .tail _ (.tail _ hp)
    · have hi' : i = ρ.length := by
        have := (List.getElem?_eq_some_iff.mp e1).1
        simp at this
        omega
      subst hi'
      rw [List.getElem?_append_right (Nat.le_refl _), Nat.sub_self] at e1
      rw [r.len, List.getElem?_append_right (Nat.le_refl _), Nat.sub_self] at e2
      cases e1
      cases e2
      exact ⟨.head _, ⟨co, fun p hp => by cases hp⟩, [], .tail _ (.head _), .nil⟩
  sub p hp := .tail _ (.tail _ (r.sub p hp))
  nodup := by
    rw [adrs_app]
    refine List.nodup_append.mpr ⟨r.nodup, ?_, fun b hb b' hb' e => ?_⟩
    · simp only [Cell.adrs, List.nodup_cons, List.mem_singleton, List.not_mem_nil, not_false_eq_true, List.nodup_nil, and_self, and_true]
      exact Nat.ne_of_gt h2
    · subst e
      obtain ⟨o', ho⟩ := r.inN _ hb
      have hlt : @LT.lt Nat _ b dx := h1 _ ho
      rcases List.mem_cons.mp hb' with e | hb'
      · exact Nat.ne_of_lt (Nat.lt_trans hlt h2) e
      · exact Nat.ne_of_lt hlt (List.mem_singleton.mp hb')
  off p hp hm := by
    rw [adrs_app] at hm
    have hlt : @LT.lt Nat _ p.1 dx := h1 _ (r.sub p hp)
    rcases List.mem_append.mp hm with hm | hm
    · exact r.off p hp hm
    · rcases List.mem_cons.mp hm with e | hm
      · exact Nat.ne_of_lt (Nat.lt_trans hlt h2) e
      · exact Nat.ne_of_lt hlt (List.mem_singleton.mp hm)
  inN b hb := by
    rw [adrs_app] at hb
    rcases List.mem_append.mp hb with hm | hm
    · obtain ⟨o', ho⟩ := r.inN b hm
      exact ⟨o', .tail _ (.tail _ ho)⟩
    · rcases List.mem_cons.mp hm with rfl | hm
      · exact ⟨_, .head _⟩
      · rw [List.mem_singleton.mp hm]
        exact ⟨_, .tail _ (.head _)⟩
  vw := r.vw
theorem ctr_cls (d : DefOk w.params f (x0 :: xs) body sc) (cd : ClsDef w.params C f) (hX : SX n I.x) (rel : Rel w.params ρ S Z N) (rs : VRs ρ Z us Vs) (hl : Vs.length = xs.length) (hn40 : n ≠ 40)
    (h : I.x sc ((x0 :: xs).zip (V.ref S.length :: Vs)).reverse body (S ++ [.inst C []]) (fun _ S' => k (.ref S.length) S') (fun _ _ => False)) : Ctr w (n + 2) (3 * n + 204) N C us (Out w ρ Z k) := by
  intro mean mg mb dp un gd cn cs a ccd cl outer A₀ base h₀ L m s Q E B F X nw T hkc hdn hut hret
  refine call_cls (kw := []) F X nw cd.makes cd.init cd.fn fun x dx h' F1 n1 l1 l2 => ?_
  rw [under_make]
  have rel' := rel.newI cd.toClsOk l1 l2
  have rx : VR (ρ ++ [.o x dx]) Z (.ref x) (.ref S.length) := .ref (c := .o x dx) (by rw [← rel.len]; simp)
  refine code_sem (kn := fun S' => k (.ref S.length) S') (k := fun _ _ => False) d hX rel' (.cons rx (rs.mono Ext.app SubZ.rfl)) (by rw [List.length_cons, List.length_cons, hl]) hn40 h B F1 X n1 T hkc (by omega) (by omega) ?_ ?_
  · intro h2 tk2 ρ' Z' S' N' F2 n2 rel2 p z hk
    obtain ⟨c', e, ea⟩ := p S.length (.o x dx) (by rw [← rel.len]; simp)
    refine ⟨rfl, hret _ h2 tk2 N' F2 n2 ⟨ρ', Z', S', .ref S.length, rel2, Ext.app.trans p, z, ?_, hk⟩⟩
    have : VR ρ' Z' (.ref c'.adr) (.ref S.length) := .ref e
    rw [ea] at this
    exact this
  · intro v h2 tk2 ρ' Z' S' N' V F2 n2 rel2 p z r hk
    exact hk.elim
end

noncomputable def num3 (n : Int) : Bool := decide (-1208925819614629174706176 < n) && decide (n < 1208925819614629174706176)
section
variable (T : Tab) (I : Ev3) (sc : Scope)
noncomputable def partW (l : Lc) : List PySem.Expr → AS → (AS → Prop) → Prop
  | [], S, k => k S
  | .Constant (.str x) _ _ :: r, S, k => cond (Nat.ble x.length 100) (partW l r S k) False
  | .FormattedValue e c none _ :: r, S, k => cond (c == -1) (I.e sc l e S fun v S' => match v with
      | .int n => cond (num3 n) (partW l r S' k) False
      | _ => False) False
  | _, _, _ => False
noncomputable def argW (l : Lc) (e : PySem.Expr) (S : AS) (k : AS → Prop) : Prop :=
  match e with
  | .Constant (.str _) _ _ => k S
  | .JoinedStr (a :: b :: r) _ => cond (Nat.ble (a :: b :: r).length 20) (partW I sc l (a :: b :: r) S k) False
  | _ => False
noncomputable def raiseOf : List PySem.Stmt → Option (PySem.Str × PySem.Expr)
  | [.Raise (some (.Call (.Name x _) [arg] [] _)) none _] => some (x, arg)
  | _ => none
noncomputable def ckIf (X : PySem.Str) (l : Lc) (c : PySem.Expr) (b : List PySem.Stmt) (S : AS) (ke kr : AS → Prop) : Prop :=
  match raiseOf b with
  | some xa => I.t sc l c S fun b S' => cond b (cond (xa.1 == X) (argW I sc l xa.2 S' ke) False) (kr S')
  | none => I.t sc l c S fun b' S' => cond b' (I.x sc l b S' (fun l' S'' => l' = l ∧ kr S'') (fun _ _ => False)) (kr S')
noncomputable def ckW (X : PySem.Str) (l : Lc) : List PySem.Stmt → AS → (AS → Prop) → (AS → Prop) → Prop
  | [], S, kn, _ => kn S
  | .If c b [] _ :: r, S, kn, ke => ckIf I sc X l c b S ke fun S' => ckW X l r S' kn ke
  | _, _, _, _ => False
end
noncomputable def PostE (c : Cx) (ρ : List Cell) (Z : ZL) (C : Addr) (ke : AS → Prop) (E : Value → Shared → Prop) (s : Shared) : Prop :=
  ∀ S' h1 h2 tk' m' e vs ρ' Z' N', Fr c.h₀ c.L h1 m' → News c.h₀ c.L h1 N' → Rel c.w.params ρ' S' Z' N' → Ext ρ ρ' → SubZ Z Z' → Heap.MadeExcOf h1 h2 e (.ref C) vs → ke S' → E (.ref e) { s with heap := h2, toks := tk' }
theorem PostE.up {c : Cx} {ρ ρ' : List Cell} {Z Z' : ZL} {C : Addr} {ke : AS → Prop} {E : Value → Shared → Prop} {s : Shared} (h : PostE c ρ Z C ke E s) (h1 : Ext ρ ρ') (h2 : SubZ Z Z') {h' : Heap} {tk' : Tok} : PostE c ρ' Z' C ke E { s with heap := h', toks := tk' } :=
  fun S' g1 g2 tk'' m' e vs ρ'' Z'' N' F n r p z x y => h S' g1 g2 tk'' m' e vs ρ'' Z'' N' F n r (h1.trans p) (h2.trans z) x y
structure ExcOk (P : Params) (X : PySem.Str) (C : Addr) : Prop where
  ns : nsIn (KF P) mainGlobals X = some (some (.ref C))
  exc : excIn (KF P) C [.type "Exception", .type "BaseException", .type "object"] "Exception.__new__" = true
  kts : ktsIn (KF P) C "BaseException" = true
  dbg : (X == Str.ofString "__debug__") = false
theorem noSome {α : Type} {a : α} (h : none = some a) : False := nomatch h
theorem raiseOf_eq : ∀ {b : List PySem.Stmt} {xa : PySem.Str × PySem.Expr}, raiseOf b = some xa → ∃ xp cp rp, b = [.Raise (some (.Call (.Name xa.1 xp) [xa.2] [] cp)) none rp] := by
  intro b xa h
  cases b with
  | nil => exact (noSome h).elim
  | cons st b =>
    cases st with
    | Raise e cs rp =>
      cases e with
      | none => exact (noSome h).elim
      | some e =>
        cases e with
        | Call f as kw cp =>
          cases f with
          | Name x xp =>
            cases as with
            | nil => exact (noSome h).elim
            | cons a as =>
              cases as with
              | cons _ _ => exact (noSome h).elim
              | nil =>
                cases kw with
                | cons _ _ => exact (noSome h).elim
                | nil =>
                  cases cs with
                  | some _ => exact (noSome h).elim
                  | none =>
                    cases b with
                    | cons _ _ => exact (noSome h).elim
                    | nil => cases h; exact ⟨xp, cp, rp, rfl⟩
          | _ => exact (noSome h).elim
        | _ => exact (noSome h).elim
    | _ => exact (noSome h).elim
theorem log2_small {n : Int} (h : num3 n = true) : n.natAbs.log2 < 80 := by
  simp only [num3, Bool.and_eq_true, decide_eq_true_eq] at h
  by_cases h0 : n.natAbs = 0
  · rw [h0]; decide
  · have e : n.natAbs < 2 ^ 80 := by
      have : (2 : Nat) ^ 80 = 1208925819614629174706176 := by decide +kernel
      rw [this]; omega
    exact (Nat.log2_lt h0).mpr e
section
variable {c : Cx} {env : Env} {m : Loc} {ρ : List Cell} {Z : ZL} {N : Led} {S : AS} {l : Lc} {n : Nat} {I : Ev3} {T : Tab} {C : Addr} {X : PySem.Str}
theorem wp_parts (hI : SE n I.e) (ok : c.Ok) (eo : EnvD c env n) : ∀ (es : List PySem.Expr) (out : PySem.Str) (S : AS) (ρ : List Cell) (Z : ZL) (N : Led) (k : AS → Prop) (Q E : Value → Shared → Prop) (s : Shared), partW I env.scope l es S k → LRd c env m ρ Z l → Rel c.w.params ρ S Z N → Fr c.h₀ c.L s.heap m → News c.h₀ c.L s.heap N →
    out.length + 100 * es.length ≤ 1000000 →
    (∀ S' v h' tk' ρ' Z' N', Fr c.h₀ c.L h' m → News c.h₀ c.L h' N' → Rel c.w.params ρ' S' Z' N' → Ext ρ ρ' → SubZ Z Z' → k S' → Q v { s with heap := h', toks := tk' }) →
    wpAny (model PG c.w) c.A (joinParts out (evalEach es env)) Q E s
  | [], out, S, ρ, Z, N, k, Q, E, s, h, lr, rel, F, nw, hz, q => by
    refine joinParts_nil ?_ (by rw [sizeLine_eq]; simp only [List.length_nil] at hz; omega)
    exact q S _ s.heap _ ρ Z N F nw rel Ext.rfl SubZ.rfl h
  | e :: r, out, S, ρ, Z, N, k, Q, E, s, h, lr, rel, F, nw, hz, q => by
    rw [List.length_cons] at hz
    cases e with
    | Constant cc j p =>
      cases cc with
      | str x =>
        obtain ⟨h1, h2⟩ := condT h
        have h1' := Nat.le_of_ble_eq_true h1
        refine joinParts_cons (wpAny_Constant_str ⟨?_, ?_⟩)
        · rw [sizeLine_eq, strLen_append]; omega
        · exact wp_parts hI ok eo r (out ++ x) _ _ _ _ _ _ _ _ h2 lr rel F nw (by rw [strLen_append]; omega) q
      | _ => exact h.elim
    | FormattedValue a cv fs p =>
      cases fs with
      | some _ => exact h.elim
      | none =>
        obtain ⟨h1, h2⟩ := condT h
        have h1' : cv = -1 := beq_iff_eq.mp h1
        subst h1'
        refine joinParts_cons (FormattedValue_plain (hI _ _ _ _ _ _ _ _ _ _ ok eo.toEnvOk h2 (lr.lr eo) rel _ _ _ F nw ?_))
        intro V S1 v h1 tk1 ρ1 Z1 N1 F1 n1 rel1 p1 z1 rv hb
        cases V with
        | int x =>
          cases rv
          obtain ⟨h3, h4⟩ := condT hb
          have hlog := log2_small h3
          have hlen := int_text_length_le (a := x) (k := 80) (by decide) hlog
          refine formatField_int_small (by omega) ⟨?_, ?_⟩
          · rw [sizeLine_eq, strLen_append, PySem.ofString_length]; omega
          · refine wp_parts hI ok eo r (out ++ _) S1 ρ1 Z1 N1 _ _ _ _ h4 (lr.mono p1 z1) rel1 F1 n1 ?_ fun S' v h' tk' ρ' Z' N' F' n' rel' p' z' hk => q S' v h' tk' ρ' Z' N' F' n' rel' (p1.trans p') (z1.trans z') hk
            rw [strLen_append, PySem.ofString_length]; omega
        | _ => exact hb.elim
    | _ => exact h.elim
theorem wp_arg {arg : PySem.Expr} {k : AS → Prop} {cpos : Pos} {E : Value → Shared → Prop} {s : Shared} {Q : List Value → Shared → Prop} (hI : SE n I.e) (ok : c.Ok) (eo : EnvD c env n) (h : argW I env.scope l arg S k) (lr : LRd c env m ρ Z l) (rel : Rel c.w.params ρ S Z N) (F : Fr c.h₀ c.L s.heap m) (nw : News c.h₀ c.L s.heap N)
    (q : ∀ S' v h' tk' ρ' Z' N', Fr c.h₀ c.L h' m → News c.h₀ c.L h' N' → Rel c.w.params ρ' S' Z' N' → Ext ρ ρ' → SubZ Z Z' → k S' → Q [v] { s with heap := h', toks := tk' }) :
    wpAny (model PG c.w) c.A (spliced (backTo cpos (starEach [arg] env))) Q E s ∧ starEach [arg] env = (false, PySem.eval arg env) :: starEach [] env := by
  cases arg with
  | Constant cc j p =>
    cases cc with
    | str x =>
      refine ⟨args_cons (wpAny_Constant_str (args_nil ?_)) (by rfl), by rfl⟩
      exact q S _ s.heap _ ρ Z N F nw rel Ext.rfl SubZ.rfl h
    | _ => exact h.elim
  | JoinedStr vs p =>
    cases vs with
    | nil => exact h.elim
    | cons a vs =>
      cases vs with
      | nil => exact h.elim
      | cons b r =>
        obtain ⟨h1, h2⟩ := condT h
        have h1' := Nat.le_of_ble_eq_true h1
        refine ⟨args_cons (JoinedStr_many (wp_parts hI ok eo (a :: b :: r) Str.empty S ρ Z N k _ _ _ h2 lr rel F nw ?_ ?_)) (by rfl), by rfl⟩
        · have : Str.empty.length = 0 := by rfl
          omega
        · intro S' v h' tk' ρ' Z' N' F' n' rel' p' z' hk
          exact args_nil (q S' v h' tk' ρ' Z' N' F' n' rel' p' z' hk)
  | _ => exact h.elim
theorem ck_sound (hI : SE n I.e) (hT : ST n I.t) (hX : SX n I.x) (xo : ExcOk c.w.params X C) (ok : c.Ok) (hcl : c.cl = []) (he : env = c.env) (eo : EnvD c env n) (hx : env.kindOf X = some .globalImplicit) :
    ∀ (ss : List PySem.Stmt) (S : AS) (m : Loc) (ρ : List Cell) (Z : ZL) (N : Led) (kn ke : AS → Prop) (Q : Flow → Shared → Prop) (E : Value → Shared → Prop) (s : Shared), ckW I env.scope X l ss S kn ke → LRd c env m ρ Z l → Rel c.w.params ρ S Z N → Fr c.h₀ c.L s.heap m → News c.h₀ c.L s.heap N →
    (∀ S' m' h' tk' ρ' Z' N', Fr c.h₀ c.L h' m' → News c.h₀ c.L h' N' → Rel c.w.params ρ' S' Z' N' → Ext ρ ρ' → SubZ Z Z' → kn S' → Q .next { s with heap := h', toks := tk' }) → PostE c ρ Z C ke E s →
    wpAny (model PG c.w) c.A (PySem.execs ss env) Q E s
  | [], S, m, ρ, Z, N, kn, ke, Q, E, s, h, lr, rel, F, nw, qn, qe => by
    exact wpAny_execs_nil (qn S m s.heap s.toks ρ Z N F nw rel Ext.rfl SubZ.rfl h)
  | st :: r, S, m, ρ, Z, N, kn, ke, Q, E, s, h, lr, rel, F, nw, qn, qe => by
    have up : ∀ {ρ1 : List Cell} {Z1 : ZL} {h1 : Heap} {tk1 : Tok}, Ext ρ ρ1 → SubZ Z Z1 → (∀ S' m' h' tk' ρ' Z' N', Fr c.h₀ c.L h' m' → News c.h₀ c.L h' N' → Rel c.w.params ρ' S' Z' N' → Ext ρ1 ρ' → SubZ Z1 Z' → kn S' → Q .next { s with heap := h', toks := tk' }) :=
      fun p z S' m' h' tk' ρ' Z' N' F' n' rel' p' z' hk => qn S' m' h' tk' ρ' Z' N' F' n' rel' (p.trans p') (z.trans z') hk
    cases st with
    | If cnd bd els ip =>
      cases els with
      | cons _ _ => exact h.elim
      | nil =>
        replace h : ckIf I env.scope X l cnd bd S ke (fun S' => ckW I env.scope X l r S' kn ke) := h
        delta ckIf at h
        cases hr : raiseOf bd with
        | some xa =>
          rw [hr] at h
          obtain ⟨xp, cpos, rpos, rfl⟩ := raiseOf_eq hr
          clear hr
          obtain ⟨x, arg⟩ := xa
          refine wpAny_execs_cons (wpAny_If (hT _ _ _ _ _ _ _ _ _ _ ok eo.toEnvOk h (lr.lr eo) rel _ _ _ F nw ?_))
          intro b S1 h1 tk1 ρ1 Z1 N1 F1 n1 rel1 p1 z1 hb
          cases b with
          | false =>
            rw [if_neg (by decide)]
            refine wpAny_execs_nil ?_
            exact ck_sound hI hT hX xo ok hcl he eo hx r S1 m ρ1 Z1 N1 _ _ Q E _ hb (lr.mono p1 z1) rel1 F1 n1 (up (h1 := h1) (tk1 := tk1) p1 z1) (qe.up p1 z1)
          | true =>
            rw [if_pos rfl]
            obtain ⟨hxx, harg⟩ := condT hb
            have hxx' := beq_iff_eq.mp hxx
            subst hxx'
            refine wpAny_execs_cons ?_
            have core := wp_arg (s := { s with heap := h1, toks := tk1 }) (Q := fun vs s₂ => vs.length ≤ sizeLine ∧ (∀ b o, c.h₀.get? b = some o → s₂.heap.get? b = some o) ∧
                ∀ h' e, Heap.MadeExcOf s₂.heap h' e (.ref C) vs → E (.ref e) { s₂ with heap := h' }) (E := E) (cpos := cpos) hI ok eo harg (lr.mono p1 z1) rel1 F1 n1 (fun S' v h' tk' ρ' Z' N' F' n' rel' p' z' hk => ⟨by rw [sizeLine_eq]; simp, F'.keep, fun h2 e hm => qe S' h' h2 tk' m e [v] ρ' Z' N' F' n' rel' (p1.trans p') (z1.trans z') hm hk⟩)
            have hk := eo.k
            have hx' := hx
            subst he
            have henv : c.env = envOf c.cn c.cs c.L c.a c.ccd := by show envX _ _ _ _ _ c.cl = _; rw [hcl]; rfl
            rw [henv] at core hx' hk ⊢
            exact Raise_own F1 (topRead_of ok.T).g (own_of_in ok.X (topRead_of ok.T) xo.ns xo.exc) PySem.F.excBase_Exception (by rfl) core.1 core.2 (by rfl) hk hx' xo.dbg
        | none =>
          rw [hr] at h
          refine wpAny_execs_cons (wpAny_If (hT _ _ _ _ _ _ _ _ _ _ ok eo.toEnvOk h (lr.lr eo) rel _ _ _ F nw ?_))
          intro b S1 h1 tk1 ρ1 Z1 N1 F1 n1 rel1 p1 z1 hb
          cases b with
          | false =>
            rw [if_neg (by decide)]
            refine wpAny_execs_nil ?_
            exact ck_sound hI hT hX xo ok hcl he eo hx r S1 m ρ1 Z1 N1 _ _ Q E _ hb (lr.mono p1 z1) rel1 F1 n1 (up (h1 := h1) (tk1 := tk1) p1 z1) (qe.up p1 z1)
          | true =>
            rw [if_pos rfl]
            refine wpAny_mono (hX _ _ _ _ _ _ _ _ _ _ _ ok eo hb (lr.mono p1 z1) rel1 _ _ F1 n1 ?_ ?_) (fun _ _ x => x) (fun _ _ x => x.elim)
            · rintro l2 S2 m2 h2 tk2 ρ2 Z2 N2 F2 n2 rel2 p2 z2 lr2 ⟨hl, hk⟩
              rw [hl] at lr2
              exact ck_sound hI hT hX xo ok hcl he eo hx r S2 m2 ρ2 Z2 N2 _ _ Q E _ hk lr2 rel2 F2 n2 (up (h1 := h2) (tk1 := tk2) (p1.trans p2) (z1.trans z2)) (qe.up (p1.trans p2) (z1.trans z2))
            · intro V S2 v2 m2 h2 tk2 ρ2 Z2 N2 F2 n2 rel2 p2 z2 r2 hk
              exact hk.elim
    | _ => exact h.elim
end

theorem noCell_mem {sc : Scope} (h : noCell sc = true) : ∀ x ∈ sc.names, x.2 ≠ .cell := fun x hx e => by
  unfold noCell at h
  rw [List.all_eq_true] at h
  have := h x hx
  rw [e] at this
  cases this
section
variable {w : World} {N : Led} {f a : Addr} {xs : List PySem.Str} {body : List PySem.Stmt} {sc : Scope} {us : List Value} {Vs : List V} {n : Nat} {I : Ev3} {T : Tab} {ρ : List Cell} {S : AS} {Z : ZL} {k : KV} {C : Addr} {X : PySem.Str} {kn ke : AS → Prop}
theorem code_chk (d : DefOk w.params f xs body sc) (hnc : noCell sc = true) (hI : SE n I.e) (hT : ST n I.t) (hX : SX n I.x) (xo : ExcOk w.params X C) (hXg : (sc.names.lookup X == some .globalImplicit) = true) (hn40 : n ≠ 40) (rel : Rel w.params ρ S Z N) (rs : VRs ρ Z us Vs) (hl : Vs.length = xs.length)
    (h : ckW I sc X (xs.zip Vs).reverse body S kn ke)
    {mean : ExcName → Option Value} {mg mb : Loc} {dp un : Nat} {gd : Option (List Code)} {cn : PySem.Str} {cs : Scope} {a : Addr} {ccd : Value} {cl : List (PySem.Str × Addr)} {outer : List Env} {A₀ : Around} {base h₀ : Heap} {L : Addr} {m : Loc} {s : Shared} {R : Result → Shared → Prop}
    (B : Below A₀ base outer h₀) (F : Fr h₀ L s.heap m) (X₀ : (KF w.params).In h₀) (nw : News h₀ L s.heap N) (T : Top QV (looseW QV []) mean mg mb h₀) (hkc : cs.kind = .function) (hdn : dp + (n + 1) < recursionLimit) (hut : un + (3 * n + 203) < cLine)
    (hn : ∀ h' tk' ρ' Z' S' N', Fr h₀ L h' m → News h₀ L h' N' → Rel w.params ρ' S' Z' N' → Ext ρ ρ' → SubZ Z Z' → kn S' → R (.ok (.ret .none)) { s with heap := h', toks := tk' })
    (he : ∀ g h' tk' e t vs ρ' Z' S' N', Fr h₀ L g m → RaisedS base g (envX cn cs L a ccd cl :: outer) e (.ref C) t vs N' h' → g.UpToSlots h' → Rel w.params ρ' S' Z' N' → Ext ρ ρ' → SubZ Z Z' → ke S' → R (.error (.ref e)) { s with heap := h', toks := tk' }) :
    codeAny (model PG w) (ktrTop dp un gd cn cs L a ccd cl outer) (.call (.ref f) ⟨us, []⟩) R s := by
  obtain ⟨⟨name, qual, params, dV, kV, doc, pm, an, cdv, ct, oc, od, osl, ho, hcd, hbind⟩, hkinds, hnd, hcells, hok⟩ := d
  simp only [Bool.and_eq_true, Bool.not_eq_true', beq_iff_eq] at hok
  obtain ⟨⟨hco, hgen⟩, hk⟩ := hok
  have hus : us.length = xs.length := by rw [rs.length, hl]
  have hkx : ∀ y ∈ xs, sc.names.lookup y = some .local ∧ (y == Str.ofString "__debug__") = false := fun y hy => by
    have := List.all_eq_true.mp hkinds y hy
    simp only [Bool.and_eq_true, Bool.or_eq_true, beq_iff_eq] at this
    refine ⟨this.1.resolve_right (noCell_of hnc y), beq_eq_false_iff_ne.mpr (bne_iff_ne.mp this.2)⟩
  refine code_def (K := KF w.params) B F X₀ nw T rfl rfl hkc ho hcd (by show dp < recursionLimit; omega) (BindsTo.of_eq (hbind us hus)) (fun y hy => (hkx y.1 (mem_zip_of hy)).1) (fun g L' h₁ FG F' N' B' X' T' => ?_) hco hgen hk (noCell_mem hnc)
  have zr : ZR ρ Z (xs.zip us).reverse (xs.zip Vs).reverse := (ZR.zip rs).reverse
  refine ck_sound (c := mkCx w qual sc f cdv [] { mean := mean, mg := mg, mb := mb, dp := dp + 1, un := un + 3, gd := gd, L := L', outer := envX cn cs L a ccd cl :: outer, A₀ := ktrTop dp un gd cn cs L a ccd cl outer, base := base, h₀ := g }) (env := envOf qual sc L' f cdv) hI hT hX xo ⟨B', X', T', hk⟩ rfl rfl ⟨⟨fun e => absurd e hn40, rfl, rfl, hk, by show dp + 1 + n < recursionLimit; omega, by show un + 3 + 3 * n + 200 < cLine; omega⟩, rfl⟩ (beq_iff_eq.mp hXg) body S _ ρ Z N kn ke _ _ { s with heap := h₁, toks := s.toks + (xs.zip us).length } h ?_ rel F' N' ?_ ?_
  · intro x v hx
    obtain ⟨u, e, r, hm⟩ := zr.get hx
    have hmx : x ∈ xs := mem_zip_of (List.mem_reverse.mp hm)
    obtain ⟨h1, h2⟩ := hkx x hmx
    exact ⟨u, r, h2, .inl ⟨h1, e⟩⟩
  · intro S' m' h' tk' ρ' Z' N2 F2 n2 rel2 p2 z2 hk2
    exact leaveK_ F2 n2 fun kF kN => hn _ _ ρ' Z' S' N2 kF kN rel2 p2 z2 hk2
  · intro S' h1 h2 tk' m' e vs ρ' Z' N2 F2 n2 rel2 p2 z2 hm hk2
    exact leave_raiseS (s' := { s with heap := h2, toks := tk' }) B' hm F2 n2 (fun h3 t R1 R2 R3 => he g h3 tk' e t vs ρ' Z' S' N2 FG R1 R3 rel2 p2 z2 hk2) hk
end

section
variable {w : World} {N : Led} {f a : Addr} {x0 : PySem.Str} {sc msc : Scope} {mbody : List PySem.Stmt} {n : Nat} {I : Ev3} {T : Tab} {ρ : List Cell} {S : AS} {Z : ZL} {k : KV} {C : Addr} {X o chk : PySem.Str} {p1 p2 p3 p4 p5 p6 p7 p8 p9 p10 p11 : Pos} {j1 j2 : Nat} {i : Nat} {Cc : Nat} {fs : List (PySem.Str × V)} {u : Value}
theorem ctr_try (d : DefOk w.params f [o] [.Try [.Expr (.Call (.Attribute (.Name o p1) chk p2) [] [] p3) p4] [.ExceptHandler (some (.Name X p5)) none [.Return (some (.Constant (.bool true) j1 p6)) p7] p8] [] [] p9, .Return (some (.Constant (.bool false) j2 p10)) p11] sc) (hnc : noCell sc = true)
    (dm : DefOk w.params a [x0] mbody msc) (hncm : noCell msc = true) (hI : SE n I.e) (hT : ST n I.t) (hX : SX n I.x) (xo : ExcOk w.params X C) (hXg : (sc.names.lookup X == some .globalImplicit) = true) (hXm : (msc.names.lookup X == some .globalImplicit) = true) (hn : n + 3 ≤ 40)
    (hpos : (p2.endLine == p3.line) = true) (hmth : findIn (KF w.params) (.ref Cc) chk = some (some (.ref a)) ∧ isFn (KF w.params) (.ref a) = true ∧ keepIn (KF w.params) (.ref a) = true)
    (rel : Rel w.params ρ S Z N) (ru : VR ρ Z u (.ref i)) (hs : getO S i = some (.inst Cc fs)) (hf : fld chk fs = none)
    (h : ckW I msc X [(x0, .ref i)] mbody S (fun S' => k (.bool false) S') (fun S' => k (.bool true) S')) : CtrT w 40 N f [u] (Out w ρ Z k) := by
  intro c m s Q E hw ok ht hdp hun F nw q
  obtain ⟨w', mean, mg, mb, dp, un, gd, cn, cs, L, a', ccd, cl, outer, A₀, base, h₀⟩ := c
  obtain ⟨ho1, hc1, hX0, hT0⟩ := ht rfl
  simp only at hw ho1 hc1 hX0 hT0
  subst hw ho1 hc1
  have hun' : un + 320 < cLine := hun
  have hdp' : dp + 40 < recursionLimit := hdp
  obtain ⟨⟨name, qual, params, dV, kV, doc, pm, an, cdv, ct, oc, od, osl, ho, hcd, hbind⟩, hkinds, hnd, hcells, hok⟩ := d
  simp only [Bool.and_eq_true, Bool.not_eq_true', beq_iff_eq] at hok
  obtain ⟨⟨hco, hgen⟩, hk⟩ := hok
  have hko : sc.names.lookup o = some .local ∧ (o == Str.ofString "__debug__") = false := by
    have := List.all_eq_true.mp hkinds o (.head _)
    simp only [Bool.and_eq_true, Bool.or_eq_true, beq_iff_eq] at this
    exact ⟨this.1.resolve_right (noCell_of hnc o), beq_eq_false_iff_ne.mpr (bne_iff_ne.mp this.2)⟩
  refine wpAny_call ?_
  refine code_defS0 (K := KF w'.params) ok.B F ok.X nw ok.T (by rfl) ho hcd (by show dp < recursionLimit; omega) (BindsTo.of_eq (hbind [u] rfl)) (fun y hy => by rw [List.mem_singleton.mp hy]; exact hko.1) (fun g L' h₁ FG F' N' B' X' T' D' => ?_) ok.hk hco hgen hk (noCell_mem hnc)
  refine wpAny_mono (E := FE) (Q := fun fl s' => LeaveS0 ([envOf cn cs L a' ccd].filterMap (·.frame)) h₀ L m g (fun r s' => match r with | .ok (.ret v) => Q v s' | .ok _ => False | .error e => E e s') (match fl with | .ret v => v | _ => .none) s') ?_ (fun _ _ x => x) (fun _ _ x => x.elim)
  obtain ⟨aa, dd, es, hc, rfl, hmm, hd, fr, co, ao⟩ := rel.inst ru hs
  have hg : getL chk es = some none := by
    obtain ⟨e1, e2, _⟩ := fr.no hf
    unfold getL
    rw [e1, e2]
    rfl
  refine wpAny_execs_cons (wpAny_Try_except (wpAny_execs_cons (wpAny_Expr_any ?_ (by unfold interactive; show (sc.kind == .module && _) = false; rw [hk]; rfl) (by rfl))))
  refine MethodCall_ (wpAny_Name (wpAny_loadName_local hk hko.1 F'.ns (v := .ref aa) ?_ ?_) hko.2) (meth_eq (by rfl) (by rfl) (by rfl) hpos)
  · show List.lookup o [(o, Value.ref aa)] = _
    simp [List.lookup_cons]
  refine method_inst (K := KF w'.params) (h₀ := g) (L := L') F' X' (InstAt.of_news N' hmm hd) co.get hmth.1 hmth.2.1 hg ?_
  refine callWith_K0 (K := KF w'.params) (X'.keeps F'.keep) hmth.2.2 ?_
  refine wpAny_call ?_
  refine code_chk (dp := dp + 1) (un := un + 3) (cn := qual) (cs := sc) (cl := []) (outer := [envOf cn cs L a' ccd]) dm hncm hI hT hX xo hXm (by omega) rel (.cons ru .nil) rfl h B' F' X' N' T' hk (by omega) (by omega) ?_ ?_
  · intro h2 tk2 ρ' Z' S' N2 F2 n2 rel2 p2 z2 hk2
    refine wpAny_execs_nil (wpAny_execs_nil (wpAny_execs_cons (wpAny_Return_some (wpAny_Constant_bool ?_))))
    exact leaveS0_ F2 n2 .refl fun kF kN => q _ _ _ N2 kF kN ⟨ρ', Z', S', _, rel2, p2, z2, .bool false, hk2⟩
  · intro G h2 tk2 e t vs ρ' Z' S' N2 FG2 R1 R3 rel2 p2 z2 hk2
    refine caught_SO0 (KF := KF w'.params) (s' := { s with heap := h2, toks := tk2 }) R1 FG2 B' R3 hX0 hT0 D' .refl xo.ns xo.kts ?_ hk (beq_iff_eq.mp hXg) xo.dbg
    intro h3 g' news₂ T3 F3 n3 got n3' B3 X3 T3' D3
    refine wpAny_execs_cons (wpAny_Return_some (wpAny_Constant_bool ?_))
    exact leaveS0_ F3 n3' T3 fun kF kN => q _ _ _ N2 kF kN ⟨ρ', Z', S', _, rel2, p2, z2, .bool true, hk2⟩
end

theorem len0 {us : List Value} (h : us.length = 0) : us = [] := by
  rcases us with _ | ⟨a0, _⟩
  · exact rfl
  · simp at h
theorem len1 {us : List Value} (h : us.length = 1) : ∃ a0, us = [a0] := by
  rcases us with _ | ⟨a0, _ | ⟨a1, _⟩⟩
  · simp at h
  · exact ⟨a0, rfl⟩
  · simp at h
theorem len2 {us : List Value} (h : us.length = 2) : ∃ a0 a1, us = [a0, a1] := by
  rcases us with _ | ⟨a0, _ | ⟨a1, _ | ⟨a2, _⟩⟩⟩
  · simp at h
  · simp at h
  · exact ⟨a0, a1, rfl⟩
  · simp at h
theorem len3 {us : List Value} (h : us.length = 3) : ∃ a0 a1 a2, us = [a0, a1, a2] := by
  rcases us with _ | ⟨a0, _ | ⟨a1, _ | ⟨a2, _ | ⟨a3, _⟩⟩⟩⟩
  · simp at h
  · simp at h
  · simp at h
  · exact ⟨a0, a1, a2, rfl⟩
  · simp at h
theorem len4 {us : List Value} (h : us.length = 4) : ∃ a0 a1 a2 a3, us = [a0, a1, a2, a3] := by
  rcases us with _ | ⟨a0, _ | ⟨a1, _ | ⟨a2, _ | ⟨a3, _ | ⟨a4, _⟩⟩⟩⟩⟩
  · simp at h
  · simp at h
  · simp at h
  · simp at h
  · exact ⟨a0, a1, a2, a3, rfl⟩
  · simp at h
theorem len5 {us : List Value} (h : us.length = 5) : ∃ a0 a1 a2 a3 a4, us = [a0, a1, a2, a3, a4] := by
  rcases us with _ | ⟨a0, _ | ⟨a1, _ | ⟨a2, _ | ⟨a3, _ | ⟨a4, _ | ⟨a5, _⟩⟩⟩⟩⟩⟩
  · simp at h
  · simp at h
  · simp at h
  · simp at h
  · simp at h
  · exact ⟨a0, a1, a2, a3, a4, rfl⟩
  · simp at h
theorem d_draw (P : Params) : DefOk P 194 [Str.ofString "nums", Str.ofString "i"] (fB 25) (fS 25) where
  obj := ⟨_, _, _, _, _, _, _, _, _, _, _, _, _, by rfl, by kernel_rfl, fun us h => by
    obtain ⟨a0, a1, rfl⟩ := len2 h
    rfl⟩
  kinds := by decide +kernel
  nd := by decide +kernel
  cells := by decide +kernel
  ok := by decide +kernel
theorem d_first (P : Params) : DefOk P 201 [] (fB 26) (fS 26) where
  obj := ⟨_, _, _, _, _, _, _, _, _, _, _, _, _, by rfl, by kernel_rfl, fun us h => by
    obtain rfl := len0 h
    rfl⟩
  kinds := by decide +kernel
  nd := by decide +kernel
  cells := by decide +kernel
  ok := by decide +kernel
theorem d_small (P : Params) : DefOk P 208 [] (fB 27) (fS 27) where
  obj := ⟨_, _, _, _, _, _, _, _, _, _, _, _, _, by rfl, by kernel_rfl, fun us h => by
    obtain rfl := len0 h
    rfl⟩
  kinds := by decide +kernel
  nd := by decide +kernel
  cells := by decide +kernel
  ok := by decide +kernel
theorem d_sizes (P : Params) : DefOk P 215 [Str.ofString "o"] (fB 28) (fS 28) where
  obj := ⟨_, _, _, _, _, _, _, _, _, _, _, _, _, by rfl, by kernel_rfl, fun us h => by
    obtain ⟨a0, rfl⟩ := len1 h
    rfl⟩
  kinds := by decide +kernel
  nd := by decide +kernel
  cells := by decide +kernel
  ok := by decide +kernel
theorem d_told (P : Params) : DefOk P 220 [Str.ofString "o", Str.ofString "stores"] (fB 29) (fS 29) where
  obj := ⟨_, _, _, _, _, _, _, _, _, _, _, _, _, by rfl, by kernel_rfl, fun us h => by
    obtain ⟨a0, a1, rfl⟩ := len2 h
    rfl⟩
  kinds := by decide +kernel
  nd := by decide +kernel
  cells := by decide +kernel
  ok := by decide +kernel
theorem d_shown (P : Params) : DefOk P 227 [Str.ofString "c"] (fB 30) (fS 30) where
  obj := ⟨_, _, _, _, _, _, _, _, _, _, _, _, _, by rfl, by kernel_rfl, fun us h => by
    obtain ⟨a0, rfl⟩ := len1 h
    rfl⟩
  kinds := by decide +kernel
  nd := by decide +kernel
  cells := by decide +kernel
  ok := by decide +kernel
theorem d_wanted (P : Params) : DefOk P 234 [Str.ofString "row", Str.ofString "nid", Str.ofString "storage", Str.ofString "applied"] (fB 31) (fS 31) where
  obj := ⟨_, _, _, _, _, _, _, _, _, _, _, _, _, by rfl, by kernel_rfl, fun us h => by
    obtain ⟨a0, a1, a2, a3, rfl⟩ := len4 h
    rfl⟩
  kinds := by decide +kernel
  nd := by decide +kernel
  cells := by decide +kernel
  ok := by decide +kernel
theorem d_same (P : Params) : DefOk P 239 [Str.ofString "some", Str.ofString "others"] (fB 32) (fS 32) where
  obj := ⟨_, _, _, _, _, _, _, _, _, _, _, _, _, by rfl, by kernel_rfl, fun us h => by
    obtain ⟨a0, a1, rfl⟩ := len2 h
    rfl⟩
  kinds := by decide +kernel
  nd := by decide +kernel
  cells := by decide +kernel
  ok := by decide +kernel
theorem d_stand (P : Params) : DefOk P 244 [Str.ofString "sides", Str.ofString "rows", Str.ofString "stores"] (fB 33) (fS 33) where
  obj := ⟨_, _, _, _, _, _, _, _, _, _, _, _, _, by rfl, by kernel_rfl, fun us h => by
    obtain ⟨a0, a1, a2, rfl⟩ := len3 h
    rfl⟩
  kinds := by decide +kernel
  nd := by decide +kernel
  cells := by decide +kernel
  ok := by decide +kernel
theorem d_put (P : Params) : DefOk P 251 [Str.ofString "o", Str.ofString "f", Str.ofString "v", Str.ofString "stores"] (fB 34) (fS 34) where
  obj := ⟨_, _, _, _, _, _, _, _, _, _, _, _, _, by rfl, by kernel_rfl, fun us h => by
    obtain ⟨a0, a1, a2, a3, rfl⟩ := len4 h
    rfl⟩
  kinds := by decide +kernel
  nd := by decide +kernel
  cells := by decide +kernel
  ok := by decide +kernel
theorem d_set (P : Params) : DefOk P 258 [Str.ofString "c", Str.ofString "f", Str.ofString "v"] (fB 35) (fS 35) where
  obj := ⟨_, _, _, _, _, _, _, _, _, _, _, _, _, by rfl, by kernel_rfl, fun us h => by
    obtain ⟨a0, a1, a2, rfl⟩ := len3 h
    rfl⟩
  kinds := by decide +kernel
  nd := by decide +kernel
  cells := by decide +kernel
  ok := by decide +kernel
theorem d_other (P : Params) : DefOk P 265 [Str.ofString "f", Str.ofString "z"] (fB 36) (fS 36) where
  obj := ⟨_, _, _, _, _, _, _, _, _, _, _, _, _, by rfl, by kernel_rfl, fun us h => by
    obtain ⟨a0, a1, rfl⟩ := len2 h
    rfl⟩
  kinds := by decide +kernel
  nd := by decide +kernel
  cells := by decide +kernel
  ok := by decide +kernel
theorem d_value (P : Params) : DefOk P 272 [Str.ofString "f", Str.ofString "z"] (fB 37) (fS 37) where
  obj := ⟨_, _, _, _, _, _, _, _, _, _, _, _, _, by rfl, by kernel_rfl, fun us h => by
    obtain ⟨a0, a1, rfl⟩ := len2 h
    rfl⟩
  kinds := by decide +kernel
  nd := by decide +kernel
  cells := by decide +kernel
  ok := by decide +kernel
theorem d_end_ (P : Params) : DefOk P 279 [Str.ofString "f", Str.ofString "k"] (fB 38) (fS 38) where
  obj := ⟨_, _, _, _, _, _, _, _, _, _, _, _, _, by rfl, by kernel_rfl, fun us h => by
    obtain ⟨a0, a1, rfl⟩ := len2 h
    rfl⟩
  kinds := by decide +kernel
  nd := by decide +kernel
  cells := by decide +kernel
  ok := by decide +kernel
theorem d_edge (P : Params) : DefOk P 286 [Str.ofString "f", Str.ofString "k", Str.ofString "want"] (fB 39) (fS 39) where
  obj := ⟨_, _, _, _, _, _, _, _, _, _, _, _, _, by rfl, by kernel_rfl, fun us h => by
    obtain ⟨a0, a1, a2, rfl⟩ := len3 h
    rfl⟩
  kinds := by decide +kernel
  nd := by decide +kernel
  cells := by decide +kernel
  ok := by decide +kernel
theorem d_stops (P : Params) : DefOk P 293 [Str.ofString "row"] (fB 40) (fS 40) where
  obj := ⟨_, _, _, _, _, _, _, _, _, _, _, _, _, by rfl, by kernel_rfl, fun us h => by
    obtain ⟨a0, rfl⟩ := len1 h
    rfl⟩
  kinds := by decide +kernel
  nd := by decide +kernel
  cells := by decide +kernel
  ok := by decide +kernel
theorem d_unfit (P : Params) : DefOk P 300 [Str.ofString "want"] (fB 41) (fS 41) where
  obj := ⟨_, _, _, _, _, _, _, _, _, _, _, _, _, by rfl, by kernel_rfl, fun us h => by
    obtain ⟨a0, rfl⟩ := len1 h
    rfl⟩
  kinds := by decide +kernel
  nd := by decide +kernel
  cells := by decide +kernel
  ok := by decide +kernel
theorem d_settled (P : Params) : DefOk P 305 [Str.ofString "want"] (fB 42) (fS 42) where
  obj := ⟨_, _, _, _, _, _, _, _, _, _, _, _, _, by rfl, by kernel_rfl, fun us h => by
    obtain ⟨a0, rfl⟩ := len1 h
    rfl⟩
  kinds := by decide +kernel
  nd := by decide +kernel
  cells := by decide +kernel
  ok := by decide +kernel
theorem d_plain (P : Params) : DefOk P 312 [Str.ofString "want"] (fB 43) (fS 43) where
  obj := ⟨_, _, _, _, _, _, _, _, _, _, _, _, _, by rfl, by kernel_rfl, fun us h => by
    obtain ⟨a0, rfl⟩ := len1 h
    rfl⟩
  kinds := by decide +kernel
  nd := by decide +kernel
  cells := by decide +kernel
  ok := by decide +kernel
theorem d_refused (P : Params) : DefOk P 319 [Str.ofString "o"] (fB 44) (fS 44) where
  obj := ⟨_, _, _, _, _, _, _, _, _, _, _, _, _, by rfl, by kernel_rfl, fun us h => by
    obtain ⟨a0, rfl⟩ := len1 h
    rfl⟩
  kinds := by decide +kernel
  nd := by decide +kernel
  cells := by decide +kernel
  ok := by decide +kernel
theorem d_useless (P : Params) : DefOk P 326 [Str.ofString "c"] (fB 45) (fS 45) where
  obj := ⟨_, _, _, _, _, _, _, _, _, _, _, _, _, by rfl, by kernel_rfl, fun us h => by
    obtain ⟨a0, rfl⟩ := len1 h
    rfl⟩
  kinds := by decide +kernel
  nd := by decide +kernel
  cells := by decide +kernel
  ok := by decide +kernel
theorem d_oinit (P : Params) : DefOk P 89 [Str.ofString "self"] (mB 12 0) (mS 12 0) where
  obj := ⟨_, _, _, _, _, _, _, _, _, _, _, _, _, by rfl, by kernel_rfl, fun us h => by
    obtain ⟨a0, rfl⟩ := len1 h
    rfl⟩
  kinds := by decide +kernel
  nd := by decide +kernel
  cells := by decide +kernel
  ok := by decide +kernel
theorem d_tiny (P : Params) : DefOk P 103 [Str.ofString "self"] (mB 12 2) (mS 12 2) where
  obj := ⟨_, _, _, _, _, _, _, _, _, _, _, _, _, by rfl, by kernel_rfl, fun us h => by
    obtain ⟨a0, rfl⟩ := len1 h
    rfl⟩
  kinds := by decide +kernel
  nd := by decide +kernel
  cells := by decide +kernel
  ok := by decide +kernel
theorem d_cinit (P : Params) : DefOk P 131 [Str.ofString "self", Str.ofString "nid", Str.ofString "election_tick", Str.ofString "heartbeat_tick", Str.ofString "storage"] (mB 19 0) (mS 19 0) where
  obj := ⟨_, _, _, _, _, _, _, _, _, _, _, _, _, by rfl, by kernel_rfl, fun us h => by
    obtain ⟨a0, a1, a2, a3, a4, rfl⟩ := len5 h
    rfl⟩
  kinds := by decide +kernel
  nd := by decide +kernel
  cells := by decide +kernel
  ok := by decide +kernel
theorem d_ccheck (P : Params) : DefOk P 138 [Str.ofString "self"] (mB 19 1) (mS 19 1) where
  obj := ⟨_, _, _, _, _, _, _, _, _, _, _, _, _, by rfl, by kernel_rfl, fun us h => by
    obtain ⟨a0, rfl⟩ := len1 h
    rfl⟩
  kinds := by decide +kernel
  nd := by decide +kernel
  cells := by decide +kernel
  ok := by decide +kernel
theorem d_rinit (P : Params) : DefOk P 159 [Str.ofString "self"] (mB 23 0) (mS 23 0) where
  obj := ⟨_, _, _, _, _, _, _, _, _, _, _, _, _, by rfl, by kernel_rfl, fun us h => by
    obtain ⟨a0, rfl⟩ := len1 h
    rfl⟩
  kinds := by decide +kernel
  nd := by decide +kernel
  cells := by decide +kernel
  ok := by decide +kernel
theorem d_rcheck (P : Params) : DefOk P 166 [Str.ofString "self"] (mB 23 1) (mS 23 1) where
  obj := ⟨_, _, _, _, _, _, _, _, _, _, _, _, _, by rfl, by kernel_rfl, fun us h => by
    obtain ⟨a0, rfl⟩ := len1 h
    rfl⟩
  kinds := by decide +kernel
  nd := by decide +kernel
  cells := by decide +kernel
  ok := by decide +kernel
theorem d_rcopy (P : Params) : DefOk P 173 [Str.ofString "self"] (mB 23 2) (mS 23 2) where
  obj := ⟨_, _, _, _, _, _, _, _, _, _, _, _, _, by rfl, by kernel_rfl, fun us h => by
    obtain ⟨a0, rfl⟩ := len1 h
    rfl⟩
  kinds := by decide +kernel
  nd := by decide +kernel
  cells := by decide +kernel
  ok := by decide +kernel
theorem d_rconf (P : Params) : DefOk P 180 [Str.ofString "self", Str.ofString "nid", Str.ofString "storage", Str.ofString "applied"] (mB 23 3) (mS 23 3) where
  obj := ⟨_, _, _, _, _, _, _, _, _, _, _, _, _, by rfl, by kernel_rfl, fun us h => by
    obtain ⟨a0, a1, a2, a3, rfl⟩ := len4 h
    rfl⟩
  kinds := by decide +kernel
  nd := by decide +kernel
  cells := by decide +kernel
  ok := by decide +kernel

noncomputable def gnames : Lc := [(Str.ofString "_law_draw", .glob 194), (Str.ofString "_law_first", .glob 201), (Str.ofString "_law_small", .glob 208), (Str.ofString "_law_sizes", .glob 215), (Str.ofString "_law_told", .glob 220), (Str.ofString "_law_shown", .glob 227), (Str.ofString "_law_wanted", .glob 234), (Str.ofString "_law_same", .glob 239), (Str.ofString "_law_stand", .glob 244), (Str.ofString "_law_put", .glob 251), (Str.ofString "_law_set", .glob 258), (Str.ofString "_law_other", .glob 265), (Str.ofString "_law_value", .glob 272), (Str.ofString "_law_end", .glob 279), (Str.ofString "_law_edge", .glob 286), (Str.ofString "_law_stops", .glob 293), (Str.ofString "_law_unfit", .glob 300), (Str.ofString "_law_settled", .glob 305), (Str.ofString "_law_plain", .glob 312), (Str.ofString "_law_refused", .glob 319), (Str.ofString "_law_useless", .glob 326), (Str.ofString "Options", .glob 106), (Str.ofString "RaftConfig", .glob 141), (Str.ofString "ReplicaOptions", .glob 183), (Str.ofString "CHECK_CRC", .int 1), (Str.ofString "CHECK_SUM", .int 2), (Str.ofString "SAFE", .int 0), (Str.ofString "LEASE", .int 1), (Str.ofString "NONE", .int 0), (Str.ofString "NO_LIMIT", .int 18446744073709551615), (Str.ofString "ONE_LOG", .int 1), (Str.ofString "TWO_LOGS", .int 2), (Str.ofString "len", .ty .len), (Str.ofString "isinstance", .ty .isi), (Str.ofString "min", .ty .min), (Str.ofString "any", .ty .any), (Str.ofString "all", .ty .all), (Str.ofString "range", .ty .range), (Str.ofString "bool", .ty .bool)]
noncomputable def muT (p : Pos) : Bool := (p.line == 191 && p.col == 11) || (p.line == 210 && p.col == 11) || (p.line == 357 && p.col == 11) || (p.line == 401 && p.col == 17) || (p.line == 404 && p.col == 12)
noncomputable def defT (a : Nat) : Option (List PySem.Str × List PySem.Stmt × Scope) := List.lookup a [(194, [Str.ofString "nums", Str.ofString "i"], (fB 25, fS 25)), (201, [], (fB 26, fS 26)), (208, [], (fB 27, fS 27)), (215, [Str.ofString "o"], (fB 28, fS 28)), (220, [Str.ofString "o", Str.ofString "stores"], (fB 29, fS 29)), (227, [Str.ofString "c"], (fB 30, fS 30)), (234, [Str.ofString "row", Str.ofString "nid", Str.ofString "storage", Str.ofString "applied"], (fB 31, fS 31)), (239, [Str.ofString "some", Str.ofString "others"], (fB 32, fS 32)), (244, [Str.ofString "sides", Str.ofString "rows", Str.ofString "stores"], (fB 33, fS 33)), (251, [Str.ofString "o", Str.ofString "f", Str.ofString "v", Str.ofString "stores"], (fB 34, fS 34)), (258, [Str.ofString "c", Str.ofString "f", Str.ofString "v"], (fB 35, fS 35)), (265, [Str.ofString "f", Str.ofString "z"], (fB 36, fS 36)), (272, [Str.ofString "f", Str.ofString "z"], (fB 37, fS 37)), (279, [Str.ofString "f", Str.ofString "k"], (fB 38, fS 38)), (286, [Str.ofString "f", Str.ofString "k", Str.ofString "want"], (fB 39, fS 39)), (293, [Str.ofString "row"], (fB 40, fS 40)), (300, [Str.ofString "want"], (fB 41, fS 41)), (305, [Str.ofString "want"], (fB 42, fS 42)), (312, [Str.ofString "want"], (fB 43, fS 43)), (103, [Str.ofString "self"], (mB 12 2, mS 12 2)), (173, [Str.ofString "self"], (mB 23 2, mS 23 2)), (180, [Str.ofString "self", Str.ofString "nid", Str.ofString "storage", Str.ofString "applied"], (mB 23 3, mS 23 3))]
noncomputable def clsT (a : Nat) : Option (List PySem.Str × List PySem.Stmt × Scope) := List.lookup a [(106, [], (mB 12 0, mS 12 0)), (141, [Str.ofString "nid", Str.ofString "election_tick", Str.ofString "heartbeat_tick", Str.ofString "storage"], (mB 19 0, mS 19 0)), (183, [], (mB 23 0, mS 23 0))]
noncomputable def mths : List ((Nat × PySem.Str) × Nat) := [((106, Str.ofString "tiny"), 103), ((183, Str.ofString "copy"), 173), ((183, Str.ofString "raft_config"), 180)]
noncomputable def oNames : List PySem.Str := [Str.ofString "check", Str.ofString "log_block", Str.ofString "sync_writes", Str.ofString "create_missing", Str.ofString "paranoid", Str.ofString "write_buffer", Str.ofString "max_height", Str.ofString "heights", Str.ofString "block_size", Str.ofString "restart_interval", Str.ofString "filter_bits", Str.ofString "filter_base_lg", Str.ofString "max_file_size", Str.ofString "num_levels", Str.ofString "l0_trigger", Str.ofString "l0_stop", Str.ofString "base_bytes", Str.ofString "level_factor", Str.ofString "max_mem_level", Str.ofString "grandparent_factor", Str.ofString "expand_factor"]
noncomputable def cNames : List PySem.Str := [Str.ofString "nid", Str.ofString "election_tick", Str.ofString "heartbeat_tick", Str.ofString "storage", Str.ofString "jitter", Str.ofString "applied", Str.ofString "max_size_per_msg", Str.ofString "max_committed_size", Str.ofString "max_uncommitted_size", Str.ofString "max_inflight", Str.ofString "max_inflight_octets", Str.ofString "check_quorum", Str.ofString "pre_vote", Str.ofString "read_option", Str.ofString "no_forwarding", Str.ofString "step_down_on_removal"]
noncomputable def rNames : List PySem.Str := [Str.ofString "mode", Str.ofString "store", Str.ofString "election_tick", Str.ofString "heartbeat_tick", Str.ofString "jitter", Str.ofString "pre_vote", Str.ofString "check_quorum", Str.ofString "read_option", Str.ofString "max_size_per_msg", Str.ofString "max_inflight", Str.ofString "wal_block", Str.ofString "segment_limit", Str.ofString "fold_every", Str.ofString "fold_keep", Str.ofString "piece", Str.ofString "snap_patience", Str.ofString "max_uncommitted"]
noncomputable def liveT (p : Pos) : List PySem.Str := cond (p.line == 392) [Str.ofString "nums", Str.ofString "made", Str.ofString "stores", Str.ofString "kept", Str.ofString "row", Str.ofString "x"] ( cond (p.line == 395) [Str.ofString "nums", Str.ofString "made", Str.ofString "stores", Str.ofString "kept", Str.ofString "row", Str.ofString "x"] ( cond (p.line == 405) [Str.ofString "nums", Str.ofString "made", Str.ofString "stores", Str.ofString "kept", Str.ofString "x", Str.ofString "sides", Str.ofString "rows", Str.ofString "given"] ( cond (p.line == 421) [Str.ofString "nums", Str.ofString "stores", Str.ofString "kept", Str.ofString "x", Str.ofString "sides", Str.ofString "rows", Str.ofString "given", Str.ofString "s"] ( cond (p.line == 430) [Str.ofString "nums", Str.ofString "stores", Str.ofString "kept", Str.ofString "sides", Str.ofString "rows", Str.ofString "given", Str.ofString "config", Str.ofString "want"] ( cond (p.line == 433) [Str.ofString "nums", Str.ofString "stores", Str.ofString "kept", Str.ofString "sides", Str.ofString "rows", Str.ofString "given", Str.ofString "config", Str.ofString "want"] ( cond (p.line == 445) [Str.ofString "nums", Str.ofString "stores", Str.ofString "kept", Str.ofString "sides", Str.ofString "rows", Str.ofString "given", Str.ofString "config", Str.ofString "want", Str.ofString "shown"] ([])))))))
noncomputable def atrT (C : Nat) (x : PySem.Str) : Bool := (C == 106 && oNames.contains x) || (C == 141 && cNames.contains x) || (C == 183 && rNames.contains x)
noncomputable def TT (cal : Nat → List V → AS → KV → Prop) : Tab := { cal := cal, mu := muT, glb := fun x => fld x gnames, mth := fun C x => List.lookup (C, x) mths, atr := atrT, live := liveT }
noncomputable def callB (cal : Nat → List V → AS → KV → Prop) (a : Nat) (Vs : List V) (S : AS) (k : KV) : Prop :=
  match defT a with
  | some (xs, body, sc) => Vs.length = xs.length ∧ (sem (TT cal) 60).x sc (xs.zip Vs).reverse body S (fun _ S' => k .none S') k
  | none => match clsT a with
    | some (xs, body, sc) => Vs.length = xs.length ∧ (sem (TT cal) 60).x sc ((Str.ofString "self" :: xs).zip (V.ref S.length :: Vs)).reverse body (S ++ [.inst a []]) (fun _ S' => k (.ref S.length) S') (fun _ _ => False)
    | none => False
noncomputable def cal : Nat → Nat → List V → AS → KV → Prop
  | 0 => fun _ _ _ _ => False
  | n + 1 => callB (cal n)
theorem lookup_mem {α β : Type} [BEq α] [LawfulBEq α] {a : α} {b : β} : ∀ {l : List (α × β)}, l.lookup a = some b → (a, b) ∈ l
  | [], h => by simp at h
  | (x, y) :: r, h => by
    rw [List.lookup_cons] at h
    cases hz : a == x with
    | true =>
      rw [hz] at h
      cases h
      rw [beq_iff_eq.mp hz]
      exact .head _
    | false =>
      rw [hz] at h
      exact .tail _ (lookup_mem h)
theorem fld_in {x : PySem.Str} {v : V} : ∀ {l : Lc}, fld x l = some v → (x, v) ∈ l
  | [], h => by simp [fld] at h
  | (y, u) :: r, h => by
    simp only [fld] at h
    by_cases hx : x = y
    · rw [if_pos hx] at h
      cases h
      rw [hx]
      exact .head _
    · rw [if_neg hx] at h
      exact .tail _ (fld_in h)
noncomputable def gChk (P : Params) (p : PySem.Str × V) : Bool := p.1 != Str.ofString "__debug__" && (match p.2 with
  | .glob a => nsIn (KF P) mainGlobals p.1 == some (some (.ref a)) && keepIn (KF P) (.ref a)
  | .int i => (match nsIn (KF P) mainGlobals p.1 with
    | some (some (.int j _)) => i == j
    | _ => false)
  | .ty b => nsIn (KF P) mainGlobals p.1 == some none && p.1 == b.str
  | _ => false)
theorem gChk_all (P : Params) : gnames.all (gChk P) = true := by kernel_rfl
theorem atr_all (P : Params) : (oNames.all fun x => findIn (KF P) (.ref 106) x == some none) = true ∧ (cNames.all fun x => findIn (KF P) (.ref 141) x == some none) = true ∧ (rNames.all fun x => findIn (KF P) (.ref 183) x == some none) = true := ⟨by kernel_rfl, by kernel_rfl, by kernel_rfl⟩
theorem mths_all (P : Params) : (mths.all fun p => findIn (KF P) (.ref p.1.1) p.1.2 == some (some (.ref p.2)) && isFn (KF P) (.ref p.2) && keepIn (KF P) (.ref p.2)) = true := by kernel_rfl
theorem c_oinit (P : Params) : ClsDef P 106 89 where
  get := by kernel_rfl
  dict := by kernel_rfl
  over := by kernel_rfl
  setA := by kernel_rfl
  makes := by kernel_rfl
  init := by kernel_rfl
  fn := by kernel_rfl
theorem c_cinit (P : Params) : ClsDef P 141 131 where
  get := by kernel_rfl
  dict := by kernel_rfl
  over := by kernel_rfl
  setA := by kernel_rfl
  makes := by kernel_rfl
  init := by kernel_rfl
  fn := by kernel_rfl
theorem c_rinit (P : Params) : ClsDef P 183 159 where
  get := by kernel_rfl
  dict := by kernel_rfl
  over := by kernel_rfl
  setA := by kernel_rfl
  makes := by kernel_rfl
  init := by kernel_rfl
  fn := by kernel_rfl
theorem tab_ok {w : World} {n : Nat} {cl : Nat → List V → AS → KV → Prop} (h : ∀ a Vs S k, cl a Vs S k → ∀ ρ Z N us, Rel w.params ρ S Z N → VRs ρ Z us Vs → CtrT w n N a us (Out w ρ Z k)) : TabOk w n (TT cl) where
  cal := h
  glob x a e := by
    have := List.all_eq_true.mp (gChk_all w.params) _ (fld_in e)
    simp only [gChk, Bool.and_eq_true, beq_iff_eq] at this
    exact ⟨beq_eq_false_iff_ne.mpr (bne_iff_ne.mp this.1), this.2.1, this.2.2⟩
  num x i e := by
    have := List.all_eq_true.mp (gChk_all w.params) _ (fld_in e)
    simp only [gChk, Bool.and_eq_true] at this
    refine ⟨beq_eq_false_iff_ne.mpr (bne_iff_ne.mp this.1), ?_⟩
    have h2 := this.2
    split at h2
    · rename_i j t hj
      rw [beq_iff_eq.mp h2]
      exact ⟨t, hj⟩
    · cases h2
  bi x b e := by
    have := List.all_eq_true.mp (gChk_all w.params) _ (fld_in e)
    simp only [gChk, Bool.and_eq_true, beq_iff_eq] at this
    exact ⟨beq_eq_false_iff_ne.mpr (bne_iff_ne.mp this.1), this.2.1, this.2.2⟩
  mth C x a e := by
    have := List.all_eq_true.mp (mths_all w.params) _ (lookup_mem e)
    simp only [Bool.and_eq_true, beq_iff_eq] at this
    exact ⟨this.1.1, this.1.2, this.2⟩
  atr C x e := by
    obtain ⟨h1, h2, h3⟩ := atr_all w.params
    simp only [TT, atrT, Bool.or_eq_true, Bool.and_eq_true, beq_iff_eq, List.contains_iff_mem] at e
    rcases e with (⟨rfl, e⟩ | ⟨rfl, e⟩) | ⟨rfl, e⟩
    · exact beq_iff_eq.mp (List.all_eq_true.mp h1 _ e)
    · exact beq_iff_eq.mp (List.all_eq_true.mp h2 _ e)
    · exact beq_iff_eq.mp (List.all_eq_true.mp h3 _ e)

theorem def_ok (P : Params) {a : Nat} {t : List PySem.Str × List PySem.Stmt × Scope} (h : defT a = some t) : DefOk P a t.1 t.2.1 t.2.2 := by
  have h := lookup_mem h
  rcases List.mem_cons.mp h with h | h
  · cases h; exact d_draw P
  rcases List.mem_cons.mp h with h | h
  · cases h; exact d_first P
  rcases List.mem_cons.mp h with h | h
  · cases h; exact d_small P
  rcases List.mem_cons.mp h with h | h
  · cases h; exact d_sizes P
  rcases List.mem_cons.mp h with h | h
  · cases h; exact d_told P
  rcases List.mem_cons.mp h with h | h
  · cases h; exact d_shown P
  rcases List.mem_cons.mp h with h | h
  · cases h; exact d_wanted P
  rcases List.mem_cons.mp h with h | h
  · cases h; exact d_same P
  rcases List.mem_cons.mp h with h | h
  · cases h; exact d_stand P
  rcases List.mem_cons.mp h with h | h
  · cases h; exact d_put P
  rcases List.mem_cons.mp h with h | h
  · cases h; exact d_set P
  rcases List.mem_cons.mp h with h | h
  · cases h; exact d_other P
  rcases List.mem_cons.mp h with h | h
  · cases h; exact d_value P
  rcases List.mem_cons.mp h with h | h
  · cases h; exact d_end_ P
  rcases List.mem_cons.mp h with h | h
  · cases h; exact d_edge P
  rcases List.mem_cons.mp h with h | h
  · cases h; exact d_stops P
  rcases List.mem_cons.mp h with h | h
  · cases h; exact d_unfit P
  rcases List.mem_cons.mp h with h | h
  · cases h; exact d_settled P
  rcases List.mem_cons.mp h with h | h
  · cases h; exact d_plain P
  rcases List.mem_cons.mp h with h | h
  · cases h; exact d_tiny P
  rcases List.mem_cons.mp h with h | h
  · cases h; exact d_rcopy P
  rcases List.mem_cons.mp h with h | h
  · cases h; exact d_rconf P
  cases h
theorem cls_ok (P : Params) {a : Nat} {t : List PySem.Str × List PySem.Stmt × Scope} (h : clsT a = some t) : ∃ f, DefOk P f (Str.ofString "self" :: t.1) t.2.1 t.2.2 ∧ ClsDef P a f := by
  have h := lookup_mem h
  rcases List.mem_cons.mp h with h | h
  · cases h; exact ⟨_, d_oinit P, c_oinit P⟩
  rcases List.mem_cons.mp h with h | h
  · cases h; exact ⟨_, d_cinit P, c_cinit P⟩
  rcases List.mem_cons.mp h with h | h
  · cases h; exact ⟨_, d_rinit P, c_rinit P⟩
  cases h
theorem cal_ok : ∀ j, j ≤ 18 → ∀ w, TabOk w (2 * j) (TT (cal j))
  | 0, _ => fun w => tab_ok fun a Vs S k h => h.elim
  | j + 1, hj => fun w => tab_ok fun a Vs S k h ρ Z N us rel rs => by
    have so := sound (fun w => cal_ok j (by omega) w) 60
    simp only [cal] at h
    unfold callB at h
    split at h
    · rename_i xs body sc hd
      exact ((ctr_sem (def_ok w.params hd) so.2.2.1 rel rs h.1 (by omega) h.2).weak (by omega) (by omega)).toT
    · split at h
      · rename_i xs body sc hd
        obtain ⟨f, d, cd⟩ := cls_ok w.params hd
        exact ((ctr_cls d cd so.2.2.1 rel rs h.1 (by omega) h.2).weak (by omega) (by omega)).toT
      · exact h.elim
theorem freeze_ok {w : World} {ρ : List Cell} {S : AS} {Z : ZL} {N' : Led} {v : Value} {k : KV} (h : Out w ρ Z (fun V S' => ∃ vs, V = .ref S.length ∧ S' = S ++ [.lst vs] ∧ k (.lst vs) (S ++ [.hole])) v N') : Out w ρ Z k v N' := by
  obtain ⟨ρ', Z', S', V, rel, p, z, r, vs, rfl, rfl, hk⟩ := h
  obtain ⟨a, us, cc, hc, rfl, hm, hv⟩ := rel.lst (vs := vs) r (by rw [getO_eq]; simp)
  obtain ⟨rel2, ex⟩ := rel.freeze hc hm
  refine ⟨_, _, _, .lst vs, rel2, p.trans ex, z.trans SubZ.one, .lst (.head _) (hv.mono ex SubZ.one), ?_⟩
  rw [show (S ++ [O.lst vs]).set S.length .hole = S ++ [.hole] by simp]
  exact hk
noncomputable def chkW (C : Nat) (X : PySem.Str) (body : List PySem.Stmt) (sc : Scope) (Vs : List V) (S : AS) (k : KV) : Prop :=
  match Vs with
  | [.ref i] => (match getO S i with
    | some (.inst D fs) => D = C ∧ fld (Str.ofString "check_all") fs = none ∧ ckW (sem (TT (cal 6)) 60) sc X [(Str.ofString "self", .ref i)] body S (fun S' => k (.bool false) S') (fun S' => k (.bool true) S')
    | _ => False)
  | _ => False
noncomputable def calL (a : Nat) (Vs : List V) (S : AS) (k : KV) : Prop :=
  cond (a == 319) (chkW 183 (Str.ofString "BadOption") (mB 23 1) (mS 23 1) Vs S k)
    (cond (a == 326) (chkW 141 (Str.ofString "BadConfig") (mB 19 1) (mS 19 1) Vs S k)
      (cond (a == 305) (cal 6 a Vs S fun V S' => ∃ vs, V = .ref S.length ∧ S' = S ++ [.lst vs] ∧ k (.lst vs) (S ++ [.hole])) (cal 6 a Vs S k)))
theorem bo_ok (P : Params) : ExcOk P (Str.ofString "BadOption") 49 := ⟨by kernel_rfl, by kernel_rfl, by kernel_rfl, by decide +kernel⟩
theorem bc_ok (P : Params) : ExcOk P (Str.ofString "BadConfig") 73 := ⟨by kernel_rfl, by kernel_rfl, by kernel_rfl, by decide +kernel⟩
theorem CtrT.weak {w : World} {n : Nat} {N : Led} {f : Addr} {us : List Value} {Post : Value → Led → Prop} (hn : n < 40) (h : CtrT w n N f us Post) : CtrT w 40 N f us Post :=
  fun c m s Q E hw ok ht h1 h2 F nw q => h c m s Q E hw ok (fun e => by omega) (by omega) (by omega) F nw q
theorem calL_ok (w : World) : TabOk w 40 (TT calL) := by
  have so := sound (fun w => cal_ok 6 (by decide) w) 60
  have base := fun w => (cal_ok 6 (by decide) w).cal
  refine tab_ok fun a Vs S k h ρ Z N us rel rs => ?_
  unfold calL at h
  cases h1 : (a == 319) with
  | true =>
    rw [h1] at h
    obtain rfl := beq_iff_eq.mp h1
    simp only [cond_true, chkW] at h
    split at h
    · rename_i i
      split at h
      · rename_i D fs hs
        obtain ⟨rfl, hf, hk⟩ := h
        cases rs with
        | cons ru rs =>
        cases rs
        exact ctr_try (d_refused w.params) (by decide +kernel) (d_rcheck w.params) (by decide +kernel) so.1 so.2.1 so.2.2.1 (bo_ok w.params) (by decide +kernel) (by decide +kernel) (by decide) (by decide +kernel) ⟨by kernel_rfl, by kernel_rfl, by kernel_rfl⟩ rel ru hs hf hk
      · exact h.elim
    · exact h.elim
  | false =>
    rw [h1] at h
    simp only [cond_false] at h
    cases h2 : (a == 326) with
    | true =>
      rw [h2] at h
      obtain rfl := beq_iff_eq.mp h2
      simp only [cond_true, chkW] at h
      split at h
      · rename_i i
        split at h
        · rename_i D fs hs
          obtain ⟨rfl, hf, hk⟩ := h
          cases rs with
          | cons ru rs =>
          cases rs
          exact ctr_try (d_useless w.params) (by decide +kernel) (d_ccheck w.params) (by decide +kernel) so.1 so.2.1 so.2.2.1 (bc_ok w.params) (by decide +kernel) (by decide +kernel) (by decide) (by decide +kernel) ⟨by kernel_rfl, by kernel_rfl, by kernel_rfl⟩ rel ru hs hf hk
        · exact h.elim
      · exact h.elim
    | false =>
      rw [h2] at h
      simp only [cond_false] at h
      cases h3 : (a == 305) with
      | true =>
        rw [h3] at h
        simp only [cond_true] at h
        have := base w a Vs S (fun V S' => ∃ vs, V = .ref S.length ∧ S' = S ++ [O.lst vs] ∧ k (.lst vs) (S ++ [O.hole])) h ρ Z N us rel rs
        refine CtrT.weak (n := 2 * 6) (by decide) ?_
        intro c m s Q E hw ok ht g1 g2 F nw q
        exact this c m s Q E hw ok ht g1 g2 F nw fun v h' tk' N' F' n' x => q v h' tk' N' F' n' (freeze_ok x)
      | false =>
        rw [h3] at h
        simp only [cond_false] at h
        exact CtrT.weak (n := 2 * 6) (by decide) (base w a Vs S k h ρ Z N us rel rs)

theorem vrs_ints {ρ : List Cell} {Z : ZL} : ∀ {us : List Value} {ns : List Int}, IntsAre us ns → VRs ρ Z us (ns.map V.int)
  | _, _, .nil => .nil
  | _, _, .cons _ t r => .cons (.int _ t) (vrs_ints r)
section
variable {c : Cx} {env : Env} {m : Loc} {ρ : List Cell} {Z : ZL} {N : Led} {S : AS} {cs : Scope} {n : Nat} {x y scr : PySem.Str} {k : KV} {I : Ev3} {T : Tab} {p xp yp sp p1 p2 p3 p4 : Pos} {j : Nat}
theorem st_first {mu : Bool} {elt : PySem.Expr} {a : Addr} {us : List Value} {ns : List Int} {b : Int} (hI : SE n I.e) (to : TabOk c.w n T) (ok : c.Ok) (eo : EnvD c env n) (hb : posO (some b) = true) (hscr : env.kindOf scr = some .local) (hd : (scr == Str.ofString "__debug__") = false) (hm : m scr = some (.ref a)) (il : c.h₀.IsList a us.toArray) (hi : IntsAre us ns) (hlen : ns.length ≤ 1000)
    (hc : compOk env.scope [] cs x = true) (hy : env.kindOf y = some .local) (hsw : swapsWith (.ListComp elt [⟨.Name x xp, .Subscript (.Name scr p1) (.Slice none (some (.Constant (.int b) j p2)) none p3) p4, [], 0⟩] cs p) (some (.Name y yp)) sp.line env = pure true)
    (h : CompH T I env.scope [] elt x cs mu k (.lst ((ns.take b.toNat).map .int)) S) (rel : Rel c.w.params ρ S Z N) {Q : Flow → Shared → Prop} {E : Value → Shared → Prop} {s : Shared} (F : Fr c.h₀ c.L s.heap m) (nw : News c.h₀ c.L s.heap N)
    (q : PostA c m ρ Z y k Q s) : wpAny (model PG c.w) c.A (PySem.exec (.Assign [.Name y yp] (.ListComp elt [⟨.Name x xp, .Subscript (.Name scr p1) (.Slice none (some (.Constant (.int b) j p2)) none p3) p4, [], 0⟩] cs p) sp) env) Q E s := by
  have co := compOk_of hc
  have lr : LR c env m ρ Z [] := fun x v e => by simp [fld] at e
  refine LCg.Assign_ListComp_U F eo.loc hsw (closed co lr) co.cell co.kind co.loc co.hx hy (by rw [eo.k]; rfl) ?_ (notSet_eq (by rfl) env)
  refine Subscript_ (wpAny_Name (wpAny_loadName_local eo.k hscr (by rw [eo.loc]; exact F.ns) hm ?_) hd)
  refine wpAny_Slice (evalPart_none_step ?_)
  refine evalPart_some_step (wpAny_Constant_int ?_)
  refine evalPart_none_step ?_
  have il1 : s.heap.IsList a us.toArray := il.at fun o e => F.keep _ o e
  have n4 := nw.grown (h' := s.heap.push { cls := .type "slice", data := .fields #[.none, .int b s.toks, .none] }) fun _ _ e => Heap.get?_push_of_some _ e
  have F4 : Fr c.h₀ c.L (s.heap.push { cls := .type "slice", data := .fields #[.none, .int b s.toks, .none] }) m := F.push _
  have hlt := ltNews n4
  refine tail_any (Heap.IsList.typeIs (s := { s with heap := s.heap.push { cls := .type "slice", data := .fields #[.none, .int b s.toks, .none] }, toks := s.toks + 1 }) (il1.push _)) slot_list_getitem.lookup
    (wpAny_getItem_list_slice (s := { s with heap := s.heap.push { cls := .type "slice", data := .fields #[.none, .int b s.toks, .none] }, toks := s.toks + 1 }) (il1.push _) (Heap.IsSliceOf.new ..) .none (.int _ _) .none (by simp) ?_ (by rw [sizeLine_eq, List.size_toArray, hi.length]; omega)) (by rfl)
  rw [pick_cut (by rfl) hb]
  have rv : VRs ρ Z (cutV none (some b) us) ((ns.take b.toNat).map .int) := by
    have := (vrs_ints (ρ := ρ) (Z := Z) hi).take b.toNat
    rw [← List.map_take] at this
    exact this
  refine src_comp (s := { s with heap := (s.heap.push { cls := .type "slice", data := .fields #[.none, .int b s.toks, .none] }).push { cls := .type "list", data := .seq (cutV none (some b) us).toArray }, toks := s.toks + 1 }) (k := k) (ρ := ρ) (S := S) hI to ok eo.toEnvOk co (.lst (cc := 0) (.head _) (rv.mono Ext.rfl SubZ.one)) h (lr.mono Ext.rfl SubZ.one) (rel.froz hlt) (F4.push _) (News.push F4 n4 _) (finA ?_)
  exact fun V' S' v' h' tk' ρ' Z' N' F' n' r' p' z' x y => q V' S' v' h' tk' ρ' Z' N' F' n' r' p' (SubZ.one.trans z') x y
end

noncomputable def lawH (I : Ev3) (V : V) : Prop :=
  match fB 46 with
  | .Assign [.Name y _] (.ListComp elt [⟨.Name x _, _, [], 0⟩] cs p) _ :: rest => CompH (TT calL) I (fS 46) [] elt x cs (muT p) (fun v S' => I.x (fS 46) [(y, v)] rest S' (fun _ _ => False) (fun V _ => V = .bool true)) V []
  | _ => False
theorem rel0 {P : Params} : Rel P [] [] ⟨[], []⟩ [] where
  len := rfl
  own i c o h := by simp at h
  sub p hp := by cases hp
  nodup := .nil
  off p hp := by cases hp
  inN b hb := by cases hb
  vw p hp := by cases hp
set_option maxHeartbeats 4000000 in
theorem fin (hL : ∀ ns : List Int, ns.length ≤ 63 → lawH (sem (TT calL) 300) (.lst ((ns.take 24).map .int))) : PySem.Challenge.rw_xm0821_01.Holds := by
  refine hd ?_
  intro w s₀ s₁ mg mb G Y fa o pm cd doc dV kV ho hd hcd hD hmg hg args vals as hpre hlay hrd hwl hlo
  have KX := kIn_of Y
  refine Ground.open G ?_
  intro T B D TE TW
  obtain ⟨w7, w6, he, B0⟩ := based_of_top T rfl hmg ho hd
  have he' : cd = _ := he
  subst he'
  clear he hmg
  wrow_args hpre hlay hrd hwl hlo
  refine enter_call ?_
  w_top on
  refine codeAny_mono ?_ (fun _ _ g => GoodW.toG g)
  have K0 := below_caller (Top.heap T)
  w_call any ho hd hcd hD T F
  clear hd
  rename_i ns hs hlay0 hL1 hr1 hl2 w4 w3 a us w1 hLs ra w1' r0 hI hr hlen hc' h₁ N0
  have hlen' : ns.length ≤ 63 := by omega
  have h := hL ns hlen'
  have so := sound (fun w => calL_ok w) 300
  refine wpAny_mono (E := FE) (Q := fun f s' => ∃ h' tk', f = .ret (.bool true) ∧ s' = { s₁ with heap := h', toks := tk' } ∧ ∀ b o, s₁.heap.get? b = some o → h'.get? b = some o) ?_ ?_ (fun _ _ x => x.elim)
  · have ok : (mkCx w dLaw.name dLaw.scope fa (.ref w7) [] { mean := ExcName.means s₀.heap, mg := mg, mb := mb, dp := 302, un := 7, gd := some [], L := s₁.heap.objs.size, outer := [], A₀ := callerA, base := s₁.heap, h₀ := s₁.heap }).Ok := ⟨K0, KX, T, by rfl⟩
    have eo : EnvD (mkCx w dLaw.name dLaw.scope fa (.ref w7) [] { mean := ExcName.means s₀.heap, mg := mg, mb := mb, dp := 302, un := 7, gd := some [], L := s₁.heap.objs.size, outer := [], A₀ := callerA, base := s₁.heap, h₀ := s₁.heap }) (envOf dLaw.name dLaw.scope s₁.heap.objs.size fa (.ref w7)) 40 := ⟨⟨fun _ => ⟨rfl, rfl, KX, T⟩, rfl, rfl, rfl, by show 302 + 40 < 1000; decide, by show 7 + 3 * 40 + 200 < 9900; decide⟩, rfl⟩
    refine wpAny_execs_cons (st_first (c := mkCx w dLaw.name dLaw.scope fa (.ref w7) [] { mean := ExcName.means s₀.heap, mg := mg, mb := mb, dp := 302, un := 7, gd := some [], L := s₁.heap.objs.size, outer := [], A₀ := callerA, base := s₁.heap, h₀ := s₁.heap }) (ρ := []) (Z := ⟨[], []⟩) (N := []) (S := []) (n := 40) (mu := muT ⟨380, 11, 380, 44⟩) (k := fun v S' => (sem (TT calL) 300).x (fS 46) [(Str.ofString "nums", v)] ((fB 46).drop 1) S' (fun _ _ => False) (fun V _ => V = .bool true)) so.1 (calL_ok w) ok eo (by decide) (by rfl) (by decide +kernel) (by rfl) hLs hI (by omega) (by show compOk (fS 46) [] _ _ = true; decide +kernel) (by rfl) (by rfl) ?hh rel0 F N0 ?_)
    case hh => exact h
    intro V' S' v h' tk' ρ' Z' N' F' n' r' p' z' rv hk
    refine so.2.2.1 _ _ _ _ _ _ _ _ _ _ _ ok eo hk ?_ r' _ _ F' n' ?_ ?_
    · exact LRd.set (l := []) (fun x v e => by simp [fld] at e) rv (by rfl) (by decide +kernel)
    · intro l S2 m2 h2 tk2 ρ2 Z2 N2 F2 n2 rel2 p2 z2 lr2 hk2
      exact hk2.elim
    · intro V2 S2 v2 m2 h2 tk2 ρ2 Z2 N2 F2 n2 rel2 p2 z2 r2 hk2
      subst hk2
      cases r2
      exact ⟨h2, tk2, rfl, rfl, F2.keep⟩
  · rintro f s' ⟨h', tk', rfl, rfl, hk⟩
    refine ⟨.inl ⟨.bool true, .bool true, [], rfl, fun _ => rfl, .bool true, ?_, fun _ => ⟨.nil, fun a ha => by cases ha⟩⟩, hk, rfl, hg⟩
    kernel_rfl

variable (C : Nat → List V → AS → KV → Prop)
noncomputable def stF (x : PySem.Str) (o v : V) (S : AS) (k : AS → Prop) : Prop :=
  match o with
  | .ref i => (match getO S i with
    | some (.inst D fs) => cond (Nat.ble fs.length 100 && ((fld x fs).isSome || atrT D x)) (k (putO S i (.inst D (setF x v fs)))) False
    | _ => False)
  | _ => False
noncomputable def storesW (o : V) : List (PySem.Str × V) → AS → (AS → Prop) → Prop
  | [], S, k => k S
  | (x, v) :: r, S, k => stF x o v S fun S' => storesW o r S' k
noncomputable def stI (o j v : V) (S : AS) (k : AS → Prop) : Prop :=
  match o, j with
  | .ref a, .int n => (match getO S a with
    | some (.lst us) => cond (decide (0 ≤ n) && decide (n < (us.length : Int)) && Nat.ble us.length 1000) (k (putO S a (.lst (us.set n.toNat v)))) False
    | _ => False)
  | _, _ => False
noncomputable def attrW (o : V) (x : PySem.Str) (S : AS) (k : V → Prop) : Prop :=
  match o with
  | .ref i => (match getO S i with
    | some (.inst _ fs) => (match fld x fs with
      | some u => k u
      | none => False)
    | _ => False)
  | _ => False
noncomputable def attrsW (o : V) : List PySem.Str → AS → (List V → Prop) → Prop
  | [], _, k => k []
  | x :: r, S, k => attrW o x S fun u => attrsW o r S fun us => k (u :: us)
noncomputable def isT (o sv : V) : List Int → AS → (List V → AS → Prop) → Prop
  | [], S, k => k [] S
  | i :: r, S, k => attrW o (Str.ofString "store") S fun u => subW sv (.int i) S fun w S1 => cmpV .Is u w S1 fun b S2 => cond b (isT o sv r S2 fun us S3 => k (.int i :: us) S3) (isT o sv r S2 k)
noncomputable def isiW (u : V) (S : AS) (k : KV) : Prop := bcal .isi [u, .ty .bool] S k
noncomputable def cutW (v : V) (lo hi : Option Int) (S : AS) (k : KV) : Prop :=
  match seqOf S v with
  | some us => cond (Nat.ble us.length 1000 && posO lo && posO hi) (k (.lst (cutL lo hi us)) S) False
  | none => False
noncomputable def fmtW (o : V) : List PySem.Str → AS → (AS → Prop) → Prop
  | [], S, k => k S
  | x :: r, S, k => attrW o x S fun v => match v with
    | .int n => cond (num3 n) (fmtW o r S k) False
    | _ => False
theorem q_draw (N : V) (i : Int) (S : AS) (k : KV) : callB C 194 [N, .int i] S k = (2 = 2 ∧ bcal .len [N] S fun v S1 => binV false .Mod (.int i) v S1 fun w S2 => subW N w S2 fun a S3 => bcal .len [N] S3 fun v4 S4 => binV false .FloorDiv (.int i) v4 S4 fun b S5 => binV false .Mult (.int 7919) b S5 fun d S6 => binV false .Add a d S6 k) := by kernel_rfl
noncomputable def firstL : List V := [.int 2, .lst [.int 0], .int 4, .int 1, .tup [.int 0], .bool true, .bool true, .int 0, .int 256, .int 4, .int 64, .int 512, .int 4, .int 1, .int 48, .int 6, .int 512]
noncomputable def smallL : List V := [.int 2, .int 32, .bool true, .bool true, .bool false, .int 96, .int 4, .tup [.int 1, .int 2, .int 1, .int 3, .int 1, .int 2, .int 1, .int 4], .int 48, .int 2, .int 4, .int 5, .int 128, .int 4, .int 2, .int 4, .int 256, .int 2, .int 2, .int 10, .int 25]
theorem q_first (S : AS) (k : KV) : callB C 201 [] S k = (0 = 0 ∧ k (.ref S.length) (S ++ [.lst firstL])) := by kernel_rfl
theorem q_small (S : AS) (k : KV) : callB C 208 [] S k = (0 = 0 ∧ k (.lst smallL) S) := by kernel_rfl
theorem q_sizes (o : V) (S : AS) (k : KV) : callB C 215 [o] S k = (1 = 1 ∧ attrsW o oNames S fun us => k (.lst us) S) := by kernel_rfl
theorem q_told (o sv : V) (S : AS) (k : KV) : callB C 220 [o, sv] S k = (2 = 2 ∧ attrW o (Str.ofString "mode") S fun u0 => isT o sv [0, 1, 2] S fun ls S1 => mkL false ls S1 fun v1 S2 => attrsW o (rNames.drop 2) S2 fun us => k (.lst (u0 :: v1 :: us)) S2) := by kernel_rfl
theorem q_shown (o : V) (S : AS) (k : KV) : callB C 227 [o] S k = (1 = 1 ∧ attrsW o cNames S fun us => k (.lst us) S) := by kernel_rfl
theorem q_wanted (row nid st ap : V) (S : AS) (k : KV) : callB C 234 [row, nid, st, ap] S k = (4 = 4 ∧ subW row (.int 2) S fun u0 S_0 => subW row (.int 3) S_0 fun u1 S_1 => subW row (.int 4) S_1 fun u2 S_2 => subW row (.int 8) S_2 fun u3 S_3 => subW row (.int 8) S_3 fun u4 S_4 => subW row (.int 16) S_4 fun u5 S_5 => subW row (.int 9) S_5 fun u6 S_6 => subW row (.int 6) S_6 fun u7 S_7 => subW row (.int 5) S_7 fun u8 S_8 => subW row (.int 7) S_8 fun u9 S_9 => k (.ref S_9.length) (S_9 ++ [.lst [nid, u0, u1, st, u2, ap, u3, u4, u5, u6, .int 18446744073709551615, u7, u8, u9, .bool false, .bool true]])) := by kernel_rfl
theorem q_sameL (xs ys : List V) (S : AS) (k : KV) : callB C 239 [.lst xs, .lst ys] S k = (2 = 2 ∧ cmpV .Eq (.lst xs) (.lst ys) S fun r S1 => cond r (cond (Nat.ble xs.length 1000) (compW isiW xs S1 fun vs S2 => mkL false vs S2 fun v1 S3 => cond (Nat.ble ys.length 1000) (compW isiW ys S3 fun vs2 S4 => mkL false vs2 S4 fun v2 S5 => cmpV .Eq v1 v2 S5 fun r2 S6 => k (.bool r2) S6) False) False) (k (.bool false) S1)) := by kernel_rfl
theorem q_sameR (xs : List V) (j : Nat) (S : AS) (k : KV) : callB C 239 [.lst xs, .ref j] S k = (2 = 2 ∧ cmpV .Eq (.lst xs) (.ref j) S fun r S1 => cond r (cond (Nat.ble xs.length 1000) (compW isiW xs S1 fun vs S2 => mkL false vs S2 fun v1 S3 => (match getO S3 j with | some (.lst us) => cond (Nat.ble us.length 1000) (cond (us.all isDat) (mkL false (us.map fun u => .bool (isB u)) S3 fun v2 S5 => cmpV .Eq v1 v2 S5 fun r2 S6 => k (.bool r2) S6) False) False | _ => False)) False) (k (.bool false) S1)) := by kernel_rfl
theorem q_stand (a b r0 r1 sv : V) (S : AS) (k : KV) : callB C 244 [.lst [a, b], .lst [r0, r1], sv] S k = (3 = 3 ∧ C 220 [a, sv] S fun v1 S1 => C 239 [v1, r0] S1 fun v2 S2 => C 220 [b, sv] S2 fun v3 S3 => C 239 [v3, r1] S3 fun v4 S4 => mkL false [v2, v4] S4 fun v5 S5 => bcal .all [v5] S5 k) := by kernel_rfl
theorem q_put (o v sv : V) (f : Int) (S : AS) (k : KV) : callB C 251 [o, .int f, v, sv] S k = (4 = 4 ∧ cond (decide (f < 8)) (cond (f == 0) (stF (Str.ofString "mode") o v S fun S' => k .none S') (cond (f == 1) (subW v (.int 0) S fun w S1 => subW sv w S1 fun u S2 => (stF (Str.ofString "store") o u S2 fun S' => k .none S')) (cond (f == 2) (stF (Str.ofString "election_tick") o v S fun S' => k .none S') (cond (f == 3) (stF (Str.ofString "heartbeat_tick") o v S fun S' => k .none S') (cond (f == 4) (stF (Str.ofString "jitter") o v S fun S' => k .none S') (cond (f == 5) (stF (Str.ofString "pre_vote") o v S fun S' => k .none S') (cond (f == 6) (stF (Str.ofString "check_quorum") o v S fun S' => k .none S') (stF (Str.ofString "read_option") o v S fun S' => k .none S')))))))) (cond (f == 8) (stF (Str.ofString "max_size_per_msg") o v S fun S' => k .none S') (cond (f == 9) (stF (Str.ofString "max_inflight") o v S fun S' => k .none S') (cond (f == 10) (stF (Str.ofString "wal_block") o v S fun S' => k .none S') (cond (f == 11) (stF (Str.ofString "segment_limit") o v S fun S' => k .none S') (cond (f == 12) (stF (Str.ofString "fold_every") o v S fun S' => k .none S') (cond (f == 13) (stF (Str.ofString "fold_keep") o v S fun S' => k .none S') (cond (f == 14) (stF (Str.ofString "piece") o v S fun S' => k .none S') (cond (f == 15) (stF (Str.ofString "snap_patience") o v S fun S' => k .none S') (stF (Str.ofString "max_uncommitted") o v S fun S' => k .none S')))))))))) := by kernel_rfl
theorem q_set (o v : V) (f : Int) (S : AS) (k : KV) : callB C 258 [o, .int f, v] S k = (3 = 3 ∧ cond (decide (f < 8)) (cond (f == 0) (stF (Str.ofString "nid") o v S fun S' => k .none S') (cond (f == 1) (stF (Str.ofString "election_tick") o v S fun S' => k .none S') (cond (f == 2) (stF (Str.ofString "heartbeat_tick") o v S fun S' => k .none S') (cond (f == 3) (stF (Str.ofString "storage") o v S fun S' => k .none S') (cond (f == 4) (stF (Str.ofString "jitter") o v S fun S' => k .none S') (cond (f == 5) (stF (Str.ofString "applied") o v S fun S' => k .none S') (cond (f == 6) (stF (Str.ofString "max_size_per_msg") o v S fun S' => k .none S') (stF (Str.ofString "max_committed_size") o v S fun S' => k .none S')))))))) (cond (f == 8) (stF (Str.ofString "max_uncommitted_size") o v S fun S' => k .none S') (cond (f == 9) (stF (Str.ofString "max_inflight") o v S fun S' => k .none S') (cond (f == 10) (stF (Str.ofString "max_inflight_octets") o v S fun S' => k .none S') (cond (f == 11) (stF (Str.ofString "check_quorum") o v S fun S' => k .none S') (cond (f == 12) (stF (Str.ofString "pre_vote") o v S fun S' => k .none S') (cond (f == 13) (stF (Str.ofString "read_option") o v S fun S' => k .none S') (cond (f == 14) (stF (Str.ofString "no_forwarding") o v S fun S' => k .none S') (stF (Str.ofString "step_down_on_removal") o v S fun S' => k .none S'))))))))) := by kernel_rfl
theorem q_other (f z : Int) (S : AS) (k : KV) : callB C 265 [.int f, .int z] S k = (2 = 2 ∧ (cond (f == 0) (k (.int 1) S) (cond (f == 1) (k (.lst [.int (1 + (Int.fmod z 2))]) S) (cond (f == 4) (k (.tup [.int (5 + (Int.fmod z 3)), .int ((Int.fmod z 7) - 3), .int 9]) S) (cond (f == 5) (k (.bool false) S) (cond (f == 6) (k (.bool (decide ((Int.fmod z 3) < 2))) S) (cond (f == 7) (k (.int 1) S) (cond (f == 16) (cond ((Int.fmod z 5) == 4) (k (.int 0) S) (subW (.lst [.int 0, .int 0, .int 11, .int 3, .int 0, .int 0, .int 0, .int 0, .int 300, .int 6, .int 77, .int 601, .int 7, .int 8, .int 50, .int 9, .int 500]) (.int f) S fun a S1 => binV false .Add a (.int (40 * (Int.fmod z 3))) S1 k)) (subW (.lst [.int 0, .int 0, .int 11, .int 3, .int 0, .int 0, .int 0, .int 0, .int 300, .int 6, .int 77, .int 601, .int 7, .int 8, .int 50, .int 9, .int 500]) (.int f) S fun a S1 => binV false .Add a (.int (40 * (Int.fmod z 3))) S1 k))))))))) := by kernel_rfl
theorem q_value (f z : Int) (S : AS) (k : KV) : callB C 272 [.int f, .int z] S k = (2 = 2 ∧ (cond (f == 0) (subW (.lst [.int 1, .int 2, .int 1, .int 2, .int 0, .int 3]) (.int (Int.fmod z 6)) S k) (cond (f == 1) (k (.lst [.int (Int.fmod z 3)]) S) (cond (f == 4) (subW (.lst [.tup [.int 0], .tup [.int z, .int (-3)], .tup [.int 5, .int z, .int 1099511627776], .tup [.int (0 - z)], .tup [], .tup [.int 1, .int 1]]) (.int (Int.fmod z 6)) S k) (cond (f == 5) (k (.bool ((Int.fmod z 2) == 0)) S) (cond (f == 6) (k (.bool ((Int.fmod z 2) == 0)) S) (cond (f == 2) (subW (.lst [.int (z + 5), .int 5, .int 9, .int 1099511627776, .int 255, .int 1]) (.int (Int.fmod z 6)) S k) (cond (f == 3) (subW (.lst [.int 1, .int 2, .int 3, .int 1, .int 4, .int 0]) (.int (Int.fmod z 6)) S k) (cond (f == 7) (subW (.lst [.int 1, .int 0, .int 1, .int 0, .int 1, .int 2]) (.int (Int.fmod z 6)) S k) (subW (.lst [.int z, .int 1, .int 2, .int 1099511627776, .int 255, .int 0]) (.int (Int.fmod z 6)) S k)))))))))) := by kernel_rfl
theorem q_end (f z : Int) (S : AS) (k : KV) : callB C 279 [.int f, .int z] S k = (2 = 2 ∧ (cond (f == 0) (subW (.lst [.int 0, .int 1, .int 3, .int 2]) (.int z) S k) (cond (f == 1) (k (.lst [.int (Int.fmod z 3)]) S) (cond (f == 4) (subW (.lst [.tup [], .tup [.int 0], .tup [.int 1, .int 2, .int 3], .tup [.int (-9)]]) (.int z) S k) (cond (f == 5) (k (.bool ((Int.fmod z 2) == 0)) S) (cond (f == 6) (k (.bool ((Int.fmod z 2) == 0)) S) (subW (.lst [.int 0, .int 1, .int (-1), .int 1099511627776]) (.int z) S k))))))) := by kernel_rfl
theorem q_edge (w : V) (f z : Int) (S : AS) (k : KV) : callB C 286 [.int f, .int z, w] S k = (3 = 3 ∧ (cond (f == 1) (subW w (.int 2) S fun a S1 => subW (.lst [.int 0, .int 1, .int (-1), .int 2]) (.int z) S1 fun b S2 => binV false .Add a b S2 k) (cond (f == 2) (subW w (.int 1) S fun a S1 => subW w (.int 1) S1 fun b S2 => binV false .Sub b (.int 1) S2 fun d S3 => subW (.lst [.int 0, .int 1, a, d]) (.int z) S3 k) (cond (f == 3) (subW (.lst [.none, .int 0, .int 5, .none]) (.int z) S k) (cond (f == 4) (subW (.lst [.tup [], .tup [.int 0], .tup [.int 7, .int (-1), .int 1099511627776], .tup []]) (.int z) S k) (cond (f == 6) (subW (.lst [.int 0, .int 1, .int 18446744073709551615, .int 18446744073709551616]) (.int z) S k) (cond (f == 7) (subW w (.int 6) S fun a S1 => subW (.lst [.int 0, .int 1, a, .int 5]) (.int z) S1 k) (cond (f == 10) (subW w (.int 6) S fun a S1 => subW w (.int 6) S1 fun b S2 => binV false .Sub b (.int 1) S2 fun d S3 => subW (.lst [.int 0, a, d, .int 1]) (.int z) S3 k) (cond (f == 13) (subW (.lst [.int 2, .int 1, .int 0, .int (-1)]) (.int z) S k) (cond (f == 11) (k (.bool ((Int.fmod z 2) == 1)) S) (cond (f == 12) (k (.bool ((Int.fmod z 2) == 1)) S) (cond (decide (13 < f)) (k (.bool ((Int.fmod z 2) == 1)) S) (subW (.lst [.int 0, .int 1, .int (-1), .int 1099511627776]) (.int z) S k))))))))))))) := by kernel_rfl
theorem q_stops (w : V) (S : AS) (k : KV) : callB C 293 [w] S k = (1 = 1 ∧ subW w (.int 0) S fun u S1 => cmpV .NotIn u (.lst [.int 1, .int 2]) S1 fun r S2 => cond r (k (.bool true) S2) (subW w (.int 12) S2 fun a S3 => subW w (.int 14) S3 fun b S4 => subW w (.int 15) S4 fun d S5 => bcal .min [a, b, d] S5 fun m S6 => cmpV .Lt m (.int 1) S6 fun r2 S7 => cond r2 (k (.bool true) S7) (subW w (.int 13) S7 fun e S8 => cmpV .Lt e (.int 0) S8 fun r3 S9 => k (.bool r3) S9))) := by kernel_rfl
noncomputable def unfitR (way w : V) (S : AS) (k : KV) : Prop :=
  subW w (.int 0) S fun u0 S0 => cmpV .Eq u0 (.int 0) S0 fun r0 T0 => subW w (.int 2) T0 fun u1 S1 => cmpV .Lt u1 (.int 1) S1 fun r1 T1 =>
  subW w (.int 1) T1 fun u2 S2 => subW w (.int 2) S2 fun u2' S2' => cmpV .LtE u2 u2' S2' fun r2 T2 => subW w (.int 3) T2 fun u3 S3 => cmpV .Is u3 .none S3 fun r3 T3 =>
  subW w (.int 4) T3 fun u4 S4 => cmpV .Eq u4 (.tup []) S4 fun r4 T4 => subW w (.int 9) T4 fun u5 S5 => cmpV .Lt u5 (.int 1) S5 fun r5 T5 =>
  subW w (.int 6) T5 fun u6 S6 => cmpV .Lt way u6 S6 fun r6 T6 => subW w (.int 13) T6 fun u7 S7 => cmpV .NotIn u7 (.lst [.int 0, .int 1]) S7 fun r7 T7 =>
  subW w (.int 13) T7 fun u8 S8 => cmpV .Eq u8 (.int 1) S8 fun r8 T8 => cond r8 (subW w (.int 11) T8 fun u9 S9 => (match u9 with
    | .bool b => bcal .any [.lst [.bool r0, .bool r1, .bool r2, .bool r3, .bool r4, .bool r5, .bool r6, .bool r7, .bool (!b)]] S9 k
    | _ => False)) (bcal .any [.lst [.bool r0, .bool r1, .bool r2, .bool r3, .bool r4, .bool r5, .bool r6, .bool r7, .bool false]] T8 k)
theorem q_unfit (w : V) (S : AS) (k : KV) : callB C 300 [w] S k = (1 = 1 ∧ subW w (.int 10) S fun u S1 => cmpV .Eq u (.int 0) S1 fun r S2 => cond r (unfitR (.int 18446744073709551615) w S2 k) (unfitR u w S2 k)) := by kernel_rfl
noncomputable def set10 (o w : V) (S : AS) (k : KV) : Prop := subW w (.int 10) S fun u S1 => cmpV .Eq u (.int 0) S1 fun r S2 => cond r (stI o (.int 10) (.int 18446744073709551615) S2 fun S3 => k o S3) (k o S2)
noncomputable def set8 (o w : V) (S : AS) (k : KV) : Prop := subW w (.int 8) S fun u S1 => cmpV .Eq u (.int 0) S1 fun r S2 => cond r (stI o (.int 8) (.int 18446744073709551615) S2 fun S3 => set10 o w S3 k) (set10 o w S2 k)
noncomputable def set7 (o w : V) (S : AS) (k : KV) : Prop := subW w (.int 7) S fun u S1 => cmpV .Eq u (.int 0) S1 fun r S2 => cond r (subW w (.int 6) S2 fun a S3 => stI o (.int 7) a S3 fun S4 => set8 o w S4 k) (set8 o w S2 k)
theorem q_settled (xs : List V) (S : AS) (k : KV) : callB C 305 [.lst xs] S k = (1 = 1 ∧ cond (Nat.ble xs.length 1000) (compW (fun u S2 k2 => k2 u S2) xs S fun vs S2 => mkL true vs S2 fun o S3 => set7 o (.lst xs) S3 k) False) := by kernel_rfl
theorem q_plain (w : V) (S : AS) (k : KV) : callB C 312 [w] S k = (1 = 1 ∧ cutW w none (some 7) S fun a S1 => cutW w (some 9) (some 10) S1 fun b S2 => binV false .Add a b S2 fun d S3 => cutW w (some 11) none S3 fun e S4 => binV false .Add d e S4 k) := by kernel_rfl
noncomputable def optP : Lc := [((Str.ofString "check"), .int 1), ((Str.ofString "log_block"), .int 32768), ((Str.ofString "sync_writes"), .bool true), ((Str.ofString "create_missing"), .bool true), ((Str.ofString "paranoid"), .bool false), ((Str.ofString "write_buffer"), .int 4194304), ((Str.ofString "max_height"), .int 12), ((Str.ofString "heights"), .tup [.int 1, .int 2, .int 1, .int 3, .int 1, .int 2, .int 1, .int 4]), ((Str.ofString "block_size"), .int 4096), ((Str.ofString "restart_interval"), .int 16), ((Str.ofString "filter_bits"), .int 10), ((Str.ofString "filter_base_lg"), .int 11), ((Str.ofString "max_file_size"), .int 2097152), ((Str.ofString "num_levels"), .int 7), ((Str.ofString "l0_trigger"), .int 4), ((Str.ofString "l0_stop"), .int 12), ((Str.ofString "base_bytes"), .int 10485760), ((Str.ofString "level_factor"), .int 10), ((Str.ofString "max_mem_level"), .int 2), ((Str.ofString "grandparent_factor"), .int 10), ((Str.ofString "expand_factor"), .int 25)]
noncomputable def tinyP : Lc := [((Str.ofString "check"), .int 2), ((Str.ofString "log_block"), .int 32), ((Str.ofString "write_buffer"), .int 96), ((Str.ofString "max_height"), .int 4), ((Str.ofString "block_size"), .int 48), ((Str.ofString "restart_interval"), .int 2), ((Str.ofString "filter_bits"), .int 4), ((Str.ofString "filter_base_lg"), .int 5), ((Str.ofString "max_file_size"), .int 128), ((Str.ofString "num_levels"), .int 4), ((Str.ofString "l0_trigger"), .int 2), ((Str.ofString "l0_stop"), .int 4), ((Str.ofString "base_bytes"), .int 256), ((Str.ofString "level_factor"), .int 2)]
theorem q_Options (S : AS) (k : KV) : callB C 106 [] S k = (0 = 0 ∧ storesW (.ref S.length) optP (S ++ [.inst 106 []]) fun S' => k (.ref S.length) S') := by kernel_rfl
theorem q_tiny (o : V) (S : AS) (k : KV) : callB C 103 [o] S k = (1 = 1 ∧ storesW o tinyP S fun S' => k o S') := by kernel_rfl
noncomputable def confP (a b d e : V) : Lc := [((Str.ofString "nid"), a), ((Str.ofString "election_tick"), b), ((Str.ofString "heartbeat_tick"), d), ((Str.ofString "storage"), e), ((Str.ofString "jitter"), .tup [.int 0]), ((Str.ofString "applied"), .int 0), ((Str.ofString "max_size_per_msg"), .int 1048576), ((Str.ofString "max_committed_size"), .int 1048576), ((Str.ofString "max_uncommitted_size"), .int 18446744073709551615), ((Str.ofString "max_inflight"), .int 256), ((Str.ofString "max_inflight_octets"), .int 18446744073709551615), ((Str.ofString "check_quorum"), .bool false), ((Str.ofString "pre_vote"), .bool false), ((Str.ofString "read_option"), .int 0), ((Str.ofString "no_forwarding"), .bool false), ((Str.ofString "step_down_on_removal"), .bool false)]
theorem q_RaftConfig (a b d e : V) (S : AS) (k : KV) : callB C 141 [a, b, d, e] S k = (4 = 4 ∧ storesW (.ref S.length) (confP a b d e) (S ++ [.inst 141 []]) fun S' => k (.ref S.length) S') := by kernel_rfl
noncomputable def roptP : Lc := [((Str.ofString "election_tick"), .int 4), ((Str.ofString "heartbeat_tick"), .int 1), ((Str.ofString "jitter"), .tup [.int 0]), ((Str.ofString "pre_vote"), .bool true), ((Str.ofString "check_quorum"), .bool true), ((Str.ofString "read_option"), .int 0), ((Str.ofString "max_size_per_msg"), .int 256), ((Str.ofString "max_inflight"), .int 4), ((Str.ofString "wal_block"), .int 64), ((Str.ofString "segment_limit"), .int 512), ((Str.ofString "fold_every"), .int 4), ((Str.ofString "fold_keep"), .int 1), ((Str.ofString "piece"), .int 48), ((Str.ofString "snap_patience"), .int 6), ((Str.ofString "max_uncommitted"), .int 512)]
theorem q_ReplicaOptions (S : AS) (k : KV) : callB C 183 [] S k = (0 = 0 ∧ stF (Str.ofString "mode") (.ref S.length) (.int 2) (S ++ [.inst 183 []]) fun S1 => C 106 [] S1 fun v S2 => methW (TT C) (sem (TT C) 57) (mS 23 0) (Str.ofString "tiny") [] [((Str.ofString "self"), .ref S.length)] v S2 fun w S3 => stF (Str.ofString "store") (.ref S.length) w S3 fun S4 => storesW (.ref S.length) roptP S4 fun S' => k (.ref S.length) S') := by kernel_rfl
theorem q_copy (o : V) (S : AS) (k : KV) : callB C 173 [o] S k = (1 = 1 ∧ C 183 [] S fun m S0 => attrW o (Str.ofString "mode") S0 fun u0_0 => attrW o (Str.ofString "store") S0 fun u0_1 => attrW o (Str.ofString "jitter") S0 fun u0_2 => stF (Str.ofString "mode") m u0_0 S0 fun S0_0 => stF (Str.ofString "store") m u0_1 S0_0 fun S0_1 => stF (Str.ofString "jitter") m u0_2 S0_1 fun S0_2 => attrW o (Str.ofString "election_tick") S0_2 fun u1_0 => attrW o (Str.ofString "heartbeat_tick") S0_2 fun u1_1 => stF (Str.ofString "election_tick") m u1_0 S0_2 fun S1_0 => stF (Str.ofString "heartbeat_tick") m u1_1 S1_0 fun S1_1 => attrW o (Str.ofString "pre_vote") S1_1 fun u2_0 => attrW o (Str.ofString "check_quorum") S1_1 fun u2_1 => stF (Str.ofString "pre_vote") m u2_0 S1_1 fun S2_0 => stF (Str.ofString "check_quorum") m u2_1 S2_0 fun S2_1 => attrW o (Str.ofString "read_option") S2_1 fun u3_0 => attrW o (Str.ofString "max_inflight") S2_1 fun u3_1 => stF (Str.ofString "read_option") m u3_0 S2_1 fun S3_0 => stF (Str.ofString "max_inflight") m u3_1 S3_0 fun S3_1 => attrW o (Str.ofString "max_size_per_msg") S3_1 fun u4_0 => attrW o (Str.ofString "max_uncommitted") S3_1 fun u4_1 => stF (Str.ofString "max_size_per_msg") m u4_0 S3_1 fun S4_0 => stF (Str.ofString "max_uncommitted") m u4_1 S4_0 fun S4_1 => attrW o (Str.ofString "wal_block") S4_1 fun u5_0 => attrW o (Str.ofString "segment_limit") S4_1 fun u5_1 => stF (Str.ofString "wal_block") m u5_0 S4_1 fun S5_0 => stF (Str.ofString "segment_limit") m u5_1 S5_0 fun S5_1 => attrW o (Str.ofString "fold_every") S5_1 fun u6_0 => attrW o (Str.ofString "fold_keep") S5_1 fun u6_1 => stF (Str.ofString "fold_every") m u6_0 S5_1 fun S6_0 => stF (Str.ofString "fold_keep") m u6_1 S6_0 fun S6_1 => attrW o (Str.ofString "piece") S6_1 fun u7_0 => attrW o (Str.ofString "snap_patience") S6_1 fun u7_1 => stF (Str.ofString "piece") m u7_0 S6_1 fun S7_0 => stF (Str.ofString "snap_patience") m u7_1 S7_0 fun S7_1 => k m S7_1) := by kernel_rfl
theorem q_raft_config (o nid st ap : V) (S : AS) (k : KV) : callB C 180 [o, nid, st, ap] S k = (4 = 4 ∧ attrW o (Str.ofString "election_tick") S fun a => attrW o (Str.ofString "heartbeat_tick") S fun b => C 141 [nid, a, b, st] S fun c S0 => attrW o (Str.ofString "jitter") S0 fun u1 => stF (Str.ofString "jitter") c u1 S0 fun S1 => stF (Str.ofString "applied") c ap S1 fun S2 => attrW o (Str.ofString "pre_vote") S2 fun u3 => stF (Str.ofString "pre_vote") c u3 S2 fun S3 => attrW o (Str.ofString "check_quorum") S3 fun u4 => stF (Str.ofString "check_quorum") c u4 S3 fun S4 => attrW o (Str.ofString "read_option") S4 fun u5 => stF (Str.ofString "read_option") c u5 S4 fun S5 => attrW o (Str.ofString "max_size_per_msg") S5 fun u6 => stF (Str.ofString "max_size_per_msg") c u6 S5 fun S6 => attrW o (Str.ofString "max_size_per_msg") S6 fun u7 => stF (Str.ofString "max_committed_size") c u7 S6 fun S7 => attrW o (Str.ofString "max_inflight") S7 fun u8 => stF (Str.ofString "max_inflight") c u8 S7 fun S8 => attrW o (Str.ofString "max_uncommitted") S8 fun u9 => stF (Str.ofString "max_uncommitted_size") c u9 S8 fun S9 => stF (Str.ofString "step_down_on_removal") c (.bool true) S9 fun S10 => k c S10) := by kernel_rfl
noncomputable def rck3 (o : V) (kn ke : AS → Prop) (S : AS) : Prop := attrW o (Str.ofString "piece") S fun u => cmpV .Lt u (.int 1) S fun b S1 => cond b (fmtW o [(Str.ofString "piece"), (Str.ofString "snap_patience")] S1 ke) (attrW o (Str.ofString "snap_patience") S1 fun u2 => cmpV .Lt u2 (.int 1) S1 fun b2 S2 => cond b2 (fmtW o [(Str.ofString "piece"), (Str.ofString "snap_patience")] S2 ke) (kn S2))
noncomputable def rck2 (o : V) (kn ke : AS → Prop) (S : AS) : Prop := attrW o (Str.ofString "fold_every") S fun u => cmpV .Lt u (.int 1) S fun b S1 => cond b (fmtW o [(Str.ofString "fold_every"), (Str.ofString "fold_keep")] S1 ke) (attrW o (Str.ofString "fold_keep") S1 fun u2 => cmpV .Lt u2 (.int 0) S1 fun b2 S2 => cond b2 (fmtW o [(Str.ofString "fold_every"), (Str.ofString "fold_keep")] S2 ke) (rck3 o kn ke S2))
noncomputable def rck1 (o : V) (kn ke : AS → Prop) (S : AS) : Prop := attrW o (Str.ofString "mode") S fun u => cmpV .NotEq u (.int 1) S fun b S1 => cond b (attrW o (Str.ofString "mode") S1 fun u2 => cmpV .NotEq u2 (.int 2) S1 fun b2 S2 => cond b2 (fmtW o [(Str.ofString "mode")] S2 ke) (rck2 o kn ke S2)) (rck2 o kn ke S1)
theorem q_rcheck (o : V) (S : AS) (kn ke : AS → Prop) : ckW (sem (TT C) 60) (mS 23 1) (Str.ofString "BadOption") [(Str.ofString "self", o)] (mB 23 1) S kn ke = rck1 o kn ke S := by kernel_rfl
noncomputable def ccC (o : V) (kn ke : AS → Prop) (S : AS) : Prop := attrW o (Str.ofString "read_option") S fun u => cmpV .Eq u (.int 1) S fun b S1 => cond b (attrW o (Str.ofString "check_quorum") S1 fun u2 => (match u2 with | .bool q => cond (!q) (ke S1) (kn S1) | _ => False)) (kn S1)
noncomputable def ccB (o : V) (kn ke : AS → Prop) (S : AS) : Prop := attrW o (Str.ofString "read_option") S fun u => cmpV .NotEq u (.int 0) S fun b S1 => cond b (attrW o (Str.ofString "read_option") S1 fun u2 => cmpV .NotEq u2 (.int 1) S1 fun b2 S2 => cond b2 (fmtW o [(Str.ofString "read_option")] S2 ke) (ccC o kn ke S2)) (ccC o kn ke S1)
noncomputable def ccA (o : V) (kn ke : AS → Prop) (S : AS) : Prop := attrW o (Str.ofString "max_inflight_octets") S fun u => attrW o (Str.ofString "max_size_per_msg") S fun u2 => cmpV .Lt u u2 S fun b S1 => cond b (fmtW o [(Str.ofString "max_inflight_octets"), (Str.ofString "max_size_per_msg")] S1 ke) (ccB o kn ke S1)
noncomputable def cc9 (o : V) (kn ke : AS → Prop) (S : AS) : Prop := attrW o (Str.ofString "max_committed_size") S fun u => cmpV .Eq u (.int 0) S fun b S1 => cond b (attrW o (Str.ofString "max_size_per_msg") S1 fun u2 => stF (Str.ofString "max_committed_size") o u2 S1 fun S2 => [(Str.ofString "self", o)] = [(Str.ofString "self", o)] ∧ ccA o kn ke S2) (ccA o kn ke S1)
noncomputable def cc8 (o : V) (kn ke : AS → Prop) (S : AS) : Prop := attrW o (Str.ofString "max_uncommitted_size") S fun u => cmpV .Eq u (.int 0) S fun b S1 => cond b (stF (Str.ofString "max_uncommitted_size") o (.int 18446744073709551615) S1 fun S2 => [(Str.ofString "self", o)] = [(Str.ofString "self", o)] ∧ cc9 o kn ke S2) (cc9 o kn ke S1)
noncomputable def cc7 (o : V) (kn ke : AS → Prop) (S : AS) : Prop := attrW o (Str.ofString "max_inflight_octets") S fun u => cmpV .Eq u (.int 0) S fun b S1 => cond b (stF (Str.ofString "max_inflight_octets") o (.int 18446744073709551615) S1 fun S2 => [(Str.ofString "self", o)] = [(Str.ofString "self", o)] ∧ cc8 o kn ke S2) (cc8 o kn ke S1)
noncomputable def cc1 (o : V) (kn ke : AS → Prop) (S : AS) : Prop := attrW o (Str.ofString "nid") S fun u0 => cmpV .Eq u0 (.int 0) S fun b S1 => cond b (ke S1) (attrW o (Str.ofString "heartbeat_tick") S1 fun u1 => cmpV .Lt u1 (.int 1) S1 fun b S2 => cond b (fmtW o [(Str.ofString "heartbeat_tick")] S2 ke) (attrW o (Str.ofString "election_tick") S2 fun u2 => attrW o (Str.ofString "heartbeat_tick") S2 fun u3 => cmpV .LtE u2 u3 S2 fun b S3 => cond b (fmtW o [(Str.ofString "election_tick"), (Str.ofString "heartbeat_tick")] S3 ke) (attrW o (Str.ofString "storage") S3 fun u4 => cmpV .Is u4 .none S3 fun b S4 => cond b (ke S4) (attrW o (Str.ofString "jitter") S4 fun u5 => bcal .len [u5] S4 fun n S5 => cmpV .Eq n (.int 0) S5 fun b S6 => cond b (ke S6) (attrW o (Str.ofString "max_inflight") S6 fun u6 => cmpV .Lt u6 (.int 1) S6 fun b S7 => cond b (fmtW o [(Str.ofString "max_inflight")] S7 ke) (cc7 o kn ke S7))))))
theorem q_ccheck (o : V) (S : AS) (kn ke : AS → Prop) : ckW (sem (TT C) 60) (mS 19 1) (Str.ofString "BadConfig") [(Str.ofString "self", o)] (mB 19 1) S kn ke = cc1 o kn ke S := by kernel_rfl

noncomputable def numS (n : Int) : Bool := decide (-1180591620717411303424 < n) && decide (n < 1180591620717411303424)
inductive Kd where | int | sml | store | tup | bool | stg
noncomputable def HasK : Kd → V → Prop
  | .int, v => ∃ n, num3 n = true ∧ v = .int n
  | .sml, v => ∃ n, numS n = true ∧ v = .int n
  | .store, v => ∃ j : Fin 3, v = .lst [.int (j.val : Int)]
  | .tup, v => ∃ ts : List Int, ts.length ≤ 1000 ∧ v = .tup (ts.map .int)
  | .bool, v => ∃ b, v = .bool b
  | .stg, v => v = .none ∨ ∃ n, v = .int n
noncomputable def rKd (f : Nat) : Kd := if f = 1 then .store else if f = 4 then .tup else if f = 5 ∨ f = 6 then .bool else .sml
noncomputable def cKd (f : Nat) : Kd := if f = 3 then .stg else if f = 4 then .tup else if f = 11 ∨ f = 12 ∨ f = 14 ∨ f = 15 then .bool else .int
noncomputable def KL (n : Nat) (kd : Nat → Kd) (xs : List V) : Prop := xs.length = n ∧ ∀ i v, xs[i]? = some v → HasK (kd i) v
theorem KL.set {n : Nat} {kd : Nat → Kd} {xs : List V} (h : KL n kd xs) {g : Nat} {v : V} (hv : HasK (kd g) v) : KL n kd (xs.set g v) := by
  refine ⟨by rw [List.length_set]; exact h.1, fun i u hu => ?_⟩
  by_cases e : g = i
  · subst e
    by_cases hlt : g < xs.length
    · rw [List.getElem?_set_self hlt] at hu
      cases hu
      exact hv
    · rw [List.getElem?_eq_none (by rw [List.length_set]; omega)] at hu
      cases hu
  · rw [List.getElem?_set_ne e] at hu
    exact h.2 i u hu
theorem KL.get {n : Nat} {kd : Nat → Kd} {xs : List V} (h : KL n kd xs) {g : Nat} (hg : g < n) : ∃ v, xs[g]? = some v ∧ HasK (kd g) v := by
  have hlt : g < xs.length := by rw [h.1]; exact hg
  exact ⟨_, List.getElem?_eq_getElem hlt, h.2 g _ (List.getElem?_eq_getElem hlt)⟩
noncomputable def PlV (v : V) : Prop := isDat v = true ∧ ∃ d, dat0 v = some d ∧ PyData.canLay0 d = true ∧ PyData.depth d ≤ 1 ∧ PyData.eqv d d = true
theorem dats_ints : ∀ ts : List Int, dats0 (ts.map V.int) = some (ts.map PyData.int)
  | [] => rfl
  | n :: r => by simp [dats0, dat0, dats_ints r]
theorem eqvs_ints : ∀ ts : List Int, PyData.eqvAll (ts.map PyData.int) (ts.map PyData.int) = true
  | [] => rfl
  | n :: r => by simp [PyData.eqvAll, PyData.eqv, eqvs_ints r]
theorem pl_of {κ : Kd} {v : V} (h : HasK κ v) : PlV v := by
  cases κ with
  | int => obtain ⟨n, _, rfl⟩ := h; exact ⟨rfl, .int n, rfl, rfl, by simp [PyData.depth], by simp [PyData.eqv]⟩
  | sml => obtain ⟨n, _, rfl⟩ := h; exact ⟨rfl, .int n, rfl, rfl, by simp [PyData.depth], by simp [PyData.eqv]⟩
  | store => obtain ⟨j, rfl⟩ := h; exact ⟨rfl, .list [.int _], rfl, rfl, by simp [PyData.depth, PyData.depthAll], by simp [PyData.eqv, PyData.eqvAll]⟩
  | tup =>
    obtain ⟨ts, _, rfl⟩ := h
    refine ⟨rfl, .tuple (ts.map .int), by simp [dat0, dats_ints], by simp [PyData.canLay0, canLay_ints], by simp [PyData.depth, depth_ints], by simp [PyData.eqv, eqvs_ints]⟩
  | bool => obtain ⟨b, rfl⟩ := h; exact ⟨rfl, .bool b, rfl, rfl, by simp [PyData.depth], by simp [PyData.eqv]⟩
  | stg =>
    rcases h with rfl | ⟨n, rfl⟩
    · exact ⟨rfl, .none, rfl, rfl, by simp [PyData.depth], by simp [PyData.eqv]⟩
    · exact ⟨rfl, .int n, rfl, rfl, by simp [PyData.depth], by simp [PyData.eqv]⟩
theorem KL.pl {n : Nat} {kd : Nat → Kd} {xs : List V} (h : KL n kd xs) : ∀ v ∈ xs, PlV v := fun v hv => by
  obtain ⟨i, hi⟩ := List.mem_iff_getElem?.mp hv
  exact pl_of (h.2 i v hi)
theorem dats_pl : ∀ {xs : List V}, (∀ v ∈ xs, PlV v) → ∃ ds, dats0 xs = some ds ∧ PyData.canLayAll0 ds = true ∧ PyData.depthAll ds ≤ 1 ∧ PyData.eqvAll ds ds = true
  | [], _ => ⟨[], rfl, rfl, by decide, rfl⟩
  | v :: r, h => by
    obtain ⟨_, d, e1, e2, e3, e4⟩ := h v (.head _)
    obtain ⟨ds, g1, g2, g3, g4⟩ := dats_pl fun u hu => h u (.tail _ hu)
    refine ⟨d :: ds, by simp [dats0, e1, g1], by simp [PyData.canLayAll0, e2, g2], ?_, by simp [PyData.eqvAll, e4, g4]⟩
    simp only [PyData.depthAll]
    omega
theorem cmp_pl {xs : List V} (h : ∀ v ∈ xs, PlV v) {a b : V} {S : AS} {kb : Bool → AS → Prop} (ha : dat S a = (dats0 xs).map .list) (hb : dat S b = (dats0 xs).map .list) (hna : ∀ n, a ≠ .int n) (hk : kb true S) : cmpV .Eq a b S kb := by
  obtain ⟨ds, g1, g2, g3, g4⟩ := dats_pl h
  have hs : SeqAt.shaped (.list ds) = true := Bool.and_eq_true_iff.mpr ⟨by simp only [PyData.canLay0, g2], decide_eq_true (by simp only [PyData.depth]; omega)⟩
  unfold cmpV
  split <;> first | exact absurd rfl (hna _) | contradiction | skip
  all_goals (rw [ha, hb, g1]; exact ⟨hs, hs, by simp only [PyData.eqv, g4]; exact hk⟩)

-- objects
theorem getO_put {S : AS} {i : Nat} {o o' : O} (h : getO S i = some o) : getO (putO S i o') i = some o' := by
  rw [getO_eq] at h
  rw [getO_eq, putO_eq, List.getElem?_set_self (List.getElem?_eq_some_iff.mp h).1]
theorem putO_putO {S : AS} {i : Nat} {o o' : O} : putO (putO S i o) i o' = putO S i o' := by
  rw [putO_eq, putO_eq, putO_eq, List.set_set]
theorem getO_last {S : AS} {o : O} : getO (S ++ [o]) S.length = some o := by rw [getO_eq]; simp
theorem putO_last {S : AS} {o o' : O} : putO (S ++ [o]) S.length o' = S ++ [o'] := by rw [putO_eq]; simp
section
variable {S : AS} {i D : Nat} {fs : Lc} {x : PySem.Str} {u v : V}
theorem attrW_of {k : V → Prop} (h : getO S i = some (.inst D fs)) (hf : fld x fs = some u) (hk : k u) : attrW (.ref i) x S k := by
  unfold attrW
  simp only [h, hf]
  exact hk
theorem attrsW_of (h : getO S i = some (.inst D fs)) : ∀ {ps : Lc} {k : List V → Prop}, (∀ p ∈ ps, fld p.1 fs = some p.2) → k (ps.map (·.2)) → attrsW (.ref i) (ps.map (·.1)) S k
  | [], _, _, hk => hk
  | p :: r, k, hp, hk => by
    show attrW (.ref i) p.1 S fun u => attrsW (.ref i) (r.map (·.1)) S fun us => k (u :: us)
    exact attrW_of h (hp p (.head _)) (attrsW_of h (fun q hq => hp q (.tail _ hq)) hk)
theorem stF_of {k : AS → Prop} (h : getO S i = some (.inst D fs)) (hz : (Nat.ble fs.length 100 && ((fld x fs).isSome || atrT D x)) = true) (hk : k (putO S i (.inst D (setF x v fs)))) : stF x (.ref i) v S k := by
  unfold stF
  simp only [h, hz, cond_true]
  exact hk
noncomputable def setFs (fs : Lc) (ps : Lc) : Lc := ps.foldl (fun a p => setF p.1 p.2 a) fs
theorem storesW_of : ∀ {ps : Lc} {S : AS} {fs : Lc} {k : AS → Prop}, getO S i = some (.inst D fs) → (∀ p ∈ ps, atrT D p.1 = true) → fs.length + ps.length ≤ 100 → k (putO S i (.inst D (setFs fs ps))) → storesW (.ref i) ps S k
  | [], S, fs, k, h, _, _, hk => by
    have e : putO S i (.inst D (setFs fs [])) = S := by
      rw [getO_eq] at h
      rw [putO_eq]
      show S.set i (.inst D fs) = S
      apply List.ext_getElem?
      intro j
      by_cases hj : i = j
      · subst hj
        rw [List.getElem?_set_self (List.getElem?_eq_some_iff.mp h).1, h]
      · rw [List.getElem?_set_ne hj]
    rw [e] at hk
    exact hk
  | (x, v) :: r, S, fs, k, h, ha, hz, hk => by
    rw [List.length_cons] at hz
    have hble : Nat.ble fs.length 100 = true := Nat.ble_eq_true_of_le (by omega)
    refine stF_of h (by rw [ha _ (.head _), Bool.or_true, Bool.and_true]; exact hble) ?_
    refine storesW_of (getO_put h) (fun p hp => ha p (.tail _ hp)) ?_ ?_
    · rw [setF_len]; split <;> omega
    · rw [putO_putO]; exact hk
end
-- fields by position
theorem fld_zip {x : PySem.Str} : ∀ {ns : List PySem.Str} {xs : List V} {g : Nat}, ns.Nodup → ns[g]? = some x → xs.length = ns.length → fld x (ns.zip xs) = xs[g]?
  | n :: ns, y :: ys, 0, hd, h, hl => by
    simp only [List.getElem?_cons_zero, Option.some.injEq] at h
    simp [fld, h]
  | n :: ns, y :: ys, g + 1, hd, h, hl => by
    rw [List.getElem?_cons_succ] at h
    have hne : x ≠ n := fun e => by
      subst e
      exact (List.nodup_cons.mp hd).1 (List.mem_of_getElem? h)
    simp only [List.zip_cons_cons, fld, if_neg hne, List.getElem?_cons_succ]
    exact fld_zip (List.nodup_cons.mp hd).2 h (by simpa using hl)
  | [], _, _, _, h, _ => by simp at h
  | n :: ns, [], _, _, _, hl => by simp at hl
theorem setF_zip {x : PySem.Str} {v : V} : ∀ {ns : List PySem.Str} {xs : List V} {g : Nat}, ns.Nodup → ns[g]? = some x → xs.length = ns.length → setF x v (ns.zip xs) = ns.zip (xs.set g v)
  | n :: ns, y :: ys, 0, hd, h, hl => by
    simp only [List.getElem?_cons_zero, Option.some.injEq] at h
    simp [setF, h]
  | n :: ns, y :: ys, g + 1, hd, h, hl => by
    rw [List.getElem?_cons_succ] at h
    have hne : x ≠ n := fun e => by
      subst e
      exact (List.nodup_cons.mp hd).1 (List.mem_of_getElem? h)
    simp only [List.zip_cons_cons, setF, if_neg hne, List.set_cons_succ]
    rw [setF_zip (List.nodup_cons.mp hd).2 h (by simpa using hl)]
  | [], _, _, _, h, _ => by simp at h
  | n :: ns, [], _, _, _, hl => by simp at hl
theorem zip_flds {ns : List PySem.Str} {xs : List V} (hd : ns.Nodup) (hl : xs.length = ns.length) : ∀ p ∈ ns.zip xs, fld p.1 (ns.zip xs) = some p.2 := fun p hp => by
  obtain ⟨g, hg⟩ := List.mem_iff_getElem?.mp hp
  obtain ⟨h1, h2⟩ := List.getElem?_zip_eq_some.mp hg
  rw [fld_zip hd h1 hl, h2]
theorem attrs_zip {S : AS} {i D : Nat} {ns : List PySem.Str} {xs : List V} {k : List V → Prop} (m : Nat) (h : getO S i = some (.inst D (ns.zip xs))) (hd : ns.Nodup) (hl : xs.length = ns.length) (hk : k (xs.drop m)) : attrsW (.ref i) (ns.drop m) S k := by
  have e1 : ((ns.zip xs).drop m).map (·.1) = ns.drop m := by rw [List.map_drop, List.map_fst_zip (by omega)]
  have e2 : ((ns.zip xs).drop m).map (·.2) = xs.drop m := by rw [List.map_drop, List.map_snd_zip (by omega)]
  rw [← e1]
  refine attrsW_of h (fun p hp => zip_flds hd hl p (List.mem_of_mem_drop hp)) ?_
  rw [e2]
  exact hk
theorem cNames_nd : cNames.Nodup := by decide +kernel
theorem rNames_nd : rNames.Nodup := by decide +kernel
noncomputable def fv1 : V → V
  | .lst [.int j] => .ref (j.toNat + 1)
  | v => v
noncomputable abbrev optO (xs : List V) : O := .inst 183 (rNames.zip (xs.map fv1))
noncomputable abbrev cfgO (xs : List V) : O := .inst 141 (cNames.zip xs)

structure RowD where
  a0 : Int
  j : Fin 3
  a2 : Int
  a3 : Int
  ts : List Int
  b5 : Bool
  b6 : Bool
  a7 : Int
  a8 : Int
  a9 : Int
  a10 : Int
  a11 : Int
  a12 : Int
  a13 : Int
  a14 : Int
  a15 : Int
  a16 : Int
noncomputable def rowL (d : RowD) : List V := [.int d.a0, .lst [.int (d.j.val : Int)], .int d.a2, .int d.a3, .tup (d.ts.map .int), .bool d.b5, .bool d.b6, .int d.a7, .int d.a8, .int d.a9, .int d.a10, .int d.a11, .int d.a12, .int d.a13, .int d.a14, .int d.a15, .int d.a16]
structure CfgD where
  a0 : Int
  a1 : Int
  a2 : Int
  st : V
  ts : List Int
  a5 : Int
  a6 : Int
  a7 : Int
  a8 : Int
  a9 : Int
  a10 : Int
  b11 : Bool
  b12 : Bool
  a13 : Int
  b14 : Bool
  b15 : Bool
noncomputable def wantL (d : CfgD) : List V := [.int d.a0, .int d.a1, .int d.a2, d.st, .tup (d.ts.map .int), .int d.a5, .int d.a6, .int d.a7, .int d.a8, .int d.a9, .int d.a10, .bool d.b11, .bool d.b12, .int d.a13, .bool d.b14, .bool d.b15]
theorem row_of {xs : List V} (h : KL 17 rKd xs) : ∃ d, xs = rowL d ∧ d.ts.length ≤ 1000 ∧ numS d.a0 = true ∧ numS d.a2 = true ∧ numS d.a3 = true ∧ numS d.a7 = true ∧ numS d.a8 = true ∧ numS d.a9 = true ∧ numS d.a10 = true ∧ numS d.a11 = true ∧ numS d.a12 = true ∧ numS d.a13 = true ∧ numS d.a14 = true ∧ numS d.a15 = true ∧ numS d.a16 = true := by
  obtain ⟨hl, hk⟩ := h
  rcases xs with _ | ⟨x0, _ | ⟨x1, _ | ⟨x2, _ | ⟨x3, _ | ⟨x4, _ | ⟨x5, _ | ⟨x6, _ | ⟨x7, _ | ⟨x8, _ | ⟨x9, _ | ⟨x10, _ | ⟨x11, _ | ⟨x12, _ | ⟨x13, _ | ⟨x14, _ | ⟨x15, _ | ⟨x16, _ | ⟨z, r⟩⟩⟩⟩⟩⟩⟩⟩⟩⟩⟩⟩⟩⟩⟩⟩⟩⟩
  · simp at hl
  · simp at hl
  · simp at hl
  · simp at hl
  · simp at hl
  · simp at hl
  · simp at hl
  · simp at hl
  · simp at hl
  · simp at hl
  · simp at hl
  · simp at hl
  · simp at hl
  · simp at hl
  · simp at hl
  · simp at hl
  · simp at hl
  · obtain ⟨n0, g0, rfl⟩ := hk 0 _ rfl
    obtain ⟨n1, rfl⟩ := hk 1 _ rfl
    obtain ⟨n2, g2, rfl⟩ := hk 2 _ rfl
    obtain ⟨n3, g3, rfl⟩ := hk 3 _ rfl
    obtain ⟨n4, ht, rfl⟩ := hk 4 _ rfl
    obtain ⟨n5, rfl⟩ := hk 5 _ rfl
    obtain ⟨n6, rfl⟩ := hk 6 _ rfl
    obtain ⟨n7, g7, rfl⟩ := hk 7 _ rfl
    obtain ⟨n8, g8, rfl⟩ := hk 8 _ rfl
    obtain ⟨n9, g9, rfl⟩ := hk 9 _ rfl
    obtain ⟨n10, g10, rfl⟩ := hk 10 _ rfl
    obtain ⟨n11, g11, rfl⟩ := hk 11 _ rfl
    obtain ⟨n12, g12, rfl⟩ := hk 12 _ rfl
    obtain ⟨n13, g13, rfl⟩ := hk 13 _ rfl
    obtain ⟨n14, g14, rfl⟩ := hk 14 _ rfl
    obtain ⟨n15, g15, rfl⟩ := hk 15 _ rfl
    obtain ⟨n16, g16, rfl⟩ := hk 16 _ rfl
    exact ⟨⟨n0, n1, n2, n3, n4, n5, n6, n7, n8, n9, n10, n11, n12, n13, n14, n15, n16⟩, rfl, ht, g0, g2, g3, g7, g8, g9, g10, g11, g12, g13, g14, g15, g16⟩
  · simp at hl
theorem cfg_of {xs : List V} (h : KL 16 cKd xs) : ∃ d, xs = wantL d ∧ (d.st = .none ∨ ∃ n, d.st = .int n) ∧ d.ts.length ≤ 1000 ∧ num3 d.a0 = true ∧ num3 d.a1 = true ∧ num3 d.a2 = true ∧ num3 d.a5 = true ∧ num3 d.a6 = true ∧ num3 d.a7 = true ∧ num3 d.a8 = true ∧ num3 d.a9 = true ∧ num3 d.a10 = true ∧ num3 d.a13 = true := by
  obtain ⟨hl, hk⟩ := h
  rcases xs with _ | ⟨x0, _ | ⟨x1, _ | ⟨x2, _ | ⟨x3, _ | ⟨x4, _ | ⟨x5, _ | ⟨x6, _ | ⟨x7, _ | ⟨x8, _ | ⟨x9, _ | ⟨x10, _ | ⟨x11, _ | ⟨x12, _ | ⟨x13, _ | ⟨x14, _ | ⟨x15, _ | ⟨z, r⟩⟩⟩⟩⟩⟩⟩⟩⟩⟩⟩⟩⟩⟩⟩⟩⟩
  · simp at hl
  · simp at hl
  · simp at hl
  · simp at hl
  · simp at hl
  · simp at hl
  · simp at hl
  · simp at hl
  · simp at hl
  · simp at hl
  · simp at hl
  · simp at hl
  · simp at hl
  · simp at hl
  · simp at hl
  · simp at hl
  · obtain ⟨n0, g0, rfl⟩ := hk 0 _ rfl
    obtain ⟨n1, g1, rfl⟩ := hk 1 _ rfl
    obtain ⟨n2, g2, rfl⟩ := hk 2 _ rfl
    have hst : x3 = .none ∨ ∃ n, x3 = .int n := hk 3 _ rfl
    obtain ⟨n4, ht, rfl⟩ := hk 4 _ rfl
    obtain ⟨n5, g5, rfl⟩ := hk 5 _ rfl
    obtain ⟨n6, g6, rfl⟩ := hk 6 _ rfl
    obtain ⟨n7, g7, rfl⟩ := hk 7 _ rfl
    obtain ⟨n8, g8, rfl⟩ := hk 8 _ rfl
    obtain ⟨n9, g9, rfl⟩ := hk 9 _ rfl
    obtain ⟨n10, g10, rfl⟩ := hk 10 _ rfl
    obtain ⟨n11, rfl⟩ := hk 11 _ rfl
    obtain ⟨n12, rfl⟩ := hk 12 _ rfl
    obtain ⟨n13, g13, rfl⟩ := hk 13 _ rfl
    obtain ⟨n14, rfl⟩ := hk 14 _ rfl
    obtain ⟨n15, rfl⟩ := hk 15 _ rfl
    exact ⟨⟨n0, n1, n2, x3, n4, n5, n6, n7, n8, n9, n10, n11, n12, n13, n14, n15⟩, rfl, hst, ht, g0, g1, g2, g5, g6, g7, g8, g9, g10, g13⟩
  · simp at hl
theorem KL_row {d : RowD} (ht : d.ts.length ≤ 1000) (g0 : numS d.a0 = true) (g2 : numS d.a2 = true) (g3 : numS d.a3 = true) (g7 : numS d.a7 = true) (g8 : numS d.a8 = true) (g9 : numS d.a9 = true) (g10 : numS d.a10 = true) (g11 : numS d.a11 = true) (g12 : numS d.a12 = true) (g13 : numS d.a13 = true) (g14 : numS d.a14 = true) (g15 : numS d.a15 = true) (g16 : numS d.a16 = true) : KL 17 rKd (rowL d) := by
  refine ⟨rfl, fun i v h => ?_⟩
  match i, h with
  | 0, h => cases h; exact ⟨_, g0, rfl⟩
  | 1, h => cases h; exact ⟨d.j, rfl⟩
  | 2, h => cases h; exact ⟨_, g2, rfl⟩
  | 3, h => cases h; exact ⟨_, g3, rfl⟩
  | 4, h => cases h; exact ⟨_, ht, rfl⟩
  | 5, h => cases h; exact ⟨_, rfl⟩
  | 6, h => cases h; exact ⟨_, rfl⟩
  | 7, h => cases h; exact ⟨_, g7, rfl⟩
  | 8, h => cases h; exact ⟨_, g8, rfl⟩
  | 9, h => cases h; exact ⟨_, g9, rfl⟩
  | 10, h => cases h; exact ⟨_, g10, rfl⟩
  | 11, h => cases h; exact ⟨_, g11, rfl⟩
  | 12, h => cases h; exact ⟨_, g12, rfl⟩
  | 13, h => cases h; exact ⟨_, g13, rfl⟩
  | 14, h => cases h; exact ⟨_, g14, rfl⟩
  | 15, h => cases h; exact ⟨_, g15, rfl⟩
  | 16, h => cases h; exact ⟨_, g16, rfl⟩
  | i + 17, h => simp [rowL] at h
theorem KL_want {d : CfgD} (hst : d.st = .none ∨ ∃ n, d.st = .int n) (ht : d.ts.length ≤ 1000) (g0 : num3 d.a0 = true) (g1 : num3 d.a1 = true) (g2 : num3 d.a2 = true) (g5 : num3 d.a5 = true) (g6 : num3 d.a6 = true) (g7 : num3 d.a7 = true) (g8 : num3 d.a8 = true) (g9 : num3 d.a9 = true) (g10 : num3 d.a10 = true) (g13 : num3 d.a13 = true) : KL 16 cKd (wantL d) := by
  refine ⟨rfl, fun i v h => ?_⟩
  match i, h with
  | 0, h => cases h; exact ⟨_, g0, rfl⟩
  | 1, h => cases h; exact ⟨_, g1, rfl⟩
  | 2, h => cases h; exact ⟨_, g2, rfl⟩
  | 3, h => cases h; exact hst
  | 4, h => cases h; exact ⟨_, ht, rfl⟩
  | 5, h => cases h; exact ⟨_, g5, rfl⟩
  | 6, h => cases h; exact ⟨_, g6, rfl⟩
  | 7, h => cases h; exact ⟨_, g7, rfl⟩
  | 8, h => cases h; exact ⟨_, g8, rfl⟩
  | 9, h => cases h; exact ⟨_, g9, rfl⟩
  | 10, h => cases h; exact ⟨_, g10, rfl⟩
  | 11, h => cases h; exact ⟨_, rfl⟩
  | 12, h => cases h; exact ⟨_, rfl⟩
  | 13, h => cases h; exact ⟨_, g13, rfl⟩
  | 14, h => cases h; exact ⟨_, rfl⟩
  | 15, h => cases h; exact ⟨_, rfl⟩
  | i + 16, h => simp [wantL] at h
theorem condI {b : Bool} {A B : Prop} (hb : b = true) (h : A) : cond b A B := by rw [hb]; exact h
theorem condE {b : Bool} {A B : Prop} (hb : b = false) (h : B) : cond b A B := by rw [hb]; exact h
theorem cond2 {b : Bool} {A B : Prop} (h1 : b = true → A) (h2 : b = false → B) : cond b A B := by
  cases b with
  | true => exact h1 rfl
  | false => exact h2 rfl
theorem mkL_of {vs : List V} {S : AS} {k : KV} (h : vs.length ≤ 1000) (hk : k (.lst vs) S) : mkL false vs S k := condI (Nat.ble_eq_true_of_le h) hk
theorem subW_of {v : V} {us : List V} {x : Int} {u : V} {S : AS} {k : KV} (h : seqOf S v = some us) (h0 : 0 ≤ x) (hx : us[x.toNat]? = some u) (h1 : x < 1000) (hk : k u S) : subW v (.int x) S k := by
  unfold subW
  simp only [h, hx, decide_eq_true h0, decide_eq_true h1, cond_true]
  exact hk
theorem cmp_is {a b D1 D2 : Nat} {f1 f2 : Lc} {S : AS} {kb : Bool → AS → Prop} (h1 : getO S a = some (.inst D1 f1)) (h2 : getO S b = some (.inst D2 f2)) (hk : kb (a == b) S) : cmpV .Is (.ref a) (.ref b) S kb := by
  unfold cmpV
  simp only [h1, h2]
  exact hk
theorem seq_ref {S : AS} {r : Nat} {xs : List V} (h : getO S r = some (.lst xs)) : seqOf S (.ref r) = some xs := by
  unfold seqOf
  simp only [h]
noncomputable abbrev sv3 : V := .lst [.ref 1, .ref 2, .ref 3]
noncomputable def St3 (S : AS) : Prop := (∃ f, getO S 1 = some (.inst 106 f)) ∧ (∃ f, getO S 2 = some (.inst 106 f)) ∧ (∃ f, getO S 3 = some (.inst 106 f))
section
variable {C : Nat → List V → AS → KV → Prop} {S : AS} {k : KV} {i r D : Nat} {xs : List V}
theorem isT_of {fs : Lc} {j : Fin 3} (h : getO S i = some (.inst D fs)) (hf : fld (Str.ofString "store") fs = some (.ref (j.val + 1))) (h3 : St3 S) {kk : List V → AS → Prop} (hk : kk [.int (j.val : Int)] S) : isT (.ref i) sv3 [0, 1, 2] S kk := by
  obtain ⟨⟨f1, h1⟩, ⟨f2, h2⟩, ⟨f3, h3⟩⟩ := h3
  refine attrW_of h hf (subW_of (us := [.ref 1, .ref 2, .ref 3]) rfl (by decide) rfl (by decide) ?_)
  have hs : ∃ f, getO S (j.val + 1) = some (.inst 106 f) := by
    match j with
    | 0 => exact ⟨_, h1⟩
    | 1 => exact ⟨_, h2⟩
    | 2 => exact ⟨_, h3⟩
  obtain ⟨fj, hj⟩ := hs
  refine cmp_is hj h1 ?_
  have t1 : ∀ {kk : List V → AS → Prop}, (cond (j.val + 1 == 2) (isT (.ref i) sv3 [2] S fun us S3 => kk (.int 1 :: us) S3) (isT (.ref i) sv3 [2] S kk)) → isT (.ref i) sv3 [1, 2] S kk := fun h' =>
    attrW_of h hf (subW_of (us := [.ref 1, .ref 2, .ref 3]) rfl (by decide) rfl (by decide) (cmp_is hj h2 h'))
  have t2 : ∀ {kk : List V → AS → Prop}, (cond (j.val + 1 == 3) (kk [.int 2] S) (kk [] S)) → isT (.ref i) sv3 [2] S kk := fun h' =>
    attrW_of h hf (subW_of (us := [.ref 1, .ref 2, .ref 3]) rfl (by decide) rfl (by decide) (cmp_is hj h3 h'))
  match j with
  | 0 => exact t1 (kk := fun us S3 => kk (.int 0 :: us) S3) (t2 (kk := fun us S3 => kk (.int 0 :: us) S3) hk)
  | 1 => exact t1 (t2 (kk := fun us S3 => kk (.int 1 :: us) S3) hk)
  | 2 => exact t1 (t2 hk)
theorem L_told (h : getO S i = some (optO xs)) (hx : KL 17 rKd xs) (h3 : St3 S) (hk : k (.lst xs) S) : callB C 220 [.ref i, sv3] S k := by
  rw [q_told]
  refine ⟨rfl, ?_⟩
  have hl : (xs.map fv1).length = rNames.length := by rw [List.length_map, hx.1]; rfl
  obtain ⟨v0, e0, _⟩ := hx.get (g := 0) (by decide)
  obtain ⟨v1, e1, j, ej⟩ := hx.get (g := 1) (by decide)
  subst ej
  have es : xs = v0 :: .lst [.int (j.val : Int)] :: xs.drop 2 := by
    rcases xs with _ | ⟨a, _ | ⟨b, r⟩⟩
    · simp at e0
    · simp at e1
    · simp only [List.getElem?_cons_zero, Option.some.injEq] at e0
      simp only [List.getElem?_cons_succ, List.getElem?_cons_zero, Option.some.injEq] at e1
      rw [e0, e1]; rfl
  have hint : ∃ n, v0 = .int n := by
    obtain ⟨n, _, e⟩ := hx.2 0 v0 e0
    exact ⟨n, e⟩
  obtain ⟨n0, rfl⟩ := hint
  refine attrW_of h (u := .int n0) ((fld_zip (g := 0) rNames_nd rfl hl).trans (by rw [List.getElem?_map, e0]; rfl)) ?_
  refine isT_of (j := j) h ((fld_zip (g := 1) rNames_nd rfl hl).trans (by rw [List.getElem?_map, e1]; rfl)) h3 (mkL_of (by simp) ?_)
  refine attrs_zip 2 h rNames_nd hl ?_
  have ed : (xs.map fv1).drop 2 = xs.drop 2 := by
    rw [← List.map_drop]
    refine (List.map_congr_left fun v hv => ?_).trans (List.map_id _)
    obtain ⟨g, hg⟩ := List.mem_iff_getElem?.mp hv
    rw [List.getElem?_drop] at hg
    have hh := hx.2 _ v hg
    have : ¬ (2 + g = 1) := by omega
    unfold rKd at hh
    rw [if_neg this] at hh
    split at hh
    · obtain ⟨ts, _, rfl⟩ := hh; rfl
    · split at hh
      · obtain ⟨b, rfl⟩ := hh; rfl
      · obtain ⟨n, _, rfl⟩ := hh; rfl
  rw [ed, ← es]
  exact hk
theorem L_shown (h : getO S i = some (cfgO xs)) (hl : xs.length = 16) (hk : k (.lst xs) S) : callB C 227 [.ref i] S k := by
  rw [q_shown]
  refine ⟨rfl, ?_⟩
  exact attrs_zip 0 h cNames_nd (by rw [hl]; rfl) hk
theorem L_sizes {fs : Lc} {us : List V} (h : getO S i = some (.inst D fs)) (hf : fs = oNames.zip us) (hl : us.length = 21) (hk : k (.lst us) S) : callB C 215 [.ref i] S k := by
  rw [q_sizes]
  refine ⟨rfl, ?_⟩
  subst hf
  exact attrs_zip 0 h (by decide +kernel) (by rw [hl]; rfl) hk
noncomputable def mkC (d : RowD) (nid : Int) (st : V) (ap : Int) : CfgD := ⟨nid, d.a2, d.a3, st, d.ts, ap, d.a8, d.a8, d.a16, d.a9, 18446744073709551615, d.b6, d.b5, d.a7, false, true⟩
theorem L_wanted {d : RowD} {nid ap : Int} {st : V} (h : getO S r = some (.lst (rowL d))) (hk : k (.ref S.length) (S ++ [.lst (wantL (mkC d nid st ap))])) : callB C 234 [.ref r, .int nid, st, .int ap] S k := by
  rw [q_wanted]
  refine ⟨rfl, ?_⟩
  iterate 10 refine subW_of (seq_ref h) (by decide) rfl (by decide) ?_
  exact hk
theorem dats_bools : ∀ {us : List V}, (∀ v ∈ us, isB v = true) → ∃ ds, dats0 us = some ds ∧ PyData.canLayAll0 ds = true ∧ PyData.depthAll ds = 0 ∧ PyData.eqvAll ds ds = true := fun {us} h => by
  induction us with
  | nil => exact ⟨[], rfl, rfl, rfl, rfl⟩
  | cons v r ih =>
    obtain ⟨ds, e1, e2, e3, e4⟩ := ih fun u hu => h u (.tail _ hu)
    have hv := h v (.head _)
    cases v with
    | bool b => exact ⟨.bool b :: ds, by simp [dats0, dat0, e1], by simp [PyData.canLayAll0, PyData.canLay0, e2], by simp [PyData.depthAll, PyData.depth, e3], by simp [PyData.eqvAll, PyData.eqv, e4]⟩
    | _ => exact Bool.noConfusion hv
theorem compW_isi : ∀ {us : List V} {S : AS} {kk : List V → AS → Prop}, (∀ v ∈ us, isDat v = true) → kk (us.map fun u => .bool (isB u)) S → compW isiW us S kk
  | [], S, kk, _, hk => hk
  | v :: r, S, kk, h, hk => by
    show isiW v S fun u S' => compW isiW r S' fun us S'' => kk (u :: us) S''
    show cond (isDat v) _ False
    exact condI (h v (.head _)) (compW_isi (fun u hu => h u (.tail _ hu)) hk)
theorem cmp_bools {us : List V} {kb : Bool → AS → Prop} (h : ∀ v ∈ us, isB v = true) (hk : kb true S) : cmpV .Eq (.lst us) (.lst us) S kb := by
  obtain ⟨ds, g1, g2, g3, g4⟩ := dats_bools h
  have hs : SeqAt.shaped (.list ds) = true := Bool.and_eq_true_iff.mpr ⟨by simp only [PyData.canLay0, g2], decide_eq_true (by simp only [PyData.depth]; omega)⟩
  show match dat S (.lst us), dat S (.lst us) with
    | some x, some y => SeqAt.shaped x = true ∧ SeqAt.shaped y = true ∧ kb (PyData.eqv x y) S
    | _, _ => False
  have e : dat S (.lst us) = some (.list ds) := by simp [dat, dat0, g1]
  rw [e]
  exact ⟨hs, hs, by simp only [PyData.eqv, g4]; exact hk⟩
theorem isB_map {xs : List V} : ∀ v ∈ xs.map (fun u => V.bool (isB u)), isB v = true := fun v hv => by
  obtain ⟨u, _, rfl⟩ := List.mem_map.mp hv
  rfl
theorem L_sameL (h : ∀ v ∈ xs, PlV v) (hl : xs.length ≤ 1000) (hk : k (.bool true) S) : callB C 239 [.lst xs, .lst xs] S k := by
  rw [q_sameL]
  refine ⟨rfl, ?_⟩
  refine cmp_pl h (a := .lst xs) (b := .lst xs) (by simp [dat, dat0]) (by simp [dat, dat0]) (fun _ e => V.noConfusion e) ?_
  refine condI rfl (condI (Nat.ble_eq_true_of_le hl) (compW_isi (fun v hv => (h v hv).1) (mkL_of (by simpa using hl) (condI (Nat.ble_eq_true_of_le hl) (compW_isi (fun v hv => (h v hv).1) (mkL_of (by simpa using hl) ?_))))))
  exact cmp_bools isB_map hk
theorem L_sameR {j : Nat} (hj : getO S j = some (.lst xs)) (h : ∀ v ∈ xs, PlV v) (hl : xs.length ≤ 1000) (hk : k (.bool true) S) : callB C 239 [.lst xs, .ref j] S k := by
  rw [q_sameR]
  refine ⟨rfl, ?_⟩
  refine cmp_pl h (a := .lst xs) (b := .ref j) (by simp [dat, dat0]) (by simp [dat, hj]) (fun _ e => V.noConfusion e) ?_
  refine condI rfl (condI (Nat.ble_eq_true_of_le hl) (compW_isi (fun v hv => (h v hv).1) (mkL_of (by simpa using hl) ?_)))
  simp only [hj]
  refine condI (Nat.ble_eq_true_of_le hl) (condI (List.all_eq_true.mpr fun v hv => (h v hv).1) (mkL_of (by simpa using hl) ?_))
  exact cmp_bools isB_map hk
end

noncomputable def NumsOk (N : V) : Prop := ∃ ns : List Int, N = .lst (ns.map .int) ∧ 0 < ns.length ∧ ns.length ≤ 24 ∧ ∀ n ∈ ns, 0 ≤ n ∧ n < 999983
theorem len_lst {us : List V} {S : AS} {k : KV} (h : us.length ≤ 1000) (hk : k (.int us.length) S) : bcal .len [.lst us] S k := condI (Nat.ble_eq_true_of_le h) hk
theorem len_tup {us : List V} {S : AS} {k : KV} (h : us.length ≤ 1000) (hk : k (.int us.length) S) : bcal .len [.tup us] S k := condI (Nat.ble_eq_true_of_le h) hk
theorem bin_mod {x y : Int} {S : AS} {k : KV} (h : y ≠ 0) (hk : k (.int (x.fmod y)) S) : binV false .Mod (.int x) (.int y) S k := condE (by simpa using h) hk
theorem pylong_small {x y : Int} (h : y.natAbs < 2 ^ 64) : Builtin.divisionGoesByPylong x y = false := by
  unfold Builtin.divisionGoesByPylong
  have : (if (y == 0) = true then 0 else y.natAbs.log2 / 30 + 1) ≤ 300 := by
    split
    · omega
    · rename_i h0
      have h0' : y.natAbs ≠ 0 := by simpa using h0
      have := (Nat.log2_lt h0').mpr h
      omega
  have e : decide ((if (y == 0) = true then 0 else y.natAbs.log2 / 30 + 1) > 300) = false := decide_eq_false (by omega)
  simp only [e, Bool.false_and]
theorem bin_fdiv {x y : Int} {S : AS} {k : KV} (h : y ≠ 0) (hs : y.natAbs < 2 ^ 64) (hk : k (.int (x.fdiv y)) S) : binV false .FloorDiv (.int x) (.int y) S k := condE (by rw [pylong_small hs, Bool.or_false]; simpa using h) hk
theorem fmod_b (x : Int) {y : Int} (h : 0 < y) : 0 ≤ x.fmod y ∧ x.fmod y < y := by
  rw [Int.fmod_eq_emod_of_nonneg x (by omega)]
  exact ⟨Int.emod_nonneg x (by omega), Int.emod_lt_of_pos x h⟩
theorem fdiv_b {x y : Int} (h : 0 < y) (hx : 0 ≤ x) : 0 ≤ x.fdiv y ∧ x.fdiv y ≤ x := by
  rw [Int.fdiv_eq_ediv_of_nonneg x (by omega)]
  exact ⟨Int.ediv_nonneg hx (by omega), Int.ediv_le_self y hx⟩
section
variable {C : Nat → List V → AS → KV → Prop} {S : AS} {k : KV} {i r D : Nat} {xs : List V}
theorem L_draw {N : V} {i : Int} (hN : NumsOk N) (h0 : 0 ≤ i) (h1 : i < 100) (hk : ∀ y, 0 ≤ y → y < 2000000 → k (.int y) S) : callB C 194 [N, .int i] S k := by
  obtain ⟨ns, rfl, hp, hl, hb⟩ := hN
  rw [q_draw]
  refine ⟨rfl, ?_⟩
  have hlen : (ns.map V.int).length = ns.length := List.length_map _
  refine len_lst (by omega) ?_
  have hm := fmod_b i (y := ((ns.map V.int).length : Int)) (by omega)
  have hd := fdiv_b (y := ((ns.map V.int).length : Int)) (by omega) h0
  refine bin_mod (by omega) ?_
  have hlt : (i.fmod ((ns.map V.int).length : Int)).toNat < ns.length := by omega
  refine subW_of (us := ns.map V.int) (u := .int (ns[(i.fmod ((ns.map V.int).length : Int)).toNat]'hlt)) rfl hm.1 (by rw [List.getElem?_map, List.getElem?_eq_getElem hlt]; rfl) (by omega) ?_
  have hn := hb _ (List.getElem_mem hlt)
  refine len_lst (by omega) (bin_fdiv (by omega) (by omega) ?_)
  refine hk _ ?_ ?_
  · have : 0 ≤ 7919 * (i.fdiv ((ns.map V.int).length : Int)) := by omega
    omega
  · omega
theorem put_fin {x : PySem.Str} {g : Nat} {u v : V} (h : getO S i = some (optO xs)) (hl : xs.length = 17) (hg : rNames[g]? = some x) (hu : fv1 v = u) (hk : k .none (putO S i (optO (xs.set g v)))) : stF x (.ref i) u S (fun S' => k .none S') := by
  have hll : (xs.map fv1).length = rNames.length := by rw [List.length_map, hl]; rfl
  have hlt : g < rNames.length := (List.getElem?_eq_some_iff.mp hg).1
  refine stF_of h ?_ ?_
  · have e1 : (fld x (rNames.zip (xs.map fv1))).isSome = true := by
      rw [fld_zip rNames_nd hg hll, List.getElem?_eq_getElem (by rw [hll]; exact hlt)]
      rfl
    have e2 : Nat.ble (rNames.zip (xs.map fv1)).length 100 = true := by
      rw [List.length_zip, hll, Nat.min_self]
      rfl
    rw [e1, e2]
    rfl
  · rw [setF_zip rNames_nd hg hll, ← hu, ← List.map_set]
    exact hk
theorem set_fin {x : PySem.Str} {g : Nat} {v : V} (h : getO S i = some (cfgO xs)) (hl : xs.length = 16) (hg : cNames[g]? = some x) (hk : k .none (putO S i (cfgO (xs.set g v)))) : stF x (.ref i) v S (fun S' => k .none S') := by
  have hll : xs.length = cNames.length := by rw [hl]; rfl
  have hlt : g < cNames.length := (List.getElem?_eq_some_iff.mp hg).1
  refine stF_of h ?_ ?_
  · have e1 : (fld x (cNames.zip xs)).isSome = true := by
      rw [fld_zip cNames_nd hg hll, List.getElem?_eq_getElem (by rw [hll]; exact hlt)]
      rfl
    have e2 : Nat.ble (cNames.zip xs).length 100 = true := by
      rw [List.length_zip, hll, Nat.min_self]
      rfl
    rw [e1, e2]
    rfl
  · rw [setF_zip cNames_nd hg hll]
    exact hk
theorem L_put {f : Int} {v : V} (h : getO S i = some (optO xs)) (hl : xs.length = 17) (h0 : 0 ≤ f) (h1 : f < 17) (hv : HasK (rKd f.toNat) v) (hk : k .none (putO S i (optO (xs.set f.toNat v)))) : callB C 251 [.ref i, .int f, v, sv3] S k := by
  rw [q_put]
  refine ⟨rfl, ?_⟩
  have hf : f = 0 ∨ f = 1 ∨ f = 2 ∨ f = 3 ∨ f = 4 ∨ f = 5 ∨ f = 6 ∨ f = 7 ∨ f = 8 ∨ f = 9 ∨ f = 10 ∨ f = 11 ∨ f = 12 ∨ f = 13 ∨ f = 14 ∨ f = 15 ∨ f = 16 := by omega
  rcases hf with rfl | rfl | rfl | rfl | rfl | rfl | rfl | rfl | rfl | rfl | rfl | rfl | rfl | rfl | rfl | rfl | rfl
  · obtain ⟨n, _, rfl⟩ := hv; exact put_fin (g := 0) h hl rfl rfl hk
  · obtain ⟨j, rfl⟩ := hv
    refine condI rfl (condE rfl (condI rfl ?_))
    refine subW_of (x := 0) (us := [.int (j.val : Int)]) (u := .int (j.val : Int)) rfl (by decide) rfl (by decide) ?_
    refine subW_of (us := [.ref 1, .ref 2, .ref 3]) (u := .ref (j.val + 1)) rfl (by omega) (by match j with | 0 => rfl | 1 => rfl | 2 => rfl) (by have := j.isLt; omega) ?_
    exact put_fin (g := 1) (v := .lst [.int (j.val : Int)]) h hl rfl rfl hk
  · obtain ⟨n, _, rfl⟩ := hv; exact put_fin (g := 2) h hl rfl rfl hk
  · obtain ⟨n, _, rfl⟩ := hv; exact put_fin (g := 3) h hl rfl rfl hk
  · obtain ⟨n, _, rfl⟩ := hv; exact put_fin (g := 4) h hl rfl rfl hk
  · obtain ⟨n, rfl⟩ := hv; exact put_fin (g := 5) h hl rfl rfl hk
  · obtain ⟨n, rfl⟩ := hv; exact put_fin (g := 6) h hl rfl rfl hk
  · obtain ⟨n, _, rfl⟩ := hv; exact put_fin (g := 7) h hl rfl rfl hk
  · obtain ⟨n, _, rfl⟩ := hv; exact put_fin (g := 8) h hl rfl rfl hk
  · obtain ⟨n, _, rfl⟩ := hv; exact put_fin (g := 9) h hl rfl rfl hk
  · obtain ⟨n, _, rfl⟩ := hv; exact put_fin (g := 10) h hl rfl rfl hk
  · obtain ⟨n, _, rfl⟩ := hv; exact put_fin (g := 11) h hl rfl rfl hk
  · obtain ⟨n, _, rfl⟩ := hv; exact put_fin (g := 12) h hl rfl rfl hk
  · obtain ⟨n, _, rfl⟩ := hv; exact put_fin (g := 13) h hl rfl rfl hk
  · obtain ⟨n, _, rfl⟩ := hv; exact put_fin (g := 14) h hl rfl rfl hk
  · obtain ⟨n, _, rfl⟩ := hv; exact put_fin (g := 15) h hl rfl rfl hk
  · obtain ⟨n, _, rfl⟩ := hv; exact put_fin (g := 16) h hl rfl rfl hk
theorem L_set {f : Int} {v : V} (h : getO S i = some (cfgO xs)) (hl : xs.length = 16) (h0 : 0 ≤ f) (h1 : f < 16) (hk : k .none (putO S i (cfgO (xs.set f.toNat v)))) : callB C 258 [.ref i, .int f, v] S k := by
  rw [q_set]
  refine ⟨rfl, ?_⟩
  have hf : f = 0 ∨ f = 1 ∨ f = 2 ∨ f = 3 ∨ f = 4 ∨ f = 5 ∨ f = 6 ∨ f = 7 ∨ f = 8 ∨ f = 9 ∨ f = 10 ∨ f = 11 ∨ f = 12 ∨ f = 13 ∨ f = 14 ∨ f = 15 := by omega
  rcases hf with rfl | rfl | rfl | rfl | rfl | rfl | rfl | rfl | rfl | rfl | rfl | rfl | rfl | rfl | rfl | rfl
  · exact set_fin (g := 0) h hl rfl hk
  · exact set_fin (g := 1) h hl rfl hk
  · exact set_fin (g := 2) h hl rfl hk
  · exact set_fin (g := 3) h hl rfl hk
  · exact set_fin (g := 4) h hl rfl hk
  · exact set_fin (g := 5) h hl rfl hk
  · exact set_fin (g := 6) h hl rfl hk
  · exact set_fin (g := 7) h hl rfl hk
  · exact set_fin (g := 8) h hl rfl hk
  · exact set_fin (g := 9) h hl rfl hk
  · exact set_fin (g := 10) h hl rfl hk
  · exact set_fin (g := 11) h hl rfl hk
  · exact set_fin (g := 12) h hl rfl hk
  · exact set_fin (g := 13) h hl rfl hk
  · exact set_fin (g := 14) h hl rfl hk
  · exact set_fin (g := 15) h hl rfl hk
theorem subW_all {us : List V} {x : Int} (h : ∀ u ∈ us, k u S) (h0 : 0 ≤ x) (h1 : x < us.length) (hz : us.length ≤ 1000) : subW (.lst us) (.int x) S k := by
  have hlt : x.toNat < us.length := by omega
  exact subW_of (us := us) rfl h0 (List.getElem?_eq_getElem hlt) (by omega) (h _ (List.getElem_mem hlt))
theorem all_cons {p : V → Prop} {v : V} {r : List V} (h : p v) (hr : ∀ u ∈ r, p u) : ∀ u ∈ v :: r, p u := fun u hu => by
  rcases List.mem_cons.mp hu with rfl | hu
  · exact h
  · exact hr u hu
theorem all_nil {p : V → Prop} : ∀ u ∈ ([] : List V), p u := fun u hu => by cases hu
theorem numS_of {n : Int} (h1 : -1180591620717411303424 < n) (h2 : n < 1180591620717411303424) : numS n = true := by
  simp only [numS, Bool.and_eq_true, decide_eq_true_eq]
  exact ⟨h1, h2⟩
theorem num_of {n : Int} (h1 : -1208925819614629174706176 < n) (h2 : n < 1208925819614629174706176) : num3 n = true := by
  simp only [num3, Bool.and_eq_true, decide_eq_true_eq]
  exact ⟨h1, h2⟩
theorem L_other {f z : Int} (h0 : 0 ≤ f) (h1 : f < 17) (hz : 0 ≤ z) (hz1 : z < 1099511627776) (hk : ∀ v, HasK (rKd f.toNat) v → k v S) : callB C 265 [.int f, .int z] S k := by
  rw [q_other]
  refine ⟨rfl, ?_⟩
  have m2 := fmod_b z (y := 2) (by decide)
  have m3 := fmod_b z (y := 3) (by decide)
  have hf : f = 0 ∨ f = 1 ∨ f = 2 ∨ f = 3 ∨ f = 4 ∨ f = 5 ∨ f = 6 ∨ f = 7 ∨ f = 8 ∨ f = 9 ∨ f = 10 ∨ f = 11 ∨ f = 12 ∨ f = 13 ∨ f = 14 ∨ f = 15 ∨ f = 16 := by omega
  rcases hf with rfl | rfl | rfl | rfl | rfl | rfl | rfl | rfl | rfl | rfl | rfl | rfl | rfl | rfl | rfl | rfl | rfl
  · exact hk _ ⟨_, rfl, rfl⟩
  · have e : z.fmod 2 = 0 ∨ z.fmod 2 = 1 := by omega
    show k (.lst [.int (1 + z.fmod 2)]) S
    rcases e with e | e <;> rw [e]
    · exact hk _ ⟨1, rfl⟩
    · exact hk _ ⟨2, rfl⟩
  · exact hk _ ⟨_, numS_of (by omega) (by omega), rfl⟩
  · exact hk _ ⟨_, numS_of (by omega) (by omega), rfl⟩
  · exact hk _ ⟨[5 + z.fmod 3, z.fmod 7 - 3, 9], Nat.le_of_ble_eq_true rfl, rfl⟩
  · exact hk _ ⟨_, rfl⟩
  · exact hk _ ⟨_, rfl⟩
  · exact hk _ ⟨_, rfl, rfl⟩
  · exact hk _ ⟨_, numS_of (by omega) (by omega), rfl⟩
  · exact hk _ ⟨_, numS_of (by omega) (by omega), rfl⟩
  · exact hk _ ⟨_, numS_of (by omega) (by omega), rfl⟩
  · exact hk _ ⟨_, numS_of (by omega) (by omega), rfl⟩
  · exact hk _ ⟨_, numS_of (by omega) (by omega), rfl⟩
  · exact hk _ ⟨_, numS_of (by omega) (by omega), rfl⟩
  · exact hk _ ⟨_, numS_of (by omega) (by omega), rfl⟩
  · exact hk _ ⟨_, numS_of (by omega) (by omega), rfl⟩
  · show cond (z.fmod 5 == 4) _ _
    exact cond2 (fun _ => hk _ ⟨_, rfl, rfl⟩) fun _ => hk _ ⟨_, numS_of (by omega) (by omega), rfl⟩
theorem L_value {f z : Int} (h0 : 0 ≤ f) (h1 : f < 17) (hz : 0 ≤ z) (hz1 : z < 1099511627776) (hk : ∀ v, HasK (rKd f.toNat) v → k v S) : callB C 272 [.int f, .int z] S k := by
  rw [q_value]
  refine ⟨rfl, ?_⟩
  have m3 := fmod_b z (y := 3) (by decide)
  have m6 := fmod_b z (y := 6) (by decide)
  have hf : f = 0 ∨ f = 1 ∨ f = 2 ∨ f = 3 ∨ f = 4 ∨ f = 5 ∨ f = 6 ∨ f = 7 ∨ f = 8 ∨ f = 9 ∨ f = 10 ∨ f = 11 ∨ f = 12 ∨ f = 13 ∨ f = 14 ∨ f = 15 ∨ f = 16 := by omega
  rcases hf with rfl | rfl | rfl | rfl | rfl | rfl | rfl | rfl | rfl | rfl | rfl | rfl | rfl | rfl | rfl | rfl | rfl
  · exact subW_all (all_cons (hk _ ⟨_, rfl, rfl⟩) (all_cons (hk _ ⟨_, rfl, rfl⟩) (all_cons (hk _ ⟨_, rfl, rfl⟩) (all_cons (hk _ ⟨_, rfl, rfl⟩) (all_cons (hk _ ⟨_, rfl, rfl⟩) (all_cons (hk _ ⟨_, rfl, rfl⟩) (all_nil))))))) m6.1 m6.2 (Nat.le_of_ble_eq_true rfl)
  · have e : z.fmod 3 = 0 ∨ z.fmod 3 = 1 ∨ z.fmod 3 = 2 := by omega
    show k (.lst [.int (z.fmod 3)]) S
    rcases e with e | e | e <;> rw [e]
    · exact hk _ ⟨0, rfl⟩
    · exact hk _ ⟨1, rfl⟩
    · exact hk _ ⟨2, rfl⟩
  · exact subW_all (all_cons (hk _ ⟨_, numS_of (by omega) (by omega), rfl⟩) (all_cons (hk _ ⟨_, rfl, rfl⟩) (all_cons (hk _ ⟨_, rfl, rfl⟩) (all_cons (hk _ ⟨_, rfl, rfl⟩) (all_cons (hk _ ⟨_, rfl, rfl⟩) (all_cons (hk _ ⟨_, rfl, rfl⟩) (all_nil))))))) m6.1 m6.2 (Nat.le_of_ble_eq_true rfl)
  · exact subW_all (all_cons (hk _ ⟨_, rfl, rfl⟩) (all_cons (hk _ ⟨_, rfl, rfl⟩) (all_cons (hk _ ⟨_, rfl, rfl⟩) (all_cons (hk _ ⟨_, rfl, rfl⟩) (all_cons (hk _ ⟨_, rfl, rfl⟩) (all_cons (hk _ ⟨_, rfl, rfl⟩) (all_nil))))))) m6.1 m6.2 (Nat.le_of_ble_eq_true rfl)
  · exact subW_all (all_cons (hk _ ⟨[0], Nat.le_of_ble_eq_true rfl, rfl⟩) (all_cons (hk _ ⟨[z, -3], Nat.le_of_ble_eq_true rfl, rfl⟩) (all_cons (hk _ ⟨[5, z, 1099511627776], Nat.le_of_ble_eq_true rfl, rfl⟩) (all_cons (hk _ ⟨[0 - z], Nat.le_of_ble_eq_true rfl, rfl⟩) (all_cons (hk _ ⟨[], Nat.le_of_ble_eq_true rfl, rfl⟩) (all_cons (hk _ ⟨[1, 1], Nat.le_of_ble_eq_true rfl, rfl⟩) (all_nil))))))) m6.1 m6.2 (Nat.le_of_ble_eq_true rfl)
  · exact hk _ ⟨_, rfl⟩
  · exact hk _ ⟨_, rfl⟩
  · exact subW_all (all_cons (hk _ ⟨_, rfl, rfl⟩) (all_cons (hk _ ⟨_, rfl, rfl⟩) (all_cons (hk _ ⟨_, rfl, rfl⟩) (all_cons (hk _ ⟨_, rfl, rfl⟩) (all_cons (hk _ ⟨_, rfl, rfl⟩) (all_cons (hk _ ⟨_, rfl, rfl⟩) (all_nil))))))) m6.1 m6.2 (Nat.le_of_ble_eq_true rfl)
  · exact subW_all (all_cons (hk _ ⟨_, numS_of (by omega) (by omega), rfl⟩) (all_cons (hk _ ⟨_, rfl, rfl⟩) (all_cons (hk _ ⟨_, rfl, rfl⟩) (all_cons (hk _ ⟨_, rfl, rfl⟩) (all_cons (hk _ ⟨_, rfl, rfl⟩) (all_cons (hk _ ⟨_, rfl, rfl⟩) (all_nil))))))) m6.1 m6.2 (Nat.le_of_ble_eq_true rfl)
  · exact subW_all (all_cons (hk _ ⟨_, numS_of (by omega) (by omega), rfl⟩) (all_cons (hk _ ⟨_, rfl, rfl⟩) (all_cons (hk _ ⟨_, rfl, rfl⟩) (all_cons (hk _ ⟨_, rfl, rfl⟩) (all_cons (hk _ ⟨_, rfl, rfl⟩) (all_cons (hk _ ⟨_, rfl, rfl⟩) (all_nil))))))) m6.1 m6.2 (Nat.le_of_ble_eq_true rfl)
  · exact subW_all (all_cons (hk _ ⟨_, numS_of (by omega) (by omega), rfl⟩) (all_cons (hk _ ⟨_, rfl, rfl⟩) (all_cons (hk _ ⟨_, rfl, rfl⟩) (all_cons (hk _ ⟨_, rfl, rfl⟩) (all_cons (hk _ ⟨_, rfl, rfl⟩) (all_cons (hk _ ⟨_, rfl, rfl⟩) (all_nil))))))) m6.1 m6.2 (Nat.le_of_ble_eq_true rfl)
  · exact subW_all (all_cons (hk _ ⟨_, numS_of (by omega) (by omega), rfl⟩) (all_cons (hk _ ⟨_, rfl, rfl⟩) (all_cons (hk _ ⟨_, rfl, rfl⟩) (all_cons (hk _ ⟨_, rfl, rfl⟩) (all_cons (hk _ ⟨_, rfl, rfl⟩) (all_cons (hk _ ⟨_, rfl, rfl⟩) (all_nil))))))) m6.1 m6.2 (Nat.le_of_ble_eq_true rfl)
  · exact subW_all (all_cons (hk _ ⟨_, numS_of (by omega) (by omega), rfl⟩) (all_cons (hk _ ⟨_, rfl, rfl⟩) (all_cons (hk _ ⟨_, rfl, rfl⟩) (all_cons (hk _ ⟨_, rfl, rfl⟩) (all_cons (hk _ ⟨_, rfl, rfl⟩) (all_cons (hk _ ⟨_, rfl, rfl⟩) (all_nil))))))) m6.1 m6.2 (Nat.le_of_ble_eq_true rfl)
  · exact subW_all (all_cons (hk _ ⟨_, numS_of (by omega) (by omega), rfl⟩) (all_cons (hk _ ⟨_, rfl, rfl⟩) (all_cons (hk _ ⟨_, rfl, rfl⟩) (all_cons (hk _ ⟨_, rfl, rfl⟩) (all_cons (hk _ ⟨_, rfl, rfl⟩) (all_cons (hk _ ⟨_, rfl, rfl⟩) (all_nil))))))) m6.1 m6.2 (Nat.le_of_ble_eq_true rfl)
  · exact subW_all (all_cons (hk _ ⟨_, numS_of (by omega) (by omega), rfl⟩) (all_cons (hk _ ⟨_, rfl, rfl⟩) (all_cons (hk _ ⟨_, rfl, rfl⟩) (all_cons (hk _ ⟨_, rfl, rfl⟩) (all_cons (hk _ ⟨_, rfl, rfl⟩) (all_cons (hk _ ⟨_, rfl, rfl⟩) (all_nil))))))) m6.1 m6.2 (Nat.le_of_ble_eq_true rfl)
  · exact subW_all (all_cons (hk _ ⟨_, numS_of (by omega) (by omega), rfl⟩) (all_cons (hk _ ⟨_, rfl, rfl⟩) (all_cons (hk _ ⟨_, rfl, rfl⟩) (all_cons (hk _ ⟨_, rfl, rfl⟩) (all_cons (hk _ ⟨_, rfl, rfl⟩) (all_cons (hk _ ⟨_, rfl, rfl⟩) (all_nil))))))) m6.1 m6.2 (Nat.le_of_ble_eq_true rfl)
  · exact subW_all (all_cons (hk _ ⟨_, numS_of (by omega) (by omega), rfl⟩) (all_cons (hk _ ⟨_, rfl, rfl⟩) (all_cons (hk _ ⟨_, rfl, rfl⟩) (all_cons (hk _ ⟨_, rfl, rfl⟩) (all_cons (hk _ ⟨_, rfl, rfl⟩) (all_cons (hk _ ⟨_, rfl, rfl⟩) (all_nil))))))) m6.1 m6.2 (Nat.le_of_ble_eq_true rfl)
theorem L_end {f z : Int} (h0 : 0 ≤ f) (h1 : f < 17) (hz : 0 ≤ z) (hz1 : z < 4) (hk : ∀ v, HasK (rKd f.toNat) v → k v S) : callB C 279 [.int f, .int z] S k := by
  rw [q_end]
  refine ⟨rfl, ?_⟩
  have m3 := fmod_b z (y := 3) (by decide)
  have hf : f = 0 ∨ f = 1 ∨ f = 2 ∨ f = 3 ∨ f = 4 ∨ f = 5 ∨ f = 6 ∨ f = 7 ∨ f = 8 ∨ f = 9 ∨ f = 10 ∨ f = 11 ∨ f = 12 ∨ f = 13 ∨ f = 14 ∨ f = 15 ∨ f = 16 := by omega
  rcases hf with rfl | rfl | rfl | rfl | rfl | rfl | rfl | rfl | rfl | rfl | rfl | rfl | rfl | rfl | rfl | rfl | rfl
  · exact subW_all (all_cons (hk _ ⟨_, rfl, rfl⟩) (all_cons (hk _ ⟨_, rfl, rfl⟩) (all_cons (hk _ ⟨_, rfl, rfl⟩) (all_cons (hk _ ⟨_, rfl, rfl⟩) (all_nil))))) hz hz1 (Nat.le_of_ble_eq_true rfl)
  · have e : z.fmod 3 = 0 ∨ z.fmod 3 = 1 ∨ z.fmod 3 = 2 := by omega
    show k (.lst [.int (z.fmod 3)]) S
    rcases e with e | e | e <;> rw [e]
    · exact hk _ ⟨0, rfl⟩
    · exact hk _ ⟨1, rfl⟩
    · exact hk _ ⟨2, rfl⟩
  · exact subW_all (all_cons (hk _ ⟨_, rfl, rfl⟩) (all_cons (hk _ ⟨_, rfl, rfl⟩) (all_cons (hk _ ⟨_, rfl, rfl⟩) (all_cons (hk _ ⟨_, rfl, rfl⟩) (all_nil))))) hz hz1 (Nat.le_of_ble_eq_true rfl)
  · exact subW_all (all_cons (hk _ ⟨_, rfl, rfl⟩) (all_cons (hk _ ⟨_, rfl, rfl⟩) (all_cons (hk _ ⟨_, rfl, rfl⟩) (all_cons (hk _ ⟨_, rfl, rfl⟩) (all_nil))))) hz hz1 (Nat.le_of_ble_eq_true rfl)
  · exact subW_all (all_cons (hk _ ⟨[], Nat.le_of_ble_eq_true rfl, rfl⟩) (all_cons (hk _ ⟨[0], Nat.le_of_ble_eq_true rfl, rfl⟩) (all_cons (hk _ ⟨[1, 2, 3], Nat.le_of_ble_eq_true rfl, rfl⟩) (all_cons (hk _ ⟨[-9], Nat.le_of_ble_eq_true rfl, rfl⟩) (all_nil))))) hz hz1 (Nat.le_of_ble_eq_true rfl)
  · exact hk _ ⟨_, rfl⟩
  · exact hk _ ⟨_, rfl⟩
  · exact subW_all (all_cons (hk _ ⟨_, rfl, rfl⟩) (all_cons (hk _ ⟨_, rfl, rfl⟩) (all_cons (hk _ ⟨_, rfl, rfl⟩) (all_cons (hk _ ⟨_, rfl, rfl⟩) (all_nil))))) hz hz1 (Nat.le_of_ble_eq_true rfl)
  · exact subW_all (all_cons (hk _ ⟨_, rfl, rfl⟩) (all_cons (hk _ ⟨_, rfl, rfl⟩) (all_cons (hk _ ⟨_, rfl, rfl⟩) (all_cons (hk _ ⟨_, rfl, rfl⟩) (all_nil))))) hz hz1 (Nat.le_of_ble_eq_true rfl)
  · exact subW_all (all_cons (hk _ ⟨_, rfl, rfl⟩) (all_cons (hk _ ⟨_, rfl, rfl⟩) (all_cons (hk _ ⟨_, rfl, rfl⟩) (all_cons (hk _ ⟨_, rfl, rfl⟩) (all_nil))))) hz hz1 (Nat.le_of_ble_eq_true rfl)
  · exact subW_all (all_cons (hk _ ⟨_, rfl, rfl⟩) (all_cons (hk _ ⟨_, rfl, rfl⟩) (all_cons (hk _ ⟨_, rfl, rfl⟩) (all_cons (hk _ ⟨_, rfl, rfl⟩) (all_nil))))) hz hz1 (Nat.le_of_ble_eq_true rfl)
  · exact subW_all (all_cons (hk _ ⟨_, rfl, rfl⟩) (all_cons (hk _ ⟨_, rfl, rfl⟩) (all_cons (hk _ ⟨_, rfl, rfl⟩) (all_cons (hk _ ⟨_, rfl, rfl⟩) (all_nil))))) hz hz1 (Nat.le_of_ble_eq_true rfl)
  · exact subW_all (all_cons (hk _ ⟨_, rfl, rfl⟩) (all_cons (hk _ ⟨_, rfl, rfl⟩) (all_cons (hk _ ⟨_, rfl, rfl⟩) (all_cons (hk _ ⟨_, rfl, rfl⟩) (all_nil))))) hz hz1 (Nat.le_of_ble_eq_true rfl)
  · exact subW_all (all_cons (hk _ ⟨_, rfl, rfl⟩) (all_cons (hk _ ⟨_, rfl, rfl⟩) (all_cons (hk _ ⟨_, rfl, rfl⟩) (all_cons (hk _ ⟨_, rfl, rfl⟩) (all_nil))))) hz hz1 (Nat.le_of_ble_eq_true rfl)
  · exact subW_all (all_cons (hk _ ⟨_, rfl, rfl⟩) (all_cons (hk _ ⟨_, rfl, rfl⟩) (all_cons (hk _ ⟨_, rfl, rfl⟩) (all_cons (hk _ ⟨_, rfl, rfl⟩) (all_nil))))) hz hz1 (Nat.le_of_ble_eq_true rfl)
  · exact subW_all (all_cons (hk _ ⟨_, rfl, rfl⟩) (all_cons (hk _ ⟨_, rfl, rfl⟩) (all_cons (hk _ ⟨_, rfl, rfl⟩) (all_cons (hk _ ⟨_, rfl, rfl⟩) (all_nil))))) hz hz1 (Nat.le_of_ble_eq_true rfl)
  · exact subW_all (all_cons (hk _ ⟨_, rfl, rfl⟩) (all_cons (hk _ ⟨_, rfl, rfl⟩) (all_cons (hk _ ⟨_, rfl, rfl⟩) (all_cons (hk _ ⟨_, rfl, rfl⟩) (all_nil))))) hz hz1 (Nat.le_of_ble_eq_true rfl)
noncomputable def num2b (n : Int) : Prop := -1208925819614629174706170 < n ∧ n < 1208925819614629174706170
theorem L_edge {f z : Int} {c : CfgD} (hr : getO S r = some (.lst (wantL c))) (b1 : num2b c.a1) (b2 : num2b c.a2) (b6 : num2b c.a6) (h0 : 0 ≤ f) (h1 : f < 16) (hz : 0 ≤ z) (hz1 : z < 4) (hk : ∀ v, HasK (cKd f.toNat) v → k v S) : callB C 286 [.int f, .int z, .ref r] S k := by
  rw [q_edge]
  refine ⟨rfl, ?_⟩
  obtain ⟨b1, b1'⟩ := b1
  obtain ⟨b2, b2'⟩ := b2
  obtain ⟨b6, b6'⟩ := b6
  have hf : f = 0 ∨ f = 1 ∨ f = 2 ∨ f = 3 ∨ f = 4 ∨ f = 5 ∨ f = 6 ∨ f = 7 ∨ f = 8 ∨ f = 9 ∨ f = 10 ∨ f = 11 ∨ f = 12 ∨ f = 13 ∨ f = 14 ∨ f = 15 := by omega
  rcases hf with rfl | rfl | rfl | rfl | rfl | rfl | rfl | rfl | rfl | rfl | rfl | rfl | rfl | rfl | rfl | rfl
  · exact subW_all (all_cons (hk _ ⟨_, rfl, rfl⟩) (all_cons (hk _ ⟨_, rfl, rfl⟩) (all_cons (hk _ ⟨_, rfl, rfl⟩) (all_cons (hk _ ⟨_, rfl, rfl⟩) (all_nil))))) hz hz1 (Nat.le_of_ble_eq_true rfl)
  · refine condI rfl ?_
    refine subW_of (seq_ref hr) (by decide) (u := .int c.a2) rfl (by decide) ?_
    exact subW_all (all_cons (hk _ ⟨_, num_of (by omega) (by omega), rfl⟩) (all_cons (hk _ ⟨_, num_of (by omega) (by omega), rfl⟩) (all_cons (hk _ ⟨_, num_of (by omega) (by omega), rfl⟩) (all_cons (hk _ ⟨_, num_of (by omega) (by omega), rfl⟩) (all_nil))))) hz hz1 (Nat.le_of_ble_eq_true rfl)
  · refine condE rfl (condI rfl ?_)
    refine subW_of (seq_ref hr) (by decide) (u := .int c.a1) rfl (by decide) (subW_of (seq_ref hr) (by decide) (u := .int c.a1) rfl (by decide) ?_)
    exact subW_all (all_cons (hk _ ⟨_, rfl, rfl⟩) (all_cons (hk _ ⟨_, rfl, rfl⟩) (all_cons (hk _ ⟨_, num_of (by omega) (by omega), rfl⟩) (all_cons (hk _ ⟨_, num_of (by omega) (by omega), rfl⟩) (all_nil))))) hz hz1 (Nat.le_of_ble_eq_true rfl)
  · exact subW_all (all_cons (hk _ (.inl rfl)) (all_cons (hk _ (.inr ⟨_, rfl⟩)) (all_cons (hk _ (.inr ⟨_, rfl⟩)) (all_cons (hk _ (.inl rfl)) all_nil)))) hz hz1 (Nat.le_of_ble_eq_true rfl)
  · exact subW_all (all_cons (hk _ ⟨[], Nat.le_of_ble_eq_true rfl, rfl⟩) (all_cons (hk _ ⟨[0], Nat.le_of_ble_eq_true rfl, rfl⟩) (all_cons (hk _ ⟨[7, -1, 1099511627776], Nat.le_of_ble_eq_true rfl, rfl⟩) (all_cons (hk _ ⟨[], Nat.le_of_ble_eq_true rfl, rfl⟩) (all_nil))))) hz hz1 (Nat.le_of_ble_eq_true rfl)
  · exact subW_all (all_cons (hk _ ⟨_, rfl, rfl⟩) (all_cons (hk _ ⟨_, rfl, rfl⟩) (all_cons (hk _ ⟨_, rfl, rfl⟩) (all_cons (hk _ ⟨_, rfl, rfl⟩) (all_nil))))) hz hz1 (Nat.le_of_ble_eq_true rfl)
  · exact subW_all (all_cons (hk _ ⟨_, rfl, rfl⟩) (all_cons (hk _ ⟨_, rfl, rfl⟩) (all_cons (hk _ ⟨_, rfl, rfl⟩) (all_cons (hk _ ⟨_, rfl, rfl⟩) (all_nil))))) hz hz1 (Nat.le_of_ble_eq_true rfl)
  · refine condE rfl (condE rfl (condE rfl (condE rfl (condE rfl (condI rfl ?_)))))
    refine subW_of (seq_ref hr) (by decide) (u := .int c.a6) rfl (by decide) ?_
    exact subW_all (all_cons (hk _ ⟨_, rfl, rfl⟩) (all_cons (hk _ ⟨_, rfl, rfl⟩) (all_cons (hk _ ⟨_, num_of (by omega) (by omega), rfl⟩) (all_cons (hk _ ⟨_, rfl, rfl⟩) (all_nil))))) hz hz1 (Nat.le_of_ble_eq_true rfl)
  · exact subW_all (all_cons (hk _ ⟨_, rfl, rfl⟩) (all_cons (hk _ ⟨_, rfl, rfl⟩) (all_cons (hk _ ⟨_, rfl, rfl⟩) (all_cons (hk _ ⟨_, rfl, rfl⟩) (all_nil))))) hz hz1 (Nat.le_of_ble_eq_true rfl)
  · exact subW_all (all_cons (hk _ ⟨_, rfl, rfl⟩) (all_cons (hk _ ⟨_, rfl, rfl⟩) (all_cons (hk _ ⟨_, rfl, rfl⟩) (all_cons (hk _ ⟨_, rfl, rfl⟩) (all_nil))))) hz hz1 (Nat.le_of_ble_eq_true rfl)
  · refine condE rfl (condE rfl (condE rfl (condE rfl (condE rfl (condE rfl (condI rfl ?_))))))
    refine subW_of (seq_ref hr) (by decide) (u := .int c.a6) rfl (by decide) (subW_of (seq_ref hr) (by decide) (u := .int c.a6) rfl (by decide) ?_)
    exact subW_all (all_cons (hk _ ⟨_, rfl, rfl⟩) (all_cons (hk _ ⟨_, num_of (by omega) (by omega), rfl⟩) (all_cons (hk _ ⟨_, num_of (by omega) (by omega), rfl⟩) (all_cons (hk _ ⟨_, rfl, rfl⟩) (all_nil))))) hz hz1 (Nat.le_of_ble_eq_true rfl)
  · exact hk _ ⟨_, rfl⟩
  · exact hk _ ⟨_, rfl⟩
  · exact subW_all (all_cons (hk _ ⟨_, rfl, rfl⟩) (all_cons (hk _ ⟨_, rfl, rfl⟩) (all_cons (hk _ ⟨_, rfl, rfl⟩) (all_cons (hk _ ⟨_, rfl, rfl⟩) (all_nil))))) hz hz1 (Nat.le_of_ble_eq_true rfl)
  · exact hk _ ⟨_, rfl⟩
  · exact hk _ ⟨_, rfl⟩
end

section
variable {C : Nat → List V → AS → KV → Prop} {S : AS} {k : KV} {i r D : Nat} {xs ys : List V}
theorem L_first (hk : k (.ref S.length) (S ++ [.lst firstL])) : callB C 201 [] S k := by
  rw [q_first]
  exact ⟨rfl, hk⟩
theorem L_small (hk : k (.lst smallL) S) : callB C 208 [] S k := by
  rw [q_small]
  exact ⟨rfl, hk⟩
noncomputable def stopsB (d : RowD) : Bool := !(d.a0 == 1 || d.a0 == 2) || (decide ((if d.a14 < d.a12 then (if d.a15 < d.a14 then d.a15 else d.a14) else (if d.a15 < d.a12 then d.a15 else d.a12)) < 1) || decide (d.a13 < 0))
theorem L_stops {d : RowD} (hk : k (.bool (stopsB d)) S) : callB C 293 [.lst (rowL d)] S k := by
  rw [q_stops]
  refine ⟨rfl, ?_⟩
  refine subW_of (us := rowL d) rfl (by decide) rfl (by decide) ?_
  refine cond2 (fun e => ?_) (fun e => ?_)
  · unfold stopsB at hk
    rw [e, Bool.true_or] at hk
    exact hk
  · unfold stopsB at hk
    rw [e, Bool.false_or] at hk
    refine subW_of (us := rowL d) rfl (by decide) rfl (by decide) (subW_of (us := rowL d) rfl (by decide) rfl (by decide) (subW_of (us := rowL d) rfl (by decide) rfl (by decide) ?_))
    refine cond2 (fun e2 => ?_) (fun e2 => ?_)
    · rw [e2, Bool.true_or] at hk
      exact hk
    · rw [e2, Bool.false_or] at hk
      exact subW_of (us := rowL d) rfl (by decide) rfl (by decide) hk
noncomputable def isN : V → Bool
  | .none => true
  | _ => false
noncomputable def unfitW (way : Int) (c : CfgD) : Bool := [c.a0 == 0, decide (c.a2 < 1), decide (c.a1 ≤ c.a2), isN c.st, c.ts.isEmpty, decide (c.a9 < 1), decide (way < c.a6), !(c.a13 == 0 || c.a13 == 1), (c.a13 == 1 && !c.b11)].any id
noncomputable def unfitB (c : CfgD) : Bool := unfitW (if c.a10 == 0 then 18446744073709551615 else c.a10) c
theorem cmp_tup {ts : List Int} {kb : Bool → AS → Prop} (hk : kb ts.isEmpty S) : cmpV .Eq (.tup (ts.map .int)) (.tup []) S kb := by
  have hd : dat S (.tup (ts.map V.int)) = some (.tuple (ts.map .int)) := by simp [dat, dat0, dats_ints]
  show match dat S (.tup (ts.map V.int)), dat S (.tup []) with
    | some x, some y => SeqAt.shaped x = true ∧ SeqAt.shaped y = true ∧ kb (PyData.eqv x y) S
    | _, _ => False
  rw [hd]
  refine ⟨Bool.and_eq_true_iff.mpr ⟨by simp [PyData.canLay0, canLay_ints], by simp [PyData.depth, depth_ints]⟩, by rfl, ?_⟩
  have e : PyData.eqv (.tuple (ts.map .int)) (.tuple []) = ts.isEmpty := by cases ts <;> simp [PyData.eqv, PyData.eqvAll]
  rw [e]
  exact hk
theorem cmp_none {v : V} {kb : Bool → AS → Prop} (h : v = .none ∨ ∃ n, v = .int n) (hk : kb (isN v) S) : cmpV .Is v .none S kb := by
  rcases h with rfl | ⟨n, rfl⟩
  · exact hk
  · exact hk
theorem c_eq {x y : Int} {kb : Bool → AS → Prop} (h : kb (x == y) S) : cmpV .Eq (.int x) (.int y) S kb := h
theorem c_ne {x y : Int} {kb : Bool → AS → Prop} (h : kb (x != y) S) : cmpV .NotEq (.int x) (.int y) S kb := h
theorem c_lt {x y : Int} {kb : Bool → AS → Prop} (h : kb (decide (x < y)) S) : cmpV .Lt (.int x) (.int y) S kb := h
theorem c_le {x y : Int} {kb : Bool → AS → Prop} (h : kb (decide (x ≤ y)) S) : cmpV .LtE (.int x) (.int y) S kb := h
theorem c_ni {x y z : Int} {kb : Bool → AS → Prop} (h : kb (!(x == y || x == z)) S) : cmpV .NotIn (.int x) (.lst [.int y, .int z]) S kb := h
theorem L_unfitR {c : CfgD} {way : Int} (hst : c.st = .none ∨ ∃ n, c.st = .int n) (hk : k (.bool (unfitW way c)) S) : unfitR (.int way) (.lst (wantL c)) S k := by
  unfold unfitR
  have rd : ∀ {x : Int} {u : V} {K : KV}, 0 ≤ x → (wantL c)[x.toNat]? = some u → x < 1000 → K u S → subW (.lst (wantL c)) (.int x) S K := fun h0 hx h1 h => subW_of (us := wantL c) rfl h0 hx h1 h
  refine rd (by decide) rfl (by decide) (c_eq (rd (by decide) rfl (by decide) (c_lt (rd (by decide) rfl (by decide) (rd (by decide) rfl (by decide) (c_le (rd (by decide) rfl (by decide) (cmp_none hst (rd (by decide) rfl (by decide) (cmp_tup (rd (by decide) rfl (by decide) (c_lt (rd (by decide) rfl (by decide) (c_lt (rd (by decide) rfl (by decide) (c_ni (rd (by decide) rfl (by decide) (c_eq (?_)))))))))))))))))))
  refine cond2 (fun e => ?_) (fun e => ?_)
  · refine rd (by decide) rfl (by decide) ?_
    show k (.bool _) S
    unfold unfitW at hk
    have e9 : (c.a13 == 1 && !c.b11) = !c.b11 := by rw [e, Bool.true_and]
    rw [e9] at hk
    exact hk
  · show k (.bool _) S
    unfold unfitW at hk
    have e9 : (c.a13 == 1 && !c.b11) = false := by rw [e, Bool.false_and]
    rw [e9] at hk
    exact hk
theorem L_unfit {c : CfgD} (hst : c.st = .none ∨ ∃ n, c.st = .int n) (hk : k (.bool (unfitB c)) S) : callB C 300 [.lst (wantL c)] S k := by
  rw [q_unfit]
  refine ⟨rfl, ?_⟩
  refine subW_of (us := wantL c) (u := .int c.a10) rfl (by decide) rfl (by decide) ?_
  unfold unfitB at hk
  refine cond2 (fun e => ?_) (fun e => ?_)
  · rw [if_pos e] at hk
    exact L_unfitR hst hk
  · rw [if_neg (by rw [e]; decide)] at hk
    exact L_unfitR hst hk
noncomputable def plainL (xs : List V) : List V := (cutL none (some 7) xs ++ cutL (some 9) (some 10) xs) ++ cutL (some 11) none xs
theorem cutW_of {lo hi : Option Int} (hl : xs.length ≤ 1000) (h1 : posO lo = true) (h2 : posO hi = true) (hk : k (.lst (cutL lo hi xs)) S) : cutW (.lst xs) lo hi S k :=
  condI (by rw [Nat.ble_eq_true_of_le hl, h1, h2]; rfl) hk
theorem add_lst {us vs : List V} (hl : us.length + vs.length ≤ 1000) (hk : k (.lst (us ++ vs)) S) : binV false .Add (.lst us) (.lst vs) S k := condI (Nat.ble_eq_true_of_le hl) hk
theorem cut_len {lo hi : Option Int} : (cutL lo hi xs).length ≤ xs.length := by
  cases lo <;> cases hi <;> simp only [cutL, List.length_drop, List.length_take] <;> omega
theorem L_plain (hl : xs.length = 16) (hk : k (.lst (plainL xs)) S) : callB C 312 [.lst xs] S k := by
  rw [q_plain]
  refine ⟨rfl, ?_⟩
  have c1 := cut_len (xs := xs) (lo := none) (hi := some 7)
  have c2 := cut_len (xs := xs) (lo := some 9) (hi := some 10)
  have c3 := cut_len (xs := xs) (lo := some 11) (hi := none)
  refine cutW_of (by omega) rfl rfl (cutW_of (by omega) rfl rfl (add_lst (by omega) (cutW_of (by omega) rfl rfl (add_lst ?_ hk))))
  rw [List.length_append]
  omega
-- settled
theorem copyW : ∀ {us : List V} {S : AS} {kk : List V → AS → Prop}, kk us S → compW (fun u S2 k2 => k2 u S2) us S kk
  | [], _, _, h => h
  | v :: r, S, kk, h => copyW (us := r) (kk := fun us S' => kk (v :: us) S') h
theorem stI_of {n : Int} {v : V} {kk : AS → Prop} (h0 : 0 ≤ n) (h1 : n < ys.length) (hz : ys.length ≤ 1000) (hk : kk (S ++ [.lst (ys.set n.toNat v)])) : stI (.ref S.length) (.int n) v (S ++ [.lst ys]) kk := by
  unfold stI
  simp only [getO_last, decide_eq_true h0, decide_eq_true h1, Nat.ble_eq_true_of_le hz, Bool.and_self, cond_true, putO_last]
  exact hk
noncomputable def settleC (c : CfgD) : CfgD := { c with a7 := if c.a7 == 0 then c.a6 else c.a7, a8 := if c.a8 == 0 then 18446744073709551615 else c.a8, a10 := if c.a10 == 0 then 18446744073709551615 else c.a10 }
theorem L_settled {c : CfgD} (hk : k (.ref S.length) (S ++ [.lst (wantL (settleC c))])) : callB C 305 [.lst (wantL c)] S k := by
  rw [q_settled]
  refine ⟨rfl, condI rfl (copyW (condI rfl (condI rfl ?_)))⟩
  have rd : ∀ {S : AS} {x : Int} {u : V} {K : KV}, 0 ≤ x → (wantL c)[x.toNat]? = some u → x < 1000 → K u S → subW (.lst (wantL c)) (.int x) S K := fun h0 hx h1 h => subW_of (us := wantL c) rfl h0 hx h1 h
  have t10 : ∀ c' : CfgD, k (.ref S.length) (S ++ [.lst (wantL { c' with a10 := if c.a10 == 0 then 18446744073709551615 else c'.a10 })]) → set10 (.ref S.length) (.lst (wantL c)) (S ++ [.lst (wantL c')]) k := fun c' h => by
    unfold set10
    refine rd (by decide) rfl (by decide) (u := .int c.a10) (cond2 (fun e => ?_) (fun e => ?_))
    · rw [if_pos e] at h
      exact stI_of (by decide) (by show (10 : Int) < 16; decide) (by show 16 ≤ 1000; decide) h
    · rw [if_neg (by rw [e]; decide)] at h
      exact h
  have t8 : ∀ c' : CfgD, k (.ref S.length) (S ++ [.lst (wantL { c' with a8 := if c.a8 == 0 then 18446744073709551615 else c'.a8, a10 := if c.a10 == 0 then 18446744073709551615 else c'.a10 })]) → set8 (.ref S.length) (.lst (wantL c)) (S ++ [.lst (wantL c')]) k := fun c' h => by
    unfold set8
    refine rd (by decide) rfl (by decide) (u := .int c.a8) (cond2 (fun e => ?_) (fun e => ?_))
    · rw [if_pos e] at h
      exact stI_of (by decide) (by show (8 : Int) < 16; decide) (by show 16 ≤ 1000; decide) (t10 { c' with a8 := 18446744073709551615 } h)
    · rw [if_neg (by rw [e]; decide)] at h
      exact t10 c' h
  unfold set7
  refine rd (by decide) rfl (by decide) (u := .int c.a7) (cond2 (fun e => ?_) (fun e => ?_))
  · refine rd (by decide) rfl (by decide) (u := .int c.a6) (stI_of (by decide) (by show (7 : Int) < 16; decide) (by show 16 ≤ 1000; decide) (t8 { c with a7 := c.a6 } ?_))
    unfold settleC at hk
    rw [if_pos e] at hk
    exact hk
  · refine t8 c ?_
    unfold settleC at hk
    rw [if_neg (by rw [e]; decide)] at hk
    exact hk
end

theorem getO_app {S T : AS} {i : Nat} {o : O} (h : getO S i = some o) : getO (S ++ T) i = some o := by
  rw [getO_eq] at h ⊢
  rw [List.getElem?_append_left (List.getElem?_eq_some_iff.mp h).1]
  exact h
theorem getO_pen {S : AS} {a b : O} : getO (S ++ [a] ++ [b]) S.length = some a := getO_app getO_last
theorem putO_pen {S : AS} {a b o : O} : putO (S ++ [a] ++ [b]) S.length o = S ++ [o] ++ [b] := by rw [putO_eq]; simp
theorem len_one {S : AS} {a : O} : (S ++ [a]).length = S.length + 1 := by simp
noncomputable def tinyF : Lc := setFs optP tinyP
noncomputable def rV (n : Nat) : List V := [.int 2, .ref (n + 1), .int 4, .int 1, .tup [.int 0], .bool true, .bool true, .int 0, .int 256, .int 4, .int 64, .int 512, .int 4, .int 1, .int 48, .int 6, .int 512]
theorem opt_eq : setFs [] optP = optP := by kernel_rfl
theorem conf_eq (a b d e : V) : setFs [] (confP a b d e) = cNames.zip [a, b, d, e, .tup [.int 0], .int 0, .int 1048576, .int 1048576, .int 18446744073709551615, .int 256, .int 18446744073709551615, .bool false, .bool false, .int 0, .bool false, .bool false] := by kernel_rfl
theorem ropt_eq (n : Nat) : setFs (setF (Str.ofString "store") (.ref (n + 1)) (setF (Str.ofString "mode") (.int 2) [])) roptP = rNames.zip (rV n) := by kernel_rfl
theorem optP_atr : (optP.all fun p => atrT 106 p.1) = true := by decide +kernel
theorem tinyP_atr : (tinyP.all fun p => atrT 106 p.1) = true := by decide +kernel
theorem confP_atr (a b d e : V) : ((confP a b d e).all fun p => atrT 141 p.1) = true := by kernel_rfl
theorem roptP_atr : (roptP.all fun p => atrT 183 p.1) = true := by decide +kernel
theorem meth_of {C : Nat → List V → AS → KV → Prop} {I : Ev3} {sc : Scope} {x : PySem.Str} {l : Lc} {i D a : Nat} {fs : Lc} {S : AS} {k : KV} (h : getO S i = some (.inst D fs)) (hf : fld x fs = none) (hm : List.lookup (D, x) mths = some a) (hk : C a [.ref i] S k) : methW (TT C) I sc x [] l (.ref i) S k := by
  have hm' : (TT C).mth D x = some a := hm
  unfold methW
  simp only [h, hf, hm']
  exact hk
section
variable {C : Nat → List V → AS → KV → Prop} {S : AS} {k : KV} {i r D : Nat} {xs ys : List V}
theorem L_Options (hk : k (.ref S.length) (S ++ [.inst 106 optP])) : callB C 106 [] S k := by
  rw [q_Options]
  refine ⟨rfl, storesW_of getO_last (List.all_eq_true.mp optP_atr) (Nat.le_of_ble_eq_true rfl) ?_⟩
  rw [putO_last, opt_eq]
  exact hk
theorem L_tiny (h : getO S i = some (.inst 106 optP)) (hk : k (.ref i) (putO S i (.inst 106 tinyF))) : callB C 103 [.ref i] S k := by
  rw [q_tiny]
  exact ⟨rfl, storesW_of h (List.all_eq_true.mp tinyP_atr) (Nat.le_of_ble_eq_true rfl) hk⟩
theorem L_RaftConfig {a b d e : V} (hk : k (.ref S.length) (S ++ [cfgO [a, b, d, e, .tup [.int 0], .int 0, .int 1048576, .int 1048576, .int 18446744073709551615, .int 256, .int 18446744073709551615, .bool false, .bool false, .int 0, .bool false, .bool false]])) : callB C 141 [a, b, d, e] S k := by
  rw [q_RaftConfig]
  refine ⟨rfl, storesW_of getO_last (List.all_eq_true.mp (confP_atr a b d e)) (Nat.le_of_ble_eq_true rfl) ?_⟩
  rw [putO_last, conf_eq]
  exact hk
theorem L_ReplicaOptions {n : Nat} (hk : k (.ref S.length) (S ++ [.inst 183 (rNames.zip (rV S.length))] ++ [.inst 106 tinyF])) : callB (cal (n + 1)) 183 [] S k := by
  rw [q_ReplicaOptions]
  refine ⟨rfl, stF_of getO_last (by decide +kernel) ?_⟩
  rw [putO_last]
  show callB (cal n) 106 [] _ _
  refine L_Options (meth_of getO_last (by decide +kernel) (a := 103) (by decide +kernel) ?_)
  show callB (cal n) 103 [_] _ _
  refine L_tiny getO_last ?_
  rw [putO_last]
  refine stF_of getO_pen (by decide +kernel) ?_
  rw [putO_pen]
  refine storesW_of getO_pen (List.all_eq_true.mp roptP_atr) (Nat.le_of_ble_eq_true rfl) ?_
  rw [putO_pen, len_one, ropt_eq]
  exact hk
theorem cp_st {x : PySem.Str} {g : Nat} {u : V} {b : O} {kk : AS → Prop} (hl : ys.length = 17) (hg : rNames[g]? = some x) (hk : ∀ zs, zs.length = 17 → zs = ys.set g u → kk (S ++ [.inst 183 (rNames.zip zs)] ++ [b])) : stF x (.ref S.length) u (S ++ [.inst 183 (rNames.zip ys)] ++ [b]) kk := by
  have hll : ys.length = rNames.length := by rw [hl]; rfl
  have hlt : g < rNames.length := (List.getElem?_eq_some_iff.mp hg).1
  refine stF_of getO_pen ?_ ?_
  · have e1 : (fld x (rNames.zip ys)).isSome = true := by
      rw [fld_zip rNames_nd hg hll, List.getElem?_eq_getElem (by rw [hll]; exact hlt)]
      rfl
    have e2 : Nat.ble (rNames.zip ys).length 100 = true := by
      rw [List.length_zip, hll, Nat.min_self]
      rfl
    rw [e1, e2]
    rfl
  · rw [putO_pen, setF_zip rNames_nd hg hll]
    exact hk _ (by rw [List.length_set]; exact hl) rfl
theorem rc_st {x : PySem.Str} {g : Nat} {u : V} {kk : AS → Prop} (hl : ys.length = 16) (hg : cNames[g]? = some x) (hk : kk (S ++ [cfgO (ys.set g u)])) : stF x (.ref S.length) u (S ++ [cfgO ys]) kk := by
  have hll : ys.length = cNames.length := by rw [hl]; rfl
  have hlt : g < cNames.length := (List.getElem?_eq_some_iff.mp hg).1
  refine stF_of getO_last ?_ ?_
  · have e1 : (fld x (cNames.zip ys)).isSome = true := by
      rw [fld_zip cNames_nd hg hll, List.getElem?_eq_getElem (by rw [hll]; exact hlt)]
      rfl
    have e2 : Nat.ble (cNames.zip ys).length 100 = true := by
      rw [List.length_zip, hll, Nat.min_self]
      rfl
    rw [e1, e2]
    rfl
  · rw [putO_last, setF_zip cNames_nd hg hll]
    exact hk
theorem L_copy {n : Nat} (h : getO S i = some (optO xs)) (hl : xs.length = 17) (hk : k (.ref S.length) (S ++ [optO xs] ++ [.inst 106 tinyF])) : callB (cal (n + 2)) 173 [.ref i] S k := by
  rw [q_copy]
  refine ⟨rfl, ?_⟩
  show callB (cal (n + 1)) 183 [] _ _
  refine L_ReplicaOptions ?_
  have hlw : (xs.map fv1).length = 17 := by rw [List.length_map]; exact hl
  have hll : (xs.map fv1).length = rNames.length := hlw
  unfold optO at h hk
  have at' : ∀ {T T' : AS} {x : PySem.Str} {u : V} {K : V → Prop} (g : Nat), rNames[g]? = some x → (xs.map fv1)[g]? = some u → K u → attrW (.ref i) x (S ++ T ++ T') K := fun g hg hu hK => attrW_of (getO_app (getO_app h)) ((fld_zip (g := g) rNames_nd hg hll).trans hu) hK
  generalize xs.map fv1 = ws at *
  rcases ws with _ | ⟨w0, _ | ⟨w1, _ | ⟨w2, _ | ⟨w3, _ | ⟨w4, _ | ⟨w5, _ | ⟨w6, _ | ⟨w7, _ | ⟨w8, _ | ⟨w9, _ | ⟨w10, _ | ⟨w11, _ | ⟨w12, _ | ⟨w13, _ | ⟨w14, _ | ⟨w15, _ | ⟨w16, _ | ⟨z, r⟩⟩⟩⟩⟩⟩⟩⟩⟩⟩⟩⟩⟩⟩⟩⟩⟩⟩
  · simp at hlw
  · simp at hlw
  · simp at hlw
  · simp at hlw
  · simp at hlw
  · simp at hlw
  · simp at hlw
  · simp at hlw
  · simp at hlw
  · simp at hlw
  · simp at hlw
  · simp at hlw
  · simp at hlw
  · simp at hlw
  · simp at hlw
  · simp at hlw
  · simp at hlw
  · refine at' 0 rfl rfl ?_
    refine at' 1 rfl rfl ?_
    refine at' 4 rfl rfl ?_
    refine cp_st (g := 0) rfl rfl fun y0 l0 e0 => ?_
    refine cp_st (g := 1) l0 rfl fun y1 l1 e1 => ?_
    refine cp_st (g := 4) l1 rfl fun y2 l2 e2 => ?_
    refine at' 2 rfl rfl ?_
    refine at' 3 rfl rfl ?_
    refine cp_st (g := 2) l2 rfl fun y3 l3 e3 => ?_
    refine cp_st (g := 3) l3 rfl fun y4 l4 e4 => ?_
    refine at' 5 rfl rfl ?_
    refine at' 6 rfl rfl ?_
    refine cp_st (g := 5) l4 rfl fun y5 l5 e5 => ?_
    refine cp_st (g := 6) l5 rfl fun y6 l6 e6 => ?_
    refine at' 7 rfl rfl ?_
    refine at' 9 rfl rfl ?_
    refine cp_st (g := 7) l6 rfl fun y7 l7 e7 => ?_
    refine cp_st (g := 9) l7 rfl fun y8 l8 e8 => ?_
    refine at' 8 rfl rfl ?_
    refine at' 16 rfl rfl ?_
    refine cp_st (g := 8) l8 rfl fun y9 l9 e9 => ?_
    refine cp_st (g := 16) l9 rfl fun y10 l10 e10 => ?_
    refine at' 10 rfl rfl ?_
    refine at' 11 rfl rfl ?_
    refine cp_st (g := 10) l10 rfl fun y11 l11 e11 => ?_
    refine cp_st (g := 11) l11 rfl fun y12 l12 e12 => ?_
    refine at' 12 rfl rfl ?_
    refine at' 13 rfl rfl ?_
    refine cp_st (g := 12) l12 rfl fun y13 l13 e13 => ?_
    refine cp_st (g := 13) l13 rfl fun y14 l14 e14 => ?_
    refine at' 14 rfl rfl ?_
    refine at' 15 rfl rfl ?_
    refine cp_st (g := 14) l14 rfl fun y15 l15 e15 => ?_
    refine cp_st (g := 15) l15 rfl fun y16 l16 e16 => ?_
    have e : y16 = [w0, w1, w2, w3, w4, w5, w6, w7, w8, w9, w10, w11, w12, w13, w14, w15, w16] := by rw [e16, e15, e14, e13, e12, e11, e10, e9, e8, e7, e6, e5, e4, e3, e2, e1, e0]; rfl
    rw [e]
    exact hk
  · simp at hlw
theorem L_raft_config {n : Nat} {d : RowD} {nid ap : Int} {st : V} (h : getO S i = some (optO (rowL d))) (hk : k (.ref S.length) (S ++ [cfgO (wantL (mkC d nid st ap))])) : callB (cal (n + 1)) 180 [.ref i, .int nid, st, .int ap] S k := by
  rw [q_raft_config]
  refine ⟨rfl, ?_⟩
  have at' : ∀ {x : PySem.Str} {u : V} {K : V → Prop} (g : Nat), rNames[g]? = some x → ((rowL d).map fv1)[g]? = some u → K u → attrW (.ref i) x S K := fun g hg hu hK => attrW_of h ((fld_zip (g := g) rNames_nd hg rfl).trans hu) hK
  have at2 : ∀ {T : AS} {x : PySem.Str} {u : V} {K : V → Prop} (g : Nat), rNames[g]? = some x → ((rowL d).map fv1)[g]? = some u → K u → attrW (.ref i) x (S ++ T) K := fun g hg hu hK => attrW_of (getO_app h) ((fld_zip (g := g) rNames_nd hg rfl).trans hu) hK
  refine at' 2 rfl rfl (at' 3 rfl rfl ?_)
  show callB (cal n) 141 _ _ _
  refine L_RaftConfig ?_
  refine at2 4 rfl rfl ?_
  refine rc_st (g := 4) rfl rfl ?_
  refine rc_st (g := 5) rfl rfl ?_
  refine at2 5 rfl rfl ?_
  refine rc_st (g := 12) rfl rfl ?_
  refine at2 6 rfl rfl ?_
  refine rc_st (g := 11) rfl rfl ?_
  refine at2 7 rfl rfl ?_
  refine rc_st (g := 13) rfl rfl ?_
  refine at2 8 rfl rfl ?_
  refine rc_st (g := 6) rfl rfl ?_
  refine at2 8 rfl rfl ?_
  refine rc_st (g := 7) rfl rfl ?_
  refine at2 9 rfl rfl ?_
  refine rc_st (g := 9) rfl rfl ?_
  refine at2 16 rfl rfl ?_
  refine rc_st (g := 8) rfl rfl ?_
  refine rc_st (g := 15) rfl rfl ?_
  exact hk
theorem L_stand {n a b r0 r1 : Nat} (ha : getO S a = some (optO xs)) (hr0 : getO S r0 = some (.lst xs)) (hx : KL 17 rKd xs) (hb : getO S b = some (optO ys)) (hr1 : getO S r1 = some (.lst ys)) (hy : KL 17 rKd ys) (h3 : St3 S) (hk : k (.bool true) S) : callB (cal (n + 1)) 244 [.lst [.ref a, .ref b], .lst [.ref r0, .ref r1], sv3] S k := by
  rw [q_stand]
  refine ⟨rfl, ?_⟩
  show callB (cal n) 220 _ _ _
  refine L_told ha hx h3 ?_
  show callB (cal n) 239 _ _ _
  refine L_sameR hr0 hx.pl (by rw [hx.1]; decide) ?_
  show callB (cal n) 220 _ _ _
  refine L_told hb hy h3 ?_
  show callB (cal n) 239 _ _ _
  refine L_sameR hr1 hy.pl (by rw [hy.1]; decide) ?_
  exact hk
end
theorem stops_iff (d : RowD) : stopsB d = true ↔ (d.a0 ≠ 1 ∧ d.a0 ≠ 2) ∨ d.a12 < 1 ∨ d.a14 < 1 ∨ d.a15 < 1 ∨ d.a13 < 0 := by
  unfold stopsB
  simp only [Bool.or_eq_true, Bool.not_eq_true', Bool.or_eq_false_iff, beq_eq_false_iff_ne, ne_eq, decide_eq_true_eq]
  constructor
  · rintro (h | h | h)
    · exact .inl h
    · split at h <;> split at h <;> omega
    · omega
  · rintro (h | h)
    · exact .inl h
    · right
      split <;> split <;> omega
section
variable {S : AS} {k : KV} {i : Nat} {kn ke : AS → Prop}
theorem fmt_nil {o : V} (hk : ke S) : fmtW o [] S ke := hk
theorem fmt_cons {D : Nat} {fs : Lc} {x : PySem.Str} {xs : List PySem.Str} {n : Int} (h : getO S i = some (.inst D fs)) (hf : fld x fs = some (.int n)) (hn : num3 n = true) (hk : fmtW (.ref i) xs S ke) : fmtW (.ref i) (x :: xs) S ke :=
  attrW_of h hf (condI hn hk)
theorem L_rck {d : RowD} (h : getO S i = some (optO (rowL d))) (g0 : num3 d.a0 = true) (g12 : num3 d.a12 = true) (g13 : num3 d.a13 = true) (g14 : num3 d.a14 = true) (g15 : num3 d.a15 = true) (h1 : stopsB d = true → ke S) (h2 : stopsB d = false → kn S) : rck1 (.ref i) kn ke S := by
  have F : ∀ {x : PySem.Str} {u : V} (g : Nat), rNames[g]? = some x → ((rowL d).map fv1)[g]? = some u → fld x (rNames.zip ((rowL d).map fv1)) = some u := fun g hg hu => (fld_zip (g := g) rNames_nd hg rfl).trans hu
  have h1' := fun e => h1 ((stops_iff d).mpr e)
  have h2' : ¬ ((d.a0 ≠ 1 ∧ d.a0 ≠ 2) ∨ d.a12 < 1 ∨ d.a14 < 1 ∨ d.a15 < 1 ∨ d.a13 < 0) → kn S := fun e => h2 (by
    cases hs : stopsB d with
    | false => rfl
    | true => exact absurd ((stops_iff d).mp hs) e)
  clear h1 h2
  have r3 : (d.a0 = 1 ∨ d.a0 = 2) → ¬ d.a12 < 1 → ¬ d.a13 < 0 → rck3 (.ref i) kn ke S := fun e0 e1 e2 => by
    refine attrW_of h (F 14 rfl rfl) (c_lt (cond2 (fun e => ?_) fun e => ?_))
    · have e := of_decide_eq_true e
      exact fmt_cons h (F 14 rfl rfl) g14 (fmt_cons h (F 15 rfl rfl) g15 (fmt_nil (h1' (by omega))))
    · have e := of_decide_eq_false e
      refine attrW_of h (F 15 rfl rfl) (c_lt (cond2 (fun e' => ?_) fun e' => ?_))
      · have e' := of_decide_eq_true e'
        exact fmt_cons h (F 14 rfl rfl) g14 (fmt_cons h (F 15 rfl rfl) g15 (fmt_nil (h1' (by omega))))
      · have e' := of_decide_eq_false e'
        exact h2' (by omega)
  have r2 : (d.a0 = 1 ∨ d.a0 = 2) → rck2 (.ref i) kn ke S := fun e0 => by
    refine attrW_of h (F 12 rfl rfl) (c_lt (cond2 (fun e => ?_) fun e => ?_))
    · have e := of_decide_eq_true e
      exact fmt_cons h (F 12 rfl rfl) g12 (fmt_cons h (F 13 rfl rfl) g13 (fmt_nil (h1' (by omega))))
    · have e := of_decide_eq_false e
      refine attrW_of h (F 13 rfl rfl) (c_lt (cond2 (fun e' => ?_) fun e' => ?_))
      · have e' := of_decide_eq_true e'
        exact fmt_cons h (F 12 rfl rfl) g12 (fmt_cons h (F 13 rfl rfl) g13 (fmt_nil (h1' (by omega))))
      · have e' := of_decide_eq_false e'
        exact r3 e0 e e'
  refine attrW_of h (F 0 rfl rfl) (c_ne (cond2 (fun e => ?_) fun e => ?_))
  · have e : d.a0 ≠ 1 := by simpa using e
    refine attrW_of h (F 0 rfl rfl) (c_ne (cond2 (fun e' => ?_) fun e' => ?_))
    · have e' : d.a0 ≠ 2 := by simpa using e'
      exact fmt_cons h (F 0 rfl rfl) g0 (fmt_nil (h1' (.inl ⟨e, e'⟩)))
    · have e' : d.a0 = 2 := by simpa using e'
      exact r2 (.inr e')
  · have e : d.a0 = 1 := by simpa using e
    exact r2 (.inl e)
theorem L_refused {d : RowD} (h : getO S i = some (optO (rowL d))) (g0 : num3 d.a0 = true) (g12 : num3 d.a12 = true) (g13 : num3 d.a13 = true) (g14 : num3 d.a14 = true) (g15 : num3 d.a15 = true) (hk : k (.bool (stopsB d)) S) : calL 319 [.ref i] S k := by
  refine condI rfl ?_
  unfold chkW
  simp only [h]
  refine ⟨trivial, ?_, ?_⟩
  · kernel_rfl
  · rw [q_rcheck]
    exact L_rck h g0 g12 g13 g14 g15 (fun e => by rw [e] at hk; exact hk) (fun e => by rw [e] at hk; exact hk)
end

theorem unfit_iff (c : CfgD) : unfitB c = true ↔ c.a0 = 0 ∨ c.a2 < 1 ∨ c.a1 ≤ c.a2 ∨ isN c.st = true ∨ c.ts.isEmpty = true ∨ c.a9 < 1 ∨ (settleC c).a10 < c.a6 ∨ (c.a13 ≠ 0 ∧ c.a13 ≠ 1) ∨ (c.a13 = 1 ∧ c.b11 = false) := by
  unfold unfitB unfitW settleC
  simp only [List.any_cons, List.any_nil, id, Bool.or_eq_true, beq_iff_eq, decide_eq_true_eq, Bool.not_eq_true', Bool.or_eq_false_iff, beq_eq_false_iff_ne, ne_eq, Bool.and_eq_true, Bool.or_false]
section
variable {S : AS} {k : KV} {i : Nat} {kn ke : AS → Prop}
theorem put_same {o : O} (h : getO S i = some o) : putO S i o = S := by
  rw [getO_eq] at h
  rw [putO_eq]
  apply List.ext_getElem?
  intro j
  by_cases hj : i = j
  · subst hj
    rw [List.getElem?_set_self (List.getElem?_eq_some_iff.mp h).1, h]
  · rw [List.getElem?_set_ne hj]
theorem F_c {c : CfgD} {x : PySem.Str} {u : V} (g : Nat) (hg : cNames[g]? = some x) (hu : (wantL c)[g]? = some u) : fld x (cNames.zip (wantL c)) = some u := (fld_zip (g := g) cNames_nd hg rfl).trans hu
theorem cc_st {c : CfgD} {x : PySem.Str} {u : V} {K : AS → Prop} (g : Nat) (h : getO S i = some (cfgO (wantL c))) (hg : cNames[g]? = some x) (hK : K (putO S i (cfgO ((wantL c).set g u)))) : stF x (.ref i) u S K := by
  have hlt : g < cNames.length := (List.getElem?_eq_some_iff.mp hg).1
  refine stF_of h ?_ ?_
  · have e1 : (fld x (cNames.zip (wantL c))).isSome = true := by
      rw [fld_zip cNames_nd hg rfl, List.getElem?_eq_getElem (show g < (wantL c).length from hlt)]
      rfl
    rw [e1]
    rfl
  · rw [setF_zip cNames_nd hg rfl]
    exact hK
noncomputable def Sim (c e : CfgD) : Prop := ∃ x y z, e = { c with a7 := x, a8 := y, a10 := z }
theorem L_ccA {c : CfgD} (h : getO S i = some (cfgO (wantL c))) (g6 : num3 c.a6 = true) (g10 : num3 c.a10 = true) (g13 : num3 c.a13 = true) (h1 : (c.a10 < c.a6 ∨ (c.a13 ≠ 0 ∧ c.a13 ≠ 1) ∨ (c.a13 = 1 ∧ c.b11 = false)) → ke S)
    (h2 : ¬ (c.a10 < c.a6 ∨ (c.a13 ≠ 0 ∧ c.a13 ≠ 1) ∨ (c.a13 = 1 ∧ c.b11 = false)) → kn S) : ccA (.ref i) kn ke S := by
  have rC : ¬ c.a10 < c.a6 → (c.a13 = 0 ∨ c.a13 = 1) → ccC (.ref i) kn ke S := fun e0 e1 => by
    refine attrW_of h (F_c 13 rfl rfl) (c_eq (cond2 (fun e => ?_) fun e => ?_))
    · have e : c.a13 = 1 := by simpa using e
      refine attrW_of h (F_c 11 rfl rfl) (cond2 (fun e' => ?_) fun e' => ?_)
      · exact h1 (.inr (.inr ⟨e, by simpa using e'⟩))
      · have e' : c.b11 = true := by simpa using e'
        refine h2 (fun x => ?_)
        rcases x with x | x | x
        · exact e0 x
        · omega
        · rw [e'] at x; exact Bool.noConfusion x.2
    · have e : c.a13 ≠ 1 := by simpa using e
      refine h2 (fun x => ?_)
      rcases x with x | x | x
      · exact e0 x
      · omega
      · exact e x.1
  have rB : ¬ c.a10 < c.a6 → ccB (.ref i) kn ke S := fun e0 => by
    refine attrW_of h (F_c 13 rfl rfl) (c_ne (cond2 (fun e => ?_) fun e => ?_))
    · have e : c.a13 ≠ 0 := by simpa using e
      refine attrW_of h (F_c 13 rfl rfl) (c_ne (cond2 (fun e' => ?_) fun e' => ?_))
      · have e' : c.a13 ≠ 1 := by simpa using e'
        exact fmt_cons h (F_c 13 rfl rfl) g13 (fmt_nil (h1 (.inr (.inl ⟨e, e'⟩))))
      · have e' : c.a13 = 1 := by simpa using e'
        exact rC e0 (.inr e')
    · have e : c.a13 = 0 := by simpa using e
      exact rC e0 (.inl e)
  refine attrW_of h (F_c 10 rfl rfl) (attrW_of h (F_c 6 rfl rfl) (c_lt (cond2 (fun e => ?_) fun e => ?_)))
  · have e := of_decide_eq_true e
    exact fmt_cons h (F_c 10 rfl rfl) g10 (fmt_cons h (F_c 6 rfl rfl) g6 (fmt_nil (h1 (.inl e))))
  · exact rB (of_decide_eq_false e)
theorem L_cc9 {c : CfgD} (h : getO S i = some (cfgO (wantL c))) (hA : ccA (.ref i) kn ke (putO S i (cfgO (wantL { c with a7 := if c.a7 == 0 then c.a6 else c.a7 })))) : cc9 (.ref i) kn ke S := by
  refine attrW_of h (F_c 7 rfl rfl) (c_eq (cond2 (fun e => ?_) fun e => ?_))
  · rw [if_pos e] at hA
    exact attrW_of h (F_c 6 rfl rfl) (cc_st 7 h rfl ⟨rfl, hA⟩)
  · rw [if_neg (by rw [e]; decide), put_same h] at hA
    exact hA
theorem L_cc8 {c : CfgD} (h : getO S i = some (cfgO (wantL c))) (hA : cc9 (.ref i) kn ke (putO S i (cfgO (wantL { c with a8 := if c.a8 == 0 then 18446744073709551615 else c.a8 })))) : cc8 (.ref i) kn ke S := by
  refine attrW_of h (F_c 8 rfl rfl) (c_eq (cond2 (fun e => ?_) fun e => ?_))
  · rw [if_pos e] at hA
    exact cc_st 8 h rfl ⟨rfl, hA⟩
  · rw [if_neg (by rw [e]; decide), put_same h] at hA
    exact hA
theorem L_cc7 {c : CfgD} (h : getO S i = some (cfgO (wantL c))) (hA : cc8 (.ref i) kn ke (putO S i (cfgO (wantL { c with a10 := if c.a10 == 0 then 18446744073709551615 else c.a10 })))) : cc7 (.ref i) kn ke S := by
  refine attrW_of h (F_c 10 rfl rfl) (c_eq (cond2 (fun e => ?_) fun e => ?_))
  · rw [if_pos e] at hA
    exact cc_st 10 h rfl ⟨rfl, hA⟩
  · rw [if_neg (by rw [e]; decide), put_same h] at hA
    exact hA
theorem isN_st {c : CfgD} (hst : c.st = .none ∨ ∃ n, c.st = .int n) {K : Bool → AS → Prop} (hK : K (isN c.st) S) : cmpV .Is c.st .none S K := cmp_none hst hK
theorem L_useless {c : CfgD} (h : getO S i = some (cfgO (wantL c))) (hst : c.st = .none ∨ ∃ n, c.st = .int n) (g1 : num3 c.a1 = true) (g2 : num3 c.a2 = true) (g6 : num3 c.a6 = true) (g9 : num3 c.a9 = true) (g10 : num3 c.a10 = true) (g13 : num3 c.a13 = true) (hz : c.ts.length ≤ 1000)
    (hk : ∀ e, Sim c e → (e = c ∨ e = settleC c) → (unfitB c = false → e = settleC c) → k (.bool (unfitB c)) (putO S i (cfgO (wantL e)))) : calL 326 [.ref i] S k := by
  refine condE rfl (condI rfl ?_)
  unfold chkW
  simp only [h]
  refine ⟨trivial, by kernel_rfl, ?_⟩
  rw [q_ccheck]
  have iff := unfit_iff c
  have early : (unfitB c = true) → k (.bool true) S := fun e => by
    have := hk c ⟨c.a7, c.a8, c.a10, rfl⟩ (.inl rfl) (fun e' => by rw [e] at e'; cases e')
    rw [e, put_same h] at this
    exact this
  refine attrW_of h (F_c 0 rfl rfl) (c_eq (cond2 (fun e => ?_) fun e0 => ?_))
  · exact early (iff.mpr (.inl (by simpa using e)))
  refine attrW_of h (F_c 2 rfl rfl) (c_lt (cond2 (fun e => ?_) fun e1 => ?_))
  · exact fmt_cons h (F_c 2 rfl rfl) g2 (fmt_nil (early (iff.mpr (.inr (.inl (of_decide_eq_true e))))))
  refine attrW_of h (F_c 1 rfl rfl) (attrW_of h (F_c 2 rfl rfl) (c_le (cond2 (fun e => ?_) fun e2 => ?_)))
  · exact fmt_cons h (F_c 1 rfl rfl) g1 (fmt_cons h (F_c 2 rfl rfl) g2 (fmt_nil (early (iff.mpr (.inr (.inr (.inl (of_decide_eq_true e))))))))
  refine attrW_of h (F_c 3 rfl rfl) (isN_st hst (cond2 (fun e => ?_) fun e3 => ?_))
  · exact early (iff.mpr (.inr (.inr (.inr (.inl e)))))
  have hlen : (c.ts.map V.int).length = c.ts.length := List.length_map _
  refine attrW_of h (F_c 4 rfl rfl) (len_tup (by rw [hlen]; exact hz) (c_eq (cond2 (fun e => ?_) fun e4 => ?_)))
  · refine early (iff.mpr (.inr (.inr (.inr (.inr (.inl ?_))))))
    have e : ((c.ts.map V.int).length : Int) = 0 := by simpa using e
    rw [hlen] at e
    cases ht : c.ts with
    | nil => rfl
    | cons a r => rw [ht] at e; simp at e; omega
  refine attrW_of h (F_c 9 rfl rfl) (c_lt (cond2 (fun e => ?_) fun e5 => ?_))
  · exact fmt_cons h (F_c 9 rfl rfl) g9 (fmt_nil (early (iff.mpr (.inr (.inr (.inr (.inr (.inr (.inl (of_decide_eq_true e))))))))))
  have ht : c.ts.isEmpty = false := by
    cases ht : c.ts with
    | nil => rw [ht] at e4; exact absurd e4 (by decide)
    | cons a r => rfl
  have x0 : c.a0 ≠ 0 := by simpa using e0
  have x1 := of_decide_eq_false e1
  have x2 := of_decide_eq_false e2
  have x5 := of_decide_eq_false e5
  refine L_cc7 h ?_
  refine L_cc8 (c := { c with a10 := (settleC c).a10 }) (getO_put h) ?_
  rw [putO_putO]
  refine L_cc9 (c := { c with a8 := (settleC c).a8, a10 := (settleC c).a10 }) (getO_put h) ?_
  rw [putO_putO]
  have fin' : ∀ b, unfitB c = b → k (.bool b) (putO S i (cfgO (wantL (settleC c)))) := fun b e => by
    have := hk (settleC c) ⟨_, _, _, rfl⟩ (.inr rfl) (fun _ => rfl)
    rw [e] at this
    exact this
  refine L_ccA (c := settleC c) (getO_put h) g6 ?_ g13 (fun e => fin' true ?_) (fun e => fin' false ?_)
  · show num3 (if c.a10 == 0 then 18446744073709551615 else c.a10) = true
    split
    · decide +kernel
    · exact g10
  · exact iff.mpr (.inr (.inr (.inr (.inr (.inr (.inr e))))))
  · cases hb : unfitB c with
    | false => rfl
    | true =>
      rcases iff.mp hb with y | y | y | y | y | y | y
      · exact absurd y x0
      · exact absurd y x1
      · exact absurd y x2
      · rw [e3] at y; cases y
      · rw [ht] at y; cases y
      · exact absurd y x5
      · exact absurd y e
theorem L_settledL {c : CfgD} (hk : k (.lst (wantL (settleC c))) (S ++ [.hole])) : calL 305 [.lst (wantL c)] S k := by
  refine condE rfl (condE rfl (condI rfl ?_))
  show callB (cal 5) 305 _ _ _
  exact L_settled ⟨_, rfl, rfl, hk⟩
theorem viaL {a : Nat} {Vs : List V} (ha : (a == 319) = false) (hb : (a == 326) = false) (hc : (a == 305) = false) (h : callB (cal 5) a Vs S k) : calL a Vs S k := condE ha (condE hb (condE hc h))
end

noncomputable abbrev KR : KV := fun V _ => V = .bool true
noncomputable abbrev KN : Lc → AS → Prop := fun _ _ => False
variable (C : Nat → List V → AS → KV → Prop)
noncomputable def RX (j : Nat) (l : Lc) (S : AS) : Prop := (sem (TT C) (301 - j)).x (fS 46) l ((fB 46).drop j) S KN KR
noncomputable def lb (j : Nat) : List PySem.Stmt := match (fB 46)[j]? with
  | some (.For _ _ b _ _) => b
  | some (.If _ [.For _ _ b _ _] _ _) => b
  | _ => []
noncomputable def BX (j i m : Nat) (l : Lc) (S : AS) (kn : Lc → AS → Prop) : Prop := (sem (TT C) m).x (fS 46) l ((lb j).drop i) S kn KR
noncomputable def stR (j : Nat) : PySem.Stmt := match ((fB 46).drop j : List PySem.Stmt) with
  | s :: _ => s
  | [] => .Pass default
noncomputable def stB (j i : Nat) : PySem.Stmt := match ((lb j).drop i : List PySem.Stmt) with
  | s :: _ => s
  | [] => .Pass default
noncomputable def tbW (v : V) (k : Bool → Prop) : Prop :=
  match v with
  | .bool b => k b
  | _ => False
noncomputable def NA : List PySem.Str := [(Str.ofString "nums"), (Str.ofString "made"), (Str.ofString "stores"), (Str.ofString "kept"), (Str.ofString "row"), (Str.ofString "x")]
noncomputable def NB : List PySem.Str := [(Str.ofString "nums"), (Str.ofString "made"), (Str.ofString "stores"), (Str.ofString "kept"), (Str.ofString "x"), (Str.ofString "sides"), (Str.ofString "rows"), (Str.ofString "given")]
noncomputable def NC : List PySem.Str := [(Str.ofString "nums"), (Str.ofString "stores"), (Str.ofString "kept"), (Str.ofString "x"), (Str.ofString "sides"), (Str.ofString "rows"), (Str.ofString "given"), (Str.ofString "s")]
noncomputable def ND : List PySem.Str := [(Str.ofString "nums"), (Str.ofString "stores"), (Str.ofString "kept"), (Str.ofString "sides"), (Str.ofString "rows"), (Str.ofString "given"), (Str.ofString "config"), (Str.ofString "want")]
noncomputable def NE : List PySem.Str := [(Str.ofString "nums"), (Str.ofString "stores"), (Str.ofString "kept"), (Str.ofString "sides"), (Str.ofString "rows"), (Str.ofString "given"), (Str.ofString "config"), (Str.ofString "want"), (Str.ofString "shown")]
theorem t_1 (N : V) (S : AS) (K : Lc → AS → Prop) : stW (TT C) (sem (TT C) 299) (fS 46) [((Str.ofString "nums"), N)] (stR 1) S K KR = (bcal .len [N] S fun v S1 => cmpV .Eq v (.int 0) S1 fun b S2 => cond b (K [((Str.ofString "nums"), .lst [.int 0])] S2) (K [((Str.ofString "nums"), N)] S2)) := by kernel_rfl
theorem stepR1 (l : Lc) (S : AS) : RX C 1 l S = stW (TT C) (sem (TT C) 299) (fS 46) l (stR 1) S (fun l' S' => RX C 2 l' S') KR := by kernel_rfl
theorem s_1 (N : V) (S : AS) : RX C 1 [((Str.ofString "nums"), N)] S = (bcal .len [N] S fun v S1 => cmpV .Eq v (.int 0) S1 fun b S2 => cond b (RX C 2 [((Str.ofString "nums"), .lst [.int 0])] S2) (RX C 2 [((Str.ofString "nums"), N)] S2)) := (stepR1 C _ S).trans (t_1 C N S fun l' S' => RX C 2 l' S')
theorem s_2 (N : V) (S : AS) : RX C 2 [((Str.ofString "nums"), N)] S = (C 183 [] S fun v S1 => RX C 3 [((Str.ofString "made"), v), ((Str.ofString "nums"), N)] S1) := by kernel_rfl
theorem s_3 (N M : V) (S : AS) : RX C 3 [((Str.ofString "made"), M), ((Str.ofString "nums"), N)] S = (attrW M (Str.ofString "store") S fun a => C 106 [] S fun b S1 => C 106 [] S1 fun v S2 => methW (TT C) (sem (TT C) 295) (fS 46) (Str.ofString "tiny") [] [((Str.ofString "made"), M), ((Str.ofString "nums"), N)] v S2 fun d S3 => RX C 4 [((Str.ofString "stores"), .lst [a, b, d]), ((Str.ofString "made"), M), ((Str.ofString "nums"), N)] S3) := by kernel_rfl
theorem s_4 (N M ST : V) (S : AS) : RX C 4 [((Str.ofString "stores"), ST), ((Str.ofString "made"), M), ((Str.ofString "nums"), N)] S = (subW ST (.int 2) S fun o S1 => stF (Str.ofString "log_block") o (.int 1) S1 fun S2 => RX C 5 [((Str.ofString "stores"), ST), ((Str.ofString "made"), M), ((Str.ofString "nums"), N)] S2) := by kernel_rfl
theorem s_5 (N M a b d : V) (S : AS) : RX C 5 [((Str.ofString "stores"), .lst [a, b, d]), ((Str.ofString "made"), M), ((Str.ofString "nums"), N)] S = (C 215 [a] S fun u1 S1 => C 215 [b] S1 fun u2 S2 => C 215 [d] S2 fun u3 S3 => RX C 6 [((Str.ofString "kept"), .lst [u1, u2, u3]), ((Str.ofString "stores"), .lst [a, b, d]), ((Str.ofString "made"), M), ((Str.ofString "nums"), N)] S3) := by kernel_rfl
theorem s_6 (N M ST KP : V) (S : AS) : RX C 6 [((Str.ofString "kept"), KP), ((Str.ofString "stores"), ST), ((Str.ofString "made"), M), ((Str.ofString "nums"), N)] S = (C 201 [] S fun v S1 => RX C 7 [((Str.ofString "row"), v), ((Str.ofString "kept"), KP), ((Str.ofString "stores"), ST), ((Str.ofString "made"), M), ((Str.ofString "nums"), N)] S1) := by kernel_rfl
theorem s_7 (N M ST KP RW : V) (S : AS) : RX C 7 [((Str.ofString "row"), RW), ((Str.ofString "kept"), KP), ((Str.ofString "stores"), ST), ((Str.ofString "made"), M), ((Str.ofString "nums"), N)] S = (C 220 [M, ST] S fun v1 S1 => C 239 [v1, RW] S1 fun v2 S2 => tbW v2 fun b => cond (!b) (KR (.bool false) S2) (subW KP (.int 0) S2 fun w S3 => C 208 [] S3 fun v3 S4 => C 239 [w, v3] S4 fun v4 S5 => tbW v4 fun b2 => cond (!b2) (KR (.bool false) S5) (RX C 8 [((Str.ofString "row"), RW), ((Str.ofString "kept"), KP), ((Str.ofString "stores"), ST), ((Str.ofString "made"), M), ((Str.ofString "nums"), N)] S5))) := by kernel_rfl
theorem s_8 (N M ST KP RW : V) (S : AS) : RX C 8 [((Str.ofString "row"), RW), ((Str.ofString "kept"), KP), ((Str.ofString "stores"), ST), ((Str.ofString "made"), M), ((Str.ofString "nums"), N)] S = (C 194 [N, .int 0] S fun v S1 => RX C 9 [((Str.ofString "x"), v), ((Str.ofString "row"), RW), ((Str.ofString "kept"), KP), ((Str.ofString "stores"), ST), ((Str.ofString "made"), M), ((Str.ofString "nums"), N)] S1) := by kernel_rfl
theorem s_9 (N M ST KP RW : V) (X : Int) (S : AS) : RX C 9 [((Str.ofString "x"), .int X), ((Str.ofString "row"), RW), ((Str.ofString "kept"), KP), ((Str.ofString "stores"), ST), ((Str.ofString "made"), M), ((Str.ofString "nums"), N)] S = (cond (X.fmod 4 != 3) (forW (pick NA) (fun u l' S' kn' _ => BX C 9 0 290 (((Str.ofString "f"), u) :: l') S' kn') (rngL 17) [((Str.ofString "x"), .int X), ((Str.ofString "row"), RW), ((Str.ofString "kept"), KP), ((Str.ofString "stores"), ST), ((Str.ofString "made"), M), ((Str.ofString "nums"), N)] S (fun l' S' => RX C 10 l' S') KR) (RX C 10 [((Str.ofString "x"), .int X), ((Str.ofString "row"), RW), ((Str.ofString "kept"), KP), ((Str.ofString "stores"), ST), ((Str.ofString "made"), M), ((Str.ofString "nums"), N)] S)) := by kernel_rfl
theorem s_b9 (N M ST KP RW : V) (X f : Int) (kn : Lc → AS → Prop) (S : AS) : BX C 9 0 290 (((Str.ofString "f"), .int f) :: [((Str.ofString "nums"), N), ((Str.ofString "made"), M), ((Str.ofString "stores"), ST), ((Str.ofString "kept"), KP), ((Str.ofString "row"), RW), ((Str.ofString "x"), .int X)]) S kn = (C 265 [.int f, .int (X.fdiv 4)] S fun v S1 => stI RW (.int f) v S1 fun S2 => subW RW (.int f) S2 fun w S3 => C 251 [M, .int f, w, ST] S3 fun _ S4 => kn (((Str.ofString "f"), .int f) :: [((Str.ofString "nums"), N), ((Str.ofString "made"), M), ((Str.ofString "stores"), ST), ((Str.ofString "kept"), KP), ((Str.ofString "row"), RW), ((Str.ofString "x"), .int X)]) S4) := by kernel_rfl
theorem s_10a (N M ST KP RW : V) (X : Int) (S : AS) : RX C 10 [((Str.ofString "x"), .int X), ((Str.ofString "row"), RW), ((Str.ofString "kept"), KP), ((Str.ofString "stores"), ST), ((Str.ofString "made"), M), ((Str.ofString "nums"), N)] S = (cond (decide ((8 - (X.fdiv 4).fmod 9) ≤ 1000) && decide (-1000 ≤ (8 - (X.fdiv 4).fmod 9))) (cond (decide ((8 - (X.fdiv 4).fmod 9) ≤ 1000) && decide (-1000 ≤ (8 - (X.fdiv 4).fmod 9))) (forW (pick NA) (fun u l' S' kn' _ => BX C 10 0 290 (((Str.ofString "i"), u) :: l') S' kn') (rngL (8 - (X.fdiv 4).fmod 9)) [((Str.ofString "x"), .int X), ((Str.ofString "row"), RW), ((Str.ofString "kept"), KP), ((Str.ofString "stores"), ST), ((Str.ofString "made"), M), ((Str.ofString "nums"), N)] S (fun l' S' => RX C 11 l' S') KR) False) False) := by kernel_rfl
theorem s_10b (N M ST KP RW : V) (X : Int) (S : AS) : RX C 10 [((Str.ofString "nums"), N), ((Str.ofString "made"), M), ((Str.ofString "stores"), ST), ((Str.ofString "kept"), KP), ((Str.ofString "row"), RW), ((Str.ofString "x"), .int X)] S = (cond (decide ((8 - (X.fdiv 4).fmod 9) ≤ 1000) && decide (-1000 ≤ (8 - (X.fdiv 4).fmod 9))) (cond (decide ((8 - (X.fdiv 4).fmod 9) ≤ 1000) && decide (-1000 ≤ (8 - (X.fdiv 4).fmod 9))) (forW (pick NA) (fun u l' S' kn' _ => BX C 10 0 290 (((Str.ofString "i"), u) :: l') S' kn') (rngL (8 - (X.fdiv 4).fmod 9)) [((Str.ofString "nums"), N), ((Str.ofString "made"), M), ((Str.ofString "stores"), ST), ((Str.ofString "kept"), KP), ((Str.ofString "row"), RW), ((Str.ofString "x"), .int X)] S (fun l' S' => RX C 11 l' S') KR) False) False) := by kernel_rfl
theorem s_b10a (N M ST KP RW : V) (X i : Int) (kn : Lc → AS → Prop) (S : AS) : BX C 10 0 290 (((Str.ofString "i"), .int i) :: [((Str.ofString "nums"), N), ((Str.ofString "made"), M), ((Str.ofString "stores"), ST), ((Str.ofString "kept"), KP), ((Str.ofString "row"), RW), ((Str.ofString "x"), .int X)]) S kn = (C 194 [N, .int (1 + i)] S fun v S1 => BX C 10 1 289 (((Str.ofString "y"), v) :: ((Str.ofString "i"), .int i) :: [((Str.ofString "nums"), N), ((Str.ofString "made"), M), ((Str.ofString "stores"), ST), ((Str.ofString "kept"), KP), ((Str.ofString "row"), RW), ((Str.ofString "x"), .int X)]) S1 kn) := by kernel_rfl
theorem s_b10b (N M ST KP RW : V) (X i Y : Int) (kn : Lc → AS → Prop) (S : AS) : BX C 10 1 289 (((Str.ofString "y"), .int Y) :: ((Str.ofString "i"), .int i) :: [((Str.ofString "nums"), N), ((Str.ofString "made"), M), ((Str.ofString "stores"), ST), ((Str.ofString "kept"), KP), ((Str.ofString "row"), RW), ((Str.ofString "x"), .int X)]) S kn = (C 272 [.int ((Y + 5 * i).fmod 17), .int (Y.fdiv 17)] S fun v S1 => stI RW (.int ((Y + 5 * i).fmod 17)) v S1 fun S2 => subW RW (.int ((Y + 5 * i).fmod 17)) S2 fun w S3 => C 251 [M, .int ((Y + 5 * i).fmod 17), w, ST] S3 fun _ S4 => kn (((Str.ofString "f"), .int ((Y + 5 * i).fmod 17)) :: ((Str.ofString "y"), .int Y) :: ((Str.ofString "i"), .int i) :: [((Str.ofString "nums"), N), ((Str.ofString "made"), M), ((Str.ofString "stores"), ST), ((Str.ofString "kept"), KP), ((Str.ofString "row"), RW), ((Str.ofString "x"), .int X)]) S4) := by kernel_rfl
theorem s_11 (N M ST KP RW : V) (X : Int) (S : AS) : RX C 11 [((Str.ofString "nums"), N), ((Str.ofString "made"), M), ((Str.ofString "stores"), ST), ((Str.ofString "kept"), KP), ((Str.ofString "row"), RW), ((Str.ofString "x"), .int X)] S = (methW (TT C) (sem (TT C) 287) (fS 46) (Str.ofString "copy") [] [((Str.ofString "nums"), N), ((Str.ofString "made"), M), ((Str.ofString "stores"), ST), ((Str.ofString "kept"), KP), ((Str.ofString "row"), RW), ((Str.ofString "x"), .int X)] M S fun v S1 => RX C 12 [((Str.ofString "sides"), .lst [M, v]), ((Str.ofString "nums"), N), ((Str.ofString "made"), M), ((Str.ofString "stores"), ST), ((Str.ofString "kept"), KP), ((Str.ofString "row"), RW), ((Str.ofString "x"), .int X)] S1) := by kernel_rfl
theorem s_12 (N M ST KP SD : V) (r : Nat) (X : Int) (S : AS) : RX C 12 [((Str.ofString "sides"), SD), ((Str.ofString "nums"), N), ((Str.ofString "made"), M), ((Str.ofString "stores"), ST), ((Str.ofString "kept"), KP), ((Str.ofString "row"), .ref r), ((Str.ofString "x"), .int X)] S = ((match getO S r with | some (.lst us) => cond (Nat.ble us.length 1000) (mkL true us S fun v S1 => RX C 13 [((Str.ofString "rows"), .lst [.ref r, v]), ((Str.ofString "sides"), SD), ((Str.ofString "nums"), N), ((Str.ofString "made"), M), ((Str.ofString "stores"), ST), ((Str.ofString "kept"), KP), ((Str.ofString "row"), .ref r), ((Str.ofString "x"), .int X)] S1) False | _ => False)) := by kernel_rfl
theorem s_13 (N M ST KP RW SD RS : V) (X : Int) (S : AS) : RX C 13 [((Str.ofString "rows"), RS), ((Str.ofString "sides"), SD), ((Str.ofString "nums"), N), ((Str.ofString "made"), M), ((Str.ofString "stores"), ST), ((Str.ofString "kept"), KP), ((Str.ofString "row"), RW), ((Str.ofString "x"), .int X)] S = (C 244 [SD, RS, ST] S fun v S1 => tbW v fun b => cond (!b) (KR (.bool false) S1) (RX C 14 [((Str.ofString "rows"), RS), ((Str.ofString "sides"), SD), ((Str.ofString "nums"), N), ((Str.ofString "made"), M), ((Str.ofString "stores"), ST), ((Str.ofString "kept"), KP), ((Str.ofString "row"), RW), ((Str.ofString "x"), .int X)] S1)) := by kernel_rfl
theorem s_14 (N M ST KP RW SD RS : V) (X : Int) (S : AS) : RX C 14 [((Str.ofString "rows"), RS), ((Str.ofString "sides"), SD), ((Str.ofString "nums"), N), ((Str.ofString "made"), M), ((Str.ofString "stores"), ST), ((Str.ofString "kept"), KP), ((Str.ofString "row"), RW), ((Str.ofString "x"), .int X)] S = (RX C 15 [((Str.ofString "given"), .ref S.length), ((Str.ofString "rows"), RS), ((Str.ofString "sides"), SD), ((Str.ofString "nums"), N), ((Str.ofString "made"), M), ((Str.ofString "stores"), ST), ((Str.ofString "kept"), KP), ((Str.ofString "row"), RW), ((Str.ofString "x"), .int X)] (S ++ [.lst []])) := by kernel_rfl
theorem s_15 (N M ST KP RW SD RS GV : V) (X : Int) (S : AS) : RX C 15 [((Str.ofString "given"), GV), ((Str.ofString "rows"), RS), ((Str.ofString "sides"), SD), ((Str.ofString "nums"), N), ((Str.ofString "made"), M), ((Str.ofString "stores"), ST), ((Str.ofString "kept"), KP), ((Str.ofString "row"), RW), ((Str.ofString "x"), .int X)] S = (forW (pick NB) (fun u l' S' kn' _ => BX C 15 0 285 (((Str.ofString "i"), u) :: l') S' kn') (rngL 3) [((Str.ofString "given"), GV), ((Str.ofString "rows"), RS), ((Str.ofString "sides"), SD), ((Str.ofString "nums"), N), ((Str.ofString "made"), M), ((Str.ofString "stores"), ST), ((Str.ofString "kept"), KP), ((Str.ofString "row"), RW), ((Str.ofString "x"), .int X)] S (fun l' S' => RX C 16 l' S') KR) := by kernel_rfl
theorem s_b15a (N M ST KP SD RS GV : V) (X i : Int) (kn : Lc → AS → Prop) (S : AS) : BX C 15 0 285 (((Str.ofString "i"), .int i) :: [((Str.ofString "nums"), N), ((Str.ofString "made"), M), ((Str.ofString "stores"), ST), ((Str.ofString "kept"), KP), ((Str.ofString "x"), .int X), ((Str.ofString "sides"), SD), ((Str.ofString "rows"), RS), ((Str.ofString "given"), GV)]) S kn = (C 194 [N, .int (9 + i)] S fun v S1 => BX C 15 1 284 (((Str.ofString "y"), v) :: ((Str.ofString "i"), .int i) :: [((Str.ofString "nums"), N), ((Str.ofString "made"), M), ((Str.ofString "stores"), ST), ((Str.ofString "kept"), KP), ((Str.ofString "x"), .int X), ((Str.ofString "sides"), SD), ((Str.ofString "rows"), RS), ((Str.ofString "given"), GV)]) S1 kn) := by kernel_rfl
theorem s_b15b (N M ST KP SD RS GV : V) (X i Y : Int) (kn : Lc → AS → Prop) (S : AS) : BX C 15 1 284 (((Str.ofString "y"), .int Y) :: ((Str.ofString "i"), .int i) :: [((Str.ofString "nums"), N), ((Str.ofString "made"), M), ((Str.ofString "stores"), ST), ((Str.ofString "kept"), KP), ((Str.ofString "x"), .int X), ((Str.ofString "sides"), SD), ((Str.ofString "rows"), RS), ((Str.ofString "given"), GV)]) S kn = (C 272 [.int (((Y.fdiv 2) + 6 * i).fmod 17), .int (Y.fdiv 34)] S fun v S1 => subW RS (.int (Y.fmod 2)) S1 fun o S2 => stI o (.int (((Y.fdiv 2) + 6 * i).fmod 17)) v S2 fun S3 => subW SD (.int (Y.fmod 2)) S3 fun o2 S4 => subW RS (.int (Y.fmod 2)) S4 fun o3 S5 => subW o3 (.int (((Y.fdiv 2) + 6 * i).fmod 17)) S5 fun w S6 => C 251 [o2, .int (((Y.fdiv 2) + 6 * i).fmod 17), w, ST] S6 fun _ S7 => C 194 [N, .int (12 + i)] S7 fun v8 S8 => BX C 15 6 279 (((Str.ofString "z"), v8) :: ((Str.ofString "f"), .int (((Y.fdiv 2) + 6 * i).fmod 17)) :: ((Str.ofString "s"), .int (Y.fmod 2)) :: ((Str.ofString "y"), .int Y) :: ((Str.ofString "i"), .int i) :: [((Str.ofString "nums"), N), ((Str.ofString "made"), M), ((Str.ofString "stores"), ST), ((Str.ofString "kept"), KP), ((Str.ofString "x"), .int X), ((Str.ofString "sides"), SD), ((Str.ofString "rows"), RS), ((Str.ofString "given"), GV)]) S8 kn) := by kernel_rfl
theorem s_b15c (N M ST KP SD RS GV F s Y : V) (X i Z : Int) (kn : Lc → AS → Prop) (S : AS) : BX C 15 6 279 (((Str.ofString "z"), .int Z) :: ((Str.ofString "f"), F) :: ((Str.ofString "s"), s) :: ((Str.ofString "y"), Y) :: ((Str.ofString "i"), .int i) :: [((Str.ofString "nums"), N), ((Str.ofString "made"), M), ((Str.ofString "stores"), ST), ((Str.ofString "kept"), KP), ((Str.ofString "x"), .int X), ((Str.ofString "sides"), SD), ((Str.ofString "rows"), RS), ((Str.ofString "given"), GV)]) S kn = (subW (.lst [.int 1, .int 3, .int 1099511627776, .int 2, .int 0, .int 7, .int 5]) (.int ((Z.fdiv 2).fmod 7)) S fun a S1 => subW (.lst [.int 0, .int 7, .int 5, .none, .int 9, .int 8]) (.int ((Z.fdiv 14).fmod 6)) S1 fun b S2 => subW (.lst [.int 0, .int Z, .int 1099511627776]) (.int ((Z.fdiv 84).fmod 3)) S2 fun d S3 => BX C 15 10 275 (((Str.ofString "applied"), d) :: ((Str.ofString "storage"), b) :: ((Str.ofString "nid"), a) :: ((Str.ofString "s"), .int (Z.fmod 2)) :: ((Str.ofString "z"), .int Z) :: ((Str.ofString "f"), F) :: ((Str.ofString "y"), Y) :: ((Str.ofString "i"), .int i) :: [((Str.ofString "nums"), N), ((Str.ofString "made"), M), ((Str.ofString "stores"), ST), ((Str.ofString "kept"), KP), ((Str.ofString "x"), .int X), ((Str.ofString "sides"), SD), ((Str.ofString "rows"), RS), ((Str.ofString "given"), GV)]) S3 kn) := by kernel_rfl
noncomputable def as10 : List PySem.Expr := match ((lb 15)[10]? : Option PySem.Stmt) with
  | some (.Assign _ (.Call _ as _ _) _) => as
  | _ => []
noncomputable def as11 : List PySem.Expr := match ((lb 15)[11]? : Option PySem.Stmt) with
  | some (.Expr (.Call _ as _ _) _) => as
  | _ => []
theorem s_b15d (N M ST KP SD RS GV F Y ap st nid : V) (X i Z s : Int) (kn : Lc → AS → Prop) (S : AS) : BX C 15 10 275 (((Str.ofString "applied"), ap) :: ((Str.ofString "storage"), st) :: ((Str.ofString "nid"), nid) :: ((Str.ofString "s"), .int s) :: ((Str.ofString "z"), .int Z) :: ((Str.ofString "f"), F) :: ((Str.ofString "y"), Y) :: ((Str.ofString "i"), .int i) :: [((Str.ofString "nums"), N), ((Str.ofString "made"), M), ((Str.ofString "stores"), ST), ((Str.ofString "kept"), KP), ((Str.ofString "x"), .int X), ((Str.ofString "sides"), SD), ((Str.ofString "rows"), RS), ((Str.ofString "given"), GV)]) S kn = (subW SD (.int s) S fun o S1 => methW (TT C) (sem (TT C) 273) (fS 46) (Str.ofString "raft_config") as10 (((Str.ofString "applied"), ap) :: ((Str.ofString "storage"), st) :: ((Str.ofString "nid"), nid) :: ((Str.ofString "s"), .int s) :: ((Str.ofString "z"), .int Z) :: ((Str.ofString "f"), F) :: ((Str.ofString "y"), Y) :: ((Str.ofString "i"), .int i) :: [((Str.ofString "nums"), N), ((Str.ofString "made"), M), ((Str.ofString "stores"), ST), ((Str.ofString "kept"), KP), ((Str.ofString "x"), .int X), ((Str.ofString "sides"), SD), ((Str.ofString "rows"), RS), ((Str.ofString "given"), GV)]) o S1 fun c S2 => BX C 15 11 274 (((Str.ofString "config"), c) :: ((Str.ofString "applied"), ap) :: ((Str.ofString "storage"), st) :: ((Str.ofString "nid"), nid) :: ((Str.ofString "s"), .int s) :: ((Str.ofString "z"), .int Z) :: ((Str.ofString "f"), F) :: ((Str.ofString "y"), Y) :: ((Str.ofString "i"), .int i) :: [((Str.ofString "nums"), N), ((Str.ofString "made"), M), ((Str.ofString "stores"), ST), ((Str.ofString "kept"), KP), ((Str.ofString "x"), .int X), ((Str.ofString "sides"), SD), ((Str.ofString "rows"), RS), ((Str.ofString "given"), GV)]) S2 kn) := by kernel_rfl
theorem s_as10 (N M ST KP SD RS GV F Y ap st nid : V) (X i Z s : Int) (S : AS) (k : List V → AS → Prop) : evs ((sem (TT C) 273).e (fS 46) (((Str.ofString "applied"), ap) :: ((Str.ofString "storage"), st) :: ((Str.ofString "nid"), nid) :: ((Str.ofString "s"), .int s) :: ((Str.ofString "z"), .int Z) :: ((Str.ofString "f"), F) :: ((Str.ofString "y"), Y) :: ((Str.ofString "i"), .int i) :: [((Str.ofString "nums"), N), ((Str.ofString "made"), M), ((Str.ofString "stores"), ST), ((Str.ofString "kept"), KP), ((Str.ofString "x"), .int X), ((Str.ofString "sides"), SD), ((Str.ofString "rows"), RS), ((Str.ofString "given"), GV)])) as10 S k = k [nid, st, ap] S := by kernel_rfl
theorem s_b15e (N M ST KP SD RS GV F Y ap st nid c : V) (X i Z s : Int) (kn : Lc → AS → Prop) (S : AS) : BX C 15 11 274 (((Str.ofString "config"), c) :: ((Str.ofString "applied"), ap) :: ((Str.ofString "storage"), st) :: ((Str.ofString "nid"), nid) :: ((Str.ofString "s"), .int s) :: ((Str.ofString "z"), .int Z) :: ((Str.ofString "f"), F) :: ((Str.ofString "y"), Y) :: ((Str.ofString "i"), .int i) :: [((Str.ofString "nums"), N), ((Str.ofString "made"), M), ((Str.ofString "stores"), ST), ((Str.ofString "kept"), KP), ((Str.ofString "x"), .int X), ((Str.ofString "sides"), SD), ((Str.ofString "rows"), RS), ((Str.ofString "given"), GV)]) S kn = (methW (TT C) (sem (TT C) 272) (fS 46) (Str.ofString "append") as11 (((Str.ofString "config"), c) :: ((Str.ofString "applied"), ap) :: ((Str.ofString "storage"), st) :: ((Str.ofString "nid"), nid) :: ((Str.ofString "s"), .int s) :: ((Str.ofString "z"), .int Z) :: ((Str.ofString "f"), F) :: ((Str.ofString "y"), Y) :: ((Str.ofString "i"), .int i) :: [((Str.ofString "nums"), N), ((Str.ofString "made"), M), ((Str.ofString "stores"), ST), ((Str.ofString "kept"), KP), ((Str.ofString "x"), .int X), ((Str.ofString "sides"), SD), ((Str.ofString "rows"), RS), ((Str.ofString "given"), GV)]) GV S fun _ S2 => BX C 15 12 273 (((Str.ofString "config"), c) :: ((Str.ofString "applied"), ap) :: ((Str.ofString "storage"), st) :: ((Str.ofString "nid"), nid) :: ((Str.ofString "s"), .int s) :: ((Str.ofString "z"), .int Z) :: ((Str.ofString "f"), F) :: ((Str.ofString "y"), Y) :: ((Str.ofString "i"), .int i) :: [((Str.ofString "nums"), N), ((Str.ofString "made"), M), ((Str.ofString "stores"), ST), ((Str.ofString "kept"), KP), ((Str.ofString "x"), .int X), ((Str.ofString "sides"), SD), ((Str.ofString "rows"), RS), ((Str.ofString "given"), GV)]) S2 kn) := by kernel_rfl
noncomputable def a11 : PySem.Expr := match as11 with
  | a :: _ => a
  | _ => .Tuple [] 0 default
theorem as11_eq : as11 = [a11] := by kernel_rfl
theorem s_as11 (N M ST KP SD RS GV F Y ap st nid c : V) (X i Z s : Int) (S : AS) (k : KV) : (sem (TT C) 272).e (fS 46) (((Str.ofString "config"), c) :: ((Str.ofString "applied"), ap) :: ((Str.ofString "storage"), st) :: ((Str.ofString "nid"), nid) :: ((Str.ofString "s"), .int s) :: ((Str.ofString "z"), .int Z) :: ((Str.ofString "f"), F) :: ((Str.ofString "y"), Y) :: ((Str.ofString "i"), .int i) :: [((Str.ofString "nums"), N), ((Str.ofString "made"), M), ((Str.ofString "stores"), ST), ((Str.ofString "kept"), KP), ((Str.ofString "x"), .int X), ((Str.ofString "sides"), SD), ((Str.ofString "rows"), RS), ((Str.ofString "given"), GV)]) a11 S k = (subW RS (.int s) S fun o S1 => C 234 [o, nid, st, ap] S1 fun v S2 => k (.tup [c, v]) S2) := by kernel_rfl
theorem s_b15f (N M ST KP SD RS GV F Y ap st nid c : V) (X i Z s : Int) (kn : Lc → AS → Prop) (S : AS) : BX C 15 12 273 (((Str.ofString "config"), c) :: ((Str.ofString "applied"), ap) :: ((Str.ofString "storage"), st) :: ((Str.ofString "nid"), nid) :: ((Str.ofString "s"), .int s) :: ((Str.ofString "z"), .int Z) :: ((Str.ofString "f"), F) :: ((Str.ofString "y"), Y) :: ((Str.ofString "i"), .int i) :: [((Str.ofString "nums"), N), ((Str.ofString "made"), M), ((Str.ofString "stores"), ST), ((Str.ofString "kept"), KP), ((Str.ofString "x"), .int X), ((Str.ofString "sides"), SD), ((Str.ofString "rows"), RS), ((Str.ofString "given"), GV)]) S kn = (C 227 [c] S fun v1 S1 => subW GV (.int i) S1 fun o S2 => subW o (.int 1) S2 fun w S3 => C 239 [v1, w] S3 fun v2 S4 => tbW v2 fun b => cond (!b) (KR (.bool false) S4) (C 244 [SD, RS, ST] S4 fun v3 S5 => tbW v3 fun b2 => cond (!b2) (KR (.bool false) S5) (kn (((Str.ofString "config"), c) :: ((Str.ofString "applied"), ap) :: ((Str.ofString "storage"), st) :: ((Str.ofString "nid"), nid) :: ((Str.ofString "s"), .int s) :: ((Str.ofString "z"), .int Z) :: ((Str.ofString "f"), F) :: ((Str.ofString "y"), Y) :: ((Str.ofString "i"), .int i) :: [((Str.ofString "nums"), N), ((Str.ofString "made"), M), ((Str.ofString "stores"), ST), ((Str.ofString "kept"), KP), ((Str.ofString "x"), .int X), ((Str.ofString "sides"), SD), ((Str.ofString "rows"), RS), ((Str.ofString "given"), GV)]) S5))) := by kernel_rfl
theorem s_16 (N M ST KP SD RS GV : V) (X : Int) (S : AS) : RX C 16 [((Str.ofString "nums"), N), ((Str.ofString "made"), M), ((Str.ofString "stores"), ST), ((Str.ofString "kept"), KP), ((Str.ofString "x"), .int X), ((Str.ofString "sides"), SD), ((Str.ofString "rows"), RS), ((Str.ofString "given"), GV)] S = (RX C 17 [((Str.ofString "s"), .int ((X.fdiv 2).fmod 2)), ((Str.ofString "nums"), N), ((Str.ofString "made"), M), ((Str.ofString "stores"), ST), ((Str.ofString "kept"), KP), ((Str.ofString "x"), .int X), ((Str.ofString "sides"), SD), ((Str.ofString "rows"), RS), ((Str.ofString "given"), GV)] S) := by kernel_rfl
theorem s_17 (N M ST KP SD RS GV : V) (X s : Int) (S : AS) : RX C 17 [((Str.ofString "s"), .int s), ((Str.ofString "nums"), N), ((Str.ofString "made"), M), ((Str.ofString "stores"), ST), ((Str.ofString "kept"), KP), ((Str.ofString "x"), .int X), ((Str.ofString "sides"), SD), ((Str.ofString "rows"), RS), ((Str.ofString "given"), GV)] S = (forW (pick NC) (fun u l' S' kn' _ => BX C 17 0 283 (((Str.ofString "f"), u) :: l') S' kn') (rngL 17) [((Str.ofString "s"), .int s), ((Str.ofString "nums"), N), ((Str.ofString "made"), M), ((Str.ofString "stores"), ST), ((Str.ofString "kept"), KP), ((Str.ofString "x"), .int X), ((Str.ofString "sides"), SD), ((Str.ofString "rows"), RS), ((Str.ofString "given"), GV)] S (fun l' S' => RX C 18 l' S') KR) := by kernel_rfl
theorem s_b17a (N ST KP SD RS GV : V) (X s f : Int) (kn : Lc → AS → Prop) (S : AS) : BX C 17 0 283 (((Str.ofString "f"), .int f) :: [((Str.ofString "nums"), N), ((Str.ofString "stores"), ST), ((Str.ofString "kept"), KP), ((Str.ofString "x"), .int X), ((Str.ofString "sides"), SD), ((Str.ofString "rows"), RS), ((Str.ofString "given"), GV), ((Str.ofString "s"), .int s)]) S kn = (C 194 [N, .int (4 + f)] S fun y S1 => binV false .FloorDiv y (.int 3) S1 fun a S2 => binV false .Add a (.int f) S2 fun b S3 => binV false .Mod b (.int 4) S3 fun c S4 => C 279 [.int f, c] S4 fun v S5 => BX C 17 1 282 (((Str.ofString "v"), v) :: ((Str.ofString "f"), .int f) :: [((Str.ofString "nums"), N), ((Str.ofString "stores"), ST), ((Str.ofString "kept"), KP), ((Str.ofString "x"), .int X), ((Str.ofString "sides"), SD), ((Str.ofString "rows"), RS), ((Str.ofString "given"), GV), ((Str.ofString "s"), .int s)]) S5 kn) := by kernel_rfl
theorem s_b17b (N ST KP SD RS GV v : V) (X s f : Int) (kn : Lc → AS → Prop) (S : AS) : BX C 17 1 282 (((Str.ofString "v"), v) :: ((Str.ofString "f"), .int f) :: [((Str.ofString "nums"), N), ((Str.ofString "stores"), ST), ((Str.ofString "kept"), KP), ((Str.ofString "x"), .int X), ((Str.ofString "sides"), SD), ((Str.ofString "rows"), RS), ((Str.ofString "given"), GV), ((Str.ofString "s"), .int s)]) S kn = (subW RS (.int s) S fun o S1 => cutW o none (some f) S1 fun a S2 => binV false .Add a (.lst [v]) S2 fun b S3 => subW RS (.int s) S3 fun o2 S4 => cutW o2 (some (f + 1)) none S4 fun d S5 => binV false .Add b d S5 fun e S6 => BX C 17 2 281 (((Str.ofString "probe"), e) :: ((Str.ofString "v"), v) :: ((Str.ofString "f"), .int f) :: [((Str.ofString "nums"), N), ((Str.ofString "stores"), ST), ((Str.ofString "kept"), KP), ((Str.ofString "x"), .int X), ((Str.ofString "sides"), SD), ((Str.ofString "rows"), RS), ((Str.ofString "given"), GV), ((Str.ofString "s"), .int s)]) S6 kn) := by kernel_rfl
theorem s_b17c (N ST KP SD RS GV v PB : V) (X s f : Int) (kn : Lc → AS → Prop) (S : AS) : BX C 17 2 281 (((Str.ofString "probe"), PB) :: ((Str.ofString "v"), v) :: ((Str.ofString "f"), .int f) :: [((Str.ofString "nums"), N), ((Str.ofString "stores"), ST), ((Str.ofString "kept"), KP), ((Str.ofString "x"), .int X), ((Str.ofString "sides"), SD), ((Str.ofString "rows"), RS), ((Str.ofString "given"), GV), ((Str.ofString "s"), .int s)]) S kn = (subW SD (.int s) S fun o S1 => C 251 [o, .int f, v, ST] S1 fun _ S2 => subW SD (.int s) S2 fun o3 S3 => C 319 [o3] S3 fun r1 S4 => C 293 [PB] S4 fun r2 S5 => cmpV .NotEq r1 r2 S5 fun b S6 => cond b (KR (.bool false) S6) (subW SD (.int s) S6 fun o7 S7 => C 220 [o7, ST] S7 fun v1 S8 => C 239 [v1, PB] S8 fun v2 S9 => tbW v2 fun b2 => cond (!b2) (KR (.bool false) S9) (subW SD (.int s) S9 fun o10 S10 => subW RS (.int s) S10 fun o11 S11 => subW o11 (.int f) S11 fun w S12 => C 251 [o10, .int f, w, ST] S12 fun _ S13 => kn (((Str.ofString "probe"), PB) :: ((Str.ofString "v"), v) :: ((Str.ofString "f"), .int f) :: [((Str.ofString "nums"), N), ((Str.ofString "stores"), ST), ((Str.ofString "kept"), KP), ((Str.ofString "x"), .int X), ((Str.ofString "sides"), SD), ((Str.ofString "rows"), RS), ((Str.ofString "given"), GV), ((Str.ofString "s"), .int s)]) S13))) := by kernel_rfl
noncomputable def ts18 : List PySem.Expr := match ((fB 46)[18]? : Option PySem.Stmt) with
  | some (.Assign [.Tuple ts _ _] _ _) => ts
  | _ => []
noncomputable def W18 (l : Lc) (v : V) (S : AS) : Prop :=
  match v with
  | .tup vs => cond (vs.length == ts18.length) (asgs (TT C) (sem (TT C) 282) (fS 46) l ts18 vs S (fun l' S' => RX C 19 l' S')) False
  | _ => False
theorem s_18 (N ST KP SD RS GV : V) (X s : Int) (S : AS) : RX C 18 [((Str.ofString "nums"), N), ((Str.ofString "stores"), ST), ((Str.ofString "kept"), KP), ((Str.ofString "x"), .int X), ((Str.ofString "sides"), SD), ((Str.ofString "rows"), RS), ((Str.ofString "given"), GV), ((Str.ofString "s"), .int s)] S = (subW GV (.int 2) S fun v S1 => W18 C [((Str.ofString "nums"), N), ((Str.ofString "stores"), ST), ((Str.ofString "kept"), KP), ((Str.ofString "x"), .int X), ((Str.ofString "sides"), SD), ((Str.ofString "rows"), RS), ((Str.ofString "given"), GV), ((Str.ofString "s"), .int s)] v S1) := by kernel_rfl
theorem s_W18 (N ST KP SD RS GV a b : V) (X s : Int) (S : AS) : W18 C [((Str.ofString "nums"), N), ((Str.ofString "stores"), ST), ((Str.ofString "kept"), KP), ((Str.ofString "x"), .int X), ((Str.ofString "sides"), SD), ((Str.ofString "rows"), RS), ((Str.ofString "given"), GV), ((Str.ofString "s"), .int s)] (.tup [a, b]) S = (RX C 19 [((Str.ofString "want"), b), ((Str.ofString "config"), a), ((Str.ofString "nums"), N), ((Str.ofString "stores"), ST), ((Str.ofString "kept"), KP), ((Str.ofString "x"), .int X), ((Str.ofString "sides"), SD), ((Str.ofString "rows"), RS), ((Str.ofString "given"), GV), ((Str.ofString "s"), .int s)] S) := by kernel_rfl
theorem s_19 (N ST KP SD RS GV CF WT : V) (X s : Int) (S : AS) : RX C 19 [((Str.ofString "want"), WT), ((Str.ofString "config"), CF), ((Str.ofString "nums"), N), ((Str.ofString "stores"), ST), ((Str.ofString "kept"), KP), ((Str.ofString "x"), .int X), ((Str.ofString "sides"), SD), ((Str.ofString "rows"), RS), ((Str.ofString "given"), GV), ((Str.ofString "s"), .int s)] S = (cond ((X.fdiv 8).fmod 4 != 3) (stI WT (.int 0) (.int 5) S fun S0 => C 258 [CF, .int 0, .int 5] S0 fun _ S1 => stI WT (.int 3) (.int 6) S1 fun S2 => C 258 [CF, .int 3, .int 6] S2 fun _ S3 => stI WT (.int 11) (.bool true) S3 fun S4 => C 258 [CF, .int 11, .bool true] S4 fun _ S5 => RX C 20 [((Str.ofString "nums"), N), ((Str.ofString "stores"), ST), ((Str.ofString "kept"), KP), ((Str.ofString "sides"), SD), ((Str.ofString "rows"), RS), ((Str.ofString "given"), GV), ((Str.ofString "config"), CF), ((Str.ofString "want"), WT)] S5) (RX C 20 [((Str.ofString "want"), WT), ((Str.ofString "config"), CF), ((Str.ofString "nums"), N), ((Str.ofString "stores"), ST), ((Str.ofString "kept"), KP), ((Str.ofString "x"), .int X), ((Str.ofString "sides"), SD), ((Str.ofString "rows"), RS), ((Str.ofString "given"), GV), ((Str.ofString "s"), .int s)] S)) := by kernel_rfl
theorem s_20a (N ST KP SD RS GV CF WT : V) (X s : Int) (S : AS) : RX C 20 [((Str.ofString "want"), WT), ((Str.ofString "config"), CF), ((Str.ofString "nums"), N), ((Str.ofString "stores"), ST), ((Str.ofString "kept"), KP), ((Str.ofString "x"), .int X), ((Str.ofString "sides"), SD), ((Str.ofString "rows"), RS), ((Str.ofString "given"), GV), ((Str.ofString "s"), .int s)] S = (forW (pick ND) (fun u l' S' kn' _ => BX C 20 0 280 (((Str.ofString "f"), u) :: l') S' kn') (rngL 16) [((Str.ofString "want"), WT), ((Str.ofString "config"), CF), ((Str.ofString "nums"), N), ((Str.ofString "stores"), ST), ((Str.ofString "kept"), KP), ((Str.ofString "x"), .int X), ((Str.ofString "sides"), SD), ((Str.ofString "rows"), RS), ((Str.ofString "given"), GV), ((Str.ofString "s"), .int s)] S (fun l' S' => RX C 21 l' S') KR) := by kernel_rfl
theorem s_20b (N ST KP SD RS GV CF WT : V) (S : AS) : RX C 20 [((Str.ofString "nums"), N), ((Str.ofString "stores"), ST), ((Str.ofString "kept"), KP), ((Str.ofString "sides"), SD), ((Str.ofString "rows"), RS), ((Str.ofString "given"), GV), ((Str.ofString "config"), CF), ((Str.ofString "want"), WT)] S = (forW (pick ND) (fun u l' S' kn' _ => BX C 20 0 280 (((Str.ofString "f"), u) :: l') S' kn') (rngL 16) [((Str.ofString "nums"), N), ((Str.ofString "stores"), ST), ((Str.ofString "kept"), KP), ((Str.ofString "sides"), SD), ((Str.ofString "rows"), RS), ((Str.ofString "given"), GV), ((Str.ofString "config"), CF), ((Str.ofString "want"), WT)] S (fun l' S' => RX C 21 l' S') KR) := by kernel_rfl
theorem t_b20a (N ST KP SD RS GV CF WT : V) (f : Int) (S : AS) (K : Lc → AS → Prop) : stW (TT C) (sem (TT C) 279) (fS 46) (((Str.ofString "f"), .int f) :: [((Str.ofString "nums"), N), ((Str.ofString "stores"), ST), ((Str.ofString "kept"), KP), ((Str.ofString "sides"), SD), ((Str.ofString "rows"), RS), ((Str.ofString "given"), GV), ((Str.ofString "config"), CF), ((Str.ofString "want"), WT)]) (stB 20 0) S K KR = (C 194 [N, .int (7 + f)] S fun y S1 => binV false .FloorDiv y (.int 4) S1 fun a S2 => binV false .Add a (.int f) S2 fun b S3 => binV false .Mod b (.int 4) S3 fun c S4 => C 286 [.int f, c, WT] S4 fun v S5 => K (((Str.ofString "v"), v) :: ((Str.ofString "f"), .int f) :: [((Str.ofString "nums"), N), ((Str.ofString "stores"), ST), ((Str.ofString "kept"), KP), ((Str.ofString "sides"), SD), ((Str.ofString "rows"), RS), ((Str.ofString "given"), GV), ((Str.ofString "config"), CF), ((Str.ofString "want"), WT)]) S5) := by kernel_rfl
theorem stepB20_0 (l : Lc) (S : AS) (kn : Lc → AS → Prop) : BX C 20 0 280 l S kn = stW (TT C) (sem (TT C) 279) (fS 46) l (stB 20 0) S (fun l' S' => BX C 20 1 279 l' S' kn) KR := by kernel_rfl
theorem s_b20a (N ST KP SD RS GV CF WT : V) (f : Int) (kn : Lc → AS → Prop) (S : AS) : BX C 20 0 280 (((Str.ofString "f"), .int f) :: [((Str.ofString "nums"), N), ((Str.ofString "stores"), ST), ((Str.ofString "kept"), KP), ((Str.ofString "sides"), SD), ((Str.ofString "rows"), RS), ((Str.ofString "given"), GV), ((Str.ofString "config"), CF), ((Str.ofString "want"), WT)]) S kn = (C 194 [N, .int (7 + f)] S fun y S1 => binV false .FloorDiv y (.int 4) S1 fun a S2 => binV false .Add a (.int f) S2 fun b S3 => binV false .Mod b (.int 4) S3 fun c S4 => C 286 [.int f, c, WT] S4 fun v S5 => BX C 20 1 279 (((Str.ofString "v"), v) :: ((Str.ofString "f"), .int f) :: [((Str.ofString "nums"), N), ((Str.ofString "stores"), ST), ((Str.ofString "kept"), KP), ((Str.ofString "sides"), SD), ((Str.ofString "rows"), RS), ((Str.ofString "given"), GV), ((Str.ofString "config"), CF), ((Str.ofString "want"), WT)]) S5 kn) := (stepB20_0 C _ S kn).trans (t_b20a C N ST KP SD RS GV CF WT f S fun l' S' => BX C 20 1 279 l' S' kn)
theorem s_b20b (N ST KP SD RS GV CF WT v : V) (f : Int) (kn : Lc → AS → Prop) (S : AS) : BX C 20 1 279 (((Str.ofString "v"), v) :: ((Str.ofString "f"), .int f) :: [((Str.ofString "nums"), N), ((Str.ofString "stores"), ST), ((Str.ofString "kept"), KP), ((Str.ofString "sides"), SD), ((Str.ofString "rows"), RS), ((Str.ofString "given"), GV), ((Str.ofString "config"), CF), ((Str.ofString "want"), WT)]) S kn = (cutW WT none (some f) S fun a S2 => binV false .Add a (.lst [v]) S2 fun b S3 => cutW WT (some (f + 1)) none S3 fun d S5 => binV false .Add b d S5 fun e S6 => BX C 20 2 278 (((Str.ofString "probe"), e) :: ((Str.ofString "v"), v) :: ((Str.ofString "f"), .int f) :: [((Str.ofString "nums"), N), ((Str.ofString "stores"), ST), ((Str.ofString "kept"), KP), ((Str.ofString "sides"), SD), ((Str.ofString "rows"), RS), ((Str.ofString "given"), GV), ((Str.ofString "config"), CF), ((Str.ofString "want"), WT)]) S6 kn) := by kernel_rfl
noncomputable def lbg : List PySem.Stmt := match ((lb 20)[8]? : Option PySem.Stmt) with
  | some (.For _ _ b _ _) => b
  | _ => []
noncomputable def R20 (N ST KP SD RS GV CF WT v PB bd sh : V) (f : Int) (kn : Lc → AS → Prop) (S : AS) : Prop := C 312 [sh] S fun p1 S1 => C 312 [PB] S1 fun p2 S2 => C 239 [p1, p2] S2 fun w S3 => tbW w fun b => cond (!b) (KR (.bool false) S3) (forW (pick NE) (fun u l' S' kn' _ => (sem (TT C) 271).x (fS 46) (((Str.ofString "g"), u) :: l') lbg S' kn' KR) [.int f, .int 7, .int 8, .int 10] (((Str.ofString "shown"), sh) :: ((Str.ofString "bad"), bd) :: ((Str.ofString "probe"), PB) :: ((Str.ofString "v"), v) :: ((Str.ofString "f"), .int f) :: [((Str.ofString "nums"), N), ((Str.ofString "stores"), ST), ((Str.ofString "kept"), KP), ((Str.ofString "sides"), SD), ((Str.ofString "rows"), RS), ((Str.ofString "given"), GV), ((Str.ofString "config"), CF), ((Str.ofString "want"), WT)]) S3 (fun l' S' => kn l' S') KR)
theorem s_b20c (N ST KP SD RS GV CF WT v PB : V) (f : Int) (kn : Lc → AS → Prop) (S : AS) : BX C 20 2 278 (((Str.ofString "probe"), PB) :: ((Str.ofString "v"), v) :: ((Str.ofString "f"), .int f) :: [((Str.ofString "nums"), N), ((Str.ofString "stores"), ST), ((Str.ofString "kept"), KP), ((Str.ofString "sides"), SD), ((Str.ofString "rows"), RS), ((Str.ofString "given"), GV), ((Str.ofString "config"), CF), ((Str.ofString "want"), WT)]) S kn = (C 258 [CF, .int f, v] S fun _ S1 => C 326 [CF] S1 fun bd S2 => C 227 [CF] S2 fun sh S3 => C 300 [PB] S3 fun uf S4 => cmpV .NotEq bd uf S4 fun b S5 => cond b (KR (.bool false) S5) (tbW bd fun b1 => cond (!b1) (C 305 [PB] S5 fun st S6 => C 239 [sh, st] S6 fun v2 S7 => tbW v2 fun b2 => cond (!b2) (KR (.bool false) S7) (R20 C N ST KP SD RS GV CF WT v PB bd sh f kn S7)) (R20 C N ST KP SD RS GV CF WT v PB bd sh f kn S5))) := by kernel_rfl
theorem s_g (N ST KP SD RS GV CF WT SH : V) (g : Int) (kn : Lc → AS → Prop) (S : AS) : (sem (TT C) 271).x (fS 46) (((Str.ofString "g"), .int g) :: [((Str.ofString "nums"), N), ((Str.ofString "stores"), ST), ((Str.ofString "kept"), KP), ((Str.ofString "sides"), SD), ((Str.ofString "rows"), RS), ((Str.ofString "given"), GV), ((Str.ofString "config"), CF), ((Str.ofString "want"), WT), ((Str.ofString "shown"), SH)]) lbg S kn KR = (subW SH (.int g) S fun a S1 => subW WT (.int g) S1 fun b S2 => cmpV .NotEq a b S2 fun r S3 => cond r (subW WT (.int g) S3 fun w S4 => C 258 [CF, .int g, w] S4 fun _ S5 => kn (((Str.ofString "g"), .int g) :: [((Str.ofString "nums"), N), ((Str.ofString "stores"), ST), ((Str.ofString "kept"), KP), ((Str.ofString "sides"), SD), ((Str.ofString "rows"), RS), ((Str.ofString "given"), GV), ((Str.ofString "config"), CF), ((Str.ofString "want"), WT), ((Str.ofString "shown"), SH)]) S5) (kn (((Str.ofString "g"), .int g) :: [((Str.ofString "nums"), N), ((Str.ofString "stores"), ST), ((Str.ofString "kept"), KP), ((Str.ofString "sides"), SD), ((Str.ofString "rows"), RS), ((Str.ofString "given"), GV), ((Str.ofString "config"), CF), ((Str.ofString "want"), WT), ((Str.ofString "shown"), SH)]) S3)) := by kernel_rfl
theorem s_21 (N a b d KP SD RS GV CF WT : V) (S : AS) : RX C 21 [((Str.ofString "nums"), N), ((Str.ofString "stores"), .lst [a, b, d]), ((Str.ofString "kept"), KP), ((Str.ofString "sides"), SD), ((Str.ofString "rows"), RS), ((Str.ofString "given"), GV), ((Str.ofString "config"), CF), ((Str.ofString "want"), WT)] S = (C 244 [SD, RS, .lst [a, b, d]] S fun v S1 => tbW v fun b0 => cond (!b0) (KR (.bool false) S1) (C 215 [a] S1 fun u1 S2 => C 215 [b] S2 fun u2 S3 => C 215 [d] S3 fun u3 S4 => cmpV .NotEq (.lst [u1, u2, u3]) KP S4 fun r S5 => cond r (KR (.bool false) S5) (RX C 22 [((Str.ofString "nums"), N), ((Str.ofString "stores"), .lst [a, b, d]), ((Str.ofString "kept"), KP), ((Str.ofString "sides"), SD), ((Str.ofString "rows"), RS), ((Str.ofString "given"), GV), ((Str.ofString "config"), CF), ((Str.ofString "want"), WT)] S5))) := by kernel_rfl
theorem s_22 (N ST KP SD RS CF WT a0 b0 a1 b1 a2 b2 : V) (o0 o1 o2 o3 o4 o5 o6 o7 : O) (J : AS) : RX C 22 [((Str.ofString "nums"), N), ((Str.ofString "stores"), ST), ((Str.ofString "kept"), KP), ((Str.ofString "sides"), SD), ((Str.ofString "rows"), RS), ((Str.ofString "given"), .ref 8), ((Str.ofString "config"), CF), ((Str.ofString "want"), WT)] (o0 :: o1 :: o2 :: o3 :: o4 :: o5 :: o6 :: o7 :: .lst [.tup [a0, b0], .tup [a1, b1], .tup [a2, b2]] :: J) = (C 227 [a0] (o0 :: o1 :: o2 :: o3 :: o4 :: o5 :: o6 :: o7 :: .hole :: J) fun v1 S1 => C 239 [v1, b0] S1 fun r1 S2 => C 227 [a1] S2 fun v2 S3 => C 239 [v2, b1] S3 fun r2 S4 => C 227 [a2] S4 fun v3 S5 => C 239 [v3, b2] S5 fun r3 S6 => bcal .all [.lst [r1, r2, r3]] S6 KR) := by kernel_rfl

theorem forW_inv {pk : Lc → Lc} {body : V → Lc → AS → (Lc → AS → Prop) → KV → Prop} {kn : Lc → AS → Prop} {kr : KV} (Inv : Lc → AS → Prop) : ∀ (vs : List V) (l : Lc) (S : AS), Inv (pk l) S →
    (∀ v ∈ vs, ∀ l S (kn' : Lc → AS → Prop), Inv l S → (∀ l' S', Inv (pk l') S' → kn' l' S') → body v l S kn' kr) → (∀ l S, Inv l S → kn l S) → forW pk body vs l S kn kr
  | [], l, S, h, _, hk => hk _ _ h
  | v :: r, l, S, h, hb, hk => hb v (.head _) _ _ _ h fun l' S' h' => forW_inv Inv r l' S' h' (fun u hu => hb u (.tail _ hu)) hk
theorem rng_mem {m : Int} {v : V} (h : v ∈ rngL m) : ∃ i : Int, v = .int i ∧ 0 ≤ i ∧ i < m := by
  obtain ⟨j, hj, rfl⟩ := List.mem_map.mp h
  have := List.mem_range.mp hj
  exact ⟨j, rfl, by omega, by omega⟩
theorem stI_at {S : AS} {a : Nat} {us : List V} {n : Int} {v : V} {k : AS → Prop} (h : getO S a = some (.lst us)) (h0 : 0 ≤ n) (h1 : n < us.length) (hz : us.length ≤ 1000) (hk : k (putO S a (.lst (us.set n.toNat v)))) : stI (.ref a) (.int n) v S k := by
  unfold stI
  simp only [h, decide_eq_true h0, decide_eq_true h1, Nat.ble_eq_true_of_le hz, Bool.and_self, cond_true]
  exact hk
theorem tb_true {A B : Prop} (h : B) : tbW (.bool true) (fun b => cond (!b) A B) := h
noncomputable abbrev tinyO : O := .inst 106 tinyF
noncomputable abbrev stdO : O := .inst 106 optP
noncomputable def tin1F : Lc := setF (Str.ofString "log_block") (.int 1) tinyF
noncomputable abbrev tin1O : O := .inst 106 tin1F
noncomputable def stdV : List V := optP.map (·.2)
noncomputable def tin1V : List V := tin1F.map (·.2)
theorem tiny_zip : tinyF = oNames.zip smallL := by kernel_rfl
theorem std_zip : optP = oNames.zip stdV := by kernel_rfl
theorem tin1_zip : tin1F = oNames.zip tin1V := by kernel_rfl
noncomputable def KPv : V := .lst [.lst smallL, .lst stdV, .lst tin1V]
noncomputable def SA (xs : List V) : AS := [optO xs, tinyO, stdO, tin1O, .lst xs]
noncomputable abbrev LA (N : V) (X : Int) : Lc := [(Str.ofString "nums", N), (Str.ofString "made", .ref 0), (Str.ofString "stores", sv3), (Str.ofString "kept", KPv), (Str.ofString "row", .ref 4), (Str.ofString "x", .int X)]
theorem first_kl : KL 17 rKd firstL := KL_row (d := ⟨2, 0, 4, 1, [0], true, true, 0, 256, 4, 64, 512, 4, 1, 48, 6, 512⟩) (by decide) rfl rfl rfl rfl rfl rfl rfl rfl rfl rfl rfl rfl rfl
theorem small_pl : ∀ v ∈ smallL, PlV v := by
  have hi : ∀ n : Int, PlV (.int n) := fun n => ⟨rfl, .int n, rfl, rfl, by simp [PyData.depth], by simp [PyData.eqv]⟩
  have hb : ∀ b : Bool, PlV (.bool b) := fun b => ⟨rfl, .bool b, rfl, rfl, by simp [PyData.depth], by simp [PyData.eqv]⟩
  have ht : PlV (.tup [.int 1, .int 2, .int 1, .int 3, .int 1, .int 2, .int 1, .int 4]) := pl_of (κ := .tup) ⟨[1, 2, 1, 3, 1, 2, 1, 4], by decide, rfl⟩
  unfold smallL
  repeat first | exact all_nil | refine all_cons (hi _) ?_ | refine all_cons (hb _) ?_ | refine all_cons ht ?_
section
variable {N : V} {X : Int} {xs : List V}
theorem A9' (hN : NumsOk N) (hX : 0 ≤ X ∧ X < 2000000) (hx : KL 17 rKd xs) {kn : Lc → AS → Prop} {f : Int} (h0 : 0 ≤ f) (h1 : f < 17) (hk : ∀ xs', KL 17 rKd xs' → kn ((Str.ofString "f", .int f) :: LA N X) (SA xs')) : BX calL 9 0 290 ((Str.ofString "f", .int f) :: LA N X) (SA xs) kn := by
  rw [s_b9]
  have hd := fdiv_b (x := X) (y := 4) (by decide) hX.1
  refine viaL rfl rfl rfl (L_other h0 h1 hd.1 (by omega) fun v hv => ?_)
  have hl := hx.1
  refine stI_at (a := 4) (us := xs) rfl h0 (by omega) (by omega) ?_
  show subW (.ref 4) (.int f) [optO xs, tinyO, stdO, tin1O, .lst (xs.set f.toNat v)] _
  refine subW_of (us := xs.set f.toNat v) (u := v) rfl h0 (List.getElem?_set_self (by omega)) (by omega) ?_
  refine viaL rfl rfl rfl (L_put (i := 0) (xs := xs) rfl hl h0 h1 hv ?_)
  exact hk _ (hx.set hv)
theorem A10' (hN : NumsOk N) (hx : KL 17 rKd xs) {kn : Lc → AS → Prop} {i : Int} (h0 : 0 ≤ i) (h1 : i < 50) (hk : ∀ f y xs', KL 17 rKd xs' → kn ((Str.ofString "f", f) :: (Str.ofString "y", y) :: (Str.ofString "i", .int i) :: LA N X) (SA xs')) : BX calL 10 0 290 ((Str.ofString "i", .int i) :: LA N X) (SA xs) kn := by
  rw [s_b10a]
  refine viaL rfl rfl rfl (L_draw hN (by omega) (by omega) fun Y hY0 hY1 => ?_)
  rw [s_b10b]
  have hd := fdiv_b (x := Y) (y := 17) (by decide) hY0
  have hm := fmod_b (Y + 5 * i) (y := 17) (by decide)
  generalize (Y + 5 * i).fmod 17 = f at *
  refine viaL rfl rfl rfl (L_value hm.1 hm.2 hd.1 (by omega) fun v hv => ?_)
  have hl := hx.1
  refine stI_at (a := 4) (us := xs) rfl hm.1 (by omega) (by omega) ?_
  show subW (.ref 4) (.int f) [optO xs, tinyO, stdO, tin1O, .lst (xs.set f.toNat v)] _
  refine subW_of (us := xs.set f.toNat v) (u := v) rfl hm.1 (List.getElem?_set_self (by omega)) (by omega) ?_
  refine viaL rfl rfl rfl (L_put (i := 0) (xs := xs) rfl hl hm.1 hm.2 hv ?_)
  exact hk _ _ _ (hx.set hv)
end

theorem pk9 (N : V) (X : Int) (f : V) : pick NA ((Str.ofString "f", f) :: LA N X) = LA N X := by kernel_rfl
theorem pk10 (N : V) (X : Int) (f y i : V) : pick NA ((Str.ofString "f", f) :: (Str.ofString "y", y) :: (Str.ofString "i", i) :: LA N X) = LA N X := by kernel_rfl
noncomputable abbrev l9 (N : V) (X : Int) : Lc := [(Str.ofString "x", .int X), (Str.ofString "row", .ref 4), (Str.ofString "kept", KPv), (Str.ofString "stores", sv3), (Str.ofString "made", .ref 0), (Str.ofString "nums", N)]
theorem pk9' (N : V) (X : Int) : pick NA (l9 N X) = LA N X := by kernel_rfl
theorem pkA (N : V) (X : Int) : pick NA (LA N X) = LA N X := by kernel_rfl
section
variable {N : V} {X : Int} {xs : List V}
theorem A10f (hN : NumsOk N) (hx : KL 17 rKd xs) {m : Int} (hm : m < 50) {l : Lc} (hl : pick NA l = LA N X) (next : ∀ xs', KL 17 rKd xs' → RX calL 11 (LA N X) (SA xs')) :
    forW (pick NA) (fun u l' S' kn' _ => BX calL 10 0 290 ((Str.ofString "i", u) :: l') S' kn') (rngL m) l (SA xs) (fun l' S' => RX calL 11 l' S') KR := by
  refine forW_inv (fun l S => l = LA N X ∧ ∃ xs, KL 17 rKd xs ∧ S = SA xs) _ _ _ ⟨hl, xs, hx, rfl⟩ ?_ ?_
  · rintro v hv l S kn' ⟨rfl, ys, hy, rfl⟩ hk
    obtain ⟨i, rfl, h0, h1⟩ := rng_mem hv
    exact A10' hN hy h0 (by omega) fun f y zs hz => hk _ _ ⟨pk10 _ _ _ _ _, zs, hz, rfl⟩
  · rintro l S ⟨rfl, ys, hy, rfl⟩
    exact next ys hy
theorem A10 (hN : NumsOk N) (hX : 0 ≤ X ∧ X < 2000000) (hx : KL 17 rKd xs) (next : ∀ xs', KL 17 rKd xs' → RX calL 11 (LA N X) (SA xs')) : RX calL 10 (l9 N X) (SA xs) ∧ RX calL 10 (LA N X) (SA xs) := by
  have hm := fmod_b (X.fdiv 4) (y := 9) (by decide)
  have hb : (decide (8 - (X.fdiv 4).fmod 9 ≤ 1000) && decide (-1000 ≤ 8 - (X.fdiv 4).fmod 9)) = true := by
    rw [decide_eq_true (by omega), decide_eq_true (by omega)]
    rfl
  constructor
  · rw [s_10a]
    exact condI hb (condI hb (A10f hN hx (by omega) (pk9' N X) next))
  · rw [s_10b]
    exact condI hb (condI hb (A10f hN hx (by omega) (pkA N X) next))
theorem A9 (hN : NumsOk N) (hX : 0 ≤ X ∧ X < 2000000) (hx : KL 17 rKd xs) (next : ∀ xs', KL 17 rKd xs' → RX calL 11 (LA N X) (SA xs')) : RX calL 9 (l9 N X) (SA xs) := by
  rw [s_9]
  refine cond2 (fun _ => ?_) (fun _ => (A10 hN hX hx next).1)
  refine forW_inv (fun l S => l = LA N X ∧ ∃ xs, KL 17 rKd xs ∧ S = SA xs) _ _ _ ⟨pk9' N X, xs, hx, rfl⟩ ?_ ?_
  · rintro v hv l S kn' ⟨rfl, ys, hy, rfl⟩ hk
    obtain ⟨f, rfl, h0, h1⟩ := rng_mem hv
    exact A9' hN hX hy h0 h1 fun zs hz => hk _ _ ⟨pk9 _ _ _, zs, hz, rfl⟩
  · rintro l S ⟨rfl, ys, hy, rfl⟩
    exact (A10 hN hX hy next).2
theorem st3A : St3 (SA xs) := ⟨⟨_, rfl⟩, ⟨_, rfl⟩, ⟨_, rfl⟩⟩
theorem A2 (hN : NumsOk N) (next : ∀ X xs', 0 ≤ X → KL 17 rKd xs' → RX calL 11 (LA N X) (SA xs')) : RX calL 2 [(Str.ofString "nums", N)] [] := by
  rw [s_2]
  refine viaL rfl rfl rfl (L_ReplicaOptions (n := 4) ?_)
  show RX calL 3 [(Str.ofString "made", .ref 0), (Str.ofString "nums", N)] [optO firstL, tinyO]
  rw [s_3]
  refine attrW_of (i := 0) (u := .ref 1) rfl (by kernel_rfl) ?_
  refine viaL rfl rfl rfl (L_Options ?_)
  refine viaL rfl rfl rfl (L_Options ?_)
  show methW (TT calL) _ _ _ [] _ (.ref 3) [optO firstL, tinyO, stdO, stdO] _
  refine meth_of (i := 3) (fs := optP) (a := 103) rfl (by decide +kernel) (by decide +kernel) ?_
  refine viaL rfl rfl rfl (L_tiny (i := 3) rfl ?_)
  show RX calL 4 [(Str.ofString "stores", sv3), (Str.ofString "made", .ref 0), (Str.ofString "nums", N)] [optO firstL, tinyO, stdO, tinyO]
  rw [s_4]
  refine subW_of (us := [.ref 1, .ref 2, .ref 3]) (u := .ref 3) rfl (by decide) rfl (by decide) ?_
  refine stF_of (i := 3) (fs := tinyF) rfl (by decide +kernel) ?_
  show RX calL 5 [(Str.ofString "stores", sv3), (Str.ofString "made", .ref 0), (Str.ofString "nums", N)] [optO firstL, tinyO, stdO, tin1O]
  rw [s_5]
  refine viaL rfl rfl rfl (L_sizes (i := 1) (fs := tinyF) rfl tiny_zip rfl ?_)
  refine viaL rfl rfl rfl (L_sizes (i := 2) (fs := optP) rfl std_zip (by decide +kernel) ?_)
  refine viaL rfl rfl rfl (L_sizes (i := 3) (fs := tin1F) rfl tin1_zip (by decide +kernel) ?_)
  show RX calL 6 [(Str.ofString "kept", KPv), (Str.ofString "stores", sv3), (Str.ofString "made", .ref 0), (Str.ofString "nums", N)] [optO firstL, tinyO, stdO, tin1O]
  rw [s_6]
  refine viaL rfl rfl rfl (L_first ?_)
  show RX calL 7 [(Str.ofString "row", .ref 4), (Str.ofString "kept", KPv), (Str.ofString "stores", sv3), (Str.ofString "made", .ref 0), (Str.ofString "nums", N)] (SA firstL)
  rw [s_7]
  refine viaL rfl rfl rfl (L_told (i := 0) (xs := firstL) rfl first_kl st3A ?_)
  refine viaL rfl rfl rfl (L_sameR (j := 4) rfl first_kl.pl (by decide) (tb_true ?_))
  refine subW_of (us := [.lst smallL, .lst stdV, .lst tin1V]) rfl (by decide) rfl (by decide) ?_
  refine viaL rfl rfl rfl (L_small ?_)
  refine viaL rfl rfl rfl (L_sameL small_pl (by decide) (tb_true ?_))
  rw [s_8]
  refine viaL rfl rfl rfl (L_draw hN (by decide) (by decide) fun X hX0 hX1 => ?_)
  exact A9 hN ⟨hX0, hX1⟩ first_kl fun xs' hx' => next X xs' hX0 hx'
theorem A1 (hN : ∃ ns : List Int, N = .lst (ns.map .int) ∧ ns.length ≤ 24 ∧ ∀ n ∈ ns, 0 ≤ n ∧ n < 999983) (next : ∀ N, NumsOk N → RX calL 2 [(Str.ofString "nums", N)] []) : RX calL 1 [(Str.ofString "nums", N)] [] := by
  obtain ⟨ns, rfl, hl, hb⟩ := hN
  rw [s_1]
  refine len_lst (by rw [List.length_map]; omega) (c_eq (cond2 (fun e => ?_) (fun e => ?_)))
  · exact next _ ⟨[0], rfl, by decide, by decide, fun n hn => by rw [List.mem_singleton.mp hn]; decide⟩
  · refine next _ ⟨ns, rfl, ?_, hl, hb⟩
    have e : ((ns.map V.int).length : Int) ≠ 0 := by simpa using e
    rw [List.length_map] at e
    omega
end
noncomputable def lawG (C : Nat → List V → AS → KV → Prop) (I : Ev3) (V : V) : Prop :=
  match fB 46 with
  | .Assign [.Name y _] (.ListComp elt [⟨.Name x _, _, [], 0⟩] cs p) _ :: rest => CompH (TT C) I (fS 46) [] elt x cs (muT p) (fun v S' => I.x (fS 46) [(y, v)] rest S' (fun _ _ => False) (fun V _ => V = .bool true)) V []
  | _ => False
theorem q_law (C : Nat → List V → AS → KV → Prop) (us : List V) : lawG C (sem (TT C) 300) (.lst us) = cond (Nat.ble us.length 1000) (compW (fun u S2 k2 => binV false .Mod u (.int 999983) S2 k2) us [] fun vs S2 => mkL false vs S2 fun v S3 => RX C 1 [(Str.ofString "nums", v)] S3) False := by kernel_rfl
theorem comp_mod : ∀ {ns : List Int} {S : AS} {kk : List V → AS → Prop}, kk (ns.map fun n => .int (n.fmod 999983)) S → compW (fun u S2 k2 => binV false .Mod u (.int 999983) S2 k2) (ns.map V.int) S kk
  | [], _, _, h => h
  | n :: r, S, kk, h => by
    show binV false .Mod (.int n) (.int 999983) S fun u S' => compW (fun u S2 k2 => binV false .Mod u (.int 999983) S2 k2) (r.map V.int) S' fun us S'' => kk (u :: us) S''
    exact bin_mod (by decide) (comp_mod (kk := fun us S' => kk (.int (n.fmod 999983) :: us) S') h)
theorem A0 {ns : List Int} (hl : ns.length ≤ 24) (next : ∀ N, NumsOk N → RX calL 2 [(Str.ofString "nums", N)] []) : lawH (sem (TT calL) 300) (.lst (ns.map .int)) := by
  show lawG calL (sem (TT calL) 300) (.lst (ns.map .int))
  rw [q_law]
  refine condI (Nat.ble_eq_true_of_le (by rw [List.length_map]; omega)) (comp_mod (mkL_of (by rw [List.length_map]; omega) ?_))
  refine A1 ⟨ns.map (·.fmod 999983), by rw [List.map_map]; rfl, by rw [List.length_map]; exact hl, fun n hn => ?_⟩ next
  obtain ⟨m, _, rfl⟩ := List.mem_map.mp hn
  exact fmod_b m (by decide)

theorem fld_zip_none {x : PySem.Str} : ∀ {ns : List PySem.Str} {xs : List V}, x ∉ ns → fld x (ns.zip xs) = none
  | [], _, _ => by simp [fld]
  | n :: ns, [], _ => by simp [fld]
  | n :: ns, y :: ys, h => by
    simp only [List.zip_cons_cons, fld]
    rw [if_neg (fun e : x = n => h (by rw [e]; exact .head _))]
    exact fld_zip_none fun hm => h (.tail _ hm)
noncomputable def SDv : V := .lst [.ref 0, .ref 5]
noncomputable def RSv : V := .lst [.ref 4, .ref 7]
noncomputable def SB (xs ys gs : List V) (J : AS) : AS := optO xs :: tinyO :: stdO :: tin1O :: .lst xs :: optO ys :: tinyO :: .lst ys :: .lst gs :: J
noncomputable abbrev LB (N : V) (X : Int) : Lc := [(Str.ofString "nums", N), (Str.ofString "made", .ref 0), (Str.ofString "stores", sv3), (Str.ofString "kept", KPv), (Str.ofString "x", .int X), (Str.ofString "sides", SDv), (Str.ofString "rows", RSv), (Str.ofString "given", .ref 8)]
theorem st3B {xs ys gs : List V} {J : AS} : St3 (SB xs ys gs J) := ⟨⟨_, rfl⟩, ⟨_, rfl⟩, ⟨_, rfl⟩⟩
theorem A11 {N : V} {X : Int} {xs : List V} (hx : KL 17 rKd xs) (next : RX calL 15 ((Str.ofString "given", .ref 8) :: (Str.ofString "rows", RSv) :: (Str.ofString "sides", SDv) :: LA N X) (SB xs xs [] [])) : RX calL 11 (LA N X) (SA xs) := by
  rw [s_11]
  refine meth_of (i := 0) (fs := rNames.zip (xs.map fv1)) (a := 173) rfl (fld_zip_none (by decide +kernel)) (by decide +kernel) ?_
  refine viaL rfl rfl rfl (L_copy (n := 3) (i := 0) rfl hx.1 ?_)
  show RX calL 12 ((Str.ofString "sides", SDv) :: LA N X) [optO xs, tinyO, stdO, tin1O, .lst xs, optO xs, tinyO]
  rw [s_12]
  have hb : Nat.ble xs.length 1000 = true := Nat.ble_eq_true_of_le (by rw [hx.1]; decide)
  refine condI hb (condI hb (condI rfl ?_))
  show RX calL 13 ((Str.ofString "rows", RSv) :: (Str.ofString "sides", SDv) :: LA N X) [optO xs, tinyO, stdO, tin1O, .lst xs, optO xs, tinyO, .lst xs]
  rw [s_13]
  refine viaL rfl rfl rfl (L_stand (n := 4) (a := 0) (b := 5) (r0 := 4) (r1 := 7) rfl rfl hx rfl rfl hx ⟨⟨_, rfl⟩, ⟨_, rfl⟩, ⟨_, rfl⟩⟩ (tb_true ?_))
  rw [s_14]
  exact next
theorem subT_of {us : List V} {x : Int} {u : V} {S : AS} {k : KV} (h0 : 0 ≤ x) (hx : us[x.toNat]? = some u) (h1 : x < 1000) (hk : k u S) : subW (.tup us) (.int x) S k := by
  unfold subW
  simp only [seqOf, hx, decide_eq_true h0, decide_eq_true h1, cond_true]
  exact hk
theorem sd_of {s : Int} {S : AS} {k : KV} (hs : s = 0 ∨ s = 1) (h0 : s = 0 → k (.ref 0) S) (h1 : s = 1 → k (.ref 5) S) : subW SDv (.int s) S k := by
  rcases hs with rfl | rfl
  · exact subW_of (us := [.ref 0, .ref 5]) rfl (by decide) rfl (by decide) (h0 rfl)
  · exact subW_of (us := [.ref 0, .ref 5]) rfl (by decide) rfl (by decide) (h1 rfl)
theorem rs_of {s : Int} {S : AS} {k : KV} (hs : s = 0 ∨ s = 1) (h0 : s = 0 → k (.ref 4) S) (h1 : s = 1 → k (.ref 7) S) : subW RSv (.int s) S k := by
  rcases hs with rfl | rfl
  · exact subW_of (us := [.ref 4, .ref 7]) rfl (by decide) rfl (by decide) (h0 rfl)
  · exact subW_of (us := [.ref 4, .ref 7]) rfl (by decide) rfl (by decide) (h1 rfl)
theorem P15 {xs ys gs : List V} {J : AS} {s f : Int} {v : V} {K : AS → Prop} (hx : KL 17 rKd xs) (hy : KL 17 rKd ys) (hs : s = 0 ∨ s = 1) (h0 : 0 ≤ f) (h1 : f < 17) (hv : HasK (rKd f.toNat) v) (hk : ∀ xs' ys', KL 17 rKd xs' → KL 17 rKd ys' → K (SB xs' ys' gs J)) :
    subW RSv (.int s) (SB xs ys gs J) fun o S2 => stI o (.int f) v S2 fun S3 => subW SDv (.int s) S3 fun o2 S4 => subW RSv (.int s) S4 fun o3 S5 => subW o3 (.int f) S5 fun w S6 => calL 251 [o2, .int f, w, sv3] S6 fun _ S7 => K S7 := by
  have lx := hx.1
  have ly := hy.1
  refine rs_of hs (fun e => ?_) (fun e => ?_)
  · refine stI_at (a := 4) (us := xs) rfl h0 (by omega) (by omega) ?_
    refine sd_of hs (fun _ => ?_) (fun e' => by omega)
    refine rs_of hs (fun _ => ?_) (fun e' => by omega)
    refine subW_of (us := xs.set f.toNat v) (u := v) rfl h0 (List.getElem?_set_self (by omega)) (by omega) ?_
    exact viaL rfl rfl rfl (L_put (i := 0) (xs := xs) rfl lx h0 h1 hv (hk _ _ (hx.set hv) hy))
  · refine stI_at (a := 7) (us := ys) rfl h0 (by omega) (by omega) ?_
    refine sd_of hs (fun e' => by omega) (fun _ => ?_)
    refine rs_of hs (fun e' => by omega) (fun _ => ?_)
    refine subW_of (us := ys.set f.toNat v) (u := v) rfl h0 (List.getElem?_set_self (by omega)) (by omega) ?_
    exact viaL rfl rfl rfl (L_put (i := 5) (xs := ys) rfl ly h0 h1 hv (hk _ _ hx (hy.set hv)))
noncomputable def CfgOk (c : CfgD) : Prop := KL 16 cKd (wantL c) ∧ num2b c.a1 ∧ num2b c.a2 ∧ num2b c.a6
theorem numS_3 {n : Int} (h : numS n = true) : num3 n = true ∧ num2b n := by
  simp only [numS, Bool.and_eq_true, decide_eq_true_eq] at h
  exact ⟨num_of (by omega) (by omega), by omega, by omega⟩
theorem mk_ok {xs : List V} (hx : KL 17 rKd xs) {nid ap : Int} {st : V} (h1 : num3 nid = true) (h2 : num3 ap = true) (hst : st = .none ∨ ∃ n, st = .int n) : ∃ d, xs = rowL d ∧ CfgOk (mkC d nid st ap) := by
  obtain ⟨d, rfl, ht, g0, g2, g3, g7, g8, g9, g10, g11, g12, g13, g14, g15, g16⟩ := row_of hx
  refine ⟨d, rfl, KL_want hst ht h1 (numS_3 g2).1 (numS_3 g3).1 h2 (numS_3 g8).1 (numS_3 g8).1 (numS_3 g16).1 (numS_3 g9).1 (by kernel_rfl) (numS_3 g7).1, (numS_3 g2).2, (numS_3 g3).2, (numS_3 g8).2⟩
theorem methA_of {C : Nat → List V → AS → KV → Prop} {I : Ev3} {sc : Scope} {x : PySem.Str} {l : Lc} {args : List PySem.Expr} {i D a : Nat} {fs : Lc} {S : AS} {k : KV} (h : getO S i = some (.inst D fs)) (hf : fld x fs = none) (hm : List.lookup (D, x) mths = some a) (hk : evs (I.e sc l) args S fun vs S'' => C a (.ref i :: vs) S'' k) : methW (TT C) I sc x args l (.ref i) S k := by
  have hm' : (TT C).mth D x = some a := hm
  unfold methW
  simp only [h, hf, hm']
  exact hk
theorem app_of {C : Nat → List V → AS → KV → Prop} {I : Ev3} {sc : Scope} {l : Lc} {a : PySem.Expr} {g : Nat} {us : List V} {S : AS} {k : KV} (h : getO S g = some (.lst us)) (hk : I.e sc l a S fun v S'' => (match getO S'' g with
    | some (.lst us) => cond (Nat.ble us.length 1000) (k .none (putO S'' g (.lst (us ++ [v])))) False
    | _ => False)) : methW (TT C) I sc (Str.ofString "append") [a] l (.ref g) S k := by
  unfold methW
  simp only [h]
  exact condI (by decide) hk
theorem pk15 (N F Y ap st nid c : V) (X i Z s : Int) : pick NB (((Str.ofString "config"), c) :: ((Str.ofString "applied"), ap) :: ((Str.ofString "storage"), st) :: ((Str.ofString "nid"), nid) :: ((Str.ofString "s"), .int s) :: (Str.ofString "z", .int Z) :: (Str.ofString "f", F) :: (Str.ofString "y", Y) :: (Str.ofString "i", .int i) :: LB N X) = LB N X := by kernel_rfl
section
variable {N : V} {X : Int} {xs ys gs : List V} {J : AS}
theorem sb_len : (SB xs ys gs J).length = J.length + 9 := rfl
theorem sb_get {m : Nat} : getO (SB xs ys gs J) (m + 9) = getO J m := rfl
theorem sb_app {o : O} : SB xs ys gs J ++ [o] = SB xs ys gs (J ++ [o]) := rfl
theorem B15 (hN : NumsOk N) (hx : KL 17 rKd xs) (hy : KL 17 rKd ys) {i : Int} (h0 : 0 ≤ i) (h1 : i < 3) (hg : gs.length = i.toNat) {kn : Lc → AS → Prop}
    (hk : ∀ l' xs' ys' c, pick NB l' = LB N X → KL 17 rKd xs' → KL 17 rKd ys' → CfgOk c → kn l' (SB xs' ys' (gs ++ [.tup [.ref (J.length + 9), .ref (J.length + 10)]]) (J ++ [cfgO (wantL c)] ++ [.lst (wantL c)]))) :
    BX calL 15 0 285 ((Str.ofString "i", .int i) :: LB N X) (SB xs ys gs J) kn := by
  rw [s_b15a]
  refine viaL rfl rfl rfl (L_draw hN (by omega) (by omega) fun Y hY0 hY1 => ?_)
  rw [s_b15b]
  have hd := fdiv_b (x := Y) (y := 34) (by decide) hY0
  have hm := fmod_b (Y.fdiv 2 + 6 * i) (y := 17) (by decide)
  have hs := fmod_b Y (y := 2) (by decide)
  refine viaL rfl rfl rfl (L_value hm.1 hm.2 hd.1 (by omega) fun v hv => ?_)
  refine P15 hx hy (by omega) hm.1 hm.2 hv fun xs ys hx hy => ?_
  refine viaL rfl rfl rfl (L_draw hN (by omega) (by omega) fun Z hZ0 hZ1 => ?_)
  rw [s_b15c]
  have m7 := fmod_b (Z.fdiv 2) (y := 7) (by decide)
  have m6 := fmod_b (Z.fdiv 14) (y := 6) (by decide)
  have m3 := fmod_b (Z.fdiv 84) (y := 3) (by decide)
  have step : ∀ (nid ap : Int) (st : V), num3 nid = true → num3 ap = true → (st = .none ∨ ∃ n, st = .int n) →
      BX calL 15 10 275 ((Str.ofString "applied", .int ap) :: (Str.ofString "storage", st) :: (Str.ofString "nid", .int nid) :: (Str.ofString "s", .int (Z.fmod 2)) :: (Str.ofString "z", .int Z) :: (Str.ofString "f", .int ((Y.fdiv 2 + 6 * i).fmod 17)) :: (Str.ofString "y", .int Y) :: (Str.ofString "i", .int i) :: LB N X) (SB xs ys gs J) kn := by
    intro nid ap st g1 g2 hst
    rw [s_b15d]
    have hz := fmod_b Z (y := 2) (by decide)
    generalize Z.fmod 2 = s at hz ⊢
    have hss : s = 0 ∨ s = 1 := by omega
    have fin15 : ∀ {d : RowD} {a r : Nat}, CfgOk (mkC d nid st ap) → getO (SB xs ys gs J) a = some (optO (rowL d)) → (∀ J', getO (SB xs ys gs J') r = some (.lst (rowL d))) → (∀ {S : AS} {k : KV}, k (.ref r) S → subW RSv (.int s) S k) → (∀ {S : AS} {k : KV}, k (.ref a) S → subW SDv (.int s) S k) →
        subW SDv (.int s) (SB xs ys gs J) fun o S1 => methW (TT calL) (sem (TT calL) 273) (fS 46) (Str.ofString "raft_config") as10 ((Str.ofString "applied", .int ap) :: (Str.ofString "storage", st) :: (Str.ofString "nid", .int nid) :: (Str.ofString "s", .int s) :: (Str.ofString "z", .int Z) :: (Str.ofString "f", .int ((Y.fdiv 2 + 6 * i).fmod 17)) :: (Str.ofString "y", .int Y) :: (Str.ofString "i", .int i) :: LB N X) o S1 fun c S2 => BX calL 15 11 274 ((Str.ofString "config", c) :: (Str.ofString "applied", .int ap) :: (Str.ofString "storage", st) :: (Str.ofString "nid", .int nid) :: (Str.ofString "s", .int s) :: (Str.ofString "z", .int Z) :: (Str.ofString "f", .int ((Y.fdiv 2 + 6 * i).fmod 17)) :: (Str.ofString "y", .int Y) :: (Str.ofString "i", .int i) :: LB N X) S2 kn := by
      intro d a r hc ha hr hrs hsd
      refine hsd (methA_of (a := 180) ha (fld_zip_none (by decide +kernel)) (by decide +kernel) ?_)
      rw [s_as10]
      refine viaL rfl rfl rfl (L_raft_config (n := 4) ha ?_)
      rw [sb_app, sb_len, s_b15e, as11_eq]
      refine app_of (g := 8) (us := gs) rfl ?_
      rw [s_as11]
      refine hrs (viaL rfl rfl rfl (L_wanted (hr _) ?_))
      rw [sb_app, sb_len]
      refine condI (Nat.ble_eq_true_of_le (by omega)) ?_
      have el : (J ++ [cfgO (wantL (mkC d nid st ap))]).length = J.length + 1 := by simp
      rw [el]
      show BX calL 15 12 273 _ (SB xs ys (gs ++ [.tup [.ref (J.length + 9), .ref (J.length + 10)]]) (J ++ [cfgO (wantL (mkC d nid st ap))] ++ [.lst (wantL (mkC d nid st ap))])) kn
      rw [s_b15f]
      refine viaL rfl rfl rfl (L_shown (i := J.length + 9) (xs := wantL (mkC d nid st ap)) (by rw [sb_get]; exact getO_pen) rfl ?_)
      refine subW_of (us := gs ++ [.tup [.ref (J.length + 9), .ref (J.length + 10)]]) (u := .tup [.ref (J.length + 9), .ref (J.length + 10)]) rfl h0 (by rw [← hg]; simp) (by omega) ?_
      refine subT_of (u := .ref (J.length + 10)) (by decide) rfl (by decide) ?_
      refine viaL rfl rfl rfl (L_sameR (j := J.length + 10) ?_ hc.1.pl (by show 16 ≤ 1000; decide) (tb_true ?_))
      · show getO (J ++ [cfgO (wantL (mkC d nid st ap))] ++ [.lst (wantL (mkC d nid st ap))]) (J.length + 1) = _
        rw [← el]
        exact getO_last
      refine viaL rfl rfl rfl (L_stand (n := 4) (a := 0) (b := 5) (r0 := 4) (r1 := 7) rfl rfl hx rfl rfl hy st3B (tb_true ?_))
      exact hk _ xs ys _ (pk15 _ _ _ _ _ _ _ _ _ _ _) hx hy hc
    rcases hss with e | e
    · obtain ⟨d, rfl, hc⟩ := mk_ok hx g1 g2 hst
      exact fin15 (a := 0) (r := 4) hc rfl (fun _ => rfl) (fun h => rs_of (.inl e) (fun _ => h) (fun e' => by omega)) (fun h => sd_of (.inl e) (fun _ => h) (fun e' => by omega))
    · obtain ⟨d, rfl, hc⟩ := mk_ok hy g1 g2 hst
      exact fin15 (a := 5) (r := 7) hc rfl (fun _ => rfl) (fun h => rs_of (.inr e) (fun e' => by omega) (fun _ => h)) (fun h => sd_of (.inr e) (fun e' => by omega) (fun _ => h))
  refine subW_all ?_ m7.1 m7.2 (by decide)
  have s1 : ∀ nid, num3 nid = true → subW (.lst [.int 0, .int 7, .int 5, .none, .int 9, .int 8]) (.int ((Z.fdiv 14).fmod 6)) (SB xs ys gs J) fun b S2 => subW (.lst [.int 0, .int Z, .int 1099511627776]) (.int ((Z.fdiv 84).fmod 3)) S2 fun d S3 => BX calL 15 10 275 ((Str.ofString "applied", d) :: (Str.ofString "storage", b) :: (Str.ofString "nid", .int nid) :: (Str.ofString "s", .int (Z.fmod 2)) :: (Str.ofString "z", .int Z) :: (Str.ofString "f", .int ((Y.fdiv 2 + 6 * i).fmod 17)) :: (Str.ofString "y", .int Y) :: (Str.ofString "i", .int i) :: LB N X) S3 kn := by
    intro nid g1
    have s2 : ∀ st : V, (st = .none ∨ ∃ n, st = .int n) → subW (.lst [.int 0, .int Z, .int 1099511627776]) (.int ((Z.fdiv 84).fmod 3)) (SB xs ys gs J) fun d S3 => BX calL 15 10 275 ((Str.ofString "applied", d) :: (Str.ofString "storage", st) :: (Str.ofString "nid", .int nid) :: (Str.ofString "s", .int (Z.fmod 2)) :: (Str.ofString "z", .int Z) :: (Str.ofString "f", .int ((Y.fdiv 2 + 6 * i).fmod 17)) :: (Str.ofString "y", .int Y) :: (Str.ofString "i", .int i) :: LB N X) S3 kn := by
      intro st hst
      exact subW_all (all_cons (step nid _ st g1 rfl hst) (all_cons (step nid _ st g1 (num_of (by omega) (by omega)) hst) (all_cons (step nid _ st g1 rfl hst) all_nil))) m3.1 m3.2 (Nat.le_of_ble_eq_true rfl)
    exact subW_all (all_cons (s2 _ (.inr ⟨_, rfl⟩)) (all_cons (s2 _ (.inr ⟨_, rfl⟩)) (all_cons (s2 _ (.inr ⟨_, rfl⟩)) (all_cons (s2 _ (.inl rfl)) (all_cons (s2 _ (.inr ⟨_, rfl⟩)) (all_cons (s2 _ (.inr ⟨_, rfl⟩)) all_nil)))))) m6.1 m6.2 (by decide)
  exact all_cons (s1 _ rfl) (all_cons (s1 _ rfl) (all_cons (s1 _ rfl) (all_cons (s1 _ rfl) (all_cons (s1 _ rfl) (all_cons (s1 _ rfl) (all_cons (s1 _ rfl) all_nil))))))
end

noncomputable abbrev LC (N : V) (X s : Int) : Lc := [(Str.ofString "nums", N), (Str.ofString "stores", sv3), (Str.ofString "kept", KPv), (Str.ofString "x", .int X), (Str.ofString "sides", SDv), (Str.ofString "rows", RSv), (Str.ofString "given", .ref 8), (Str.ofString "s", .int s)]
theorem pk15' (N : V) (X : Int) : pick NB ((Str.ofString "given", .ref 8) :: (Str.ofString "rows", RSv) :: (Str.ofString "sides", SDv) :: LA N X) = LB N X := by kernel_rfl
theorem pk17' (N : V) (X s : Int) : pick NC ((Str.ofString "s", .int s) :: LB N X) = LC N X s := by kernel_rfl
theorem pk17 (N p v f : V) (X s : Int) : pick NC ((Str.ofString "probe", p) :: (Str.ofString "v", v) :: (Str.ofString "f", f) :: LC N X s) = LC N X s := by kernel_rfl
noncomputable def GVs : List V := [.tup [.ref 9, .ref 10], .tup [.ref 11, .ref 12], .tup [.ref 13, .ref 14]]
noncomputable def J3 (a b c : CfgD) : AS := [cfgO (wantL a), .lst (wantL a), cfgO (wantL b), .lst (wantL b), cfgO (wantL c), .lst (wantL c)]
section
variable {N : V} {X : Int} {xs ys : List V}
theorem A15 (hN : NumsOk N) (hx : KL 17 rKd xs) (next : ∀ xs ys a b c, KL 17 rKd xs → KL 17 rKd ys → CfgOk a → CfgOk b → CfgOk c → RX calL 16 (LB N X) (SB xs ys GVs (J3 a b c))) : RX calL 15 ((Str.ofString "given", .ref 8) :: (Str.ofString "rows", RSv) :: (Str.ofString "sides", SDv) :: LA N X) (SB xs xs [] []) := by
  rw [s_15]
  show BX calL 15 0 285 ((Str.ofString "i", .int 0) :: pick NB _) _ _
  rw [pk15']
  refine B15 hN hx hx (by decide) (by decide) rfl fun l1 xs1 ys1 a e1 hx1 hy1 ha => ?_
  show BX calL 15 0 285 ((Str.ofString "i", .int 1) :: pick NB l1) _ _
  rw [e1]
  refine B15 hN hx1 hy1 (by decide) (by decide) rfl fun l2 xs2 ys2 b e2 hx2 hy2 hb => ?_
  show BX calL 15 0 285 ((Str.ofString "i", .int 2) :: pick NB l2) _ _
  rw [e2]
  refine B15 hN hx2 hy2 (by decide) (by decide) rfl fun l3 xs3 ys3 c e3 hx3 hy3 hc => ?_
  show RX calL 16 (pick NB l3) _
  rw [e3]
  exact next xs3 ys3 a b c hx3 hy3 ha hb hc
theorem take_drop {zs : List V} {f : Int} {v : V} (h0 : 0 ≤ f) (h1 : f < zs.length) : (cutL none (some f) zs ++ [v]) ++ cutL (some (f + 1)) none zs = zs.set f.toNat v := by
  show (zs.take f.toNat ++ [v]) ++ zs.drop (f + 1).toNat = _
  rw [show (f + 1).toNat = f.toNat + 1 by omega, List.set_eq_take_append_cons_drop, if_pos (by omega), List.append_assoc]
  rfl
theorem ne_same {b : Bool} {S : AS} {kb : Bool → AS → Prop} (hk : kb false S) : cmpV .NotEq (.bool b) (.bool b) S kb := by
  show SeqAt.shaped (.bool b) = true ∧ SeqAt.shaped (.bool b) = true ∧ kb (!PyData.eqv (.bool b) (.bool b)) S
  refine ⟨by rfl, by rfl, ?_⟩
  have e : PyData.eqv (.bool b) (.bool b) = true := by simp [PyData.eqv]
  rw [e]
  exact hk
theorem cutW_ref {S : AS} {r : Nat} {zs : List V} {lo hi : Option Int} {k : KV} (h : getO S r = some (.lst zs)) (hl : zs.length ≤ 1000) (h1 : posO lo = true) (h2 : posO hi = true) (hk : k (.lst (cutL lo hi zs)) S) : cutW (.ref r) lo hi S k := by
  unfold cutW
  rw [seq_ref h]
  exact condI (by rw [Nat.ble_eq_true_of_le hl, h1, h2]; rfl) hk
theorem pos_of {n : Int} (h0 : 0 ≤ n) (h1 : n ≤ 1000) : posO (some n) = true := by
  simp only [posO, decide_eq_true h0, decide_eq_true h1, Bool.and_self]
theorem getO_put_ne {S : AS} {i j : Nat} {o : O} (h : i ≠ j) : getO (putO S i o) j = getO S j := by
  rw [getO_eq, getO_eq, putO_eq, List.getElem?_set_ne h]
theorem bin_add {x y : Int} {S : AS} {k : KV} (hk : k (.int (x + y)) S) : binV false .Add (.int x) (.int y) S k := hk
theorem B17 (hN : NumsOk N) {S : AS} {zs : List V} {a r : Nat} {s f : Int} (hz : KL 17 rKd zs) (ha : getO S a = some (optO zs)) (hr : getO S r = some (.lst zs)) (har : a ≠ r) (ha1 : a ≠ 1 ∧ a ≠ 2 ∧ a ≠ 3) (h3 : St3 S)
    (hrs : ∀ {S : AS} {k : KV}, k (.ref r) S → subW RSv (.int s) S k) (hsd : ∀ {S : AS} {k : KV}, k (.ref a) S → subW SDv (.int s) S k) (h0 : 0 ≤ f) (h1 : f < 17) {kn : Lc → AS → Prop} (hk : ∀ l, pick NC l = LC N X s → kn l S) : BX calL 17 0 283 ((Str.ofString "f", .int f) :: LC N X s) S kn := by
  have hl := hz.1
  rw [s_b17a]
  refine viaL rfl rfl rfl (L_draw hN (by omega) (by omega) fun Y hY0 hY1 => ?_)
  refine bin_fdiv (by decide) (by decide) ?_
  refine bin_add (bin_mod (by decide) ?_)
  have m4 := fmod_b (Y.fdiv 3 + f) (y := 4) (by decide)
  refine viaL rfl rfl rfl (L_end h0 h1 m4.1 m4.2 fun v hv => ?_)
  rw [s_b17b]
  refine hrs (cutW_ref hr (by omega) rfl (pos_of h0 (by omega)) ?_)
  have c1 := cut_len (xs := zs) (lo := none) (hi := some f)
  have c2 := cut_len (xs := zs) (lo := some (f + 1)) (hi := none)
  refine add_lst (by simp only [List.length_cons, List.length_nil]; omega) (hrs (cutW_ref hr (by omega) (pos_of (by omega) (by omega)) rfl (add_lst (by simp only [List.length_append, List.length_cons, List.length_nil]; omega) ?_)))
  rw [take_drop h0 (by omega)]
  rw [s_b17c]
  have hw : KL 17 rKd (zs.set f.toNat v) := hz.set hv
  refine hsd (viaL rfl rfl rfl (L_put ha hl h0 h1 hv ?_))
  have gA : getO (putO S a (optO (zs.set f.toNat v))) a = some (optO (zs.set f.toNat v)) := getO_put ha
  have g3 : St3 (putO S a (optO (zs.set f.toNat v))) := by
    obtain ⟨⟨f1, h1⟩, ⟨f2, h2⟩, ⟨f3, h3⟩⟩ := h3
    exact ⟨⟨f1, by rw [getO_put_ne ha1.1]; exact h1⟩, ⟨f2, by rw [getO_put_ne ha1.2.1]; exact h2⟩, ⟨f3, by rw [getO_put_ne ha1.2.2]; exact h3⟩⟩
  obtain ⟨d, hd, ht, q0, q2, q3, q7, q8, q9, q10, q11, q12, q13, q14, q15, q16⟩ := row_of hw
  have gA' : getO (putO S a (optO (zs.set f.toNat v))) a = some (optO (rowL d)) := gA.trans (by rw [hd])
  refine hsd (L_refused (d := d) gA' (numS_3 q0).1 (numS_3 q12).1 (numS_3 q13).1 (numS_3 q14).1 (numS_3 q15).1 ?_)
  rw [hd]
  refine viaL rfl rfl rfl (L_stops (ne_same (condE rfl ?_)))
  rw [← hd]
  refine hsd (viaL rfl rfl rfl (L_told gA hw g3 ?_))
  refine viaL rfl rfl rfl (L_sameL hw.pl (by rw [hw.1]; decide) (tb_true ?_))
  obtain ⟨u, hu, hku⟩ := hz.get (g := f.toNat) (by omega)
  refine hsd (hrs (subW_of (us := zs) (u := u) (seq_ref (by rw [getO_put_ne har]; exact hr)) h0 hu (by omega) ?_))
  refine viaL rfl rfl rfl (L_put gA hw.1 h0 h1 hku ?_)
  rw [putO_putO, List.set_set]
  have es : zs.set f.toNat u = zs := by
    apply List.ext_getElem?
    intro j
    by_cases hj : f.toNat = j
    · subst hj
      rw [List.getElem?_set_self (by omega), hu]
    · rw [List.getElem?_set_ne hj]
  rw [es, put_same ha]
  exact hk _ (pk17 _ _ _ _ _ _)
theorem A17 (hN : NumsOk N) (hx : KL 17 rKd xs) (hy : KL 17 rKd ys) {a b c : CfgD} (next : ∀ s, RX calL 18 (LC N X s) (SB xs ys GVs (J3 a b c))) : RX calL 16 (LB N X) (SB xs ys GVs (J3 a b c)) := by
  rw [s_16]
  have hs := fmod_b (X.fdiv 2) (y := 2) (by decide)
  generalize (X.fdiv 2).fmod 2 = s at hs ⊢
  have hs : s = 0 ∨ s = 1 := by omega
  rw [s_17]
  refine forW_inv (fun l S => l = LC N X s ∧ S = SB xs ys GVs (J3 a b c)) _ _ _ ⟨pk17' N X s, rfl⟩ ?_ ?_
  · rintro v hv l S kn' ⟨rfl, rfl⟩ hk
    obtain ⟨f, rfl, h0, h1⟩ := rng_mem hv
    rcases hs with e | e
    · exact B17 (a := 0) (r := 4) hN hx rfl rfl (by decide) (by decide) st3B (fun h => rs_of (.inl e) (fun _ => h) (fun e' => by omega)) (fun h => sd_of (.inl e) (fun _ => h) (fun e' => by omega)) h0 h1 fun l hl => hk l _ ⟨hl, rfl⟩
    · exact B17 (a := 5) (r := 7) hN hy rfl rfl (by decide) (by decide) st3B (fun h => rs_of (.inr e) (fun e' => by omega) (fun _ => h)) (fun h => sd_of (.inr e) (fun e' => by omega) (fun _ => h)) h0 h1 fun l hl => hk l _ ⟨hl, rfl⟩
  · rintro l S ⟨rfl, rfl⟩
    exact next s
end

noncomputable abbrev LD (N : V) : Lc := [(Str.ofString "nums", N), (Str.ofString "stores", sv3), (Str.ofString "kept", KPv), (Str.ofString "sides", SDv), (Str.ofString "rows", RSv), (Str.ofString "given", .ref 8), (Str.ofString "config", .ref 13), (Str.ofString "want", .ref 14)]
noncomputable abbrev LE (N sh : V) : Lc := [(Str.ofString "nums", N), (Str.ofString "stores", sv3), (Str.ofString "kept", KPv), (Str.ofString "sides", SDv), (Str.ofString "rows", RSv), (Str.ofString "given", .ref 8), (Str.ofString "config", .ref 13), (Str.ofString "want", .ref 14), (Str.ofString "shown", sh)]
theorem pkE (N sh g : V) : pick NE ((Str.ofString "g", g) :: LE N sh) = LE N sh := by kernel_rfl
theorem pkE' (N sh bd p v f : V) : pick NE ((Str.ofString "shown", sh) :: (Str.ofString "bad", bd) :: (Str.ofString "probe", p) :: (Str.ofString "v", v) :: (Str.ofString "f", f) :: LD N) = LE N sh := by kernel_rfl
theorem pkD (N sh : V) : pick ND (LE N sh) = LD N := by kernel_rfl
theorem pkD' (N : V) (X s : Int) : pick ND ((Str.ofString "want", .ref 14) :: (Str.ofString "config", .ref 13) :: LC N X s) = LD N := by kernel_rfl
theorem pkD2 (N : V) : pick ND (LD N) = LD N := by kernel_rfl
theorem eqvs_eq : ∀ {ts us : List Int}, PyData.eqvAll (ts.map PyData.int) (us.map PyData.int) = true → ts = us
  | [], [], _ => rfl
  | t :: ts, u :: us, h => by
    simp only [List.map_cons, PyData.eqvAll, PyData.eqv, Bool.and_eq_true, beq_iff_eq] at h
    rw [h.1, eqvs_eq h.2]
  | [], _ :: _, h => by simp [PyData.eqvAll] at h
  | _ :: _, [], h => by simp [PyData.eqvAll] at h
theorem ne_dat {a b : V} {da db : PyData} {S : AS} {kb : Bool → AS → Prop} (ha : dat S a = some da) (hb : dat S b = some db) (h1 : SeqAt.shaped da = true) (h2 : SeqAt.shaped db = true) (hna : ∀ n, a ≠ .int n) (hk : kb (!PyData.eqv da db) S) : cmpV .NotEq a b S kb := by
  unfold cmpV
  split <;> first | exact absurd rfl (hna _) | contradiction | skip
  all_goals (rw [ha, hb]; exact ⟨h1, h2, hk⟩)
theorem cmp_ne_k {g : Nat} {a b : V} {S : AS} {kb : Bool → AS → Prop} (ha : HasK (cKd g) a) (hb : HasK (cKd g) b) (h : ∀ r, (r = false → a = b) → kb r S) : cmpV .NotEq a b S kb := by
  have ii : ∀ n m : Int, a = .int n → b = .int m → cmpV .NotEq a b S kb := by
    rintro n m rfl rfl
    exact c_ne (h _ fun e => by rw [show n = m by simpa using e])
  unfold cKd at ha hb
  split at ha
  · rename_i hg
    rw [if_pos hg] at hb
    rcases ha with rfl | ⟨n, rfl⟩
    · rcases hb with rfl | ⟨m, rfl⟩
      · exact ne_dat (a := .none) (b := .none) rfl rfl rfl rfl (fun _ e => V.noConfusion e) (h _ fun _ => rfl)
      · refine ne_dat (a := .none) (b := .int m) rfl rfl rfl rfl (fun _ e => V.noConfusion e) (h _ fun e => ?_)
        simp [PyData.eqv] at e
    · rcases hb with rfl | ⟨m, rfl⟩
      · have e0 : cmpV .NotEq (.int n) .none S kb = (SeqAt.shaped (.int n) = true ∧ SeqAt.shaped .none = true ∧ kb (!PyData.eqv (.int n) .none) S) := rfl
        rw [e0]
        refine ⟨rfl, rfl, h _ fun e => ?_⟩
        simp [PyData.eqv] at e
      · exact ii n m rfl rfl
  · rename_i hg
    rw [if_neg hg] at hb
    split at ha
    · rename_i hg2
      rw [if_pos hg2] at hb
      obtain ⟨ts, _, rfl⟩ := ha
      obtain ⟨us, _, rfl⟩ := hb
      have sh : ∀ ts : List Int, SeqAt.shaped (.tuple (ts.map .int)) = true := fun ts => Bool.and_eq_true_iff.mpr ⟨by simp [PyData.canLay0, canLay_ints], by simp [PyData.depth, depth_ints]⟩
      refine ne_dat (da := .tuple (ts.map .int)) (db := .tuple (us.map .int)) (by simp [dat, dat0, dats_ints]) (by simp [dat, dat0, dats_ints]) (sh _) (sh _) (fun _ e => V.noConfusion e) (h _ fun e => ?_)
      simp only [PyData.eqv, Bool.not_eq_false'] at e
      rw [eqvs_eq e]
    · rename_i hg2
      rw [if_neg hg2] at hb
      split at ha
      · rename_i hg3
        rw [if_pos hg3] at hb
        obtain ⟨x, rfl⟩ := ha
        obtain ⟨y, rfl⟩ := hb
        refine ne_dat (a := .bool x) (b := .bool y) rfl rfl rfl rfl (fun _ e => V.noConfusion e) (h _ fun e => ?_)
        simp only [PyData.eqv, Bool.not_eq_false', beq_iff_eq] at e
        rw [e]
      · rename_i hg3
        rw [if_neg hg3] at hb
        obtain ⟨n, _, rfl⟩ := ha
        obtain ⟨m, _, rfl⟩ := hb
        exact ii n m rfl rfl
noncomputable def Mid (w sh : List V) (D : Nat → Prop) (zs : List V) : Prop := zs.length = 16 ∧ ∀ j : Nat, zs[j]? = w[j]? ∨ (zs[j]? = sh[j]? ∧ ¬ D j)
theorem Gs {N : V} {S3 : AS} {w sh : List V} {o : O} (h13 : getO S3 13 = some o) (h14 : getO S3 14 = some (.lst w)) (hw : KL 16 cKd w) (hsh : KL 16 cKd sh) {kn : Lc → AS → Prop} : ∀ (gs : List Int), (∀ g ∈ gs, 0 ≤ g ∧ g < 16) → ∀ (D : Nat → Prop) (zs : List V) (l : Lc), Mid w sh D zs → pick NE l = LE N (.lst sh) →
    (∀ zs', Mid w sh (fun j => D j ∨ (j : Int) ∈ gs) zs' → kn (LE N (.lst sh)) (putO S3 13 (cfgO zs'))) →
    forW (pick NE) (fun u l' S' kn' _ => (sem (TT calL) 271).x (fS 46) ((Str.ofString "g", u) :: l') lbg S' kn' KR) (gs.map V.int) l (putO S3 13 (cfgO zs)) (fun l' S' => kn l' S') KR
  | [], _, D, zs, l, hm, hl, hk => by
    show kn (pick NE l) _
    rw [hl]
    exact hk zs ⟨hm.1, fun j => (hm.2 j).imp id fun h => ⟨h.1, fun e => e.elim h.2 fun e => by cases e⟩⟩
  | g :: gs, hg, D, zs, l, hm, hl, hk => by
    obtain ⟨g0, g1⟩ := hg g (.head _)
    show (sem (TT calL) 271).x (fS 46) ((Str.ofString "g", .int g) :: pick NE l) lbg _ (fun l' S' => forW (pick NE) _ (gs.map V.int) l' S' _ KR) KR
    rw [hl, s_g]
    obtain ⟨a, ha, hka⟩ := hsh.get (g := g.toNat) (by omega)
    obtain ⟨b, hb, hkb⟩ := hw.get (g := g.toNat) (by omega)
    have e14 : ∀ zs, getO (putO S3 13 (cfgO zs)) 14 = some (.lst w) := fun zs => by rw [getO_put_ne (by decide)]; exact h14
    refine subW_of (us := sh) rfl g0 ha (by omega) (subW_of (seq_ref (e14 _)) g0 hb (by omega) (cmp_ne_k hka hkb fun r hr => ?_))
    have rest : ∀ zs' : List V, Mid w sh (fun j => D j ∨ j = g.toNat) zs' → forW (pick NE) (fun u l' S' kn' _ => (sem (TT calL) 271).x (fS 46) ((Str.ofString "g", u) :: l') lbg S' kn' KR) (gs.map V.int) ((Str.ofString "g", .int g) :: LE N (.lst sh)) (putO S3 13 (cfgO zs')) (fun l' S' => kn l' S') KR := fun zs' hm' => by
      refine Gs h13 h14 hw hsh gs (fun g' hg' => hg g' (.tail _ hg')) _ zs' _ hm' (pkE _ _ _) fun zs2 hm2 => hk zs2 ⟨hm2.1, fun j => (hm2.2 j).imp id fun h => ⟨h.1, fun e => h.2 ?_⟩⟩
      rcases e with e | e
      · exact .inl (.inl e)
      · rcases List.mem_cons.mp e with e | e
        · exact .inl (.inr (by omega))
        · exact .inr e
    cases r with
    | true =>
      refine condI rfl (subW_of (seq_ref (e14 _)) g0 hb (by omega) (viaL rfl rfl rfl (L_set (i := 13) (xs := zs) (getO_put h13) hm.1 g0 g1 ?_)))
      rw [putO_putO]
      refine rest _ ⟨by rw [List.length_set]; exact hm.1, fun j => ?_⟩
      by_cases e : g.toNat = j
      · subst e
        left
        rw [List.getElem?_set_self (by rw [hm.1]; omega), hb]
      · rw [List.getElem?_set_ne e]
        exact (hm.2 j).imp id fun h => ⟨h.1, fun e' => e'.elim h.2 fun e' => e e'.symm⟩
    | false =>
      have hab := hr rfl
      refine condE rfl (rest zs ⟨hm.1, fun j => ?_⟩)
      by_cases e : g.toNat = j
      · subst e
        left
        rcases hm.2 g.toNat with h | h
        · exact h
        · rw [h.1, ha, hb, hab]
      · exact (hm.2 j).imp id fun h => ⟨h.1, fun e' => e'.elim h.2 fun e' => e e'.symm⟩

theorem pl_set {c e : CfgD} (h : Sim c e) : plainL (wantL e) = plainL (wantL c) := by
  obtain ⟨x, y, z, rfl⟩ := h
  rfl
theorem sim_get {c e : CfgD} (h : Sim c e) : ∀ j : Nat, j ≠ 7 → j ≠ 8 → j ≠ 10 → (wantL e)[j]? = (wantL c)[j]? := by
  obtain ⟨x, y, z, rfl⟩ := h
  intro j h7 h8 h10
  match j with
  | 0 | 1 | 2 | 3 | 4 | 5 | 6 | 9 | 11 | 12 | 13 | 14 | 15 => rfl
  | 7 => exact absurd rfl h7
  | 8 => exact absurd rfl h8
  | 10 => exact absurd rfl h10
  | j + 16 => rfl
theorem pl_plain {xs : List V} (h : ∀ v ∈ xs, PlV v) : ∀ v ∈ plainL xs, PlV v := fun v hv => by
  rcases List.mem_append.mp hv with hv | hv
  · rcases List.mem_append.mp hv with hv | hv
    · exact h v (List.mem_of_mem_take hv)
    · exact h v (List.mem_of_mem_drop (List.mem_of_mem_take hv))
  · exact h v (List.mem_of_mem_drop hv)
theorem plain_len {xs : List V} (hl : xs.length = 16) : (plainL xs).length ≤ 1000 := by
  have c1 := cut_len (xs := xs) (lo := none) (hi := some 7)
  have c2 := cut_len (xs := xs) (lo := some 9) (hi := some 10)
  have c3 := cut_len (xs := xs) (lo := some 11) (hi := none)
  unfold plainL
  rw [List.length_append, List.length_append]
  omega
theorem sim_kl {c e : CfgD} (hc : KL 16 cKd (wantL c)) (hs : Sim c e) (h7 : num3 e.a7 = true) (h8 : num3 e.a8 = true) (h10 : num3 e.a10 = true) : KL 16 cKd (wantL e) := by
  refine ⟨rfl, fun j v hv => ?_⟩
  by_cases j7 : j = 7
  · subst j7; cases hv; exact ⟨_, h7, rfl⟩
  by_cases j8 : j = 8
  · subst j8; cases hv; exact ⟨_, h8, rfl⟩
  by_cases j10 : j = 10
  · subst j10; cases hv; exact ⟨_, h10, rfl⟩
  rw [sim_get hs j j7 j8 j10] at hv
  exact hc.2 j v hv
section
variable {N : V} {X : Int} {xs ys : List V}
theorem R20' {S3 : AS} {c c2 e : CfgD} {v bd : V} {f : Int} {o : O} {kn : Lc → AS → Prop} (h0 : 0 ≤ f) (h1 : f < 16) (hc : KL 16 cKd (wantL c)) (hc2 : KL 16 cKd (wantL c2)) (he : KL 16 cKd (wantL e)) (hs : Sim c2 e) (hset : (wantL c).set f.toNat v = wantL c2) (h13 : getO S3 13 = some o) (h14 : getO S3 14 = some (.lst (wantL c))) (ho : putO S3 13 (cfgO (wantL e)) = S3)
    (hk : kn (LE N (.lst (wantL e))) (putO S3 13 (cfgO (wantL c)))) : R20 calL N sv3 KPv SDv RSv (.ref 8) (.ref 13) (.ref 14) v (.lst (wantL c2)) bd (.lst (wantL e)) f kn S3 := by
  unfold R20
  refine viaL rfl rfl rfl (L_plain rfl ?_)
  refine viaL rfl rfl rfl (L_plain rfl ?_)
  rw [pl_set hs]
  refine viaL rfl rfl rfl (L_sameL (pl_plain hc2.pl) (plain_len rfl) (tb_true ?_))
  have := Gs (N := N) (S3 := S3) (w := wantL c) (sh := wantL e) (kn := kn) h13 h14 hc he [f, 7, 8, 10] (fun g hg => by
    rcases List.mem_cons.mp hg with rfl | hg
    · exact ⟨h0, h1⟩
    · rcases List.mem_cons.mp hg with rfl | hg
      · decide
      · rcases List.mem_cons.mp hg with rfl | hg
        · decide
        · rw [List.mem_singleton.mp hg]; decide) (fun _ => False) (wantL e) _ ⟨rfl, fun j => .inr ⟨rfl, id⟩⟩ (pkE' N _ bd (.lst (wantL c2)) v (.int f)) fun zs' hm => ?_
  · rw [ho] at this
    exact this
  · have ez : zs' = wantL c := by
      apply List.ext_getElem?
      intro j
      rcases hm.2 j with h | ⟨h, hD⟩
      · exact h
      · have hD : ¬ (False ∨ (j : Int) ∈ [f, 7, 8, 10]) := hD
        have hD' : (j : Int) ≠ f ∧ j ≠ 7 ∧ j ≠ 8 ∧ j ≠ 10 := by
          refine ⟨fun e => hD (.inr (by rw [e]; exact .head _)), fun e => hD (.inr (by subst e; exact .tail _ (.head _))), fun e => hD (.inr (by subst e; exact .tail _ (.tail _ (.head _)))), fun e => hD (.inr (by subst e; exact .tail _ (.tail _ (.tail _ (.head _)))))⟩
        rw [h, sim_get hs j hD'.2.1 hD'.2.2.1 hD'.2.2.2, ← hset, List.getElem?_set_ne (by omega)]
    rw [ez]
    exact hk
theorem putO_app {S : AS} {i : Nat} {o h : O} (hi : i < S.length) : putO (S ++ [h]) i o = putO S i o ++ [h] := by
  rw [putO_eq, putO_eq, List.set_append_left _ _ hi]
theorem B20 (hN : NumsOk N) {S : AS} {c : CfgD} {f : Int} (hc : CfgOk c) (h13 : getO S 13 = some (cfgO (wantL c))) (h14 : getO S 14 = some (.lst (wantL c))) (h0 : 0 ≤ f) (h1 : f < 16) {kn : Lc → AS → Prop} (hk : ∀ l S', pick ND l = LD N → (S' = S ∨ S' = S ++ [.hole]) → kn l S') : BX calL 20 0 280 ((Str.ofString "f", .int f) :: LD N) S kn := by
  rw [s_b20a]
  refine viaL rfl rfl rfl (L_draw hN (by omega) (by omega) fun Y hY0 hY1 => ?_)
  refine bin_fdiv (by decide) (by decide) (bin_add (bin_mod (by decide) ?_))
  have m4 := fmod_b (Y.fdiv 4 + f) (y := 4) (by decide)
  refine viaL rfl rfl rfl (L_edge h14 hc.2.1 hc.2.2.1 hc.2.2.2 h0 h1 m4.1 m4.2 fun v hv => ?_)
  rw [s_b20b]
  have hl : (wantL c).length = 16 := rfl
  have c1 := cut_len (xs := wantL c) (lo := none) (hi := some f)
  have c2' := cut_len (xs := wantL c) (lo := some (f + 1)) (hi := none)
  refine cutW_ref h14 (by omega) rfl (pos_of h0 (by omega)) ?_
  refine add_lst (by simp only [List.length_cons, List.length_nil]; omega) (cutW_ref h14 (by omega) (pos_of (by omega) (by omega)) rfl (add_lst (by simp only [List.length_append, List.length_cons, List.length_nil]; omega) ?_))
  rw [take_drop h0 (by omega)]
  have hw := hc.1.set hv
  obtain ⟨c2, hset, hst, ht, g0, g1, g2, g5, g6, g7, g8, g9, g10, g13⟩ := cfg_of hw
  rw [hset] at hw ⊢
  rw [s_b20c]
  refine viaL rfl rfl rfl (L_set h13 rfl h0 h1 ?_)
  rw [hset]
  refine L_useless (getO_put h13) hst g1 g2 g6 g9 g10 g13 ht fun e hs hor hsett => ?_
  rw [putO_putO]
  refine viaL rfl rfl rfl (L_shown (xs := wantL e) (getO_put h13) rfl ?_)
  refine viaL rfl rfl rfl (L_unfit hst (ne_same (condE rfl ?_)))
  have e14 : getO (putO S 13 (cfgO (wantL e))) 14 = some (.lst (wantL c)) := by rw [getO_put_ne (by decide)]; exact h14
  have e13 : getO (putO S 13 (cfgO (wantL e))) 13 = some (cfgO (wantL e)) := getO_put h13
  have back : putO (putO S 13 (cfgO (wantL e))) 13 (cfgO (wantL c)) = S := by rw [putO_putO, put_same h13]
  show cond (!unfitB c2) _ _
  have w7 : num3 (settleC c2).a7 = true := by
    show num3 (if c2.a7 == 0 then c2.a6 else c2.a7) = true
    split
    · exact g6
    · exact g7
  have w8 : num3 (settleC c2).a8 = true := by
    show num3 (if c2.a8 == 0 then 18446744073709551615 else c2.a8) = true
    split
    · rfl
    · exact g8
  have w10 : num3 (settleC c2).a10 = true := by
    show num3 (if c2.a10 == 0 then 18446744073709551615 else c2.a10) = true
    split
    · rfl
    · exact g10
  have hset_kl : KL 16 cKd (wantL (settleC c2)) := sim_kl hw ⟨_, _, _, rfl⟩ w7 w8 w10
  refine cond2 (fun hu => ?_) (fun hu => ?_)
  · have hu : unfitB c2 = false := by simpa using hu
    have es := hsett hu
    subst es
    refine L_settledL ?_
    refine viaL rfl rfl rfl (L_sameL hset_kl.pl (by show 16 ≤ 1000; decide) (tb_true ?_))
    have hlt : 13 < (putO S 13 (cfgO (wantL (settleC c2)))).length := by
      rw [getO_eq] at e13
      exact (List.getElem?_eq_some_iff.mp e13).1
    refine R20' h0 h1 hc.1 hw hset_kl hs hset (getO_app e13) (getO_app e14) (put_same (getO_app e13)) ?_
    rw [putO_app hlt, back]
    exact hk _ _ (pkD _ _) (.inr rfl)
  · have he : KL 16 cKd (wantL e) := by
      rcases hor with rfl | rfl
      · exact hw
      · exact hset_kl
    refine R20' h0 h1 hc.1 hw he hs hset e13 e14 (put_same e13) ?_
    rw [back]
    exact hk _ _ (pkD _ _) (.inl rfl)
end
section
variable {N : V} {X s : Int} {xs ys : List V} {a b c : CfgD}
theorem A22 {J : AS} (ha : CfgOk a) (hb : CfgOk b) (hc : CfgOk c) : RX calL 22 (LD N) (SB xs ys GVs (J3 a b c ++ J)) := by
  have e := s_22 calL N sv3 KPv SDv RSv (.ref 13) (.ref 14) (.ref 9) (.ref 10) (.ref 11) (.ref 12) (.ref 13) (.ref 14) (optO xs) tinyO stdO tin1O (.lst xs) (optO ys) tinyO (.lst ys) (J3 a b c ++ J)
  refine e.mpr ?_
  refine viaL rfl rfl rfl (L_shown (i := 9) (xs := wantL a) rfl rfl (viaL rfl rfl rfl (L_sameR (j := 10) rfl ha.1.pl (by show 16 ≤ 1000; decide) ?_)))
  refine viaL rfl rfl rfl (L_shown (i := 11) (xs := wantL b) rfl rfl (viaL rfl rfl rfl (L_sameR (j := 12) rfl hb.1.pl (by show 16 ≤ 1000; decide) ?_)))
  refine viaL rfl rfl rfl (L_shown (i := 13) (xs := wantL c) rfl rfl (viaL rfl rfl rfl (L_sameR (j := 14) rfl hc.1.pl (by show 16 ≤ 1000; decide) ?_)))
  show (V.bool true : V) = .bool true
  rfl
theorem kept_same {S : AS} {kb : Bool → AS → Prop} (hk : kb false S) : cmpV .NotEq (.lst [.lst smallL, .lst stdV, .lst tin1V]) KPv S kb := by
  have e : cmpV .NotEq (.lst [.lst smallL, .lst stdV, .lst tin1V]) KPv S kb = (true = true ∧ true = true ∧ kb false S) := by kernel_rfl
  rw [e]
  exact ⟨rfl, rfl, hk⟩
theorem A21 {J : AS} (hx : KL 17 rKd xs) (hy : KL 17 rKd ys) (ha : CfgOk a) (hb : CfgOk b) (hc : CfgOk c) : RX calL 21 (LD N) (SB xs ys GVs (J3 a b c ++ J)) := by
  rw [s_21]
  refine viaL rfl rfl rfl (L_stand (n := 4) (a := 0) (b := 5) (r0 := 4) (r1 := 7) rfl rfl hx rfl rfl hy st3B (tb_true ?_))
  refine viaL rfl rfl rfl (L_sizes (i := 1) (fs := tinyF) rfl tiny_zip rfl ?_)
  refine viaL rfl rfl rfl (L_sizes (i := 2) (fs := optP) rfl std_zip (by decide +kernel) ?_)
  refine viaL rfl rfl rfl (L_sizes (i := 3) (fs := tin1F) rfl tin1_zip (by decide +kernel) ?_)
  exact kept_same (condE rfl (A22 ha hb hc))
theorem A20f (hN : NumsOk N) (hx : KL 17 rKd xs) (hy : KL 17 rKd ys) (ha : CfgOk a) (hb : CfgOk b) (hc : CfgOk c) {l : Lc} (hl : pick ND l = LD N) : forW (pick ND) (fun u l' S' kn' _ => BX calL 20 0 280 ((Str.ofString "f", u) :: l') S' kn') (rngL 16) l (SB xs ys GVs (J3 a b c)) (fun l' S' => RX calL 21 l' S') KR := by
  refine forW_inv (fun l S => l = LD N ∧ ∃ J, S = SB xs ys GVs (J3 a b c ++ J)) _ _ _ ⟨hl, [], by rw [List.append_nil]⟩ ?_ ?_
  · rintro v hv l S kn' ⟨rfl, J, rfl⟩ hk
    obtain ⟨f, rfl, h0, h1⟩ := rng_mem hv
    refine B20 hN hc rfl rfl h0 h1 fun l S' hl hS => hk l S' ⟨hl, ?_⟩
    rcases hS with rfl | rfl
    · exact ⟨J, rfl⟩
    · exact ⟨J ++ [.hole], rfl⟩
  · rintro l S ⟨rfl, J, rfl⟩
    exact A21 hx hy ha hb hc
theorem A19 (hN : NumsOk N) (hx : KL 17 rKd xs) (hy : KL 17 rKd ys) (ha : CfgOk a) (hb : CfgOk b) (hc : CfgOk c) : RX calL 19 ((Str.ofString "want", .ref 14) :: (Str.ofString "config", .ref 13) :: LC N X s) (SB xs ys GVs (J3 a b c)) := by
  rw [s_19]
  refine cond2 (fun _ => ?_) (fun _ => ?_)
  · have hc' : CfgOk { c with a0 := 5, st := .int 6, b11 := true } := ⟨((hc.1.set (g := 0) (v := .int 5) ⟨_, rfl, rfl⟩).set (g := 3) (v := .int 6) (.inr ⟨_, rfl⟩)).set (g := 11) (v := .bool true) ⟨_, rfl⟩, hc.2⟩
    refine stI_at (a := 14) (us := wantL c) rfl (by decide) (by show (0 : Int) < 16; decide) (by show 16 ≤ 1000; decide) ?_
    refine viaL rfl rfl rfl (L_set (i := 13) (xs := wantL c) rfl rfl (by decide) (by decide) ?_)
    refine stI_at (a := 14) (us := wantL { c with a0 := 5 }) rfl (by decide) (by show (3 : Int) < 16; decide) (by show 16 ≤ 1000; decide) ?_
    refine viaL rfl rfl rfl (L_set (i := 13) (xs := wantL { c with a0 := 5 }) rfl rfl (by decide) (by decide) ?_)
    refine stI_at (a := 14) (us := wantL { c with a0 := 5, st := .int 6 }) rfl (by decide) (by show (11 : Int) < 16; decide) (by show 16 ≤ 1000; decide) ?_
    refine viaL rfl rfl rfl (L_set (i := 13) (xs := wantL { c with a0 := 5, st := .int 6 }) rfl rfl (by decide) (by decide) ?_)
    show RX calL 20 (LD N) (SB xs ys GVs (J3 a b { c with a0 := 5, st := .int 6, b11 := true }))
    rw [s_20b]
    exact A20f hN hx hy ha hb hc' (pkD2 N)
  · rw [s_20a]
    exact A20f hN hx hy ha hb hc (pkD' N X s)
theorem A18 (hN : NumsOk N) (hx : KL 17 rKd xs) (hy : KL 17 rKd ys) (ha : CfgOk a) (hb : CfgOk b) (hc : CfgOk c) : RX calL 18 (LC N X s) (SB xs ys GVs (J3 a b c)) := by
  rw [s_18]
  refine subW_of (us := GVs) (u := .tup [.ref 13, .ref 14]) rfl (by decide) rfl (by decide) ?_
  rw [s_W18]
  exact A19 hN hx hy ha hb hc
end
theorem law_all (ns : List Int) (_ : ns.length ≤ 63) : lawH (sem (TT calL) 300) (.lst ((ns.take 24).map .int)) := by
  refine A0 (by rw [List.length_take]; omega) fun N hN => A2 hN fun X xs hX hx => A11 hx (A15 hN hx fun xs ys a b c hx hy ha hb hc => A17 hN hx hy fun s => A18 hN hx hy ha hb hc)
theorem holds : PySem.Challenge.rw_xm0821_01.Holds := fin law_all
end Mine

theorem PySem.Challenge.cw_xm0821_01_holds : PySem.Challenge.rw_xm0821_01.Holds :=
  Mine.holds
