import PyProof.Rows.All
import Wide.All
import OpenK.AllK
import Wide.FinOn
import KE.KTryDeepN
import Lean
import PySem.Challenge.RW_xm0775_01
set_option Elab.async false
/-! part HK -/
section
open PySem PySem.W PyProof.Rows PySem.Calls
set_option maxRecDepth 1000000
set_option maxHeartbeats 0
namespace Mine
noncomputable abbrev pw : Program := PySem.Challenge.pw_xm0775_01
/-- a statement of the row's text, by its place -/
noncomputable def top (i : Nat) : Stmt := (pw.main.body[i]?).getD (.Pass ⟨0, 0, 0, 0⟩)
noncomputable def meth (i j : Nat) : Stmt := match top i with
  | .ClassDef _ _ _ b _ _ _ _ _ _ _ => (b[j]?).getD (.Pass ⟨0, 0, 0, 0⟩)
  | s => s
inductive IsFD : Stmt → Str → Arguments → List Stmt → Scope → Prop
  | mk {n : Str} {a : Arguments} {b : List Stmt} {ds : List Expr} {r : Option Expr} {tp : List TypeParam} {sc : Scope} {ts : Option Scope} {bd : Str} {p : Pos} : IsFD (.FunctionDef n a b ds r tp sc ts bd p) n a b sc
@[reducible] noncomputable def fdOf {st : Stmt} {n : Str} {a : Arguments} {b : List Stmt} {sc : Scope} (_ : IsFD st n a b sc) : Arguments × List Stmt × Scope := (a, b, sc)
@[reducible] noncomputable def en (P : Params) (k : String) (t : Nat) (v : Value) : DictEntry := { hash := PyData.keyHash P (Str.ofString k), key := Value.str (Str.ofString k) t, val := v }
@[reducible] noncomputable def fnObj (name qual : String) (a : Arguments) (b : List Stmt) (sc : Scope) (d kd pm cd ct : Value) : Obj :=
  { cls := .type "function", data := .func { name := Str.ofString name, qualname := Str.ofString qual, params := a, body := .stmts b, scope := sc, globals := 3, closure := [], defaults := d, kwdefaults := kd, pyModule := pm, code := cd, closureTuple := ct } }
noncomputable def o2 (P : Params) : Obj := { cls := Value.none, data := Data.dict #[en P "type.__subclasses__.Exception.0" 221 (Value.int 38 0), en P "type.__subclasses__.Exception.n" 222 (Value.int 1 0)] 2 }
noncomputable def o3 (P : Params) : Obj := { cls := Value.type "dict", data := Data.dict #[en P "__name__" 165 (Value.str (Str.ofString "law_xm0775_01") 2023), en P "__doc__" 166 (Value.none), en P "__package__" 167 (Value.none), en P "__loader__" 168 (Value.builtin "__main__.__loader__#opaque"), en P "__spec__" 169 (Value.none), en P "__annotations__" 170 (Value.ref 6), en P "__builtins__" 171 (Value.ref 4), en P "__file__" 173 (Value.str (Str.ofString "/claim/cut.py") 172), en P "__cached__" 174 (Value.none), en P "_wall" 193 (Value.ref 21), en P "PagebaseError" 224 (Value.ref 38), en P "BusyError" 240 (Value.ref 51), en P "CorruptError" 256 (Value.ref 63), en P "FullError" 272 (Value.ref 75), en P "MisuseError" 288 (Value.ref 87), en P "CrashError" 304 (Value.ref 99), en P "NONE" 308 (Value.int 0 307), en P "SHARED" 310 (Value.int 1 309), en P "RESERVED" 312 (Value.int 2 311), en P "PENDING" 314 (Value.int 3 313), en P "EXCLUSIVE" 316 (Value.int 4 315), en P "LockTable" 506 (Value.ref 232), en P "DiskFile" 599 (Value.ref 302), en P "Disk" 700 (Value.ref 380), en P "put_octets" 709 (Value.ref 391), en P "cut_octets" 717 (Value.ref 398), en P "HEADER_SIZE" 721 (Value.int 32 720), en P "MAGIC" 723 (Value.bytes #[112, 97, 103, 101, 98, 97, 115, 101] 722), en P "LEAST_PAGE_SIZE" 725 (Value.int 64 724), en P "MOST_PAGE_SIZE" 727 (Value.int 32768 726), en P "WORD_header" 731 (Value.int 4294967296 730), en P "put_number" 739 (Value.ref 405), en P "get_number" 748 (Value.ref 412), en P "is_page_size" 755 (Value.ref 419), en P "Header" 832 (Value.ref 452), en P "JOURNAL_MAGIC" 836 (Value.bytes #[112, 98, 106, 111, 117, 114, 110, 108] 835), en P "HEAD_SIZE_journal" 838 (Value.int 24 837), en P "COUNT_AT" 840 (Value.int 8 839), en P "NOT_SYNCED" 843 (Value.int 4294967295 842), en P "record_sum" 854 (Value.ref 463), en P "Journal" 976 (Value.ref 543), en P "PageChanges" 1104 (Value.ref 643), en P "RollbackPager" 1451 (Value.ref 931), en P "LOG_MAGIC" 1455 (Value.int 931071618 1454), en P "LOG_VERSION" 1457 (Value.int 3007000 1456), en P "HEAD_SIZE_wal" 1459 (Value.int 32 1458), en P "FRAME_HEAD" 1461 (Value.int 24 1460), en P "WORD_wal" 1463 (Value.int 4294967296 1462), en P "FIRST_SALTS" 1466 (Value.ref 936), en P "KINDS" 1471 (Value.ref 937), en P "put_words" 1477 (Value.ref 942), en P "get_words" 1483 (Value.ref 947), en P "check_sums" 1495 (Value.ref 954), en P "next_salts" 1503 (Value.ref 961), en P "WalIndex" 1597 (Value.ref 1020), en P "Wal" 1844 (Value.ref 1196), en P "Pager" 2022 (Value.ref 1344), en P "_law_pool" 2035 (Value.ref 1353), en P "_law_take" 2044 (Value.ref 1360), en P "_law_one" 2052 (Value.ref 1367), en P "_law_lock" 2062 (Value.ref 1374), en P "_law_highest" 2068 (Value.ref 1379), en P "_law_level" 2074 (Value.ref 1384), en P "_law_put" 2080 (Value.ref 1389), en P "_law_asked" 2095 (Value.ref 1396), en P "_law_stands" 2106 (Value.ref 1403), en P "_law_least_right" 2112 (Value.ref 1408), en P "_law_right" 2118 (Value.ref 1413), en P "law" 2127 (Value.ref 1420)] 69 }
noncomputable def o22 (_ : Params) : Obj := { cls := Value.type "tuple", data := Data.seq #[Value.type "Exception"] }
noncomputable def o29 (_ : Params) : Obj := { cls := Value.type "tuple", data := Data.seq #[] }
noncomputable def o30 (_ : Params) : Obj := { cls := Value.none, data := Data.fields #[] }
noncomputable def o31 (_ : Params) : Obj := { cls := Value.type "tuple", data := Data.seq #[Value.str (Str.ofString "self") 211, Value.str (Str.ofString "message") 212] }
noncomputable def o32 (_ : Params) : Obj := { cls := Value.type "tuple", data := Data.seq #[] }
noncomputable def o34 (_ : Params) : Obj := { cls := Value.type "code", data := Data.fields #[Value.str (Str.ofString "__init__") 208, Value.str (Str.ofString "PagebaseError.__init__") 209, Value.str (Str.ofString "/claim/cut.py") 210, Value.int 7 0, Value.int 2 0, Value.int 0 0, Value.int 0 0, Value.int 3 0, Value.ref 29, Value.bool true, Value.int 181 0, Value.ref 30, Value.none, Value.ref 31, Value.ref 32, Value.ref 33, Value.int 213 0, Value.int 7 0, Value.str (Str.ofString "/claim/cut.py") 214] }
noncomputable abbrev fd35 : Arguments × List Stmt × Scope := fdOf (IsFD.mk : IsFD (meth 2 0) _ _ _ _)
noncomputable def o35 (_ : Params) : Obj := fnObj "__init__" "PagebaseError.__init__" fd35.1 fd35.2.1 fd35.2.2 (Value.none) (Value.none) (Value.str (Str.ofString "pagebase.errors") 194) (Value.ref 34) (Value.none)
noncomputable def o36 (_ : Params) : Obj := { cls := Value.type "tuple", data := Data.seq #[Value.str (Str.ofString "message") 216] }
noncomputable def o37 (P : Params) : Obj := { cls := Value.type "dict", data := Data.dict #[en P "__module__" 203 (Value.str (Str.ofString "pagebase.errors") 194), en P "__firstlineno__" 207 (Value.int 5 206), en P "__init__" 215 (Value.ref 35), en P "__static_attributes__" 217 (Value.ref 36), en P "__weakref__" 219 (Value.ref 39), en P "__doc__" 220 (Value.none)] 3 }
noncomputable def o38 (_ : Params) : Obj := { cls := Value.type "type", data := Data.cls { name := Str.ofString "PagebaseError", bases := [Value.type "Exception"], mro := [Value.ref 38, Value.type "Exception", Value.type "BaseException", Value.type "object"], ns := 37, qualname := Str.ofString "PagebaseError", subclasses := [Value.ref 51, Value.ref 63, Value.ref 75, Value.ref 87, Value.ref 99] }, slots := #[some (Value.ref 22), none, some (Value.str (Str.ofString "PagebaseError") 196), some (Value.str (Str.ofString "PagebaseError") 204), some (Value.builtin "Exception.__new__"), some (Value.bool true)] }
noncomputable def o39 (_ : Params) : Obj := { cls := Value.type "getset_descriptor", data := Data.fields #[Value.str (Str.ofString "__weakref__") 218, Value.ref 38, Value.builtin "ExceptionGroup.__weakref__", Value.none] }
noncomputable def o42 (_ : Params) : Obj := { cls := Value.type "tuple", data := Data.seq #[Value.ref 38] }
noncomputable def o49 (_ : Params) : Obj := { cls := Value.type "tuple", data := Data.seq #[] }
noncomputable def o50 (P : Params) : Obj := { cls := Value.type "dict", data := Data.dict #[en P "__module__" 232 (Value.str (Str.ofString "pagebase.errors") 194), en P "__firstlineno__" 236 (Value.int 9 235), en P "__static_attributes__" 237 (Value.ref 49), en P "__doc__" 238 (Value.none)] 2 }
noncomputable def o51 (_ : Params) : Obj := { cls := Value.type "type", data := Data.cls { name := Str.ofString "BusyError", bases := [Value.ref 38], mro := [Value.ref 51, Value.ref 38, Value.type "Exception", Value.type "BaseException", Value.type "object"], ns := 50, qualname := Str.ofString "BusyError" }, slots := #[some (Value.ref 42), none, some (Value.str (Str.ofString "BusyError") 225), some (Value.str (Str.ofString "BusyError") 233), some (Value.builtin "Exception.__new__"), some (Value.bool true)] }
noncomputable def o109 (_ : Params) : Obj := { cls := Value.type "tuple", data := Data.seq #[] }
noncomputable def o110 (_ : Params) : Obj := { cls := Value.none, data := Data.fields #[] }
noncomputable def o111 (_ : Params) : Obj := { cls := Value.type "tuple", data := Data.seq #[Value.str (Str.ofString "self") 332] }
noncomputable def o112 (_ : Params) : Obj := { cls := Value.type "tuple", data := Data.seq #[] }
noncomputable def o114 (_ : Params) : Obj := { cls := Value.type "code", data := Data.fields #[Value.str (Str.ofString "__init__") 329, Value.str (Str.ofString "LockTable.__init__") 330, Value.str (Str.ofString "/claim/cut.py") 331, Value.int 27 0, Value.int 1 0, Value.int 0 0, Value.int 0 0, Value.int 3 0, Value.ref 109, Value.bool true, Value.int 181 0, Value.ref 110, Value.none, Value.ref 111, Value.ref 112, Value.ref 113, Value.int 333 0, Value.int 27 0, Value.str (Str.ofString "/claim/cut.py") 334] }
noncomputable abbrev fd115 : Arguments × List Stmt × Scope := fdOf (IsFD.mk : IsFD (meth 14 0) _ _ _ _)
noncomputable def o115 (_ : Params) : Obj := fnObj "__init__" "LockTable.__init__" fd115.1 fd115.2.1 fd115.2.2 (Value.none) (Value.none) (Value.str (Str.ofString "pagebase.locks") 305) (Value.ref 114) (Value.none)
noncomputable def o116 (_ : Params) : Obj := { cls := Value.type "tuple", data := Data.seq #[] }
noncomputable def o117 (_ : Params) : Obj := { cls := Value.none, data := Data.fields #[] }
noncomputable def o118 (_ : Params) : Obj := { cls := Value.type "tuple", data := Data.seq #[Value.str (Str.ofString "self") 339, Value.str (Str.ofString "owner") 340, Value.str (Str.ofString "name") 341] }
noncomputable def o119 (_ : Params) : Obj := { cls := Value.type "tuple", data := Data.seq #[] }
noncomputable def o121 (_ : Params) : Obj := { cls := Value.type "code", data := Data.fields #[Value.str (Str.ofString "level_of") 336, Value.str (Str.ofString "LockTable.level_of") 337, Value.str (Str.ofString "/claim/cut.py") 338, Value.int 32 0, Value.int 3 0, Value.int 0 0, Value.int 0 0, Value.int 3 0, Value.ref 116, Value.bool true, Value.int 181 0, Value.ref 117, Value.none, Value.ref 118, Value.ref 119, Value.ref 120, Value.int 342 0, Value.int 32 0, Value.str (Str.ofString "/claim/cut.py") 343] }
noncomputable abbrev fd122 : Arguments × List Stmt × Scope := fdOf (IsFD.mk : IsFD (meth 14 1) _ _ _ _)
noncomputable def o122 (_ : Params) : Obj := fnObj "level_of" "LockTable.level_of" fd122.1 fd122.2.1 fd122.2.2 (Value.none) (Value.none) (Value.str (Str.ofString "pagebase.locks") 305) (Value.ref 121) (Value.none)
noncomputable def o123 (_ : Params) : Obj := { cls := Value.type "tuple", data := Data.seq #[] }
noncomputable def o124 (_ : Params) : Obj := { cls := Value.none, data := Data.fields #[] }
noncomputable def o125 (_ : Params) : Obj := { cls := Value.type "tuple", data := Data.seq #[Value.str (Str.ofString "self") 348, Value.str (Str.ofString "owner") 349, Value.str (Str.ofString "name") 350, Value.str (Str.ofString "highest") 351, Value.str (Str.ofString "held") 352, Value.str (Str.ofString "other") 353] }
noncomputable def o126 (_ : Params) : Obj := { cls := Value.type "tuple", data := Data.seq #[] }
noncomputable def o128 (_ : Params) : Obj := { cls := Value.type "code", data := Data.fields #[Value.str (Str.ofString "highest_of_others") 345, Value.str (Str.ofString "LockTable.highest_of_others") 346, Value.str (Str.ofString "/claim/cut.py") 347, Value.int 35 0, Value.int 3 0, Value.int 0 0, Value.int 0 0, Value.int 3 0, Value.ref 123, Value.bool true, Value.int 181 0, Value.ref 124, Value.none, Value.ref 125, Value.ref 126, Value.ref 127, Value.int 354 0, Value.int 35 0, Value.str (Str.ofString "/claim/cut.py") 355] }
noncomputable abbrev fd129 : Arguments × List Stmt × Scope := fdOf (IsFD.mk : IsFD (meth 14 2) _ _ _ _)
noncomputable def o129 (_ : Params) : Obj := fnObj "highest_of_others" "LockTable.highest_of_others" fd129.1 fd129.2.1 fd129.2.2 (Value.none) (Value.none) (Value.str (Str.ofString "pagebase.locks") 305) (Value.ref 128) (Value.none)
noncomputable def o130 (_ : Params) : Obj := { cls := Value.type "tuple", data := Data.seq #[] }
noncomputable def o131 (_ : Params) : Obj := { cls := Value.none, data := Data.fields #[] }
noncomputable def o132 (_ : Params) : Obj := { cls := Value.type "tuple", data := Data.seq #[Value.str (Str.ofString "self") 360, Value.str (Str.ofString "owner") 361, Value.str (Str.ofString "name") 362] }
noncomputable def o133 (_ : Params) : Obj := { cls := Value.type "tuple", data := Data.seq #[] }
noncomputable def o135 (_ : Params) : Obj := { cls := Value.type "code", data := Data.fields #[Value.str (Str.ofString "others_shared") 357, Value.str (Str.ofString "LockTable.others_shared") 358, Value.str (Str.ofString "/claim/cut.py") 359, Value.int 43 0, Value.int 3 0, Value.int 0 0, Value.int 0 0, Value.int 3 0, Value.ref 130, Value.bool true, Value.int 181 0, Value.ref 131, Value.none, Value.ref 132, Value.ref 133, Value.ref 134, Value.int 363 0, Value.int 43 0, Value.str (Str.ofString "/claim/cut.py") 364] }
noncomputable abbrev fd136 : Arguments × List Stmt × Scope := fdOf (IsFD.mk : IsFD (meth 14 3) _ _ _ _)
noncomputable def o136 (_ : Params) : Obj := fnObj "others_shared" "LockTable.others_shared" fd136.1 fd136.2.1 fd136.2.2 (Value.none) (Value.none) (Value.str (Str.ofString "pagebase.locks") 305) (Value.ref 135) (Value.none)
noncomputable def o137 (_ : Params) : Obj := { cls := Value.type "tuple", data := Data.seq #[] }
noncomputable def o138 (_ : Params) : Obj := { cls := Value.none, data := Data.fields #[] }
noncomputable def o139 (_ : Params) : Obj := { cls := Value.type "tuple", data := Data.seq #[Value.str (Str.ofString "self") 369, Value.str (Str.ofString "owner") 370, Value.str (Str.ofString "name") 371] }
noncomputable def o140 (_ : Params) : Obj := { cls := Value.type "tuple", data := Data.seq #[] }
noncomputable def o142 (_ : Params) : Obj := { cls := Value.type "code", data := Data.fields #[Value.str (Str.ofString "others_reserved") 366, Value.str (Str.ofString "LockTable.others_reserved") 367, Value.str (Str.ofString "/claim/cut.py") 368, Value.int 46 0, Value.int 3 0, Value.int 0 0, Value.int 0 0, Value.int 3 0, Value.ref 137, Value.bool true, Value.int 181 0, Value.ref 138, Value.none, Value.ref 139, Value.ref 140, Value.ref 141, Value.int 372 0, Value.int 46 0, Value.str (Str.ofString "/claim/cut.py") 373] }
noncomputable abbrev fd143 : Arguments × List Stmt × Scope := fdOf (IsFD.mk : IsFD (meth 14 4) _ _ _ _)
noncomputable def o143 (_ : Params) : Obj := fnObj "others_reserved" "LockTable.others_reserved" fd143.1 fd143.2.1 fd143.2.2 (Value.none) (Value.none) (Value.str (Str.ofString "pagebase.locks") 305) (Value.ref 142) (Value.none)
noncomputable def o144 (_ : Params) : Obj := { cls := Value.type "tuple", data := Data.seq #[] }
noncomputable def o145 (_ : Params) : Obj := { cls := Value.none, data := Data.fields #[] }
noncomputable def o146 (_ : Params) : Obj := { cls := Value.type "tuple", data := Data.seq #[Value.str (Str.ofString "self") 378, Value.str (Str.ofString "owner") 379, Value.str (Str.ofString "name") 380, Value.str (Str.ofString "level") 381, Value.str (Str.ofString "held") 382] }
noncomputable def o147 (_ : Params) : Obj := { cls := Value.type "tuple", data := Data.seq #[] }
noncomputable def o149 (_ : Params) : Obj := { cls := Value.type "code", data := Data.fields #[Value.str (Str.ofString "put_level") 375, Value.str (Str.ofString "LockTable.put_level") 376, Value.str (Str.ofString "/claim/cut.py") 377, Value.int 49 0, Value.int 4 0, Value.int 0 0, Value.int 0 0, Value.int 3 0, Value.ref 144, Value.bool true, Value.int 181 0, Value.ref 145, Value.none, Value.ref 146, Value.ref 147, Value.ref 148, Value.int 383 0, Value.int 49 0, Value.str (Str.ofString "/claim/cut.py") 384] }
noncomputable abbrev fd150 : Arguments × List Stmt × Scope := fdOf (IsFD.mk : IsFD (meth 14 5) _ _ _ _)
noncomputable def o150 (_ : Params) : Obj := fnObj "put_level" "LockTable.put_level" fd150.1 fd150.2.1 fd150.2.2 (Value.none) (Value.none) (Value.str (Str.ofString "pagebase.locks") 305) (Value.ref 149) (Value.none)
noncomputable def o151 (_ : Params) : Obj := { cls := Value.type "tuple", data := Data.seq #[] }
noncomputable def o152 (_ : Params) : Obj := { cls := Value.none, data := Data.fields #[] }
noncomputable def o153 (_ : Params) : Obj := { cls := Value.type "tuple", data := Data.seq #[Value.str (Str.ofString "self") 389, Value.str (Str.ofString "owner") 390, Value.str (Str.ofString "name") 391, Value.str (Str.ofString "level") 392, Value.str (Str.ofString "mine") 393] }
noncomputable def o154 (_ : Params) : Obj := { cls := Value.type "tuple", data := Data.seq #[] }
noncomputable def o156 (_ : Params) : Obj := { cls := Value.type "code", data := Data.fields #[Value.str (Str.ofString "lock") 386, Value.str (Str.ofString "LockTable.lock") 387, Value.str (Str.ofString "/claim/cut.py") 388, Value.int 56 0, Value.int 4 0, Value.int 0 0, Value.int 0 0, Value.int 3 0, Value.ref 151, Value.bool true, Value.int 181 0, Value.ref 152, Value.none, Value.ref 153, Value.ref 154, Value.ref 155, Value.int 394 0, Value.int 56 0, Value.str (Str.ofString "/claim/cut.py") 395] }
noncomputable abbrev fd157 : Arguments × List Stmt × Scope := fdOf (IsFD.mk : IsFD (meth 14 6) _ _ _ _)
noncomputable def o157 (_ : Params) : Obj := fnObj "lock" "LockTable.lock" fd157.1 fd157.2.1 fd157.2.2 (Value.none) (Value.none) (Value.str (Str.ofString "pagebase.locks") 305) (Value.ref 156) (Value.none)
noncomputable def o158 (_ : Params) : Obj := { cls := Value.type "tuple", data := Data.seq #[] }
noncomputable def o159 (_ : Params) : Obj := { cls := Value.none, data := Data.fields #[] }
noncomputable def o160 (_ : Params) : Obj := { cls := Value.type "tuple", data := Data.seq #[Value.str (Str.ofString "self") 400, Value.str (Str.ofString "owner") 401, Value.str (Str.ofString "name") 402] }
noncomputable def o161 (_ : Params) : Obj := { cls := Value.type "tuple", data := Data.seq #[] }
noncomputable def o163 (_ : Params) : Obj := { cls := Value.type "code", data := Data.fields #[Value.str (Str.ofString "take_shared") 397, Value.str (Str.ofString "LockTable.take_shared") 398, Value.str (Str.ofString "/claim/cut.py") 399, Value.int 67 0, Value.int 3 0, Value.int 0 0, Value.int 0 0, Value.int 3 0, Value.ref 158, Value.bool true, Value.int 181 0, Value.ref 159, Value.none, Value.ref 160, Value.ref 161, Value.ref 162, Value.int 403 0, Value.int 67 0, Value.str (Str.ofString "/claim/cut.py") 404] }
noncomputable abbrev fd164 : Arguments × List Stmt × Scope := fdOf (IsFD.mk : IsFD (meth 14 7) _ _ _ _)
noncomputable def o164 (_ : Params) : Obj := fnObj "take_shared" "LockTable.take_shared" fd164.1 fd164.2.1 fd164.2.2 (Value.none) (Value.none) (Value.str (Str.ofString "pagebase.locks") 305) (Value.ref 163) (Value.none)
noncomputable def o165 (_ : Params) : Obj := { cls := Value.type "tuple", data := Data.seq #[] }
noncomputable def o166 (_ : Params) : Obj := { cls := Value.none, data := Data.fields #[] }
noncomputable def o167 (_ : Params) : Obj := { cls := Value.type "tuple", data := Data.seq #[Value.str (Str.ofString "self") 409, Value.str (Str.ofString "owner") 410, Value.str (Str.ofString "name") 411] }
noncomputable def o168 (_ : Params) : Obj := { cls := Value.type "tuple", data := Data.seq #[] }
noncomputable def o170 (_ : Params) : Obj := { cls := Value.type "code", data := Data.fields #[Value.str (Str.ofString "take_reserved") 406, Value.str (Str.ofString "LockTable.take_reserved") 407, Value.str (Str.ofString "/claim/cut.py") 408, Value.int 72 0, Value.int 3 0, Value.int 0 0, Value.int 0 0, Value.int 3 0, Value.ref 165, Value.bool true, Value.int 181 0, Value.ref 166, Value.none, Value.ref 167, Value.ref 168, Value.ref 169, Value.int 412 0, Value.int 72 0, Value.str (Str.ofString "/claim/cut.py") 413] }
noncomputable abbrev fd171 : Arguments × List Stmt × Scope := fdOf (IsFD.mk : IsFD (meth 14 8) _ _ _ _)
noncomputable def o171 (_ : Params) : Obj := fnObj "take_reserved" "LockTable.take_reserved" fd171.1 fd171.2.1 fd171.2.2 (Value.none) (Value.none) (Value.str (Str.ofString "pagebase.locks") 305) (Value.ref 170) (Value.none)
noncomputable def o172 (_ : Params) : Obj := { cls := Value.type "tuple", data := Data.seq #[] }
noncomputable def o173 (_ : Params) : Obj := { cls := Value.none, data := Data.fields #[] }
noncomputable def o174 (_ : Params) : Obj := { cls := Value.type "tuple", data := Data.seq #[Value.str (Str.ofString "self") 418, Value.str (Str.ofString "owner") 419, Value.str (Str.ofString "name") 420, Value.str (Str.ofString "level") 421] }
noncomputable def o175 (_ : Params) : Obj := { cls := Value.type "tuple", data := Data.seq #[] }
noncomputable def o177 (_ : Params) : Obj := { cls := Value.type "code", data := Data.fields #[Value.str (Str.ofString "take_exclusive") 415, Value.str (Str.ofString "LockTable.take_exclusive") 416, Value.str (Str.ofString "/claim/cut.py") 417, Value.int 77 0, Value.int 4 0, Value.int 0 0, Value.int 0 0, Value.int 3 0, Value.ref 172, Value.bool true, Value.int 181 0, Value.ref 173, Value.none, Value.ref 174, Value.ref 175, Value.ref 176, Value.int 422 0, Value.int 77 0, Value.str (Str.ofString "/claim/cut.py") 423] }
noncomputable abbrev fd178 : Arguments × List Stmt × Scope := fdOf (IsFD.mk : IsFD (meth 14 9) _ _ _ _)
noncomputable def o178 (_ : Params) : Obj := fnObj "take_exclusive" "LockTable.take_exclusive" fd178.1 fd178.2.1 fd178.2.2 (Value.none) (Value.none) (Value.str (Str.ofString "pagebase.locks") 305) (Value.ref 177) (Value.none)
noncomputable def o179 (_ : Params) : Obj := { cls := Value.type "tuple", data := Data.seq #[Value.int 0 307] }
noncomputable def o180 (_ : Params) : Obj := { cls := Value.type "tuple", data := Data.seq #[] }
noncomputable def o181 (_ : Params) : Obj := { cls := Value.none, data := Data.fields #[] }
noncomputable def o182 (_ : Params) : Obj := { cls := Value.type "tuple", data := Data.seq #[Value.str (Str.ofString "self") 428, Value.str (Str.ofString "owner") 429, Value.str (Str.ofString "name") 430, Value.str (Str.ofString "level") 431] }
noncomputable def o183 (_ : Params) : Obj := { cls := Value.type "tuple", data := Data.seq #[] }
noncomputable def o185 (_ : Params) : Obj := { cls := Value.type "code", data := Data.fields #[Value.str (Str.ofString "unlock") 425, Value.str (Str.ofString "LockTable.unlock") 426, Value.str (Str.ofString "/claim/cut.py") 427, Value.int 84 0, Value.int 4 0, Value.int 0 0, Value.int 0 0, Value.int 3 0, Value.ref 180, Value.bool true, Value.int 181 0, Value.ref 181, Value.none, Value.ref 182, Value.ref 183, Value.ref 184, Value.int 432 0, Value.int 84 0, Value.str (Str.ofString "/claim/cut.py") 433] }
noncomputable abbrev fd186 : Arguments × List Stmt × Scope := fdOf (IsFD.mk : IsFD (meth 14 10) _ _ _ _)
noncomputable def o186 (_ : Params) : Obj := fnObj "unlock" "LockTable.unlock" fd186.1 fd186.2.1 fd186.2.2 (Value.ref 179) (Value.none) (Value.str (Str.ofString "pagebase.locks") 305) (Value.ref 185) (Value.none)
noncomputable def o209 (_ : Params) : Obj := { cls := Value.type "tuple", data := Data.seq #[] }
noncomputable def o210 (_ : Params) : Obj := { cls := Value.none, data := Data.fields #[] }
noncomputable def o211 (_ : Params) : Obj := { cls := Value.type "tuple", data := Data.seq #[Value.str (Str.ofString "self") 470, Value.str (Str.ofString "owner") 471, Value.str (Str.ofString "name") 472, Value.str (Str.ofString "mark") 473, Value.str (Str.ofString "held") 474] }
noncomputable def o212 (_ : Params) : Obj := { cls := Value.type "tuple", data := Data.seq #[] }
noncomputable def o214 (_ : Params) : Obj := { cls := Value.type "code", data := Data.fields #[Value.str (Str.ofString "set_mark") 467, Value.str (Str.ofString "LockTable.set_mark") 468, Value.str (Str.ofString "/claim/cut.py") 469, Value.int 101 0, Value.int 4 0, Value.int 0 0, Value.int 0 0, Value.int 3 0, Value.ref 209, Value.bool true, Value.int 181 0, Value.ref 210, Value.none, Value.ref 211, Value.ref 212, Value.ref 213, Value.int 475 0, Value.int 101 0, Value.str (Str.ofString "/claim/cut.py") 476] }
noncomputable abbrev fd215 : Arguments × List Stmt × Scope := fdOf (IsFD.mk : IsFD (meth 14 14) _ _ _ _)
noncomputable def o215 (_ : Params) : Obj := fnObj "set_mark" "LockTable.set_mark" fd215.1 fd215.2.1 fd215.2.2 (Value.none) (Value.none) (Value.str (Str.ofString "pagebase.locks") 305) (Value.ref 214) (Value.none)
noncomputable def o216 (_ : Params) : Obj := { cls := Value.type "tuple", data := Data.seq #[] }
noncomputable def o217 (_ : Params) : Obj := { cls := Value.none, data := Data.fields #[] }
noncomputable def o218 (_ : Params) : Obj := { cls := Value.type "tuple", data := Data.seq #[Value.str (Str.ofString "self") 481, Value.str (Str.ofString "name") 482] }
noncomputable def o219 (_ : Params) : Obj := { cls := Value.type "tuple", data := Data.seq #[] }
noncomputable def o221 (_ : Params) : Obj := { cls := Value.type "code", data := Data.fields #[Value.str (Str.ofString "marks") 478, Value.str (Str.ofString "LockTable.marks") 479, Value.str (Str.ofString "/claim/cut.py") 480, Value.int 108 0, Value.int 2 0, Value.int 0 0, Value.int 0 0, Value.int 3 0, Value.ref 216, Value.bool true, Value.int 181 0, Value.ref 217, Value.none, Value.ref 218, Value.ref 219, Value.ref 220, Value.int 483 0, Value.int 108 0, Value.str (Str.ofString "/claim/cut.py") 484] }
noncomputable abbrev fd222 : Arguments × List Stmt × Scope := fdOf (IsFD.mk : IsFD (meth 14 15) _ _ _ _)
noncomputable def o222 (_ : Params) : Obj := fnObj "marks" "LockTable.marks" fd222.1 fd222.2.1 fd222.2.2 (Value.none) (Value.none) (Value.str (Str.ofString "pagebase.locks") 305) (Value.ref 221) (Value.none)
noncomputable def o223 (_ : Params) : Obj := { cls := Value.type "tuple", data := Data.seq #[] }
noncomputable def o224 (_ : Params) : Obj := { cls := Value.none, data := Data.fields #[] }
noncomputable def o225 (_ : Params) : Obj := { cls := Value.type "tuple", data := Data.seq #[Value.str (Str.ofString "self") 489, Value.str (Str.ofString "owner") 490, Value.str (Str.ofString "name") 491, Value.str (Str.ofString "key") 492] }
noncomputable def o226 (_ : Params) : Obj := { cls := Value.type "tuple", data := Data.seq #[] }
noncomputable def o228 (_ : Params) : Obj := { cls := Value.type "code", data := Data.fields #[Value.str (Str.ofString "drop") 486, Value.str (Str.ofString "LockTable.drop") 487, Value.str (Str.ofString "/claim/cut.py") 488, Value.int 111 0, Value.int 2 0, Value.int 0 0, Value.int 0 0, Value.int 3 0, Value.ref 223, Value.bool true, Value.int 181 0, Value.ref 224, Value.none, Value.ref 225, Value.ref 226, Value.ref 227, Value.int 493 0, Value.int 111 0, Value.str (Str.ofString "/claim/cut.py") 494] }
noncomputable abbrev fd229 : Arguments × List Stmt × Scope := fdOf (IsFD.mk : IsFD (meth 14 16) _ _ _ _)
noncomputable def o229 (_ : Params) : Obj := fnObj "drop" "LockTable.drop" fd229.1 fd229.2.1 fd229.2.2 (Value.none) (Value.none) (Value.str (Str.ofString "pagebase.locks") 305) (Value.ref 228) (Value.none)
noncomputable def o230 (_ : Params) : Obj := { cls := Value.type "tuple", data := Data.seq #[Value.str (Str.ofString "levels") 496, Value.str (Str.ofString "slots") 497, Value.str (Str.ofString "told_marks") 498] }
noncomputable def o231 (P : Params) : Obj := { cls := Value.type "dict", data := Data.dict #[en P "__module__" 324 (Value.str (Str.ofString "pagebase.locks") 305), en P "__firstlineno__" 328 (Value.int 25 327), en P "__init__" 335 (Value.ref 115), en P "level_of" 344 (Value.ref 122), en P "highest_of_others" 356 (Value.ref 129), en P "others_shared" 365 (Value.ref 136), en P "others_reserved" 374 (Value.ref 143), en P "put_level" 385 (Value.ref 150), en P "lock" 396 (Value.ref 157), en P "take_shared" 405 (Value.ref 164), en P "take_reserved" 414 (Value.ref 171), en P "take_exclusive" 424 (Value.ref 178), en P "unlock" 434 (Value.ref 186), en P "hold" 447 (Value.ref 194), en P "free" 457 (Value.ref 201), en P "holders" 466 (Value.ref 208), en P "set_mark" 477 (Value.ref 215), en P "marks" 485 (Value.ref 222), en P "drop" 495 (Value.ref 229), en P "__static_attributes__" 499 (Value.ref 230), en P "__dict__" 501 (Value.ref 233), en P "__weakref__" 503 (Value.ref 234), en P "__doc__" 504 (Value.none)] 4 }
noncomputable def o232 (_ : Params) : Obj := { cls := Value.type "type", data := Data.cls { name := Str.ofString "LockTable", bases := [Value.type "object"], mro := [Value.ref 232, Value.type "object"], ns := 231, qualname := Str.ofString "LockTable" }, slots := #[none, none, some (Value.str (Str.ofString "LockTable") 317), some (Value.str (Str.ofString "LockTable") 325), some (Value.builtin "object.__new__"), some (Value.bool true)] }
noncomputable def o233 (_ : Params) : Obj := { cls := Value.type "getset_descriptor", data := Data.fields #[Value.str (Str.ofString "__dict__") 500, Value.ref 232, Value.builtin "function.__dict__", Value.builtin "function.__dict__#set"] }
noncomputable def o234 (_ : Params) : Obj := { cls := Value.type "getset_descriptor", data := Data.fields #[Value.str (Str.ofString "__weakref__") 502, Value.ref 232, Value.builtin "ExceptionGroup.__weakref__", Value.none] }
noncomputable def o244 (_ : Params) : Obj := { cls := Value.type "tuple", data := Data.seq #[] }
noncomputable def o245 (_ : Params) : Obj := { cls := Value.none, data := Data.fields #[] }
noncomputable def o246 (_ : Params) : Obj := { cls := Value.type "tuple", data := Data.seq #[Value.str (Str.ofString "self") 524, Value.str (Str.ofString "disk") 525, Value.str (Str.ofString "name") 526] }
noncomputable def o247 (_ : Params) : Obj := { cls := Value.type "tuple", data := Data.seq #[] }
noncomputable def o249 (_ : Params) : Obj := { cls := Value.type "code", data := Data.fields #[Value.str (Str.ofString "__init__") 521, Value.str (Str.ofString "DiskFile.__init__") 522, Value.str (Str.ofString "/claim/cut.py") 523, Value.int 121 0, Value.int 3 0, Value.int 0 0, Value.int 0 0, Value.int 3 0, Value.ref 244, Value.bool true, Value.int 181 0, Value.ref 245, Value.none, Value.ref 246, Value.ref 247, Value.ref 248, Value.int 527 0, Value.int 121 0, Value.str (Str.ofString "/claim/cut.py") 528] }
noncomputable abbrev fd250 : Arguments × List Stmt × Scope := fdOf (IsFD.mk : IsFD (meth 16 0) _ _ _ _)
noncomputable def o250 (_ : Params) : Obj := fnObj "__init__" "DiskFile.__init__" fd250.1 fd250.2.1 fd250.2.2 (Value.none) (Value.none) (Value.str (Str.ofString "pagebase.device") 507) (Value.ref 249) (Value.none)
noncomputable def o300 (_ : Params) : Obj := { cls := Value.type "tuple", data := Data.seq #[Value.str (Str.ofString "disk") 587, Value.str (Str.ofString "name") 588, Value.str (Str.ofString "now") 589, Value.str (Str.ofString "pending") 590, Value.str (Str.ofString "synced") 591] }
noncomputable def o301 (P : Params) : Obj := { cls := Value.type "dict", data := Data.dict #[en P "__module__" 516 (Value.str (Str.ofString "pagebase.device") 507), en P "__firstlineno__" 520 (Value.int 119 519), en P "__init__" 529 (Value.ref 250), en P "size" 536 (Value.ref 257), en P "read" 545 (Value.ref 264), en P "write" 554 (Value.ref 271), en P "truncate" 562 (Value.ref 278), en P "sync" 569 (Value.ref 285), en P "copy_for" 577 (Value.ref 292), en P "surviving" 586 (Value.ref 299), en P "__static_attributes__" 592 (Value.ref 300), en P "__dict__" 594 (Value.ref 303), en P "__weakref__" 596 (Value.ref 304), en P "__doc__" 597 (Value.none)] 4 }
noncomputable def o302 (_ : Params) : Obj := { cls := Value.type "type", data := Data.cls { name := Str.ofString "DiskFile", bases := [Value.type "object"], mro := [Value.ref 302, Value.type "object"], ns := 301, qualname := Str.ofString "DiskFile" }, slots := #[none, none, some (Value.str (Str.ofString "DiskFile") 509), some (Value.str (Str.ofString "DiskFile") 517), some (Value.builtin "object.__new__"), some (Value.bool true)] }
noncomputable def o303 (_ : Params) : Obj := { cls := Value.type "getset_descriptor", data := Data.fields #[Value.str (Str.ofString "__dict__") 593, Value.ref 302, Value.builtin "function.__dict__", Value.builtin "function.__dict__#set"] }
noncomputable def o304 (_ : Params) : Obj := { cls := Value.type "getset_descriptor", data := Data.fields #[Value.str (Str.ofString "__weakref__") 595, Value.ref 302, Value.builtin "ExceptionGroup.__weakref__", Value.none] }
noncomputable def o314 (_ : Params) : Obj := { cls := Value.type "tuple", data := Data.seq #[Value.int 8 612, Value.none] }
noncomputable def o315 (_ : Params) : Obj := { cls := Value.type "tuple", data := Data.seq #[] }
noncomputable def o316 (_ : Params) : Obj := { cls := Value.none, data := Data.fields #[] }
noncomputable def o317 (_ : Params) : Obj := { cls := Value.type "tuple", data := Data.seq #[Value.str (Str.ofString "self") 616, Value.str (Str.ofString "sector") 617, Value.str (Str.ofString "room") 618] }
noncomputable def o318 (_ : Params) : Obj := { cls := Value.type "tuple", data := Data.seq #[] }
noncomputable def o320 (_ : Params) : Obj := { cls := Value.type "code", data := Data.fields #[Value.str (Str.ofString "__init__") 613, Value.str (Str.ofString "Disk.__init__") 614, Value.str (Str.ofString "/claim/cut.py") 615, Value.int 160 0, Value.int 3 0, Value.int 0 0, Value.int 0 0, Value.int 3 0, Value.ref 315, Value.bool true, Value.int 181 0, Value.ref 316, Value.none, Value.ref 317, Value.ref 318, Value.ref 319, Value.int 619 0, Value.int 160 0, Value.str (Str.ofString "/claim/cut.py") 620] }
noncomputable abbrev fd321 : Arguments × List Stmt × Scope := fdOf (IsFD.mk : IsFD (meth 17 0) _ _ _ _)
noncomputable def o321 (_ : Params) : Obj := fnObj "__init__" "Disk.__init__" fd321.1 fd321.2.1 fd321.2.2 (Value.ref 314) (Value.none) (Value.str (Str.ofString "pagebase.device") 507) (Value.ref 320) (Value.none)
noncomputable def o350 (_ : Params) : Obj := { cls := Value.type "tuple", data := Data.seq #[] }
noncomputable def o351 (_ : Params) : Obj := { cls := Value.none, data := Data.fields #[] }
noncomputable def o352 (_ : Params) : Obj := { cls := Value.type "tuple", data := Data.seq #[Value.str (Str.ofString "self") 658, Value.str (Str.ofString "name") 659] }
noncomputable def o353 (_ : Params) : Obj := { cls := Value.type "tuple", data := Data.seq #[] }
noncomputable def o355 (_ : Params) : Obj := { cls := Value.type "code", data := Data.fields #[Value.str (Str.ofString "open") 655, Value.str (Str.ofString "Disk.open") 656, Value.str (Str.ofString "/claim/cut.py") 657, Value.int 189 0, Value.int 2 0, Value.int 0 0, Value.int 0 0, Value.int 3 0, Value.ref 350, Value.bool true, Value.int 181 0, Value.ref 351, Value.none, Value.ref 352, Value.ref 353, Value.ref 354, Value.int 660 0, Value.int 189 0, Value.str (Str.ofString "/claim/cut.py") 661] }
noncomputable abbrev fd356 : Arguments × List Stmt × Scope := fdOf (IsFD.mk : IsFD (meth 17 5) _ _ _ _)
noncomputable def o356 (_ : Params) : Obj := fnObj "open" "Disk.open" fd356.1 fd356.2.1 fd356.2.2 (Value.none) (Value.none) (Value.str (Str.ofString "pagebase.device") 507) (Value.ref 355) (Value.none)
noncomputable def o378 (_ : Params) : Obj := { cls := Value.type "tuple", data := Data.seq #[Value.str (Str.ofString "crash_at") 686, Value.str (Str.ofString "files") 687, Value.str (Str.ofString "locks") 688, Value.str (Str.ofString "room") 689, Value.str (Str.ofString "sector") 690, Value.str (Str.ofString "shared") 691, Value.str (Str.ofString "steps") 692] }
noncomputable def o379 (P : Params) : Obj := { cls := Value.type "dict", data := Data.dict #[en P "__module__" 607 (Value.str (Str.ofString "pagebase.device") 507), en P "__firstlineno__" 611 (Value.int 158 610), en P "__init__" 621 (Value.ref 321), en P "meet_crash" 628 (Value.ref 328), en P "step" 635 (Value.ref 335), en P "check_room" 646 (Value.ref 342), en P "exists" 654 (Value.ref 349), en P "open" 662 (Value.ref 356), en P "delete" 670 (Value.ref 363), en P "survivor" 678 (Value.ref 370), en P "copy" 685 (Value.ref 377), en P "__static_attributes__" 693 (Value.ref 378), en P "__dict__" 695 (Value.ref 381), en P "__weakref__" 697 (Value.ref 382), en P "__doc__" 698 (Value.none)] 4 }
noncomputable def o380 (_ : Params) : Obj := { cls := Value.type "type", data := Data.cls { name := Str.ofString "Disk", bases := [Value.type "object"], mro := [Value.ref 380, Value.type "object"], ns := 379, qualname := Str.ofString "Disk" }, slots := #[none, none, some (Value.str (Str.ofString "Disk") 600), some (Value.str (Str.ofString "Disk") 608), some (Value.builtin "object.__new__"), some (Value.bool true)] }
noncomputable def o381 (_ : Params) : Obj := { cls := Value.type "getset_descriptor", data := Data.fields #[Value.str (Str.ofString "__dict__") 694, Value.ref 380, Value.builtin "function.__dict__", Value.builtin "function.__dict__#set"] }
noncomputable def o382 (_ : Params) : Obj := { cls := Value.type "getset_descriptor", data := Data.fields #[Value.str (Str.ofString "__weakref__") 696, Value.ref 380, Value.builtin "ExceptionGroup.__weakref__", Value.none] }
noncomputable def o413 (_ : Params) : Obj := { cls := Value.type "tuple", data := Data.seq #[] }
noncomputable def o414 (_ : Params) : Obj := { cls := Value.none, data := Data.fields #[] }
noncomputable def o415 (_ : Params) : Obj := { cls := Value.type "tuple", data := Data.seq #[Value.str (Str.ofString "size") 752] }
noncomputable def o416 (_ : Params) : Obj := { cls := Value.type "tuple", data := Data.seq #[] }
noncomputable def o418 (_ : Params) : Obj := { cls := Value.type "code", data := Data.fields #[Value.str (Str.ofString "is_page_size") 749, Value.str (Str.ofString "is_page_size") 750, Value.str (Str.ofString "/claim/cut.py") 751, Value.int 224 0, Value.int 1 0, Value.int 0 0, Value.int 0 0, Value.int 3 0, Value.ref 413, Value.bool true, Value.int 181 0, Value.ref 414, Value.none, Value.ref 415, Value.ref 416, Value.ref 417, Value.int 753 0, Value.int 224 0, Value.str (Str.ofString "/claim/cut.py") 754] }
noncomputable abbrev fd419 : Arguments × List Stmt × Scope := fdOf (IsFD.mk : IsFD (top 28) _ _ _ _)
noncomputable def o419 (_ : Params) : Obj := fnObj "is_page_size" "is_page_size" fd419.1 fd419.2.1 fd419.2.2 (Value.none) (Value.none) (Value.str (Str.ofString "pagebase.header") 718) (Value.ref 418) (Value.none)
noncomputable def o555 (_ : Params) : Obj := { cls := Value.type "tuple", data := Data.seq #[Value.int 0 991] }
noncomputable def o556 (_ : Params) : Obj := { cls := Value.type "tuple", data := Data.seq #[] }
noncomputable def o557 (_ : Params) : Obj := { cls := Value.none, data := Data.fields #[] }
noncomputable def o558 (_ : Params) : Obj := { cls := Value.type "tuple", data := Data.seq #[Value.str (Str.ofString "self") 995, Value.str (Str.ofString "store") 996, Value.str (Str.ofString "count") 997] }
noncomputable def o559 (_ : Params) : Obj := { cls := Value.type "tuple", data := Data.seq #[] }
noncomputable def o561 (_ : Params) : Obj := { cls := Value.type "code", data := Data.fields #[Value.str (Str.ofString "__init__") 992, Value.str (Str.ofString "PageChanges.__init__") 993, Value.str (Str.ofString "/claim/cut.py") 994, Value.int 343 0, Value.int 3 0, Value.int 0 0, Value.int 0 0, Value.int 3 0, Value.ref 556, Value.bool true, Value.int 181 0, Value.ref 557, Value.none, Value.ref 558, Value.ref 559, Value.ref 560, Value.int 998 0, Value.int 343 0, Value.str (Str.ofString "/claim/cut.py") 999] }
noncomputable abbrev fd562 : Arguments × List Stmt × Scope := fdOf (IsFD.mk : IsFD (meth 38 0) _ _ _ _)
noncomputable def o562 (_ : Params) : Obj := fnObj "__init__" "PageChanges.__init__" fd562.1 fd562.2.1 fd562.2.2 (Value.ref 555) (Value.none) (Value.str (Str.ofString "pagebase.page_changes") 977) (Value.ref 561) (Value.none)
noncomputable def o641 (_ : Params) : Obj := { cls := Value.type "tuple", data := Data.seq #[Value.str (Str.ofString "count") 1093, Value.str (Str.ofString "pages") 1094, Value.str (Str.ofString "savepoints") 1095, Value.str (Str.ofString "store") 1096] }
noncomputable def o642 (P : Params) : Obj := { cls := Value.type "dict", data := Data.dict #[en P "__module__" 986 (Value.str (Str.ofString "pagebase.page_changes") 977), en P "__firstlineno__" 990 (Value.int 341 989), en P "__init__" 1000 (Value.ref 562), en P "begin" 1009 (Value.ref 569), en P "end" 1016 (Value.ref 576), en P "read" 1025 (Value.ref 583), en P "keep" 1034 (Value.ref 590), en P "put" 1043 (Value.ref 597), en P "extend" 1051 (Value.ref 604), en P "cut" 1060 (Value.ref 611), en P "open_savepoint" 1067 (Value.ref 618), en P "check_depth" 1075 (Value.ref 625), en P "release_savepoint" 1083 (Value.ref 632), en P "rollback_savepoint" 1092 (Value.ref 640), en P "__static_attributes__" 1097 (Value.ref 641), en P "__dict__" 1099 (Value.ref 644), en P "__weakref__" 1101 (Value.ref 645), en P "__doc__" 1102 (Value.none)] 4 }
noncomputable def o643 (_ : Params) : Obj := { cls := Value.type "type", data := Data.cls { name := Str.ofString "PageChanges", bases := [Value.type "object"], mro := [Value.ref 643, Value.type "object"], ns := 642, qualname := Str.ofString "PageChanges" }, slots := #[none, none, some (Value.str (Str.ofString "PageChanges") 979), some (Value.str (Str.ofString "PageChanges") 987), some (Value.builtin "object.__new__"), some (Value.bool true)] }
noncomputable def o644 (_ : Params) : Obj := { cls := Value.type "getset_descriptor", data := Data.fields #[Value.str (Str.ofString "__dict__") 1098, Value.ref 643, Value.builtin "function.__dict__", Value.builtin "function.__dict__#set"] }
noncomputable def o645 (_ : Params) : Obj := { cls := Value.type "getset_descriptor", data := Data.fields #[Value.str (Str.ofString "__weakref__") 1100, Value.ref 643, Value.builtin "ExceptionGroup.__weakref__", Value.none] }
noncomputable def o655 (_ : Params) : Obj := { cls := Value.type "tuple", data := Data.seq #[Value.int 128 1119, Value.none] }
noncomputable def o656 (_ : Params) : Obj := { cls := Value.type "tuple", data := Data.seq #[] }
noncomputable def o657 (_ : Params) : Obj := { cls := Value.none, data := Data.fields #[] }
noncomputable def o658 (_ : Params) : Obj := { cls := Value.type "tuple", data := Data.seq #[Value.str (Str.ofString "self") 1123, Value.str (Str.ofString "disk") 1124, Value.str (Str.ofString "name") 1125, Value.str (Str.ofString "owner") 1126, Value.str (Str.ofString "page_size") 1127, Value.str (Str.ofString "spill_limit") 1128] }
noncomputable def o659 (_ : Params) : Obj := { cls := Value.type "tuple", data := Data.seq #[] }
noncomputable def o661 (_ : Params) : Obj := { cls := Value.type "code", data := Data.fields #[Value.str (Str.ofString "__init__") 1120, Value.str (Str.ofString "RollbackPager.__init__") 1121, Value.str (Str.ofString "/claim/cut.py") 1122, Value.int 399 0, Value.int 6 0, Value.int 0 0, Value.int 0 0, Value.int 3 0, Value.ref 656, Value.bool true, Value.int 181 0, Value.ref 657, Value.none, Value.ref 658, Value.ref 659, Value.ref 660, Value.int 1129 0, Value.int 399 0, Value.str (Str.ofString "/claim/cut.py") 1130] }
noncomputable abbrev fd662 : Arguments × List Stmt × Scope := fdOf (IsFD.mk : IsFD (meth 40 0) _ _ _ _)
noncomputable def o662 (_ : Params) : Obj := fnObj "__init__" "RollbackPager.__init__" fd662.1 fd662.2.1 fd662.2.2 (Value.ref 655) (Value.none) (Value.str (Str.ofString "pagebase.rollback_pager") 1105) (Value.ref 661) (Value.none)
noncomputable def o929 (_ : Params) : Obj := { cls := Value.type "tuple", data := Data.seq #[Value.str (Str.ofString "base_count") 1426, Value.str (Str.ofString "cache") 1427, Value.str (Str.ofString "changes") 1428, Value.str (Str.ofString "counter") 1429, Value.str (Str.ofString "disk") 1430, Value.str (Str.ofString "file") 1431, Value.str (Str.ofString "journal") 1432, Value.str (Str.ofString "journaled") 1433, Value.str (Str.ofString "locks") 1434, Value.str (Str.ofString "mode") 1435, Value.str (Str.ofString "name") 1436, Value.str (Str.ofString "owner") 1437, Value.str (Str.ofString "page_size") 1438, Value.str (Str.ofString "reading") 1439, Value.str (Str.ofString "spill_limit") 1440, Value.str (Str.ofString "spilled") 1441, Value.str (Str.ofString "wal_flag") 1442, Value.str (Str.ofString "writing") 1443] }
noncomputable def o930 (P : Params) : Obj := { cls := Value.type "dict", data := Data.dict #[en P "__module__" 1114 (Value.str (Str.ofString "pagebase.rollback_pager") 1105), en P "__firstlineno__" 1118 (Value.int 397 1117), en P "__init__" 1131 (Value.ref 662), en P "is_reading" 1138 (Value.ref 669), en P "is_writing" 1145 (Value.ref 676), en P "begin_read" 1152 (Value.ref 683), en P "recover" 1160 (Value.ref 690), en P "look_at_head" 1168 (Value.ref 697), en P "enter_log" 1175 (Value.ref 704), en P "keep_cache" 1183 (Value.ref 711), en P "end_read" 1190 (Value.ref 718), en P "leave_file" 1197 (Value.ref 725), en P "fetch_octets" 1205 (Value.ref 732), en P "fetch" 1214 (Value.ref 739), en P "read_page" 1222 (Value.ref 746), en P "page_count" 1229 (Value.ref 753), en P "read_header" 1238 (Value.ref 760), en P "begin_write" 1245 (Value.ref 767), en P "take_write" 1252 (Value.ref 774), en P "lock_exclusive" 1259 (Value.ref 781), en P "lock_file" 1267 (Value.ref 788), en P "need_writing" 1274 (Value.ref 795), en P "open_journal" 1282 (Value.ref 802), en P "keep_original" 1291 (Value.ref 809), en P "put_page" 1300 (Value.ref 816), en P "write_page" 1309 (Value.ref 823), en P "write_header" 1317 (Value.ref 830), en P "extend" 1324 (Value.ref 837), en P "truncate" 1334 (Value.ref 844), en P "spill" 1341 (Value.ref 851), en P "write_changes" 1351 (Value.ref 858), en P "has_changes" 1358 (Value.ref 865), en P "commit" 1366 (Value.ref 872), en P "commit_changes" 1373 (Value.ref 879), en P "close_write" 1381 (Value.ref 886), en P "leave_write" 1388 (Value.ref 893), en P "rollback" 1395 (Value.ref 900), en P "open_savepoint" 1402 (Value.ref 907), en P "release_savepoint" 1410 (Value.ref 914), en P "rollback_savepoint" 1418 (Value.ref 921), en P "close" 1425 (Value.ref 928), en P "__static_attributes__" 1444 (Value.ref 929), en P "__dict__" 1446 (Value.ref 932), en P "__weakref__" 1448 (Value.ref 933), en P "__doc__" 1449 (Value.none)] 4 }
noncomputable def o931 (_ : Params) : Obj := { cls := Value.type "type", data := Data.cls { name := Str.ofString "RollbackPager", bases := [Value.type "object"], mro := [Value.ref 931, Value.type "object"], ns := 930, qualname := Str.ofString "RollbackPager", subclasses := [Value.ref 1344] }, slots := #[none, none, some (Value.str (Str.ofString "RollbackPager") 1107), some (Value.str (Str.ofString "RollbackPager") 1115), some (Value.builtin "object.__new__"), some (Value.bool true)] }
noncomputable def o932 (_ : Params) : Obj := { cls := Value.type "getset_descriptor", data := Data.fields #[Value.str (Str.ofString "__dict__") 1445, Value.ref 931, Value.builtin "function.__dict__", Value.builtin "function.__dict__#set"] }
noncomputable def o933 (_ : Params) : Obj := { cls := Value.type "getset_descriptor", data := Data.fields #[Value.str (Str.ofString "__weakref__") 1447, Value.ref 931, Value.builtin "ExceptionGroup.__weakref__", Value.none] }
noncomputable def o1201 (_ : Params) : Obj := { cls := Value.type "tuple", data := Data.seq #[Value.ref 931] }
noncomputable def o1208 (_ : Params) : Obj := { cls := Value.type "tuple", data := Data.seq #[Value.int 128 1859, Value.none] }
noncomputable def o1209 (_ : Params) : Obj := { cls := Value.type "tuple", data := Data.seq #[] }
noncomputable def o1210 (_ : Params) : Obj := { cls := Value.none, data := Data.fields #[] }
noncomputable def o1211 (_ : Params) : Obj := { cls := Value.type "tuple", data := Data.seq #[Value.str (Str.ofString "self") 1863, Value.str (Str.ofString "disk") 1864, Value.str (Str.ofString "name") 1865, Value.str (Str.ofString "owner") 1866, Value.str (Str.ofString "page_size") 1867, Value.str (Str.ofString "spill_limit") 1868] }
noncomputable def o1212 (_ : Params) : Obj := { cls := Value.type "tuple", data := Data.seq #[] }
noncomputable def o1214 (_ : Params) : Obj := { cls := Value.type "code", data := Data.fields #[Value.str (Str.ofString "__init__") 1860, Value.str (Str.ofString "Pager.__init__") 1861, Value.str (Str.ofString "/claim/cut.py") 1862, Value.int 965 0, Value.int 6 0, Value.int 0 0, Value.int 0 0, Value.int 3 0, Value.ref 1209, Value.bool true, Value.int 181 0, Value.ref 1210, Value.none, Value.ref 1211, Value.ref 1212, Value.ref 1213, Value.int 1869 0, Value.int 965 0, Value.str (Str.ofString "/claim/cut.py") 1870] }
noncomputable abbrev fd1215 : Arguments × List Stmt × Scope := fdOf (IsFD.mk : IsFD (meth 56 0) _ _ _ _)
noncomputable def o1215 (_ : Params) : Obj := fnObj "__init__" "Pager.__init__" fd1215.1 fd1215.2.1 fd1215.2.2 (Value.ref 1208) (Value.none) (Value.str (Str.ofString "pagebase.pager") 1845) (Value.ref 1214) (Value.none)
noncomputable def o1321 (_ : Params) : Obj := { cls := Value.type "tuple", data := Data.seq #[] }
noncomputable def o1322 (_ : Params) : Obj := { cls := Value.none, data := Data.fields #[] }
noncomputable def o1323 (_ : Params) : Obj := { cls := Value.type "tuple", data := Data.seq #[Value.str (Str.ofString "self") 1986, Value.str (Str.ofString "marks") 1987, Value.str (Str.ofString "least") 1988, Value.str (Str.ofString "other") 1989] }
noncomputable def o1324 (_ : Params) : Obj := { cls := Value.type "tuple", data := Data.seq #[] }
noncomputable def o1326 (_ : Params) : Obj := { cls := Value.type "code", data := Data.fields #[Value.str (Str.ofString "least_mark") 1983, Value.str (Str.ofString "Pager.least_mark") 1984, Value.str (Str.ofString "/claim/cut.py") 1985, Value.int 1040 0, Value.int 1 0, Value.int 0 0, Value.int 0 0, Value.int 3 0, Value.ref 1321, Value.bool true, Value.int 181 0, Value.ref 1322, Value.none, Value.ref 1323, Value.ref 1324, Value.ref 1325, Value.int 1990 0, Value.int 1040 0, Value.str (Str.ofString "/claim/cut.py") 1991] }
noncomputable abbrev fd1327 : Arguments × List Stmt × Scope := fdOf (IsFD.mk : IsFD (meth 56 16) _ _ _ _)
noncomputable def o1327 (_ : Params) : Obj := fnObj "least_mark" "Pager.least_mark" fd1327.1 fd1327.2.1 fd1327.2.2 (Value.none) (Value.none) (Value.str (Str.ofString "pagebase.pager") 1845) (Value.ref 1326) (Value.none)
noncomputable def o1342 (_ : Params) : Obj := { cls := Value.type "tuple", data := Data.seq #[Value.str (Str.ofString "cache") 2014, Value.str (Str.ofString "counter") 2015, Value.str (Str.ofString "mark") 2016, Value.str (Str.ofString "mode") 2017, Value.str (Str.ofString "wal") 2018] }
noncomputable def o1343 (P : Params) : Obj := { cls := Value.type "dict", data := Data.dict #[en P "__module__" 1854 (Value.str (Str.ofString "pagebase.pager") 1845), en P "__firstlineno__" 1858 (Value.int 963 1857), en P "__init__" 1871 (Value.ref 1215), en P "enter_log" 1878 (Value.ref 1222), en P "begin_log" 1886 (Value.ref 1229), en P "open_log" 1893 (Value.ref 1236), en P "leave_file" 1900 (Value.ref 1243), en P "fetch_octets" 1909 (Value.ref 1250), en P "take_write" 1916 (Value.ref 1257), en P "lock_exclusive" 1923 (Value.ref 1264), en P "keep_original" 1931 (Value.ref 1271), en P "spill" 1938 (Value.ref 1278), en P "commit_changes" 1945 (Value.ref 1285), en P "leave_write" 1952 (Value.ref 1292), en P "set_mode" 1960 (Value.ref 1299), en P "change_flag" 1968 (Value.ref 1306), en P "go_to_log" 1975 (Value.ref 1313), en P "go_to_journal" 1982 (Value.ref 1320), en P "least_mark" 1992 (Value.ref 1327), en P "checkpoint" 2001 (Value.ref 1334), en P "copy_log" 2013 (Value.ref 1341), en P "__static_attributes__" 2019 (Value.ref 1342), en P "__doc__" 2020 (Value.none)] 2 }
noncomputable def o1344 (_ : Params) : Obj := { cls := Value.type "type", data := Data.cls { name := Str.ofString "Pager", bases := [Value.ref 931], mro := [Value.ref 1344, Value.ref 931, Value.type "object"], ns := 1343, qualname := Str.ofString "Pager" }, slots := #[some (Value.ref 1201), none, some (Value.str (Str.ofString "Pager") 1847), some (Value.str (Str.ofString "Pager") 1855), some (Value.builtin "object.__new__"), some (Value.bool true)] }
noncomputable def o1347 (_ : Params) : Obj := { cls := Value.type "tuple", data := Data.seq #[] }
noncomputable def o1348 (_ : Params) : Obj := { cls := Value.none, data := Data.fields #[] }
noncomputable def o1349 (_ : Params) : Obj := { cls := Value.type "tuple", data := Data.seq #[Value.str (Str.ofString "script") 2028, Value.str (Str.ofString "k") 2029, Value.str (Str.ofString "cell") 2030, Value.str (Str.ofString "big") 2031, Value.str (Str.ofString "mixed") 2032] }
noncomputable def o1350 (_ : Params) : Obj := { cls := Value.type "tuple", data := Data.seq #[] }
noncomputable def o1352 (_ : Params) : Obj := { cls := Value.type "code", data := Data.fields #[Value.str (Str.ofString "_law_pool") 2025, Value.str (Str.ofString "_law_pool") 2026, Value.str (Str.ofString "/claim/cut.py") 2027, Value.int 1081 0, Value.int 2 0, Value.int 0 0, Value.int 0 0, Value.int 3 0, Value.ref 1347, Value.bool true, Value.int 181 0, Value.ref 1348, Value.none, Value.ref 1349, Value.ref 1350, Value.ref 1351, Value.int 2033 0, Value.int 1081 0, Value.str (Str.ofString "/claim/cut.py") 2034] }
noncomputable abbrev fd1353 : Arguments × List Stmt × Scope := fdOf (IsFD.mk : IsFD (top 58) _ _ _ _)
noncomputable def o1353 (_ : Params) : Obj := fnObj "_law_pool" "_law_pool" fd1353.1 fd1353.2.1 fd1353.2.2 (Value.none) (Value.none) (Value.str (Str.ofString "law_xm0775_01") 2023) (Value.ref 1352) (Value.none)
noncomputable def o1354 (_ : Params) : Obj := { cls := Value.type "tuple", data := Data.seq #[] }
noncomputable def o1355 (_ : Params) : Obj := { cls := Value.none, data := Data.fields #[] }
noncomputable def o1356 (_ : Params) : Obj := { cls := Value.type "tuple", data := Data.seq #[Value.str (Str.ofString "source") 2039, Value.str (Str.ofString "top") 2040, Value.str (Str.ofString "digit") 2041] }
noncomputable def o1357 (_ : Params) : Obj := { cls := Value.type "tuple", data := Data.seq #[] }
noncomputable def o1359 (_ : Params) : Obj := { cls := Value.type "code", data := Data.fields #[Value.str (Str.ofString "_law_take") 2036, Value.str (Str.ofString "_law_take") 2037, Value.str (Str.ofString "/claim/cut.py") 2038, Value.int 1088 0, Value.int 2 0, Value.int 0 0, Value.int 0 0, Value.int 3 0, Value.ref 1354, Value.bool true, Value.int 181 0, Value.ref 1355, Value.none, Value.ref 1356, Value.ref 1357, Value.ref 1358, Value.int 2042 0, Value.int 1088 0, Value.str (Str.ofString "/claim/cut.py") 2043] }
noncomputable abbrev fd1360 : Arguments × List Stmt × Scope := fdOf (IsFD.mk : IsFD (top 59) _ _ _ _)
noncomputable def o1360 (_ : Params) : Obj := fnObj "_law_take" "_law_take" fd1360.1 fd1360.2.1 fd1360.2.2 (Value.none) (Value.none) (Value.str (Str.ofString "law_xm0775_01") 2023) (Value.ref 1359) (Value.none)
noncomputable def o1361 (_ : Params) : Obj := { cls := Value.type "tuple", data := Data.seq #[] }
noncomputable def o1362 (_ : Params) : Obj := { cls := Value.none, data := Data.fields #[] }
noncomputable def o1363 (_ : Params) : Obj := { cls := Value.type "tuple", data := Data.seq #[Value.str (Str.ofString "source") 2048, Value.str (Str.ofString "things") 2049] }
noncomputable def o1364 (_ : Params) : Obj := { cls := Value.type "tuple", data := Data.seq #[] }
noncomputable def o1366 (_ : Params) : Obj := { cls := Value.type "code", data := Data.fields #[Value.str (Str.ofString "_law_one") 2045, Value.str (Str.ofString "_law_one") 2046, Value.str (Str.ofString "/claim/cut.py") 2047, Value.int 1095 0, Value.int 2 0, Value.int 0 0, Value.int 0 0, Value.int 3 0, Value.ref 1361, Value.bool true, Value.int 181 0, Value.ref 1362, Value.none, Value.ref 1363, Value.ref 1364, Value.ref 1365, Value.int 2050 0, Value.int 1095 0, Value.str (Str.ofString "/claim/cut.py") 2051] }
noncomputable abbrev fd1367 : Arguments × List Stmt × Scope := fdOf (IsFD.mk : IsFD (top 60) _ _ _ _)
noncomputable def o1367 (_ : Params) : Obj := fnObj "_law_one" "_law_one" fd1367.1 fd1367.2.1 fd1367.2.2 (Value.none) (Value.none) (Value.str (Str.ofString "law_xm0775_01") 2023) (Value.ref 1366) (Value.none)
noncomputable def o1368 (_ : Params) : Obj := { cls := Value.type "tuple", data := Data.seq #[] }
noncomputable def o1369 (_ : Params) : Obj := { cls := Value.none, data := Data.fields #[] }
noncomputable def o1370 (_ : Params) : Obj := { cls := Value.type "tuple", data := Data.seq #[Value.str (Str.ofString "locks") 2056, Value.str (Str.ofString "owner") 2057, Value.str (Str.ofString "name") 2058, Value.str (Str.ofString "level") 2059] }
noncomputable def o1371 (_ : Params) : Obj := { cls := Value.type "tuple", data := Data.seq #[] }
noncomputable def o1373 (_ : Params) : Obj := { cls := Value.type "code", data := Data.fields #[Value.str (Str.ofString "_law_lock") 2053, Value.str (Str.ofString "_law_lock") 2054, Value.str (Str.ofString "/claim/cut.py") 2055, Value.int 1097 0, Value.int 4 0, Value.int 0 0, Value.int 0 0, Value.int 3 0, Value.ref 1368, Value.bool true, Value.int 181 0, Value.ref 1369, Value.none, Value.ref 1370, Value.ref 1371, Value.ref 1372, Value.int 2060 0, Value.int 1097 0, Value.str (Str.ofString "/claim/cut.py") 2061] }
noncomputable abbrev fd1374 : Arguments × List Stmt × Scope := fdOf (IsFD.mk : IsFD (top 61) _ _ _ _)
noncomputable def o1374 (_ : Params) : Obj := fnObj "_law_lock" "_law_lock" fd1374.1 fd1374.2.1 fd1374.2.2 (Value.none) (Value.none) (Value.str (Str.ofString "law_xm0775_01") 2023) (Value.ref 1373) (Value.none)
noncomputable def o1375 (_ : Params) : Obj := { cls := Value.type "tuple", data := Data.seq #[] }
noncomputable def o1376 (_ : Params) : Obj := { cls := Value.none, data := Data.fields #[] }
noncomputable def o1378 (_ : Params) : Obj := { cls := Value.type "code", data := Data.fields #[Value.str (Str.ofString "_law_highest") 2063, Value.str (Str.ofString "_law_highest") 2064, Value.str (Str.ofString "/claim/cut.py") 2065, Value.int 1103 0, Value.int 3 0, Value.int 0 0, Value.int 0 0, Value.int 3 0, Value.ref 1375, Value.bool true, Value.int 181 0, Value.ref 1376, Value.none, Value.none, Value.none, Value.ref 1377, Value.int 2066 0, Value.int 1103 0, Value.str (Str.ofString "/claim/cut.py") 2067] }
noncomputable abbrev fd1379 : Arguments × List Stmt × Scope := fdOf (IsFD.mk : IsFD (top 62) _ _ _ _)
noncomputable def o1379 (_ : Params) : Obj := fnObj "_law_highest" "_law_highest" fd1379.1 fd1379.2.1 fd1379.2.2 (Value.none) (Value.none) (Value.str (Str.ofString "law_xm0775_01") 2023) (Value.ref 1378) (Value.none)
noncomputable def o1380 (_ : Params) : Obj := { cls := Value.type "tuple", data := Data.seq #[] }
noncomputable def o1381 (_ : Params) : Obj := { cls := Value.none, data := Data.fields #[] }
noncomputable def o1383 (_ : Params) : Obj := { cls := Value.type "code", data := Data.fields #[Value.str (Str.ofString "_law_level") 2069, Value.str (Str.ofString "_law_level") 2070, Value.str (Str.ofString "/claim/cut.py") 2071, Value.int 1105 0, Value.int 3 0, Value.int 0 0, Value.int 0 0, Value.int 3 0, Value.ref 1380, Value.bool true, Value.int 181 0, Value.ref 1381, Value.none, Value.none, Value.none, Value.ref 1382, Value.int 2072 0, Value.int 1105 0, Value.str (Str.ofString "/claim/cut.py") 2073] }
noncomputable abbrev fd1384 : Arguments × List Stmt × Scope := fdOf (IsFD.mk : IsFD (top 63) _ _ _ _)
noncomputable def o1384 (_ : Params) : Obj := fnObj "_law_level" "_law_level" fd1384.1 fd1384.2.1 fd1384.2.2 (Value.none) (Value.none) (Value.str (Str.ofString "law_xm0775_01") 2023) (Value.ref 1383) (Value.none)
noncomputable def o1385 (_ : Params) : Obj := { cls := Value.type "tuple", data := Data.seq #[] }
noncomputable def o1386 (_ : Params) : Obj := { cls := Value.none, data := Data.fields #[] }
noncomputable def o1388 (_ : Params) : Obj := { cls := Value.type "code", data := Data.fields #[Value.str (Str.ofString "_law_put") 2075, Value.str (Str.ofString "_law_put") 2076, Value.str (Str.ofString "/claim/cut.py") 2077, Value.int 1107 0, Value.int 4 0, Value.int 0 0, Value.int 0 0, Value.int 3 0, Value.ref 1385, Value.bool true, Value.int 181 0, Value.ref 1386, Value.none, Value.none, Value.none, Value.ref 1387, Value.int 2078 0, Value.int 1107 0, Value.str (Str.ofString "/claim/cut.py") 2079] }
noncomputable abbrev fd1389 : Arguments × List Stmt × Scope := fdOf (IsFD.mk : IsFD (top 64) _ _ _ _)
noncomputable def o1389 (_ : Params) : Obj := fnObj "_law_put" "_law_put" fd1389.1 fd1389.2.1 fd1389.2.2 (Value.none) (Value.none) (Value.str (Str.ofString "law_xm0775_01") 2023) (Value.ref 1388) (Value.none)
noncomputable def o1390 (_ : Params) : Obj := { cls := Value.type "tuple", data := Data.seq #[] }
noncomputable def o1391 (_ : Params) : Obj := { cls := Value.none, data := Data.fields #[] }
noncomputable def o1392 (_ : Params) : Obj := { cls := Value.type "tuple", data := Data.seq #[Value.str (Str.ofString "locks") 2084, Value.str (Str.ofString "levels") 2085, Value.str (Str.ofString "owner") 2086, Value.str (Str.ofString "name") 2087, Value.str (Str.ofString "level") 2088, Value.str (Str.ofString "mine") 2089, Value.str (Str.ofString "highest") 2090, Value.str (Str.ofString "reached") 2091, Value.str (Str.ofString "is_right") 2092] }
noncomputable def o1393 (_ : Params) : Obj := { cls := Value.type "tuple", data := Data.seq #[] }
noncomputable def o1395 (_ : Params) : Obj := { cls := Value.type "code", data := Data.fields #[Value.str (Str.ofString "_law_asked") 2081, Value.str (Str.ofString "_law_asked") 2082, Value.str (Str.ofString "/claim/cut.py") 2083, Value.int 1109 0, Value.int 5 0, Value.int 0 0, Value.int 0 0, Value.int 3 0, Value.ref 1390, Value.bool true, Value.int 181 0, Value.ref 1391, Value.none, Value.ref 1392, Value.ref 1393, Value.ref 1394, Value.int 2093 0, Value.int 1109 0, Value.str (Str.ofString "/claim/cut.py") 2094] }
noncomputable abbrev fd1396 : Arguments × List Stmt × Scope := fdOf (IsFD.mk : IsFD (top 65) _ _ _ _)
noncomputable def o1396 (_ : Params) : Obj := fnObj "_law_asked" "_law_asked" fd1396.1 fd1396.2.1 fd1396.2.2 (Value.none) (Value.none) (Value.str (Str.ofString "law_xm0775_01") 2023) (Value.ref 1395) (Value.none)
noncomputable def o1397 (_ : Params) : Obj := { cls := Value.type "tuple", data := Data.seq #[] }
noncomputable def o1398 (_ : Params) : Obj := { cls := Value.none, data := Data.fields #[] }
noncomputable def o1399 (_ : Params) : Obj := { cls := Value.type "tuple", data := Data.seq #[Value.str (Str.ofString "locks") 2099, Value.str (Str.ofString "levels") 2100, Value.str (Str.ofString "name") 2101, Value.str (Str.ofString "owner") 2102, Value.str (Str.ofString "highest") 2103] }
noncomputable def o1400 (_ : Params) : Obj := { cls := Value.type "tuple", data := Data.seq #[] }
noncomputable def o1402 (_ : Params) : Obj := { cls := Value.type "code", data := Data.fields #[Value.str (Str.ofString "_law_stands") 2096, Value.str (Str.ofString "_law_stands") 2097, Value.str (Str.ofString "/claim/cut.py") 2098, Value.int 1114 0, Value.int 3 0, Value.int 0 0, Value.int 0 0, Value.int 3 0, Value.ref 1397, Value.bool true, Value.int 181 0, Value.ref 1398, Value.none, Value.ref 1399, Value.ref 1400, Value.ref 1401, Value.int 2104 0, Value.int 1114 0, Value.str (Str.ofString "/claim/cut.py") 2105] }
noncomputable abbrev fd1403 : Arguments × List Stmt × Scope := fdOf (IsFD.mk : IsFD (top 66) _ _ _ _)
noncomputable def o1403 (_ : Params) : Obj := fnObj "_law_stands" "_law_stands" fd1403.1 fd1403.2.1 fd1403.2.2 (Value.none) (Value.none) (Value.str (Str.ofString "law_xm0775_01") 2023) (Value.ref 1402) (Value.none)
noncomputable def o1404 (_ : Params) : Obj := { cls := Value.type "tuple", data := Data.seq #[] }
noncomputable def o1405 (_ : Params) : Obj := { cls := Value.none, data := Data.fields #[] }
noncomputable def o1407 (_ : Params) : Obj := { cls := Value.type "code", data := Data.fields #[Value.str (Str.ofString "_law_least_right") 2107, Value.str (Str.ofString "_law_least_right") 2108, Value.str (Str.ofString "/claim/cut.py") 2109, Value.int 1124 0, Value.int 2 0, Value.int 0 0, Value.int 0 0, Value.int 3 0, Value.ref 1404, Value.bool true, Value.int 181 0, Value.ref 1405, Value.none, Value.none, Value.none, Value.ref 1406, Value.int 2110 0, Value.int 1124 0, Value.str (Str.ofString "/claim/cut.py") 2111] }
noncomputable abbrev fd1408 : Arguments × List Stmt × Scope := fdOf (IsFD.mk : IsFD (top 67) _ _ _ _)
noncomputable def o1408 (_ : Params) : Obj := fnObj "_law_least_right" "_law_least_right" fd1408.1 fd1408.2.1 fd1408.2.2 (Value.none) (Value.none) (Value.str (Str.ofString "law_xm0775_01") 2023) (Value.ref 1407) (Value.none)
noncomputable def o1409 (_ : Params) : Obj := { cls := Value.type "tuple", data := Data.seq #[] }
noncomputable def o1410 (_ : Params) : Obj := { cls := Value.none, data := Data.fields #[] }
noncomputable def o1412 (_ : Params) : Obj := { cls := Value.type "code", data := Data.fields #[Value.str (Str.ofString "_law_right") 2113, Value.str (Str.ofString "_law_right") 2114, Value.str (Str.ofString "/claim/cut.py") 2115, Value.int 1127 0, Value.int 1 0, Value.int 0 0, Value.int 0 0, Value.int 3 0, Value.ref 1409, Value.bool true, Value.int 181 0, Value.ref 1410, Value.none, Value.none, Value.none, Value.ref 1411, Value.int 2116 0, Value.int 1127 0, Value.str (Str.ofString "/claim/cut.py") 2117] }
noncomputable abbrev fd1413 : Arguments × List Stmt × Scope := fdOf (IsFD.mk : IsFD (top 68) _ _ _ _)
noncomputable def o1413 (_ : Params) : Obj := fnObj "_law_right" "_law_right" fd1413.1 fd1413.2.1 fd1413.2.2 (Value.none) (Value.none) (Value.str (Str.ofString "law_xm0775_01") 2023) (Value.ref 1412) (Value.none)
noncomputable def o1414 (_ : Params) : Obj := { cls := Value.type "tuple", data := Data.seq #[] }
noncomputable def o1415 (_ : Params) : Obj := { cls := Value.none, data := Data.fields #[] }
noncomputable def o1416 (_ : Params) : Obj := { cls := Value.type "tuple", data := Data.seq #[Value.str (Str.ofString "script") 2122, Value.str (Str.ofString "locks") 2123, Value.str (Str.ofString "k") 2124] }
noncomputable def o1417 (_ : Params) : Obj := { cls := Value.type "tuple", data := Data.seq #[] }
noncomputable def o1419 (_ : Params) : Obj := { cls := Value.type "code", data := Data.fields #[Value.str (Str.ofString "law") 2119, Value.str (Str.ofString "law") 2120, Value.str (Str.ofString "/claim/cut.py") 2121, Value.int 1151 0, Value.int 1 0, Value.int 0 0, Value.int 0 0, Value.int 3 0, Value.ref 1414, Value.bool true, Value.int 181 0, Value.ref 1415, Value.none, Value.ref 1416, Value.ref 1417, Value.ref 1418, Value.int 2125 0, Value.int 1151 0, Value.str (Str.ofString "/claim/cut.py") 2126] }
noncomputable abbrev fd1420 : Arguments × List Stmt × Scope := fdOf (IsFD.mk : IsFD (top 69) _ _ _ _)
noncomputable def o1420 (_ : Params) : Obj := fnObj "law" "law" fd1420.1 fd1420.2.1 fd1420.2.2 (Value.none) (Value.none) (Value.str (Str.ofString "law_xm0775_01") 2023) (Value.ref 1419) (Value.none)
noncomputable def kk (P : Params) : Frag := (nat_lit 2, o2 P) :: (nat_lit 3, o3 P) :: (nat_lit 22, o22 P) :: (nat_lit 29, o29 P) :: (nat_lit 30, o30 P) :: (nat_lit 31, o31 P) :: (nat_lit 32, o32 P) :: (nat_lit 34, o34 P) :: (nat_lit 35, o35 P) :: (nat_lit 36, o36 P) :: (nat_lit 37, o37 P) :: (nat_lit 38, o38 P) :: (nat_lit 39, o39 P) :: (nat_lit 42, o42 P) :: (nat_lit 49, o49 P) :: (nat_lit 50, o50 P) :: (nat_lit 51, o51 P) :: (nat_lit 109, o109 P) :: (nat_lit 110, o110 P) :: (nat_lit 111, o111 P) :: (nat_lit 112, o112 P) :: (nat_lit 114, o114 P) :: (nat_lit 115, o115 P) :: (nat_lit 116, o116 P) :: (nat_lit 117, o117 P) :: (nat_lit 118, o118 P) :: (nat_lit 119, o119 P) :: (nat_lit 121, o121 P) :: (nat_lit 122, o122 P) :: (nat_lit 123, o123 P) :: (nat_lit 124, o124 P) :: (nat_lit 125, o125 P) :: (nat_lit 126, o126 P) :: (nat_lit 128, o128 P) :: (nat_lit 129, o129 P) :: (nat_lit 130, o130 P) :: (nat_lit 131, o131 P) :: (nat_lit 132, o132 P) :: (nat_lit 133, o133 P) :: (nat_lit 135, o135 P) :: (nat_lit 136, o136 P) :: (nat_lit 137, o137 P) :: (nat_lit 138, o138 P) :: (nat_lit 139, o139 P) :: (nat_lit 140, o140 P) :: (nat_lit 142, o142 P) :: (nat_lit 143, o143 P) :: (nat_lit 144, o144 P) :: (nat_lit 145, o145 P) :: (nat_lit 146, o146 P) :: (nat_lit 147, o147 P) :: (nat_lit 149, o149 P) :: (nat_lit 150, o150 P) :: (nat_lit 151, o151 P) :: (nat_lit 152, o152 P) :: (nat_lit 153, o153 P) :: (nat_lit 154, o154 P) :: (nat_lit 156, o156 P) :: (nat_lit 157, o157 P) :: (nat_lit 158, o158 P) :: (nat_lit 159, o159 P) :: (nat_lit 160, o160 P) :: (nat_lit 161, o161 P) :: (nat_lit 163, o163 P) :: (nat_lit 164, o164 P) :: (nat_lit 165, o165 P) :: (nat_lit 166, o166 P) :: (nat_lit 167, o167 P) :: (nat_lit 168, o168 P) :: (nat_lit 170, o170 P) :: (nat_lit 171, o171 P) :: (nat_lit 172, o172 P) :: (nat_lit 173, o173 P) :: (nat_lit 174, o174 P) :: (nat_lit 175, o175 P) :: (nat_lit 177, o177 P) :: (nat_lit 178, o178 P) :: (nat_lit 179, o179 P) :: (nat_lit 180, o180 P) :: (nat_lit 181, o181 P) :: (nat_lit 182, o182 P) :: (nat_lit 183, o183 P) :: (nat_lit 185, o185 P) :: (nat_lit 186, o186 P) :: (nat_lit 209, o209 P) :: (nat_lit 210, o210 P) :: (nat_lit 211, o211 P) :: (nat_lit 212, o212 P) :: (nat_lit 214, o214 P) :: (nat_lit 215, o215 P) :: (nat_lit 216, o216 P) :: (nat_lit 217, o217 P) :: (nat_lit 218, o218 P) :: (nat_lit 219, o219 P) :: (nat_lit 221, o221 P) :: (nat_lit 222, o222 P) :: (nat_lit 223, o223 P) :: (nat_lit 224, o224 P) :: (nat_lit 225, o225 P) :: (nat_lit 226, o226 P) :: (nat_lit 228, o228 P) :: (nat_lit 229, o229 P) :: (nat_lit 230, o230 P) :: (nat_lit 231, o231 P) :: (nat_lit 232, o232 P) :: (nat_lit 233, o233 P) :: (nat_lit 234, o234 P) :: (nat_lit 244, o244 P) :: (nat_lit 245, o245 P) :: (nat_lit 246, o246 P) :: (nat_lit 247, o247 P) :: (nat_lit 249, o249 P) :: (nat_lit 250, o250 P) :: (nat_lit 300, o300 P) :: (nat_lit 301, o301 P) :: (nat_lit 302, o302 P) :: (nat_lit 303, o303 P) :: (nat_lit 304, o304 P) :: (nat_lit 314, o314 P) :: (nat_lit 315, o315 P) :: (nat_lit 316, o316 P) :: (nat_lit 317, o317 P) :: (nat_lit 318, o318 P) :: (nat_lit 320, o320 P) :: (nat_lit 321, o321 P) :: (nat_lit 350, o350 P) :: (nat_lit 351, o351 P) :: (nat_lit 352, o352 P) :: (nat_lit 353, o353 P) :: (nat_lit 355, o355 P) :: (nat_lit 356, o356 P) :: (nat_lit 378, o378 P) :: (nat_lit 379, o379 P) :: (nat_lit 380, o380 P) :: (nat_lit 381, o381 P) :: (nat_lit 382, o382 P) :: (nat_lit 413, o413 P) :: (nat_lit 414, o414 P) :: (nat_lit 415, o415 P) :: (nat_lit 416, o416 P) :: (nat_lit 418, o418 P) :: (nat_lit 419, o419 P) :: (nat_lit 555, o555 P) :: (nat_lit 556, o556 P) :: (nat_lit 557, o557 P) :: (nat_lit 558, o558 P) :: (nat_lit 559, o559 P) :: (nat_lit 561, o561 P) :: (nat_lit 562, o562 P) :: (nat_lit 641, o641 P) :: (nat_lit 642, o642 P) :: (nat_lit 643, o643 P) :: (nat_lit 644, o644 P) :: (nat_lit 645, o645 P) :: (nat_lit 655, o655 P) :: (nat_lit 656, o656 P) :: (nat_lit 657, o657 P) :: (nat_lit 658, o658 P) :: (nat_lit 659, o659 P) :: (nat_lit 661, o661 P) :: (nat_lit 662, o662 P) :: (nat_lit 929, o929 P) :: (nat_lit 930, o930 P) :: (nat_lit 931, o931 P) :: (nat_lit 932, o932 P) :: (nat_lit 933, o933 P) :: (nat_lit 1201, o1201 P) :: (nat_lit 1208, o1208 P) :: (nat_lit 1209, o1209 P) :: (nat_lit 1210, o1210 P) :: (nat_lit 1211, o1211 P) :: (nat_lit 1212, o1212 P) :: (nat_lit 1214, o1214 P) :: (nat_lit 1215, o1215 P) :: (nat_lit 1321, o1321 P) :: (nat_lit 1322, o1322 P) :: (nat_lit 1323, o1323 P) :: (nat_lit 1324, o1324 P) :: (nat_lit 1326, o1326 P) :: (nat_lit 1327, o1327 P) :: (nat_lit 1342, o1342 P) :: (nat_lit 1343, o1343 P) :: (nat_lit 1344, o1344 P) :: (nat_lit 1347, o1347 P) :: (nat_lit 1348, o1348 P) :: (nat_lit 1349, o1349 P) :: (nat_lit 1350, o1350 P) :: (nat_lit 1352, o1352 P) :: (nat_lit 1353, o1353 P) :: (nat_lit 1354, o1354 P) :: (nat_lit 1355, o1355 P) :: (nat_lit 1356, o1356 P) :: (nat_lit 1357, o1357 P) :: (nat_lit 1359, o1359 P) :: (nat_lit 1360, o1360 P) :: (nat_lit 1361, o1361 P) :: (nat_lit 1362, o1362 P) :: (nat_lit 1363, o1363 P) :: (nat_lit 1364, o1364 P) :: (nat_lit 1366, o1366 P) :: (nat_lit 1367, o1367 P) :: (nat_lit 1368, o1368 P) :: (nat_lit 1369, o1369 P) :: (nat_lit 1370, o1370 P) :: (nat_lit 1371, o1371 P) :: (nat_lit 1373, o1373 P) :: (nat_lit 1374, o1374 P) :: (nat_lit 1375, o1375 P) :: (nat_lit 1376, o1376 P) :: (nat_lit 1378, o1378 P) :: (nat_lit 1379, o1379 P) :: (nat_lit 1380, o1380 P) :: (nat_lit 1381, o1381 P) :: (nat_lit 1383, o1383 P) :: (nat_lit 1384, o1384 P) :: (nat_lit 1385, o1385 P) :: (nat_lit 1386, o1386 P) :: (nat_lit 1388, o1388 P) :: (nat_lit 1389, o1389 P) :: (nat_lit 1390, o1390 P) :: (nat_lit 1391, o1391 P) :: (nat_lit 1392, o1392 P) :: (nat_lit 1393, o1393 P) :: (nat_lit 1395, o1395 P) :: (nat_lit 1396, o1396 P) :: (nat_lit 1397, o1397 P) :: (nat_lit 1398, o1398 P) :: (nat_lit 1399, o1399 P) :: (nat_lit 1400, o1400 P) :: (nat_lit 1402, o1402 P) :: (nat_lit 1403, o1403 P) :: (nat_lit 1404, o1404 P) :: (nat_lit 1405, o1405 P) :: (nat_lit 1407, o1407 P) :: (nat_lit 1408, o1408 P) :: (nat_lit 1409, o1409 P) :: (nat_lit 1410, o1410 P) :: (nat_lit 1412, o1412 P) :: (nat_lit 1413, o1413 P) :: (nat_lit 1414, o1414 P) :: (nat_lit 1415, o1415 P) :: (nat_lit 1416, o1416 P) :: (nat_lit 1417, o1417 P) :: (nat_lit 1419, o1419 P) :: (nat_lit 1420, o1420 P) :: []
noncomputable def ka : List Addr := nat_lit 2 :: nat_lit 3 :: nat_lit 22 :: nat_lit 29 :: nat_lit 30 :: nat_lit 31 :: nat_lit 32 :: nat_lit 34 :: nat_lit 35 :: nat_lit 36 :: nat_lit 37 :: nat_lit 38 :: nat_lit 39 :: nat_lit 42 :: nat_lit 49 :: nat_lit 50 :: nat_lit 51 :: nat_lit 109 :: nat_lit 110 :: nat_lit 111 :: nat_lit 112 :: nat_lit 114 :: nat_lit 115 :: nat_lit 116 :: nat_lit 117 :: nat_lit 118 :: nat_lit 119 :: nat_lit 121 :: nat_lit 122 :: nat_lit 123 :: nat_lit 124 :: nat_lit 125 :: nat_lit 126 :: nat_lit 128 :: nat_lit 129 :: nat_lit 130 :: nat_lit 131 :: nat_lit 132 :: nat_lit 133 :: nat_lit 135 :: nat_lit 136 :: nat_lit 137 :: nat_lit 138 :: nat_lit 139 :: nat_lit 140 :: nat_lit 142 :: nat_lit 143 :: nat_lit 144 :: nat_lit 145 :: nat_lit 146 :: nat_lit 147 :: nat_lit 149 :: nat_lit 150 :: nat_lit 151 :: nat_lit 152 :: nat_lit 153 :: nat_lit 154 :: nat_lit 156 :: nat_lit 157 :: nat_lit 158 :: nat_lit 159 :: nat_lit 160 :: nat_lit 161 :: nat_lit 163 :: nat_lit 164 :: nat_lit 165 :: nat_lit 166 :: nat_lit 167 :: nat_lit 168 :: nat_lit 170 :: nat_lit 171 :: nat_lit 172 :: nat_lit 173 :: nat_lit 174 :: nat_lit 175 :: nat_lit 177 :: nat_lit 178 :: nat_lit 179 :: nat_lit 180 :: nat_lit 181 :: nat_lit 182 :: nat_lit 183 :: nat_lit 185 :: nat_lit 186 :: nat_lit 209 :: nat_lit 210 :: nat_lit 211 :: nat_lit 212 :: nat_lit 214 :: nat_lit 215 :: nat_lit 216 :: nat_lit 217 :: nat_lit 218 :: nat_lit 219 :: nat_lit 221 :: nat_lit 222 :: nat_lit 223 :: nat_lit 224 :: nat_lit 225 :: nat_lit 226 :: nat_lit 228 :: nat_lit 229 :: nat_lit 230 :: nat_lit 231 :: nat_lit 232 :: nat_lit 233 :: nat_lit 234 :: nat_lit 244 :: nat_lit 245 :: nat_lit 246 :: nat_lit 247 :: nat_lit 249 :: nat_lit 250 :: nat_lit 300 :: nat_lit 301 :: nat_lit 302 :: nat_lit 303 :: nat_lit 304 :: nat_lit 314 :: nat_lit 315 :: nat_lit 316 :: nat_lit 317 :: nat_lit 318 :: nat_lit 320 :: nat_lit 321 :: nat_lit 350 :: nat_lit 351 :: nat_lit 352 :: nat_lit 353 :: nat_lit 355 :: nat_lit 356 :: nat_lit 378 :: nat_lit 379 :: nat_lit 380 :: nat_lit 381 :: nat_lit 382 :: nat_lit 413 :: nat_lit 414 :: nat_lit 415 :: nat_lit 416 :: nat_lit 418 :: nat_lit 419 :: nat_lit 555 :: nat_lit 556 :: nat_lit 557 :: nat_lit 558 :: nat_lit 559 :: nat_lit 561 :: nat_lit 562 :: nat_lit 641 :: nat_lit 642 :: nat_lit 643 :: nat_lit 644 :: nat_lit 645 :: nat_lit 655 :: nat_lit 656 :: nat_lit 657 :: nat_lit 658 :: nat_lit 659 :: nat_lit 661 :: nat_lit 662 :: nat_lit 929 :: nat_lit 930 :: nat_lit 931 :: nat_lit 932 :: nat_lit 933 :: nat_lit 1201 :: nat_lit 1208 :: nat_lit 1209 :: nat_lit 1210 :: nat_lit 1211 :: nat_lit 1212 :: nat_lit 1214 :: nat_lit 1215 :: nat_lit 1321 :: nat_lit 1322 :: nat_lit 1323 :: nat_lit 1324 :: nat_lit 1326 :: nat_lit 1327 :: nat_lit 1342 :: nat_lit 1343 :: nat_lit 1344 :: nat_lit 1347 :: nat_lit 1348 :: nat_lit 1349 :: nat_lit 1350 :: nat_lit 1352 :: nat_lit 1353 :: nat_lit 1354 :: nat_lit 1355 :: nat_lit 1356 :: nat_lit 1357 :: nat_lit 1359 :: nat_lit 1360 :: nat_lit 1361 :: nat_lit 1362 :: nat_lit 1363 :: nat_lit 1364 :: nat_lit 1366 :: nat_lit 1367 :: nat_lit 1368 :: nat_lit 1369 :: nat_lit 1370 :: nat_lit 1371 :: nat_lit 1373 :: nat_lit 1374 :: nat_lit 1375 :: nat_lit 1376 :: nat_lit 1378 :: nat_lit 1379 :: nat_lit 1380 :: nat_lit 1381 :: nat_lit 1383 :: nat_lit 1384 :: nat_lit 1385 :: nat_lit 1386 :: nat_lit 1388 :: nat_lit 1389 :: nat_lit 1390 :: nat_lit 1391 :: nat_lit 1392 :: nat_lit 1393 :: nat_lit 1395 :: nat_lit 1396 :: nat_lit 1397 :: nat_lit 1398 :: nat_lit 1399 :: nat_lit 1400 :: nat_lit 1402 :: nat_lit 1403 :: nat_lit 1404 :: nat_lit 1405 :: nat_lit 1407 :: nat_lit 1408 :: nat_lit 1409 :: nat_lit 1410 :: nat_lit 1412 :: nat_lit 1413 :: nat_lit 1414 :: nat_lit 1415 :: nat_lit 1416 :: nat_lit 1417 :: nat_lit 1419 :: nat_lit 1420 :: []
end Mine
end

/-! part HS -/
section
open PySem PySem.W PyProof.Rows PySem.Calls
set_option maxRecDepth 1000000
set_option maxHeartbeats 0
namespace Mine
noncomputable abbrev rr : OpenRow := PySem.W.Fast.tw2368527892694137696 PySem.Challenge.rw_xm0775_01
theorem x_res : PySem.W.Fast.tw8377067652309620493 rr.prog = true := by kernel_rfl
theorem x_meet : (PySem.W.Fast.tw17119622794617984870 rr.prog rr.prog.main.body fun _ n => PySem.W.Fast.tw17868728402115742887 n) = true := by kernel_rfl
theorem x_vars : PySem.W.Fast.tw13343964577679436407 rr.prog rr.prog.main.body ⟨⟨[118, 97, 114, 115]⟩⟩ = false := by kernel_rfl
theorem x_dir : PySem.W.Fast.tw13343964577679436407 rr.prog rr.prog.main.body ⟨⟨[100, 105, 114]⟩⟩ = false := by kernel_rfl
theorem x_locals : PySem.W.Fast.tw13343964577679436407 rr.prog rr.prog.main.body ⟨⟨[108, 111, 99, 97, 108, 115]⟩⟩ = false := by kernel_rfl
theorem x_road : PySem.W.Fast.tw8326940854005059898 { strict := false, foot := none, bare := [] } rr.prog.main.body = true := by kernel_rfl
theorem bare_nil {f : Str → Bool} {a b c : Str} (ha : f a = false) (hb : f b = false) (hc : f c = false) : R.filterR f [a, b, c] = [] := by
  show (Bool.rec (Bool.rec (Bool.rec [] _ (f c)) _ (f b)) _ (f a) : List Str) = []
  rw [ha, hb, hc]
theorem x_open : PySem.W.Fast.tw12908688711261696721 rr.prog = true := by
  delta PySem.W.Fast.tw12908688711261696721
  refine look_both (look_both ?_ ?_) x_meet
  · refine look_both (look_both ?_ x_res) ?_
    · kernel_rfl
    · kernel_rfl
  · rw [bare_nil x_vars x_dir x_locals]
    refine (congrArg (fun b => PySem.W.Fast.tw8326940854005059898 { strict := b, foot := none, bare := [] } rr.prog.main.body) ?_).trans x_road
    kernel_rfl
theorem said : PySem.Challenge.rw_xm0775_01.wellSaid = true := by
  rw [PySem.W.Fast.te9446332074065402090]
  delta PySem.W.Fast.tw9446332074065402090
  iterate 18 (refine look_both ?_ ?_; rotate_left; kernel_rfl)
  delta PySem.W.Fast.tw17960256430627541270
  refine look_both (look_both ?_ ?_) ?_
  · delta PySem.W.Fast.tw2436336058641802641
    iterate 13 (refine look_both ?_ ?_; rotate_left; kernel_rfl)
    exact x_open
  · kernel_rfl
  · kernel_rfl
end Mine
end

/-! part HT -/
section
open PySem PySem.W PyProof.Rows PySem.Calls
set_option maxRecDepth 1000000
set_option maxHeartbeats 4000000
namespace Mine
/-- a heap's tree, written from a table -/
noncomputable def tr (d : Nat) : (Nat → Obj) → BT := Nat.rec (fun _ => .nil) (fun _ t X => .node (X (nat_lit 0)) (t fun j => X (Nat.add (Nat.mul (nat_lit 2) j) (nat_lit 1))) (t fun j => X (Nat.add (Nat.mul (nat_lit 2) j) (nat_lit 2)))) d
noncomputable def pickE (E : List (Nat × Obj)) (x : Nat → Obj) (i : Nat) : Obj := E.rec (x i) fun p _ r => Bool.rec r p.2 (Nat.beq p.1 i)
theorem halves {i m : Nat} (h0 : ¬ i = 0) (h : i + 1 < 2 * m) : (i % 2 = 1 → 2 * (i / 2) + 1 = i ∧ i / 2 + 1 < m) ∧ (¬ i % 2 = 1 → 2 * (i / 2 - 1) + 2 = i ∧ i / 2 - 1 + 1 < m) := by
  have e := Nat.div_add_mod i 2
  refine ⟨fun a => ?_, fun a => ?_⟩
  · have e' : 2 * (i / 2) + 1 = i := (congrArg (2 * (i / 2) + ·) a).symm.trans e
    exact ⟨e', Nat.lt_of_mul_lt_mul_left (a := 2) (Nat.lt_of_le_of_lt (Nat.le_of_eq (congrArg (· + 1) e')) h)⟩
  · have e' : 2 * (i / 2) = i := (congrArg (2 * (i / 2) + ·) ((Nat.mod_two_eq_zero_or_one i).resolve_right a)).symm.trans e
    generalize i / 2 = j at e'
    subst e'
    cases j with
    | zero => exact absurd rfl h0
    | succ k => exact ⟨rfl, Nat.lt_of_mul_lt_mul_left (a := 2) (Nat.lt_trans (Nat.lt_succ_self _) h)⟩
theorem tr_get (d : Nat) : ∀ (X : Nat → Obj) (i : Nat), i + 1 < 2 ^ d → (tr d X).get i = some (X i) := by
  induction d with
  | zero => exact fun _ i h => absurd h (Nat.not_lt.mpr (Nat.le_add_left 1 i))
  | succ d ih =>
    intro X i h
    refine (BT.get_node ..).trans ?_
    by_cases h0 : i = 0
    · exact (if_pos h0).trans (congrArg (fun j => some (X j)) h0.symm)
    · refine (if_neg h0).trans ?_
      have H := halves h0 ((Nat.mul_comm (2 ^ d) 2).subst (motive := fun m => i + 1 < m) h)
      by_cases h1 : i % 2 = 1
      · exact (if_pos h1).trans ((ih _ _ (H.1 h1).2).trans (congrArg (fun j => some (X j)) (H.1 h1).1))
      · exact (if_neg h1).trans ((ih _ _ (H.2 h1).2).trans (congrArg (fun j => some (X j)) (H.2 h1).1))
/-- what a tree holds at i -/
noncomputable def heldT (T : BT) (i : Nat) : Obj := (T.get i).getD default
/-- a tree bears the rows of a list -/
def Bears (T : BT) (E : List (Nat × Obj)) : Prop := ∀ p, p ∈ E → T.get p.1 = some p.2
theorem pick_held {T : BT} {E : List (Nat × Obj)} (h : Bears T E) (i : Nat) : pickE E (heldT T) i = heldT T i := by
  induction E with
  | nil => rfl
  | cons p r ih =>
    show (Bool.rec (pickE r (heldT T) i) p.2 (Nat.beq p.1 i) : Obj) = _
    cases hb : Nat.beq p.1 i with
    | true => exact (congrArg (Option.getD · default) ((congrArg T.get (Nat.eq_of_beq_eq_true hb)).symm.trans (h p (List.mem_cons_self ..)))).symm
    | false => exact ih fun q hq => h q (List.mem_cons_of_mem _ hq)
theorem tr_list {T : BT} {X : Nat → Obj} {n : Nat} (hn : n < 2047) (h : ∀ i, X i = heldT T i) : (tr 11 X).list n = T.list n :=
  List.map_congr_left fun i hi => (congrArg (Option.getD · default) (tr_get 11 X i (Nat.succ_lt_succ (Nat.lt_trans (List.mem_range.mp hi) hn)))).trans (h i)
theorem bears_of {T : BT} {E : List (Nat × Obj)} (h : (E.map (·.1)).map T.get = E.map (fun p => some p.2)) : Bears T E := by
  induction E with
  | nil => intro p hp; cases hp
  | cons q r ih =>
    intro p hp
    cases hp with
    | head => exact (List.cons.inj h).1
    | tail _ hp => exact ih (List.cons.inj h).2 p hp
/-- what stood before a part of the run stands behind it -/
theorem old_of {T : BT} {X : Nat → Obj} {L : List Nat} (h : L.map T.get = L.map (fun a => some (X a))) : ∀ a, a ∈ L → T.get a = some (X a) := by
  induction L with
  | nil => intro p hp; cases hp
  | cons q r ih =>
    intro p hp
    cases hp with
    | head => exact (List.cons.inj h).1
    | tail _ hp => exact ih (List.cons.inj h).2 p hp
noncomputable def bareS (s : SharedT) : SharedT := ⟨.nil, s.n, s.life, s.gens, s.drawn, s.toks, s.os⟩
noncomputable def put (s : SharedT) (T : BT) : SharedT := ⟨T, s.n, s.life, s.gens, s.drawn, s.toks, s.os⟩
theorem part_of {α : Type} {o : Option (Flow × SharedT × Code × Pos)} {look : SharedT → α} {good : α} {f : Flow} {S : SharedT} {q : Code × Pos}
    (h : o.map (fun r => ((r.1, bareS r.2.1, r.2.2), look r.2.1)) = some ((f, S, q), good)) : ∃ T, o = some (f, put S T, q) ∧ look (put S T) = good := by
  obtain ⟨r, e, e'⟩ := Option.map_eq_some_iff.mp h
  have e1 := congrArg Prod.fst e'
  exact ⟨r.2.1.tree, e.trans (congrArg (fun x : Flow × SharedT × Code × Pos => some (x.1, put x.2.1 r.2.1.tree, x.2.2)) e1), (congrArg (fun x : Flow × SharedT × Code × Pos => look (put x.2.1 r.2.1.tree)) e1).symm.trans (congrArg Prod.snd e')⟩
theorem tr_abs {S : SharedT} {T : BT} {E : List (Nat × Obj)} (hn : S.n < 2047) (h : Bears T E) : (put S (tr 11 (pickE E (heldT T)))).abs = (put S T).abs :=
  congrArg (fun l : List Obj => (⟨⟨l.toArray, S.life⟩, S.gens, S.drawn, S.toks, S.os⟩ : Shared)) (tr_list hn (pick_held h))
end Mine
end

/-! part HR -/
section
open PySem PySem.W PyProof.Rows PySem.Calls
set_option maxRecDepth 1000000
set_option maxHeartbeats 0
namespace Mine
noncomputable def oc11 : Obj := { cls := .type "tuple", data := .seq #[] }
noncomputable def oc12 : Obj := { cls := .none, data := .fields #[] }
noncomputable def oc13 : Obj := { cls := .type "code", data := .fields #[.str (Str.ofString "<module>") 182, .str (Str.ofString "<module>") 183, .str (Str.ofString "/claim/cut.py") 184, .int 1 0, .int 0 0, .int 0 0, .int 0 0, .int 0 0, .ref 11, .bool false, .int 181 0, .ref 12, .none, .none, .none, .none, .int 185 0, .int 1 0, .str (Str.ofString "/claim/cut.py") 186] }
noncomputable def oc14 : Obj := { cls := .type "frame", slots := #[some (.ref 13), some (.ref 3), some (.ref 3), none, some (.str (Str.ofString "__main__") 164), none, some (.ref 0)] }
noncomputable def p0 : Pos := ⟨0, 0, 0, 0⟩
noncomputable def pF : Pos := ⟨1151, 0, 1158, 15⟩
noncomputable def annT : Option Value := some (.ref 6)
noncomputable def envTop : Env := { scope := pw.main.scope, locals := mainNs, globals := mainNs, cells := [], code := .ref 13, frame := some 14 }
noncomputable def cTop : Code := .body (behindTheImports pw) envTop
/-- the first fifteen objects -/
noncomputable def bl (P : Params) : List (Nat × Obj) := (nat_lit 13, oc13) :: (nat_lit 4, boot_o_4 P) :: (nat_lit 0, boot_o_0 P) :: (nat_lit 1, boot_o_1 P) :: (nat_lit 5, boot_o_5 P) :: (nat_lit 6, boot_o_6 P) :: (nat_lit 7, boot_o_7 P) :: (nat_lit 8, boot_o_8 P) :: (nat_lit 9, boot_o_9 P) :: (nat_lit 10, boot_o_10 P) :: (nat_lit 11, oc11) :: (nat_lit 14, oc14) :: []
/-- the rows of the module's own names: all but the first -/
noncomputable def l3 (P : Params) : List DictEntry := match (o3 P).data with
  | .dict es _ => es.toList.tail
  | _ => []
noncomputable def o3m (P : Params) (nm : String) (t m : Nat) : Obj := { cls := Value.type "dict", data := .dict (en P "__name__" 165 (.str (Str.ofString nm) t) :: (l3 P).take m).toArray (m + 1) }
noncomputable def r12 : List (Int × Nat) := [(1, 20), (5, 27), (9, 47), (11, 59), (13, 71), (15, 83), (17, 95), (25, 107), (119, 242), (158, 312), (205, 390), (209, 397), (220, 404), (222, 411), (224, 418), (226, 425), (258, 462), (263, 469), (341, 553), (397, 653), (679, 941), (681, 946), (683, 953), (695, 960), (697, 967), (756, 1030)]
noncomputable def o12m (m : Nat) : Obj := { cls := .none, data := .fields ((r12.take m).flatMap fun p => [Value.int p.1 0, .int 0 0, .ref p.2]).toArray }
noncomputable def o931m : Obj := { cls := Value.type "type", data := Data.cls { name := Str.ofString "RollbackPager", bases := [Value.type "object"], mro := [Value.ref 931, Value.type "object"], ns := 930, qualname := Str.ofString "RollbackPager" }, slots := #[none, none, some (Value.str (Str.ofString "RollbackPager") 1107), some (Value.str (Str.ofString "RollbackPager") 1115), some (Value.builtin "object.__new__"), some (Value.bool true)] }
noncomputable def E0 (P : Params) : List (Nat × Obj) := (nat_lit 3, boot_o_3 P) :: (nat_lit 2, boot_o_2 P) :: (nat_lit 12, oc12) :: bl P
noncomputable def ea : List Nat := nat_lit 3 :: nat_lit 2 :: nat_lit 12 :: nat_lit 13 :: nat_lit 4 :: nat_lit 0 :: nat_lit 1 :: nat_lit 5 :: nat_lit 6 :: nat_lit 7 :: nat_lit 8 :: nat_lit 9 :: nat_lit 10 :: nat_lit 11 :: nat_lit 14 :: []
noncomputable def eB : List Nat := nat_lit 931 :: nat_lit 930 :: ea
noncomputable def E1 (P : Params) : List (Nat × Obj) := (nat_lit 3, o3m P "pagebase.device" 507 21) :: (nat_lit 2, o2 P) :: (nat_lit 12, o12m 8) :: bl P
noncomputable def E2 (P : Params) : List (Nat × Obj) := (nat_lit 3, o3m P "pagebase.page_changes" 977 40) :: (nat_lit 2, o2 P) :: (nat_lit 12, o12m 18) :: bl P
noncomputable def E3 (P : Params) : List (Nat × Obj) := (nat_lit 931, o931m) :: (nat_lit 930, o930 P) :: (nat_lit 3, o3m P "pagebase.wal" 1452 47) :: (nat_lit 2, o2 P) :: (nat_lit 12, o12m 20) :: bl P
noncomputable def E4 (P : Params) : List (Nat × Obj) := (nat_lit 931, o931m) :: (nat_lit 930, o930 P) :: (nat_lit 3, o3m P "pagebase.wal" 1452 55) :: (nat_lit 2, o2 P) :: (nat_lit 12, o12m 26) :: bl P
/-- the states at the cuts, but for the tree -/
noncomputable def atC0 (os : OsState) : SharedT := ⟨.nil, 15, {}, #[], {}, 187, os⟩
noncomputable def atC1 (os : OsState) : SharedT := ⟨.nil, 237, {}, #[], {}, 509, os⟩
noncomputable def atC2 (os : OsState) : SharedT := ⟨.nil, 548, {}, #[], {}, 979, os⟩
noncomputable def atC3 (os : OsState) : SharedT := ⟨.nil, 936, {}, #[], {}, 1464, os⟩
noncomputable def atC4 (os : OsState) : SharedT := ⟨.nil, 1201, {}, #[], {}, 1845, os⟩
noncomputable def atC5 (os : OsState) : SharedT := ⟨.nil, 1421, {}, #[], {}, 2128, os⟩
/-- a state at a cut: x tells what is not written out -/
noncomputable def S0 (w : World) (os : OsState) : SharedT := put (atC0 os) (tr 11 (pickE (E0 w.params) fun _ => default))
noncomputable def S1 (w : World) (os : OsState) (x : Nat → Obj) : SharedT := put (atC1 os) (tr 11 (pickE (E1 w.params) x))
noncomputable def S2 (w : World) (os : OsState) (x : Nat → Obj) : SharedT := put (atC2 os) (tr 11 (pickE (E2 w.params) x))
noncomputable def S3 (w : World) (os : OsState) (x : Nat → Obj) : SharedT := put (atC3 os) (tr 11 (pickE (E3 w.params) x))
noncomputable def S4 (w : World) (os : OsState) (x : Nat → Obj) : SharedT := put (atC4 os) (tr 11 (pickE (E4 w.params) x))
noncomputable def pc1 : Pos := ⟨118, 0, 118, 8⟩
noncomputable def pc2 : Pos := ⟨340, 0, 340, 8⟩
noncomputable def pc3 : Pos := ⟨676, 0, 676, 8⟩
noncomputable def pc4 : Pos := ⟨756, 0, 961, 17⟩
noncomputable def rl0 : List Stmt := behindTheImports pw
noncomputable def rl1 : List Stmt := rl0.drop 16
noncomputable def sl0 : List Stmt := rl0.take 16
noncomputable def rl2 : List Stmt := rl1.drop 22
noncomputable def sl1 : List Stmt := rl1.take 22
noncomputable def rl3 : List Stmt := rl2.drop 9
noncomputable def sl2 : List Stmt := rl2.take 9
noncomputable def rl4 : List Stmt := rl3.drop 8
noncomputable def sl3 : List Stmt := rl3.take 8
noncomputable def th0 : Thread := ⟨(PySem.W.Fast.tw12563942051412417395 sl0 envTop).wrap doneF deadEnd id id, cTop, p0, [topFrame p0]⟩
noncomputable def th1 : Thread := ⟨(PySem.W.Fast.tw12563942051412417395 sl1 envTop).wrap doneF deadEnd id id, cTop, pc1, [topFrame p0]⟩
noncomputable def th2 : Thread := ⟨(PySem.W.Fast.tw12563942051412417395 sl2 envTop).wrap doneF deadEnd id id, cTop, pc2, [topFrame p0]⟩
noncomputable def th3 : Thread := ⟨(PySem.W.Fast.tw12563942051412417395 sl3 envTop).wrap doneF deadEnd id id, cTop, pc3, [topFrame p0]⟩
noncomputable def th4 : Thread := ⟨(PySem.W.Fast.tw12563942051412417395 rl4 envTop).wrap doneF deadEnd id id, cTop, pc4, [topFrame p0]⟩
/-- the places of the written part, part by part -/
noncomputable def ks0 : List Nat := (ka.drop 2).take 105
noncomputable def vs0 (P : Params) : Frag := ((kk P).drop 2).take 105
noncomputable def ks1 : List Nat := (ka.drop 107).take 35
noncomputable def vs1 (P : Params) : Frag := ((kk P).drop 107).take 35
noncomputable def ks2 : List Nat := (ka.drop 142).take 21 ++ (ka.drop 164).take 2
noncomputable def vs2 (P : Params) : Frag := ((kk P).drop 142).take 21 ++ ((kk P).drop 164).take 2
noncomputable def ks4 : List Nat := ka.take 2 ++ ((ka.drop 163).take 1 ++ ka.drop 166)
noncomputable def vs4 (P : Params) : Frag := (kk P).take 2 ++ (((kk P).drop 163).take 1 ++ (kk P).drop 166)
noncomputable def kb1 : List Nat := ks0 ++ ks1
noncomputable def kb2 : List Nat := kb1 ++ ks2
noncomputable def B0 (w : World) (os : OsState) : Shared := ⟨boot_heap w.params, Array.mk [], boot_drawn, boot_toks, os⟩

theorem pre_tw (w : World) (os : OsState) : PySem.W.Fast.tw15667345088766844465 PySem.W.Fast.tw14364793385576792824 pw w 11 annT 12 (B0 w os) (topStub pw) = some ((S0 w os).abs, ⟨PySem.W.Fast.tw11892475500146522536 PySem.W.Fast.tw14364793385576792824 cTop, cTop, p0, [topFrame p0]⟩) := by kernel_rfl

/-- the view: the law's own def alone -/
noncomputable def qv : Program := { pw with main := { pw.main with body := pw.main.body.drop 69 } }
noncomputable def looseL : List Str := pw.boundNames.filter (fun n => !(n == Str.ofString "law"))
noncomputable def xt (s : Shared) : Bool := xlAt qv [] s && recOk [] s
noncomputable def modsL : List Str := importedModules pw.main.body
noncomputable def looksS (w : World) (s : Shared) : Bool := staticsOk modsL (boot_heap w.params) s.heap && namesBound pw s.heap && gensDone s && laidKept (boot_heap w.params) s.heap

noncomputable def look0 (s : SharedT) := (ea.map s.tree.get, ks0.map s.tree.get)
theorem part0_tw (w : World) (os : OsState) : (PySem.W.Fast.tw10110043849684766642 PySem.W.Fast.tw14364793385576792824 pw w 11 annT 1 2168 (S0 w os) th0).map
   (fun r => ((r.1, bareS r.2.1, r.2.2), look0 r.2.1)) =
   some ((.next, atC1 os, (cTop, pc1)), ((E1 w.params).map (fun p => some p.2), (vs0 w.params).map (fun p => some p.2))) := by kernel_rfl
noncomputable def look1 (s : SharedT) := (ea.map s.tree.get, ks1.map s.tree.get, ks0.map s.tree.get)
theorem part1_tw (w : World) (os : OsState) (x : Nat → Obj) : (PySem.W.Fast.tw10110043849684766642 PySem.W.Fast.tw14364793385576792824 pw w 11 annT 1 2213 (S1 w os x) th1).map
   (fun r => ((r.1, bareS r.2.1, r.2.2), look1 r.2.1)) =
   some ((.next, atC2 os, (cTop, pc2)), ((E2 w.params).map (fun p => some p.2), (vs1 w.params).map (fun p => some p.2), ks0.map (fun a => some (pickE (E1 w.params) x a)))) := by kernel_rfl
noncomputable def look2 (s : SharedT) := (eB.map s.tree.get, ks2.map s.tree.get, kb1.map s.tree.get)
theorem part2_tw (w : World) (os : OsState) (x : Nat → Obj) : (PySem.W.Fast.tw10110043849684766642 PySem.W.Fast.tw14364793385576792824 pw w 11 annT 1 2100 (S2 w os x) th2).map
   (fun r => ((r.1, bareS r.2.1, r.2.2), look2 r.2.1)) =
   some ((.next, atC3 os, (cTop, pc3)), ((E3 w.params).map (fun p => some p.2), (vs2 w.params).map (fun p => some p.2), kb1.map (fun a => some (pickE (E2 w.params) x a)))) := by kernel_rfl
noncomputable def look3 (s : SharedT) := (eB.map s.tree.get, kb2.map s.tree.get)
theorem part3_tw (w : World) (os : OsState) (x : Nat → Obj) : (PySem.W.Fast.tw10110043849684766642 PySem.W.Fast.tw14364793385576792824 pw w 11 annT 1 1543 (S3 w os x) th3).map
   (fun r => ((r.1, bareS r.2.1, r.2.2), look3 r.2.1)) =
   some ((.next, atC4 os, (cTop, pc4)), ((E4 w.params).map (fun p => some p.2), kb2.map (fun a => some (pickE (E3 w.params) x a)))) := by kernel_rfl
noncomputable def look4 (w : World) (s : SharedT) := (looksS w s.abs, PySem.W.Fast.tw4187177175401517315 qv looseL modsL xt true s.abs, ks4.map s.tree.get, kb2.map s.tree.get)
theorem part4_tw (w : World) (os : OsState) (x : Nat → Obj) : (PySem.W.Fast.tw10110043849684766642 PySem.W.Fast.tw14364793385576792824 pw w 11 annT 1 1205 (S4 w os x) th4).map
   (fun r => ((r.1, bareS r.2.1, r.2.2), look4 w r.2.1)) =
   some ((.next, atC5 os, (cTop, pF)), (true, openGood qv looseL, (vs4 w.params).map (fun p => some p.2), kb2.map (fun a => some (pickE (E4 w.params) x a)))) := by kernel_rfl
end Mine
end

/-! part HD -/
section
open PySem PySem.W PyProof.Rows PySem.Calls
set_option maxRecDepth 1000000
set_option maxHeartbeats 4000000
namespace Mine

theorem leftO_own {p q : Program} {loose : List Str} {Xt : Shared → Bool} {α : Type} {Yf : Shared → α} {Ya : World → α} {N : Nat} {g0 : Bool} {H₀ : Params → Heap} {gs₀ : Array GenState} {d₀ : Drawn} {k₀ : Nat} {m₀ : Nat} {ann : Option Value} {M : Nat}
    (open_ : ∀ w : World, (fencedOpening treeTable p w N).map (fun s => (s.heap, s.gens, s.drawn, s.toks)) = some (H₀ w.params, gs₀, d₀, k₀))
    (size : ∀ w : World, ((H₀ w.params).isNs mainGlobals && gs₀.size == 0, (H₀ w.params).objs.size, (H₀ w.params).nsMap mainGlobals "__annotations__") = (true, m₀, ann)) (le : Nat.ble M N = true)
    (run : ∀ (w : World) (os : OsState), ∃ s₁, topRun treeTable p w m₀ ann M ⟨H₀ w.params, gs₀, d₀, k₀, os⟩ (topStub p) = some s₁ ∧
      (staticsOk (importedModules p.main.body) (H₀ w.params) s₁.heap && namesBound p s₁.heap && gensDone s₁ && laidKept (H₀ w.params) s₁.heap) = true ∧
      openSeen q loose (importedModules p.main.body) Xt g0 s₁ = openGood q loose ∧ Yf s₁ = Ya w) : LeftO p q loose Xt Yf Ya N g0 := fun w => by
  obtain ⟨j, rfl⟩ := Nat.exists_eq_add_of_le (Nat.le_of_ble_eq_true le)
  obtain ⟨⟨h, gs, d, k, os⟩, e, e'⟩ := Option.map_eq_some_iff.mp (open_ w)
  have i1 : h = H₀ w.params := congrArg (·.1) e'
  have i2 : gs = gs₀ := congrArg (·.2.1) e'
  have i3 : d = d₀ := congrArg (·.2.2.1) e'
  have i4 : k = k₀ := congrArg (·.2.2.2) e'
  subst i1 i2 i3 i4
  have z1 : ((H₀ w.params).isNs mainGlobals && gs.size == 0) = true := congrArg (·.1) (size w)
  have z2 : (H₀ w.params).objs.size = m₀ := congrArg (·.2.1) (size w)
  have z3 : (H₀ w.params).nsMap mainGlobals "__annotations__" = ann := congrArg (·.2.2) (size w)
  obtain ⟨s₁, r, l1, l2, l3⟩ := run w os
  replace r := topRun_mono j _ _ _ _ r
  have t : topFrom treeTable p w (M + j) ⟨H₀ w.params, gs, d, k, os⟩ = some s₁ := by
    unfold topFrom
    dsimp only
    rw [z1, z2, z3, r]
    show (match staticsOk (importedModules p.main.body) (H₀ w.params) s₁.heap && namesBound p s₁.heap && gensDone s₁ && laidKept (H₀ w.params) s₁.heap with | true => _ | false => _) = _
    rw [l1]
  unfold openEnds
  rw [e]
  show (topFrom treeTable p w (M + j) _).map _ = _
  rw [t]
  exact congrArg some (Prod.ext l2 l3)

theorem pre_run (w : World) (os : OsState) : topGo treeTable pw w 11 annT 12 (B0 w os) (topStub pw) = some ((S0 w os).abs, ⟨denote treeTable cTop, cTop, p0, [topFrame p0]⟩) := by
  have h := pre_tw w os
  rw [← PySem.W.Fast.te15667345088766844465, ← PySem.W.Fast.te14364793385576792824, ← PySem.W.Fast.te11892475500146522536] at h
  exact h
theorem block_run (w : World) (os : OsState) : segRun treeTable pw w 11 annT 1 1 (S0 w os).abs (blockOf (behindTheImports pw) envTop cTop p0 [topFrame p0]) = some (.next, (S0 w os).abs, cTop, p0) := by kernel_rfl

theorem fin_run (w : World) (s : Shared) : topRun treeTable pw w 11 annT 2 s ⟨doneF .next, cTop, pF, [topFrame p0]⟩ = some s := by
  obtain ⟨h, g, d, t, os⟩ := s
  rfl

/-- a part told over the library's twins, as a part told over the model's own words -/
theorem part_run {w : World} {N : Nat} {S : SharedT} {l : List Stmt} {pos pos' : Pos} {Q : SharedT} {α : Type} {look : SharedT → α} {good : α}
    (h : (PySem.W.Fast.tw10110043849684766642 PySem.W.Fast.tw14364793385576792824 pw w 11 annT 1 N S ⟨(PySem.W.Fast.tw12563942051412417395 l envTop).wrap doneF deadEnd id id, cTop, pos, [topFrame p0]⟩).map (fun r => ((r.1, bareS r.2.1, r.2.2), look r.2.1)) = some ((.next, Q, (cTop, pos')), good)) :
    ∃ T, segRunT treeTable pw w 11 annT 1 N S (piecesOf l envTop cTop pos [topFrame p0]) = some (.next, put Q T, cTop, pos') ∧ look (put Q T) = good := by
  rw [← PySem.W.Fast.te10110043849684766642, ← PySem.W.Fast.te14364793385576792824, ← PySem.W.Fast.te12563942051412417395] at h
  exact part_of h
theorem next_part {w : World} {N M : Nat} {S : SharedT} {l rest whole : List Stmt} {pos pos' : Pos} {Q : SharedT} {T : BT} {E : List (Nat × Obj)} {fin : Shared} (hw : l ++ rest = whole)
    (hr : segRunT treeTable pw w 11 annT 1 N S (piecesOf l envTop cTop pos [topFrame p0]) = some (.next, put Q T, cTop, pos')) (hE : Bears T E) (hn : Q.n < 2047)
    (z : topRun treeTable pw w 11 annT M (put Q (tr 11 (pickE E (heldT T)))).abs (restOf rest envTop cTop pos' [topFrame p0]) = some fin) :
    topRun treeTable pw w 11 annT (N + M) S.abs (restOf whole envTop cTop pos [topFrame p0]) = some fin := by
  subst hw
  exact piece_app (segRun_of hr) (tr_abs hn hE ▸ z)
theorem last_part {w : World} {N : Nat} {S : SharedT} {l : List Stmt} {pos : Pos} {s : SharedT}
    (hr : segRunT treeTable pw w 11 annT 1 N S (piecesOf l envTop cTop pos [topFrame p0]) = some (.next, s, cTop, pF)) :
    topRun treeTable pw w 11 annT (N + 2) S.abs (restOf l envTop cTop pos [topFrame p0]) = some s.abs := by
  have k := piece_app (rest := []) (segRun_of hr) (piece_nil (fin_run w s.abs))
  rwa [List.append_nil] at k
theorem bears_by {T : BT} {L : List Nat} {E : List (Nat × Obj)} (hL : L = E.map (·.1)) (h : L.map T.get = E.map (fun p => some p.2)) : Bears T E := by
  subst hL
  exact bears_of h
theorem carry {T T' : BT} {E V : List (Nat × Obj)} {L : List Nat} (hL : L = V.map (·.1)) (hE : Bears T E) (hV : Bears T V) (h : L.map T'.get = L.map (fun a => some (pickE E (heldT T) a))) : Bears T' V := fun p hp =>
  (old_of h p.1 (hL ▸ List.mem_map_of_mem hp)).trans (congrArg some ((pick_held hE p.1).trans (congrArg (Option.getD · default) (hV p hp))))
theorem bears_app {T : BT} {E F : List (Nat × Obj)} (h : Bears T E) (k : Bears T F) : Bears T (E ++ F) := fun p hp => (List.mem_append.mp hp).elim (h p) (k p)
theorem bears_two {T : BT} {E F : List (Nat × Obj)} (h : Bears T (E ++ F)) : Bears T E ∧ Bears T F := ⟨fun p hp => h p (List.mem_append_left _ hp), fun p hp => h p (List.mem_append_right _ hp)⟩
theorem ka_eq (P : Params) : ka = (kk P).map (·.1) := by kernel_rfl
theorem kk_low (P : Params) : (kk P).all (fun p => Nat.blt p.1 1421) = true := by kernel_rfl
theorem kk_alive (P : Params) : (kk P).map (fun p => alive p.2) = (kk P).map (fun p => some p.2) := by kernel_rfl
theorem kk_parts (P : Params) : kk P = (kk P).take 2 ++ (vs0 P ++ (vs1 P ++ (((kk P).drop 142).take 21 ++ (((kk P).drop 163).take 1 ++ (((kk P).drop 164).take 2 ++ (kk P).drop 166))))) := by kernel_rfl
theorem kb1_eq (P : Params) : kb1 = (vs0 P ++ vs1 P).map (·.1) := by kernel_rfl
theorem kb2_eq (P : Params) : kb2 = ((vs0 P ++ vs1 P) ++ vs2 P).map (·.1) := by kernel_rfl

theorem all_run (w : World) (os : OsState) : ∃ s₁, topRun treeTable pw w 11 annT (12 + (1 + (2168 + (2213 + (2100 + (1543 + (1205 + 2))))))) (B0 w os) (topStub pw) = some s₁ ∧ looksS w s₁ = true ∧
    openSeen qv looseL modsL xt true s₁ = openGood qv looseL ∧ ka.map s₁.heap.get? = (kk w.params).map fun p => some p.2 := by
  obtain ⟨T0, r0, l0⟩ := part_run (part0_tw w os)
  have e1 : Bears T0 (E1 w.params) := bears_by (by kernel_rfl) (congrArg (·.1) l0)
  have v0 : Bears T0 (vs0 w.params) := bears_by (by kernel_rfl) (congrArg (·.2) l0)
  obtain ⟨T1, r1, l1⟩ := part_run (part1_tw w os (heldT T0))
  have e2 : Bears T1 (E2 w.params) := bears_by (by kernel_rfl) (congrArg (·.1) l1)
  have v1 : Bears T1 (vs0 w.params ++ vs1 w.params) := bears_app (carry (L := ks0) (by kernel_rfl) e1 v0 (congrArg (·.2.2) l1)) (bears_by (L := ks1) (by kernel_rfl) (congrArg (·.2.1) l1))
  obtain ⟨T2, r2, l2⟩ := part_run (part2_tw w os (heldT T1))
  have e3 : Bears T2 (E3 w.params) := bears_by (by kernel_rfl) (congrArg (·.1) l2)
  have v2 : Bears T2 ((vs0 w.params ++ vs1 w.params) ++ vs2 w.params) := bears_app (carry (kb1_eq _) e2 v1 (congrArg (·.2.2) l2)) (bears_by (L := ks2) (by kernel_rfl) (congrArg (·.2.1) l2))
  obtain ⟨T3, r3, l3⟩ := part_run (part3_tw w os (heldT T2))
  have e4 : Bears T3 (E4 w.params) := bears_by (by kernel_rfl) (congrArg (·.1) l3)
  have v3 : Bears T3 ((vs0 w.params ++ vs1 w.params) ++ vs2 w.params) := carry (kb2_eq _) e3 v2 (congrArg (·.2) l3)
  obtain ⟨T4, r4, l4⟩ := part_run (part4_tw w os (heldT T3))
  have v4 : Bears T4 ((vs0 w.params ++ vs1 w.params) ++ vs2 w.params) := carry (kb2_eq _) e4 v3 (congrArg (·.2.2.2) l4)
  have v5 : Bears T4 (vs4 w.params) := bears_by (L := ks4) (by kernel_rfl) (congrArg (·.2.2.1) l4)
  have b : Bears T4 (kk w.params) := by
    obtain ⟨a01, a2⟩ := bears_two v4
    obtain ⟨a0, a1⟩ := bears_two a01
    obtain ⟨a2, a3⟩ := bears_two a2
    obtain ⟨a4, a56⟩ := bears_two v5
    obtain ⟨a5, a6⟩ := bears_two a56
    rw [kk_parts]
    exact bears_app a4 (bears_app a0 (bears_app a1 (bears_app a2 (bears_app a5 (bears_app a3 a6)))))
  have z := next_part (List.take_append_drop ..) r0 e1 (Nat.le_of_ble_eq_true rfl) (next_part (List.take_append_drop ..) r1 e2 (Nat.le_of_ble_eq_true rfl) (next_part (List.take_append_drop ..) r2 e3 (Nat.le_of_ble_eq_true rfl) (next_part (List.take_append_drop ..) r3 e4 (Nat.le_of_ble_eq_true rfl) (last_part r4))))
  refine ⟨_, go_top (pre_run w os) (piece_block (block_run w os) z), congrArg (·.1) l4, ?_, ?_⟩
  · have h := congrArg (·.2.1) l4
    unfold look4 at h
    rw [← PySem.W.Fast.te4187177175401517315] at h
    exact h
  · rw [ka_eq w.params, List.map_map]
    refine List.map_congr_left fun p hp => (abs_get (Nat.le_of_ble_eq_true (List.all_eq_true.mp (kk_low _) p hp)) (b p hp)).trans (List.map_inj_left.mp (kk_alive w.params) p hp)
end Mine
end

/-! part HW -/
section
open PySem PySem.W PyProof.Rows PySem.Calls
set_option maxRecDepth 1000000
set_option maxHeartbeats 0
namespace Mine
abbrev hA : TablesWhole.Alg Bool := TablesWhole.holds
theorem wSs_app {top sc : Scope} {cx : TablesWhole.Ctx} {a b : List Stmt} (ha : TablesWhole.wSs hA top cx sc a = true) (hb : TablesWhole.wSs hA top cx sc b = true) : TablesWhole.wSs hA top cx sc (a ++ b) = true := by
  induction a with
  | nil => exact hb
  | cons s r ih =>
    have h : (TablesWhole.wS hA top cx sc s && TablesWhole.wSs hA top cx sc r) = true := ha
    exact (look_both (Bool.and_eq_true_iff.mp h).1 (ih (Bool.and_eq_true_iff.mp h).2) : (TablesWhole.wS hA top cx sc s && TablesWhole.wSs hA top cx sc (r ++ b)) = true)
noncomputable def cxOf (m : Module) (told : List Str) : TablesWhole.Ctx := ⟨m.scope, [], told, [], none⟩
theorem whole_of {p : Program} {told : List Str} (h0 : TablesWhole.noTwice p.main.scope = true) (ht : TablesWhole.wSs TablesWhole.gather p.main.scope ⟨p.main.scope, [], [], [], none⟩ p.main.scope p.main.body = told)
    (h : TablesWhole.wSs hA p.main.scope (cxOf p.main told) p.main.scope p.main.body = true) (h1 : p.modules = []) (h2 : p.parses = []) (h3 : p.harvested = []) : p.tablesWhole = true := by
  subst ht
  show ((true && (TablesWhole.noTwice p.main.scope && (TablesWhole.wSs hA p.main.scope (cxOf p.main _) p.main.scope p.main.body && true))) && (hA.all (p.modules.map _) && (hA.all (p.parses.map _) && (hA.all (p.harvested.map _) && true)))) = true
  rw [h0, h, h1, h2, h3]
  rfl
noncomputable abbrev mm : Module := PySem.Challenge.rw_xm0775_01.row.prog.main
theorem w_told : TablesWhole.wSs TablesWhole.gather mm.scope ⟨mm.scope, [], [], [], none⟩ mm.scope mm.body = [] := by kernel_rfl
theorem w_a : TablesWhole.wSs hA mm.scope (cxOf mm []) mm.scope (mm.body.take 37) = true := by kernel_rfl
theorem w_b : TablesWhole.wSs hA mm.scope (cxOf mm []) mm.scope ((mm.body.drop 37).take 10) = true := by kernel_rfl
theorem w_c : TablesWhole.wSs hA mm.scope (cxOf mm []) mm.scope ((mm.body.drop 37).drop 10) = true := by kernel_rfl
theorem whole : PySem.Challenge.rw_xm0775_01.row.prog.tablesWhole = true := by
  refine whole_of (by kernel_rfl) w_told ?_ (by kernel_rfl) (by kernel_rfl) (by kernel_rfl)
  have k := wSs_app w_b w_c
  rw [List.take_append_drop] at k
  have k2 := wSs_app w_a k
  rw [List.take_append_drop] at k2
  exact k2
end Mine
end

/-! part HE -/
section
open PySem PySem.W PyProof.Rows PySem.Calls
set_option maxRecDepth 1000000
set_option maxHeartbeats 4000000
namespace Mine
abbrev rw1 : OpenLaw := PySem.Challenge.rw_xm0775_01
theorem open_eq : opening pw = plainProg pw.main.scope.names := by kernel_rfl
theorem fence_eq (s : Shared) : fenceModules? pw s = some s := by rfl
theorem size_eq (w : World) : ((boot_heap w.params).isNs mainGlobals && (Array.mk [] : Array GenState).size == 0, (boot_heap w.params).objs.size, (boot_heap w.params).nsMap mainGlobals "__annotations__") = (true, 11, annT) := by kernel_rfl
noncomputable abbrev hookL : Hook := kHook kk ka ka_eq
theorem leftL : LeftO pw qv looseL xt hookL.obs hookL.val 20000 :=
  leftO_own (H₀ := boot_heap) (gs₀ := Array.mk []) (d₀ := boot_drawn) (k₀ := boot_toks) (m₀ := 11) (ann := annT) (M := 12 + (1 + (2168 + (2213 + (2100 + (1543 + (1205 + 2)))))))
    (boot_open open_eq (by rfl) fence_eq) size_eq (by rfl) fun w os => by
      obtain ⟨s₁, e, h1, h2, h3⟩ := all_run w os
      exact ⟨s₁, e, h1, h2, h3⟩

theorem hw1 : rw1.row.toRowW.promised := by
  w_witness2

end Mine
end

/-! part LA -/
section
open PySem PySem.W PyProof.Rows
namespace Mine

/-- an owner: a text or an int -/
inductive MK where
  | ks (x : Str)
  | ki (n : Int)
  deriving DecidableEq

def MK.is : MK → Value → Bool
  | .ks x, .str y _ => y == x
  | .ki k, .int i _ => i == k
  | _, _ => false

theorem MK.shape_s {x : Str} {v : Value} (h : MK.is (.ks x) v = true) : ∃ t, v = .str x t := by
  cases v <;> simp_all [MK.is]
theorem MK.shape_i {x : Int} {v : Value} (h : MK.is (.ki x) v = true) : ∃ t, v = .int x t := by
  cases v <;> simp_all [MK.is]
theorem MK.inj (v : Value) (a b : MK) (ha : MK.is a v = true) (hb : MK.is b v = true) : a = b := by
  cases a with
  | ks x =>
    obtain ⟨t, rfl⟩ := MK.shape_s ha
    cases b with
    | ks y => obtain ⟨u, h⟩ := MK.shape_s hb; injection h with h; rw [h]
    | ki y => obtain ⟨u, h⟩ := MK.shape_i hb; cases h
  | ki x =>
    obtain ⟨t, rfl⟩ := MK.shape_i ha
    cases b with
    | ks y => obtain ⟨u, h⟩ := MK.shape_s hb; cases h
    | ki y => obtain ⟨u, h⟩ := MK.shape_i hb; injection h with h; rw [h]

def mkHash (w : World) : MK → Int
  | .ks x => hashStr w x
  | .ki k => hashInt k

section
variable {prog : Program} {w : World} {A : Around} {E : Value → Shared → Prop} {s : Shared}

theorem eqBool_si {a : Str} {t : Tok} {b : Int} {u : Tok} {Q : Bool → Shared → Prop} (h : Q false s) :
    wpAny (model prog w) A (eqBool (.str a t) (.int b u)) Q E s := by
  unfold eqBool
  refine wpAny_holding ?_
  rw [if_neg (by simp)]
  refine wpAny_bind ?_
  exact EqMixed.eq_str_int (wpAny_truthy_bool h)
theorem eqBool_is {a : Int} {t : Tok} {b : Str} {u : Tok} {Q : Bool → Shared → Prop} (h : Q false s) :
    wpAny (model prog w) A (eqBool (.int a t) (.str b u)) Q E s := by
  unfold eqBool
  refine wpAny_holding ?_
  rw [if_neg (by simp)]
  refine wpAny_bind ?_
  exact EqMixed.eq_int_str (wpAny_truthy_bool h)
end

def mixKind (prog : Program) (w : World) : KeyKind prog w MK where
  is := MK.is
  hash := mkHash w
  inj := MK.inj
  byValue := fun k v h => by
    cases k with
    | ks x => obtain ⟨t, rfl⟩ := MK.shape_s h; rfl
    | ki x => obtain ⟨t, rfl⟩ := MK.shape_i h; rfl
  pyHash := fun {A E s k v Q} hv h => by
    cases k with
    | ks x => obtain ⟨t, rfl⟩ := MK.shape_s hv; exact wpAny_pyHash_str h
    | ki x => obtain ⟨t, rfl⟩ := MK.shape_i hv; exact wpAny_pyHash_int h
  eqBool := fun {A E s a b u v Q} hu hv h => by
    cases a with
    | ks x =>
      obtain ⟨t, rfl⟩ := MK.shape_s hu
      cases b with
      | ks y => obtain ⟨t', rfl⟩ := MK.shape_s hv; exact wpAny_eqBool_str (by simpa using h)
      | ki y => obtain ⟨t', rfl⟩ := MK.shape_i hv; exact eqBool_si (by simpa using h)
    | ki x =>
      obtain ⟨t, rfl⟩ := MK.shape_i hu
      cases b with
      | ks y => obtain ⟨t', rfl⟩ := MK.shape_s hv; exact eqBool_is (by simpa using h)
      | ki y =>
        obtain ⟨t', rfl⟩ := MK.shape_i hv
        refine wpAny_eqBool_int ?_
        have e : (x == y) = decide (MK.ki x = MK.ki y) := by
          by_cases hxy : x = y
          · subst hxy; simp
          · simp [hxy]
        rw [e]; exact h
  «strs» := fun k x t v h => by
    cases k with
    | ks y => obtain ⟨u, hu⟩ := MK.shape_s h; injection hu with hx; subst hx; cases v <;> rfl
    | ki y => obtain ⟨u, hu⟩ := MK.shape_i h; cases hu

section
variable {prog : Program} {w : World} {A : Around} {E : Value → Shared → Prop} {s : Shared}
/-- == and != of two owners -/
theorem cmpEq_mk {a b : MK} {u v : Value} {Q : Value → Shared → Prop} (hu : a.is u = true) (hv : b.is v = true) (h : Q (.bool (decide (a = b))) s) :
    wpAny (model prog w) A (compareOp .Eq u v) Q E s := by
  cases a with
  | ks x =>
    obtain ⟨t, rfl⟩ := MK.shape_s hu
    cases b with
    | ks y =>
      obtain ⟨t', rfl⟩ := MK.shape_s hv
      refine eq_str ?_
      have e : (x == y) = decide (MK.ks x = MK.ks y) := by
        by_cases hxy : x = y
        · subst hxy; simp
        · simp [hxy]
      (rw [e]; exact h)
    | ki y => obtain ⟨t', rfl⟩ := MK.shape_i hv; exact EqMixed.eq_str_int (by simpa using h)
  | ki x =>
    obtain ⟨t, rfl⟩ := MK.shape_i hu
    cases b with
    | ks y => obtain ⟨t', rfl⟩ := MK.shape_s hv; exact EqMixed.eq_int_str (by simpa using h)
    | ki y =>
      obtain ⟨t', rfl⟩ := MK.shape_i hv
      refine eq_int ?_
      have e : (x == y) = decide (MK.ki x = MK.ki y) := by
        by_cases hxy : x = y
        · subst hxy; simp
        · simp [hxy]
      (rw [e]; exact h)
theorem cmpNe_mk {a b : MK} {u v : Value} {Q : Value → Shared → Prop} (hu : a.is u = true) (hv : b.is v = true) (h : Q (.bool (!decide (a = b))) s) :
    wpAny (model prog w) A (compareOp .NotEq u v) Q E s := by
  cases a with
  | ks x =>
    obtain ⟨t, rfl⟩ := MK.shape_s hu
    cases b with
    | ks y =>
      obtain ⟨t', rfl⟩ := MK.shape_s hv
      refine ne_str ?_
      have e : (x != y) = !decide (MK.ks x = MK.ks y) := by
        by_cases hxy : x = y
        · subst hxy; simp
        · simp [hxy]
      rw [e]; exact h
    | ki y => obtain ⟨t', rfl⟩ := MK.shape_i hv; exact EqMixed.ne_str_int (by simpa using h)
  | ki x =>
    obtain ⟨t, rfl⟩ := MK.shape_i hu
    cases b with
    | ks y => obtain ⟨t', rfl⟩ := MK.shape_s hv; exact EqMixed.ne_int_str (by simpa using h)
    | ki y =>
      obtain ⟨t', rfl⟩ := MK.shape_i hv
      refine ne_int ?_
      have e : (x != y) = !decide (MK.ki x = MK.ki y) := by
        by_cases hxy : x = y
        · subst hxy; simp
        · simp [hxy]
      rw [e]; exact h
end
end Mine
end

/-! part LB -/
section
open PySem PySem.W PyProof.Rows
namespace Mine

section
variable {prog : Program} {w : World} {K : Type} [DecidableEq K] {knd : KeyKind prog w K} {A : Around} {E : Value → Shared → Prop} {s : Shared} {d : Addr} {kvs : List (K × Value)} {k : K} {key v dflt : Value}

theorem isDictOf_nil {K' : Type} [DecidableEq K'] {knd' : KeyKind prog w K'} {o : Obj} (h : o.IsDictOf knd []) : o.IsDictOf knd' [] := by
  obtain ⟨es, ep, hc, hd, _, hp, _⟩ := h
  have he : es = #[] := by
    have := hp.length
    simpa using this
  subst he
  exact ⟨#[], ep, hc, hd, fun e he => (by simp at he), .nil, List.nodup_nil⟩

theorem d_get2 {Q : Value → Shared → Prop} (hD : s.heap.DictOf knd d kvs) (lo : (d == sysModules) = false) (hkey : knd.is k key = true) (h : Q ((valueAt kvs k).getD dflt) { s with toks := s.toks + 1 }) :
    wpAny (model prog w) A (call (.builtin "dict.get") [.ref d, key, dflt]) Q E s :=
  call_meetsIn PySem.F.slot_dict_get hD.typeIs PySem.F.entry_dict_get (PySem.F.args_dict_get_3 _ _ _) (meets_dict_get_default knd d hkey lo dflt) ⟨_, hD.mapOf, h⟩

theorem d_setdef {Q : Value → Shared → Prop} (hD : s.heap.DictOf knd d kvs) (lo : (d == sysModules) = false) (hkey : knd.is k key = true) (hsz : kvs.length ≤ sizeLine)
    (hthere : ∀ v, valueAt kvs k = some v → Q v { s with toks := s.toks + 1 })
    (hnew : valueAt kvs k = none → ∀ h', h'.DictOf knd d (stored kvs k dflt) → Heap.SameBut d s.heap h' → Q dflt { s with heap := h', toks := s.toks + 1 }) :
    wpAny (model prog w) A (call (.builtin "dict.setdefault") [.ref d, key, dflt]) Q E s :=
  call_meetsIn PySem.F.slot_dict_setdefault hD.typeIs PySem.F.entry_dict_setdefault (PySem.F.args_dict_setdefault_3 _ _ _) (kt_meets_setdefault knd d hkey lo dflt) ⟨kvs, hD, hsz, hthere, hnew⟩

theorem without_of_none (hl : valueAt kvs k = none) : without kvs k = kvs := by
  refine without_of_not_mem kvs k fun hm => ?_
  obtain ⟨p, hp, rfl⟩ := List.mem_map.mp hm
  unfold valueAt at hl
  rw [Option.map_eq_none_iff, List.find?_eq_none] at hl
  exact hl p hp (by simp)

theorem d_pop {Q : Value → Shared → Prop} (hD : s.heap.DictOf knd d kvs) (lo : (d == sysModules) = false) (hkey : knd.is k key = true) (hpart : (keyPart key).isSome = true) (hsz : kvs.length ≤ sizeLine)
    (h : ∀ h', h'.DictOf knd d (without kvs k) → Heap.SameBut d s.heap h' → Q ((valueAt kvs k).getD dflt) { s with heap := h', toks := s.toks + 1 }) :
    wpAny (model prog w) A (call (.builtin "dict.pop") [.ref d, key, dflt]) Q E s := by
  cases hl : valueAt kvs k with
  | some v =>
    rw [hl] at h
    exact call_meetsIn PySem.F.slot_dict_pop hD.typeIs PySem.F.entry_dict_pop (PySem.F.args_dict_pop_3 _ _ _) (meets_dict_pop_there knd d hkey [dflt] (.inr ⟨_, rfl⟩) hpart) ⟨kvs, v, hD, hsz, hl, h⟩
  | none =>
    rw [hl] at h
    have h2 := h s.heap (by rw [without_of_none hl]; exact hD) ⟨rfl, fun _ _ => rfl⟩
    exact call_meetsIn PySem.F.slot_dict_pop hD.typeIs PySem.F.entry_dict_pop (PySem.F.args_dict_pop_3 _ _ _) (meets_dict_pop_default knd d hkey lo hpart dflt) ⟨kvs, hD, hl, h2⟩

theorem d_method {name : Str} {id : String} {pl : Sem Bool} {Q : Value × List Value → Shared → Prop} (slot : Slot "dict" name id) (ty : typeOf (.builtin id) = pure (.type "method_descriptor"))
    (hD : s.heap.DictOf knd d kvs) (h : Q (.builtin id, [.ref d]) s) :
    wpAny (model prog w) A (getMethod (.ref d) name pl) Q E s :=
  getMethod_builtin hD.typeIs PySem.F.plainAttrs_dict slot ty hD.mapOf.noDict h
end

theorem mk_part {k : MK} {v : Value} (h : k.is v = true) : (keyPart v).isSome = true := by
  cases k with
  | ks x => obtain ⟨t, rfl⟩ := MK.shape_s h; rfl
  | ki x => obtain ⟨t, rfl⟩ := MK.shape_i h; rfl

/-- the ledger with one object turned -/
def upd (l : List (Addr × Obj)) (a : Addr) (o' : Obj) : List (Addr × Obj) := l.map fun p => if p.1 = a then (a, o') else p

theorem mem_upd_ne {l : List (Addr × Obj)} {a : Addr} {o' : Obj} {p : Addr × Obj} (hp : p ∈ l) (hne : p.1 ≠ a) : p ∈ upd l a o' :=
  List.mem_map.mpr ⟨p, hp, by rw [if_neg hne]⟩
theorem mem_upd_self {l : List (Addr × Obj)} {a : Addr} {o o' : Obj} (hp : (a, o) ∈ l) : (a, o') ∈ upd l a o' :=
  List.mem_map.mpr ⟨(a, o), hp, by simp⟩
theorem mem_upd {l : List (Addr × Obj)} {a : Addr} {o' : Obj} {p : Addr × Obj} (hp : p ∈ upd l a o') : (p = (a, o') ∧ ∃ o, (a, o) ∈ l) ∨ (p ∈ l ∧ p.1 ≠ a) := by
  obtain ⟨q, hq, rfl⟩ := List.mem_map.mp hp
  by_cases h : q.1 = a
  · left; rw [if_pos h]; exact ⟨rfl, q.2, by rw [← h]; exact hq⟩
  · right; rw [if_neg h]; exact ⟨hq, h⟩

section
variable {h₀ h h' : Heap} {L a : Addr} {m : Str → Option Value} {news news' : List (Addr × Obj)} {o o' : Obj}
theorem news_upd1 (N : News h₀ L h news) (hm : (a, o) ∈ news) (hs : Heap.SameBut a h h') (ho' : h'.get? a = some o') : News h₀ L h' (upd news a o') := N.update hm hs ho'
theorem news_sub (N : News h₀ L h news) (hs : ∀ p ∈ news', p ∈ news) : News h₀ L h news' := fun p hp => N p (hs p hp)
theorem news_one (N : News h₀ L h news) {o₁ o₂ : Obj} (h1 : (a, o₁) ∈ news) (h2 : (a, o₂) ∈ news) : o₁ = o₂ := by
  have e1 := (N _ h1).1
  have e2 := (N _ h2).1
  dsimp only at e1 e2
  rw [e1] at e2
  exact Option.some.inj e2
end
end Mine
end

/-! part LBA -/
section
open PySem PySem.W PyProof.Rows
set_option maxRecDepth 100000
namespace Mine
theorem mro_ba : mroOf (.type "bytearray") = pure [.type "bytearray", .type "object"] := by rw [mroOf_type]; kernel_rfl
theorem lookup_ba_new : typeLookup (.type "bytearray") "__new__" = pure (some (.builtin "bytearray.__new__")) := by rw [typeLookup_type, builtinLookup_eq_fast]; kernel_rfl
theorem slot_ba_init : Slot "bytearray" "__init__" "bytearray.__init__" :=
  .of (owner := "bytearray") (n := "__init__") (by rw [typeLookup_type, builtinLookup_eq_fast]; kernel_rfl) (by decide +kernel) (by decide +kernel) (by decide +kernel)
    (by first | exact .inl (by decide +kernel) | exact .inr (by decide +kernel)) (by rw [isSubtype_type]; kernel_rfl)
theorem called_ba : TypeCalled "bytearray" "bytearray.__new__" "bytearray.__init__" :=
  ⟨by decide +kernel, by decide +kernel, ⟨_, _, mro_ba⟩, madeBy_type mro_ba lookup_ba_new (by decide +kernel), by decide +kernel, by rw [isSubtype_type]; kernel_rfl, slot_ba_init⟩
theorem typeCall_ba : checkTypeCall "bytearray" ⟨[], []⟩ = pure () := by kernel_rfl
theorem newCall_ba : checkBuiltinCall "bytearray.__new__" ⟨[.type "bytearray"], []⟩ = pure () := by kernel_rfl
theorem entry_ba_new : entryFor table "bytearray.__new__" = some Builtin.«list.__new__» := entryFor_alias (id' := "list.__new__") (by rw [fastTable_eq_tree]; kernel_rfl) (by first | rfl | decide +kernel) (by decide +kernel) (by rw [fastTable_eq_tree]; kernel_rfl)
theorem entry_ba_init : entryFor table "bytearray.__init__" = some Builtin.«bytearray.__init__» := entryFor_of_tree (by kernel_rfl)
theorem plain_ba_new : plainId "bytearray.__new__" = true := by decide +kernel
theorem args_ba_init (a : Value) : argsOk "bytearray.__init__" ⟨[a], []⟩ := by unfold argsOk; kernel_rfl
set_option maxRecDepth 1000000 in
set_option maxHeartbeats 4000000 in
theorem owner_ba_new : ("bytearray.__new__".splitOn ".__new__").headD "" = "bytearray" := by simp +decide [String.splitOn, String.splitOnAux]
theorem sub_ba_self : isSubtype (.type "bytearray") (.type "bytearray") = pure true := by rw [isSubtype_type]; kernel_rfl
section
variable {prog : Program} {w : World} {A : Around} {E : Value → Shared → Prop} {s : Shared}
theorem code_ba_new {Q₁ : Value → Shared → Prop}
    (h : Q₁ (.ref s.heap.objs.size) { s with heap := s.heap.push { cls := .type "bytearray", data := .bytearray #[] } }) :
    codeAny (model prog w) A (.call (.builtin "bytearray.__new__") ⟨[.type "bytearray"], []⟩) (wants Q₁ E) s := by
  refine codeAny_of_tree ?_
  show wpAny _ A.in1 (do checkBuiltinCall "bytearray.__new__" ⟨[.type "bytearray"], []⟩; again (.builtin "bytearray.__new__" ⟨[.type "bytearray"], []⟩)) _ _ s
  refine PySem.wpAny_bind (wpAny_of_eq newCall_ba (PySem.wpAny_pure ⟨plainId_quiet plain_ba_new _, codeAny_builtin_stack entry_ba_new rfl fun p st => ?_⟩))
  rw [Around.under_plainId plain_ba_new _]
  have hsub := sub_ba_self
  have hown := owner_ba_new
  obtain ⟨hp, g, d, tk, os⟩ := s
  simp only [hown]
  wp_walk
  exact h
end
end Mine
end

/-! part LC -/
section
open PySem PySem.W PyProof.Rows
namespace Mine

abbrev Tab := List (Str × Addr × List (MK × Int × Tok))

/-- the two files and the three owners of the law -/
def NM : List Str := [Str.ofString "a", Str.ofString "b"]
def OW : List MK := [.ks (Str.ofString "x"), .ks (Str.ofString "y"), .ki 3]

def tabAt (T : Tab) (n : Str) (k : MK) : Option Int := (T.find? fun e => e.1 = n).bind fun e => intAt e.2.2 k

structure TabIn (prog : Program) (w : World) (X : List (Addr × Obj)) (d : Addr) (T : Tab) : Prop where
  lo : (d == sysModules) = false
  top : ∃ o, (d, o) ∈ X ∧ o.IsDictOf (strKind prog w) (T.map fun e => (e.1, Value.ref e.2.1))
  inn : ∀ e ∈ T, (e.2.1 == sysModules) = false ∧ ∃ o, (e.2.1, o) ∈ X ∧ o.IsDictOf (mixKind prog w) (intPairs e.2.2)
  nod : (d :: T.map (·.2.1)).Nodup
  names : ∀ e ∈ T, e.1 ∈ NM
  keys : ∀ e ∈ T, ∀ x ∈ e.2.2, x.1 ∈ OW

/-- the table at d: S its addresses, φ what it tells -/
def TabFun (prog : Program) (w : World) (X : List (Addr × Obj)) (d : Addr) (S : List Addr) (φ : Str → MK → Option Int) : Prop :=
  ∃ T : Tab, TabIn prog w X d T ∧ S = d :: T.map (·.2.1) ∧ ∀ n k, tabAt T n k = φ n k

theorem valueAt_top (T : Tab) (n : Str) : valueAt (T.map fun e => (e.1, Value.ref e.2.1)) n = (T.find? fun e => e.1 = n).map fun e => Value.ref e.2.1 := by
  unfold valueAt
  induction T with
  | nil => rfl
  | cons e r ih =>
    simp only [List.map_cons, List.find?_cons]
    by_cases h : e.1 = n
    · simp [h]
    · simp only [h, decide_false]; exact ih
end Mine
end

/-! part LD -/
section
open PySem PySem.W PyProof.Rows PySem.Spec PySem.Calls
namespace Mine
/-- a statement, its tokens forgotten -/
theorem execs_tk {M : Model} {A : Around} {E : Value → Shared → Prop} {s : Shared} {env : Env} {st : Stmt} {rest : List Stmt} {Q : Flow → Shared → Prop}
    (h : ∀ tk, wpAny M A (exec st env) (fun f s' => match f with | .next => wpAny M A (execs rest env) Q E s' | f => Q f s') E { s with toks := tk }) : wpAny M A (execs (st :: rest) env) Q E s := wpAny_execs_cons (h s.toks)
/-- a statement about the row's own text -/
def Of (_ : OpenLaw) (_ : Params → Frag) (P : Prop) : Prop := P

/-- what a call of the def at f does: whatever the caller, it comes back with a value and a ledger that R tells -/
def Spec (prog : Program) (w : World) (D : Nat) (f : Addr) (vs : List Value) (X : List (Addr × Obj)) (R : Value → List (Addr × Obj) → Prop) : Prop :=
  ∀ (p : Program) (loose : List Str) (mean : ExcName → Option Value) (mg mb : Str → Option Value) (dp un : Nat) (gd : Option (List Code)) (cn : Str) (cs : Scope) (a : Addr) (ccd : Value) (cl : List (Str × Addr)) (outer : List Env) (A₀ : Around) (base h₀ : Heap) (L : Addr) (m : Str → Option Value) (s : Shared) (Q E : Value → Shared → Prop),
    Below A₀ base outer h₀ → Fr h₀ L s.heap m → (kk w.params).In h₀ → News h₀ L s.heap X → Top p loose mean mg mb h₀ → cs.kind = .function → dp + D < recursionLimit → un + 10 * D < cLine →
    (∀ r X' h' tk', Fr h₀ L h' m → News h₀ L h' X' → R r X' → Q r { s with heap := h', toks := tk' }) →
    wpAny (model prog w) (ktrTop dp un gd cn cs L a ccd cl outer) (call (.ref f) vs) Q E s

theorem ret_to {h₀ h' : Heap} {L : Addr} {m : Str → Option Value} {X X' : List (Addr × Obj)} {s : Shared} {R : Value → List (Addr × Obj) → Prop} {Q : Value → Shared → Prop} {r : Value} {tk' : Nat}
    (hret : ∀ r X' h' tk', Fr h₀ L h' m → News h₀ L h' X' → R r X' → Q r { s with heap := h', toks := tk' }) (F : Fr h₀ L h' m) (N : News h₀ L h' X) (hs : ∀ p ∈ X', p ∈ X) (hR : R r X') : Q r { s with heap := h', toks := tk' } :=
  hret r X' h' tk' F (news_sub N hs) hR

section
variable {prog : Program} {w : World} {X : List (Addr × Obj)} {d L : Addr} {T : Tab} {h₀ h : Heap} {news : List (Addr × Obj)}
theorem TabIn.topAt (H : TabIn prog w X d T) (N : News h₀ L h news) (hs : ∀ p ∈ X, p ∈ news) : h.DictOf (strKind prog w) d (T.map fun e => (e.1, Value.ref e.2.1)) := by
  obtain ⟨o, ho, hd⟩ := H.top
  exact Heap.dictOf_iff.mpr ⟨o, (N _ (hs _ ho)).1, hd⟩
theorem TabIn.inAt (H : TabIn prog w X d T) (N : News h₀ L h news) (hs : ∀ p ∈ X, p ∈ news) {e : Str × Addr × List (MK × Int × Tok)} (he : e ∈ T) : h.DictOf (mixKind prog w) e.2.1 (intPairs e.2.2) := by
  obtain ⟨o, ho, hd⟩ := (H.inn e he).2
  exact Heap.dictOf_iff.mpr ⟨o, (N _ (hs _ ho)).1, hd⟩
theorem newNil {a : Addr} {o : Obj} (N : News h₀ L h news) (hm : (a, o) ∈ news) (hd : o.IsDictOf (strKind prog w) []) : h.DictOf (mixKind prog w) a [] :=
  Heap.dictOf_iff.mpr ⟨o, (N _ hm).1, isDictOf_nil hd⟩
end

/-- the lock table's own dict -/
abbrev lkD (P : Params) (lv sl tm : Addr) (t1 t2 t3 : Tok) (n : Nat) : Obj :=
  dictOf [⟨PyData.keyHash P (Str.ofString "levels"), .str (Str.ofString "levels") t1, .ref lv⟩, ⟨PyData.keyHash P (Str.ofString "slots"), .str (Str.ofString "slots") t2, .ref sl⟩, ⟨PyData.keyHash P (Str.ofString "told_marks"), .str (Str.ofString "told_marks") t3, .ref tm⟩] n

end Mine
end

/-! part LE -/
section
open PySem PySem.W PyProof.Rows PySem.Spec PySem.Calls
set_option maxRecDepth 100000
namespace Mine

/-- a lock table at lk with its three dicts -/
def LkIn (w : World) (X : List (Addr × Obj)) (lk lv sl tm : Addr) : Prop :=
  ∃ dx t1 t2 t3 n, (lk, instObj 232 dx) ∈ X ∧ (dx, lkD w.params lv sl tm t1 t2 t3 n) ∈ X

section
variable {prog : Program} {w : World} {X X' : List (Addr × Obj)} {d lk lv sl tm : Addr} {S : List Addr} {φ : Str → MK → Option Int} {T : Tab}
theorem LkIn.mono (h : LkIn w X lk lv sl tm) (hs : ∀ p ∈ X, p ∈ X') : LkIn w X' lk lv sl tm :=
  let ⟨dx, t1, t2, t3, n, a, b⟩ := h; ⟨dx, t1, t2, t3, n, hs _ a, hs _ b⟩
theorem TabIn.mono (h : TabIn prog w X d T) (hs : ∀ p ∈ X, p ∈ X') : TabIn prog w X' d T :=
  ⟨h.lo, let ⟨o, a, b⟩ := h.top; ⟨o, hs _ a, b⟩, fun e he => ⟨(h.inn e he).1, let ⟨o, a, b⟩ := (h.inn e he).2; ⟨o, hs _ a, b⟩⟩, h.nod, h.names, h.keys⟩
theorem TabFun.mono (h : TabFun prog w X d S φ) (hs : ∀ p ∈ X, p ∈ X') : TabFun prog w X' d S φ :=
  let ⟨T, a, b, c⟩ := h; ⟨T, a.mono hs, b, c⟩
end

section
variable {prog : Program} {w : World} {D : Nat} {f : Addr} {vs : List Value} {X : List (Addr × Obj)} {R : Value → List (Addr × Obj) → Prop} {p : Program} {loose : List Str} {mean : ExcName → Option Value} {mg mb : Str → Option Value}
  {dp un : Nat} {gd : Option (List Code)} {cn : Str} {cs : Scope} {a : Addr} {ccd : Value} {cl : List (Str × Addr)} {outer : List Env} {A₀ : Around} {base h₀ : Heap} {L : Addr} {m : Str → Option Value} {s : Shared} {Q E : Value → Shared → Prop}
theorem use_spec (C : Spec prog w D f vs X R) (B : Below A₀ base outer h₀) (F : Fr h₀ L s.heap m) (KX : (kk w.params).In h₀) (N : News h₀ L s.heap X) (T : Top p loose mean mg mb h₀) (hk : cs.kind = .function) (hd : dp + D < recursionLimit) (hu : un + 10 * D < cLine)
    (h : ∀ r X' h' tk', Fr h₀ L h' m → News h₀ L h' X' → R r X' → Q r { s with heap := h', toks := tk' }) :
    wpAny (model prog w) (ktrTop dp un gd cn cs L a ccd cl outer) (call (.ref f) vs) Q E s := C _ _ _ _ _ _ _ _ _ _ _ _ _ _ _ _ _ _ _ _ _ _ B F KX N T hk hd hu h
end

section
variable {prog : Program} {w : World} {K : Type} [DecidableEq K] {knd : KeyKind prog w K} {A : Around} {E : Value → Shared → Prop} {s : Shared} {env : Env} {h₀ : Heap} {x : Str} {body : List Stmt} {Q : Flow → Shared → Prop}
/-- a for over a dict that the loop does not turn -/
theorem iter_dict {d : Addr} {o : Obj} {kvs : List (K × Value)} {m₀ : Str → Option Value} {news : List (Addr × Obj)} (J : Nat → (Str → Option Value) → Prop)
    (hh : A.handled = none) (lo : (d == sysModules) = false) (F : Fr h₀ env.locals s.heap m₀) (N : News h₀ env.locals s.heap news) (hm : (d, o) ∈ news) (hD : o.IsDictOf knd kvs) (hj : J 0 m₀)
    (turn : ∀ i k v key m₁ h tk own, kvs[i]? = some (k, v) → knd.is k key = true → J i m₁ → Fr h₀ env.locals h (fun y => if y = x then some key else m₁ y) → News h₀ env.locals h (own ++ news) →
      wpAny (model prog w) A (execs body env) (InvPost h₀ env.locals (J (i + 1)) (own ++ news) { s with heap := h, toks := tk } Q) E { s with heap := h, toks := tk })
    (done : ∀ m₁ h tk, J kvs.length m₁ → Fr h₀ env.locals h m₁ → News h₀ env.locals h news → Q .next { s with heap := h, toks := tk }) :
    wpAny (model prog w) A (pyIter (.ref d)) (fun it s₂ => LoopAtV prog w A h₀ env x body Q E it s₂) E s := by
  have hDD : s.heap.DictOf knd d kvs := Heap.dictOf_iff.mpr ⟨o, (N _ hm).1, hD⟩
  obtain ⟨ep, hDA⟩ := hDD.dictAt
  have hlt : d < s.heap.objs.size := hDA.lt_size
  have hne : d ≠ s.heap.objs.size := Nat.ne_of_lt hlt
  refine wpAny_pyIter_dict lo hDA ?_
  have W := Walks.dictKeys (prog := prog) (w := w) (knd := knd) hh s.heap.objs.size d hne kvs ep
  let J' : Nat → (Str → Option Value) → List (Addr × Obj) → Prop := fun i m₁ news₁ => news₁ = news ∧ J i m₁
  refine ⟨_, _, _, kvs.length, _, _, m₀, news, J', rfl, W, ?_, ?_, ?_, ⟨⟨_, Heap.get?_push_size _ rfl, rfl, rfl⟩, hDA.push _⟩, F.push _, (fun p hp => ⟨Heap.get?_push_of_some _ (N p hp).1, (N p hp).2⟩), ⟨rfl, hj⟩, ?_, ?_⟩
  · intro hm'
    rcases List.mem_cons.mp hm' with e | hm'
    · exact absurd F.ns.lt (e ▸ Nat.lt_irrefl _)
    · exact (N _ hm).2.1 (List.mem_singleton.mp hm').symm
  · intro b hb
    rw [List.mem_singleton.mp hb]
    exact next_is_new F
  · intro p hp hI
    exact absurd (Heap.lt_size (N p hp).1) ((List.mem_singleton.mp hI) ▸ Nat.lt_irrefl _)
  · rintro i v m₁ news₁ s₁ own ⟨hh', tk', rfl⟩ hin hP ⟨rfl, hJ⟩ hoff _ _ _ _ F₁ N₁
    obtain ⟨k, y, hx, hkey⟩ := hP
    refine wpAny_mono (turn i k y v m₁ hh' tk' own hx hkey hJ F₁ N₁) (fun f s₂ p => ?_) fun _ _ e => e
    have fin : InvEnd h₀ env.locals (J (i + 1)) (own ++ news₁) { s with heap := hh', toks := tk' } s₂ → LoopStepU h₀ env.locals [s.heap.objs.size] own (J' (i + 1)) { s with heap := hh', toks := tk' } .next s₂ := by
      rintro ⟨h', tk, m', news', e, F', N', hn, hm⟩
      exact ⟨rfl, h', tk, m', news₁, e, F', fun p hp => N' p (hn p hp), hoff, rfl, hm⟩
    cases f with
    | ret v => exact .ret p
    | brk => exact .brk p
    | next => exact .next (fin p)
    | cont => exact .cont (fin p)
  · rintro h' tk m' news' F' N' _ ⟨rfl, hJ⟩
    exact done m' h' tk hJ F' N'
end
end Mine
end

/-! part LF -/
section
open PySem PySem.W PyProof.Rows PySem.Spec PySem.Calls
namespace Mine

section
variable {K : Type} [DecidableEq K]
theorem stored_int (l : List (K × Int × Tok)) (k : K) (v : Int) (t : Tok) : ∃ l', stored (intPairs l) k (.int v t) = intPairs l' ∧ (∀ k', intAt l' k' = if k' = k then some v else intAt l k') ∧ ∀ x ∈ l', x.1 = k ∨ ∃ y ∈ l, y.1 = x.1 := by
  by_cases h : (intPairs l).any (fun kv => decide (kv.1 = k)) = true
  · refine ⟨l.map fun x => if x.1 = k then (x.1, v, t) else x, ?_, ?_, ?_⟩
    · unfold stored
      rw [if_pos h]
      unfold intPairs
      rw [List.map_map, List.map_map]
      refine List.map_congr_left fun x _ => ?_
      simp only [Function.comp]
      by_cases hx : x.1 = k <;> simp [hx]
    · intro k'
      have h2 : l.any (fun x => decide (x.1 = k)) = true := by simpa [intPairs, List.any_map, Function.comp] using h
      clear h
      unfold PySem.intAt
      induction l with
      | nil => simp at h2
      | cons x r ih =>
        simp only [List.map_cons, List.find?_cons]
        by_cases hx : x.1 = k
        · simp only [hx, if_true]
          by_cases hk : k' = k
          · subst hk; simp
          · have hk' : ¬ k = k' := fun e => hk e.symm
            simp only [hk', hk, decide_false, if_false]
            clear ih h2
            induction r with
            | nil => rfl
            | cons y r ih =>
              simp only [List.map_cons, List.find?_cons]
              by_cases hy : y.1 = k
              · simp only [hy, if_true, hk', decide_false]; exact ih
              · simp only [hy, if_false]
                by_cases hy2 : y.1 = k'
                · simp [hy2]
                · simp only [hy2, decide_false]; exact ih
        · simp only [hx, if_false]
          have h3 : r.any (fun x => decide (x.1 = k)) = true := by simpa [hx] using h2
          by_cases hxk : x.1 = k'
          · have : ¬ k' = k := fun e => hx (hxk.trans e)
            simp [hxk, this]
          · simp only [hxk, decide_false]; exact ih h3
    · intro x hx
      obtain ⟨y, hy, rfl⟩ := List.mem_map.mp hx
      right
      refine ⟨y, hy, ?_⟩
      by_cases h : y.1 = k <;> simp [h]
  · refine ⟨l ++ [(k, v, t)], ?_, ?_, ?_⟩
    · unfold stored
      rw [if_neg h]
      simp [intPairs]
    · intro k'
      have h2 : ∀ x ∈ l, x.1 ≠ k := by
        intro x hx e
        apply h
        simp only [intPairs, List.any_map, List.any_eq_true, Function.comp, decide_eq_true_eq]
        exact ⟨x, hx, e⟩
      clear h
      unfold PySem.intAt
      rw [List.find?_append]
      by_cases hk : k' = k
      · subst hk
        have : l.find? (fun x => decide (x.1 = k')) = none := by
          rw [List.find?_eq_none]
          intro x hx
          simpa using h2 x hx
        simp [this]
      · have hk' : ¬ k = k' := fun e => hk e.symm
        simp [hk, hk']
    · intro x hx
      rcases List.mem_append.mp hx with hx | hx
      · exact .inr ⟨x, hx, rfl⟩
      · rw [List.mem_singleton.mp hx]; exact .inl rfl
theorem without_int (l : List (K × Int × Tok)) (k : K) : ∃ l', without (intPairs l) k = intPairs l' ∧ (∀ k', intAt l' k' = if k' = k then none else intAt l k') ∧ ∀ x ∈ l', ∃ y ∈ l, y.1 = x.1 := by
  refine ⟨l.filter fun x => decide (x.1 ≠ k), ?_, ?_, ?_⟩
  · unfold without intPairs
    rw [List.filter_map]
    rfl
  · intro k'
    unfold PySem.intAt
    induction l with
    | nil => simp
    | cons x r ih =>
      by_cases hx : x.1 = k
      · simp only [List.filter_cons, hx, ne_eq, not_true, decide_false, Bool.false_eq_true, if_false, List.find?_cons, ih]
        by_cases hk : k' = k
        · simp [hk]
        · have hk' : ¬ k = k' := fun e => hk e.symm
          simp [hk, hk']
      · simp only [List.filter_cons, ne_eq, hx, not_false_eq_true, decide_true, if_true, List.find?_cons]
        by_cases hxk : x.1 = k'
        · have : ¬ k' = k := fun e => hx (hxk.trans e)
          simp [hxk, this]
        · simp only [hxk, decide_false]; exact ih
  · intro x hx
    exact ⟨x, (List.mem_filter.mp hx).1, rfl⟩
end

theorem len_le_of {α : Type} [DecidableEq α] : ∀ (l s : List α), l.Nodup → (∀ x ∈ l, x ∈ s) → l.length ≤ s.length
  | [], _, _, _ => Nat.zero_le _
  | x :: l, s, hn, hs => by
    rw [List.nodup_cons] at hn
    have hx := hs x (.head _)
    have := len_le_of l (s.erase x) hn.2 fun y hy => (List.mem_erase_of_ne (fun e => hn.1 (by rw [← e]; exact hy))).mpr (hs y (.tail _ hy))
    rw [List.length_erase_of_mem hx] at this
    have h1 : 0 < s.length := List.length_pos_of_mem hx
    simp only [List.length_cons]
    omega

/-- φ with one place turned -/
def set2 (φ : Str → MK → Option Int) (n : Str) (k : MK) (v : Option Int) : Str → MK → Option Int := fun n' k' => if n' = n ∧ k' = k then v else φ n' k'

section
variable {prog : Program} {w : World} {X : List (Addr × Obj)} {d : Addr} {T : Tab} {φ : Str → MK → Option Int}
theorem TabIn.nodTop (H : TabIn prog w X d T) : (T.map (·.1)).Nodup := by
  obtain ⟨o, _, es, ep, _, _, _, _, hn⟩ := H.top
  rw [List.map_map] at hn
  exact hn
theorem TabIn.lenTop (H : TabIn prog w X d T) : (T.map fun e => (e.1, Value.ref e.2.1)).length ≤ sizeLine := by
  have h := len_le_of (T.map (·.1)) NM H.nodTop fun x hx => by
    obtain ⟨e, he, rfl⟩ := List.mem_map.mp hx
    exact H.names e he
  simp only [List.length_map] at h ⊢
  exact Nat.le_trans h (by decide)
theorem TabIn.lenIn (H : TabIn prog w X d T) {e : Str × Addr × List (MK × Int × Tok)} (he : e ∈ T) : (intPairs e.2.2).length ≤ 3 := by
  obtain ⟨o, _, es, ep, _, _, _, _, hn⟩ := (H.inn e he).2
  have h := len_le_of ((intPairs e.2.2).map (·.1)) OW hn fun x hx => by
    obtain ⟨p, hp, rfl⟩ := List.mem_map.mp hx
    obtain ⟨y, hy, rfl⟩ := List.mem_map.mp hp
    exact H.keys e he y hy
  rw [List.length_map] at h
  exact h

theorem tabAt_hit {n : Str} {k : MK} {e : Str × Addr × List (MK × Int × Tok)} (hn : (T.map (·.1)).Nodup) (he : e ∈ T) (h : e.1 = n) : tabAt T n k = intAt e.2.2 k := by
  subst h
  have hf : T.find? (fun x => decide (x.1 = e.1)) = some e := by
    induction T with
    | nil => simp at he
    | cons x r ih =>
      rw [List.map_cons, List.nodup_cons] at hn
      rcases List.mem_cons.mp he with e2 | h2
      · subst e2; simp
      · have : x.1 ≠ e.1 := fun e3 => hn.1 (List.mem_map.mpr ⟨e, h2, e3.symm⟩)
        simp only [List.find?_cons, this, decide_false]
        exact ih hn.2 h2
  unfold tabAt
  rw [hf]; rfl

/-- an inner dict turned -/
theorem tab_hit (H : TabIn prog w X d T) {e : Str × Addr × List (MK × Int × Tok)} (he : e ∈ T) {o' : Obj} {l' : List (MK × Int × Tok)} (ho : o'.IsDictOf (mixKind prog w) (intPairs l')) (hk : ∀ x ∈ l', x.1 ∈ OW)
    {φ φ' : Str → MK → Option Int} (hφ : ∀ n k, tabAt T n k = φ n k) (h1 : ∀ k, φ' e.1 k = intAt l' k) (h2 : ∀ n k, n ≠ e.1 → φ' n k = φ n k) :
    TabFun prog w (upd X e.2.1 o') d (d :: T.map (·.2.1)) φ' := by
  have hnd := H.nod
  rw [List.nodup_cons] at hnd
  have hda : d ≠ e.2.1 := fun h => hnd.1 (h ▸ List.mem_map.mpr ⟨e, he, rfl⟩)
  let g : Str × Addr × List (MK × Int × Tok) → Str × Addr × List (MK × Int × Tok) := fun x => if x.2.1 = e.2.1 then (x.1, x.2.1, l') else x
  have g1 : ∀ x, (g x).1 = x.1 := fun x => by show (if _ then _ else _ : _ × _).1 = _; by_cases h : x.2.1 = e.2.1 <;> simp [h]
  have g2 : ∀ x, (g x).2.1 = x.2.1 := fun x => by show (if _ then _ else _ : _ × _ × _).2.1 = _; by_cases h : x.2.1 = e.2.1 <;> simp [h]
  have hinj : ∀ x ∈ T, x.2.1 = e.2.1 → x = e := by
    intro x hx hxe
    have hn := hnd.2
    clear hda hnd g g1 g2 h1 h2 hφ H
    induction T with
    | nil => simp at hx
    | cons y r ih =>
      rw [List.map_cons, List.nodup_cons] at hn
      rcases List.mem_cons.mp hx with e1 | h1 <;> rcases List.mem_cons.mp he with e2 | h2
      · rw [e1, e2]
      · subst e1; exact absurd (List.mem_map.mpr ⟨e, h2, hxe.symm⟩) hn.1
      · subst e2; exact absurd (List.mem_map.mpr ⟨x, h1, hxe⟩) hn.1
      · exact ih h2 h1 hn.2
  refine ⟨T.map g, ⟨H.lo, ?_, ?_, ?_, ?_, ?_⟩, ?_, ?_⟩
  · obtain ⟨o, a, b⟩ := H.top
    refine ⟨o, mem_upd_ne a hda, ?_⟩
    rw [List.map_map]
    have : ((fun e => (e.1, Value.ref e.2.1)) ∘ g) = (fun e : Str × Addr × List (MK × Int × Tok) => (e.1, Value.ref e.2.1)) := funext fun x => by simp only [Function.comp, g1, g2]
    rw [this]; exact b
  · intro y hy
    obtain ⟨x, hx, rfl⟩ := List.mem_map.mp hy
    rw [g2]
    refine ⟨(H.inn x hx).1, ?_⟩
    obtain ⟨o, a, b⟩ := (H.inn x hx).2
    by_cases h : x.2.1 = e.2.1
    · refine ⟨o', ?_, ?_⟩
      · rw [h] at a ⊢; exact mem_upd_self a
      · have : g x = (x.1, x.2.1, l') := if_pos h
        rw [this]; exact ho
    · refine ⟨o, mem_upd_ne a h, ?_⟩
      have : g x = x := if_neg h
      rw [this]; exact b
  · rw [List.map_map]
    have : ((fun x : Str × Addr × List (MK × Int × Tok) => x.2.1) ∘ g) = (·.2.1) := funext fun x => g2 x
    rw [this]; exact H.nod
  · intro y hy
    obtain ⟨x, hx, rfl⟩ := List.mem_map.mp hy
    rw [g1]; exact H.names x hx
  · intro y hy z hz
    obtain ⟨x, hx, rfl⟩ := List.mem_map.mp hy
    by_cases h : x.2.1 = e.2.1
    · have : g x = (x.1, x.2.1, l') := if_pos h
      rw [this] at hz; exact hk z hz
    · have : g x = x := if_neg h
      rw [this] at hz; exact H.keys x hx z hz
  · rw [List.map_map]
    have : ((fun x : Str × Addr × List (MK × Int × Tok) => x.2.1) ∘ g) = (·.2.1) := funext fun x => g2 x
    rw [this]
  · intro n k
    have hnod : ((T.map g).map (·.1)).Nodup := by
      rw [List.map_map]
      have : ((fun x : Str × Addr × List (MK × Int × Tok) => x.1) ∘ g) = (·.1) := funext fun x => g1 x
      rw [this]; exact H.nodTop
    by_cases hn : n = e.1
    · subst hn
      have hge : g e = (e.1, e.2.1, l') := if_pos rfl
      rw [tabAt_hit hnod (List.mem_map.mpr ⟨e, he, rfl⟩) (g1 e), h1, hge]
    · rw [h2 n k hn, ← hφ]
      unfold tabAt
      rw [List.find?_map]
      have : ((fun x : Str × Addr × List (MK × Int × Tok) => decide (x.1 = n)) ∘ g) = fun x => decide (x.1 = n) := funext fun x => by simp only [Function.comp, g1]
      rw [this]
      cases hf : T.find? (fun x => decide (x.1 = n)) with
      | none => rfl
      | some x =>
        have hx := List.mem_of_find?_eq_some hf
        have hxn : x.1 = n := by simpa using List.find?_some hf
        have : x.2.1 ≠ e.2.1 := fun h => hn (by rw [← hxn, hinj x hx h])
        have : g x = x := if_neg this
        simp only [Option.map_some, Option.bind_some, this]

/-- a name made -/
theorem tab_miss (H : TabIn prog w X d T) {nm : Str} (hf : T.find? (fun e => decide (e.1 = nm)) = none) (hnm : nm ∈ NM) {a : Addr} (ha : ∀ p ∈ X, p.1 ≠ a) (hlo : (a == sysModules) = false)
    {o₁ o₂ : Obj} {l' : List (MK × Int × Tok)} (ho₁ : o₁.IsDictOf (strKind prog w) (stored (T.map fun e => (e.1, Value.ref e.2.1)) nm (.ref a))) (ho : o₂.IsDictOf (mixKind prog w) (intPairs l')) (hk : ∀ x ∈ l', x.1 ∈ OW)
    {φ φ' : Str → MK → Option Int} (hφ : ∀ n k, tabAt T n k = φ n k) (h1 : ∀ k, φ' nm k = intAt l' k) (h2 : ∀ n k, n ≠ nm → φ' n k = φ n k) :
    TabFun prog w ((a, o₂) :: upd X d o₁) d (d :: (T.map (·.2.1) ++ [a])) φ' := by
  have hnone : ∀ e ∈ T, e.1 ≠ nm := fun e he h => by
    rw [List.find?_eq_none] at hf
    exact hf e he (by simpa using h)
  have hst : stored (T.map fun e => (e.1, Value.ref e.2.1)) nm (.ref a) = (T ++ [(nm, a, l')]).map fun e => (e.1, Value.ref e.2.1) := by
    have : valueAt (T.map fun e => (e.1, Value.ref e.2.1)) nm = none := by rw [valueAt_top, hf]; rfl
    rw [stored_absent this]
    simp
  obtain ⟨o, ho0, hd0⟩ := H.top
  have hda : d ≠ a := ha _ ho0
  have hTa : ∀ e ∈ T, e.2.1 ≠ a := fun e he => let ⟨o, h, _⟩ := (H.inn e he).2; ha _ h
  have hnd := H.nod
  rw [List.nodup_cons] at hnd
  refine ⟨T ++ [(nm, a, l')], ⟨H.lo, ?_, ?_, ?_, ?_, ?_⟩, ?_, ?_⟩
  · exact ⟨o₁, .tail _ (mem_upd_self ho0), hst ▸ ho₁⟩
  · intro e he
    rcases List.mem_append.mp he with h | h
    · obtain ⟨x1, o3, x2, x3⟩ := H.inn e h
      exact ⟨x1, o3, .tail _ (mem_upd_ne x2 fun h' => hnd.1 (h' ▸ List.mem_map.mpr ⟨e, h, rfl⟩)), x3⟩
    · rw [List.mem_singleton.mp h]
      exact ⟨hlo, o₂, .head _, ho⟩
  · rw [List.map_append, List.nodup_cons]
    refine ⟨fun h => ?_, ?_⟩
    · rcases List.mem_append.mp h with h | h
      · exact hnd.1 h
      · exact hda (by simpa using h)
    · rw [List.nodup_append]
      refine ⟨hnd.2, by simp, ?_⟩
      intro x hx y hy
      obtain ⟨e, he, rfl⟩ := List.mem_map.mp hx
      have : y = a := by simpa using hy
      subst this
      exact hTa e he
  · intro e he
    rcases List.mem_append.mp he with h | h
    · exact H.names e h
    · rw [List.mem_singleton.mp h]; exact hnm
  · intro e he
    rcases List.mem_append.mp he with h | h
    · exact H.keys e h
    · rw [List.mem_singleton.mp h]; exact hk
  · simp
  · intro n k
    by_cases hn : n = nm
    · subst hn
      unfold tabAt
      rw [List.find?_append, hf, h1]
      simp
    · rw [h2 n k hn, ← hφ]
      unfold tabAt
      rw [List.find?_append]
      have : ¬ nm = n := fun e => hn e.symm
      simp [this]
end
end Mine
end

/-! part LG -/
section
open PySem PySem.W PyProof.Rows PySem.Spec PySem.Calls
namespace Mine

structure LTP (prog : Program) (w : World) (X : List (Addr × Obj)) (lk dx lv sl tm : Addr) (S M : List Addr) (t1 t2 t3 : Tok) (n : Nat) (φ g : Str → MK → Option Int) : Prop where
  i : (lk, instObj 232 dx) ∈ X
  dd : (dx, lkD w.params lv sl tm t1 t2 t3 n) ∈ X
  HL : TabFun prog w X lv S φ
  HM : TabFun prog w X tm M g
  slo : (sl == sysModules) = false
  osl : ∃ o, (sl, o) ∈ X ∧ o.IsDictOf (strKind prog w) []
  nd : (lk :: dx :: sl :: (S ++ M)).Nodup

/-- a lock table at lk that tells φ (levels) and g (marks); A: all its addresses -/
inductive LT (prog : Program) (w : World) (X : List (Addr × Obj)) (lk : Addr) (A : List Addr) (φ g : Str → MK → Option Int) : Prop
  | mk (dx lv sl tm : Addr) (S M : List Addr) (t1 t2 t3 : Tok) (n : Nat) (H : LTP prog w X lk dx lv sl tm S M t1 t2 t3 n φ g) (e : A = lk :: dx :: sl :: (S ++ M)) : LT prog w X lk A φ g

/-- what lies beside the table stays beside it -/
def Keep (X : List (Addr × Obj)) (A : List Addr) (X' : List (Addr × Obj)) (A' : List Addr) : Prop := ∀ p ∈ X, p.1 ∉ A → p ∈ X' ∧ p.1 ∉ A'

theorem Keep.refl {X : List (Addr × Obj)} {A : List Addr} : Keep X A X A := fun p h1 h2 => ⟨h1, h2⟩
theorem Keep.trans {X X' X'' : List (Addr × Obj)} {A A' A'' : List Addr} (h1 : Keep X A X' A') (h2 : Keep X' A' X'' A'') : Keep X A X'' A'' := fun p hp hn => let ⟨a, b⟩ := h1 p hp hn; h2 p a b

theorem AllLt.of {d : Addr} : ∀ {l : List (Addr × Obj)}, AllLt d l → ∀ p ∈ l, p.1 < d
  | [], _, p, hp => by simp at hp
  | q :: r, h, p, hp => by
    rcases List.mem_cons.mp hp with e | hp
    · rw [e]; exact h.1
    · exact AllLt.of h.2 p hp

theorem two_sub {X : List (Addr × Obj)} {a b : Addr × Obj} (ha : a ∈ X) (hb : b ∈ X) : ∀ p ∈ a :: b :: X, p ∈ X := by
  intro p hp
  rcases List.mem_cons.mp hp with e | hp
  · rw [e]; exact ha
  · rcases List.mem_cons.mp hp with e | hp
    · rw [e]; exact hb
    · exact hp

section
variable {prog : Program} {w : World} {X X' : List (Addr × Obj)} {d a lk dx lv sl tm : Addr} {S M A : List Addr} {t1 t2 t3 : Tok} {n : Nat} {φ g φ' g' : Str → MK → Option Int} {T : Tab}

theorem TabIn.upd (H : TabIn prog w X d T) {o' : Obj} (ha : a ∉ d :: T.map (·.2.1)) : TabIn prog w (upd X a o') d T where
  lo := H.lo
  top := let ⟨o, h1, h2⟩ := H.top; ⟨o, mem_upd_ne h1 (fun h => ha (h ▸ .head _)), h2⟩
  inn := fun e he => ⟨(H.inn e he).1, let ⟨o, h1, h2⟩ := (H.inn e he).2; ⟨o, mem_upd_ne h1 (fun h => ha (.tail _ (List.mem_map.mpr ⟨e, he, h⟩))), h2⟩⟩
  nod := H.nod
  names := H.names
  keys := H.keys
theorem TabFun.upd (H : TabFun prog w X d S φ) {o' : Obj} (ha : a ∉ S) : TabFun prog w (Mine.upd X a o') d S φ := by
  obtain ⟨T, h1, rfl, h3⟩ := H
  exact ⟨T, h1.upd ha, rfl, h3⟩
theorem TabFun.cong (H : TabFun prog w X d S φ) (h : ∀ n k, φ n k = φ' n k) : TabFun prog w X d S φ' := by
  obtain ⟨T, h1, h2, h3⟩ := H
  exact ⟨T, h1, h2, fun n k => (h3 n k).trans (h n k)⟩
theorem TabFun.ext (H : TabFun prog w X d S φ) {φ' : Str → MK → Option Int} (h : φ' = φ) : TabFun prog w X d S φ' := h ▸ H
theorem TabFun.inX (H : TabFun prog w X d S φ) : ∀ a ∈ S, ∃ o, (a, o) ∈ X := by
  obtain ⟨T, h1, rfl, h3⟩ := H
  intro a ha
  rcases List.mem_cons.mp ha with e | ha
  · obtain ⟨o, h, _⟩ := h1.top; exact ⟨o, e ▸ h⟩
  · obtain ⟨e, he, rfl⟩ := List.mem_map.mp ha
    obtain ⟨o, h, _⟩ := (h1.inn e he).2; exact ⟨o, h⟩

theorem LTP.toLT (H : LTP prog w X lk dx lv sl tm S M t1 t2 t3 n φ g) : LT prog w X lk (lk :: dx :: sl :: (S ++ M)) φ g := ⟨_, _, _, _, _, _, _, _, _, _, H, rfl⟩
theorem LTP.mono (H : LTP prog w X lk dx lv sl tm S M t1 t2 t3 n φ g) (hs : ∀ p ∈ X, p ∈ X') : LTP prog w X' lk dx lv sl tm S M t1 t2 t3 n φ g :=
  ⟨hs _ H.i, hs _ H.dd, H.HL.mono hs, H.HM.mono hs, H.slo, let ⟨o, a, b⟩ := H.osl; ⟨o, hs _ a, b⟩, H.nd⟩
theorem LT.mono (H : LT prog w X lk A φ g) (hs : ∀ p ∈ X, p ∈ X') : LT prog w X' lk A φ g :=
  let ⟨_, _, _, _, _, _, _, _, _, _, h, e⟩ := H; ⟨_, _, _, _, _, _, _, _, _, _, h.mono hs, e⟩
theorem LTP.inX (H : LTP prog w X lk dx lv sl tm S M t1 t2 t3 n φ g) : ∀ a ∈ lk :: dx :: sl :: (S ++ M), ∃ o, (a, o) ∈ X := by
  intro a ha
  simp only [List.mem_cons, List.mem_append] at ha
  rcases ha with rfl | rfl | rfl | ha | ha
  · exact ⟨_, H.i⟩
  · exact ⟨_, H.dd⟩
  · obtain ⟨o, h, _⟩ := H.osl; exact ⟨o, h⟩
  · exact H.HL.inX a ha
  · exact H.HM.inX a ha

/-- the levels turned at an address that is theirs -/
theorem LTP.updL (H : LTP prog w X lk dx lv sl tm S M t1 t2 t3 n φ g) {o' : Obj} (ha : a ∈ S) (HL' : TabFun prog w (Mine.upd X a o') lv S φ') :
    LTP prog w (Mine.upd X a o') lk dx lv sl tm S M t1 t2 t3 n φ' g ∧ Keep X (lk :: dx :: sl :: (S ++ M)) (Mine.upd X a o') (lk :: dx :: sl :: (S ++ M)) := by
  have hn := H.nd
  simp only [List.nodup_cons, List.mem_cons, List.mem_append, not_or, List.nodup_append] at hn
  obtain ⟨⟨_, _, h3, _⟩, ⟨_, h5, _⟩, ⟨h7, _⟩, _, _, h9⟩ := hn
  refine ⟨⟨mem_upd_ne H.i fun h => h3 ((show lk = a from h) ▸ ha), mem_upd_ne H.dd fun h => h5 ((show dx = a from h) ▸ ha), HL', H.HM.upd fun h => h9 a ha a h rfl, H.slo, let ⟨o, h1, h2⟩ := H.osl; ⟨o, mem_upd_ne h1 fun h => h7 ((show sl = a from h) ▸ ha), h2⟩, H.nd⟩, ?_⟩
  intro p hp hpn
  refine ⟨mem_upd_ne hp fun h => hpn ?_, hpn⟩
  rw [h]; simp [ha]
theorem LTP.updM (H : LTP prog w X lk dx lv sl tm S M t1 t2 t3 n φ g) {o' : Obj} (ha : a ∈ M) (HM' : TabFun prog w (Mine.upd X a o') tm M g') :
    LTP prog w (Mine.upd X a o') lk dx lv sl tm S M t1 t2 t3 n φ g' ∧ Keep X (lk :: dx :: sl :: (S ++ M)) (Mine.upd X a o') (lk :: dx :: sl :: (S ++ M)) := by
  have hn := H.nd
  simp only [List.nodup_cons, List.mem_cons, List.mem_append, not_or, List.nodup_append] at hn
  obtain ⟨⟨_, _, _, h3⟩, ⟨_, _, h5⟩, ⟨_, h7⟩, _, _, h9⟩ := hn
  refine ⟨⟨mem_upd_ne H.i fun h => h3 ((show lk = a from h) ▸ ha), mem_upd_ne H.dd fun h => h5 ((show dx = a from h) ▸ ha), H.HL.upd fun h => h9 a h a ha rfl, HM', H.slo, let ⟨o, h1, h2⟩ := H.osl; ⟨o, mem_upd_ne h1 fun h => h7 ((show sl = a from h) ▸ ha), h2⟩, H.nd⟩, ?_⟩
  intro p hp hpn
  refine ⟨mem_upd_ne hp fun h => hpn ?_, hpn⟩
  rw [h]; simp [ha]
theorem LTP.newL (H : LTP prog w X lk dx lv sl tm S M t1 t2 t3 n φ g) {o' o'' : Obj} (hf : ∀ p ∈ X, p.1 ≠ a) (hS : lv ∈ S) (HL' : TabFun prog w ((a, o'') :: Mine.upd X lv o') lv (S ++ [a]) φ') :
    LTP prog w ((a, o'') :: Mine.upd X lv o') lk dx lv sl tm (S ++ [a]) M t1 t2 t3 n φ' g ∧ Keep X (lk :: dx :: sl :: (S ++ M)) ((a, o'') :: Mine.upd X lv o') (lk :: dx :: sl :: ((S ++ [a]) ++ M)) := by
  have hin := H.inX
  have hfr : ∀ b ∈ lk :: dx :: sl :: (S ++ M), b ≠ a := fun b hb => let ⟨o, h⟩ := hin b hb; hf _ h
  have hn := H.nd
  simp only [List.nodup_cons, List.mem_cons, List.mem_append, not_or, List.nodup_append] at hn
  obtain ⟨⟨h1, h2, h3, h4⟩, ⟨h5, h6, h7⟩, ⟨h8, h9⟩, h10, h11, h12⟩ := hn
  have ra : ∀ b, b = a → b ∉ lk :: dx :: sl :: (S ++ M) := fun b e h => hfr b h e
  refine ⟨⟨.tail _ (mem_upd_ne H.i fun h => h3 ((show lk = lv from h) ▸ hS)), .tail _ (mem_upd_ne H.dd fun h => h6 ((show dx = lv from h) ▸ hS)), HL', (H.HM.upd fun h => h12 lv hS lv h rfl).mono fun p hp => .tail _ hp, H.slo, let ⟨o, h1, h2⟩ := H.osl; ⟨o, .tail _ (mem_upd_ne h1 fun h => h8 ((show sl = lv from h) ▸ hS)), h2⟩, ?_⟩, ?_⟩
  · simp only [List.nodup_cons, List.mem_cons, List.mem_append, not_or, List.nodup_append, List.not_mem_nil, not_false_eq_true, or_false, List.nodup_nil, and_true, true_and]
    refine ⟨⟨h1, h2, ⟨h3, hfr lk (by simp)⟩, h4⟩, ⟨h5, ⟨h6, hfr dx (by simp)⟩, h7⟩, ⟨⟨h8, hfr sl (by simp)⟩, h9⟩, ⟨h10, ?_⟩, h11, ?_⟩
    · intro x hx y hy
      rw [hy]; exact hfr x (by simp [hx])
    · intro x hx y hy
      rcases hx with hx | hx
      · exact h12 x hx y hy
      · rw [hx]; exact fun e => hfr y (by simp [hy]) e.symm
  · intro p hp hpn
    refine ⟨.tail _ (mem_upd_ne hp fun h => hpn (by rw [h]; simp [hS])), ?_⟩
    simp only [List.mem_cons, List.mem_append, not_or, List.not_mem_nil, or_false, not_false_eq_true, and_true] at hpn ⊢
    exact ⟨hpn.1, hpn.2.1, hpn.2.2.1, ⟨hpn.2.2.2.1, hf p hp⟩, hpn.2.2.2.2⟩
theorem LTP.newM (H : LTP prog w X lk dx lv sl tm S M t1 t2 t3 n φ g) {o' o'' : Obj} (hf : ∀ p ∈ X, p.1 ≠ a) (hS : tm ∈ M) (HM' : TabFun prog w ((a, o'') :: Mine.upd X tm o') tm (M ++ [a]) g') :
    LTP prog w ((a, o'') :: Mine.upd X tm o') lk dx lv sl tm S (M ++ [a]) t1 t2 t3 n φ g' ∧ Keep X (lk :: dx :: sl :: (S ++ M)) ((a, o'') :: Mine.upd X tm o') (lk :: dx :: sl :: (S ++ (M ++ [a]))) := by
  have hin := H.inX
  have hfr : ∀ b ∈ lk :: dx :: sl :: (S ++ M), b ≠ a := fun b hb => let ⟨o, h⟩ := hin b hb; hf _ h
  have hn := H.nd
  simp only [List.nodup_cons, List.mem_cons, List.mem_append, not_or, List.nodup_append] at hn
  obtain ⟨⟨h1, h2, h3, h4⟩, ⟨h5, h6, h7⟩, ⟨h8, h9⟩, h10, h11, h12⟩ := hn
  refine ⟨⟨.tail _ (mem_upd_ne H.i fun h => h4 ((show lk = tm from h) ▸ hS)), .tail _ (mem_upd_ne H.dd fun h => h7 ((show dx = tm from h) ▸ hS)), (H.HL.upd fun h => h12 tm h tm hS rfl).mono fun p hp => .tail _ hp, HM', H.slo, let ⟨o, h1, h2⟩ := H.osl; ⟨o, .tail _ (mem_upd_ne h1 fun h => h9 ((show sl = tm from h) ▸ hS)), h2⟩, ?_⟩, ?_⟩
  · simp only [List.nodup_cons, List.mem_cons, List.mem_append, not_or, List.nodup_append, List.not_mem_nil, not_false_eq_true, or_false, List.nodup_nil, and_true, true_and]
    refine ⟨⟨h1, h2, h3, h4, hfr lk (by simp)⟩, ⟨h5, h6, h7, hfr dx (by simp)⟩, ⟨h8, h9, hfr sl (by simp)⟩, h10, ⟨h11, ?_⟩, ?_⟩
    · intro x hx y hy
      rw [hy]; exact hfr x (by simp [hx])
    · intro x hx y hy
      rcases hy with hy | hy
      · exact h12 x hx y hy
      · rw [hy]; exact hfr x (by simp [hx])
  · intro p hp hpn
    refine ⟨.tail _ (mem_upd_ne hp fun h => hpn (by rw [h]; simp [hS])), ?_⟩
    simp only [List.mem_cons, List.mem_append, not_or, List.not_mem_nil, or_false, not_false_eq_true, and_true] at hpn ⊢
    exact ⟨hpn.1, hpn.2.1, hpn.2.2.1, hpn.2.2.2.1, hpn.2.2.2.2, hf p hp⟩
end
end Mine
end

/-! part LH -/
section
open PySem PySem.W PyProof.Rows PySem.Spec PySem.Calls
namespace Mine

/-- the frame with one name turned beside the loop's own -/
def Fr1 (I : Value → Prop) (x y : Str) (m₀ m' : Str → Option Value) : Prop := (∃ a, m' y = some a ∧ I a) ∧ ∀ z, z ≠ x → z ≠ y → m' z = m₀ z
theorem Fr1.eq {I : Value → Prop} {x y : Str} {m₀ m' : Str → Option Value} (h : Fr1 I x y m₀ m') : ∃ a, I a ∧ m' = fun z => if z = x then m' x else if z = y then some a else m₀ z := by
  obtain ⟨⟨a, ha, hi⟩, hm⟩ := h
  refine ⟨a, hi, funext fun z => ?_⟩
  by_cases h1 : z = x
  · simp [h1]
  · simp only [if_neg h1]
    by_cases h2 : z = y
    · subst h2; simp [ha]
    · simp only [if_neg h2]; exact hm z h1 h2

section
variable {prog : Program} {w : World} {K : Type} [DecidableEq K] {knd : KeyKind prog w K} {A : Around} {E : Value → Shared → Prop} {s : Shared} {env : Env} {h₀ : Heap} {x y : Str} {body : List Stmt} {Q : Flow → Shared → Prop}
theorem iter_dict1 {d : Addr} {o : Obj} {kvs : List (K × Value)} {m₀ : Str → Option Value} {news : List (Addr × Obj)} {a₀ : Value} (I : Nat → Value → Prop)
    (hh : A.handled = none) (lo : (d == sysModules) = false) (F : Fr h₀ env.locals s.heap m₀) (N : News h₀ env.locals s.heap news) (hm : (d, o) ∈ news) (hD : o.IsDictOf knd kvs) (hy : m₀ y = some a₀) (hj : I 0 a₀) (_hxy : y ≠ x)
    (turn : ∀ i k v key a h tk own, kvs[i]? = some (k, v) → knd.is k key = true → I i a → Fr h₀ env.locals h (fun z => if z = x then some key else if z = y then some a else m₀ z) → News h₀ env.locals h (own ++ news) →
      wpAny (model prog w) A (execs body env) (InvPost h₀ env.locals (Fr1 (I (i + 1)) x y m₀) (own ++ news) { s with heap := h, toks := tk } Q) E { s with heap := h, toks := tk })
    (done : ∀ u a h tk, I kvs.length a → Fr h₀ env.locals h (fun z => if z = x then u else if z = y then some a else m₀ z) → News h₀ env.locals h news → Q .next { s with heap := h, toks := tk }) :
    wpAny (model prog w) A (pyIter (.ref d)) (fun it s₂ => LoopAtV prog w A h₀ env x body Q E it s₂) E s := by
  refine iter_dict (fun i => Fr1 (I i) x y m₀) hh lo F N hm hD ⟨⟨a₀, hy, hj⟩, fun _ _ _ => rfl⟩ ?_ ?_
  · intro i k v key m₁ h tk own hi hk hJ F1 N1
    obtain ⟨a, hI, e⟩ := hJ.eq
    refine turn i k v key a h tk own hi hk hI ?_ N1
    rw [e] at F1
    have e2 : (fun z => if z = x then some key else if z = x then m₁ x else if z = y then some a else m₀ z) = fun z => if z = x then some key else if z = y then some a else m₀ z := by
      funext z
      by_cases h1 : z = x <;> simp [h1]
    rw [← e2]; exact F1
  · intro m₁ h tk hJ F1 N1
    obtain ⟨a, hI, e⟩ := hJ.eq
    rw [e] at F1
    exact done (m₁ x) a h tk hI F1 N1

/-- subscription of a dict at hand -/
theorem d_sub {d : Addr} {kvs : List (K × Value)} {k : K} {key v : Value} {value slice : Expr} {Q : Value → Shared → Prop} (hD : s.heap.DictOf knd d kvs) (hkey : knd.is k key = true) (hv : valueAt kvs k = some v) (h : Q v { s with toks := s.toks + 1 })
    (hs : subscripted slice false (.ref d) key = operate [.ref d, key] (getItem (.ref d) key) := by with_unfolding_all rfl) : wpAny (model prog w) A (subscriptTail value slice (.ref d) key) Q E s :=
  tail_any hD.typeIs slot_dict_getitem.lookup (wpAny_getItem_of hkey hD.mapOf hv h) hs
end

theorem valueAt_get {K : Type} [DecidableEq K] : ∀ {kvs : List (K × Value)} {i : Nat} {k : K} {v : Value}, (kvs.map (·.1)).Nodup → kvs[i]? = some (k, v) → valueAt kvs k = some v
  | [], _, _, _, _, h => by simp at h
  | q :: r, 0, k, v, _, h => by
    have : q = (k, v) := by simpa using h
    subst this
    simp [valueAt]
  | q :: r, i + 1, k, v, hn, h => by
    rw [List.map_cons, List.nodup_cons] at hn
    have h2 : r[i]? = some (k, v) := by simpa using h
    have hne : q.1 ≠ k := fun e => hn.1 (List.mem_map.mpr ⟨_, List.mem_of_getElem? h2, e.symm⟩)
    have := valueAt_get hn.2 h2
    unfold valueAt at this ⊢
    simpa [hne] using this
theorem intPairs_get {K : Type} {l : List (K × Int × Tok)} {i : Nat} {k : K} {v : Value} (h : (intPairs l)[i]? = some (k, v)) : ∃ n t, v = .int n t ∧ l[i]? = some (k, n, t) := by
  unfold intPairs at h
  rw [List.getElem?_map, Option.map_eq_some_iff] at h
  obtain ⟨x, hx, e⟩ := h
  obtain ⟨x1, x2, x3⟩ := x
  injection e with e1 e2
  subst e1; subst e2
  exact ⟨x2, x3, rfl, hx⟩
theorem intAt_get {K : Type} [DecidableEq K] {l : List (K × Int × Tok)} {k : K} {n : Int} (h : PySem.intAt l k = some n) : ∃ (i : Nat) (t : Tok), l[i]? = some (k, n, t) := by
  unfold PySem.intAt at h
  rw [Option.map_eq_some_iff] at h
  obtain ⟨x, hx, e⟩ := h
  have h1 := List.mem_of_find?_eq_some hx
  have h2 : x.1 = k := by simpa using List.find?_some hx
  obtain ⟨i, hi⟩ := List.mem_iff_getElem?.mp h1
  obtain ⟨x1, x2, x3⟩ := x
  subst h2; subst e
  exact ⟨i, x3, hi⟩
theorem get_intAt {K : Type} [DecidableEq K] {l : List (K × Int × Tok)} {i : Nat} {k : K} {n : Int} {t : Tok} (hn : ((intPairs l).map (·.1)).Nodup) (h : l[i]? = some (k, n, t)) : PySem.intAt l k = some n := by
  have h1 : (intPairs l)[i]? = some (k, .int n t) := by
    unfold intPairs
    rw [List.getElem?_map, h]; rfl
  have h2 := valueAt_get hn h1
  rw [valueAt_intPairs, Option.map_eq_some_iff] at h2
  obtain ⟨x, hx, e⟩ := h2
  unfold PySem.intAt
  rw [hx]
  injection e with e1 _
  rw [← e1]; rfl
/-- the highest level of the others -/
def IsHi (φ : Str → MK → Option Int) (n : Str) (k : MK) (H : Int) : Prop := 0 ≤ H ∧ (∀ k', k' ≠ k → ∀ v, φ n k' = some v → v ≤ H) ∧ (H = 0 ∨ ∃ k', k' ≠ k ∧ φ n k' = some H)

section
variable {prog : Program} {w : World} {K : Type} [DecidableEq K] {knd : KeyKind prog w K} {A : Around} {E : Value → Shared → Prop} {s : Shared} {h₀ : Heap} {L d : Addr} {m : Str → Option Value} {news : List (Addr × Obj)} {o : Obj} {kvs : List (K × Value)} {k : K} {key v dflt : Value}
theorem dictAt_news (N : News h₀ L s.heap news) (hm : (d, o) ∈ news) (hD : o.IsDictOf knd kvs) : s.heap.DictOf knd d kvs := Heap.dictOf_iff.mpr ⟨o, (N _ hm).1, hD⟩
theorem L_method {name : Str} {id : String} {pl : Sem Bool} {Q : Value × List Value → Shared → Prop} (slot : Slot "dict" name id) (ty : typeOf (.builtin id) = pure (.type "method_descriptor"))
    (N : News h₀ L s.heap news) (hm : (d, o) ∈ news) (hD : o.IsDictOf knd kvs) (h : Q (.builtin id, [.ref d]) s) :
    wpAny (model prog w) A (getMethod (.ref d) name pl) Q E s := d_method slot ty (dictAt_news N hm hD) h
theorem L_get2 {Q : Value → Shared → Prop} (N : News h₀ L s.heap news) (hm : (d, o) ∈ news) (hD : o.IsDictOf knd kvs) (lo : (d == sysModules) = false) (hkey : knd.is k key = true) (h : Q ((valueAt kvs k).getD dflt) { s with toks := s.toks + 1 }) :
    wpAny (model prog w) A (call (.builtin "dict.get") [.ref d, key, dflt]) Q E s := d_get2 (dictAt_news N hm hD) lo hkey h
theorem L_pop {Q : Value → Shared → Prop} (F : Fr h₀ L s.heap m) (N : News h₀ L s.heap news) (hm : (d, o) ∈ news) (hD : o.IsDictOf knd kvs) (lo : (d == sysModules) = false) (hkey : knd.is k key = true) (hpart : (keyPart key).isSome = true) (hsz : kvs.length ≤ sizeLine)
    (h : ∀ h' o', o'.IsDictOf knd (without kvs k) → Fr h₀ L h' m → News h₀ L h' (upd news d o') → Q ((valueAt kvs k).getD dflt) { s with heap := h', toks := s.toks + 1 }) :
    wpAny (model prog w) A (call (.builtin "dict.pop") [.ref d, key, dflt]) Q E s := by
  refine d_pop (dictAt_news N hm hD) lo hkey hpart hsz fun h' hD' hs => ?_
  obtain ⟨o', ho', hd'⟩ := Heap.dictOf_iff.mp hD'
  exact h h' o' hd' (F.update N hm hs) (news_upd1 N hm hs ho')
theorem L_set {Q : Unit → Shared → Prop} (F : Fr h₀ L s.heap m) (N : News h₀ L s.heap news) (hm : (d, o) ∈ news) (hD : o.IsDictOf knd kvs) (hkey : knd.is k key = true) (hsz : kvs.length ≤ sizeLine)
    (h : ∀ h' o', o'.IsDictOf knd (stored kvs k v) → Fr h₀ L h' m → News h₀ L h' (upd news d o') → Q () { s with heap := h', toks := s.toks + 1 }) :
    wpAny (model prog w) A (setItem (.ref d) key v) Q E s := by
  refine wpAny_setItem_pairs hkey (dictAt_news N hm hD) (hsz := hsz) fun h' hD' hs => ?_
  obtain ⟨o', ho', hd'⟩ := Heap.dictOf_iff.mp hD'
  exact h h' o' hd' (F.update N hm hs) (news_upd1 N hm hs ho')
theorem L_setdef {Q : Value → Shared → Prop} (F : Fr h₀ L s.heap m) (N : News h₀ L s.heap news) (hm : (d, o) ∈ news) (hD : o.IsDictOf knd kvs) (lo : (d == sysModules) = false) (hkey : knd.is k key = true) (hsz : kvs.length ≤ sizeLine)
    (hthere : ∀ v, valueAt kvs k = some v → Q v { s with toks := s.toks + 1 })
    (hnew : valueAt kvs k = none → ∀ h' o', o'.IsDictOf knd (stored kvs k dflt) → Fr h₀ L h' m → News h₀ L h' (upd news d o') → Q dflt { s with heap := h', toks := s.toks + 1 }) :
    wpAny (model prog w) A (call (.builtin "dict.setdefault") [.ref d, key, dflt]) Q E s := by
  refine d_setdef (dictAt_news N hm hD) lo hkey hsz hthere fun hv h' hD' hs => ?_
  obtain ⟨o', ho', hd'⟩ := Heap.dictOf_iff.mp hD'
  exact hnew hv h' o' hd' (F.update N hm hs) (news_upd1 N hm hs ho')
theorem L_item {value slice : Expr} {Q : Value → Shared → Prop} (N : News h₀ L s.heap news) (hm : (d, o) ∈ news) (hD : o.IsDictOf knd kvs) (hkey : knd.is k key = true) (hv : valueAt kvs k = some v) (h : Q v { s with toks := s.toks + 1 })
    (hs : subscripted slice false (.ref d) key = operate [.ref d, key] (getItem (.ref d) key) := by with_unfolding_all rfl) : wpAny (model prog w) A (subscriptTail value slice (.ref d) key) Q E s :=
  d_sub (dictAt_news N hm hD) hkey hv h hs
end
/-- the ledger's sub-part, turned alike -/
theorem upd_sub {X Y : List (Addr × Obj)} {a : Addr} {o : Obj} (h : ∀ p ∈ X, p ∈ Y) : ∀ p ∈ upd X a o, p ∈ upd Y a o := by
  intro p hp
  obtain ⟨q, hq, rfl⟩ := List.mem_map.mp hp
  exact List.mem_map.mpr ⟨q, h q hq, rfl⟩
theorem upd_cons_ne {X : List (Addr × Obj)} {a b : Addr} {o o' : Obj} (h : b ≠ a) : upd ((b, o') :: X) a o = (b, o') :: upd X a o := by
  unfold upd
  rw [List.map_cons, if_neg h]

theorem miss_sub {X Y : List (Addr × Obj)} {d' lv : Addr} {o' o4 o5 : Obj} (hlt : ∀ p ∈ X, p.1 < d') (hs : ∀ p ∈ X, p ∈ Y) : ∀ p ∈ (d', o5) :: upd X lv o4, p ∈ upd ((d', o') :: upd Y lv o4) d' o5 := by
  intro p hp
  rcases List.mem_cons.mp hp with e | hp
  · rw [e]; exact mem_upd_self (.head _)
  · refine mem_upd_ne (.tail _ (upd_sub hs p hp)) ?_
    rcases mem_upd hp with ⟨e, o, ho⟩ | ⟨h, _⟩
    · rw [e]; exact Nat.ne_of_lt (hlt (lv, o) ho)
    · exact Nat.ne_of_lt (hlt _ h)

end Mine
end

/-! part LT1 -/
section
open PySem PySem.W PyProof.Rows PySem.Spec PySem.Calls
set_option maxRecDepth 100000
namespace Mine
section
variable {prog : Program} {w : World} {A : Around} {E : Value → Shared → Prop} {s : Shared} {env : Env} {h₀ : Heap} {x y : Str} {body : List Stmt} {Q : Flow → Shared → Prop}
/-- a for over a tuple of the ledger; the body turns at most the name y -/
theorem iter_tup {d : Addr} {o : Obj} {its : Array Value} {n : Nat} {m₀ : Str → Option Value} {news : List (Addr × Obj)}
    (hh : A.handled = none) (F : Fr h₀ env.locals s.heap m₀) (N : News h₀ env.locals s.heap news) (hm : (d, o) ∈ news) (hc : o.cls = .type "tuple") (hd : o.data = .seq its n)
    (turn : ∀ (i : Nat) v u h tk own, its[i]? = some v → Fr h₀ env.locals h (fun z => if z = x then some v else if z = y then u else m₀ z) → News h₀ env.locals h (own ++ news) →
      wpAny (model prog w) A (execs body env) (InvPost h₀ env.locals (fun m' => ∀ z, z ≠ x → z ≠ y → m' z = m₀ z) (own ++ news) { s with heap := h, toks := tk } Q) E { s with heap := h, toks := tk })
    (done : ∀ u u' h tk, Fr h₀ env.locals h (fun z => if z = x then u else if z = y then u' else m₀ z) → News h₀ env.locals h news → Q .next { s with heap := h, toks := tk }) :
    wpAny (model prog w) A (pyIter (.ref d)) (fun it s₂ => LoopAtV prog w A h₀ env x body Q E it s₂) E s := by
  have ht : s.heap.IsTuple d its := ⟨o, (N _ hm).1, hc, n, hd⟩
  have hlt : d < s.heap.objs.size := Heap.lt_size (N _ hm).1
  have hne : d ≠ s.heap.objs.size := Nat.ne_of_lt hlt
  have hfr : ∀ (u : Option Value) (m₁ : Str → Option Value), (∀ z, z ≠ x → z ≠ y → m₁ z = m₀ z) → (fun z => if z = x then u else m₁ z) = fun z => if z = x then u else if z = y then m₁ y else m₀ z := fun u m₁ hz => funext fun z => by
    by_cases h1 : z = x
    · simp [h1]
    · simp only [if_neg h1]
      by_cases h2 : z = y
      · subst h2; simp
      · simp only [if_neg h2]; exact hz z h1 h2
  refine wpAny_pyIter_tuple ht ?_
  have W := Walks.tuple (prog := prog) (w := w) hh s.heap.objs.size d hne its
  let J' : Nat → (Str → Option Value) → List (Addr × Obj) → Prop := fun i m₁ news₁ => news₁ = news ∧ ∀ z, z ≠ x → z ≠ y → m₁ z = m₀ z
  refine ⟨_, _, _, its.size, _, _, m₀, news, J', rfl, W, ?_, ?_, ?_, ⟨⟨_, Heap.get?_push_size _ rfl, rfl, rfl⟩, ht.at fun o e => Heap.get?_push_of_some _ e⟩, F.push _, (fun p hp => ⟨Heap.get?_push_of_some _ (N p hp).1, (N p hp).2⟩), ⟨rfl, fun _ _ _ => rfl⟩, ?_, ?_⟩
  · intro hm'
    rcases List.mem_cons.mp hm' with e | hm'
    · exact absurd F.ns.lt (e ▸ Nat.lt_irrefl _)
    · exact (N _ hm).2.1 (List.mem_singleton.mp hm').symm
  · intro b hb
    rw [List.mem_singleton.mp hb]
    exact next_is_new F
  · intro p hp hI
    exact absurd (Heap.lt_size (N p hp).1) ((List.mem_singleton.mp hI) ▸ Nat.lt_irrefl _)
  · rintro i v m₁ news₁ s₁ own ⟨hh', tk', rfl⟩ hin hP ⟨rfl, hz⟩ hoff _ _ _ _ F₁ N₁
    rw [hfr _ _ hz] at F₁
    refine wpAny_mono (turn i v _ hh' tk' own hP F₁ N₁) (fun f s₂ p => ?_) fun _ _ e => e
    have fin : InvEnd h₀ env.locals (fun m' => ∀ z, z ≠ x → z ≠ y → m' z = m₀ z) (own ++ news₁) { s with heap := hh', toks := tk' } s₂ → LoopStepU h₀ env.locals [s.heap.objs.size] own (J' (i + 1)) { s with heap := hh', toks := tk' } .next s₂ := by
      rintro ⟨h', tk, m', news', e, F', N', hn, hm⟩
      exact ⟨rfl, h', tk, m', news₁, e, F', fun p hp => N' p (hn p hp), hoff, rfl, hm⟩
    cases f with
    | ret v => exact .ret p
    | brk => exact .brk p
    | next => exact .next (fin p)
    | cont => exact .cont (fin p)
  · rintro h' tk m' news' F' N' _ ⟨rfl, hz⟩
    refine done (m' x) (m' y) h' tk ?_ N'
    rw [← hfr _ _ hz]
    have e : (fun z => if z = x then m' x else m' z) = m' := funext fun z => by by_cases h : z = x <;> simp [h]
    rw [e]; exact F'
end
end Mine
end

/-! part LX -/
section
open PySem PySem.W PyProof.Rows PySem.Spec PySem.Calls
set_option maxRecDepth 100000
namespace Mine

/-- an exception of an own class -/
abbrev excO (C t : Addr) (dd : Option Addr) : Obj := { cls := .ref C, dict := dd, data := .fields #[.ref t, .none, .none, .none, .bool false, .none] }

section
variable {prog : Program} {w : World} {A : Around} {E : Value → Shared → Prop} {s : Shared} {K : Frag} {h₀ : Heap} {L C D e t : Addr} {m : Str → Option Value} {news : List (Addr × Obj)} {cd : ClassData} {name : Str} {v : Value}
theorem exc_osa {tk : Tok} {R : Result → Shared → Prop} (F : Fr h₀ L s.heap m) (X₀ : K.In h₀) (N : News h₀ L s.heap news) (hm : (e, excO C t none) ∈ news)
    (hna : findIn K (.ref C) name = some none)
    (hc : clsIn K C = some cd) (hd : cd.hasDict = true) (hmro : cd.mro = [.ref C, .ref D, .type "Exception", .type "BaseException", .type "object"])
    (h : ∀ h' dN tk, Fr h₀ L h' m → News h₀ L h' (upd news e (excO C t (some dN))) → R (.ok (.ret .none)) { s with heap := h', toks := tk }) :
    codeAny (model prog w) A (.call (.builtin "object.__setattr__") ⟨[.ref e, .str name tk, v], []⟩) R s := by
  have X := X₀.keeps F.keep
  have he := (N _ hm).1
  have I : InstAt s.heap e (excO C t none) C none := ⟨he, rfl, rfl, True.intro⟩
  have SF := PySem.F.store_object
  have ne : cd.mro.isEmpty = false := by rw [hmro]; rfl
  have sub : Looks (model prog w) s.heap (isInstance (.ref e) (.type "object")) true := I.type.andThen (looks_mroIn X (by unfold mroIn; rw [hc, Option.bind_some, if_neg (by rw [ne]; decide), hmro]; rfl))
  refine codeAny_call_builtin SF.slot.plain SF.entry (@check_slot (model prog w) _ _ _ "object.__setattr__" "object" "__setattr__" (.ref e) [.str name tk, v] [] _ SF.kind SF.split sub (SF.args (.ref e) (.str name tk) v) ?_)
  have hmr : Looks (model prog w) s.heap (mroOf (.ref C)) cd.mro := (looks_clsIn X hc).andThen .now
  rw [osa_eq, refuse_eq]
  refine wpAny_bind (wpAny_bind (I.type.here (wpAny_bind (hmr.here ?_))))
  rw [hmro, refuseLoop_ref, refuseLoop_ref, PySem.F.store_Exception.passes]
  refine wpAny_pure (wpAny_bind (I.type.here (wpAny_bind ((looks_findIn X hna).here (wpAny_bind (wpAny_pure ?_))))))
  refine wpAny_bind (wpAny_pure (wpAny_bind (wpAny_bind (wpAny_loadPart he (wpAny_bind ((looks_clsIn X hc).here ?_))))))
  rw [hd]
  obtain ⟨hh, gs, dr, tks, os⟩ := s
  dsimp only at F X N he I h
  have hx₁ : (hh.push { cls := .type "dict", data := .dict #[] }).get? e = some (excO C t none) := Heap.get?_push_of_some _ he
  have hes : e < hh.objs.size := Heap.lt_size he
  have hxs : e ≠ hh.objs.size := Nat.ne_of_lt hes
  refine wpAny_bind (wpAny_alloc' ?_)
  refine wpAny_bind (wpAny_update' hx₁ ?_)
  refine wpAny_pure ?_
  have F1 := F.push { cls := .type "dict", data := .dict #[] }
  have N1 := N.push F { cls := .type "dict", data := .dict #[] }
  have hg2 : ((hh.push { cls := .type "dict", data := .dict #[] }).update e fun o => { cls := o.cls, dict := some hh.objs.size, data := o.data, slots := o.slots }).get? e = some (excO C t (some hh.objs.size)) :=
    Heap.get?_update_self _ hx₁ rfl
  have sb2 : Heap.SameBut e (hh.push { cls := .type "dict", data := .dict #[] }) ((hh.push { cls := .type "dict", data := .dict #[] }).update e fun o => { cls := o.cls, dict := some hh.objs.size, data := o.data, slots := o.slots }) :=
    ⟨Heap.size_update _ _ _, fun b hb => Heap.get?_update_ne _ _ _ _ hb⟩
  have F2 := F1.update N1 (.tail _ hm) sb2
  have N2 := news_upd1 N1 (.tail _ hm) sb2 hg2
  have hgd : ((hh.push { cls := .type "dict", data := .dict #[] }).update e fun o => { cls := o.cls, dict := some hh.objs.size, data := o.data, slots := o.slots }).get? hh.objs.size
      = some { cls := .type "dict", data := .dict #[] } :=
    (Heap.get?_update_ne _ _ _ _ hxs.symm).trans (Heap.get?_push_at rfl rfl)
  have hnd : ((hh.push { cls := .type "dict", data := .dict #[] }).update e fun o => { cls := o.cls, dict := some hh.objs.size, data := o.data, slots := o.slots }).Ns hh.objs.size (fun _ => none) :=
    ⟨_, #[], _, hgd, rfl, fun e he => absurd he (by simp), fun _ => rfl⟩
  show wpAny _ _ (Builtin.ObjectAttr.storeInDict hh.objs.size (.str name tk) name v) _ _ _
  unfold Builtin.ObjectAttr.storeInDict Builtin.ObjectAttr.newKeyGuard
  refine wpAny_bind (wpAny_pure (wpAny_bind (wpAny_nsSet1 (Heap.Ns1.of_empty hnd) fun h' hn' hs => ?_)))
  obtain ⟨oD, esD, epD, hoD, hdD, hcD⟩ := hn'.count (Within.cons name v Within.nil)
  refine wpAny_bind (wpAny_lookBehind hoD (by rw [hdD]; exact pastItsLine_dict (Nat.le_trans hcD (by rw [List.length_cons, List.length_nil, sizeLine_eq]; omega))) ?_)
  wp_walk
  have F3 := F2.update N2 (mem_upd_ne (List.Mem.head _) hxs.symm) hs
  have N3 := news_upd1 N2 (mem_upd_ne (List.Mem.head _) hxs.symm) hs hoD
  refine h h' hh.objs.size _ F3 (news_sub N3 fun p hp => ?_)
  have hlt : p.1 < hh.objs.size := by
    rcases mem_upd hp with ⟨e1, _⟩ | ⟨h1, _⟩
    · rw [e1]; exact hes
    · exact Heap.lt_size (N p h1).1
  refine mem_upd_ne (upd_sub (fun q hq => .tail _ hq) p hp) (Nat.ne_of_lt hlt)
theorem set_exc {Q : Unit → Shared → Prop} (F : Fr h₀ L s.heap m) (X₀ : K.In h₀) (N : News h₀ L s.heap news) (hm : (e, excO C t none) ∈ news)
    (hs : findIn K (.ref C) "__setattr__" = some (some (.builtin "object.__setattr__"))) (hna : findIn K (.ref C) name = some none)
    (hc : clsIn K C = some cd) (hd : cd.hasDict = true) (hmro : cd.mro = [.ref C, .ref D, .type "Exception", .type "BaseException", .type "object"])
    (h : ∀ h' dN tk, Fr h₀ L h' m → News h₀ L h' (upd news e (excO C t (some dN))) → Q () { s with heap := h', toks := tk }) :
    wpAny (model prog w) A (setAttr (.ref e) name v) Q E s :=
  set_plain (X₀.keeps F.keep) (show InstAt s.heap e (excO C t none) C none from ⟨(N _ hm).1, rfl, rfl, True.intro⟩) hs (exc_osa (s := { s with toks := s.toks + 1 }) F X₀ N hm hna hc hd hmro fun h' dN tk F' N' => h h' dN tk F' N')
end

section
variable {prog : Program} {w : World} {A : Around} {E : Value → Shared → Prop} {h : Heap} {g : Array GenState} {d : Drawn} {t : Nat} {os : OsState}
variable {nm q : Str} {C N D : Addr} {bs : List Value} {sn : List Str} {sub : List Value} {ab : Bool} {col : Option Bool} {dd : Option Addr} {k0 k1 k2 k3 k5 : Option Value}

abbrev bmOf (D : Addr) : List Value := [.ref D, .type "Exception", .type "BaseException", .type "object"]
theorem has_of (C D : Addr) {T : String} {b : Bool} (h : [Value.type "Exception", .type "BaseException", .type "object"].contains (.type T) = b) : (Value.ref C :: bmOf D).contains (.type T) = b := by
  rw [List.contains_cons, List.contains_cons, h]; rfl

theorem check_new_own {rest : List Value} {Q : Unit → Shared → Prop} (hC : h.get? C = some (excClassObj nm q C N bs (bmOf D) true sn sub ab col dd k0 k1 k2 k3 k5 "Exception.__new__"))
    (hq : Q () ⟨h, g, d, t, os⟩) : wpAny (model prog w) A (checkBuiltinCall "Exception.__new__" ⟨.ref C :: rest, []⟩) Q E ⟨h, g, d, t, os⟩ := by
  have F := PySem.F.excBase_Exception
  have hcont := has_of C D F.hasB
  have hstar := F.noStar
  simp only [checkBuiltinCall, F.newKind, F.newSplit, F.newRow]
  repeat (first | refine wpAny_loadPart_at hC ?_ | (refine wpAny_isSubtype_exc hC ?_; rw [hcont]) | refine wpAny_staticBase_exc hC ?_ | refine wpAny_madeBy_exc hC ?_ | simp only [bne_self_eq_false, Bool.false_eq_true, if_false] | wp_step)
  exact hq

theorem new_own {R : Result → Shared → Prop} {rest : List Value} (hC : h.get? C = some (excClassObj nm q C N bs (bmOf D) true sn sub ab col dd k0 k1 k2 k3 k5 "Exception.__new__"))
    (hq : R (.ok (.ret (.ref (h.objs.size + 1)))) ⟨(h.push { cls := .type "tuple", data := .seq rest.toArray }).push (excO C h.objs.size none), g, d, t, os⟩) (hrest : rest.length ≤ sizeLine) :
    codeAny (model prog w) A (.builtin "Exception.__new__" ⟨.ref C :: rest, []⟩) R ⟨h, g, d, t, os⟩ := by
  have F := PySem.F.excBase_Exception
  have hends := F.ends
  have hcB := has_of C D F.hasB
  have hcA := has_of C D F.noAttr
  have hcN := has_of C D F.noName
  refine codeAny_builtinAt F.entry ?_
  unfold Builtin.«BaseException.__new__»
  refine PySem.wpAt_bind ?_
  show PySem.wpAt _ _ _ (stack >>= _) _ _ _
  refine PySem.wpAt_bind (PySem.wpAt_stack fun p below => PySem.wpAt_of_wpAny ?_)
  wp_walk
  refine PySem.wpAt_of_wpAny ?_
  rw [F.owner]
  repeat (first | with_reducible refine wpAny_madeHere_exc F.canon hC ?_ | with_reducible refine wpAny_loadPart_at hC ?_ | (with_reducible refine wpAny_isSubtype_exc hC ?_; first | rw [hcB] | rw [hcA] | rw [hcN]) | wp_step)
  show R _ _
  rw [Heap.size_push]
  exact hq
end

section
variable {prog : Program} {w : World} {A : Around} {E : Value → Shared → Prop} {s : Shared} {K : Frag} {h₀ : Heap} {L C D fI : Addr} {m : Str → Option Value} {news : List (Addr × Obj)}
variable {nm q : Str} {N : Addr} {bs : List Value} {sn : List Str} {sub : List Value} {ab : Bool} {col : Option Bool} {dd : Option Addr} {k0 k1 k2 k3 k5 : Option Value}
theorem exc_made {rest : List Value} {Q : Value → Shared → Prop} (F : Fr h₀ L s.heap m) (X₀ : K.In h₀) (Nw : News h₀ L s.heap news)
    (hl : K.lookup C = some (excClassObj nm q C N bs (bmOf D) true sn sub ab col dd k0 k1 k2 k3 k5 "Exception.__new__"))
    (hi : findIn K (.ref C) "__init__" = some (some (.ref fI))) (hf : typeIn K (.ref fI) = some (.type "function")) (hrest : rest.length ≤ sizeLine)
    (h : ∀ e t h', Fr h₀ L h' m → News h₀ L h' ((e, excO C t none) :: (t, { cls := .type "tuple", data := .seq rest.toArray }) :: news) → (∀ p ∈ news, p.1 < t) → t < e →
      wpAny (model prog w) (A.under (.builtin "type.__call__" ⟨.ref C :: rest, []⟩)) (call (.ref fI) (.ref e :: rest)) (fun r s' => r = .none ∧ Q (.ref e) s') E { s with heap := h' }) :
    wpAny (model prog w) A (call (.ref C) rest) Q E s := by
  obtain ⟨hh, g, d, t, os⟩ := s
  dsimp only at F Nw h
  have X := X₀.keeps F.keep
  have hC := X _ _ hl
  have f1 := tc_lookup
  have f2 := tc_bind (.ref C)
  have hT : (⟨hh, g, d, t, os⟩ : Shared).TypeIs (.ref C) "type" := ⟨_, hC, rfl⟩
  refine wpAny_call (codeAny_of_tree ?_)
  show wpAny _ _ (callAny (.ref C) _) _ _ _
  repeat (any_goals (first | assumption | with_reducible refine wpAny_loadPart_at hC ?_ | wp_step))
  refine ⟨rfl, ?_⟩
  refine codeAny_call_builtin_at (Code.quiet_builtin _ (by decide +kernel)) entry_typeCall (wpAny_check_type_call_sub hC ?_)
  repeat (first | with_reducible refine wpAny_loadPart_at hC ?_ | with_reducible refine wpAny_madeBy_exc hC ?_ | wp_step)
  refine codeAny_call_builtin_code (Code.quiet_builtin _ PySem.F.excBase_Exception.quiet) (check_new_own hC ?_)
  refine new_own hC ?_ hrest
  show wpAny _ _ _ _ _ _
  have N1 := (Nw.push F { cls := .type "tuple", data := .seq rest.toArray })
  have F1 := F.push { cls := .type "tuple", data := .seq rest.toArray }
  have N2 := N1.push F1 (excO C hh.objs.size none)
  have F2 := F1.push (excO C hh.objs.size none)
  rw [Heap.size_push] at N2
  have X2 := X₀.keeps F2.keep
  have hC₁ := X2 _ _ hl
  have hget := (N2 _ (.head _)).1
  dsimp only at hget
  have hcC : (Value.ref C :: bmOf D).contains (.ref C) = true := by simp
  unfold isInstance
  repeat (first | with_reducible refine wpAny_loadPart_at hget ?_ | (with_reducible refine wpAny_isSubtype_exc hC₁ ?_; rw [hcC]) | wp_step)
  refine wpAny_isSubtype_exc hC₁ ?_
  rw [hcC]
  repeat (first | with_reducible refine wpAny_loadPart_at hget ?_ | wp_step)
  show wpAny _ _ (typeLookup (.ref C) _) _ _ _
  refine (looks_findIn X2 hi).here ?_
  refine wpAny_holding (wpAny_bind ?_)
  refine (bind_fn X2 _ hf).here ?_
  refine wpAny_bind (wpAny_mono (h (hh.objs.size + 1) hh.objs.size _ F2 N2 (fun p hp => Heap.lt_size (Nw p hp).1) (Nat.lt_succ_self _)) (fun r s' hr => ?_) fun _ _ x => x)
  obtain ⟨rfl, hQ⟩ := hr
  wp_walk
  exact hQ
end
end Mine
end

/-! part LY -/
section
open PySem PySem.W PyProof.Rows PySem.Spec PySem.Calls
set_option maxRecDepth 100000
namespace Mine

/-- C is an exception's class made in the text, above it D, above that Exception -/
def IsExcC (h : Heap) (C D : Addr) : Prop := ∃ (nm q : Str) (N : Addr) (bs : List Value) (sn : List Str) (sub : List Value) (ab : Bool) (col : Option Bool) (dd : Option Addr) (k0 k1 k2 k3 k5 : Option Value),
  h.get? C = some (excClassObj nm q C N bs (bmOf D) true sn sub ab col dd k0 k1 k2 k3 k5 "Exception.__new__")
theorem busy_cls {P : Params} {h : Heap} (X : (kk P).In h) : IsExcC h 51 38 := ⟨_, _, _, _, _, _, _, _, _, _, _, _, _, _, X 51 (o51 P) (by exact rfl)⟩
section
variable {prog : Program} {w : World} {A : Around} {E : Value → Shared → Prop} {s : Shared} {env : Env} {K : Frag} {h₀ : Heap} {L C D e t : Addr} {m : Str → Option Value} {news : List (Addr × Obj)}
def MadeExc (C D : Addr) (E : Value → Shared → Prop) (v : Value) (s₁ : Shared) : Prop := ∃ e t d1, v = .ref e ∧ IsExcC s₁.heap C D ∧ s₁.heap.get? e = some (excO C t d1) ∧ E (.ref e) s₁
theorem raise_own {x : PySem.Expr} {pos : Pos} {Q : Flow → Shared → Prop} (hh : A.handled = none)
    (h : wpAny (model prog w) A (eval x env) (MadeExc C D E) E s) :
    wpAny (model prog w) A (exec (.Raise (some x) none pos) env) Q E s := by
  have hcB := has_of C D PySem.F.excBase_Exception.hasBase
  rw [arm_exec_Raise]
  refine wpAny_bind (wpAny_standAt ?_)
  unfold raiseStmt
  refine wpAny_bind (wpAny_mono (wpAny_bind (wpAny_mono h (fun v s₁ h₁ => wpAny_bind (wpAny_standAt (wpAny_pure h₁))) fun _ _ x => x)) (fun v s₁ h₁ => ?_) fun _ _ x => x)
  obtain ⟨e, t, d1, rfl, ⟨nm, q, N, bs, sn, sub, ab, col, dd, k0, k1, k2, k3, k5, hC⟩, he, hE⟩ := h₁
  obtain ⟨hp, g, d, tk, os⟩ := s₁
  repeat (first | with_reducible refine wpAny_loadPart_at he ?_ | with_reducible refine wpAny_loadPart_at hC ?_ | (with_reducible refine wpAny_isSubtype_exc hC ?_; rw [hcB]) | wp_step)
  exact wpAny_raiseNew_none hh hE
end

section
variable {M : Model} {A : Around} {E : Value → Shared → Prop} {s' : Shared} {base g : Heap} {outer : List Env} {L a e t C : Addr} {dd : Option Addr} {m : Str → Option Value} {name : Str} {scope : Scope} {cd : Value} {Q : Unit → Shared → Prop} {news : List (Addr × Obj)}
theorem leave_excS (K : Below A base outer g) (F : Fr g L s'.heap m) (N : News g L s'.heap ((e, excO C t dd) :: news)) (hne : ∀ q ∈ news, q.1 ≠ e)
    (hQ : ∀ h', RaisedSN base g outer e (.ref C) news h' → g.UpToSlots h' → Q () { s' with heap := h' }) (hk : scope.kind = .function := by rfl) :
    wpAny M (A.deeper (envOf name scope L a cd)) (leaving (envOf name scope L a cd) (.ref e)) Q E s' := by
  have K' := K.push (name := name) (a := a) (cd := cd) F hk
  have hin : ∀ env ∈ (envOf name scope L a cd :: outer), ∀ b, env.frame = some b → b ∈ e :: (envOf name scope L a cd :: outer).filterMap (·.frame) := fun env he b hb => .tail _ (List.mem_filterMap.mpr ⟨env, he, hb⟩)
  have Ne := N _ (.head _)
  dsimp only at Ne
  have heb : base.get? e = none := fresh_of_stays K.stays Ne.2.2
  have heg : g.get? e = none := Ne.2.2
  have st : base.StaysIn (hideAll s'.heap (e :: (envOf name scope L a cd :: outer).filterMap (·.frame))) := fun b o q => hideAll_get _ (K'.stays b o q) fun hm => by
    rcases List.mem_cons.mp hm with z | hm
    · rw [z, heb] at q; cases q
    · rw [(K'.frames.mem hm).1] at q; cases q
  have sg : ∀ b o, g.get? b = some o → b ∉ outer.filterMap (·.frame) → (hideAll s'.heap (e :: (envOf name scope L a cd :: outer).filterMap (·.frame))).get? b = some o := fun b o q nm => hideAll_get _ (F.keep b o q) fun hm => by
    rcases List.mem_cons.mp hm with z | hm
    · rw [z, heg] at q; cases q
    · rcases kts_mem hm with z | z
      · rw [z, kts_self F] at q
        cases q
      · exact nm z
  have hl : ∀ q ∈ news, (hideAll s'.heap (e :: (envOf name scope L a cd :: outer).filterMap (·.frame))).get? q.1 = some q.2 ∧ g.get? q.1 = none ∧ base.get? q.1 = none := fun q hq => by
    have Nq := N q (.tail _ hq)
    refine ⟨hideAll_get _ Nq.1 fun hm => ?_, Nq.2.2, fresh_of_stays K.stays Nq.2.2⟩
    rcases List.mem_cons.mp hm with z | hm
    · exact hne q hq z
    · obtain ⟨env, he, hf⟩ := List.mem_filterMap.mp hm
      rcases List.mem_cons.mp he with rfl | he
      · exact Nq.2.1 (Option.some.inj hf).symm
      · obtain ⟨o, ho, _⟩ := (K.frames.mem (List.mem_filterMap.mpr ⟨env, he, hf⟩)).2
        rw [Nq.2.2] at ho; cases ho
  have hen : (hideAll s'.heap (e :: (envOf name scope L a cd :: outer).filterMap (·.frame))).get? e = none := hideAll_none _ (.head _)
  refine wpAny_leaving_firstW (a0 := .ref t) K'.stack (funFrames_hide K'.frames hin) rfl Ne.1 (fun b o hb => of_hideAll _ hb) hen rfl rfl rfl fun h' hL => ?_
  obtain ⟨k1, ⟨_, _, k2⟩, k3, k4⟩ := hL
  have R : RaisedSN base g outer e (.ref C) news h' := ⟨_, .ref t, st, sg, hl, k1, hen, k2, k3⟩
  exact hQ h' R ((Heap.UpToSlots.of_keeps F.keep).trans k4)
theorem raised_sub {G : Heap} {l : List Env} {cls : Value} {news' : List (Addr × Obj)} {h : Heap} (R : RaisedSN base G l e cls news h) (hs : ∀ p ∈ news', p ∈ news) : RaisedSN base G l e cls news' h :=
  let ⟨B, a0, h1, h2, h3, h4⟩ := R; ⟨B, a0, h1, h2, fun q hq => h3 q (hs q hq), h4⟩
end

/-- a call that comes back, or goes out with a BusyError -/
def SpecR (prog : Program) (w : World) (D : Nat) (f : Addr) (vs : List Value) (X : List (Addr × Obj)) (R : Value → List (Addr × Obj) → Prop) (RE : List (Addr × Obj) → Prop) : Prop :=
  ∀ (p : Program) (loose : List Str) (mean : ExcName → Option Value) (mg mb : Str → Option Value) (dp un : Nat) (gd : Option (List Code)) (cn : Str) (cs : Scope) (a : Addr) (ccd : Value) (cl : List (Str × Addr)) (outer : List Env) (A₀ : Around) (base h₀ : Heap) (L : Addr) (m : Str → Option Value) (s : Shared) (Q E : Value → Shared → Prop),
    Below A₀ base outer h₀ → Fr h₀ L s.heap m → (kk w.params).In h₀ → News h₀ L s.heap X → Top p loose mean mg mb h₀ → cs.kind = .function → dp + D < recursionLimit → un + 10 * D < cLine →
    (∀ r X' h' tk', Fr h₀ L h' m → News h₀ L h' X' → R r X' → Q r { s with heap := h', toks := tk' }) →
    (∀ e X' g₂ h' tk', Fr h₀ L g₂ m → g₂.UpToSlots h' → RaisedSN base g₂ (envX cn cs L a ccd cl :: outer) e (.ref 51) X' h' → RE X' → E (.ref e) { s with heap := h', toks := tk' }) →
    wpAny (model prog w) (ktrTop dp un gd cn cs L a ccd cl outer) (call (.ref f) vs) Q E s
section
variable {prog : Program} {w : World} {D : Nat} {f : Addr} {vs : List Value} {X : List (Addr × Obj)} {R : Value → List (Addr × Obj) → Prop} {RE : List (Addr × Obj) → Prop} {p : Program} {loose : List Str} {mean : ExcName → Option Value} {mg mb : Str → Option Value}
  {dp un : Nat} {gd : Option (List Code)} {cn : Str} {cs : Scope} {a : Addr} {ccd : Value} {cl : List (Str × Addr)} {outer : List Env} {A₀ : Around} {base h₀ : Heap} {L : Addr} {m : Str → Option Value} {s : Shared} {Q E : Value → Shared → Prop}
theorem use_specR (C : SpecR prog w D f vs X R RE) (B : Below A₀ base outer h₀) (F : Fr h₀ L s.heap m) (KX : (kk w.params).In h₀) (N : News h₀ L s.heap X) (T : Top p loose mean mg mb h₀) (hk : cs.kind = .function) (hd : dp + D < recursionLimit) (hu : un + 10 * D < cLine)
    (h : ∀ r X' h' tk', Fr h₀ L h' m → News h₀ L h' X' → R r X' → Q r { s with heap := h', toks := tk' })
    (hE : ∀ e X' g₂ h' tk', Fr h₀ L g₂ m → g₂.UpToSlots h' → RaisedSN base g₂ (envX cn cs L a ccd cl :: outer) e (.ref 51) X' h' → RE X' → E (.ref e) { s with heap := h', toks := tk' }) :
    wpAny (model prog w) (ktrTop dp un gd cn cs L a ccd cl outer) (call (.ref f) vs) Q E s := C _ _ _ _ _ _ _ _ _ _ _ _ _ _ _ _ _ _ _ _ _ _ B F KX N T hk hd hu h hE
end
end Mine
end

/-! part LZ -/
section
open PySem PySem.W PyProof.Rows PySem.Spec PySem.Calls
set_option maxRecDepth 100000
namespace Mine
theorem isHi_set2 {φ : Str → MK → Option Int} {n : Str} {k : MK} {v : Option Int} {H : Int} (h : IsHi φ n k H) : IsHi (set2 φ n k v) n k H := by
  obtain ⟨h1, h2, h3⟩ := h
  refine ⟨h1, fun k' hk x hx => h2 k' hk x ?_, ?_⟩
  · unfold set2 at hx
    rw [if_neg (fun q => hk q.2)] at hx
    exact hx
  · rcases h3 with h3 | ⟨k', hk, h3⟩
    · exact .inl h3
    · refine .inr ⟨k', hk, ?_⟩
      unfold set2
      rw [if_neg (fun q => hk q.2)]
      exact h3
theorem isHi_of_set2 {φ : Str → MK → Option Int} {n : Str} {k : MK} {v : Option Int} {H : Int} (h : IsHi (set2 φ n k v) n k H) : IsHi φ n k H := by
  obtain ⟨h1, h2, h3⟩ := h
  refine ⟨h1, fun k' hk x hx => h2 k' hk x ?_, ?_⟩
  · unfold set2
    rw [if_neg (fun q => hk q.2)]
    exact hx
  · rcases h3 with h3 | ⟨k', hk, h3⟩
    · exact .inl h3
    · refine .inr ⟨k', hk, ?_⟩
      unfold set2 at h3
      rw [if_neg (fun q => hk q.2)] at h3
      exact h3
theorem isHi_uniq {φ : Str → MK → Option Int} {n : Str} {k : MK} {H H' : Int} (h : IsHi φ n k H) (h' : IsHi φ n k H') : H = H' := by
  obtain ⟨h1, h2, h3⟩ := h
  obtain ⟨h1', h2', h3'⟩ := h'
  rcases h3 with h3 | ⟨k1, hk1, h3⟩ <;> rcases h3' with h3' | ⟨k2, hk2, h3'⟩
  · rw [h3, h3']
  · have := h2 k2 hk2 _ h3'; omega
  · have := h2' k1 hk1 _ h3; omega
  · have a := h2 k2 hk2 _ h3'
    have b := h2' k1 hk1 _ h3
    omega
theorem set2_set2 {φ : Str → MK → Option Int} {n : Str} {k : MK} {v v' : Option Int} : set2 (set2 φ n k v) n k v' = set2 φ n k v' := by
  funext n' k'
  unfold set2
  by_cases h : n' = n ∧ k' = k <;> simp [h]
def enc (v : Int) : Option Int := if v = 0 then none else some v
def NZ (φ : Str → MK → Option Int) : Prop := ∀ n k, φ n k ≠ some 0
theorem enc_get {φ : Str → MK → Option Int} (h : NZ φ) (n : Str) (k : MK) : enc ((φ n k).getD 0) = φ n k := by
  unfold enc
  cases hv : φ n k with
  | none => simp
  | some v =>
    have : v ≠ 0 := fun e => h n k (by rw [hv, e])
    simp [this]
theorem set2_self {φ : Str → MK → Option Int} {n : Str} {k : MK} : set2 φ n k (φ n k) = φ := by
  funext n' k'
  unfold set2
  by_cases h : n' = n ∧ k' = k
  · simp [h]
  · simp [h]
/-- how far a level asked for is reached, and whether the asking ends in BusyError -/
def lockEx (m lev H : Int) : Int := if 3 ≤ lev then (if lev = 4 ∧ ¬ 1 ≤ H then 4 else 3) else m
def lockUp (m lev H : Int) : Int := if 2 ≤ lev ∧ m < 2 then (if 2 ≤ H then m else lockEx 2 lev H) else lockEx m lev H
def lockTo (mine lev H : Int) : Int := if lev ≤ mine then mine else if mine = 0 then (if 3 ≤ H then 0 else lockUp 1 lev H) else lockUp mine lev H
def noEx (lev H : Int) : Bool := decide (3 ≤ lev ∧ lev = 4 ∧ 1 ≤ H)
def noUp (m lev H : Int) : Bool := if 2 ≤ lev ∧ m < 2 then (if 2 ≤ H then true else noEx lev H) else noEx lev H
def lockNo (mine lev H : Int) : Bool := if lev ≤ mine then false else if mine = 0 then (if 3 ≤ H then true else noUp 1 lev H) else noUp mine lev H
theorem Keep.two {X : List (Addr × Obj)} {A A' : List Addr} {X' : List (Addr × Obj)} {a b : Addr × Obj} (h : Keep (a :: b :: X) A X' A') : Keep X A X' A' := fun p hp => h p (.tail _ (.tail _ hp))
theorem sub2 {α : Type} {X : List α} {a b : α} : ∀ p ∈ X, p ∈ a :: b :: X := fun _ hp => .tail _ (.tail _ hp)
end Mine
end

/-! part LW -/
section
open PySem PySem.W PyProof.Rows PySem.Spec PySem.Calls
set_option maxRecDepth 100000
namespace Mine
section
variable {prog : Program} {w : World} {K : Type} [DecidableEq K] {knd : KeyKind prog w K} {A : Around} {E : Value → Shared → Prop} {s : Shared} {h₀ : Heap} {L d : Addr} {m : Str → Option Value} {news : List (Addr × Obj)} {o : Obj} {kvs : List (K × Value)}
theorem L_dict {Q : Value → Shared → Prop} (F : Fr h₀ L s.heap m) (N : News h₀ L s.heap news) (hbig : h₀.NoLimit) (hm : (d, o) ∈ news) (hD : o.IsDictOf knd kvs) (lo : (d == sysModules) = false) (hsz : kvs.length ≤ sizeLine)
    (k : ∀ d' h' o', Fr h₀ L h' m → News h₀ L h' ((d', o') :: news) → (∀ p ∈ news, p.1 < d') → (d' == sysModules) = false → o'.IsDictOf knd kvs → Q (.ref d') { s with heap := h' }) :
    wpAny (model prog w) A (call (.type "dict") [.ref d]) Q E s := by
  refine kt_call_dict lo (dictAt_news N hm hD) hsz fun h' hmm hs => ?_
  obtain ⟨o', ho', hd'⟩ := Heap.dictOf_iff.mp hmm
  have N1 := News.push F N { cls := .type "dict", data := .dict #[] }
  exact k _ h' o' ((F.push _).change hs (N1 _ (.head _)).2.1 (N1.fresh (.head _))) (N1.setHead N.apart hs ho') (fun p hp => Heap.lt_size (N p hp).1) (F.notModules (modules_low hbig)) hd'
end

/-- what a turn leaves: the ledger turned at addresses that it had -/
def DEnd (h₀ : Heap) (L : Addr) (x : Str) (m₀ : Str → Option Value) (J : List (Addr × Obj) → Prop) (own news₁ : List (Addr × Obj)) (s₁ s₂ : Shared) : Prop :=
  ∃ h' tk m' news', s₂ = { s₁ with heap := h', toks := tk } ∧ Fr h₀ L h' m' ∧ News h₀ L h' (own ++ news') ∧ J news' ∧ (∀ p ∈ news', ∃ q ∈ news₁, q.1 = p.1) ∧ ∀ z, z ≠ x → m' z = m₀ z
def DPost (h₀ : Heap) (L : Addr) (x : Str) (m₀ : Str → Option Value) (J : List (Addr × Obj) → Prop) (own news₁ : List (Addr × Obj)) (s₁ : Shared) (Q : Flow → Shared → Prop) (f : Flow) (s₂ : Shared) : Prop :=
  match f with
  | .ret v => Q (.ret v) s₂
  | .brk => Q .next s₂
  | _ => DEnd h₀ L x m₀ J own news₁ s₁ s₂

section
variable {prog : Program} {w : World} {K : Type} [DecidableEq K] {knd : KeyKind prog w K} {A : Around} {E : Value → Shared → Prop} {s : Shared} {env : Env} {h₀ : Heap} {x : Str} {body : List Stmt} {Q : Flow → Shared → Prop}
/-- a for over a dict whose body turns other objects of the ledger -/
theorem iter_dictD {d : Addr} {o : Obj} {kvs : List (K × Value)} {m₀ : Str → Option Value} {news : List (Addr × Obj)} (J : Nat → List (Addr × Obj) → Prop)
    (hh : A.handled = none) (lo : (d == sysModules) = false) (F : Fr h₀ env.locals s.heap m₀) (N : News h₀ env.locals s.heap news) (hm : (d, o) ∈ news) (hD : o.IsDictOf knd kvs) (hj : J 0 news)
    (turn : ∀ i k v key news₁ h tk own, kvs[i]? = some (k, v) → knd.is k key = true → J i news₁ → (∀ p ∈ own, p.1 = d ∨ ∀ q ∈ news₁, q.1 ≠ p.1) → h.DictOf knd d kvs → Fr h₀ env.locals h (fun y => if y = x then some key else m₀ y) → News h₀ env.locals h (own ++ news₁) →
      wpAny (model prog w) A (execs body env) (DPost h₀ env.locals x m₀ (J (i + 1)) own news₁ { s with heap := h, toks := tk } Q) E { s with heap := h, toks := tk })
    (done : ∀ u news₁ h tk, J kvs.length news₁ → Fr h₀ env.locals h (fun y => if y = x then u else m₀ y) → News h₀ env.locals h news₁ → Q .next { s with heap := h, toks := tk }) :
    wpAny (model prog w) A (pyIter (.ref d)) (fun it s₂ => LoopAtV prog w A h₀ env x body Q E it s₂) E s := by
  have hDD : s.heap.DictOf knd d kvs := Heap.dictOf_iff.mpr ⟨o, (N _ hm).1, hD⟩
  obtain ⟨ep, hDA⟩ := hDD.dictAt
  have hlt : d < s.heap.objs.size := hDA.lt_size
  have hne : d ≠ s.heap.objs.size := Nat.ne_of_lt hlt
  refine wpAny_pyIter_dict lo hDA ?_
  have W := Walks.dictKeys (prog := prog) (w := w) (knd := knd) hh s.heap.objs.size d hne kvs ep
  let J' : Nat → (Str → Option Value) → List (Addr × Obj) → Prop := fun i m₁ news₁ => J i news₁ ∧ (∀ p ∈ news₁, ∃ q ∈ news, q.1 = p.1) ∧ ∀ z, z ≠ x → m₁ z = m₀ z
  have hfr : ∀ (u : Option Value) (m₁ : Str → Option Value), (∀ z, z ≠ x → m₁ z = m₀ z) → (fun y => if y = x then u else m₁ y) = fun y => if y = x then u else m₀ y := fun u m₁ hz => funext fun y => by
    by_cases h : y = x
    · simp [h]
    · simp only [if_neg h]; exact hz y h
  refine ⟨_, _, _, kvs.length, _, _, m₀, news, J', rfl, W, ?_, ?_, ?_, ⟨⟨_, Heap.get?_push_size _ rfl, rfl, rfl⟩, hDA.push _⟩, F.push _, (fun p hp => ⟨Heap.get?_push_of_some _ (N p hp).1, (N p hp).2⟩), ⟨hj, fun p hp => ⟨p, hp, rfl⟩, fun _ _ => rfl⟩, ?_, ?_⟩
  · intro hm'
    rcases List.mem_cons.mp hm' with e | hm'
    · exact absurd F.ns.lt (e ▸ Nat.lt_irrefl _)
    · exact (N _ hm).2.1 (List.mem_singleton.mp hm').symm
  · intro b hb
    rw [List.mem_singleton.mp hb]
    exact next_is_new F
  · intro p hp hI
    exact absurd (Heap.lt_size (N p hp).1) ((List.mem_singleton.mp hI) ▸ Nat.lt_irrefl _)
  · rintro i v m₁ news₁ s₁ own ⟨hh', tk', rfl⟩ hin hP ⟨hJ, hadr, hz⟩ hoff hown _ _ hst F₁ N₁
    obtain ⟨k, y, hx, hkey⟩ := hP
    rw [hfr _ _ hz] at F₁
    have hsep : ∀ p ∈ own, p.1 = d ∨ ∀ q ∈ news₁, q.1 ≠ p.1 := by
      intro p hp
      rcases List.mem_cons.mp (hown p hp) with h1 | h1
      · right
        intro q hq e
        exact hoff q hq (by rw [e, h1]; exact .head _)
      · exact .inl (List.mem_singleton.mp h1)
    refine wpAny_mono (turn i k y v news₁ hh' tk' own hx hkey hJ hsep hst.2.dictOf F₁ N₁) (fun f s₂ p => ?_) fun _ _ e => e
    have fin : DEnd h₀ env.locals x m₀ (J (i + 1)) own news₁ { s with heap := hh', toks := tk' } s₂ → LoopStepU h₀ env.locals [s.heap.objs.size] own (J' (i + 1)) { s with heap := hh', toks := tk' } .next s₂ := by
      rintro ⟨h', tk, m', news', e, F', N', hJ', ha', hz'⟩
      refine ⟨rfl, h', tk, m', news', e, F', N', fun p hp hb => ?_, hJ', fun p hp => ?_, hz'⟩
      · obtain ⟨q, hq, e⟩ := ha' p hp
        exact hoff q hq (e ▸ hb)
      · obtain ⟨q, hq, e⟩ := ha' p hp
        obtain ⟨r, hr, e'⟩ := hadr q hq
        exact ⟨r, hr, e'.trans e⟩
    cases f with
    | ret v => exact .ret p
    | brk => exact .brk p
    | next => exact .next (fin p)
    | cont => exact .cont (fin p)
  · rintro h' tk m' news' F' N' _ ⟨hJ, _, hz⟩
    refine done (m' x) news' h' tk hJ ?_ N'
    have := hfr (m' x) m' hz
    rw [← this]
    have e : (fun y => if y = x then m' x else m' y) = m' := funext fun y => by by_cases h : y = x <;> simp [h]
    rw [e]; exact F'
end
theorem upd_append {X Y : List (Addr × Obj)} {a : Addr} {o : Obj} (h : ∀ p ∈ X, p.1 ≠ a) : upd (X ++ Y) a o = X ++ upd Y a o := by
  unfold upd
  rw [List.map_append]
  congr 1
  conv => rhs; rw [← List.map_id X]
  exact List.map_congr_left fun p hp => if_neg (h p hp)

theorem pairs_uniq {prog : Program} {w : World} {K : Type} [DecidableEq K] {knd : KeyKind prog w K} : ∀ {es : List DictEntry} {kvs kvs' : List (K × Value)}, Pairs knd es kvs → Pairs knd es kvs' → kvs = kvs'
  | _, _, _, .nil, .nil => rfl
  | _, _, _, .cons (kv := kv) h1 h2 t, .cons (kv := kv') h1' h2' t' => by
    rw [pairs_uniq t t']
    obtain ⟨k, v⟩ := kv
    obtain ⟨k', v'⟩ := kv'
    have e1 : k = k' := knd.inj _ _ _ h1 h1'
    have e2 : v = v' := h2.symm.trans h2'
    rw [e1, e2]
theorem isDictOf_uniq {prog : Program} {w : World} {K : Type} [DecidableEq K] {knd : KeyKind prog w K} {o : Obj} {kvs kvs' : List (K × Value)} (h : o.IsDictOf knd kvs) (h' : o.IsDictOf knd kvs') : kvs = kvs' := by
  obtain ⟨es, ep, _, hd, _, hp, _⟩ := h
  obtain ⟨es', ep', _, hd', _, hp', _⟩ := h'
  rw [hd] at hd'
  injection hd' with e1 e2
  subst e1
  exact pairs_uniq hp hp'
def cutPhi (φ : Str → MK → Option Int) (k : MK) (l : List Str) : Str → MK → Option Int := fun n' k' => if k' = k ∧ n' ∈ l then none else φ n' k'
theorem cut_nil {φ : Str → MK → Option Int} {k : MK} : cutPhi φ k [] = φ := by
  funext n' k'
  unfold cutPhi
  simp
theorem cut_snoc {φ : Str → MK → Option Int} {k : MK} {l : List Str} {n : Str} : cutPhi φ k (l ++ [n]) = set2 (cutPhi φ k l) n k none := by
  funext n' k'
  unfold cutPhi set2
  by_cases h1 : n' = n <;> by_cases h2 : k' = k <;> simp [h1, h2]
theorem LTP.cong {prog : Program} {w : World} {X : List (Addr × Obj)} {lk dx lv sl tm : Addr} {S M : List Addr} {t1 t2 t3 : Tok} {n : Nat} {φ g φ' g' : Str → MK → Option Int} (H : LTP prog w X lk dx lv sl tm S M t1 t2 t3 n φ g) (h1 : φ = φ') (h2 : g = g') : LTP prog w X lk dx lv sl tm S M t1 t2 t3 n φ' g' := h1 ▸ h2 ▸ H
theorem upd_addr {X : List (Addr × Obj)} {a : Addr} {o : Obj} : ∀ p ∈ upd X a o, ∃ q ∈ X, q.1 = p.1 := by
  intro p hp
  rcases mem_upd hp with ⟨e, o', ho'⟩ | ⟨h, _⟩
  · exact ⟨_, ho', by rw [e]⟩
  · exact ⟨p, h, rfl⟩
theorem strKind_shape {prog : Program} {w : World} {k : Str} {v : Value} (h : (PySem.strKind prog w).is k v = true) : ∃ t, v = .str k t := by
  cases v with
  | str y t =>
    have : y = k := by simpa [PySem.strKind, Value.isStrOf] using h
    exact ⟨t, by rw [this]⟩
  | _ => simp [PySem.strKind, Value.isStrOf] at h
theorem cut_all {T : Tab} {φ : Str → MK → Option Int} {k : MK} (hφ : ∀ n k, tabAt T n k = φ n k) : cutPhi φ k ((T.map (·.1)).take T.length) = fun n' k' => if k' = k then none else φ n' k' := by
  funext n' k'
  rw [List.take_of_length_le (by rw [List.length_map]; exact Nat.le_refl _)]
  unfold cutPhi
  by_cases h2 : k' = k
  · by_cases h1 : n' ∈ T.map (·.1)
    · simp [h1, h2]
    · rw [if_neg (fun q => h1 q.2), if_pos h2, ← hφ]
      unfold tabAt
      have : T.find? (fun e => decide (e.1 = n')) = none := by
        rw [List.find?_eq_none]
        intro x hx h
        exact h1 (List.mem_map.mpr ⟨x, hx, by simpa using h⟩)
      rw [this]; rfl
  · simp [h2]
end Mine
end

/-! part LU -/
section
open PySem PySem.W PyProof.Rows PySem.Spec PySem.Calls
set_option maxRecDepth 100000
namespace Mine

/-- a call of a def that catches: the frames below come back with turned slots -/
def SpecT (prog : Program) (w : World) (D : Nat) (f : Addr) (vs : List Value) (X : List (Addr × Obj)) (R : Value → List (Addr × Obj) → Prop) : Prop :=
  ∀ (p : Program) (loose : List Str) (mean : ExcName → Option Value) (mg mb : Str → Option Value) (dp un : Nat) (gd : Option (List Code)) (cn : Str) (cs : Scope) (a : Addr) (ccd : Value) (cl : List (Str × Addr)) (outer : List Env) (A₀ : Around) (base h₀ : Heap) (L : Addr) (m : Str → Option Value) (s : Shared) (Q E : Value → Shared → Prop),
    Below A₀ base outer h₀ → Fr h₀ L s.heap m → (kk w.params).In h₀ → News h₀ L s.heap X → Top p loose mean mg mb h₀ → (kk w.params).In base → Top p loose mean mg mb base → KtsDicts (outer.filterMap (·.frame)) h₀ → cs.kind = .function → dp + D < recursionLimit → un + 10 * D < cLine →
    (∀ r X' h' tk' g₀, KtsTurn (outer.filterMap (·.frame)) h₀ g₀ → Fr g₀ L h' m → News g₀ L h' X' → Below A₀ base outer g₀ → (kk w.params).In g₀ → Top p loose mean mg mb g₀ → KtsDicts (outer.filterMap (·.frame)) g₀ → R r X' → Q r { s with heap := h', toks := tk' }) →
    wpAny (model prog w) (ktrTop dp un gd cn cs L a ccd cl outer) (call (.ref f) vs) Q E s

section
variable {prog : Program} {w : World} {A₀ : Around} {E : Value → Shared → Prop} {s' : Shared} {base g G : Heap} {outer : List Env} {L a e C : Addr} {m : Str → Option Value} {name : Str} {scope : Scope} {cd : Value}
  {b₀ : Stmt} {suite : List Stmt} {pos np : Pos} {rest : List ExceptHandler} {Q : Flow → Shared → Prop} {news : List (Addr × Obj)} {KF : Frag}
  {p : Program} {loose : List Str} {mean : ExcName → Option Value} {mg mb : Str → Option Value} {x : Str}
theorem caught_own (R : RaisedSN base G (envOf name scope L a cd :: outer) e (.ref C) news s'.heap) (F : Fr g L G m) (K : Below A₀ base outer g) (hsm : G.UpToSlots s'.heap) (XB : KF.In base) (TB : Top p loose mean mg mb base)
    (D : KtsDicts (outer.filterMap (·.frame)) g) (ex : nsIn KF mainGlobals x = some (some (.ref C))) (q : ktsIn KF C "BaseException" = true)
    (k : ∀ h' g', KtsTurn (outer.filterMap (·.frame)) g g' → Fr g' L h' m → News g' L h' news → Below A₀ base outer g' → KF.In g' → Top p loose mean mg mb g' → KtsDicts (outer.filterMap (·.frame)) g' →
      wpAny (model prog w) ((A₀.deeper (envOf name scope L a cd)).mark (some (.ref e))) (execs (b₀ :: suite) (envOf name scope L a cd)) Q E { s' with heap := h' })
    (hk : scope.kind = .function := by rfl) (hx : (envOf name scope L a cd).kindOf x = some .globalImplicit := by rfl) (hd : (x == ("__debug__" : Str)) = false := by decide)
    (hE : PassesOwnAt (model prog w) ((A₀.deeper (envOf name scope L a cd)).mark (some (.ref e))) (A₀.deeper (envOf name scope L a cd)) (envOf name scope L a cd) E := by passes_own) :
    wpAny (model prog w) (A₀.deeper (envOf name scope L a cd)) (noteFrame (.ref e) (envOf name scope L a cd))
      (fun _ s₂ => wpAny (model prog w) (A₀.deeper (envOf name scope L a cd)) (setFlight (.ref e) none) (fun _ s₃ =>
        wpAny (model prog w) (A₀.deeper (envOf name scope L a cd)) (handleBy (.ref e) (envOf name scope L a cd) (.ExceptHandler (some (.Name x np)) none (b₀ :: suite) pos :: rest)) Q E s₃) E s₂) E s' := by
  obtain ⟨B, a0, hB, hBG, hl, hfl⟩ := R
  have hL : B.get? L = none := by
    obtain ⟨_, ⟨L', _, hf, hn', _⟩, _⟩ := hfl.2.2.1
    obtain rfl : L = L' := Option.some.inj hf
    exact hn'
  refine wpAny_looks_onW (Around.frames_deeper K.stack) rfl hfl fun h₄ hheld₄ hsm₄ => ?_
  refine wpAny_landsW hheld₄ fun h₅ hheld hsm₅' => ?_
  have up5 := hsm.trans (hsm₄.trans hsm₅')
  obtain ⟨g₅, T₅, F₅, K₅⟩ := kts_ground K F hBG hheld.1 up5
  have X₅ : KF.In g₅ := XB.keeps K₅.stays
  have P₅ : TopRead p loose mg mb g₅ := topRead_of (TB.keeps K₅.stays)
  obtain ⟨ob, hob, hobc⟩ := hheld.there
  obtain ⟨nm, q', N, bs, bm, hdct, sn, sub, ab, col, dd, k0, k1, k2, k3, k5, newId, hC, hbase, hbT⟩ := kts_cls X₅ q
  refine wpAny_handleBy_cons (codeAny_handlers_test (name_K F₅ X₅ P₅ ex ?_ hk hx hd)) (by intro q; cases q)
  refine wpAny_excMatches_sub_self (F₅.keep _ _ hC) hob hobc hbase (codeAny_handlers_suite ?_)
  refine lands_againW hheld fun h₆ hfl₆ hsm₆ => ?_
  obtain ⟨g₆, T₆, F₆, K₆⟩ := kts_ground K F hBG hfl₆.1 (up5.trans hsm₆)
  have Nl : News g₆ L h₆ news := fun q hq => ⟨hfl₆.1 _ _ (hl q hq).1, (fun z => by have := (hl q hq).1; rw [z, hL] at this; cases this), T₆.none_ _ (kts_none F.keep (hl q hq).2.1)⟩
  exact wpAny_passesOwnAt hE (k h₆ g₆ T₆ F₆ Nl K₆ (XB.keeps K₆.stays) (TB.keeps K₆.stays) (D.turn T₆))
end
section
variable {prog : Program} {w : World} {D : Nat} {f : Addr} {vs : List Value} {X : List (Addr × Obj)} {R : Value → List (Addr × Obj) → Prop} {p : Program} {loose : List Str} {mean : ExcName → Option Value} {mg mb : Str → Option Value}
  {dp un : Nat} {gd : Option (List Code)} {cn : Str} {cs : Scope} {a : Addr} {ccd : Value} {cl : List (Str × Addr)} {outer : List Env} {A₀ : Around} {base h₀ : Heap} {L : Addr} {m : Str → Option Value} {s : Shared} {Q E : Value → Shared → Prop}
theorem use_specT (C : SpecT prog w D f vs X R) (B : Below A₀ base outer h₀) (F : Fr h₀ L s.heap m) (KX : (kk w.params).In h₀) (N : News h₀ L s.heap X) (T : Top p loose mean mg mb h₀) (XB : (kk w.params).In base) (TB : Top p loose mean mg mb base) (KD : KtsDicts (outer.filterMap (·.frame)) h₀) (hk : cs.kind = .function) (hd : dp + D < recursionLimit) (hu : un + 10 * D < cLine)
    (h : ∀ r X' h' tk' g₀, KtsTurn (outer.filterMap (·.frame)) h₀ g₀ → Fr g₀ L h' m → News g₀ L h' X' → Below A₀ base outer g₀ → (kk w.params).In g₀ → Top p loose mean mg mb g₀ → KtsDicts (outer.filterMap (·.frame)) g₀ → R r X' → Q r { s with heap := h', toks := tk' }) :
    wpAny (model prog w) (ktrTop dp un gd cn cs L a ccd cl outer) (call (.ref f) vs) Q E s := C _ _ _ _ _ _ _ _ _ _ _ _ _ _ _ _ _ _ _ _ _ _ B F KX N T XB TB KD hk hd hu h
end

section
variable {prog : Program} {w : World} {A A₀ : Around} {s : Shared} {K : Frag} {L : Addr} {h₀ base g₀ : Heap} {m mg mb : Str → Option Value} {news : List (Addr × Obj)} {p : Program} {loose : List Str} {mean : ExcName → Option Value}
  {env : Env} {outer : List Env}
  {R : Result → Shared → Prop} {name qual : Str} {params : Arguments} {body : List Stmt} {scope : Scope} {dV kV doc pm cdv ct oc : Value} {an od : Option Addr} {osl : Array (Option Value)} {f : Addr} {args : Args} {binds : List (Str × Value)}
theorem memX {b : Addr} (hf : env.frame = some L) (hm : b ∈ (env :: outer).filterMap (·.frame)) : b = L ∨ b ∈ outer.filterMap (·.frame) := by
  obtain ⟨e, he, hb⟩ := List.mem_filterMap.mp hm
  rcases List.mem_cons.mp he with rfl | he
  · exact .inl (Option.some.inj (hf.symm.trans hb)).symm
  · exact .inr (List.mem_filterMap.mpr ⟨e, he, hb⟩)
/-- the ground of a call, whatever names the caller holds in cells -/
theorem enterX (B : Below A₀ base outer h₀) (F : Fr h₀ L s.heap m) (N : News h₀ L s.heap news) (hA : A.frames = some (env :: outer)) (hf : env.frame = some L) (hke : env.scope.kind = .function) :
    ∃ oL es ep, (hideAll s.heap (news.map (·.1))).get? L = some oL ∧ oL.data = .dict es ep ∧ (∀ h', h'.get? L = some oL → Heap.Ns h' L m) ∧ (∀ (sl : Array (Option Value)) h', h'.get? L = some { oL with slots := sl } → Heap.Ns h' L m) ∧
      h₀.StaysIn (hideAll s.heap (news.map (·.1))) ∧ Below A base (env :: outer) (hideAll s.heap (news.map (·.1))) := by
  obtain ⟨_, BG, st, _⟩ := groundX (R := fun _ _ => True) B F N hA hf hke
  obtain ⟨oL, es, ep, hL, hLd, hLk, hLf⟩ := F.ns
  have nL : L ∉ news.map (·.1) := fun q => by
    obtain ⟨x, hx, e⟩ := List.mem_map.mp q
    exact (N x hx).2.1 e
  exact ⟨oL, es, ep, hideAll_get _ hL nL, hLd, fun h' e => ⟨oL, es, ep, e, hLd, hLk, hLf⟩, fun sl h' e => ⟨_, es, ep, e, hLd, hLk, hLf⟩, st, BG⟩
/-- the way back from a call that may have turned the ground -/
theorem leaveS_back {g : Heap} {oL : Obj} {v : Value} {s' : Shared} (hf : env.frame = some L) (hg : g.get? L = some oL) (hN : ∀ h', h'.get? L = some oL → Heap.Ns h' L m) (hNs : ∀ (sl : Array (Option Value)) h', h'.get? L = some { oL with slots := sl } → Heap.Ns h' L m)
    (st : h₀.StaysIn g) (F : Fr h₀ L s.heap m) (B : Below A₀ base outer h₀) (XB : K.In base) (TB : Top p loose mean mg mb base) (D : KtsDicts (outer.filterMap (·.frame)) h₀) (T0 : KtsTurn (outer.filterMap (·.frame)) g₀ h₀)
    (hl : LeaveS ((env :: outer).filterMap (·.frame)) A₀ base outer K p loose mean mg mb g₀ h₀ L m g R v s') : R (.ok (.ret v)) s' := by
  have nL : h₀.get? L = none := kts_self F
  have none_of : ∀ b, g.get? b = none → h₀.get? b = none := fun b q => by
    cases e : h₀.get? b with
    | none => rfl
    | some o => rw [st b o e] at q; cases q
  rcases hl with ⟨L', m', news', F', N', k⟩ | ⟨g', L', m', news', T', F', N', k⟩
  · exact k ⟨hN _ (F'.keep _ _ hg), fun b o e => F'.keep b o (st b o e), F.above⟩ fun q hq => ⟨(N' q hq).1, fun e => (by have z := (N' q hq).2.2; rw [e, hg] at z; cases z), none_of _ (N' q hq).2.2⟩
  obtain ⟨sl, hs⟩ := T'.up hg
  have other : ∀ b o, h₀.get? b = some o → b ∉ outer.filterMap (·.frame) → s'.heap.get? b = some o := fun b o e nm => F'.keep b o (T'.other b o (st b o e) fun q => by
    rcases memX hf q with z | z
    · rw [z, nL] at e; cases e
    · exact nm z)
  have turned : ∀ b o, h₀.get? b = some o → b ∈ outer.filterMap (·.frame) → ∃ sl, s'.heap.get? b = some { o with slots := sl } := fun b o e _ =>
    let ⟨sl', hs'⟩ := T'.up (st b o e); ⟨sl', F'.keep _ _ hs'⟩
  obtain ⟨T₁, S₁⟩ := kts_turn_at (h := s'.heap) (fs := outer.filterMap (·.frame)) (g := h₀) (fun b hb => let ⟨_, o, ho', _⟩ := B.frames.mem hb; ⟨o, ho'⟩) other turned
  have B₃ : Below A₀ base outer (ktsHeap s'.heap (outer.filterMap (·.frame)) h₀) := ⟨B.stack, fun b o e => T₁.other b o (B.stays b o e) (fun hm => by
    rw [(B.frames.mem hm).1] at e; cases e), B.frames.of_keeps fun b o e _ => let ⟨_, hs'⟩ := T₁.up e; ⟨_, hs', rfl⟩⟩
  refine k _ (T0.trans T₁) ⟨hNs sl _ (F'.keep _ _ hs), S₁, by rw [T₁.size]; exact F.above⟩ (fun q hq => ⟨(N' q hq).1, fun e => ?_, ?_⟩) B₃ (XB.keeps B₃.stays) (TB.keeps B₃.stays) (D.turn T₁)
  · have z := (N' q hq).2.2; rw [e, hs] at z; cases z
  · refine T₁.none_ _ ?_
    cases e : h₀.get? q.1 with
    | none => rfl
    | some o =>
      obtain ⟨sl', hs'⟩ := T'.up (st _ _ e)
      have z := (N' q hq).2.2
      rw [hs'] at z; cases z
theorem dictsX {g : Heap} {oL : Obj} {es : Array DictEntry} {ep : Nat} (hf : env.frame = some L) (st : h₀.StaysIn g) (D : KtsDicts (outer.filterMap (·.frame)) h₀) (hg : g.get? L = some oL) (hd : oL.data = .dict es ep) : KtsDicts ((env :: outer).filterMap (·.frame)) g := fun b hb => by
  rcases memX hf hb with rfl | hb
  · exact ⟨oL, es, ep, hg, hd⟩
  · obtain ⟨o, es', n', ho', hd'⟩ := D b hb
    exact ⟨o, es', n', st b o ho', hd'⟩
/-- a call of a def that may turn the ground, whatever names the caller holds in cells -/
theorem code_SX (B : Below A₀ base outer h₀) (F : Fr h₀ L s.heap m) (X₀ : K.In h₀) (N : News h₀ L s.heap news) (T : Top p loose mean mg mb h₀) (XB : K.In base) (TB : Top p loose mean mg mb base) (D : KtsDicts (outer.filterMap (·.frame)) h₀)
    (T0 : KtsTurn (outer.filterMap (·.frame)) g₀ h₀) (hA : A.frames = some (env :: outer)) (hf : env.frame = some L) (hck : env.scope.kind = .function)
    (ho : K.lookup f = some ⟨oc, od, .func (fnOf name qual params body scope dV kV doc pm an cdv ct), osl⟩) (hcd : codeIn K cdv qual = true) (hroom : A.depth < recursionLimit)
    (hbind : BindsTo s (fnOf name qual params body scope dV kV doc pm an cdv ct) args binds) (hloc : ∀ y ∈ binds, scope.names.lookup y.1 = some .local)
    (h : ∀ g L' h₁, Fr h₀ L g m → Fr g L' h₁ (fun y => binds.reverse.lookup y) → News g L' h₁ news → Below A base (env :: outer) g → K.In g → Top p loose mean mg mb g → KtsDicts ((env :: outer).filterMap (·.frame)) g →
      wpAny (model prog w) (A.deeper (envOf qual scope L' f cdv)) (execs body (envOf qual scope L' f cdv))
        (fun fl s' => LeaveS ((env :: outer).filterMap (·.frame)) A₀ base outer K p loose mean mg mb g₀ h₀ L m g R (match fl with | .ret v => v | _ => .none) s')
        (fun e s' => wpAny (model prog w) (A.deeper (envOf qual scope L' f cdv)) (leaving (envOf qual scope L' f cdv) e) (fun _ s'' => R (.error e) s'') (fun e' s'' => R (.error e') s'') s')
        { s with heap := h₁, toks := s.toks + binds.length })
    (hco : scope.isCoroutine = false) (hgen : scope.isGenerator = false) (hk : scope.kind = .function)
    (hcell : ∀ x ∈ scope.names, x.2 ≠ .cell) : codeAny (model prog w) A (.call (.ref f) args) R s := by
  refine codeAny_call_def (fd := fnOf name qual params body scope dV kV doc pm an cdv ct) (body := body) (binds := binds) hroom ((X₀.keeps F.keep) _ _ ho) rfl (T.nolimit.keeps F.keep) (codeRec_of (X₀.keeps F.keep) hcd) rfl hbind hcell hloc (fun h₁ hns hk₁ => ?_) hco hgen hk
  obtain ⟨oL, es, ep, hLg, hLd, hN, hNs, st, B₂⟩ := enterX B F N hA hf hck
  exact wpAny_mono (h _ s.heap.objs.size h₁ ⟨hN _ hLg, st, F.above⟩ ⟨hns, fun b o e => hk₁ b o (of_hideAll _ e), Nat.le_of_eq (hideAll_size _ _)⟩
    (fun q hq => ⟨hk₁ _ _ (N q hq).1, Nat.ne_of_lt (Heap.lt_size (N q hq).1), hideAll_none _ (List.mem_map_of_mem hq)⟩) B₂ (X₀.keeps st) (T.keeps st) (dictsX hf st D hLg hLd)) (fun fl s' hl => leaveS_back hf hLg hN hNs st F B XB TB D T0 hl) fun _ _ y => y
end

section
variable {prog : Program} {w : World} {A : Around} {E : Value → Shared → Prop} {s : Shared} {h₀ : Heap} {L l : Addr} {m : Str → Option Value} {news : List (Addr × Obj)} {its : Array Value} {n : Nat} {k : Int} {t : Tok} {v : Value}
theorem L_setlist {Q : Unit → Shared → Prop} (F : Fr h₀ L s.heap m) (N : News h₀ L s.heap news) (hm : (l, W.listOf its n) ∈ news) (h0 : 0 ≤ k) (hfit : k < 2 ^ 63) (hn : k < its.size)
    (h : ∀ h', Fr h₀ L h' m → News h₀ L h' (upd news l (W.listOf (its.setIfInBounds k.toNat v) n)) → Q () { s with heap := h' }) :
    wpAny (model prog w) A (setItem (.ref l) (.int k t) v) Q E s := by
  refine ki_setAt (N _ hm).1 h0 hfit hn ?_
  have q := IsL.update (N _ hm).1 (fun x => x.setIfInBounds k.toNat v)
  have e : (if (its.setIfInBounds k.toNat v).size == its.size then n else n + 1) = n := by simp
  rw [e] at q
  exact h _ (F.update N hm (Heap.SameBut.update ..)) (news_upd1 N hm (Heap.SameBut.update ..) q)
end
theorem upd_head {X : List (Addr × Obj)} {a : Addr} {o o' : Obj} (h : ∀ p ∈ X, p.1 ≠ a) : upd ((a, o) :: X) a o' = (a, o') :: X := by
  have := upd_append (X := X) (Y := []) (a := a) (o := o') h
  rw [List.append_nil] at this
  unfold upd at this ⊢
  rw [List.map_cons, if_pos rfl, this]
  simp
theorem L_listitem {prog : Program} {w : World} {A : Around} {E : Value → Shared → Prop} {s : Shared} {h₀ : Heap} {L l : Addr} {news : List (Addr × Obj)} {its : Array Value} {n : Nat} {k : Int} {t : Tok} {v : Value} {value slice : PySem.Expr} {Q : Value → Shared → Prop} (N : News h₀ L s.heap news) (hm : (l, W.listOf its n) ∈ news) (h0 : 0 ≤ k) (hfit : k < 2 ^ 63) (hx : its[k.toNat]? = some v) (h : Q v s)
    (hs : subscripted slice false (.ref l) (.int k t) = operate [.ref l, .int k t] (getItem (.ref l) (.int k t)) := by with_unfolding_all rfl) :
    wpAny (model prog w) A (subscriptTail value slice (.ref l) (.int k t)) Q E s :=
  have hl : s.heap.IsList l its := ⟨_, (N _ hm).1, rfl, _, rfl⟩
  tail_any hl.typeIs slot_list_getitem.lookup (wpAny_getItem_list hl h0 hfit hx h) hs
end Mine
end

/-! part C1 -/
section
open PySem PySem.W PyProof.Rows PySem.Spec PySem.Calls
open Sem (wp)
set_option maxRecDepth 100000
namespace Mine
/-- a code that holds octets while it decodes -/
def decoder : Code → Bool
  | .builtin id _ => Builtin.Bytes.decodersThatHold.contains id
  | _ => false
def Calm (l : List (Code × Pos)) : Prop := ∀ q ∈ l, decoder q.1 = false
/-- wpAny, for the contexts that hold no such code -/
def wpC {α : Type} (M : Model) (A : Around) (t : Sem α) (Q : α → Shared → Prop) (E : Value → Shared → Prop) (s : Shared) : Prop :=
  ∀ Γ p, Γ.In A → decoder Γ.code = false → Calm Γ.below → wp M Γ t (fun a _ s' => Q a s') (fun e _ s' => E e s') p s
def codeC (M : Model) (A : Around) (c : Code) (R : Result → Shared → Prop) (s : Shared) : Prop :=
  ∀ Γ p, Γ.code = c → Γ.Below A → Calm Γ.below → wpCode M Γ R p s
theorem calm_enter {Γ : PySem.Ctx} {c : Code} {hd : Option Value} {p : Pos} (h : decoder Γ.code = false) (hb : Calm Γ.below) : Calm (Γ.enter c hd p).below := by
  intro q hq
  rcases List.mem_cons.mp hq with rfl | hq
  · exact h
  · exact hb q hq
section
variable {α β : Type} {M : Model} {A : Around} {E : Value → Shared → Prop} {s : Shared}
theorem wpC_any {t : Sem α} {Q : α → Shared → Prop} (h : wpAny M A t Q E s) : wpC M A t Q E s := fun Γ p hΓ _ _ => h Γ p hΓ
theorem codeC_any {c : Code} {R : Result → Shared → Prop} (h : codeAny M A c R s) : codeC M A c R s := fun Γ p hc hΓ _ => h Γ p hc hΓ
theorem wpC_pure {a : α} {Q : α → Shared → Prop} (h : Q a s) : wpC M A (pure a) Q E s := wpC_any (wpAny_pure h)
theorem wpC_mono {t : Sem α} {Q Q' : α → Shared → Prop} {E' : Value → Shared → Prop} (h : wpC M A t Q E s) (hQ : ∀ a s, Q a s → Q' a s) (hE : ∀ e s, E e s → E' e s) : wpC M A t Q' E' s :=
  fun Γ p hΓ d b => Sem.wp_mono M Γ t (fun a _ s => hQ a s) (fun e _ s => hE e s) p s (h Γ p hΓ d b)
theorem wpC_bind {m : Sem α} {f : α → Sem β} {Q : β → Shared → Prop} (h : wpC M A m (fun a s' => wpC M A (f a) Q E s') E s) : wpC M A (m >>= f) Q E s := fun Γ p hΓ d b => by
  rw [Sem.wp_bind']
  exact Sem.wp_mono M Γ m (fun a p' s' h' => h' Γ p' hΓ d b) (fun _ _ _ h' => h') p s (h Γ p hΓ d b)
theorem wpC_bindA {m : Sem α} {f : α → Sem β} {Q : β → Shared → Prop} (h : wpAny M A m (fun a s' => wpC M A (f a) Q E s') E s) : wpC M A (m >>= f) Q E s := wpC_bind (wpC_any h)
theorem wpC_holding {vs : List Value} {m : Sem α} {Q : α → Shared → Prop} (h : wpC M A m Q E s) : wpC M A (holding vs m) Q E s :=
  fun Γ p hΓ d b => by rw [Sem.wp_holding]; exact h Γ p hΓ d b
theorem wpC_operate {vs : List Value} {m : Sem Value} {Q : Value → Shared → Prop} (h : wpC M A m Q E s) : wpC M A (operate vs m) Q E s :=
  fun Γ p hΓ d b => by rw [Sem.wp_operate]; exact h Γ p hΓ d b
theorem wpC_onRaise {m : Sem α} {k : Value → Sem Unit} {Q : α → Shared → Prop} (h : wpC M A m Q (fun e s' => wpC M A (k e) (fun _ s'' => E e s'') E s') s) : wpC M A (m.onRaise k) Q E s := fun Γ p hΓ d b => by
  rw [Sem.wp_onRaise]
  exact Sem.wp_mono M Γ m (fun _ _ _ h' => h') (fun e p' s' h' => h' Γ p' hΓ d b) p s (h Γ p hΓ d b)
theorem wpC_runValue {c : Code} {Q : Value → Shared → Prop} (hc : codeC M A c (fun r s' => match r with | .ok (.ret v) => Q v s' | .ok _ => False | .error e => E e s') s) : wpC M A (runValue c) Q E s :=
  fun Γ p hΓ d b => by rw [Sem.wp_runValue]; exact hc _ p rfl (hΓ.enter c none p (by intro x; cases x)) (calm_enter d b)
theorem wpC_call {f : Value} {pos : List Value} {kw : List (Str × Value)} {Q : Value → Shared → Prop} (hc : codeC M A (.call f ⟨pos, kw⟩) (fun r s' => match r with | .ok (.ret v) => Q v s' | .ok _ => False | .error e => E e s') s) : wpC M A (call f pos kw) Q E s := wpC_runValue hc
theorem wpC_run {c : Code} {h : Option Value} {Q : Flow → Shared → Prop}
    (hc : codeC M (A.mark h) c (fun r s' => match r with | .ok f => Q f s' | .error e => E e s') s) (hnb : h ≠ some byPass := by intro x; cases x) : wpC M A (run c h) Q E s :=
  fun Γ p hΓ d b => by rw [Sem.wp_run]; exact hc _ p rfl (hΓ.enter c h p hnb) (calm_enter d b)
theorem codeC_mono {c : Code} {R R' : Result → Shared → Prop} (h : codeC M A c R s) (hR : ∀ r s, R r s → R' r s) : codeC M A c R' s := fun Γ p hc hΓ b => wpCode_mono hR (h Γ p hc hΓ b)
/-- where a code's tree ends -/
def FinC (M : Model) (A : Around) (R : Result → Shared → Prop) (fin : Fin) (s' : Shared) : Prop := match fin with
  | .done f => R (.ok f) s'
  | .again c' => c'.quiet = true ∧ codeC M A c' R s'
theorem codeC_of_tree {c : Code} {R : Result → Shared → Prop} (hd : decoder c = false) (h : wpC M (A.under c) (M.den c) (FinC M A R) (fun e s' => R (.error e) s') s) : codeC M A c R s := fun Γ p hc hΓ b => by
  rw [wpCode_iff_wp, hc]
  refine Sem.wp_mono M Γ _ (fun fin p' s' h' => ?_) (fun _ _ _ h' => h') p s (h Γ p (hc ▸ hΓ.in) (hc ▸ hd) b)
  cases fin with
  | done f => exact h'
  | again c' => exact ⟨h'.1, h'.2 (Γ.goto c') p' rfl (hΓ.goto c') b⟩
theorem wpC_stack {Q : List (Code × Pos) → Shared → Prop} (h : ∀ st : List (Code × Pos), (∀ g, A.guards = some g → guardsOf st = g) → Calm st → Q st s) : wpC M A stack Q E s := fun Γ p hΓ d b => by
  show Q ((Γ.code, p) :: Γ.below) s
  refine h _ (fun g hg => by rw [guardsOf_cons]; exact hΓ.2.2.2.1 g hg) (fun q hq => ?_)
  rcases List.mem_cons.mp hq with rfl | hq
  · exact d
  · exact b q hq
theorem guards_no {l : List (Code × Pos)} (h : guardsOf l = []) : ∀ q ∈ l, q.1.isGuard = false := by
  intro q hq
  cases hg : q.1.isGuard with
  | false => rfl
  | true =>
    have : q.1 ∈ guardsOf l := List.mem_filter.mpr ⟨List.mem_map.mpr ⟨q, hq, rfl⟩, hg⟩
    rw [h] at this; cases this
theorem wpC_exported {self : Value} {Q : Bool → Shared → Prop} (hg : A.guards = some []) (h : Q false s) : wpC M A (Builtin.Bytes.exported self) Q E s := by
  unfold Builtin.Bytes.exported
  refine wpC_bind (wpC_stack fun st h1 h2 => wpC_pure ?_)
  have h3 := guards_no (h1 _ hg)
  rw [List.any_eq_false.mpr]
  · exact h
  · intro q hq
    have g3 := h3 q hq
    have g2 := h2 q hq
    obtain ⟨c, pp⟩ := q
    dsimp only at g2 g3 ⊢
    cases c
    case builtin id ar =>
      obtain ⟨ps, kw⟩ := ar
      have n1 : id ≠ "bytearray.__contains__" := by rintro rfl; exact absurd (show guardIds.contains "bytearray.__contains__" = false from g3) (by decide)
      have n2 : id ≠ "bytearray.__mod__" := by rintro rfl; exact absurd (show guardIds.contains "bytearray.__mod__" = false from g3) (by decide)
      have n3 : id ≠ "bytearray.__rmod__" := by rintro rfl; exact absurd (show guardIds.contains "bytearray.__rmod__" = false from g3) (by decide)
      have n4 : id ≠ "_struct.pack_into.held" := by rintro rfl; exact absurd (show guardIds.contains "_struct.pack_into.held" = false from g3) (by decide)
      have n5 : id ≠ "bytearray.find.held" := by rintro rfl; exact absurd (show guardIds.contains "bytearray.find.held" = false from g3) (by decide)
      replace g2 : Builtin.Bytes.decodersThatHold.contains id = false := g2
      delta Builtin.Bytes.exported.match_1
      cases ps
      all_goals (dsimp only; simp only [dif_neg n1, dif_neg n2, dif_neg n3, dif_neg n4, dif_neg n5, g2, Bool.and_false]; exact Bool.false_ne_true)
    all_goals exact Bool.false_ne_true
end
end Mine
end

/-! part C2 -/
section
open PySem PySem.W PyProof.Rows PySem.Spec PySem.Calls
open Sem (wp)
set_option maxRecDepth 100000
set_option maxHeartbeats 4000000
namespace Mine
section
variable {prog : Program} {w : World} {A : Around} {R : Result → Shared → Prop} {s : Shared}
/-- a call of a def: its arguments, its names, then its body -/
theorem codeC_function {a : Addr} {args : Args} {o : Obj} {fd : FuncData} {body : List Stmt} (hroom : A.depth < recursionLimit) (ho : s.heap.get? a = some o)
    (hd' : o.data = .func fd) (hco : fd.scope.isCoroutine = false) (hgen : fd.scope.isGenerator = false) (hbody : fd.body = .stmts body) (hcd : s.heap.CodeRec fd.code fd.qualname)
    (h : wpAny (model prog w) A.in1 (bindArgs fd args) (fun binds s₁ =>
      wpAny (model prog w) A.in1 (newFunctionEnv fd.scope fd.globals fd.closure binds (fd.qualname ++ ".<locals>.") (some a) fd.code none fd.builtins)
        (fun env s₂ => s₂.heap.NoLimit ∧ codeC (model prog w) A (.func body env) R s₂) (fun e s' => R (.error e) s') s₁) (fun e s' => R (.error e) s') s) :
    codeC (model prog w) A (.call (.ref a) args) R s := by
  refine codeC_of_tree rfl (wpC_any ?_)
  show wpAny _ A.in1 (callAny (.ref a) args) _ _ s
  simp only [callAny]
  refine wpAny_bind (wpAny_load ho ?_)
  obtain ⟨c, oc, vs, tq, hc, hoc, hdc, hq⟩ := hcd
  simp only [hd', callFunction, hco, hgen, hbody, hc]
  rw [hc] at h
  refine wpAny_bind (m := field (.ref c) 1) (wpAny_field hoc hdc hq (wpAny_bind (wpAny_pure ?_)))
  exact wpAny_bind (wpAny_mono h (fun binds s₁ h₁ => wpAny_bind (wpAny_mono h₁ (fun env s₂ h₂ => wpAny_bind (wpAny_enterFrame h₂.1 hroom
    (wpAny_pure (And.intro rfl h₂.2)))) fun _ _ h' => h')) fun _ _ h' => h')
theorem codeC_func {body env}
    (h : wpC (model prog w) (A.deeper env) (execs body env) (fun f s' => R (.ok (.ret (match f with | .ret v => v | _ => .none))) s')
      (fun e s' => wpAny (model prog w) (A.deeper env) (leaving env e) (fun _ s'' => R (.error e) s'') (fun e' s'' => R (.error e') s'') s') s) :
    codeC (model prog w) A (.func body env) R s := by
  refine codeC_of_tree rfl ?_
  show wpC _ (A.deeper env) (do point; match ← (execs body env).onRaise (leaving env) with | .ret v => ret v | _ => ret .none) _ _ s
  refine wpC_bindA (wpAny_point (wpC_bind (wpC_onRaise (wpC_mono h (fun f s' h' => ?_) fun _ _ h' => wpC_any h'))))
  cases f <;> exact wpC_pure h'
theorem codeC_def {a : Addr} {o : Obj} {fd : FuncData} {body : List Stmt} {args : Args} {binds : List (Str × Value)}
    (hroom : A.depth < recursionLimit) (ho : s.heap.get? a = some o) (hdata : o.data = .func fd) (hlim : s.heap.NoLimit) (hcd : s.heap.CodeRec fd.code fd.qualname)
    (hbody : fd.body = .stmts body) (hbind : BindsTo s fd args binds)
    (hcell : ∀ x ∈ fd.scope.names, x.2 ≠ .cell) (hloc : ∀ x ∈ binds, fd.scope.names.lookup x.1 = some .local)
    (h : ∀ h₀, h₀.Ns s.heap.objs.size (fun x => binds.reverse.lookup x) → (∀ b o, s.heap.get? b = some o → h₀.get? b = some o) →
      wpC (model prog w) (A.deeper (callEnv fd s.heap.objs.size a)) (execs body (callEnv fd s.heap.objs.size a)) (fun f s' => R (.ok (.ret (match f with | .ret v => v | _ => .none))) s')
        (fun e s' => wpAny (model prog w) (A.deeper (callEnv fd s.heap.objs.size a)) (leaving (callEnv fd s.heap.objs.size a) e) (fun _ s'' => R (.error e) s'') (fun e' s'' => R (.error e') s'') s')
        { s with heap := h₀, toks := s.toks + binds.length })
    (hco : fd.scope.isCoroutine = false := by rfl) (hgen : fd.scope.isGenerator = false := by rfl) (hk : fd.scope.kind = .function := by rfl) :
    codeC (model prog w) A (.call (.ref a) args) R s := by
  refine codeC_function hroom ho hdata hco hgen hbody hcd (hbind _ _ _ _ ?_)
  refine wpAny_newFunctionEnv hcell hloc (fun h₀ hns₀ hsb₀ => ⟨hlim.fresh _ hsb₀, codeC_func (h h₀ hns₀ fun b o e => ?_)⟩) hk
  exact hsb₀.extBut b o (Nat.ne_of_lt (Heap.lt_size e)) (Heap.get?_push_of_some _ e)
/-- a call of a builtin -/
theorem codeC_builtin_at {id : String} {args : Args} {b : Builtin} (hq : (Code.builtin id args).quiet = true) (hdc : decoder (.builtin id args) = false) (hb : entryFor table id = some b)
    (h : wpAny (model prog w) A.in1 (checkBuiltinCall id args) (fun _ s₁ => wpC (model prog w) (A.under (.builtin id args)) (b args) (FinC (model prog w) A R) (fun e s' => R (.error e) s') s₁)
      (fun e s' => R (.error e) s') s) : codeC (model prog w) A (.call (.builtin id) args) R s := by
  refine codeC_of_tree rfl (wpC_any ?_)
  show wpAny _ A.in1 (do checkBuiltinCall id args; again (.builtin id args)) _ _ s
  refine wpAny_bind (wpAny_mono h (fun _ s₁ h₁ => wpAny_pure (And.intro hq (codeC_of_tree hdc ?_))) fun _ _ h' => h')
  show wpC _ _ (match entryFor table id with | some b => b args | none => unsupported ((withoutEnding? id "#data").getD id)) _ _ s₁
  rw [hb]; exact h₁
theorem codeC_builtin {id : String} {args : Args} {b : Builtin} (hdc : decoder (.builtin id args) = false) (hb : entryFor table id = some b)
    (h : wpC (model prog w) (A.under (.builtin id args)) (b args) (FinC (model prog w) A R) (fun e s' => R (.error e) s') s) : codeC (model prog w) A (.builtin id args) R s := by
  refine codeC_of_tree hdc ?_
  show wpC _ _ (match entryFor table id with | some b => b args | none => unsupported ((withoutEnding? id "#data").getD id)) _ _ s
  rw [hb]; exact h
end

section
variable {prog : Program} {w : World} {A : Around} {K : Frag} {C : Addr} {R : Result → Shared → Prop} {h : Heap} {g : Array GenState} {d : Drawn} {t : Nat} {os : OsState}
theorem makeC_core {rest : List Value} {kw : List (Str × Value)} {init : Value} (Y : Makes (model prog w) h C) (hi : Looks (model prog w) h (typeLookup (.ref C) "__init__") (some init))
    (hb : ∀ self, Looks (model prog w) h (bindSpecial init self) (init, [self])) (hne : (some init != some (Value.builtin "object.__init__")) = true ∨ (rest = [] ∧ kw = []))
    (hq : codeC (model prog w) (A.under (.builtin "type.__call__" ⟨.ref C :: rest, kw⟩)) (.call init ⟨.ref (h.objs.size + 1) :: rest, kw⟩) (InitBack (h.objs.size + 1) R) ⟨(h.push emptyDict).push (instObj C h.objs.size), g, d, t, os⟩) :
    codeC (model prog w) A (.call (.ref C) ⟨rest, kw⟩) R ⟨h, g, d, t, os⟩ := by
  have Y' := Y
  obtain ⟨⟨oc, od, cd, sl, hC, e1, e2, e4⟩, made, base, self, top, call, typ⟩ := Y
  refine codeC_of_tree rfl (wpC_any ?_)
  show wpAny _ _ (callAny (.ref C) _) _ _ _
  refine nd_load hC ?_
  show wpAny _ _ (callAny.viaDunder (.ref C) _) _ _ _
  unfold callAny.viaDunder
  refine wpAny_bind (call.at ?_)
  dsimp only
  rw [tc_bind]
  refine wpAny_bind (wpAny_pure (wpAny_bind (wpAny_pure ?_)))
  refine wpAny_pure (a := Fin.again (.call (.builtin "type.__call__") ⟨.ref C :: rest, kw⟩)) (And.intro rfl ?_)
  refine codeC_builtin_at (Code.quiet_builtin _ (by decide +kernel)) (by show Builtin.Bytes.decodersThatHold.contains "type.__call__" = false; decide) entry_typeCall (check_slot tc_kind tc_split typ (tc_args _ _ _) ?_)
  unfold Builtin.«type.__call__»
  have hm : Looks (model prog w) h (mroOf (.ref C)) cd.mro := ((Looks.ld (part := none) hC).andThen .now).andThen .now
  dsimp only
  simp only [show (Value.ref C == Value.type "type") = false from rfl, Bool.false_eq_true, if_false]
  refine wpC_bindA (hm.here ?_)
  simp only [e4, Bool.false_eq_true, if_false]
  refine wpC_bindA (made.here ?_)
  dsimp only
  refine wpC_bindA (wpAny_pure ?_)
  refine wpC_bindA (wpAny_holding (wpAny_call (new_K Y' hi hne ?_)))
  dsimp only
  have k : ∀ b o, h.get? b = some o → ((h.push emptyDict).push (instObj C h.objs.size)).get? b = some o := fun b o e => Heap.get?_push_of_some _ (Heap.get?_push_of_some _ e)
  have hx : ((h.push emptyDict).push (instObj C h.objs.size)).get? (h.objs.size + 1) = some (instObj C h.objs.size) := by heap_get
  have t1 : Looks (model prog w) ((h.push emptyDict).push (instObj C h.objs.size)) (typeOf (.ref (h.objs.size + 1))) (.ref C) := (Looks.ld hx).andThen .now
  have s1 := self.keeps k
  have i1 := hi.keeps k
  have b1 := (hb (.ref (h.objs.size + 1))).keeps k
  have t2 : Looks (model prog w) ((h.push emptyDict).push (instObj C h.objs.size)) (isInstance (.ref (h.objs.size + 1)) (.ref C)) true := t1.andThen s1
  refine wpC_bindA (t2.here ?_)
  simp only [Bool.not_true, Bool.false_eq_true, if_false]
  refine wpC_bind (wpC_holding ?_)
  unfold callSpecial? specialOf
  refine wpC_bindA ((t1.andThen i1).here ?_)
  dsimp only
  refine wpC_holding ?_
  refine wpC_bindA (b1.here ?_)
  dsimp only
  refine wpC_bind (wpC_call (codeC_mono hq fun r s' z => ?_))
  rcases r with e | (v | _ | _ | _) <;> first | exact z | exact z.elim | skip
  obtain ⟨rfl, z⟩ := z
  exact wpC_pure (wpC_pure z)
end
end Mine
end

/-! part C3 -/
section
open PySem PySem.W PyProof.Rows PySem.Spec PySem.Calls
open Sem (wp)
set_option maxRecDepth 100000
set_option maxHeartbeats 4000000
namespace Mine
theorem look_ba_rel : typeLookup (.type "bytearray") (Str.ofString "__release_buffer__") = pure (some (.builtin "bytearray.__release_buffer__")) := by rw [typeLookup_type, builtinLookup_eq_fast]; kernel_rfl
theorem bind_ba : Builtin.Bytes.bindOptional "bytearray.__init__" "bytearray" ["source", "encoding", "errors"] [] [] = pure [none, none, none] := by kernel_rfl
section
variable {prog : Program} {w : World} {A : Around} {E : Value → Shared → Prop} {s : Shared}
theorem any_ba_release {Q : Bool → Shared → Prop} {a : Addr} (ho : s.heap.get? a = some { cls := .type "bytearray", data := .bytearray #[] }) (h : Q false s) :
    wpAny (model prog w) A (Builtin.Bytes.ownRelease (.ref a)) Q E s := by
  unfold Builtin.Bytes.ownRelease Builtin.Bytes.slotIsOwn specialOf
  refine wpAny_bind (wpAny_bind (wpAny_bind (wpAny_typeOf ⟨_, ho, rfl⟩ ?_)))
  rw [look_ba_rel]
  refine wpAny_pure ?_
  have key : ∀ x : String, x = "bytearray" → wpAny (model prog w) A (isInstance (.ref a) (.type x)) (fun a s' => wpAny (model prog w) A (pure (!a)) Q E s') E s := fun x hx => by
    rw [hx]
    unfold isInstance
    refine wpAny_bind (wpAny_typeOf ⟨_, ho, rfl⟩ ?_)
    rw [sub_ba_self]
    exact wpAny_pure (wpAny_pure h)
  dsimp only
  split
  · rename_i hx
    exact absurd hx (by decide +kernel)
  · exact key _ (by decide +kernel)
theorem any_ba_write {Q : Unit → Shared → Prop} {a : Addr} (ho : s.heap.get? a = some { cls := .type "bytearray", data := .bytearray #[] })
    (h : ∀ h', h'.objs.size = s.heap.objs.size → h'.get? a = some { cls := .type "bytearray", data := .bytearray #[] } → (∀ b o, b ≠ a → s.heap.get? b = some o → h'.get? b = some o) → Q () { s with heap := h' }) :
    wpAny (model prog w) A (Builtin.Bytes.write (.ref a) fun _ => #[]) Q E s := by
  unfold Builtin.Bytes.write updateBytearray
  dsimp only
  have hu : (s.heap.update a (Obj.mapBytearray fun _ => #[])).get? a = some { cls := .type "bytearray", data := .bytearray #[] } := Heap.get?_update_self _ ho rfl
  refine wpAny_bind (wpAny_load ho ?_)
  dsimp only
  refine wpAny_bind (wpAny_update ho ?_)
  refine wpAny_lookBehind hu rfl (h _ ?_ hu fun b o hb e => (Heap.get?_update_ne _ _ _ _ hb).trans e)
  exact Heap.size_update ..
theorem runC_ba_init {A' : Around} {R : Result → Shared → Prop} {a : Addr} (hg : A.guards = some []) (ho : s.heap.get? a = some { cls := .type "bytearray", data := .bytearray #[] })
    (h : ∀ h', h'.objs.size = s.heap.objs.size → h'.get? a = some { cls := .type "bytearray", data := .bytearray #[] } → (∀ b o, b ≠ a → s.heap.get? b = some o → h'.get? b = some o) → R (.ok (.ret .none)) { s with heap := h' }) :
    wpC (model prog w) A (Builtin.«bytearray.__init__» ⟨[.ref a], []⟩) (FinC (model prog w) A' R) (fun e s' => R (.error e) s') s := by
  unfold Builtin.«bytearray.__init__»
  refine wpC_bindA (any_ba_release ho ?_)
  rw [if_neg Bool.false_ne_true]
  refine wpC_bindA ?_
  rw [show Builtin.Bytes.bindOptional "bytearray.__init__" "bytearray" ["source", "encoding", "errors"] [] ({ pos := [.ref a], kw := [] } : Args).kw = pure [none, none, none] from bind_ba]
  refine wpAny_pure ?_
  refine wpC_bindA (wpAny_pure (wpC_bindA (wpAny_pure (wpC_bind ?_))))
  refine wpC_bind (wpC_exported hg ?_)
  dsimp only
  refine wpC_any (wpAny_bind (wpAny_bind (wpAny_load ho ?_)))
  dsimp only
  refine wpAny_pure (wpAny_pure ?_)
  refine wpC_bindA (any_ba_write ho fun h' h1 h2 h3 => ?_)
  exact wpC_bindA (wpAny_pure (wpC_pure (h h' h1 h2 h3)))
theorem callC_ba {Q : Value → Shared → Prop} (hg : A.guards = some [])
    (h : ∀ h', h'.objs.size = s.heap.objs.size + 1 → h'.get? s.heap.objs.size = some { cls := .type "bytearray", data := .bytearray #[] } → (∀ b o, s.heap.get? b = some o → h'.get? b = some o) → Q (.ref s.heap.objs.size) { s with heap := h' }) :
    wpC (model prog w) A (call (.type "bytearray") []) Q E s := by
  have ft := called_ba
  obtain ⟨c, tl, hmro⟩ := ft.mro
  have h2 := ft.canCreate
  refine wpC_call (codeC_of_tree rfl (wpC_any ?_))
  show wpAny _ _ (callAny (.type "bytearray") _) _ _ _
  refine wpAny_pure ⟨Code.quiet_builtin _ (by decide +kernel), codeC_builtin (by show Builtin.Bytes.decodersThatHold.contains "type.__call__" = false; decide) F.entry_type_call ?_⟩
  rw [Around.under_plain (weight_type_call_type "bytearray" [] []) rfl]
  unfold Builtin.«type.__call__»
  dsimp only
  rw [ft.notType, typeCall_ba, hmro, ft.made]
  simp only [Bool.false_eq_true, if_false]
  rw [if_neg (by rw [h2]; exact Bool.false_ne_true)]
  refine wpC_bindA (wpAny_pure (wpC_bindA (wpAny_pure ?_)))
  simp only [List.isEmpty_cons, Bool.false_eq_true, if_false]
  refine wpC_bindA (wpAny_pure ?_)
  dsimp only
  refine wpC_bindA (wpAny_pure ?_)
  refine wpC_bindA (wpAny_holding (wpAny_call (codeAny_mono (code_ba_new (Q₁ := fun obj s₁ => obj = .ref s.heap.objs.size ∧ s₁ = { s with heap := s.heap.push { cls := .type "bytearray", data := .bytearray #[] } }) (E := fun e s' => E e s') ⟨rfl, rfl⟩) fun r s₁ hr => ?_)))
  rcases r with e | fl
  · exact hr
  cases fl with
  | ret v =>
    obtain ⟨rfl, rfl⟩ := hr
    have hB : (s.heap.push { cls := .type "bytearray", data := .bytearray #[] }).get? s.heap.objs.size = some { cls := .type "bytearray", data := .bytearray #[] } := Heap.get?_push_size _ rfl
    dsimp only
    refine wpC_bindA ?_
    unfold isInstance
    refine wpAny_bind (wpAny_typeOf ⟨_, hB, rfl⟩ ?_)
    rw [sub_ba_self]
    refine wpAny_pure ?_
    simp only [Bool.not_true, Bool.false_eq_true, if_false]
    refine wpC_bind (wpC_holding ?_)
    unfold callSpecial? specialOf
    refine wpC_bindA (wpAny_bind (wpAny_typeOf ⟨_, hB, rfl⟩ ?_))
    rw [ft.init.lookup]
    refine wpAny_pure ?_
    dsimp only
    refine wpC_holding (wpC_bindA ?_)
    rw [ft.init.bind]
    refine wpAny_pure ?_
    dsimp only
    refine wpC_bind (wpC_call (codeC_builtin_at (plainId_quiet ft.init.plain _) (by show Builtin.Bytes.decodersThatHold.contains "bytearray.__init__" = false; decide) entry_ba_init (ft.init.check _ _ _ _ _ _ _ _ ⟨_, hB, rfl⟩ (args_ba_init _) ?_)))
    rw [Around.under_plainId ft.init.plain _]
    refine runC_ba_init (s := { s with heap := s.heap.push { cls := .type "bytearray", data := .bytearray #[] } }) hg hB fun h' h1 h2 h3 => ?_
    refine wpC_pure (wpC_pure ?_)
    exact h h' (by rw [h1, Heap.size_push]) h2 fun b o e => h3 b o (Nat.ne_of_lt (Heap.lt_size e)) (Heap.get?_push_of_some _ e)
  | _ => exact hr.elim
end
end Mine
end

/-! part C4 -/
section
open PySem PySem.W PyProof.Rows PySem.Spec PySem.Calls
open Sem (wp)
set_option maxRecDepth 100000
set_option maxHeartbeats 4000000
namespace Mine
section
variable {M : Model} {A : Around} {E : Value → Shared → Prop} {s : Shared} {env : Env}
theorem wpC_keep {α : Type} {vs : List Value} {m : Sem α} {Q : α → Shared → Prop} (h : wpC M A m Q E s) : wpC M A (m.keep vs) Q E s :=
  fun Γ p hΓ d b => by rw [Sem.wp_keep]; exact h Γ p hΓ d b
theorem execsC_cons {st rest} {Q : Flow → Shared → Prop} (h : wpC M A (exec st env) (fun f s' => match f with | .next => wpC M A (execs rest env) Q E s' | f => Q f s') E s) : wpC M A (execs (st :: rest) env) Q E s := by
  rw [execs_cons]
  refine wpC_bind (wpC_mono h (fun f s' h' => ?_) fun _ _ h' => h')
  cases f <;> first | exact h' | exact wpC_pure h'
theorem evalC_Name_Call {id : Str} {p pos : Pos} {args : List PySem.Expr} {Q : Value → Shared → Prop}
    (h : wpAny M A (eval (.Name id p) env) (fun f s₁ => wpC M A (callWith pos f [] (backTo pos (starEach args env)) []) Q E s₁) E s) : wpC M A (eval (.Call (.Name id p) args [] pos) env) Q E s := by
  rw [arm_eval_Call_Name']
  exact wpC_bindA h
theorem callWithC {P : Heap → Prop} {pos : Pos} {f : Value} {first : List Value} {args : List (Bool × Sem Value)} {Q : Value → Shared → Prop} (hplain : args.any (·.1) = false)
    (hk : ∀ h, P h → ∃ k, (k = Keeper.frame ∨ k = Keeper.machine ∨ k = Keeper.boundFrame) ∧ Looks M h (keeperOf f) k)
    (h : wpAny M A (evalArgs f true args []) (fun a s₁ => P s₁.heap ∧ wpC M A (call f (first ++ a.pos) a.kw) Q E s₁) E s) : wpC M A (callWith pos f first args []) Q E s := by
  unfold callWith
  refine wpC_bindA (wpAny_holding (wpAny_mono h (fun a s₁ h₁ => wpC_bindA (wpAny_standAt ?_)) fun _ _ x => x))
  obtain ⟨k, hk', L⟩ := hk _ h₁.1
  simp only [hplain, List.any_nil, Bool.or_false]
  refine wpC_bindA (L.here ?_)
  have tail : ∀ {t : Sem Value}, wpC M A t Q E s₁ → wpC M A (t >>= fun r => holding [r] point >>= fun _ => pure r) Q E s₁ :=
    fun ht => wpC_bind (wpC_mono ht (fun r s₂ hr => wpC_bindA (wpAny_holding (wpAny_point (wpC_pure hr)))) fun _ _ x => x)
  have marked (mk : Value) : wpC M A (callMarked mk f (first ++ a.pos) a.kw) Q E s₁ := by unfold callMarked; exact wpC_keep h₁.2
  rcases hk' with rfl | rfl | rfl <;> dsimp only <;> first | exact tail h₁.2 | (split <;> first | exact tail h₁.2 | exact tail (marked _))
theorem execC_Attribute {o attr pos' value pos} {Q : Flow → Shared → Prop}
    (h : wpC M A (eval value env) (fun v s₁ => wpAny M A (eval o env) (fun ov s₂ => wpAny M A (setAttr ov attr v) (fun _ => Q .next) E s₂) E s₁) E s)
    (hs : swapsWith value (some (.Attribute o attr pos')) pos.line env = pure false := by rfl) : wpC M A (exec (.Assign [.Attribute o attr pos'] value pos) env) Q E s := by
  rw [plainObj_exec_Assign_Attribute o attr pos' value pos hs]
  refine wpC_bindA (wpAny_standAt (wpC_bind (wpC_mono h (fun v s₁ h₁ => ?_) fun _ _ x => x)))
  rw [assign_Attribute]
  refine wpC_bindA (wpAny_bind (wpAny_holding (wpAny_mono h₁ (fun ov s₂ h₂ => wpAny_bind (wpAny_standAt (wpAny_bind (wpAny_holding (wpAny_mono h₂ (fun _ s₃ h₃ => ?_) fun _ _ x => x))))) fun _ _ x => x)))
  intro Γ p hΓ
  rw [Sem.wp_release]
  exact fun _ _ _ _ _ => h₃
theorem execC_Subscript {o i pos' value pos} {Q : Flow → Shared → Prop}
    (h : wpC M A (eval value env) (fun v s₁ => wpAny M A (eval o env) (fun ov s₂ => wpAny M A (eval i env) (fun iv s₃ => wpAny M A (setItem ov iv v) (fun _ => Q .next) E s₃) E s₂) E s₁) E s)
    (hs : swapsWith value (some (.Subscript o i pos')) pos.line env = pure false := by rfl) : wpC M A (exec (.Assign [.Subscript o i pos'] value pos) env) Q E s := by
  rw [exec_Assign_Subscript o i pos' value pos hs]
  refine wpC_bindA (wpAny_standAt (wpC_bind (wpC_mono h (fun v s₁ h₁ => ?_) fun _ _ x => x)))
  rw [assign_Subscript]
  refine wpC_bindA (wpAny_bind (wpAny_holding (wpAny_mono h₁ (fun ov s₂ h₂ => wpAny_bind (wpAny_holding (wpAny_mono h₂ (fun iv s₃ h₃ => wpAny_bind (wpAny_standAt (wpAny_bind (wpAny_holding (wpAny_mono h₃ (fun _ s₄ h₄ => ?_) fun _ _ x => x))))) fun _ _ x => x))) fun _ _ x => x)))
  intro Γ p hΓ
  rw [Sem.wp_release]
  exact fun _ _ _ _ _ => h₄
theorem execC_Tuple {elts k tpos value pos} {Q : Flow → Shared → Prop}
    (h : wpC M A (eval value env) (fun v s₁ => wpAny M A (assign (.Tuple elts k tpos) env v) (fun _ => Q .next) E s₁) E s)
    (hs : swapsWithSole [.Tuple elts k tpos] value pos.line env = pure false := by rfl)
    (hw : swappedStores [.Tuple elts k tpos] value env = pure none := by rfl) :
    wpC M A (exec (.Assign [.Tuple elts k tpos] value pos) env) Q E s := by
  rw [PyProof.Rows.exec_Assign]
  refine wpC_bindA (wpAny_standAt ?_)
  rw [hs]
  refine wpC_bindA (wpAny_pure ?_)
  rw [if_neg (by decide)]
  refine wpC_bind (wpC_mono h (fun v s₁ h₁ => ?_) fun _ _ x => x)
  rw [hw]
  refine wpC_bindA (wpAny_pure ?_)
  show wpC M A (do assignAll v [assign (.Tuple elts k tpos) env]; pure .next) Q E s₁
  exact wpC_bindA (wpAny_mono h₁ (fun _ _ x => wpC_pure x) fun _ _ x => x)
theorem evalC_Tuple {e : PySem.Expr} {rest : List PySem.Expr} {c pos} {Q : Value → Shared → Prop}
    (h : wpC M A (eval e env) (fun v s₁ => wpAny M A (spliced (backTo pos (starEach rest env))) (fun vs s₂ => wpAny M A (newTuple (v :: vs)) Q E s₂) E s₁) E s)
    (he : starEach (e :: rest) env = (false, eval e env) :: starEach rest env := by rfl) : wpC M A (eval (.Tuple (e :: rest) c pos) env) Q E s := by
  rw [arm_eval_Tuple, he]
  show wpC M A (do standAt pos; newTuple (← spliced ((false, eval e env) :: backTo pos (starEach rest env)))) Q E s
  refine wpC_bindA (wpAny_standAt (wpC_bind ?_))
  rw [spliced]
  refine wpC_bind (wpC_mono h (fun v s₁ h₁ => ?_) fun _ _ x => x)
  simp only [Bool.false_eq_true, if_false]
  exact wpC_bindA (wpAny_pure (wpC_bindA (wpAny_holding (wpAny_mono h₁ (fun vs s₂ h₂ => wpC_pure (wpC_any h₂)) fun _ _ x => x))))
theorem execC_If {test body orelse pos} {Q : Flow → Shared → Prop} (h : wpC M A (isTrue test env (eval test env)) (fun b s₂ => if b = true then wpC M A (execs body env) Q E s₂ else wpC M A (execs orelse env) Q E s₂) E s) :
    wpC M A (exec (.If test body orelse pos) env) Q E s := by
  rw [exec_If]
  refine wpC_bindA (wpAny_standAt (wpC_bind (wpC_mono h (fun b s₂ h₂ => ?_) fun _ _ x => x)))
  cases b <;> exact h₂
theorem isTrueC_Not {x : PySem.Expr} {pos : Pos} {whole : Sem Value} {Q : Bool → Shared → Prop} (h : wpC M A (isTrue x env (eval x env)) (fun b s₁ => Q (!b) s₁) E s) : wpC M A (isTrue (.UnaryOp .Not x pos) env whole) Q E s := by
  rw [arm_isTrue_UnaryOp]
  exact wpC_bind (wpC_mono h (fun b s₁ h₁ => wpC_pure h₁) fun _ _ x => x)
theorem isTrueC_value {e : PySem.Expr} {whole : Sem Value} {Q : Bool → Shared → Prop} (h : wpC M A whole (fun v s₁ => wpAny M A (truthy v) Q E s₁) E s)
    (he : isTrue e env whole = (do let v ← whole; standAt e.pos; holding [v] (truthy v)) := by rfl) : wpC M A (isTrue e env whole) Q E s := by
  rw [he]
  exact wpC_bind (wpC_mono h (fun v s₁ h₁ => wpC_bindA (wpAny_standAt (wpC_holding (wpC_any h₁)))) fun _ _ x => x)
end
section
variable {prog : Program} {w : World} {A : Around} {E : Value → Shared → Prop} {s : Shared} {env : Env}
theorem execC_Expr {e pos} {Q : Flow → Shared → Prop} (h : wpC (model prog w) A (eval e env) (fun _ => Q .next) E s)
    (hi : interactive env = false := by rfl) (hs : swapsWith e none pos.line env = pure false := by rfl) : wpC (model prog w) A (exec (.Expr e pos) env) Q E s := by
  rw [exec_Expr env e pos hi hs]
  exact wpC_bindA (wpAny_standAt (wpC_bind (wpC_mono h (fun v s' h' => wpC_any (wpAny_dropValue h')) fun _ _ x => x)))
end
end Mine
end

/-! part C5 -/
section
open PySem PySem.W PyProof.Rows PySem.Spec PySem.Calls
open Sem (wp)
set_option maxRecDepth 100000
set_option maxHeartbeats 4000000
namespace Mine
section
variable {prog : Program} {w : World} {A A₀ : Around} {s : Shared} {K : Frag} {L a : Addr} {h₀ base g₀ : Heap} {m mg mb : Str → Option Value} {news : List (Addr × Obj)} {p : Program} {loose : List Str} {mean : ExcName → Option Value}
  {env : Env} {outer : List Env} {cn : Str} {cs : Scope} {ccd : Value}
  {R : Result → Shared → Prop} {name qual : Str} {params : Arguments} {body : List Stmt} {scope : Scope} {dV kV doc pm cdv ct oc : Value} {an od : Option Addr} {osl : Array (Option Value)} {f : Addr} {args : Args} {binds : List (Str × Value)}
theorem codeC_K (B : Below A₀ base outer h₀) (F : Fr h₀ L s.heap m) (X₀ : K.In h₀) (N : News h₀ L s.heap news) (T : Top p loose mean mg mb h₀) (hA : A.frames = some (env :: outer)) (hf : env.frame = some L) (hke : env.scope.kind = .function)
    (ho : K.lookup f = some ⟨oc, od, .func (fnOf name qual params body scope dV kV doc pm an cdv ct), osl⟩) (hcd : codeIn K cdv qual = true) (hroom : A.depth < recursionLimit)
    (hbind : BindsTo s (fnOf name qual params body scope dV kV doc pm an cdv ct) args binds) (hloc : ∀ y ∈ binds, scope.names.lookup y.1 = some .local)
    (h : ∀ g L' h₁, Fr h₀ L g m → Fr g L' h₁ (fun y => binds.reverse.lookup y) → News g L' h₁ news → Below A base (env :: outer) g → K.In g → Top p loose mean mg mb g →
      wpC (model prog w) (A.deeper (envOf qual scope L' f cdv)) (execs body (envOf qual scope L' f cdv))
        (fun fl s' => LeaveK h₀ L m g R (match fl with | .ret v => v | _ => .none) s')
        (fun e s' => wpAny (model prog w) (A.deeper (envOf qual scope L' f cdv)) (leaving (envOf qual scope L' f cdv) e) (fun _ s'' => R (.error e) s'') (fun e' s'' => R (.error e') s'') s')
        { s with heap := h₁, toks := s.toks + binds.length })
    (hco : scope.isCoroutine = false) (hgen : scope.isGenerator = false) (hk : scope.kind = .function)
    (hcell : ∀ x ∈ scope.names, x.2 ≠ .cell) : codeC (model prog w) A (.call (.ref f) args) R s := by
  obtain ⟨FG, BG, st, lv⟩ := groundX (R := R) B F N hA hf hke
  refine codeC_def (fd := fnOf name qual params body scope dV kV doc pm an cdv ct) (body := body) (binds := binds) hroom ((X₀.keeps F.keep) _ _ ho) rfl (T.nolimit.keeps F.keep) (codeRec_of (X₀.keeps F.keep) hcd) rfl hbind hcell hloc (fun h₁ hns hk₁ => ?_) hco hgen hk
  exact wpC_mono (h _ s.heap.objs.size h₁ FG ⟨hns, fun b o e => hk₁ b o (of_hideAll _ e), Nat.le_of_eq (hideAll_size _ _)⟩
    (fun q hq => ⟨hk₁ _ _ (N q hq).1, Nat.ne_of_lt (Heap.lt_size (N q hq).1), hideAll_none _ (List.mem_map_of_mem hq)⟩) BG (X₀.keeps st) (T.keeps st)) (fun fl s' hl => lv _ _ hl) fun _ _ y => y
theorem codeC_SC (B : Below A₀ base outer h₀) (F : Fr h₀ L s.heap m) (X₀ : K.In h₀) (N : News h₀ L s.heap news) (T : Top p loose mean mg mb h₀) (XB : K.In base) (TB : Top p loose mean mg mb base) (D : KtsDicts (outer.filterMap (·.frame)) h₀)
    (T0 : KtsTurn (outer.filterMap (·.frame)) g₀ h₀) (hA : A.frames = some (env :: outer)) (hf : env.frame = some L) (hke : env.scope.kind = .function)
    (ho : K.lookup f = some ⟨oc, od, .func (fnOf name qual params body scope dV kV doc pm an cdv ct), osl⟩) (hcd : codeIn K cdv qual = true) (hroom : A.depth < recursionLimit)
    (hbind : BindsTo s (fnOf name qual params body scope dV kV doc pm an cdv ct) args binds) (hkind : (binds.all fun y => scope.names.lookup y.1 == some .local || scope.names.lookup y.1 == some .cell) = true)
    (hnd : ((cellsFrom 0 scope.names []).map (·.1)).Nodup)
    (h : ∀ g L' h₁ tk cells, Fr h₀ L g m → Fr g L' h₁ (bindL (envOfC qual scope L' f cdv).kindOf binds fun _ => none) → News g L' h₁ (cells ++ news) →
      CellsAre (bindC (envOfC qual scope L' f cdv).kindOf binds fun _ => none) (cellsFrom (L' + 1) scope.names []) cells → Below A base (env :: outer) g → K.In g → Top p loose mean mg mb g → KtsDicts ((env :: outer).filterMap (·.frame)) g → (∀ p ∈ news, p.1 < L') →
      wpC (model prog w) (A.deeper (envOfC qual scope L' f cdv)) (execs body (envOfC qual scope L' f cdv))
        (fun fl s' => LeaveS ((env :: outer).filterMap (·.frame)) A₀ base outer K p loose mean mg mb g₀ h₀ L m g R (match fl with | .ret v => v | _ => .none) s')
        (fun e s' => wpAny (model prog w) (A.deeper (envOfC qual scope L' f cdv)) (leaving (envOfC qual scope L' f cdv) e) (fun _ s'' => R (.error e) s'') (fun e' s'' => R (.error e') s'') s')
        { s with heap := h₁, toks := tk })
    (hco : scope.isCoroutine = false) (hgen : scope.isGenerator = false) (hk : scope.kind = .function) : codeC (model prog w) A (.call (.ref f) args) R s := by
  refine codeC_function hroom ((X₀.keeps F.keep) _ _ ho) rfl hco hgen rfl (codeRec_of (X₀.keeps F.keep) hcd) (hbind _ _ _ _ ?_)
  refine wpAny_newFunctionEnv_cells hk (kindsX hkind _) fun env' he s' x => ?_
  subst he
  refine ⟨(T.nolimit.keeps F.keep).keeps x.toInCall.keep, codeC_func ?_⟩
  obtain ⟨h₁, tk, rfl, _⟩ := x.done
  have hk₁ := x.toInCall.keep
  obtain ⟨cells, NC, Y⟩ := Cl.news (h₀ := s.heap) (Nat.le_refl _) fun n c hm => ⟨x.cell n c (lookup_of_mem_nodup (cellsFrom_names scope.names 0 (s.heap.objs.size + 1) [] [] rfl ▸ hnd) hm), x.above n c hm⟩
  obtain ⟨oL, es, ep, hLg, hLd, hN, hNs, st, B₂⟩ := enterX B F N hA hf hke
  refine wpC_mono (h _ s.heap.objs.size h₁ tk cells ⟨hN _ hLg, st, F.above⟩ ⟨x.toInCall.ns, fun b o e => hk₁ b o (of_hideAll _ e), Nat.le_of_eq (hideAll_size _ _)⟩ (fun q hq => ?_) Y B₂ (X₀.keeps st) (T.keeps st) (dictsX hf st D hLg hLd) (fun q hq => Heap.lt_size (N q hq).1)) (fun fl s' hl => leaveS_back hf hLg hN hNs st F B XB TB D T0 hl) fun _ _ y => y
  rcases List.mem_append.mp hq with hq | hq
  · refine ⟨(NC q hq).1, (NC q hq).2.1, ?_⟩
    cases z : (hideAll s.heap (news.map (·.1))).get? q.1 with
    | none => rfl
    | some o => have := of_hideAll _ z; rw [(NC q hq).2.2] at this; cases this
  · exact ⟨hk₁ _ _ (N q hq).1, Nat.ne_of_lt (Heap.lt_size (N q hq).1), hideAll_none _ (List.mem_map_of_mem hq)⟩
end
end Mine
end

/-! part C6 -/
section
open PySem PySem.W PyProof.Rows PySem.Spec PySem.Calls
open Sem (wp)
set_option maxRecDepth 100000
set_option maxHeartbeats 4000000
namespace Mine
section
variable {prog : Program} {w : World} {A : Around} {E : Value → Shared → Prop} {s : Shared} {K : Type} [DecidableEq K] {knd : KeyKind prog w K} {h₀ : Heap} {L d : Addr} {news : List (Addr × Obj)} {o : Obj} {kvs : List (K × Value)} {k : K} {key : Value} {Q : Value → Shared → Prop}
theorem L_notin (N : News h₀ L s.heap news) (hm : (d, o) ∈ news) (hD : o.IsDictOf knd kvs) (hkey : knd.is k key = true) (lo : (d == sysModules) = false) (h : Q (.bool (!(valueAt kvs k).isSome)) { s with toks := s.toks + 1 }) :
    wpAny (model prog w) A (compareOp .NotIn key (.ref d)) Q E s := wpAny_notIn_of hkey lo (dictAt_news N hm hD).mapOf h
end
/-- a ledger turned at one address, entry by entry -/
theorem past_ne {a : Addr} {o' : Obj} {p : Addr × Obj} {l l' : List (Addr × Obj)} (h : p.1 ≠ a) (e : upd l a o' = l') : upd (p :: l) a o' = p :: l' := by
  rw [← e]; show (if p.1 = a then (a, o') else p) :: _ = _; rw [if_neg h]; rfl
theorem past_eq {a : Addr} {o o' : Obj} {l : List (Addr × Obj)} : upd ((a, o) :: l) a o' = (a, o') :: upd l a o' := by
  show (if a = a then (a, o') else (a, o)) :: _ = _; rw [if_pos rfl]; rfl
theorem past_use {h₀ h : Heap} {L a : Addr} {o' : Obj} {l l' : List (Addr × Obj)} {G : Prop} (N : News h₀ L h (upd l a o')) (e : upd l a o' = l') (k : News h₀ L h l' → G) : G := k (e ▸ N)
theorem allLt_upd {d a : Addr} {o' : Obj} : ∀ {l : List (Addr × Obj)}, AllLt d l → AllLt d (upd l a o')
  | [], _ => trivial
  | p :: r, h => by
    show AllLt d ((if p.1 = a then (a, o') else p) :: upd r a o')
    refine ⟨?_, allLt_upd h.2⟩
    by_cases e : p.1 = a
    · rw [if_pos e]; exact e ▸ h.1
    · rw [if_neg e]; exact h.1
abbrev baObj : Obj := { cls := .type "bytearray", data := .bytearray #[] }
section
variable {α : Type} {M : Model} {A : Around} {E : Value → Shared → Prop} {s : Shared}
theorem wpC_named {t : Sem α} {Q : α → Shared → Prop} (h : ∀ Q' E', Q' = Q → E' = E → wpC M A t Q' E' s) : wpC M A t Q E s := h Q E rfl rfl
theorem wpC_tk {t : Sem α} {Q : α → Shared → Prop} (h : ∀ tk, wpC M A t Q E { s with toks := tk }) : wpC M A t Q E s := h s.toks
theorem execsC_tk {env : Env} {st : Stmt} {rest : List Stmt} {Q : Flow → Shared → Prop} (h : ∀ tk, wpAny M A (exec st env) (fun f s' => match f with | .next => wpC M A (execs rest env) Q E s' | f => Q f s') E { s with toks := tk }) : wpC M A (execs (st :: rest) env) Q E s :=
  execsC_cons (wpC_any (h s.toks))
theorem wpAny_named {t : Sem α} {Q : α → Shared → Prop} (h : ∀ Q' E', Q' = Q → E' = E → wpAny M A t Q' E' s) : wpAny M A t Q E s := h Q E rfl rfl
theorem pick56 {h₀ h : Heap} {L : Addr} {q1 q2 q3 q4 q5 q6 q7 q8 q9 : Addr × Obj} {Y : List (Addr × Obj)} (N : News h₀ L h (q1 :: q2 :: q3 :: q4 :: q5 :: q6 :: q7 :: q8 :: q9 :: Y)) : News h₀ L h (q5 :: q6 :: Y) := news_sub N fun q hq => by
  simp only [List.mem_cons] at hq ⊢
  rcases hq with e | e | e <;> simp only [e, true_or, or_true]
end
section
variable {M : Model} {A : Around} {E : Value → Shared → Prop} {s : Shared} {env : Env} {K : Frag} {h₀ : Heap}
theorem evalC_Attr_Call {o : PySem.Expr} {name : Str} {apos pos : Pos} {args : List PySem.Expr} {pl : Sem Bool} {Q : Value → Shared → Prop}
    (h : wpAny M A (eval o env) (fun ov s₁ => wpAny M A (getMethod ov name pl) (fun fx s₂ => wpC M A (callWith pos fx.1 fx.2 (backTo pos (starEach args env)) []) Q E s₂) E s₁) E s)
    (he : eval (.Call (.Attribute o name apos) args [] pos) env = (do
      let ov ← eval o env
      standAt apos.atName
      let (f, first) ← holding [ov] (getMethod ov name pl)
      callWith pos f first (backTo pos (starEach args env)) (backToKw pos (keywordEach [] env))) := by rfl) :
    wpC M A (eval (.Call (.Attribute o name apos) args [] pos) env) Q E s := by
  rw [he]
  refine wpC_bindA (wpAny_mono h (fun ov s₁ h₁ => wpC_bindA (wpAny_standAt (wpC_bindA (wpAny_holding (wpAny_mono h₁ (fun fx s₂ h₂ => ?_) fun _ _ x => x))))) fun _ _ x => x)
  exact h₂
theorem callWithC_K {pos : Pos} {f : Value} {first : List Value} {Q : Value → Shared → Prop} {e : PySem.Expr} {rest : List PySem.Expr} (hk : keepIn K f = true)
    (h : wpAny M A (spliced (backTo pos (starEach (e :: rest) env))) (fun vs s₁ => K.In s₁.heap ∧ wpC M A (call f (first ++ vs)) Q E s₁) E s)
    (he : starEach (e :: rest) env = (false, eval e env) :: starEach rest env := by rfl) (hplain : (backTo pos (starEach rest env)).any (·.1) = false := by rfl) :
    wpC M A (callWith pos f first (backTo pos (starEach (e :: rest) env)) []) Q E s := by
  rw [he] at h ⊢
  exact callWithC (by show (false || (backTo pos (starEach rest env)).any (·.1)) = false; rw [hplain]; rfl) (keeps_K hk) (evalArgs_plain h)
theorem callWithC_K0 {pos : Pos} {f : Value} {first : List Value} {Q : Value → Shared → Prop} (X : K.In s.heap) (hk : keepIn K f = true)
    (h : wpC M A (call f (first ++ [])) Q E s) : wpC M A (callWith pos f first (backTo pos (starEach [] env)) []) Q E s :=
  callWithC rfl (keeps_K hk) (evalArgs_nil3 ⟨X, h⟩)
theorem callWithC_type0 {pos : Pos} {T : String} {first : List Value} {Q : Value → Shared → Prop}
    (h : wpC M A (call (.type T) (first ++ [])) Q E s) : wpC M A (callWith pos (.type T) first (backTo pos (starEach [] env)) []) Q E s :=
  callWithC (P := fun _ => True) rfl (fun _ _ => ⟨.machine, .inr (.inl rfl), Looks.of_pure rfl⟩) (evalArgs_nil3 ⟨trivial, h⟩)
end
section
variable {prog : Program} {w : World} {A : Around} {K : Frag} {C x : Addr} {s : Shared} {h₀ : Heap} {L : Addr} {m : Str → Option Value} {news : List (Addr × Obj)} {R : Result → Shared → Prop} {Q E : Value → Shared → Prop}
theorem makeC_K {rest : List Value} {kw : List (Str × Value)} {fI : Addr} (F : Fr h₀ L s.heap m) (X₀ : K.In h₀) (N : News h₀ L s.heap news) (hm : makesIn K C = true)
    (hi : findIn K (.ref C) "__init__" = some (some (.ref fI))) (hf : isFn K (.ref fI) = true)
    (h : ∀ x dx h', Fr h₀ L h' m → News h₀ L h' ((x, instObj C dx) :: (dx, dictOf [] 0) :: news) → (∀ p ∈ news, p.1 < dx) → dx < x →
      codeC (model prog w) (A.under (.builtin "type.__call__" ⟨.ref C :: rest, kw⟩)) (.call (.ref fI) ⟨.ref x :: rest, kw⟩) (InitBack x fun r s' => match r with | .ok (.ret v) => Q v s' | .ok _ => False | .error e => E e s') { s with heap := h' }) :
    wpC (model prog w) A (call (.ref C) rest kw) Q E s := by
  have X := X₀.keeps F.keep
  obtain ⟨hh, g, d, t, os⟩ := s
  refine wpC_call (makeC_core (makes_of X hm) (looks_findIn X hi) (fun self => bind_fn X self (beq_iff_eq.mp hf)) (.inl rfl) (h _ hh.objs.size _ ((F.push _).push _) ?_ (fun q hq => Heap.lt_size (N q hq).1) (Nat.lt_succ_self _)))
  have := (N.push F emptyDict).push (F.push _) (instObj C hh.objs.size)
  rwa [Heap.size_push] at this
theorem baC_K (F : Fr h₀ L s.heap m) (N : News h₀ L s.heap news) (hg : A.guards = some [])
    (h : ∀ b h', Fr h₀ L h' m → News h₀ L h' ((b, baObj) :: news) → (∀ p ∈ news, p.1 < b) → Q (.ref b) { s with heap := h' }) :
    wpC (model prog w) A (call (.type "bytearray") []) Q E s := by
  refine callC_ba hg fun h' h1 h2 h3 => h _ h' ⟨F.ns.at' fun o e => h3 _ o e, fun b o e => h3 b o (F.keep b o e), F.above⟩ (fun q hq => ?_) fun q hq => Heap.lt_size (N q hq).1
  rcases List.mem_cons.mp hq with rfl | hq
  · exact ⟨h2, Nat.ne_of_gt F.ns.lt, next_is_new F⟩
  · exact ⟨h3 _ _ (N q hq).1, (N q hq).2⟩
end
end Mine
end

/-! part C7 -/
section
open PySem PySem.W PyProof.Rows PySem.Spec PySem.Calls
open Sem (wp)
set_option maxRecDepth 100000
set_option maxHeartbeats 4000000
namespace Mine
section
variable {α : Type} {M : Model} {A : Around} {E : Value → Shared → Prop} {s : Shared} {env : Env}
theorem wpC_runOwn {c : Code} {h : Option Value} {Q : Flow → Shared → Prop}
    (hc : codeC M (A.mark h) c (fun r s' => match r with | .ok f => Q f s' | .error e => cameBackBy M A env E e s') s) (hnb : h ≠ some byPass := by intro x; cases x) : wpC M A (runOwn c env h) Q E s := by
  unfold runOwn
  exact wpC_onRaise (wpC_mono (wpC_run hc hnb) (fun _ _ x => x) fun _ _ x => wpC_any x)
theorem execC_For {target iter body orelse pos} {Q : Flow → Shared → Prop}
    (h : wpAny M A (eval iter env) (fun x s₁ => wpAny M A (pyIter x) (fun it s₂ =>
      codeC M A (.forLoop target it body orelse env) (fun r s' => match r with | .ok f => Q f s' | .error e => cameBackBy M A env E e s') s₂) E s₁) E s)
    (hs : ∀ x, foldedSetIterable iter env x = pure x := by intro _; rfl) :
    wpC M A (exec (.For target iter body orelse pos) env) Q E s := by
  rw [exec_For]
  exact wpC_bindA (wpAny_standAt (wpC_bindA (wpAny_mono h (fun x s₁ h₁ => wpC_bindA (wpAny_of_eq (hs x) (wpC_bindA (wpAny_standAt (wpC_bindA (wpAny_holding
    (wpAny_mono h₁ (fun it s₂ h₂ => wpC_runOwn h₂) fun _ _ h' => h'))))))) fun _ _ h' => h')))
end
section
variable {α : Type} {prog : Program} {w : World} {A : Around} {E : Value → Shared → Prop} {s : Shared} {env : Env} {R : Result → Shared → Prop}
theorem wpC_noted {m : Sem α} {Q : α → Shared → Prop} (h : wpC (model prog w) A m Q (notedBy (model prog w) A env E) s) : wpC (model prog w) A (m.onRaise fun x => do noteFrame x env; theTreesLotGoes x) Q E s :=
  wpC_onRaise (wpC_mono h (fun _ _ q => q) fun _ _ hx => wpC_bindA (wpAny_mono hx (fun _ _ e => wpC_any (wpAny_theTreesLotGoes e)) fun _ _ e => e))
abbrev ritObj (n i : Nat) : Obj := { cls := .type "range_iterator", data := .fields #[rawInt (0 + (i : Int) * 1), rawInt ((n : Int) - (i : Int)), rawInt 1] }
/-- where a turn of the loop ends -/
def TurnEnd (s : Shared) (L I : Addr) (n i : Nat) (J : Nat → Addr → Heap → (Str → Option Value) → List (Addr × Obj) → Prop) (s' : Shared) : Prop :=
  ∃ g' m' X' h' tk', s' = { s with heap := h', toks := tk' } ∧ Fr g' L h' m' ∧ News g' L h' X' ∧ (I, ritObj n i) ∈ X' ∧ J i I g' m' X'
theorem codeC_rangeLoop {x : Str} {px : Pos} {body : List Stmt} {I : Addr} {n : Nat} (hh : A.handled = none) (hx : env.kindOf x = some .local)
    (hp : (env.scope.kind == .class || (env.scope.kind == .module && env.locals != env.globals)) = false)
    (J : Nat → Addr → Heap → (Str → Option Value) → List (Addr × Obj) → Prop)
    (hoff : ∀ i g m X h, Fr g env.locals h m → News g env.locals h X → (I, ritObj n i) ∈ X → J i I g m X → J i I g m (X.filter fun q => decide (q.1 ≠ I)))
    (turn : ∀ i g m X h tk t (E' : Value → Shared → Prop), i < n → J i I g m X → (∀ q ∈ X, q.1 ≠ I) → Fr g env.locals h (fun y => if y = x then some (.int i t) else m y) → News g env.locals h ((I, ritObj n (i + 1)) :: X) →
      wpC (model prog w) A (execs body env) (fun f s' => match f with
        | .next => TurnEnd s env.locals I n (i + 1) J s'
        | .cont => TurnEnd s env.locals I n (i + 1) J s'
        | .brk => R (.ok .next) s'
        | .ret v => R (.ok (.ret v)) s') E' { s with heap := h, toks := tk })
    (done : ∀ g m X h tk, J n I g m X → Fr g env.locals h m → News g env.locals h X → R (.ok .next) { s with heap := h, toks := tk }) :
    ∀ (k i : Nat) g m X h tk, i + k = n → J i I g m X → Fr g env.locals h m → News g env.locals h X → (I, ritObj n i) ∈ X → codeC (model prog w) A (.forLoop (.Name x px) (.ref I) body [] env) R { s with heap := h, toks := tk } := by
  have W : Walks prog w A I [I] [I] n (fun i v => ∃ t, v = .int (0 + (i : Int) * 1) t) (fun i h => IsRangeIter h I (0 + (i : Nat) * 1) ((n : Int) - (i : Nat)) 1) := Walks.range hh I 0 1 n
  intro k
  induction k with
  | zero =>
    intro i g m X h tk hik hJ F N hI
    obtain rfl : i = n := by omega
    refine codeC_of_tree rfl ?_
    show wpC _ A ((forTurn (.Name x px) (.ref I) body [] env).onRaise (fun x => do noteFrame x env; theTreesLotGoes x)) _ _ _
    refine wpC_noted ?_
    simp only [forTurn]
    refine wpC_bindA (wpAny_standAt (wpC_bindA (wpAny_onRaise (wpAny_mono (W.done _ _ (fun _ _ => False) (N _ hI).1 fun h₁ tk₁ hk₁ => ?_) (fun _ _ x => x) fun _ _ x => x.elim))))
    dsimp only
    refine wpC_pure ⟨rfl, codeC_any (codeAny_block (wpAny_execs_nil ?_))⟩
    have hIL : env.locals ≠ I := fun e => (N _ hI).2.1 e.symm
    have hI₀ : g.get? I = none := (N _ hI).2.2
    refine done g m _ h₁ tk₁ (hoff _ g m X h F N hI hJ) ⟨F.ns.at' fun o e => hk₁ _ o (by simpa using hIL) e, fun b o e => hk₁ b o (by simp only [List.mem_singleton]; rintro rfl; rw [hI₀] at e; cases e) (F.keep b o e), F.above⟩ fun q hq => ?_
    obtain ⟨hq1, hq2⟩ := List.mem_filter.mp hq
    exact ⟨hk₁ _ _ (by simpa using of_decide_eq_true hq2) (N q hq1).1, (N q hq1).2⟩
  | succ k ih =>
    intro i g m X h tk hik hJ F N hI
    have hlt : i < n := by omega
    refine codeC_of_tree rfl ?_
    show wpC _ A ((forTurn (.Name x px) (.ref I) body [] env).onRaise (fun x => do noteFrame x env; theTreesLotGoes x)) _ _ _
    refine wpC_noted ?_
    simp only [forTurn]
    refine wpC_bindA (wpAny_standAt (wpC_bindA (wpAny_onRaise (wpAny_mono (W.item i _ _ (fun _ _ => False) hlt (N _ hI).1 fun v h₁ tk₁ hv hst₁ hk₁ => ?_) (fun _ _ x => x) fun _ _ x => x.elim))))
    obtain ⟨t, rfl⟩ := hv
    dsimp only
    refine wpC_bindA (wpAny_of_eq (show letOwnedTupleGo _ _ _ = pure () by rfl) ?_)
    have hIL : env.locals ≠ I := fun e => (N _ hI).2.1 e.symm
    have hI₀ : g.get? I = none := (N _ hI).2.2
    have hL₀ : g.get? env.locals = none := Heap.get?_none_of_le F.above
    have F1 : Fr g env.locals h₁ m := ⟨F.ns.at' fun o e => hk₁ _ o (by simpa using hIL) e, fun b o e => hk₁ b o (by simp only [List.mem_singleton]; rintro rfl; rw [hI₀] at e; cases e) (F.keep b o e), F.above⟩
    refine wpC_bindA (wpAny_assign_Name (wpAny_storeName_local hx F1.ns (fun h₂ hn₂ hs₂ => ?_) hp))
    have F2 := F1.set hn₂ hs₂
    have hst : h₂.get? I = some (ritObj n (i + 1)) := (hs₂.2 I hIL.symm).trans hst₁
    have N2 : News g env.locals h₂ ((I, ritObj n (i + 1)) :: X.filter fun q => decide (q.1 ≠ I)) := by
      intro q hq
      rcases List.mem_cons.mp hq with rfl | hq
      · exact ⟨hst, hIL.symm, hI₀⟩
      · obtain ⟨hq1, hq2⟩ := List.mem_filter.mp hq
        exact ⟨hs₂.extBut _ _ (N q hq1).2.1 (hk₁ _ _ (by simpa using of_decide_eq_true hq2) (N q hq1).1), (N q hq1).2⟩
    have e0 : (0 + (i : Int) * 1) = (i : Int) := by omega
    rw [e0] at F2
    refine wpC_bind (wpC_mono (turn i g m _ h₂ _ t (notedBy (model prog w) A env fun e s' => R (.error e) s') hlt (hoff i g m X h F N hI hJ) (fun q hq => of_decide_eq_true (List.mem_filter.mp hq).2) F2 N2) (fun f s₃ h₃ => ?_) fun _ _ x => x)
    cases f with
    | next =>
      obtain ⟨g', m', X', h', tk', rfl, F', N', hI', hJ'⟩ := h₃
      exact wpC_pure ⟨rfl, ih (i + 1) g' m' X' h' tk' (by omega) hJ' F' N' hI'⟩
    | cont =>
      obtain ⟨g', m', X', h', tk', rfl, F', N', hI', hJ'⟩ := h₃
      exact wpC_pure ⟨rfl, ih (i + 1) g' m' X' h' tk' (by omega) hJ' F' N' hI'⟩
    | brk => exact wpC_pure h₃
    | ret v => exact wpC_pure h₃
def SrcRg (prog : Program) (w : World) (A : Around) (env : Env) (x : Str) (body : List Stmt) (Q : Flow → Shared → Prop) (xv : Value) (s₁ : Shared) : Prop :=
  ∃ (r : Addr) (b : Int) (t u v : Tok) (n : Nat) (g : Heap) (m : Str → Option Value) (X : List (Addr × Obj)) (J : Nat → Addr → Heap → (Str → Option Value) → List (Addr × Obj) → Prop),
    xv = .ref r ∧ IsRange s₁.heap r 0 b 1 t u v ∧ Builtin.Range.small 0 b 1 = true ∧ Builtin.Range.rangeSize 0 b 1 = (n : Int) ∧ A.handled = none ∧ Fr g env.locals s₁.heap m ∧ News g env.locals s₁.heap X ∧
    (∀ I, (∀ q ∈ X, q.1 < I) → J 0 I g m ((I, ritObj n 0) :: X)) ∧
    (∀ i I g m X h, Fr g env.locals h m → News g env.locals h X → (I, ritObj n i) ∈ X → J i I g m X → J i I g m (X.filter fun q => decide (q.1 ≠ I))) ∧
    (∀ i I g m X h tk t (E' : Value → Shared → Prop), i < n → J i I g m X → (∀ q ∈ X, q.1 ≠ I) → Fr g env.locals h (fun y => if y = x then some (.int i t) else m y) → News g env.locals h ((I, ritObj n (i + 1)) :: X) →
      wpC (model prog w) A (execs body env) (fun f s' => match f with
        | .next => TurnEnd s₁ env.locals I n (i + 1) J s'
        | .cont => TurnEnd s₁ env.locals I n (i + 1) J s'
        | .brk => Q .next s'
        | .ret v => Q (.ret v) s') E' { s₁ with heap := h, toks := tk }) ∧
    ∀ I g m X h tk, J n I g m X → Fr g env.locals h m → News g env.locals h X → Q .next { s₁ with heap := h, toks := tk }
theorem execC_range {x : Str} {px pos : Pos} {iter : PySem.Expr} {body : List Stmt} {Q : Flow → Shared → Prop} (hx : env.kindOf x = some .local)
    (hp : (env.scope.kind == .class || (env.scope.kind == .module && env.locals != env.globals)) = false)
    (h : wpAny (model prog w) A (eval iter env) (SrcRg prog w A env x body Q) E s)
    (hs : ∀ x, foldedSetIterable iter env x = pure x := by intro _; rfl) :
    wpC (model prog w) A (exec (.For (.Name x px) iter body [] pos) env) Q E s := by
  refine execC_For (wpAny_mono h (fun xv s₁ h₁ => ?_) fun _ _ e => e) hs
  obtain ⟨r, b, t, u, v, n, g, m, X, J, rfl, hr, hsm, hsz, hh, F, N, hj0, hoff, turn, done⟩ := h₁
  refine wpAny_pyIter_range hr hsm ?_
  rw [hsz]
  have e0 : ({ cls := .type "range_iterator", data := .fields #[rawInt 0, rawInt (n : Int), rawInt 1] } : Obj) = ritObj n 0 := by
    have a1 : (0 + ((0 : Nat) : Int) * 1) = (0 : Int) := by omega
    have a2 : ((n : Int) - ((0 : Nat) : Int)) = (n : Int) := by omega
    unfold ritObj
    rw [a1, a2]
  rw [e0]
  refine codeC_rangeLoop (s := s₁) hh hx hp J (fun i g m X h => hoff i _ g m X h) (fun i g m X h tk t E' => turn i _ g m X h tk t E') (fun g m X h tk => done _ g m X h tk) n 0 g m _ _ _ (Nat.zero_add n) (hj0 _ fun q hq => Heap.lt_size (N q hq).1) (F.push _) (N.push F _) (.head _)
end
end Mine
end

/-! part LV -/
section
open PySem PySem.W PyProof.Rows PySem.Spec PySem.Calls
open PyProof.Rows.LCg (lst NsObj lst_snoc ns_obj)
open PySem.SeqAt (EqAt RcNeAt.tuples)
set_option maxRecDepth 100000
namespace Mine

section
variable {prog : Program} {w : World} {A : Around} {R : Result → Shared → Prop} {s : Shared}
/-- the loop of a comprehension of one clause and one test, whatever its target -/
theorem loop_G {elt target iter ct : PySem.Expr} {scope : Scope} {pos : Pos} {it acc : Value} {env : Env} (I : Nat → Shared → Prop)
    (turn : ∀ n s, I n s → wpAny (model prog w) A (pyNext it) (fun r s₁ => match r with
      | none => R (.ok .next) s₁
      | some v => wpAny (model prog w) A (letOwnedTupleGo target it v) (fun _ s₂ => wpAny (model prog w) A (assign target env v) (fun _ s₃ => wpAny (model prog w) A (isTrue ct env (eval ct env)) (fun ok s₄ =>
          if ok = true then wpAny (model prog w) A (eval elt env) (fun x s₅ => wpAny (model prog w) A (call (.builtin "list.append") [acc, x]) (fun _ s₆ => ∃ m, m < n ∧ I m s₆) (notedBy (model prog w) A env fun e s' => R (.error e) s') s₅) (notedBy (model prog w) A env fun e s' => R (.error e) s') s₄
          else ∃ m, m < n ∧ I m s₄) (notedBy (model prog w) A env fun e s' => R (.error e) s') s₃) (notedBy (model prog w) A env fun e s' => R (.error e) s') s₂) (notedBy (model prog w) A env fun e s' => R (.error e) s') s₁)
      (notedBy (model prog w) A env fun e s' => R (.error e) s') s) (n : Nat) (h : I n s) :
    codeAny (model prog w) A (.compLoop (.ListComp elt [⟨target, iter, [ct], 0⟩] scope pos) 0 it acc env) R s := by
  refine codeAny_loop rfl I (fun n s hI => ?_) n h
  show wpAny _ A ((compTurn (.ListComp elt [⟨target, iter, [ct], 0⟩] scope pos) 0 it acc env).onRaise (fun x => do noteFrame x env; theTreesLotGoes x)) _ _ s
  refine wpAny_noted ?_
  rw [compTurn_list]
  refine wpAny_bind (wpAny_standAt (wpAny_bind (wpAny_mono (turn n s hI) (fun r s₁ h₁ => ?_) fun _ _ z => z)))
  cases r with
  | none => exact wpAny_pure h₁
  | some v =>
    refine wpAny_bind (wpAny_mono h₁ (fun _ s₂ h₂ => wpAny_bind (wpAny_mono h₂ (fun _ s₃ h₃ => wpAny_bind (wpAny_tests_one (wpAny_mono h₃ (fun ok s₄ h₄ => ?_) fun _ _ z => z))) fun _ _ z => z)) fun _ _ z => z)
    cases ok with
    | false => exact wpAny_pure ⟨rfl, h₄⟩
    | true => exact wpAny_bind (wpAny_bind (wpAny_mono h₄ (fun x s₅ h₅ => wpAny_bind (wpAny_mono h₅ (fun _ s₆ h₆ => wpAny_pure (wpAny_pure ⟨rfl, h₆⟩)) fun _ _ z => z)) fun _ _ z => z))
end

/-- where a turn ends: the frames and the ledger stand, and P holds -/
def GEnd (h₀ : Heap) (L : Addr) (m : Str → Option Value) (led : List (Addr × Obj)) (s₁ : Shared) (P : Prop) (s₂ : Shared) : Prop := ∃ h' tk, s₂ = { s₁ with heap := h', toks := tk } ∧ Fr h₀ L h' m ∧ News h₀ L h' led ∧ P
def GTest (prog : Program) (w : World) (A : Around) (h₀ : Heap) (L : Addr) (m : Str → Option Value) (led : List (Addr × Obj)) (s₁ : Shared) (cenv : Env) (elt : PySem.Expr) (J : List Value → Prop) (ys : List Value) (E : Value → Shared → Prop) (ok : Bool) (s₄ : Shared) : Prop :=
  if ok = true then wpAny (model prog w) A (eval elt cenv) (fun y => GEnd h₀ L m led s₁ (J (ys ++ [y]))) E s₄ else GEnd h₀ L m led s₁ (J ys) s₄

/-- what binding the target does -/
def Binds (prog : Program) (w : World) (A : Around) (target : PySem.Expr) (cenv : Env) (I : Addr) (v : Value) (news : List (Addr × Obj)) (Pm : (Str → Option Value) → Prop) : Prop :=
  ∀ (s : Shared) (m' : Str → Option Value) (l : Addr) (i : Nat) (Q : Unit → Shared → Prop) (E : Value → Shared → Prop), s.heap.Ns cenv.locals m' → s.heap.IsListIter I l i → (∀ p ∈ news, s.heap.get? p.1 = some p.2) →
    (∀ h' tk m₂, (∀ b o, b ≠ cenv.locals → s.heap.get? b = some o → h'.get? b = some o) → h'.Ns cenv.locals m₂ → Pm m₂ → Q () { s with heap := h', toks := tk }) →
    wpAny (model prog w) A (letOwnedTupleGo target (.ref I) v) (fun _ s₂ => wpAny (model prog w) A (assign target cenv v) Q E s₂) E s

def SrcG (prog : Program) (w : World) (A : Around) (h₀ : Heap) (L : Addr) (m : Str → Option Value) (env : Env) (target ct elt : PySem.Expr) (scope : Scope) (cl : List (Str × Addr)) (Q : Value → Shared → Prop) (xv : Value) (s₁ : Shared) : Prop :=
  ∃ (ax : Addr) (its : List Value) (k : Nat) (news : List (Addr × Obj)) (J : Nat → List Value → Prop) (Pm : Nat → (Str → Option Value) → Prop), xv = .ref ax ∧ A.handled = none ∧ Fr h₀ L s₁.heap m ∧ News h₀ L s₁.heap news ∧ (ax, ({ cls := .type "list", data := .seq its.toArray k } : Obj)) ∈ news ∧ its.length ≤ sizeLine ∧ J 0 [] ∧
    (∀ i v I C, its[i]? = some v → Binds prog w A target (compEnvC scope cl C env) I v news (Pm i)) ∧
    (∀ i v ys I oI C oC D m₂ h tk (E' : Value → Shared → Prop), its[i]? = some v → J i ys → NsObj oC m₂ → Pm i m₂ → Fr h₀ L h m → News h₀ L h ((I, oI) :: (C, oC) :: (D, lst ys) :: news) →
      wpAny (model prog w) A (isTrue ct (compEnvC scope cl C env) (eval ct (compEnvC scope cl C env))) (GTest prog w A h₀ L m ((I, oI) :: (C, oC) :: (D, lst ys) :: news) { s₁ with heap := h, toks := tk } (compEnvC scope cl C env) elt (J (i + 1)) ys E') E' { s₁ with heap := h, toks := tk }) ∧
    ∀ D h tk ys, J its.length ys → Fr h₀ L h m → News h₀ L h ((D, lst ys) :: news) → (∀ p ∈ news, p.1 < D) → Q (.ref D) { s₁ with heap := h, toks := tk }

section
variable {prog : Program} {w : World} {A : Around} {E : Value → Shared → Prop} {s : Shared} {h₀ : Heap} {L : Addr} {m : Str → Option Value} {env : Env}
def SrcU (prog : Program) (w : World) (A : Around) (h₀ : Heap) (L : Addr) (m : Str → Option Value) (env : Env) (target ct elt : PySem.Expr) (scope : Scope) (cl : List (Str × Addr)) (PP : Value → Addr → Result → Shared → Prop) (xv : Value) (s₁ : Shared) : Prop :=
  ∃ (ax : Addr) (its : List Value) (k : Nat) (news : List (Addr × Obj)) (J : Nat → List Value → Prop) (Pm : Nat → (Str → Option Value) → Prop), xv = .ref ax ∧ A.handled = none ∧ Fr h₀ L s₁.heap m ∧ News h₀ L s₁.heap news ∧ (ax, ({ cls := .type "list", data := .seq its.toArray k } : Obj)) ∈ news ∧ its.length ≤ sizeLine ∧ J 0 [] ∧
    (∀ i v I C, its[i]? = some v → Binds prog w A target (compEnvC scope cl C env) I v news (Pm i)) ∧
    (∀ i v ys I oI C oC D m₂ h tk (E' : Value → Shared → Prop), its[i]? = some v → J i ys → NsObj oC m₂ → Pm i m₂ → Fr h₀ L h m → News h₀ L h ((I, oI) :: (C, oC) :: (D, lst ys) :: news) →
      wpAny (model prog w) A (isTrue ct (compEnvC scope cl C env) (eval ct (compEnvC scope cl C env))) (GTest prog w A h₀ L m ((I, oI) :: (C, oC) :: (D, lst ys) :: news) { s₁ with heap := h, toks := tk } (compEnvC scope cl C env) elt (J (i + 1)) ys E') E' { s₁ with heap := h, toks := tk }) ∧
    ∀ D C h tk ys m', J its.length ys → Fr h₀ L h m → News h₀ L h ((D, lst ys) :: news) → (∀ p ∈ news, p.1 < D) → h.Ns C m' → h₀.get? C = none → L ≠ C → D < C → PP (.ref D) C (.ok .next) { s₁ with heap := h, toks := tk }

theorem comp_core {target ct elt iter : PySem.Expr} {scope : Scope} {cl : List (Str × Addr)} {pos : Pos} {PP : Value → Addr → Result → Shared → Prop} {xv : Value} {s₁ : Shared}
    (hcell : ∀ y ∈ scope.names, y.2 ≠ .cell) (hkind : scope.kind = .function) (h₁ : SrcU prog w A h₀ L m env target ct elt scope cl PP xv s₁) :
    wpAny (model prog w) A (pyIter xv) (fun it s₂ => wpAny (model prog w) A (newList []) (fun acc s₃ => wpAny (model prog w) A (newFunctionEnv scope env.globals cl [] env.qual none .none (some env)) (fun cenv s₄ =>
        codeAny (model prog w) A (.compStart (.ListComp elt [⟨target, iter, [ct], 0⟩] scope pos) 0 it acc { cenv with scope := relabel scope env }) (PP acc cenv.locals) s₄) E s₃) E s₂) E s₁ := by
  obtain ⟨ax, its, k, news, J, Pm, rfl, hh, F, N, hm, hsz, hj0, hbind, hturn, hfin⟩ := h₁
  have hl : s₁.heap.IsList ax its.toArray := ⟨_, (N _ hm).1, rfl, _, rfl⟩
  have hlt : ax < s₁.heap.objs.size := Heap.lt_size (N _ hm).1
  refine wpAny_pyIter_list hl ?_
  have up1 : ∀ b o, s₁.heap.get? b = some o → (s₁.heap.push { cls := .type "list_iterator", data := .fields #[.ref ax, .int 0 0] }).get? b = some o := fun b o e => Heap.get?_push_of_some _ e
  have hLlt : L < s₁.heap.objs.size := F.ns.lt
  have fresh₀ : ∀ a, s₁.heap.objs.size ≤ a → h₀.get? a = none := fun a ha => by
    cases e : h₀.get? a with
    | none => rfl
    | some o' => exact absurd (Heap.lt_size (F.keep a o' e)) (Nat.not_lt.mpr ha)
  have hit0 : (s₁.heap.push { cls := .type "list_iterator", data := .fields #[.ref ax, .int 0 0] }).IsListIter s₁.heap.objs.size ax 0 := ⟨_, Heap.get?_push_size _ rfl, rfl, rfl⟩
  have hIsz : (s₁.heap.push { cls := .type "list_iterator", data := .fields #[.ref ax, .int 0 0] }).objs.size = s₁.heap.objs.size + 1 := Heap.size_push _ _
  generalize s₁.heap.push { cls := .type "list_iterator", data := .fields #[.ref ax, .int 0 0] } = H1 at up1 hit0 hIsz ⊢
  refine wpAny_newObj_type (wpAny_newFunctionEnv hcell (by intro y hy; simp at hy) (fun h₁ hns₁ hsb₁ => ?_) hkind)
  dsimp only at hns₁ hsb₁ ⊢
  have up2 : ∀ b o, H1.get? b = some o → (H1.push { cls := .type "list", dict := none, data := .seq ([] : List Value).toArray }).get? b = some o := fun b o e => Heap.get?_push_of_some _ e
  have hD2 : (H1.push { cls := .type "list", dict := none, data := .seq ([] : List Value).toArray }).get? H1.objs.size = some (lst []) := Heap.get?_push_size _ rfl
  have hDsz : (H1.push { cls := .type "list", dict := none, data := .seq ([] : List Value).toArray }).objs.size = H1.objs.size + 1 := Heap.size_push _ _
  generalize H1.push { cls := .type "list", dict := none, data := .seq ([] : List Value).toArray } = H2 at up2 hD2 hDsz hns₁ hsb₁ ⊢
  have up3 : ∀ b o, H2.get? b = some o → h₁.get? b = some o := fun b o e => hsb₁.extBut b o (Nat.ne_of_lt (Heap.lt_size e)) (Heap.get?_push_of_some _ e)
  generalize hIe : s₁.heap.objs.size = I at *
  generalize hDe : H1.objs.size = D at *
  generalize hCe : H2.objs.size = C at *
  have hID : I ≠ D := by omega
  have hIC : I ≠ C := by omega
  have hDC : D ≠ C := by omega
  have hIDl : I < D := by omega
  have hICl : I < C := by omega
  have hDCl : D < C := by omega
  have hLI : L ≠ I := Nat.ne_of_lt hLlt
  have hLD : L ≠ D := Nat.ne_of_lt (Nat.lt_trans hLlt hIDl)
  have hLC : L ≠ C := Nat.ne_of_lt (Nat.lt_trans hLlt hICl)
  have nlt : ∀ p ∈ news, p.1 < I := fun p hp => hIe ▸ Heap.lt_size (N p hp).1
  have hI₀ : h₀.get? I = none := fresh₀ I (Nat.le_refl _)
  have hD₀ : h₀.get? D = none := fresh₀ D (by omega)
  have hC₀ : h₀.get? C = none := fresh₀ C (by omega)
  have W := Walks.list (prog := prog) (w := w) hh I ax (Nat.ne_of_lt hlt) its.toArray
  have hsize : its.toArray.size = its.length := List.size_toArray
  have loop : codeAny (model prog w) A (.compLoop (.ListComp elt [⟨target, iter, [ct], 0⟩] scope pos) 0 (.ref I) (.ref D) (compEnvC scope cl C env)) (PP (.ref D) C) { s₁ with heap := h₁, toks := s₁.toks + ([] : List (Str × Value)).length } := by
    refine loop_G (fun n s' => ∃ h' tk i ys m', s' = { s₁ with heap := h', toks := tk } ∧ i ≤ its.length ∧ n = its.length + 1 - i ∧ ys.length ≤ i ∧ h'.IsListIter I ax i ∧ Fr h₀ L h' m ∧ h'.Ns C m' ∧ News h₀ L h' ((D, lst ys) :: news) ∧ J i ys) ?_ (its.length + 1)
      ⟨h₁, _, 0, [], _, rfl, Nat.zero_le _, rfl, Nat.le_refl _, hit0.at fun o e => up3 _ o (up2 _ o e), F.keeps fun b o e => up3 _ o (up2 _ o (up1 _ o e)), hns₁, fun p hp => ?_, hj0⟩
    · rintro n s' ⟨h', tk, i, ys, m', rfl, hi, rfl, hyl, hit', F', hn', N', hJ'⟩
      have hlist' : h'.IsList ax its.toArray := ⟨_, (N' _ (.tail _ hm)).1, rfl, _, rfl⟩
      by_cases hlti : i < its.length
      · refine W.item i _ _ _ (hsize ▸ hlti) ⟨hit', hlist'⟩ fun v h₂ tk₂ hPv hst₂ hk₂ => ?_
        have hv : its[i]? = some v := by simpa using hPv
        have hk2 : ∀ b o, b ≠ I → h'.get? b = some o → h₂.get? b = some o := fun b o hb e => hk₂ b o (by simpa using hb) e
        have F2 : Fr h₀ L h₂ m := ⟨F'.ns.at' fun o e => hk2 L o hLI e, fun b o e => hk2 b o (fun q => by rw [q, hI₀] at e; cases e) (F'.keep b o e), F'.above⟩
        have N2 : News h₀ L h₂ ((D, lst ys) :: news) := fun p hp => by
          refine ⟨hk2 _ _ ?_ (N' p hp).1, (N' p hp).2⟩
          rcases List.mem_cons.mp hp with e | hp
          · rw [e]; exact hID.symm
          · exact Nat.ne_of_lt (nlt p hp)
        refine hbind i v I C hv { s₁ with heap := h₂, toks := tk₂ } m' ax (i + 1) _ _ (hn'.at' fun o e => hk2 C o hIC.symm e) hst₂.1 (fun p hp => (N2 p (.tail _ hp)).1) fun h₃ tk₃ m₂ hk₃ hn₃ hPm => ?_
        have hit₃ : h₃.IsListIter I ax (i + 1) := hst₂.1.at fun o e => hk₃ I o hIC e
        obtain ⟨oI, heI, hoI⟩ := id hit₃
        obtain ⟨oC, heC, hoC⟩ := ns_obj hn₃
        have F3 : Fr h₀ L h₃ m := ⟨F2.ns.at' fun o e => hk₃ L o hLC e, fun b o e => hk₃ b o (fun q => by rw [show b = C from q, hC₀] at e; cases e) (F2.keep b o e), F2.above⟩
        have N3 : News h₀ L h₃ ((I, oI) :: (C, oC) :: (D, lst ys) :: news) := fun p hp => by
          rcases List.mem_cons.mp hp with e | hp
          · rw [e]; exact ⟨heI, hLI.symm, hI₀⟩
          · rcases List.mem_cons.mp hp with e | hp
            · rw [e]; exact ⟨heC, hLC.symm, hC₀⟩
            · refine ⟨hk₃ _ _ ?_ (N2 p hp).1, (N2 p hp).2⟩
              rcases List.mem_cons.mp hp with e | hp
              · rw [e]; exact hDC
              · exact Nat.ne_of_lt (Nat.lt_trans (nlt p hp) hICl)
        refine wpAny_mono (hturn i v ys I oI C oC D m₂ h₃ tk₃ _ hv hJ' hoC hPm F3 N3) (fun ok s₄ h₄ => ?_) fun _ _ e => e
        unfold GTest at h₄
        cases ok with
        | true =>
          simp only [if_true] at h₄ ⊢
          refine wpAny_mono h₄ (fun y s₅ h₅ => ?_) fun _ _ e => e
          obtain ⟨h₅, tk₅, rfl, F₅, N₅, hJ₅⟩ := h₅
          refine append_at (hsz := by rw [List.size_toArray]; exact Nat.le_trans (Nat.le_trans hyl hi) hsz) (N₅ _ (.tail _ (.tail _ (.head _)))).1 fun h₆ hs₆ hD₆ => ?_
          have hk6 : ∀ b o, b ≠ D → h₅.get? b = some o → h₆.get? b = some o := fun b o hb e => (hs₆.2 b hb).trans e
          refine ⟨its.length + 1 - (i + 1), by omega, h₆, tk₅, i + 1, ys ++ [y], m₂, rfl, hlti, rfl, by rw [List.length_append, List.length_singleton]; omega, ⟨oI, hk6 I _ hID (N₅ _ (.head _)).1, hoI⟩, ⟨F₅.ns.at' fun o e => hk6 L o hLD e, fun b o e => hk6 b o (fun q => by rw [q, hD₀] at e; cases e) (F₅.keep b o e), F₅.above⟩,
            hoC.ns (hk6 C _ hDC.symm (N₅ _ (.tail _ (.head _))).1), fun p hp => ?_, hJ₅⟩
          rcases List.mem_cons.mp hp with e | hp
          · rw [e]; exact ⟨hD₆.trans (congrArg some (lst_snoc ys y)), hLD.symm, hD₀⟩
          · exact ⟨hk6 _ _ (Nat.ne_of_lt (Nat.lt_trans (nlt p hp) (by omega))) (N₅ p (.tail _ (.tail _ (.tail _ hp)))).1, (N₅ p (.tail _ (.tail _ (.tail _ hp)))).2⟩
        | false =>
          simp only [Bool.false_eq_true, if_false] at h₄ ⊢
          obtain ⟨h₅, tk₅, rfl, F₅, N₅, hJ₅⟩ := h₄
          exact ⟨its.length + 1 - (i + 1), by omega, h₅, tk₅, i + 1, ys, m₂, rfl, hlti, rfl, Nat.le_succ_of_le hyl, ⟨oI, (N₅ _ (.head _)).1, hoI⟩, F₅, hoC.ns (N₅ _ (.tail _ (.head _))).1, fun p hp => N₅ p (.tail _ (.tail _ hp)), hJ₅⟩
      · obtain rfl : i = its.length := Nat.le_antisymm hi (Nat.not_lt.mp hlti)
        refine W.done _ _ _ (hsize.symm ▸ ⟨hit', hlist'⟩) fun h₂ tk₂ hk₂ => ?_
        have hk2 : ∀ b o, b ≠ I → h'.get? b = some o → h₂.get? b = some o := fun b o hb e => hk₂ b o (by simpa using hb) e
        refine hfin D C h₂ tk₂ ys m' hJ' ⟨F'.ns.at' fun o e => hk2 L o hLI e, fun b o e => hk2 b o (fun q => by rw [q, hI₀] at e; cases e) (F'.keep b o e), F'.above⟩ (fun p hp => ?_) (fun p hp => Nat.lt_trans (nlt p hp) hIDl) (hn'.at' fun o e => hk2 C o hIC.symm e) hC₀ hLC hDCl
        rcases List.mem_cons.mp hp with e | hp
        · rw [e]; exact ⟨hk2 _ _ hID.symm (N' _ (.head _)).1, hLD.symm, hD₀⟩
        · exact ⟨hk2 _ _ (Nat.ne_of_lt (nlt p hp)) (N' p (.tail _ hp)).1, (N' p (.tail _ hp)).2⟩
    · rcases List.mem_cons.mp hp with e | hp
      · rw [e]; exact ⟨up3 _ _ hD2, hLD.symm, hD₀⟩
      · exact ⟨up3 _ _ (up2 _ _ (up1 _ _ (N p hp).1)), (N p hp).2⟩
  exact codeAny_compStart_list loop (W.self 0 _ _ _ ⟨hit0.at fun o e => up3 _ o (up2 _ o e), hl.at fun o e => up3 _ o (up2 _ o (up1 _ o e))⟩ loop)

theorem comp_out {m : Str → Option Value} {D C : Addr} {h : Heap} {ys : List Value} {news : List (Addr × Obj)} (F : Fr h₀ L h m) (N : News h₀ L h ((D, lst ys) :: news)) (hlt : ∀ p ∈ news, p.1 < D) (hC₀ : h₀.get? C = none) (hLC : L ≠ C) (hDC : D < C) {h'' : Heap} (hs : Heap.SameBut C h h'') : Fr h₀ L h'' m ∧ News h₀ L h'' ((D, lst ys) :: news) := by
  have hk : ∀ b o, b ≠ C → h.get? b = some o → h''.get? b = some o := fun b o hb e => (hs.2 b hb).trans e
  refine ⟨⟨F.ns.at' fun o e => hk L o hLC e, fun b o e => hk b o (fun q => by rw [q, hC₀] at e; cases e) (F.keep b o e), F.above⟩, fun p hp => ⟨hk _ _ ?_ (N p hp).1, (N p hp).2⟩⟩
  rcases List.mem_cons.mp hp with e | hp
  · rw [e]; exact Nat.ne_of_lt hDC
  · exact Nat.ne_of_lt (Nat.lt_trans (hlt p hp) hDC)
theorem ListComp_G {target ct elt iter : PySem.Expr} {scope : Scope} {cl : List (Str × Addr)} {pos : Pos} {Q : Value → Shared → Prop} (_F₀ : Fr h₀ L s.heap m)
    (hclos : closureFor scope env = pure cl) (hcell : ∀ y ∈ scope.names, y.2 ≠ .cell) (hkind : scope.kind = .function)
    (hnames : ∀ y ∈ scope.names, y.2 = .local → scope.names.lookup y.1 = some .local)
    (h : wpAny (model prog w) A (eval iter env) (SrcG prog w A h₀ L m env target ct elt scope cl Q) E s)
    (hs : ∀ x, foldedSetIterable iter env x = pure x := by intro _; rfl) :
    wpAny (model prog w) A (eval (.ListComp elt [⟨target, iter, [ct], 0⟩] scope pos) env) Q E s := by
  rw [eval_ListComp]
  refine wpAny_comprehension_free (use := none) rfl hs hclos hkind hnames (wpAny_mono h (fun xv s₁ h₁ => comp_core (h₀ := h₀) (L := L) (m := m) hcell hkind ?_) fun _ _ e => e)
  obtain ⟨ax, its, k, news, J, Pm, rfl, hh, F, N, hm, hsz, hj0, hbind, hturn, hfin⟩ := h₁
  refine ⟨ax, its, k, news, J, Pm, rfl, hh, F, N, hm, hsz, hj0, hbind, hturn, fun D C h tk ys m' hJ F' N' hlt hn hC₀ hLC hDC => ⟨m', hn, fun h'' hs'' => ?_⟩⟩
  obtain ⟨F2, N2⟩ := comp_out F' N' hlt hC₀ hLC hDC hs''
  exact hfin D h'' tk ys hJ F2 N2 hlt
def SrcA (prog : Program) (w : World) (A : Around) (h₀ : Heap) (L : Addr) (m : Str → Option Value) (env : Env) (target ct elt : PySem.Expr) (scope : Scope) (cl : List (Str × Addr)) (y : Str) (Q : Flow → Shared → Prop) (xv : Value) (s₁ : Shared) : Prop :=
  ∃ (ax : Addr) (its : List Value) (k : Nat) (news : List (Addr × Obj)) (J : Nat → List Value → Prop) (Pm : Nat → (Str → Option Value) → Prop), xv = .ref ax ∧ A.handled = none ∧ Fr h₀ L s₁.heap m ∧ News h₀ L s₁.heap news ∧ (ax, ({ cls := .type "list", data := .seq its.toArray k } : Obj)) ∈ news ∧ its.length ≤ sizeLine ∧ J 0 [] ∧
    (∀ i v I C, its[i]? = some v → Binds prog w A target (compEnvC scope cl C env) I v news (Pm i)) ∧
    (∀ i v ys I oI C oC D m₂ h tk (E' : Value → Shared → Prop), its[i]? = some v → J i ys → NsObj oC m₂ → Pm i m₂ → Fr h₀ L h m → News h₀ L h ((I, oI) :: (C, oC) :: (D, lst ys) :: news) →
      wpAny (model prog w) A (isTrue ct (compEnvC scope cl C env) (eval ct (compEnvC scope cl C env))) (GTest prog w A h₀ L m ((I, oI) :: (C, oC) :: (D, lst ys) :: news) { s₁ with heap := h, toks := tk } (compEnvC scope cl C env) elt (J (i + 1)) ys E') E' { s₁ with heap := h, toks := tk }) ∧
    ∀ D h tk ys, J its.length ys → Fr h₀ L h (fun z => if z = y then some (.ref D) else m z) → News h₀ L h ((D, lst ys) :: news) → (∀ p ∈ news, p.1 < D) → Q .next { s₁ with heap := h, toks := tk }
theorem Assign_ListComp_G {target ct elt iter : PySem.Expr} {scope : Scope} {cl : List (Str × Addr)} {pos spos : Pos} {y : Str} {py : Pos} {Q : Flow → Shared → Prop} (_F₀ : Fr h₀ L s.heap m) (hLe : env.locals = L)
    (hsw : swapsWith (.ListComp elt [⟨target, iter, [ct], 0⟩] scope pos) (some (.Name y py)) spos.line env = pure true)
    (hclos : closureFor scope env = pure cl) (hcell : ∀ y ∈ scope.names, y.2 ≠ .cell) (hkind : scope.kind = .function)
    (hnames : ∀ y ∈ scope.names, y.2 = .local → scope.names.lookup y.1 = some .local)
    (hy : env.kindOf y = some .local) (hp : (env.scope.kind == .class || (env.scope.kind == .module && env.locals != env.globals)) = false)
    (h : wpAny (model prog w) A (eval iter env) (SrcA prog w A h₀ L m env target ct elt scope cl y Q) E s)
    (hs : ∀ x, foldedSetIterable iter env x = pure x := by intro _; rfl) :
    wpAny (model prog w) A (exec (.Assign [.Name y py] (.ListComp elt [⟨target, iter, [ct], 0⟩] scope pos) spos) env) Q E s := by
  subst hLe
  rw [exec_Assign_Name_used _ _ _ _ hsw]
  refine wpAny_bind (wpAny_standAt (wpAny_bind ?_))
  show wpAny _ A (do let _ ← comprehension (.ListComp elt [⟨target, iter, [ct], 0⟩] scope pos) scope env _ (newList []) false (eval iter env) (some (assign (.Name y py) env))) _ _ s
  refine wpAny_bind (wpAny_mono (wpAny_comprehension_free (use := some (assign (.Name y py) env)) (Q := fun _ s' => Q .next s') rfl hs hclos hkind hnames
    (wpAny_mono h (fun xv s₁ h₁ => comp_core (h₀ := h₀) (L := env.locals) (m := m) hcell hkind ?_) fun _ _ e => e)) (fun _ s' hq => wpAny_pure (wpAny_pure hq)) fun _ _ e => e)
  obtain ⟨ax, its, k, news, J, Pm, rfl, hh, F, N, hm, hsz, hj0, hbind, hturn, hfin⟩ := h₁
  refine ⟨ax, its, k, news, J, Pm, rfl, hh, F, N, hm, hsz, hj0, hbind, hturn, fun D C h tk ys m' hJ F' N' hlt hn hC₀ hLC hDC => ?_⟩
  show wpAny _ A (assign (.Name y py) env (.ref D)) _ _ _
  refine wpAny_assign_Name (wpAny_storeName_local hy F'.ns (fun h₂ hn₂ hs₂ => ?_) hp)
  have hL₀ : h₀.get? env.locals = none := Heap.get?_none_of_le F'.above
  have F₂ : Fr h₀ env.locals h₂ (fun z => if z = y then some (.ref D) else m z) := ⟨hn₂, fun b o e => hs₂.extBut b o (fun q => by rw [q, hL₀] at e; cases e) (F'.keep b o e), F'.above⟩
  have N₂ : News h₀ env.locals h₂ ((D, lst ys) :: news) := fun p hp => ⟨hs₂.extBut _ _ (N' p hp).2.1 (N' p hp).1, (N' p hp).2⟩
  refine ⟨m', hn.sameBut hs₂ (fun q => hLC q.symm), fun h'' hs'' => ?_⟩
  obtain ⟨F3, N3⟩ := comp_out F₂ N₂ hlt hC₀ hLC hDC hs''
  exact hfin D h'' _ ys hJ F3 N3 hlt
end

section
variable {prog : Program} {w : World} {A : Around} {scope : Scope} {cl : List (Str × Addr)} {C I : Addr} {env : Env} {news : List (Addr × Obj)} {v : Value}
theorem bind_name {x : Str} {px : Pos} (hx : scope.names.lookup x = some .local) (hkind : scope.kind = .function) :
    Binds prog w A (.Name x px) (compEnvC scope cl C env) I v news (fun m₂ => m₂ x = some v) := by
  intro s m' l i Q E hns hit hk hQ
  refine wpAny_of_eq (show letOwnedTupleGo _ _ _ = pure () by rfl) ?_
  exact wpAny_assign_Name (wpAny_storeName_local (lookup_relabel_local hx) hns (fun h₃ hn₃ hs₃ => hQ h₃ _ _ (fun b o hb e => hs₃.extBut b o hb e) hn₃ (by simp)) (by simp [compEnvC, relabel, hkind]))
theorem bind_tup3 {x y z : Str} {px py pz tp : Pos} {tk} {t : Addr} {ot : Obj} {v1 v2 v3 : Value} {nt : Nat} (hh : A.handled = none) (hx : scope.names.lookup x = some .local) (hy : scope.names.lookup y = some .local) (hz : scope.names.lookup z = some .local)
    (hxy : x ≠ y) (hxz : x ≠ z) (hyz : y ≠ z) (hkind : scope.kind = .function) (hm : (t, ot) ∈ news) (hc : ot.cls = .type "tuple") (hd : ot.data = .seq #[v1, v2, v3] nt) :
    Binds prog w A (.Tuple [.Name x px, .Name y py, .Name z pz] tk tp) (compEnvC scope cl C env) I (.ref t) news (fun m₂ => m₂ x = some v1 ∧ m₂ y = some v2 ∧ m₂ z = some v3) := by
  intro s m' l i Q E hns hit hk hQ
  refine wpAny_letOwnedTupleGo_listiter hit ?_
  refine assign_Tuple_tuple hh (⟨ot, hk _ hm, hc, nt, hd⟩ : IsTup s.heap t #[v1, v2, v3]) rfl rfl fun h₅ he => ?_
  have he' : ∀ b o, s.heap.get? b = some o → h₅.get? b = some o := fun b o e => he b o (Nat.ne_of_lt (Heap.lt_size e)) e
  refine assignInOrder_cons (wpAny_assign_Name (wpAny_storeName_local (lookup_relabel_local hx) (hns.at' fun o e => he' _ o e) (fun h₆ hn₆ hs₆ => ?_) (by simp [compEnvC, relabel, hkind])))
  refine assignInOrder_cons (wpAny_assign_Name (wpAny_storeName_local (lookup_relabel_local hy) hn₆ (fun h₇ hn₇ hs₇ => ?_) (by simp [compEnvC, relabel, hkind])))
  refine assignInOrder_cons (wpAny_assign_Name (wpAny_storeName_local (lookup_relabel_local hz) hn₇ (fun h₈ hn₈ hs₈ => ?_) (by simp [compEnvC, relabel, hkind])))
  refine assignInOrder_nil ?_
  exact hQ h₈ _ _ (fun b o hb e => hs₈.extBut b o hb (hs₇.extBut b o hb (hs₆.extBut b o hb (he' b o e)))) hn₈ ⟨by simp [hxy, hxz], by simp [hyz], by simp⟩
end

/-- the law's own rows: a list of tuples (owner, file, number) -/
abbrev Row := MK × Str × Int
def RowAt (X : List (Addr × Obj)) (v : Value) (r : Row) : Prop :=
  ∃ t ot ov tn tk nt, v = .ref t ∧ (t, ot) ∈ X ∧ ot.cls = .type "tuple" ∧ ot.data = .seq #[ov, .str r.2.1 tn, .int r.2.2 tk] nt ∧ r.1.is ov = true
inductive RowsAre (X : List (Addr × Obj)) : List Value → List Row → Prop
  | nil : RowsAre X [] []
  | cons {v r vs rs} : RowAt X v r → RowsAre X vs rs → RowsAre X (v :: vs) (r :: rs)
def RowsIn (X : List (Addr × Obj)) (la : Addr) (rows : List Row) : Prop := ∃ its k, (la, ({ cls := .type "list", data := .seq its.toArray k } : Obj)) ∈ X ∧ RowsAre X its rows
section
variable {X X' : List (Addr × Obj)}
theorem RowAt.mono {v : Value} {r : Row} (h : RowAt X v r) (hs : ∀ p ∈ X, p ∈ X') : RowAt X' v r :=
  let ⟨t, ot, ov, tn, tk, nt, a, b, c⟩ := h; ⟨t, ot, ov, tn, tk, nt, a, hs _ b, c⟩
theorem RowsAre.mono {vs : List Value} {rs : List Row} (h : RowsAre X vs rs) (hs : ∀ p ∈ X, p ∈ X') : RowsAre X' vs rs := by
  induction h with
  | nil => exact .nil
  | cons a _ ih => exact .cons (a.mono hs) ih
theorem RowsIn.mono {la : Addr} {rs : List Row} (h : RowsIn X la rs) (hs : ∀ p ∈ X, p ∈ X') : RowsIn X' la rs :=
  let ⟨its, k, a, b⟩ := h; ⟨its, k, hs _ a, b.mono hs⟩
theorem RowsAre.length {vs : List Value} {rs : List Row} (h : RowsAre X vs rs) : vs.length = rs.length := by
  induction h with
  | nil => rfl
  | cons _ _ ih => simp [ih]
theorem RowsAre.get {vs : List Value} {rs : List Row} (h : RowsAre X vs rs) : ∀ {i : Nat} {v : Value}, vs[i]? = some v → ∃ r, rs[i]? = some r ∧ RowAt X v r := by
  induction h with
  | nil => intro i v hv; simp at hv
  | cons a _ ih =>
    intro i v hv
    cases i with
    | zero =>
      have e := Option.some.inj hv
      exact ⟨_, rfl, e ▸ a⟩
    | succ i =>
      obtain ⟨r, h1, h2⟩ := ih (show _ from hv)
      exact ⟨r, h1, h2⟩
theorem RowsAre.snoc {vs : List Value} {rs : List Row} {v : Value} {r : Row} (h : RowsAre X vs rs) (hr : RowAt X v r) : RowsAre X (vs ++ [v]) (rs ++ [r]) := by
  induction h with
  | nil => exact .cons hr .nil
  | cons a _ ih => exact .cons a ih
theorem RowsAre.append {vs vs' : List Value} {rs rs' : List Row} (h : RowsAre X vs rs) (h' : RowsAre X vs' rs') : RowsAre X (vs ++ vs') (rs ++ rs') := by
  induction h with
  | nil => exact h'
  | cons a _ ih => exact .cons a ih
end

section
variable {prog : Program} {w : World} {A : Around} {E : Value → Shared → Prop} {s : Shared} {t1 t2 : Addr} {a b : MK} {u v : Value} {n1 n2 : Str} {x y : Tok}
theorem eqAt_mk {A : Around} {s : Shared} (hu : a.is u = true) (hv : b.is v = true) : EqAt A s u v (decide (a = b)) := fun prog w _ _ h => (mixKind prog w).eqBool hu hv h
theorem cmpEq_tup2 {Q : Value → Shared → Prop} (h1 : s.heap.IsTuple t1 #[u, .str n1 x]) (h2 : s.heap.IsTuple t2 #[v, .str n2 y]) (hu : a.is u = true) (hv : b.is v = true) (hA : A.units < cLine) (h : Q (.bool (decide (a = b ∧ n1 = n2))) s) :
    wpAny (model prog w) A (compareOp .Eq (.ref t1) (.ref t2)) Q E s := by
  have k1 : IsTupleKey (mixKind prog w) s.heap [a, .ks n1] t1 := let ⟨o, ho, hc, n, hd⟩ := h1; ⟨o, _, n, ho, hc, hd, .cons hu (.cons (by show (_ == _) = true; simp) .nil)⟩
  have k2 : IsTupleKey (mixKind prog w) s.heap [b, .ks n2] t2 := let ⟨o, ho, hc, n, hd⟩ := h2; ⟨o, _, n, ho, hc, hd, .cons hv (.cons (by show (_ == _) = true; simp) .nil)⟩
  have e : decide ([a, MK.ks n1] = [b, MK.ks n2]) = decide (a = b ∧ n1 = n2) := by simp
  show wpAny _ _ (richCompare .Eq (.ref t1) (.ref t2)) _ _ _
  exact wpAny_richCompare_same_room (op := .Eq) k1.typeIs k2.typeIs PySem.F.slot_tuple_eq
    (wpAny_call_entry PySem.F.slot_tuple_eq k1.typeIs PySem.F.entry_tuple_eq (tuple_eq_tree k1 k2 ⟨_, rfl, (fun e => nomatch e), e.symm ▸ h⟩) (PySem.F.args_tuple_eq_2 _ _)) hA
theorem cmpNe_tup2 {Q : Value → Shared → Prop} (h1 : s.heap.IsTuple t1 #[u, .str n1 x]) (h2 : s.heap.IsTuple t2 #[v, .str n2 y]) (hu : a.is u = true) (hv : b.is v = true) (hA : A.units < cLine) (h : Q (.bool (!decide (a = b ∧ n1 = n2))) s) :
    wpAny (model prog w) A (compareOp .NotEq (.ref t1) (.ref t2)) Q E s := by
  show wpAny _ _ (richCompare .NotEq (.ref t1) (.ref t2)) _ _ _
  refine RcNeAt.tuples (e := fun j => if j = 0 then decide (a = b) else decide (n1 = n2)) h1 h2 hA (fun j hj1 hj2 => ?_) prog w E Q ?_
  · match j with
    | 0 => exact eqAt_mk hu hv
    | 1 => exact fun prog w E Q h => wpAny_eqBool_str h
  · have e : (!((List.range (min (#[u, Value.str n1 x] : Array Value).size (#[v, Value.str n2 y] : Array Value).size)).all (fun j => if j = 0 then decide (a = b) else decide (n1 = n2)) && (#[u, Value.str n1 x] : Array Value).size == (#[v, Value.str n2 y] : Array Value).size)) = !decide (a = b ∧ n1 = n2) := by
      by_cases p : a = b <;> by_cases q : n1 = n2 <;> simp [p, q, List.range, List.range.loop]
    rw [e]; exact h
end

section
variable {prog : Program} {w : World} {A : Around} {E : Value → Shared → Prop} {s : Shared} {h₀ : Heap} {L t sl : Addr} {m : Str → Option Value} {news : List (Addr × Obj)} {a b c : Value} {u : Tok}
theorem sliceTo2 {Q : Int × Int × Nat → Shared → Prop} (hs : s.heap.IsSliceOf sl .none (.int 2 u) .none) (h : Q (0, 1, 2) s) :
    wpAny (model prog w) A (Builtin.Slice.sliceApplied (.ref sl) (pure (3 : Int))) Q E s := by
  obtain ⟨os, hos, hcs, hds⟩ := id hs
  unfold Builtin.Slice.sliceApplied Builtin.Slice.sliceFields
  refine wpAny_bind (wpAny_bind (wpAny_field hos hds (x := .none) rfl (wpAny_bind (wpAny_field hos hds (x := .int 2 u) rfl (wpAny_bind (wpAny_field hos hds (x := .none) rfl (wpAny_pure ?_)))))))
  refine wpAny_bind (slicePart_none ?_)
  show wpAny _ _ (if ((1 : Int) == 0) = true then _ else _) _ _ s
  rw [if_neg (by decide)]
  refine wpAny_bind (slicePart_none (wpAny_bind (slicePart_int (wpAny_bind (wpAny_pure ?_)))))
  exact wpAny_pure h
theorem item_to2 {Q : Value → Shared → Prop} (ht : IsTup s.heap t #[a, b, c]) (hs : s.heap.IsSliceOf sl .none (.int 2 u) .none)
    (h : Q (.ref s.heap.objs.size) { s with heap := s.heap.push { cls := .type "tuple", data := .seq #[a, b] } }) : wpAny (model prog w) A (getItem (.ref t) (.ref sl)) Q E s := by
  obtain ⟨os, hos, hcs, hds⟩ := id hs
  have hTs : s.TypeIs (.ref sl) "slice" := ⟨os, hos, hcs⟩
  have hok : sizeOk (.seq #[a, b]) := by show 2 ≤ sizeLine; decide
  unfold getItem
  try with_reducible refine wpAny_holding ?_
  first | refine wpAny_bind (wpAny_pure ?_) | skip
  refine wpAny_bind (wpAny_sequenceKey ht.typeIs (by decide) ?_)
  refine wpAny_bind (wpAny_callSpecial?_slot (name := Str.ofString "__getitem__") ht.typeIs slot_tuple_getitem
    (wpAny_call_entry slot_tuple_getitem ht.typeIs entry_tuple_getitem ?_ (args_tuple_getitem _ _)))
  show wpAny _ _ (Builtin.Tuple.tupleItemsOf (.ref t) >>= _) _ _ s
  refine wpAny_bind (tupleItemsOf_ ht ?_)
  refine wpAny_bind (wpAny_typeOf hTs ?_)
  rw [if_pos (by decide)]
  refine wpAny_bind (sliceTo2 hs ?_)
  show wpAny _ _ (if ((0 : Int) == 0 && (1 : Int) == 1 && (2 : Nat) == 3) = true then _ else _) _ _ s
  rw [if_neg (by decide)]
  have e : ((List.range 2).filterMap fun (k : Nat) => (#[a, b, c] : Array Value)[((0 : Int) + (k : Int) * 1).toNat]?).toArray = #[a, b] := by rfl
  rw [e]
  first
    | exact wpAny_bind (m := Builtin.Tuple.tupleExact _) (wpAny_newObj_type (wpAny_pure ⟨_, rfl, wpAny_pure h⟩) hok)
    | exact wpAny_bind (m := Builtin.Tuple.tupleExact _) (wpAny_newObj_type (wpAny_bind (wpAny_pure (wpAny_pure ⟨_, rfl, wpAny_pure h⟩))) hok)
theorem L_to2 {value slice : PySem.Expr} {Q : Value → Shared → Prop} (F : Fr h₀ L s.heap m) (N : News h₀ L s.heap news) (ht : IsTup s.heap t #[a, b, c])
    (h : ∀ d' h', Fr h₀ L h' m → News h₀ L h' ((d', { cls := .type "tuple", data := .seq #[a, b] }) :: news) → (∀ p ∈ news, p.1 < d') → Q (.ref d') { s with heap := h' })
    (hs : subscripted slice false (.ref t) (.ref s.heap.objs.size) = operate [.ref s.heap.objs.size, .ref t] (getItem (.ref t) (.ref s.heap.objs.size)) := by with_unfolding_all rfl)
    (hg : ∀ r, letTemporaryGo value (.ref t) r = pure () := by intro _; with_unfolding_all rfl) :
    wpAny (model prog w) A (subscriptTail value slice (.ref t) (.ref s.heap.objs.size)) Q E { s with heap := s.heap.push { cls := .type "slice", data := .fields #[.none, .int 2 u, .none] } } := by
  have ht' : IsTup (s.heap.push { cls := .type "slice", data := .fields #[.none, .int 2 u, .none] }) t #[a, b, c] := ht.keeps fun _ _ e => Heap.get?_push_of_some _ e
  refine subscriptTail_ops (s := { s with heap := s.heap.push { cls := .type "slice", data := .fields #[.none, .int 2 u, .none] } }) ht'.typeIs slot_tuple_getitem.lookup (item_to2 ht' (Heap.IsSliceOf.new ..) ?_) hs hg
  have N1 := News.push (F.push { cls := .type "slice", data := .fields #[.none, .int 2 u, .none] }) (N.grown fun _ _ e => Heap.get?_push_of_some _ e) { cls := .type "tuple", data := .seq #[a, b] }
  rw [Heap.size_push] at N1
  show Q (.ref (s.heap.push _).objs.size) _
  rw [Heap.size_push]
  exact h _ _ ((F.push _).push _) N1 fun p hp => Nat.lt_succ_of_lt (Heap.lt_size (N p hp).1)
end
end Mine
end

/-! part T31 -/
section
open PySem PySem.W PyProof.Rows PySem.Spec PySem.Calls
namespace Mine
/-- the law's row of five -/
def five (H : Int) : Int := if H = 0 then 4 else if H = 1 then 3 else if H = 2 then 1 else 0
/-- what the law's own list says is reached -/
def reachR (m lev H : Int) : Int := max m (min lev (five H))
theorem mem5 {x : Int} (h0 : 0 ≤ x) (h4 : x ≤ 4) : x ∈ ([0, 1, 2, 3, 4] : List Int) := by
  simp only [List.mem_cons, List.not_mem_nil, or_false]; omega
theorem lock_all : ∀ m ∈ ([0, 1, 2, 3, 4] : List Int), ∀ lev ∈ ([0, 1, 2, 3, 4] : List Int), ∀ H ∈ ([0, 1, 2, 3, 4] : List Int), (2 ≤ H → m ≤ 1) → (1 ≤ H → m ≤ 3) → lockTo m lev H = reachR m lev H ∧ lockNo m lev H = decide (reachR m lev H < lev) := by decide
theorem reach_all : ∀ m ∈ ([0, 1, 2, 3, 4] : List Int), ∀ lev ∈ ([0, 1, 2, 3, 4] : List Int), ∀ H ∈ ([0, 1, 2, 3, 4] : List Int), (2 ≤ H → m ≤ 1) → (1 ≤ H → m ≤ 3) → (4 ≤ H → m = 0) → 0 ≤ reachR m lev H ∧ reachR m lev H ≤ 4 ∧ (2 ≤ H → reachR m lev H ≤ 1) ∧ (1 ≤ H → reachR m lev H ≤ 3) ∧ (4 ≤ H → reachR m lev H = 0) := by decide
theorem lock_is {m lev H : Int} (m0 : 0 ≤ m) (m4 : m ≤ 4) (l0 : 0 ≤ lev) (l4 : lev ≤ 4) (h0 : 0 ≤ H) (h4 : H ≤ 4) (i1 : 2 ≤ H → m ≤ 1) (i2 : 1 ≤ H → m ≤ 3) : lockTo m lev H = reachR m lev H ∧ lockNo m lev H = decide (reachR m lev H < lev) :=
  lock_all m (mem5 m0 m4) lev (mem5 l0 l4) H (mem5 h0 h4) i1 i2
end Mine
end

/-! part T32 -/
section
open PySem PySem.W PyProof.Rows PySem.Spec PySem.Calls
namespace Mine
/-- the levels of two owners on one file bear each other -/
def Ok2 (φ : Str → MK → Option Int) : Prop := (∀ n k a, φ n k = some a → 1 ≤ a ∧ a ≤ 4) ∧ ∀ n k k' a b, k ≠ k' → φ n k = some a → φ n k' = some b → (2 ≤ a → b ≤ 1) ∧ a ≤ 3
theorem ok2_i {φ : Str → MK → Option Int} (h : Ok2 φ) {n : Str} {k : MK} {H : Int} (hH : IsHi φ n k H) : 0 ≤ (φ n k).getD 0 ∧ (φ n k).getD 0 ≤ 4 ∧ 0 ≤ H ∧ H ≤ 4 ∧ (2 ≤ H → (φ n k).getD 0 ≤ 1) ∧ (1 ≤ H → (φ n k).getD 0 ≤ 3) ∧ (4 ≤ H → (φ n k).getD 0 = 0) := by
  obtain ⟨h1, h2, h3⟩ := hH
  cases hv : φ n k with
  | none =>
    rcases h3 with h3 | ⟨k', hk, h3⟩
    · refine ⟨?_, ?_, ?_, ?_, ?_, ?_, ?_⟩ <;> (try intro _) <;> (try simp only [Option.getD_none]) <;> omega
    · have := h.1 _ _ _ h3
      refine ⟨?_, ?_, ?_, ?_, ?_, ?_, ?_⟩ <;> (try intro _) <;> (try simp only [Option.getD_none]) <;> omega
  | some a =>
    have ha := h.1 _ _ _ hv
    rcases h3 with h3 | ⟨k', hk, h3⟩
    · simp only [Option.getD_some]; omega
    · have hb := h.1 _ _ _ h3
      have c := h.2 n k' k _ _ hk h3 hv
      have d := h.2 n k k' _ _ (fun e => hk e.symm) hv h3
      simp only [Option.getD_some]; omega
theorem ok2_set {φ : Str → MK → Option Int} (h : Ok2 φ) {n : Str} {k : MK} {v H : Int} (hH : IsHi φ n k H) (v0 : 0 ≤ v) (v4 : v ≤ 4) (i1 : 2 ≤ H → v ≤ 1) (i2 : 1 ≤ H → v ≤ 3) (i3 : 4 ≤ H → v = 0) : Ok2 (set2 φ n k (enc v)) := by
  obtain ⟨h1, h2, h3⟩ := hH
  have he : ∀ a, enc v = some a → a = v ∧ v ≠ 0 := by
    intro a; unfold enc
    by_cases hz : v = 0
    · simp [hz]
    · simp only [if_neg hz, Option.some.injEq]; intro e; exact ⟨e.symm, hz⟩
  refine ⟨?_, ?_⟩
  · intro n' k' a ha
    unfold set2 at ha
    by_cases hc : n' = n ∧ k' = k
    · rw [if_pos hc] at ha
      have := he a ha; omega
    · rw [if_neg hc] at ha
      exact h.1 _ _ _ ha
  · intro n' k1 k2 a b hne ha hb
    unfold set2 at ha hb
    by_cases hc : n' = n ∧ k1 = k <;> by_cases hd : n' = n ∧ k2 = k
    · exact absurd (hc.2.trans hd.2.symm) hne
    · rw [if_pos hc] at ha; rw [if_neg hd] at hb
      obtain ⟨rfl, -⟩ := he a ha
      rw [hc.1] at hb
      have g := h2 k2 (fun q => hd ⟨hc.1, q⟩) b hb
      exact ⟨fun hv => Int.not_lt.mp fun hx => absurd (i1 (Int.le_trans hx g)) (Int.not_le.mpr hv), i2 (Int.le_trans (h.1 _ _ _ hb).1 g)⟩
    · rw [if_neg hc] at ha; rw [if_pos hd] at hb
      obtain ⟨rfl, nz⟩ := he b hb
      rw [hd.1] at ha
      have g := h2 k1 (fun q => hc ⟨hd.1, q⟩) a ha
      exact ⟨fun hv => i1 (Int.le_trans hv g), Int.not_lt.mp fun hx => nz (i3 (Int.le_trans hx g))⟩
    · rw [if_neg hc] at ha; rw [if_neg hd] at hb
      exact h.2 _ _ _ _ _ hne ha hb
theorem ok2_reach {φ : Str → MK → Option Int} (h : Ok2 φ) {n : Str} {k : MK} {lev H : Int} (hH : IsHi φ n k H) (l0 : 0 ≤ lev) (l4 : lev ≤ 4) : Ok2 (set2 φ n k (enc (reachR ((φ n k).getD 0) lev H))) := by
  obtain ⟨a, b, c, d, e, f, g⟩ := ok2_i h hH
  obtain ⟨r1, r2, r3, r4, r5⟩ := reach_all _ (mem5 a b) lev (mem5 l0 l4) H (mem5 c d) e f g
  exact ok2_set h hH r1 r2 r3 r4 r5
theorem ok2_down {φ : Str → MK → Option Int} (h : Ok2 φ) {n : Str} {k : MK} {lev H : Int} (hH : IsHi φ n k H) (l0 : 0 ≤ lev) : Ok2 (set2 φ n k (enc (min lev ((φ n k).getD 0)))) := by
  obtain ⟨a, b, c, d, e, f, g⟩ := ok2_i h hH
  refine ok2_set h hH ?_ ?_ ?_ ?_ ?_ <;> omega
theorem ok2_less {φ ψ : Str → MK → Option Int} (h : Ok2 φ) (hs : ∀ n k a, ψ n k = some a → φ n k = some a) : Ok2 ψ :=
  ⟨fun n k a ha => h.1 n k a (hs _ _ _ ha), fun n k k' a b hne ha hb => h.2 n k k' a b hne (hs _ _ _ ha) (hs _ _ _ hb)⟩
end Mine
end

/-! part T35 -/
section
open PySem PySem.W PyProof.Rows PySem.Spec PySem.Calls
namespace Mine
/-- the object at a is no list or tuple -/
def NoSeq (X : List (Addr × Obj)) (a : Addr) : Prop := ∃ o, (a, o) ∈ X ∧ ∀ its n, o.data ≠ .seq its n
section
variable {prog : Program} {w : World} {X X' : List (Addr × Obj)} {d lk la : Addr} {S A A' : List Addr} {φ g : Str → MK → Option Int} {h₀ h : Heap} {L : Addr}
theorem dict_noseq {K : Type} [DecidableEq K] {knd : KeyKind prog w K} {o : Obj} {kvs : List (K × Value)} (hd : o.IsDictOf knd kvs) : ∀ its n, o.data ≠ .seq its n := by
  intro its n e
  obtain ⟨es, ep, -, hx, -⟩ := hd
  rw [e] at hx; cases hx
theorem tab_noseq (H : TabFun prog w X d S φ) : ∀ a ∈ S, NoSeq X a := by
  obtain ⟨T, hT, rfl, _⟩ := H
  intro a ha
  rcases List.mem_cons.mp ha with e | ha
  · obtain ⟨o, h1, h2⟩ := hT.top
    exact ⟨o, e ▸ h1, dict_noseq h2⟩
  · obtain ⟨e, he, rfl⟩ := List.mem_map.mp ha
    obtain ⟨o, h1, h2⟩ := (hT.inn e he).2
    exact ⟨o, h1, dict_noseq h2⟩
theorem lt_noseq (H : LT prog w X lk A φ g) : ∀ a ∈ A, NoSeq X a := by
  obtain ⟨dx, lv, sl, tm, S, M, t1, t2, t3, n, HH, rfl⟩ := H
  intro a ha
  simp only [List.mem_cons, List.mem_append] at ha
  rcases ha with rfl | rfl | rfl | ha | ha
  · exact ⟨_, HH.i, fun its n e => by cases e⟩
  · exact ⟨_, HH.dd, fun its n e => by cases e⟩
  · obtain ⟨o, h1, h2⟩ := HH.osl
    exact ⟨o, h1, dict_noseq h2⟩
  · exact tab_noseq HH.HL a ha
  · exact tab_noseq HH.HM a ha
theorem seq_off (H : LT prog w X lk A φ g) (N : News h₀ L h X) {a : Addr} {o : Obj} {its : Array Value} {n : Nat} (hp : (a, o) ∈ X) (hd : o.data = .seq its n) : a ∉ A := by
  intro ha
  obtain ⟨o', ho, hn⟩ := lt_noseq H a ha
  exact hn its n ((congrArg Obj.data (Option.some.inj ((N _ ho).1.symm.trans (N _ hp).1))).trans hd)
theorem rowsAre_keep (H : LT prog w X lk A φ g) (N : News h₀ L h X) (K : Keep X A X' A') {vs : List Value} {rs : List Row} (R : RowsAre X vs rs) : RowsAre X' vs rs := by
  induction R with
  | nil => exact .nil
  | cons a _ ih =>
    obtain ⟨t, ot, ov, tn, tk, nt, a1, a2, a3, a4, a5⟩ := a
    exact .cons ⟨t, ot, ov, tn, tk, nt, a1, (K _ a2 (seq_off H N a2 a4)).1, a3, a4, a5⟩ ih
theorem rows_keep (H : LT prog w X lk A φ g) (N : News h₀ L h X) (K : Keep X A X' A') {rs : List Row} (R : RowsIn X la rs) : RowsIn X' la rs := by
  obtain ⟨its, k, h1, h2⟩ := R
  exact ⟨its, k, (K _ h1 (seq_off H N h1 rfl)).1, rowsAre_keep H N K h2⟩
end
end Mine
end

section
open PySem PySem.W PyProof.Rows PySem.Spec PySem.Calls
namespace Mine
local macro_rules | `(tactic| k_steps) => `(tactic| repeat' (first | (k_unfold; (try dsimp only)) | (k_end; wrow_close) | ((fail_if_success (first | (with_reducible show wpAny _ _ (call (Value.ref _) _) _ _ _) | (with_reducible show wpAny _ _ (getMethod (Value.ref _) (Str.ofString "get") _) _ _ _) | (with_reducible show wpAny _ _ (getMethod (Value.ref _) (Str.ofString "pop") _) _ _ _) | (with_reducible show wpAny _ _ (getMethod (Value.ref _) (Str.ofString "setdefault") _) _ _ _) | (with_reducible show wpAny _ _ (call (Value.builtin "dict.get") _) _ _ _) | (with_reducible show wpAny _ _ (call (Value.builtin "dict.pop") _) _ _ _) | (with_reducible show wpAny _ _ (call (Value.builtin "dict.setdefault") _) _ _ _) | (with_reducible show wpAny _ _ (setItem (Value.ref _) _ _) _ _ _) | (with_reducible show wpAny _ _ (call (Value.type "dict") _) _ _ _) | (with_reducible show wpAny _ _ (exec (Stmt.Raise _ _ _) _) _ _ _) | (with_reducible show wpAny _ _ (setAttr (Value.ref _) (Str.ofString "message") _) _ _ _) | (with_reducible show wpAny _ _ (eval (Expr.ListComp _ _ _ _) _) _ _ _) | (with_reducible show wpAny _ _ (exec (Stmt.Assign _ (Expr.ListComp _ _ _ _) _) _) _ _ _) | (with_reducible show wpAny _ _ (compareOp _ (Value.ref _) _) _ _ _) | (with_reducible show wpAny _ _ (binaryOp _ (Value.ref _) (Value.ref _)) _ _ _) | (with_reducible show wpAny _ _ (subscriptTail _ _ (Value.ref _) _) _ _ _))); first | (with_reducible refine execs_tk fun tk9 => ?_; (try dsimp only)) | walk1 | (dsimp only; walk1) | (leave1; try dsimp only)) | fail "no step"))

/-! part T20 -/
section
open PySem PySem.W PyProof.Rows PySem.Spec PySem.Calls
open PyProof.Rows.LCg (lst NsObj lst_snoc ns_obj)

def sumOf (rows : List Row) (k : MK) (nm : Str) : Int := ((rows.filter fun r => decide (r.1 = k ∧ r.2.1 = nm)).map (·.2.2)).sum
set_option maxRecDepth 100000 in
set_option maxHeartbeats 8000000 in
theorem law_level_c : Of PySem.Challenge.rw_xm0775_01 kk (∀ (prog : Program) (w : World) (la : Addr) (rows : List Row) (k : MK) (ov : Value) (nm : Str) (tn : Tok) (X : List (Addr × Obj)),
    RowsIn X la rows → rows.length ≤ 100 → k.is ov = true →
    Spec prog w 6 1384 [.ref la, ov, .str nm tn] X (fun r X' => X' = X ∧ ∃ t, r = .int (sumOf rows k nm) t)) := by
  k_fill
  unfold Of
  intro prog w la rows k ov nm tn X HR hlen hov
  unfold Spec
  intro p loose mean mg mb dp un gd cn cs a ccd cl outer A₀ base h₀ L m s Q E B F KX N T hk hd hu hret
  refine wpAny_call ?_
  k_dflt (refine' code_defC ?k1 ?k2 ?k3 ?k4 ?k5 ?kA ?kF ?kK ?k6 ?k7 ?k8 ?k9 ?kB ?kD ?_ ?c2 ?c3 ?c4; (case kA => exact rfl); (case kF => exact rfl); (case kK => first | assumption | exact rfl); (case k1 => k_asm); (case k2 => k_asm); (case k3 => k_asm); (case k4 => k_asm); (case k5 => k_asm); (case k6 => k_is); (case k7 => k_is); (case k8 => ktr_room); (case k9 => exact BindsTo.of_eq rfl); (case kB => exact rfl); (case kD => decide +kernel); (case c2 => exact rfl); (case c3 => exact rfl); (case c4 => exact rfl); k_whole; intro g' L' h' tk' cells' FG' F' N' Y' B' X' T' l1; (try k_lt l1); k_cells Y'; (try simp only [List.cons_append, List.nil_append] at N'); (try dsimp only); (try k_fold))
  k_steps
  obtain ⟨its, k0, hla, hits⟩ := HR
  k_dflt (refine ListComp_G (_F₀ := by k_asm) (by with_unfolding_all rfl) (by decide) (by rfl) (by decide) ?_)
  k_steps
  refine ⟨la, its, k0, _, fun i ys => IntsAre ys (((rows.take i).filter fun r => decide (r.1 = k ∧ r.2.1 = nm)).map (·.2.2)), fun i m₂ => ∃ r ov2 tn2 tk2, rows[i]? = some r ∧ r.1.is ov2 = true ∧ m₂ (Str.ofString "other") = some ov2 ∧ m₂ (Str.ofString "file") = some (.str r.2.1 tn2) ∧ m₂ (Str.ofString "level") = some (.int r.2.2 tk2), rfl, rfl, by k_asm, by k_asm, (by simp only [List.mem_cons, hla, or_true]), ?_, .nil, ?_, ?_, ?_⟩
  · rw [hits.length]; exact Nat.le_trans hlen (by decide)
  · intro i v I C hv
    obtain ⟨r, hr, t, ot, ov2, tn2, tk2, nt, rfl, hm, hc, hd2, ho2⟩ := hits.get hv
    intro s9 m9 l9 i9 Q9 E9 hns hit hk9 hQ9
    exact bind_tup3 rfl (by decide) (by decide) (by decide) (by decide) (by decide) (by decide) rfl (show (t, ot) ∈ _ by simp only [List.mem_cons, hm, or_true]) hc hd2 s9 m9 l9 i9 Q9 E9 hns hit hk9 fun h' tk m₂ a b ⟨c1, c2, c3⟩ => hQ9 h' tk m₂ a b ⟨r, ov2, tn2, tk2, hr, ho2, c1, c2, c3⟩
  · rintro i v ys I oI C oC D m₂ h9 tk9 E' hv hJ hoC ⟨r, ov2, tn2, tk2, hr, ho2, hm1, hm2, hm3⟩ F9 N9
    k_steps
    (rename News _ _ _ _ => N10)
    refine cmpEq_tup2 (⟨_, (N10 _ (.tail _ (.head _))).1, rfl, _, rfl⟩) (⟨_, (N10 _ (.head _)).1, rfl, _, rfl⟩) ho2 hov (by ktr_units) ?_
    have hstep : (rows.take (i + 1)) = rows.take i ++ [r] := by rw [List.take_add_one, hr]; rfl
    by_cases hcc : r.1 = k ∧ r.2.1 = nm
    · rw [decide_eq_true hcc]
      k_steps
      unfold GTest
      rw [if_pos rfl]
      k_steps
      refine ⟨_, _, rfl, by k_asm, news_sub (by k_asm) (fun p hp => .tail _ (.tail _ hp)), ?_⟩
      rw [hstep, List.filter_append, List.map_append]
      simp only [List.filter_cons, List.filter_nil, decide_eq_true hcc, if_true, List.map_cons, List.map_nil]
      exact IntsAre.append hJ (.cons _ _ .nil)
    · rw [decide_eq_false hcc]
      k_steps
      unfold GTest
      rw [if_neg (by decide)]
      refine ⟨_, _, rfl, by k_asm, news_sub (by k_asm) (fun p hp => .tail _ (.tail _ hp)), ?_⟩
      rw [hstep, List.filter_append, List.map_append]
      simp only [List.filter_cons, List.filter_nil, decide_eq_false hcc, Bool.false_eq_true, if_false, List.map_nil, List.append_nil]
      exact hJ
  · intro D h9 tk9 ys hJ F9 N9 hlt9
    k_steps
    refine ret_to hret (by k_asm) (by k_asm) (fun p hp => ?_) ⟨rfl, _, congrArg (fun z => Value.int z _) ?_⟩
    · simp only [List.mem_cons, hp, or_true]
    · rw [hits.length, List.take_length]; rfl

end

/-! part T21 -/
section
open PySem PySem.W PyProof.Rows PySem.Spec PySem.Calls
open PyProof.Rows.LCg (lst NsObj lst_snoc ns_obj)

def HiR (rows : List Row) (k : MK) (nm : Str) (M : Int) : Prop := 0 ≤ M ∧ (M = 0 ∨ ∃ r ∈ rows, r.2.1 = nm ∧ r.1 ≠ k ∧ r.2.2 = M) ∧ ∀ r ∈ rows, r.2.1 = nm → r.1 ≠ k → r.2.2 ≤ M
set_option maxRecDepth 100000 in
set_option maxHeartbeats 8000000 in
theorem law_highest_c : Of PySem.Challenge.rw_xm0775_01 kk (∀ (prog : Program) (w : World) (la : Addr) (rows : List Row) (k : MK) (ov : Value) (nm : Str) (tn : Tok) (X : List (Addr × Obj)),
    RowsIn X la rows → rows.length ≤ 100 → k.is ov = true →
    Spec prog w 6 1379 [.ref la, ov, .str nm tn] X (fun r X' => X' = X ∧ ∃ M t, r = .int M t ∧ HiR rows k nm M)) := by
  k_fill
  unfold Of
  intro prog w la rows k ov nm tn X HR hlen hov
  unfold Spec
  intro p loose mean mg mb dp un gd cn cs a ccd cl outer A₀ base h₀ L m s Q E B F KX N T hk hd hu hret
  refine wpAny_call ?_
  k_dflt (refine' code_defC ?k1 ?k2 ?k3 ?k4 ?k5 ?kA ?kF ?kK ?k6 ?k7 ?k8 ?k9 ?kB ?kD ?_ ?c2 ?c3 ?c4; (case kA => exact rfl); (case kF => exact rfl); (case kK => first | assumption | exact rfl); (case k1 => k_asm); (case k2 => k_asm); (case k3 => k_asm); (case k4 => k_asm); (case k5 => k_asm); (case k6 => k_is); (case k7 => k_is); (case k8 => ktr_room); (case k9 => exact BindsTo.of_eq rfl); (case kB => exact rfl); (case kD => decide +kernel); (case c2 => exact rfl); (case c3 => exact rfl); (case c4 => exact rfl); k_whole; intro g' L' h' tk' cells' FG' F' N' Y' B' X' T' l1; (try k_lt l1); k_cells Y'; (try simp only [List.cons_append, List.nil_append] at N'); (try dsimp only); (try k_fold))
  k_steps
  obtain ⟨its, k0, hla, hits⟩ := HR
  k_dflt (refine ListComp_G (_F₀ := by k_asm) (by with_unfolding_all rfl) (by decide) (by rfl) (by decide) ?_)
  k_steps
  refine ⟨la, its, k0, _, fun i ys => IntsAre ys (((rows.take i).filter fun r => decide (r.2.1 = nm ∧ r.1 ≠ k)).map (·.2.2)), fun i m₂ => ∃ r ov2 tn2 tk2, rows[i]? = some r ∧ r.1.is ov2 = true ∧ m₂ (Str.ofString "other") = some ov2 ∧ m₂ (Str.ofString "file") = some (.str r.2.1 tn2) ∧ m₂ (Str.ofString "level") = some (.int r.2.2 tk2), rfl, rfl, by k_asm, by k_asm, (by simp only [List.mem_cons, hla, or_true]), ?_, .nil, ?_, ?_, ?_⟩
  · rw [hits.length]; exact Nat.le_trans hlen (by decide)
  · intro i v I C hv
    obtain ⟨r, hr, t, ot, ov2, tn2, tk2, nt, rfl, hm, hc, hd2, ho2⟩ := hits.get hv
    intro s9 m9 l9 i9 Q9 E9 hns hit hk9 hQ9
    exact bind_tup3 rfl (by decide) (by decide) (by decide) (by decide) (by decide) (by decide) rfl (show (t, ot) ∈ _ by simp only [List.mem_cons, hm, or_true]) hc hd2 s9 m9 l9 i9 Q9 E9 hns hit hk9 fun h' tk m₂ a b ⟨c1, c2, c3⟩ => hQ9 h' tk m₂ a b ⟨r, ov2, tn2, tk2, hr, ho2, c1, c2, c3⟩
  · rintro i v ys I oI C oC D m₂ h9 tk9 E' hv hJ hoC ⟨r, ov2, tn2, tk2, hr, ho2, hm1, hm2, hm3⟩ F9 N9
    have hstep : (rows.take (i + 1)) = rows.take i ++ [r] := by rw [List.take_add_one, hr]; rfl
    have hno : ¬ (r.2.1 = nm ∧ r.1 ≠ k) → ((((rows.take (i + 1)).filter fun r => decide (r.2.1 = nm ∧ r.1 ≠ k)).map (·.2.2)) = (((rows.take i).filter fun r => decide (r.2.1 = nm ∧ r.1 ≠ k)).map (·.2.2))) := fun hcc => by
      rw [hstep, List.filter_append, List.map_append]
      simp only [List.filter_cons, List.filter_nil, decide_eq_false hcc, Bool.false_eq_true, if_false, List.map_nil, List.append_nil]
    have hyes : (r.2.1 = nm ∧ r.1 ≠ k) → ((((rows.take (i + 1)).filter fun r => decide (r.2.1 = nm ∧ r.1 ≠ k)).map (·.2.2)) = (((rows.take i).filter fun r => decide (r.2.1 = nm ∧ r.1 ≠ k)).map (·.2.2)) ++ [r.2.2]) := fun hcc => by
      rw [hstep, List.filter_append, List.map_append]
      simp only [List.filter_cons, List.filter_nil, decide_eq_true hcc, if_true, List.map_cons, List.map_nil]
    k_steps
    · (rename (r.2.1 == nm) = true => hb)
      have hb' : r.2.1 = nm := by simpa using hb
      refine cmpNe_mk ho2 hov ?_
      by_cases hkk : r.1 = k
      · rw [decide_eq_true hkk]
        k_steps
        unfold GTest
        rw [if_neg (by decide)]
        refine ⟨_, _, rfl, by k_asm, news_sub (by k_asm) (fun p hp => hp), ?_⟩
        show IntsAre _ _
        rw [hno (fun q => q.2 hkk)]
        exact hJ
      · rw [decide_eq_false hkk]
        k_steps
        unfold GTest
        rw [if_pos rfl]
        k_steps
        refine ⟨_, _, rfl, by k_asm, news_sub (by k_asm) (fun p hp => hp), ?_⟩
        show IntsAre _ _
        rw [hyes ⟨hb', hkk⟩]
        exact IntsAre.append hJ (.cons _ _ .nil)
    · (rename (r.2.1 == nm) = false => hb)
      have hb' : ¬ r.2.1 = nm := by simpa using hb
      unfold GTest
      rw [if_neg (by decide)]
      refine ⟨_, _, rfl, by k_asm, news_sub (by k_asm) (fun p hp => hp), ?_⟩
      show IntsAre _ _
      rw [hno (fun q => hb' q.1)]
      exact hJ
  · intro D h9 tk9 ys hJ F9 N9 hlt9
    k_steps
    have hlen2 : ys.length ≤ 100 := by
      have e1 := hJ.length
      rw [List.length_map] at e1
      have e2 := List.length_filter_le (fun r => decide (r.2.1 = nm ∧ r.1 ≠ k)) (rows.take its.length)
      have e3 := List.length_take_le' its.length rows
      omega
    refine add_lists (vs := [_]) (ws := ys) (by k_asm) (by k_asm) ⟨_, (N9 _ (.tail _ (.head _))).1, rfl, _, rfl⟩ ⟨_, (N9 _ (.head _)).1, rfl, _, rfl⟩ ?_ (by rw [List.length_singleton]; exact Nat.le_trans (Nat.add_le_add_left hlen2 1) (by decide))
    intro h10 F10 N10
    k_steps
    (rename _ ∈ _ => hmem)
    (rename ∀ a ∈ _, a ≤ _ => hall)
    rw [hits.length, List.take_length] at hmem hall
    refine ret_to hret (by k_asm) (by k_asm) (fun p hp => ?_) ⟨rfl, _, _, rfl, ?_, ?_, ?_⟩
    · simp only [List.mem_cons, hp, or_true]
    · exact hall 0 (by simp)
    · simp only [List.cons_append, List.nil_append, List.mem_cons, List.mem_map, List.mem_filter, decide_eq_true_eq] at hmem
      rcases hmem with e | ⟨r, ⟨hr, h1, h2⟩, e⟩
      · exact .inl e
      · exact .inr ⟨r, hr, h1, h2, e⟩
    · intro r hr h1 h2
      exact hall _ (List.mem_append_right _ (List.mem_map.mpr ⟨r, List.mem_filter.mpr ⟨hr, by simpa using ⟨h1, h2⟩⟩, rfl⟩))

end

/-! part T22 -/
section
open PySem PySem.W PyProof.Rows PySem.Spec PySem.Calls
open PyProof.Rows.LCg (lst NsObj lst_snoc ns_obj)

def putR (rows : List Row) (k : MK) (nm : Str) (lev : Int) : List Row := (rows.filter fun r => decide (¬ (r.1 = k ∧ r.2.1 = nm))) ++ [(k, nm, lev)]
set_option maxRecDepth 100000 in
set_option maxHeartbeats 8000000 in
theorem law_put_c : Of PySem.Challenge.rw_xm0775_01 kk (∀ (prog : Program) (w : World) (la : Addr) (rows : List Row) (k : MK) (ov : Value) (nm : Str) (tn : Tok) (lev : Int) (tl : Tok) (X : List (Addr × Obj)),
    RowsIn X la rows → rows.length ≤ 100 → k.is ov = true →
    Spec prog w 6 1389 [.ref la, ov, .str nm tn, .int lev tl] X (fun r X' => ∃ la', r = .ref la' ∧ (∀ p ∈ X, p ∈ X') ∧ RowsIn X' la' (putR rows k nm lev))) := by
  k_fill
  unfold Of
  intro prog w la rows k ov nm tn lev tl X HR hlen hov
  unfold Spec
  intro p loose mean mg mb dp un gd cn cs a ccd cl outer A₀ base h₀ L m s Q E B F KX N T hk hd hu hret
  refine wpAny_call ?_
  k_dflt (refine' code_defC ?k1 ?k2 ?k3 ?k4 ?k5 ?kA ?kF ?kK ?k6 ?k7 ?k8 ?k9 ?kB ?kD ?_ ?c2 ?c3 ?c4; (case kA => exact rfl); (case kF => exact rfl); (case kK => first | assumption | exact rfl); (case k1 => k_asm); (case k2 => k_asm); (case k3 => k_asm); (case k4 => k_asm); (case k5 => k_asm); (case k6 => k_is); (case k7 => k_is); (case k8 => ktr_room); (case k9 => exact BindsTo.of_eq rfl); (case kB => exact rfl); (case kD => decide +kernel); (case c2 => exact rfl); (case c3 => exact rfl); (case c4 => exact rfl); k_whole; intro g' L' h' tk' cells' FG' F' N' Y' B' X' T' l1; (try k_lt l1); k_cells Y'; (try simp only [List.cons_append, List.nil_append] at N'); (try dsimp only); (try k_fold))
  k_steps
  obtain ⟨its, k0, hla, hits⟩ := HR
  k_dflt (refine ListComp_G (_F₀ := by k_asm) (by with_unfolding_all rfl) (by decide) (by rfl) (by decide) ?_)
  k_steps
  refine ⟨la, its, k0, _, fun i ys => RowsAre X ys ((rows.take i).filter fun r => decide (¬ (r.1 = k ∧ r.2.1 = nm))), fun i m₂ => ∃ r t ot ov2 tn2 tk2 nt2, rows[i]? = some r ∧ r.1.is ov2 = true ∧ (t, ot) ∈ X ∧ ot.cls = .type "tuple" ∧ ot.data = .seq #[ov2, .str r.2.1 tn2, .int r.2.2 tk2] nt2 ∧ m₂ (Str.ofString "row") = some (.ref t), rfl, rfl, by k_asm, by k_asm, (by simp only [List.mem_cons, hla, or_true]), ?_, .nil, ?_, ?_, ?_⟩
  · rw [hits.length]; exact Nat.le_trans hlen (by decide)
  · intro i v I C hv
    obtain ⟨r, hr, t, ot, ov2, tn2, tk2, nt, rfl, hm, hc, hd2, ho2⟩ := hits.get hv
    intro s9 m9 l9 i9 Q9 E9 hns hit hk9 hQ9
    exact bind_name (by decide) (by rfl) s9 m9 l9 i9 Q9 E9 hns hit hk9 fun h' tk m₂ a b c => hQ9 h' tk m₂ a b ⟨r, t, ot, ov2, tn2, tk2, nt, hr, ho2, hm, hc, hd2, c⟩
  · rintro i v ys I oI C oC D m₂ h9 tk9 E' hv hJ hoC ⟨r, t, ot, ov2, tn2, tk2, nt2, hr, ho2, hm, hc, hd2, hm1⟩ F9 N9
    have hstep : (rows.take (i + 1)) = rows.take i ++ [r] := by rw [List.take_add_one, hr]; rfl
    k_steps
    refine L_to2 (by k_asm) (by k_asm) ⟨ot, (N9 _ (show (t, ot) ∈ _ by simp only [List.mem_cons, hm, or_true])).1, hc, _, hd2⟩ ?_
    intro d10 h10 F10 N10 hlt10
    k_steps
    (rename News _ _ _ _ => N11)
    refine cmpNe_tup2 (⟨_, (N11 _ (.tail _ (.head _))).1, rfl, _, rfl⟩) (⟨_, (N11 _ (.head _)).1, rfl, _, rfl⟩) ho2 hov (by ktr_units) ?_
    by_cases hcc : r.1 = k ∧ r.2.1 = nm
    · rw [decide_eq_true hcc]
      k_steps
      unfold GTest
      rw [if_neg (by decide)]
      refine ⟨_, _, rfl, by k_asm, news_sub (by k_asm) (fun p hp => .tail _ (.tail _ hp)), ?_⟩
      show RowsAre _ _ _
      rw [hstep, List.filter_append]
      simp only [List.filter_cons, List.filter_nil, decide_eq_false (show ¬¬(r.1 = k ∧ r.2.1 = nm) from fun q => q hcc), Bool.false_eq_true, if_false, List.append_nil]
      exact hJ
    · rw [decide_eq_false hcc]
      k_steps
      unfold GTest
      rw [if_pos (by decide)]
      k_steps
      refine ⟨_, _, rfl, by k_asm, news_sub (by k_asm) (fun p hp => .tail _ (.tail _ hp)), ?_⟩
      show RowsAre _ _ _
      rw [hstep, List.filter_append]
      simp only [List.filter_cons, List.filter_nil, decide_eq_true (show ¬(r.1 = k ∧ r.2.1 = nm) from hcc), if_true]
      exact hJ.snoc ⟨t, ot, ov2, tn2, tk2, nt2, rfl, hm, hc, hd2, ho2⟩
  · intro D h9 tk9 ys hJ F9 N9 hlt9
    k_steps
    have hlen2 : ys.length ≤ 100 := by
      have e1 := hJ.length
      have e2 := List.length_filter_le (fun r : Row => decide (¬ (r.1 = k ∧ r.2.1 = nm))) (rows.take its.length)
      have e3 := List.length_take_le' its.length rows
      omega
    (rename News _ _ _ _ => N11)
    refine add_lists (vs := ys) (ws := [_]) (by k_asm) N11 ⟨_, (N11 _ (.tail _ (.tail _ (.head _)))).1, rfl, _, rfl⟩ ⟨_, (N11 _ (.head _)).1, rfl, _, rfl⟩ ?_ (by rw [List.length_singleton]; exact Nat.le_trans (Nat.add_le_add_right hlen2 1) (by decide))
    intro h12 F12 N12
    k_steps
    refine ret_to hret (by k_asm) (by k_asm) (fun p hp => hp) ⟨_, rfl, fun p hp => ?_, _, _, .head _, ?_⟩
    · simp only [List.mem_cons, hp, or_true]
    · unfold putR
      rw [hits.length, List.take_length] at hJ
      refine RowsAre.append (hJ.mono fun p hp => ?_) (.cons ⟨_, _, ov, tn, tl, _, rfl, .tail _ (.tail _ (.head _)), rfl, rfl, hov⟩ .nil)
      simp only [List.mem_cons, hp, or_true]

end

/-! part T6 -/
section
open PySem PySem.W PyProof.Rows PySem.Spec PySem.Calls

set_option maxRecDepth 100000 in
set_option maxHeartbeats 8000000 in
theorem put_level_c : Of PySem.Challenge.rw_xm0775_01 kk (∀ (prog : Program) (w : World) (lk : Addr) (A : List Addr) (k : MK) (ov : Value) (nm : Str) (tn : Tok) (lev : Int) (tl : Tok) (X : List (Addr × Obj)) (φ g : Str → MK → Option Int),
    LT prog w X lk A φ g → k.is ov = true → nm ∈ NM → k ∈ OW →
    Spec prog w 3 150 [.ref lk, ov, .str nm tn, .int lev tl] X (fun r X' => r = .none ∧ ∃ A', LT prog w X' lk A' (set2 φ nm k (if lev = 0 then none else some lev)) g ∧ Keep X A X' A')) := by
  k_fill
  unfold Of
  intro prog w lk A k ov nm tn lev tl X φ g HLT hov hnm hk0
  unfold Spec
  intro p loose mean mg mb dp un gd cn cs a ccd cl outer A₀ base h₀ L m s Q E B F KX N T hk hd hu hret
  obtain ⟨dx, lv, sl, tm, S, M, t1, t2, t3, n, H, hA⟩ := HLT
  replace N := news_sub N (two_sub H.i H.dd)
  have HI0 := H.HL
  obtain ⟨Tb, HI, hS, hφ⟩ := HI0
  obtain ⟨ot, hot, hdt⟩ := HI.top
  refine wpAny_call ?_
  k_dflt cell_enter
  k_steps
  (rename News _ _ _ _ => N1)
  refine L_method PySem.F.slot_dict_setdefault PySem.F.type_dict_setdefault N1 (by simp only [List.mem_cons, hot, or_true]) hdt ?_
  k_steps
  (rename News _ _ _ _ => N2)
  (rename Fr _ _ _ _ => F2)
  (rename Obj.IsDictOf (PySem.strKind _ _) _ _ => hd0)
  (rename (_ == sysModules) = false => lo0)
  (rename _ ∧ _ ∧ AllLt _ _ => hlt0)
  refine L_setdef F2 N2 (by simp only [List.mem_cons, hot, or_true]) hdt HI.lo (strKind_is _ _ _ _) HI.lenTop ?_ ?_
  · intro v hv
    rw [valueAt_top, Option.map_eq_some_iff] at hv
    obtain ⟨e, hf, rfl⟩ := hv
    have he : e ∈ Tb := List.mem_of_find?_eq_some hf
    have hen : e.1 = nm := by simpa using List.find?_some hf
    obtain ⟨hlo, oi, hoi, hdi⟩ := HI.inn e he
    have hsz : (intPairs e.2.2).length ≤ sizeLine := Nat.le_trans (HI.lenIn he) (by decide)
    have hphi : ∀ k', φ e.1 k' = intAt e.2.2 k' := fun k' => (hφ e.1 k').symm.trans (tabAt_hit HI.nodTop he rfl)
    have haS : e.2.1 ∈ S := hS ▸ List.mem_cons_of_mem _ (List.mem_map.mpr ⟨e, he, rfl⟩)
    k_steps
    · (rename lev = 0 => hc)
      refine L_method PySem.F.slot_dict_pop PySem.F.type_dict_pop (by k_asm) (by simp only [List.mem_cons, hoi, or_true]) hdi ?_
      k_steps
      refine L_pop (by k_asm) (by k_asm) (by simp only [List.mem_cons, hoi, or_true]) hdi hlo hov (mk_part hov) hsz ?_
      intro h4 o4 hd4 F4 N4
      obtain ⟨l', hl1, hl2, hl3⟩ := without_int e.2.2 k
      rw [hl1] at hd4
      have HT' := tab_hit HI he hd4 (fun x hx => let ⟨y, hy, e'⟩ := hl3 x hx; e' ▸ HI.keys e he y hy) (φ' := set2 φ nm k (if lev = 0 then none else some lev)) hφ
        (fun k' => by rw [hl2]; unfold set2; rw [hc, if_pos rfl, hen]; by_cases h9 : k' = k <;> simp [h9, ← hphi, hen]) (fun n' k' h9 => by unfold set2; rw [if_neg (fun h => h9 (h.1.trans hen.symm))])
      rw [← hS] at HT'
      obtain ⟨HH, HK⟩ := H.updL haS HT'
      k_steps
      exact ret_to hret (by k_asm) (by k_asm) (upd_sub (by (intro p9 hp9; simp only [List.mem_cons, hp9, or_true, true_or]))) ⟨rfl, _, HH.toLT, hA ▸ HK⟩
    · (rename ¬lev = 0 => hc)
      refine L_set (by k_asm) (by k_asm) (by simp only [List.mem_cons, hoi, or_true]) hdi hov hsz ?_
      intro h4 o4 hd4 F4 N4
      obtain ⟨l', hl1, hl2, hl3⟩ := stored_int e.2.2 k lev tl
      rw [hl1] at hd4
      have HT' := tab_hit HI he hd4 (fun x hx => (hl3 x hx).elim (fun h => h ▸ hk0) fun ⟨y, hy, e'⟩ => e' ▸ HI.keys e he y hy) (φ' := set2 φ nm k (if lev = 0 then none else some lev)) hφ
        (fun k' => by rw [hl2]; unfold set2; rw [if_neg hc, hen]; by_cases h9 : k' = k <;> simp [h9, ← hphi, hen]) (fun n' k' h9 => by unfold set2; rw [if_neg (fun h => h9 (h.1.trans hen.symm))])
      rw [← hS] at HT'
      obtain ⟨HH, HK⟩ := H.updL haS HT'
      k_steps
      exact ret_to hret (by k_asm) (by k_asm) (upd_sub (by (intro p9 hp9; simp only [List.mem_cons, hp9, or_true, true_or]))) ⟨rfl, _, HH.toLT, hA ▸ HK⟩
  · intro hv h4 o4 hd4 F4 N4
    clear F2 N2
    rw [valueAt_top, Option.map_eq_none_iff] at hv
    have hltX := AllLt.of hlt0.2.2
    have hnone : ∀ k', φ nm k' = none := fun k' => (hφ nm k').symm.trans (by unfold tabAt; rw [hv]; rfl)
    rw [upd_cons_ne (Nat.ne_of_gt (hltX _ hot))] at N4
    k_steps
    · (rename lev = 0 => hc)
      refine L_method PySem.F.slot_dict_pop PySem.F.type_dict_pop (by k_asm) (List.Mem.head _) hd0 ?_
      k_steps
      refine L_pop (knd := mixKind prog w) (by k_asm) (by k_asm) (List.Mem.head _) (isDictOf_nil hd0) lo0 hov (mk_part hov) (by decide) ?_
      intro h5 o5 hd5 F5 N5
      have HT' := tab_miss HI hv hnm (fun p hp => Nat.ne_of_lt (hltX p hp)) lo0 hd4 (l' := []) hd5 (fun x hx => by simp at hx) (φ' := set2 φ nm k (if lev = 0 then none else some lev)) hφ
        (fun k' => by unfold set2; rw [if_pos hc, hnone]; simp [PySem.intAt]) (fun n' k' h9 => by unfold set2; rw [if_neg (fun h => h9 h.1)])
      rw [← List.cons_append, ← hS] at HT'
      obtain ⟨HH, HK⟩ := H.newL (fun p hp => Nat.ne_of_lt (hltX p hp)) (hS ▸ .head _) HT'
      k_steps
      exact ret_to hret (by k_asm) (by k_asm) (miss_sub hltX (by (intro p9 hp9; simp only [List.mem_cons, hp9, or_true, true_or]))) ⟨rfl, _, HH.toLT, hA ▸ HK⟩
    · (rename ¬lev = 0 => hc)
      refine L_set (knd := mixKind prog w) (by k_asm) (by k_asm) (List.Mem.head _) (isDictOf_nil hd0) hov (by decide) ?_
      intro h5 o5 hd5 F5 N5
      have HT' := tab_miss HI hv hnm (fun p hp => Nat.ne_of_lt (hltX p hp)) lo0 hd4 (l' := [(k, lev, tl)]) hd5 (fun x hx => by rw [List.mem_singleton.mp hx]; exact hk0) (φ' := set2 φ nm k (if lev = 0 then none else some lev)) hφ
        (fun k' => by unfold set2; rw [if_neg hc, hnone]; by_cases h9 : k' = k <;> simp [PySem.intAt, h9, eq_comm]) (fun n' k' h9 => by unfold set2; rw [if_neg (fun h => h9 h.1)])
      rw [← List.cons_append, ← hS] at HT'
      obtain ⟨HH, HK⟩ := H.newL (fun p hp => Nat.ne_of_lt (hltX p hp)) (hS ▸ .head _) HT'
      k_steps
      exact ret_to hret (by k_asm) (by k_asm) (miss_sub hltX (by (intro p9 hp9; simp only [List.mem_cons, hp9, or_true, true_or]))) ⟨rfl, _, HH.toLT, hA ▸ HK⟩

end

/-! part T7 -/
section
open PySem PySem.W PyProof.Rows PySem.Spec PySem.Calls

set_option maxRecDepth 100000 in
set_option maxHeartbeats 8000000 in
theorem set_mark_none_c : Of PySem.Challenge.rw_xm0775_01 kk (∀ (prog : Program) (w : World) (lk : Addr) (A : List Addr) (k : MK) (ov : Value) (nm : Str) (tn : Tok) (X : List (Addr × Obj)) (φ g : Str → MK → Option Int),
    LT prog w X lk A φ g → k.is ov = true → nm ∈ NM → k ∈ OW →
    Spec prog w 3 215 [.ref lk, ov, .str nm tn, .none] X (fun r X' => r = .none ∧ ∃ A', LT prog w X' lk A' φ (set2 g nm k none) ∧ Keep X A X' A')) := by
  k_fill
  unfold Of
  intro prog w lk A k ov nm tn X φ g HLT hov hnm hk0
  unfold Spec
  intro p loose mean mg mb dp un gd cn cs a ccd cl outer A₀ base h₀ L m s Q E B F KX N T hk hd hu hret
  obtain ⟨dx, lv, sl, tm, S, M, t1, t2, t3, n, H, hA⟩ := HLT
  replace N := news_sub N (two_sub H.i H.dd)
  have HI0 := H.HM
  obtain ⟨Tb, HI, hS, hφ⟩ := HI0
  obtain ⟨ot, hot, hdt⟩ := HI.top
  refine wpAny_call ?_
  k_dflt cell_enter
  k_steps
  (rename News _ _ _ _ => N1)
  refine L_method PySem.F.slot_dict_setdefault PySem.F.type_dict_setdefault N1 (by simp only [List.mem_cons, hot, or_true]) hdt ?_
  k_steps
  (rename News _ _ _ _ => N2)
  (rename Fr _ _ _ _ => F2)
  (rename Obj.IsDictOf (PySem.strKind _ _) _ _ => hd0)
  (rename (_ == sysModules) = false => lo0)
  (rename _ ∧ _ ∧ AllLt _ _ => hlt0)
  refine L_setdef F2 N2 (by simp only [List.mem_cons, hot, or_true]) hdt HI.lo (strKind_is _ _ _ _) HI.lenTop ?_ ?_
  · intro v hv
    rw [valueAt_top, Option.map_eq_some_iff] at hv
    obtain ⟨e, hf, rfl⟩ := hv
    have he : e ∈ Tb := List.mem_of_find?_eq_some hf
    have hen : e.1 = nm := by simpa using List.find?_some hf
    obtain ⟨hlo, oi, hoi, hdi⟩ := HI.inn e he
    have hsz : (intPairs e.2.2).length ≤ sizeLine := Nat.le_trans (HI.lenIn he) (by decide)
    have hphi : ∀ k', g e.1 k' = intAt e.2.2 k' := fun k' => (hφ e.1 k').symm.trans (tabAt_hit HI.nodTop he rfl)
    have haS : e.2.1 ∈ M := hS ▸ List.mem_cons_of_mem _ (List.mem_map.mpr ⟨e, he, rfl⟩)
    k_steps
    refine L_method PySem.F.slot_dict_pop PySem.F.type_dict_pop (by k_asm) (by simp only [List.mem_cons, hoi, or_true]) hdi ?_
    k_steps
    refine L_pop (by k_asm) (by k_asm) (by simp only [List.mem_cons, hoi, or_true]) hdi hlo hov (mk_part hov) hsz ?_
    intro h4 o4 hd4 F4 N4
    obtain ⟨l', hl1, hl2, hl3⟩ := without_int e.2.2 k
    rw [hl1] at hd4
    have HT' := tab_hit HI he hd4 (fun x hx => let ⟨y, hy, e'⟩ := hl3 x hx; e' ▸ HI.keys e he y hy) (φ' := set2 g nm k none) hφ
      (fun k' => by rw [hl2]; unfold set2; rw [hen]; by_cases h9 : k' = k <;> simp [h9, ← hphi, hen]) (fun n' k' h9 => by unfold set2; rw [if_neg (fun h => h9 (h.1.trans hen.symm))])
    rw [← hS] at HT'
    obtain ⟨HH, HK⟩ := H.updM haS HT'
    k_steps
    exact ret_to hret (by k_asm) (by k_asm) (upd_sub (by (intro p9 hp9; simp only [List.mem_cons, hp9, or_true, true_or]))) ⟨rfl, _, HH.toLT, hA ▸ HK⟩
  · intro hv h4 o4 hd4 F4 N4
    clear F2 N2
    rw [valueAt_top, Option.map_eq_none_iff] at hv
    have hltX := AllLt.of hlt0.2.2
    have hnone : ∀ k', g nm k' = none := fun k' => (hφ nm k').symm.trans (by unfold tabAt; rw [hv]; rfl)
    rw [upd_cons_ne (Nat.ne_of_gt (hltX _ hot))] at N4
    k_steps
    refine L_method PySem.F.slot_dict_pop PySem.F.type_dict_pop (by k_asm) (List.Mem.head _) hd0 ?_
    k_steps
    refine L_pop (knd := mixKind prog w) (by k_asm) (by k_asm) (List.Mem.head _) (isDictOf_nil hd0) lo0 hov (mk_part hov) (by decide) ?_
    intro h5 o5 hd5 F5 N5
    have HT' := tab_miss HI hv hnm (fun p hp => Nat.ne_of_lt (hltX p hp)) lo0 hd4 (l' := []) hd5 (fun x hx => by simp at hx) (φ' := set2 g nm k none) hφ
      (fun k' => by unfold set2; rw [hnone]; simp [PySem.intAt]) (fun n' k' h9 => by unfold set2; rw [if_neg (fun h => h9 h.1)])
    rw [← List.cons_append, ← hS] at HT'
    obtain ⟨HH, HK⟩ := H.newM (fun p hp => Nat.ne_of_lt (hltX p hp)) (hS ▸ .head _) HT'
    k_steps
    exact ret_to hret (by k_asm) (by k_asm) (miss_sub hltX (by (intro p9 hp9; simp only [List.mem_cons, hp9, or_true, true_or]))) ⟨rfl, _, HH.toLT, hA ▸ HK⟩

set_option maxRecDepth 100000 in
set_option maxHeartbeats 8000000 in
theorem set_mark_int_c : Of PySem.Challenge.rw_xm0775_01 kk (∀ (prog : Program) (w : World) (lk : Addr) (A : List Addr) (k : MK) (ov : Value) (nm : Str) (tn : Tok) (lev : Int) (tl : Tok) (X : List (Addr × Obj)) (φ g : Str → MK → Option Int),
    LT prog w X lk A φ g → k.is ov = true → nm ∈ NM → k ∈ OW →
    Spec prog w 3 215 [.ref lk, ov, .str nm tn, .int lev tl] X (fun r X' => r = .none ∧ ∃ A', LT prog w X' lk A' φ (set2 g nm k (some lev)) ∧ Keep X A X' A')) := by
  k_fill
  unfold Of
  intro prog w lk A k ov nm tn lev tl X φ g HLT hov hnm hk0
  unfold Spec
  intro p loose mean mg mb dp un gd cn cs a ccd cl outer A₀ base h₀ L m s Q E B F KX N T hk hd hu hret
  obtain ⟨dx, lv, sl, tm, S, M, t1, t2, t3, n, H, hA⟩ := HLT
  replace N := news_sub N (two_sub H.i H.dd)
  have HI0 := H.HM
  obtain ⟨Tb, HI, hS, hφ⟩ := HI0
  obtain ⟨ot, hot, hdt⟩ := HI.top
  refine wpAny_call ?_
  k_dflt cell_enter
  k_steps
  (rename News _ _ _ _ => N1)
  refine L_method PySem.F.slot_dict_setdefault PySem.F.type_dict_setdefault N1 (by simp only [List.mem_cons, hot, or_true]) hdt ?_
  k_steps
  (rename News _ _ _ _ => N2)
  (rename Fr _ _ _ _ => F2)
  (rename Obj.IsDictOf (PySem.strKind _ _) _ _ => hd0)
  (rename (_ == sysModules) = false => lo0)
  (rename _ ∧ _ ∧ AllLt _ _ => hlt0)
  refine L_setdef F2 N2 (by simp only [List.mem_cons, hot, or_true]) hdt HI.lo (strKind_is _ _ _ _) HI.lenTop ?_ ?_
  · intro v hv
    rw [valueAt_top, Option.map_eq_some_iff] at hv
    obtain ⟨e, hf, rfl⟩ := hv
    have he : e ∈ Tb := List.mem_of_find?_eq_some hf
    have hen : e.1 = nm := by simpa using List.find?_some hf
    obtain ⟨hlo, oi, hoi, hdi⟩ := HI.inn e he
    have hsz : (intPairs e.2.2).length ≤ sizeLine := Nat.le_trans (HI.lenIn he) (by decide)
    have hphi : ∀ k', g e.1 k' = intAt e.2.2 k' := fun k' => (hφ e.1 k').symm.trans (tabAt_hit HI.nodTop he rfl)
    have haS : e.2.1 ∈ M := hS ▸ List.mem_cons_of_mem _ (List.mem_map.mpr ⟨e, he, rfl⟩)
    k_steps
    refine L_set (by k_asm) (by k_asm) (by simp only [List.mem_cons, hoi, or_true]) hdi hov hsz ?_
    intro h4 o4 hd4 F4 N4
    obtain ⟨l', hl1, hl2, hl3⟩ := stored_int e.2.2 k lev tl
    rw [hl1] at hd4
    have HT' := tab_hit HI he hd4 (fun x hx => (hl3 x hx).elim (fun h => h ▸ hk0) fun ⟨y, hy, e'⟩ => e' ▸ HI.keys e he y hy) (φ' := set2 g nm k (some lev)) hφ
      (fun k' => by rw [hl2]; unfold set2; rw [hen]; by_cases h9 : k' = k <;> simp [h9, ← hphi, hen]) (fun n' k' h9 => by unfold set2; rw [if_neg (fun h => h9 (h.1.trans hen.symm))])
    rw [← hS] at HT'
    obtain ⟨HH, HK⟩ := H.updM haS HT'
    k_steps
    exact ret_to hret (by k_asm) (by k_asm) (upd_sub (by (intro p9 hp9; simp only [List.mem_cons, hp9, or_true, true_or]))) ⟨rfl, _, HH.toLT, hA ▸ HK⟩
  · intro hv h4 o4 hd4 F4 N4
    clear F2 N2
    rw [valueAt_top, Option.map_eq_none_iff] at hv
    have hltX := AllLt.of hlt0.2.2
    have hnone : ∀ k', g nm k' = none := fun k' => (hφ nm k').symm.trans (by unfold tabAt; rw [hv]; rfl)
    rw [upd_cons_ne (Nat.ne_of_gt (hltX _ hot))] at N4
    k_steps
    refine L_set (knd := mixKind prog w) (by k_asm) (by k_asm) (List.Mem.head _) (isDictOf_nil hd0) hov (by decide) ?_
    intro h5 o5 hd5 F5 N5
    have HT' := tab_miss HI hv hnm (fun p hp => Nat.ne_of_lt (hltX p hp)) lo0 hd4 (l' := [(k, lev, tl)]) hd5 (fun x hx => by rw [List.mem_singleton.mp hx]; exact hk0) (φ' := set2 g nm k (some lev)) hφ
      (fun k' => by unfold set2; rw [hnone]; by_cases h9 : k' = k <;> simp [PySem.intAt, h9, eq_comm]) (fun n' k' h9 => by unfold set2; rw [if_neg (fun h => h9 h.1)])
    rw [← List.cons_append, ← hS] at HT'
    obtain ⟨HH, HK⟩ := H.newM (fun p hp => Nat.ne_of_lt (hltX p hp)) (hS ▸ .head _) HT'
    k_steps
    exact ret_to hret (by k_asm) (by k_asm) (miss_sub hltX (by (intro p9 hp9; simp only [List.mem_cons, hp9, or_true, true_or]))) ⟨rfl, _, HH.toLT, hA ▸ HK⟩


end

/-! part T8 -/
section
open PySem PySem.W PyProof.Rows PySem.Spec PySem.Calls

set_option maxRecDepth 100000 in
set_option maxHeartbeats 8000000 in
theorem busy_new_c : Of PySem.Challenge.rw_xm0775_01 kk (∀ (prog : Program) (w : World) (msg : Str) (tn : Tok) (X : List (Addr × Obj)),
    Spec prog w 6 51 [.str msg tn] X (fun r X' => ∃ e t dN, r = .ref e ∧ X' = (e, excO 51 t (some dN)) :: X ∧ ∀ p ∈ X, p.1 ≠ e)) := by
  k_fill
  unfold Of
  intro prog w msg tn X
  unfold Spec
  intro p loose mean mg mb dp un gd cn cs a ccd cl outer A₀ base h₀ L m s Q E B F KX N T hk hd hu hret
  refine exc_made F KX N (K := kk w.params) (by exact rfl) (by k_is) (by k_is) (Nat.le_trans (show 1 ≤ 1 from Nat.le_refl _) (by decide)) ?_
  intro e t h1 F1 N1 hlt1 hlt2
  refine wpAny_call ?_
  k_dflt cell_enter
  k_steps
  refine set_exc (C := 51) (D := 38) (t := t) (by k_asm) (by k_in) (by k_asm) (List.Mem.head _) (by k_is) (by k_is) (cd := _) (by exact rfl) rfl rfl ?_
  intro h2 dN tk2 F2 N2
  k_steps
  refine ret_to hret (by k_asm) (by k_asm) (fun p hp => ?_) ⟨e, t, dN, rfl, rfl, fun p hp => Nat.ne_of_lt (Nat.lt_trans (hlt1 p hp) hlt2)⟩
  rcases List.mem_cons.mp hp with e1 | hp
  · rw [e1]; exact mem_upd_self (.head _)
  · exact mem_upd_ne (.tail _ (.tail _ hp)) (Nat.ne_of_lt (Nat.lt_trans (hlt1 p hp) hlt2))

end

/-! part T33 -/
section
open PySem PySem.W PyProof.Rows PySem.Spec PySem.Calls
theorem sum_none {rows : List Row} {k : MK} {n : Str} (h : ∀ r ∈ rows, ¬ (r.1 = k ∧ r.2.1 = n)) : sumOf rows k n = 0 := by
  unfold sumOf
  rw [List.filter_eq_nil_iff.mpr (fun r hr => by simp only [decide_eq_true_eq]; exact h r hr)]
  rfl
theorem sum_some {rows : List Row} {k : MK} {n : Str} {v : Int} (hd : (rows.map fun r => (r.1, r.2.1)).Nodup) (h : (k, n, v) ∈ rows) : sumOf rows k n = v := by
  induction rows with
  | nil => cases h
  | cons r rs ih =>
    rw [List.map_cons, List.nodup_cons] at hd
    have hs : sumOf (r :: rs) k n = (if r.1 = k ∧ r.2.1 = n then r.2.2 else 0) + sumOf rs k n := by
      unfold sumOf
      by_cases hc : r.1 = k ∧ r.2.1 = n
      · rw [List.filter_cons_of_pos (by simpa using hc), if_pos hc]; simp
      · rw [List.filter_cons_of_neg (by simpa using hc), if_neg hc]; simp
    rcases List.mem_cons.mp h with e | h'
    · subst e
      have h0 : sumOf rs k n = 0 := sum_none fun q hq hc => hd.1 (List.mem_map.mpr ⟨q, hq, by rw [hc.1, hc.2]⟩)
      rw [hs, h0, if_pos ⟨rfl, rfl⟩]; simp
    · have hc : ¬ (r.1 = k ∧ r.2.1 = n) := fun hc => hd.1 (List.mem_map.mpr ⟨_, h', by rw [hc.1, hc.2]⟩)
      rw [hs, ih hd.2 h', if_neg hc]; simp
structure Ag (rows : List Row) (φ : Str → MK → Option Int) : Prop where
  a1 : ∀ r ∈ rows, r.2.2 = (φ r.2.1 r.1).getD 0
  a2 : ∀ n k a, φ n k = some a → (k, n, a) ∈ rows
  a3 : (rows.map fun r => (r.1, r.2.1)).Nodup
theorem ag_sum {rows : List Row} {φ : Str → MK → Option Int} (h : Ag rows φ) (k : MK) (n : Str) : sumOf rows k n = (φ n k).getD 0 := by
  by_cases hx : ∃ r ∈ rows, r.1 = k ∧ r.2.1 = n
  · obtain ⟨⟨k', n', v⟩, hr, hk, hn⟩ := hx
    simp only at hk hn
    subst hk; subst hn
    rw [sum_some h.a3 hr]
    exact h.a1 _ hr
  · rw [sum_none (fun r hr hc => hx ⟨r, hr, hc⟩)]
    cases hv : φ n k with
    | none => rfl
    | some a => exact absurd ⟨_, h.a2 _ _ _ hv, rfl, rfl⟩ hx
theorem ag_hi {rows : List Row} {φ : Str → MK → Option Int} (h : Ag rows φ) {k : MK} {n : Str} {M H : Int} (hM : HiR rows k n M) (hH : IsHi φ n k H) : M = H := by
  obtain ⟨m1, m2, m3⟩ := hM
  obtain ⟨h1, h2, h3⟩ := hH
  have a : M ≤ H := by
    rcases m2 with e | ⟨r, hr, hn, hk, e⟩
    · omega
    · have g := h.a1 r hr
      rw [hn] at g
      cases hv : φ n r.1 with
      | none => rw [hv, Option.getD_none] at g; omega
      | some b => have := h2 r.1 hk b hv; rw [hv, Option.getD_some] at g; omega
  have b : H ≤ M := by
    rcases h3 with e | ⟨k', hk, e⟩
    · omega
    · exact m3 _ (h.a2 _ _ _ e) rfl hk
  omega
theorem ag_put {rows : List Row} {φ : Str → MK → Option Int} (h : Ag rows φ) (k : MK) (n : Str) (v : Int) : Ag (putR rows k n v) (set2 φ n k (enc v)) := by
  have hg : (enc v).getD 0 = v := by unfold enc; split <;> simp_all
  refine ⟨?_, ?_, ?_⟩
  · intro r hr
    unfold putR at hr
    rcases List.mem_append.mp hr with hr | hr
    · obtain ⟨hr, hc⟩ := List.mem_filter.mp hr
      have hc' : ¬ (r.2.1 = n ∧ r.1 = k) := fun q => (of_decide_eq_true hc) ⟨q.2, q.1⟩
      unfold set2; rw [if_neg hc']; exact h.a1 r hr
    · rw [List.mem_singleton.mp hr]; unfold set2; rw [if_pos ⟨rfl, rfl⟩, hg]
  · intro n' k' a ha
    unfold set2 at ha
    unfold putR
    by_cases hc : n' = n ∧ k' = k
    · rw [if_pos hc] at ha
      refine List.mem_append.mpr (.inr (List.mem_singleton.mpr ?_))
      rw [hc.1, hc.2]; rw [ha] at hg; rw [← hg]; rfl
    · rw [if_neg hc] at ha
      exact List.mem_append.mpr (.inl (List.mem_filter.mpr ⟨h.a2 _ _ _ ha, decide_eq_true fun q => hc ⟨q.2, q.1⟩⟩))
  · unfold putR
    rw [List.map_append, List.nodup_append]
    refine ⟨(List.filter_sublist.map _).nodup h.a3, by simp, ?_⟩
    intro x hx y hy e
    obtain ⟨r, hr, er⟩ := List.mem_map.mp hx
    have hc := of_decide_eq_true (List.mem_filter.mp hr).2
    simp only [List.map_cons, List.map_nil, List.mem_singleton] at hy
    rw [hy] at e; rw [e] at er
    exact hc ⟨congrArg Prod.fst er, congrArg Prod.snd er⟩
theorem ag_drop {rows : List Row} {φ : Str → MK → Option Int} (h : Ag rows φ) (k : MK) : Ag (rows.filter fun r => decide (r.1 ≠ k)) (fun n' k' => if k' = k then none else φ n' k') := by
  refine ⟨?_, ?_, (List.filter_sublist.map _).nodup h.a3⟩
  · intro r hr
    obtain ⟨hr, hc⟩ := List.mem_filter.mp hr
    simp only [if_neg (of_decide_eq_true hc)]; exact h.a1 r hr
  · intro n' k' a ha
    by_cases hc : k' = k
    · simp only [if_pos hc] at ha; cases ha
    · simp only [if_neg hc] at ha
      exact List.mem_filter.mpr ⟨h.a2 _ _ _ ha, decide_eq_true hc⟩

end

end Mine
end

section
open PySem PySem.W PyProof.Rows PySem.Spec PySem.Calls
namespace Mine
local macro_rules | `(tactic| k_steps) => `(tactic| repeat' (first | (k_unfold; (try dsimp only)) | (k_end; wrow_close) | ((fail_if_success (first | (with_reducible show wpAny _ _ (call (Value.ref _) _) _ _ _) | (with_reducible show wpAny _ _ (setItem (Value.ref _) _ _) _ _ _))); first | (with_reducible refine execs_tk fun tk9 => ?_; (try dsimp only)) | walk1 | (dsimp only; walk1) | (leave1; try dsimp only)) | fail "no step"))

/-! part T3 -/
section
open PySem PySem.W PyProof.Rows PySem.Spec PySem.Calls

set_option maxRecDepth 100000 in
set_option maxHeartbeats 8000000 in
theorem level_of_c : Of PySem.Challenge.rw_xm0775_01 kk (∀ (prog : Program) (w : World) (lk : Addr) (A : List Addr) (k : MK) (ov : Value) (nm : Str) (tn : Tok) (X : List (Addr × Obj)) (φ g : Str → MK → Option Int),
    LT prog w X lk A φ g → k.is ov = true →
    Spec prog w 3 122 [.ref lk, ov, .str nm tn] X (fun r X' => X' = X ∧ ∃ t, r = .int ((φ nm k).getD 0) t)) := by
  k_fill
  unfold Of
  intro prog w lk A k ov nm tn X φ g HLT hov
  unfold Spec
  intro p loose mean mg mb dp un gd cn cs a ccd cl outer A₀ base h₀ L m s Q E B F KX N T hk hd hu hret
  obtain ⟨dx, lv, sl, tm, S, M, t1, t2, t3, n, H, hA⟩ := HLT
  replace N := news_sub N (two_sub H.i H.dd)
  obtain ⟨Tb, HI, hS, hφ⟩ := H.HL
  refine wpAny_call ?_
  k_dflt cell_enter
  k_steps
  (rename News _ _ _ _ => N1)
  refine d_method PySem.F.slot_dict_get PySem.F.type_dict_get (HI.topAt N1 (by (intro p9 hp9; simp only [List.mem_cons, hp9, or_true, true_or]))) ?_
  k_steps
  (rename News _ _ _ _ => N2)
  refine d_get2 (HI.topAt N2 (by (intro p9 hp9; simp only [List.mem_cons, hp9, or_true, true_or]))) HI.lo (strKind_is _ _ _ _) ?_
  rw [valueAt_top]
  have hphi : φ nm k = (Tb.find? fun e => e.1 = nm).bind fun e => intAt e.2.2 k := (hφ nm k).symm
  cases hf : Tb.find? (fun e => decide (e.1 = nm)) with
  | none =>
    rw [hf] at hphi
    dsimp only [Option.map_none, Option.getD_none]
    (rename Obj.IsDictOf (strKind _ _) _ _ => hd0)
    (rename (_ == sysModules) = false => lo0)
    have hD0 := newNil N2 (.head _) hd0
    k_steps
    refine d_get2 hD0 lo0 hov ?_
    k_steps
    exact ret_to hret (by k_asm) (by k_asm) (by (intro p9 hp9; simp only [List.mem_cons, hp9, or_true, true_or])) ⟨rfl, 307, by rw [hphi]; rfl⟩
  | some e =>
    rw [hf] at hphi
    dsimp only [Option.map_some, Option.getD_some]
    have he : e ∈ Tb := List.mem_of_find?_eq_some hf
    have hDi := HI.inAt N2 (by (intro p9 hp9; simp only [List.mem_cons, hp9, or_true, true_or])) he
    k_steps
    refine d_method PySem.F.slot_dict_get PySem.F.type_dict_get hDi ?_
    k_steps
    refine d_get2 hDi (HI.inn e he).1 hov ?_
    k_steps
    obtain ⟨t', ht⟩ := getD_valueAt_intPairs e.2.2 k 0 307
    exact ret_to hret (by k_asm) (by k_asm) (by (intro p9 hp9; simp only [List.mem_cons, hp9, or_true, true_or])) ⟨rfl, t', by rw [ht, hphi]; rfl⟩

end

/-! part T4 -/
section
open PySem PySem.W PyProof.Rows PySem.Spec PySem.Calls

set_option maxRecDepth 100000 in
set_option maxHeartbeats 8000000 in
theorem highest_c : Of PySem.Challenge.rw_xm0775_01 kk (∀ (prog : Program) (w : World) (lk : Addr) (A : List Addr) (k : MK) (ov : Value) (nm : Str) (tn : Tok) (X : List (Addr × Obj)) (φ g : Str → MK → Option Int),
    LT prog w X lk A φ g → k.is ov = true →
    Spec prog w 3 129 [.ref lk, ov, .str nm tn] X (fun r X' => X' = X ∧ ∃ H t, r = .int H t ∧ IsHi φ nm k H)) := by
  k_fill
  unfold Of
  intro prog w lk A k ov nm tn X φ g HLT hov
  unfold Spec
  intro p loose mean mg mb dp un gd cn cs a ccd cl outer A₀ base h₀ L m s Q E B F KX N T hk hd hu hret
  obtain ⟨dx, lv, sl, tm, S, M, t1, t2, t3, n, H, hA⟩ := HLT
  replace N := news_sub N (two_sub H.i H.dd)
  obtain ⟨Tb, HI, hS, hφ⟩ := H.HL
  refine wpAny_call ?_
  k_dflt cell_enter
  k_steps
  (rename News _ _ _ _ => N1)
  refine d_method PySem.F.slot_dict_get PySem.F.type_dict_get (HI.topAt N1 (by (intro p9 hp9; simp only [List.mem_cons, hp9, or_true, true_or]))) ?_
  k_steps
  (rename News _ _ _ _ => N2)
  refine d_get2 (HI.topAt N2 (by (intro p9 hp9; simp only [List.mem_cons, hp9, or_true, true_or]))) HI.lo (strKind_is _ _ _ _) ?_
  rw [valueAt_top]
  have hphi : ∀ k', φ nm k' = (Tb.find? fun e => e.1 = nm).bind fun e => intAt e.2.2 k' := fun k' => (hφ nm k').symm
  cases hf : Tb.find? (fun e => decide (e.1 = nm)) with
  | none =>
    rw [hf] at hphi
    dsimp only [Option.map_none, Option.getD_none]
    k_steps
    exact ret_to hret (by k_asm) (by k_asm) (by (intro p9 hp9; simp only [List.mem_cons, hp9, or_true, true_or])) ⟨rfl, 0, 307, rfl, Int.le_refl _, (fun k' _ v hv => by rw [hphi] at hv; cases hv), .inl rfl⟩
  | some e =>
    rw [hf] at hphi
    dsimp only [Option.map_some, Option.getD_some]
    have he : e ∈ Tb := List.mem_of_find?_eq_some hf
    have hDi := HI.inAt N2 (by (intro p9 hp9; simp only [List.mem_cons, hp9, or_true, true_or])) he
    k_steps
    obtain ⟨hlo, oi, hoi, hdi⟩ := HI.inn e he
    have hnodi : ((intPairs e.2.2).map (·.1)).Nodup := by
      obtain ⟨_, _, _, _, _, _, hn⟩ := hdi
      exact hn
    (rename Fr _ _ _ _ => F3)
    (rename News _ _ _ _ => N3)
    with_unfolding_all (refine For_invVF F3 (by rfl) (by rfl) ?_)
    with_unfolding_all (refine ld F3 (by rfl) ?_)
    refine iter_dict1 (y := Str.ofString "highest") (fun i a => ∃ H t, a = Value.int H t ∧ 0 ≤ H ∧ (∀ (j : Nat) k' v, j < i → (intPairs e.2.2)[j]? = some (k', v) → k' ≠ k → ∃ n t, v = Value.int n t ∧ n ≤ H) ∧ (H = 0 ∨ ∃ k', k' ≠ k ∧ φ nm k' = some H)) (by rfl) hlo F3 N3 (show (e.2.1, oi) ∈ _ by simp only [List.mem_cons, hoi, or_true]) hdi (by with_unfolding_all rfl) ⟨0, 307, rfl, Int.le_refl _, fun j _ _ h => absurd h (Nat.not_lt_zero _), .inl rfl⟩ (by decide) ?_ ?_
    · rintro i k1 v1 key a1 h1 tk1 own1 hi1 hk1 ⟨H1, t1', rfl, hH0, hHle, hHat⟩ F4 N4
      clear F3 N3
      k_steps
      refine cmpNe_mk hk1 hov ?_
      by_cases hkk : k1 = k
      · rw [decide_eq_true hkk]
        k_steps
        refine ⟨_, _, _, _, rfl, F4, N4, fun _ h => h, ⟨_, rfl, H1, t1', rfl, hH0, ?_, hHat⟩, fun z h1 h2 => by simp only [if_neg h1, if_neg h2]⟩
        intro j k' v hj hg hne
        rcases Nat.lt_succ_iff_lt_or_eq.mp hj with hj | rfl
        · exact hHle j k' v hj hg hne
        · rw [hi1] at hg; injection hg with hg; injection hg with hg _; exact absurd (hg.symm.trans hkk) hne
      · rw [decide_eq_false hkk]
        obtain ⟨n1, t1'', rfl, hl1⟩ := intPairs_get hi1
        have hin1 : φ nm k1 = some n1 := by
          rw [hphi]
          exact get_intAt hnodi hl1
        have hD4 := Heap.dictOf_iff.mpr ⟨oi, (N4 _ (show (e.2.1, oi) ∈ _ by simp only [List.mem_append, List.mem_cons, hoi, or_true])).1, hdi⟩
        k_steps
        refine d_sub hD4 hk1 (valueAt_get hnodi hi1) ?_
        k_steps
        · refine d_sub hD4 hk1 (valueAt_get hnodi hi1) ?_
          k_steps
          (rename H1 < n1 => hc)
          refine ⟨_, _, _, _, rfl, by k_asm, by k_asm, fun _ h => h, ⟨_, rfl, n1, t1'', rfl, by omega, ?_, .inr ⟨k1, hkk, hin1⟩⟩, fun z h1 h2 => by simp only [if_neg h1, if_neg h2]⟩
          intro j k' v hj hg hne
          rcases Nat.lt_succ_iff_lt_or_eq.mp hj with hj | rfl
          · obtain ⟨n, t, h1, h2⟩ := hHle j k' v hj hg hne
            exact ⟨n, t, h1, by omega⟩
          · rw [hi1] at hg; injection hg with hg; injection hg with hg hg2
            exact ⟨n1, t1'', hg2.symm, Int.le_refl _⟩
        · (rename ¬H1 < n1 => hc)
          refine ⟨_, _, _, _, rfl, by k_asm, by k_asm, fun _ h => h, ⟨_, rfl, H1, t1', rfl, hH0, ?_, hHat⟩, fun z h1 h2 => by simp only [if_neg h1, if_neg h2]⟩
          intro j k' v hj hg hne
          rcases Nat.lt_succ_iff_lt_or_eq.mp hj with hj | rfl
          · exact hHle j k' v hj hg hne
          · rw [hi1] at hg; injection hg with hg; injection hg with hg hg2
            exact ⟨n1, t1'', hg2.symm, by omega⟩
    · rintro u a1 h1 tk1 ⟨H1, t1', e1, hH0, hHle, hHat⟩ F4 N4
      subst e1
      clear F3 N3
      k_steps
      refine ret_to hret (by k_asm) (by k_asm) (by (intro p9 hp9; simp only [List.mem_cons, hp9, or_true, true_or])) ⟨rfl, H1, t1', rfl, hH0, ?_, hHat⟩
      intro k' hne v hv
      rw [hphi] at hv
      obtain ⟨j, t9, hj⟩ := intAt_get hv
      have hj2 : (intPairs e.2.2)[j]? = some (k', .int v t9) := by
        unfold intPairs
        rw [List.getElem?_map, hj]; rfl
      obtain ⟨n9, t8, e9, hle⟩ := hHle j k' _ (List.getElem?_eq_some_iff.mp hj2).1 hj2 hne
      injection e9 with e9 _
      rw [e9]; exact hle

end

/-! part T5 -/
section
open PySem PySem.W PyProof.Rows PySem.Spec PySem.Calls

set_option maxRecDepth 100000 in
set_option maxHeartbeats 8000000 in
theorem others_shared_c : Of PySem.Challenge.rw_xm0775_01 kk (∀ (prog : Program) (w : World) (lk : Addr) (A : List Addr) (k : MK) (ov : Value) (nm : Str) (tn : Tok) (X : List (Addr × Obj)) (φ g : Str → MK → Option Int),
    LT prog w X lk A φ g → k.is ov = true →
    Spec prog w 6 136 [.ref lk, ov, .str nm tn] X (fun r X' => X' = X ∧ ∃ H, r = .bool (decide (1 ≤ H)) ∧ IsHi φ nm k H)) := by
  k_fill
  unfold Of
  intro prog w lk A k ov nm tn X φ g HLT hov
  unfold Spec
  intro p loose mean mg mb dp un gd cn cs a ccd cl outer A₀ base h₀ L m s Q E B F KX N T hk hd hu hret
  have HLT2 := HLT
  obtain ⟨dx, lv, sl, tm, S, M, t1, t2, t3, n, H, hA⟩ := HLT
  replace N := news_sub N (two_sub H.i H.dd)
  refine wpAny_call ?_
  k_dflt cell_enter
  k_steps
  refine' use_spec (highest_c prog w lk A k ov nm tn _ φ g ?hlt ?hov) ?k1 ?k2 ?k3 ?k4 ?k5 ?k6 ?k7 ?k8 ?_
  ((case k1 => k_asm); (case k2 => k_asm); (case k3 => k_asm); (case k4 => k_asm); (case k5 => k_asm); (case k6 => first | exact rfl | assumption); (case k7 => ktr_room); (case k8 => ktr_units))
  (case hlt => exact HLT2.mono (by (intro p9 hp9; simp only [List.mem_cons, hp9, or_true, true_or])))
  (case hov => exact hov)
  rintro r9 X9 h9 tk9 F9 N9 ⟨e9, H9, t9, er9, hH9⟩
  subst e9; subst er9
  k_steps
  exact ret_to hret (by k_asm) (by k_asm) (by (intro p9 hp9; simp only [List.mem_cons, hp9, or_true, true_or])) ⟨rfl, H9, rfl, hH9⟩

set_option maxRecDepth 100000 in
set_option maxHeartbeats 8000000 in
theorem others_reserved_c : Of PySem.Challenge.rw_xm0775_01 kk (∀ (prog : Program) (w : World) (lk : Addr) (A : List Addr) (k : MK) (ov : Value) (nm : Str) (tn : Tok) (X : List (Addr × Obj)) (φ g : Str → MK → Option Int),
    LT prog w X lk A φ g → k.is ov = true →
    Spec prog w 6 143 [.ref lk, ov, .str nm tn] X (fun r X' => X' = X ∧ ∃ H, r = .bool (decide (2 ≤ H)) ∧ IsHi φ nm k H)) := by
  k_fill
  unfold Of
  intro prog w lk A k ov nm tn X φ g HLT hov
  unfold Spec
  intro p loose mean mg mb dp un gd cn cs a ccd cl outer A₀ base h₀ L m s Q E B F KX N T hk hd hu hret
  have HLT2 := HLT
  obtain ⟨dx, lv, sl, tm, S, M, t1, t2, t3, n, H, hA⟩ := HLT
  replace N := news_sub N (two_sub H.i H.dd)
  refine wpAny_call ?_
  k_dflt cell_enter
  k_steps
  refine' use_spec (highest_c prog w lk A k ov nm tn _ φ g ?hlt ?hov) ?k1 ?k2 ?k3 ?k4 ?k5 ?k6 ?k7 ?k8 ?_
  ((case k1 => k_asm); (case k2 => k_asm); (case k3 => k_asm); (case k4 => k_asm); (case k5 => k_asm); (case k6 => first | exact rfl | assumption); (case k7 => ktr_room); (case k8 => ktr_units))
  (case hlt => exact HLT2.mono (by (intro p9 hp9; simp only [List.mem_cons, hp9, or_true, true_or])))
  (case hov => exact hov)
  rintro r9 X9 h9 tk9 F9 N9 ⟨e9, H9, t9, er9, hH9⟩
  subst e9; subst er9
  k_steps
  exact ret_to hret (by k_asm) (by k_asm) (by (intro p9 hp9; simp only [List.mem_cons, hp9, or_true, true_or])) ⟨rfl, H9, rfl, hH9⟩

end

end Mine
end

section
open PySem PySem.W PyProof.Rows PySem.Spec PySem.Calls
namespace Mine
local macro_rules | `(tactic| k_steps) => `(tactic| repeat' (first | (k_unfold; (try dsimp only)) | (k_end; wrow_close) | ((fail_if_success (first | (with_reducible show wpAny _ _ (call (Value.ref _) _) _ _ _) | (with_reducible show wpAny _ _ (getMethod (Value.ref _) (Str.ofString "get") _) _ _ _) | (with_reducible show wpAny _ _ (getMethod (Value.ref _) (Str.ofString "pop") _) _ _ _) | (with_reducible show wpAny _ _ (getMethod (Value.ref _) (Str.ofString "setdefault") _) _ _ _) | (with_reducible show wpAny _ _ (call (Value.builtin "dict.get") _) _ _ _) | (with_reducible show wpAny _ _ (call (Value.builtin "dict.pop") _) _ _ _) | (with_reducible show wpAny _ _ (call (Value.builtin "dict.setdefault") _) _ _ _) | (with_reducible show wpAny _ _ (setItem (Value.ref _) _ _) _ _ _) | (with_reducible show wpAny _ _ (call (Value.type "dict") _) _ _ _) | (with_reducible show wpAny _ _ (exec (Stmt.Raise _ _ _) _) _ _ _) | (with_reducible show wpAny _ _ (setAttr (Value.ref _) (Str.ofString "message") _) _ _ _) | (with_reducible show wpAny _ _ (eval (Expr.ListComp _ _ _ _) _) _ _ _) | (with_reducible show wpAny _ _ (exec (Stmt.Assign _ (Expr.ListComp _ _ _ _) _) _) _ _ _) | (with_reducible show wpAny _ _ (compareOp _ (Value.ref _) _) _ _ _) | (with_reducible show wpAny _ _ (binaryOp _ (Value.ref _) (Value.ref _)) _ _ _) | (with_reducible show wpAny _ _ (subscriptTail _ _ (Value.ref _) _) _ _ _))); first | (with_reducible refine execs_tk fun tk9 => ?_; (try dsimp only)) | walk1 | (dsimp only; walk1) | (leave1; try dsimp only)) | fail "no step"))

/-! part T10 -/
section
open PySem PySem.W PyProof.Rows PySem.Spec PySem.Calls

set_option maxRecDepth 100000 in
set_option maxHeartbeats 8000000 in
theorem take_reserved_c : Of PySem.Challenge.rw_xm0775_01 kk (∀ (prog : Program) (w : World) (lk : Addr) (A : List Addr) (k : MK) (ov : Value) (nm : Str) (tn : Tok) (X : List (Addr × Obj)) (φ g : Str → MK → Option Int),
    LT prog w X lk A φ g → k.is ov = true → nm ∈ NM → k ∈ OW →
    SpecR prog w 9 171 [.ref lk, ov, .str nm tn] X
      (fun r X' => r = .none ∧ ∃ H, IsHi φ nm k H ∧ ¬ 2 ≤ H ∧ ∃ A', LT prog w X' lk A' (set2 φ nm k (some 2)) g ∧ Keep X A X' A')
      (fun X' => X' = X ∧ ∃ H, IsHi φ nm k H ∧ 2 ≤ H)) := by
  k_fill
  unfold Of
  intro prog w lk A k ov nm tn X φ g HLT hov hnm hk0
  unfold SpecR
  intro p loose mean mg mb dp un gd cn cs a ccd cl outer A₀ base h₀ L m s Q E B F KX N T hk hd hu hret hraise
  have HLT2 := HLT
  obtain ⟨dx, lv, sl, tm, S, M, t1, t2, t3, n, H, hA⟩ := HLT
  replace N := news_sub N (two_sub H.i H.dd)
  refine wpAny_call ?_
  k_dflt cell_enter
  (rename Fr h₀ L _ m => FG)
  k_steps
  refine' use_spec (highest_c prog w lk A k ov nm tn _ φ g ?hlt ?hov) ?k1 ?k2 ?k3 ?k4 ?k5 ?k6 ?k7 ?k8 ?_
  ((case k1 => k_asm); (case k2 => k_asm); (case k3 => k_asm); (case k4 => k_asm); (case k5 => k_asm); (case k6 => first | exact rfl | assumption); (case k7 => ktr_room); (case k8 => ktr_units))
  (case hlt => exact HLT2.mono (by (intro p9 hp9; simp only [List.mem_cons, hp9, or_true, true_or])))
  (case hov => exact hov)
  rintro r9 X9 h9 tk9 F9 N9 ⟨e9, H9, t9, er9, hH9⟩
  subst e9; subst er9
  k_steps
  · (rename 2 ≤ H9 => hc)
    refine raise_own (C := 51) (D := 38) (by rfl) ?_
    k_steps
    refine' use_spec (busy_new_c prog w _ _ _) ?k1 ?k2 ?k3 ?k4 ?k5 ?k6 ?k7 ?k8 ?_
    ((case k1 => k_asm); (case k2 => k_asm); (case k3 => k_asm); (case k4 => k_asm); (case k5 => k_asm); (case k6 => first | exact rfl | assumption); (case k7 => ktr_room); (case k8 => ktr_units))
    rintro r8 X8 h8 tk8 F8 N8 ⟨e8, t8, dN8, er8, eX8, hne8⟩
    subst er8; subst eX8
    k_steps
    refine ⟨e8, t8, some dN8, rfl, busy_cls (P := w.params) (by k_in), (N8 _ (.head _)).1, ?_⟩
    refine leave_excS (by k_asm) F8 N8 hne8 ?_
    intro h7 R7 U7
    exact hraise e8 _ _ h7 _ FG U7 (raised_sub R7 (by (intro p9 hp9; simp only [List.mem_cons, hp9, or_true, true_or]))) ⟨rfl, H9, hH9, hc⟩
  · (rename ¬2 ≤ H9 => hc)
    refine' use_spec (put_level_c prog w lk A k ov nm tn _ _ _ φ g ?hlt ?hov hnm hk0) ?k1 ?k2 ?k3 ?k4 ?k5 ?k6 ?k7 ?k8 ?_
    ((case k1 => k_asm); (case k2 => k_asm); (case k3 => k_asm); (case k4 => k_asm); (case k5 => k_asm); (case k6 => first | exact rfl | assumption); (case k7 => ktr_room); (case k8 => ktr_units))
    (case hlt => exact HLT2.mono (by (intro p9 hp9; simp only [List.mem_cons, hp9, or_true, true_or])))
    (case hov => exact hov)
    rintro r8 X8 h8 tk8 F8 N8 ⟨er8, A8, HL8, HK8⟩
    subst er8
    k_steps
    exact ret_to hret (by k_asm) (by k_asm) (fun p hp => hp) ⟨rfl, H9, hH9, hc, A8, HL8, fun p hp => HK8 p (.tail _ (.tail _ hp))⟩

end

/-! part T11 -/
section
open PySem PySem.W PyProof.Rows PySem.Spec PySem.Calls


set_option maxRecDepth 100000 in
set_option maxHeartbeats 8000000 in
theorem take_exclusive_c : Of PySem.Challenge.rw_xm0775_01 kk (∀ (prog : Program) (w : World) (lk : Addr) (A : List Addr) (k : MK) (ov : Value) (nm : Str) (tn : Tok) (lev : Int) (tl : Tok) (X : List (Addr × Obj)) (φ g : Str → MK → Option Int),
    LT prog w X lk A φ g → k.is ov = true → nm ∈ NM → k ∈ OW →
    SpecR prog w 9 178 [.ref lk, ov, .str nm tn, .int lev tl] X
      (fun r X' => r = .none ∧ (lev = 4 → ∃ H, IsHi φ nm k H ∧ ¬ 1 ≤ H) ∧ ∃ A', LT prog w X' lk A' (set2 φ nm k (some (if lev = 4 then 4 else 3))) g ∧ Keep X A X' A')
      (fun X' => lev = 4 ∧ (∃ H, IsHi φ nm k H ∧ 1 ≤ H) ∧ ∃ A', LT prog w X' lk A' (set2 φ nm k (some 3)) g ∧ Keep X A X' A')) := by
  k_fill
  unfold Of
  intro prog w lk A k ov nm tn lev tl X φ g HLT hov hnm hk0
  unfold SpecR
  intro p loose mean mg mb dp un gd cn cs a ccd cl outer A₀ base h₀ L m s Q E B F KX N T hk hd hu hret hraise
  have HLT2 := HLT
  obtain ⟨dx, lv, sl, tm, S, M, t1, t2, t3, n, H, hA⟩ := HLT
  replace N := news_sub N (two_sub H.i H.dd)
  refine wpAny_call ?_
  k_dflt cell_enter
  (rename Fr h₀ L _ m => FG)
  k_steps
  refine' use_spec (put_level_c prog w lk A k ov nm tn _ _ _ φ g ?hlt ?hov hnm hk0) ?k1 ?k2 ?k3 ?k4 ?k5 ?k6 ?k7 ?k8 ?_
  ((case k1 => k_asm); (case k2 => k_asm); (case k3 => k_asm); (case k4 => k_asm); (case k5 => k_asm); (case k6 => first | exact rfl | assumption); (case k7 => ktr_room); (case k8 => ktr_units))
  (case hlt => exact HLT2.mono (by (intro p9 hp9; simp only [List.mem_cons, hp9, or_true, true_or])))
  (case hov => exact hov)
  rintro r9 X9 h9 tk9 F9 N9 ⟨er9, A9, HL9, HK9⟩
  subst er9
  obtain ⟨dx9, lv9, sl9, tm9, S9, M9, t19, t29, t39, n9, H9, hA9⟩ := id HL9
  replace N9 := news_sub N9 (two_sub H9.i H9.dd)
  k_steps
  · (rename lev = 4 => hc)
    refine' use_spec (others_shared_c prog w lk A9 k ov nm tn _ _ g ?hlt ?hov) ?k1 ?k2 ?k3 ?k4 ?k5 ?k6 ?k7 ?k8 ?_
    ((case k1 => k_asm); (case k2 => k_asm); (case k3 => k_asm); (case k4 => k_asm); (case k5 => k_asm); (case k6 => first | exact rfl | assumption); (case k7 => ktr_room); (case k8 => ktr_units))
    (case hlt => exact HL9.mono sub2)
    (case hov => exact hov)
    rintro r8 X8 h8 tk8 F8 N8 ⟨e8, H8, er8, hH8⟩
    subst e8; subst er8
    replace hH8 := isHi_of_set2 hH8
    k_steps
    · (rename 1 ≤ H8 => hc8)
      refine raise_own (C := 51) (D := 38) (by rfl) ?_
      k_steps
      refine' use_spec (busy_new_c prog w _ _ _) ?k1 ?k2 ?k3 ?k4 ?k5 ?k6 ?k7 ?k8 ?_
      ((case k1 => k_asm); (case k2 => k_asm); (case k3 => k_asm); (case k4 => k_asm); (case k5 => k_asm); (case k6 => first | exact rfl | assumption); (case k7 => ktr_room); (case k8 => ktr_units))
      rintro r7 X7 h7 tk7 F7 N7 ⟨e7, t7, dN7, er7, eX7, hne7⟩
      subst er7; subst eX7
      k_steps
      refine ⟨e7, t7, some dN7, rfl, busy_cls (P := w.params) (by k_in), (N7 _ (.head _)).1, ?_⟩
      refine leave_excS (by k_asm) F7 N7 hne7 ?_
      intro h6 R6 U6
      exact hraise e7 _ _ h6 _ FG U6 (raised_sub R6 (fun p hp => .tail _ (.tail _ hp))) ⟨hc, ⟨H8, hH8, hc8⟩, A9, HL9, HK9.two⟩
    · (rename ¬1 ≤ H8 => hc8)
      refine' use_spec (put_level_c prog w lk A9 k ov nm tn _ _ _ _ g ?hlt ?hov hnm hk0) ?k1 ?k2 ?k3 ?k4 ?k5 ?k6 ?k7 ?k8 ?_
      ((case k1 => k_asm); (case k2 => k_asm); (case k3 => k_asm); (case k4 => k_asm); (case k5 => k_asm); (case k6 => first | exact rfl | assumption); (case k7 => ktr_room); (case k8 => ktr_units))
      (case hlt => exact HL9.mono sub2)
      (case hov => exact hov)
      rintro r7 X7 h7 tk7 F7 N7 ⟨er7, A7, HL7, HK7⟩
      subst er7
      rw [set2_set2] at HL7
      k_steps
      refine ret_to hret (by k_asm) (by k_asm) (fun p hp => hp) ⟨rfl, fun _ => ⟨H8, hH8, hc8⟩, A7, ?_, HK9.two.trans HK7.two⟩
      rw [if_pos hc]
      exact HL7
  · (rename ¬lev = 4 => hc)
    refine ret_to hret (by k_asm) (by k_asm) (fun p hp => .tail _ (.tail _ hp)) ⟨rfl, fun h => absurd h hc, A9, ?_, HK9.two⟩
    rw [if_neg hc]
    exact HL9

end

/-! part T13 -/
section
open PySem PySem.W PyProof.Rows PySem.Spec PySem.Calls

set_option maxRecDepth 100000 in
set_option maxHeartbeats 8000000 in
theorem unlock_c : Of PySem.Challenge.rw_xm0775_01 kk (∀ (prog : Program) (w : World) (lk : Addr) (A : List Addr) (k : MK) (ov : Value) (nm : Str) (tn : Tok) (lev : Int) (tl : Tok) (X : List (Addr × Obj)) (φ g : Str → MK → Option Int),
    LT prog w X lk A φ g → k.is ov = true → nm ∈ NM → k ∈ OW → NZ φ →
    Spec prog w 9 186 [.ref lk, ov, .str nm tn, .int lev tl] X
      (fun r X' => r = .none ∧ ∃ A', LT prog w X' lk A' (set2 φ nm k (enc (if lev < (φ nm k).getD 0 then lev else (φ nm k).getD 0))) g ∧ Keep X A X' A')) := by
  k_fill
  unfold Of
  intro prog w lk A k ov nm tn lev tl X φ g HLT hov hnm hk0 hnz
  unfold Spec
  intro p loose mean mg mb dp un gd cn cs a ccd cl outer A₀ base h₀ L m s Q E B F KX N T hk hd hu hret
  have HLT2 := HLT
  obtain ⟨dx, lv, sl, tm, S, M, t1, t2, t3, n, HH, hA⟩ := HLT
  replace N := news_sub N (two_sub HH.i HH.dd)
  refine wpAny_call ?_
  k_dflt (refine' code_def ?k1 ?k2 ?k3 ?k4 ?k5 ?kA ?kF ?kK ?k6 ?k7 ?k8 ?k9 ?kB ?_ ?c2 ?c3 ?c4 ?c5; (case kA => exact rfl); (case kF => exact rfl); (case kK => assumption); (case k1 => k_asm); (case k2 => k_asm); (case k3 => k_asm); (case k4 => k_asm); (case k5 => k_asm); (case k6 => k_is); (case k7 => k_is); (case k8 => ktr_room); (case k9 => exact binds_K (by k_in) rfl (by k_is) rfl rfl rfl); (case c5 => decide); (case kB => exact locs rfl); (case c2 => exact rfl); (case c3 => exact rfl); (case c4 => exact rfl); k_whole; intro g' L' h' FG' F' N' B' X' T'; (try dsimp only); (try k_fold))
  k_steps
  refine' use_spec (level_of_c prog w lk A k ov nm tn _ φ g ?hlt ?hov) ?k1 ?k2 ?k3 ?k4 ?k5 ?k6 ?k7 ?k8 ?_
  ((case k1 => k_asm); (case k2 => k_asm); (case k3 => k_asm); (case k4 => k_asm); (case k5 => k_asm); (case k6 => first | exact rfl | assumption); (case k7 => ktr_room); (case k8 => ktr_units))
  (case hlt => exact HLT2.mono sub2)
  (case hov => exact hov)
  rintro r9 X9 h9 tk9 F9 N9 ⟨e9, t9, er9⟩
  subst e9; subst er9
  k_steps
  · (rename lev < (φ nm k).getD 0 => hc)
    refine' use_spec (put_level_c prog w lk A k ov nm tn _ _ _ φ g ?hlt ?hov hnm hk0) ?k1 ?k2 ?k3 ?k4 ?k5 ?k6 ?k7 ?k8 ?_
    ((case k1 => k_asm); (case k2 => k_asm); (case k3 => k_asm); (case k4 => k_asm); (case k5 => k_asm); (case k6 => first | exact rfl | assumption); (case k7 => ktr_room); (case k8 => ktr_units))
    (case hlt => exact HLT2.mono sub2)
    (case hov => exact hov)
    rintro r8 X8 h8 tk8 F8 N8 ⟨er8, A8, HL8, HK8⟩
    subst er8
    k_steps
    refine ret_to hret (by k_asm) (by k_asm) (fun p hp => hp) ⟨rfl, A8, ?_, HK8.two⟩
    rw [if_pos hc]
    exact HL8
  · (rename ¬lev < (φ nm k).getD 0 => hc)
    refine ret_to hret (by k_asm) (by k_asm) sub2 ⟨rfl, A, ?_, Keep.refl⟩
    rw [if_neg hc, enc_get hnz, set2_self]
    exact HLT2

end

/-! part T14 -/
section
open PySem PySem.W PyProof.Rows PySem.Spec PySem.Calls

set_option maxRecDepth 100000 in
set_option maxHeartbeats 8000000 in
theorem marks_c : Of PySem.Challenge.rw_xm0775_01 kk (∀ (prog : Program) (w : World) (lk : Addr) (A : List Addr) (nm : Str) (tn : Tok) (X : List (Addr × Obj)) (φ g : Str → MK → Option Int),
    LT prog w X lk A φ g →
    Spec prog w 3 222 [.ref lk, .str nm tn] X (fun r X' => ∃ d o l, r = .ref d ∧ X' = (d, o) :: X ∧ (∀ p ∈ X, p.1 < d) ∧ (d == sysModules) = false ∧ o.IsDictOf (mixKind prog w) (intPairs l) ∧ ∀ k, PySem.intAt l k = g nm k)) := by
  k_fill
  unfold Of
  intro prog w lk A nm tn X φ g HLT
  unfold Spec
  intro p loose mean mg mb dp un gd cn cs a ccd cl outer A₀ base h₀ L m s Q E B F KX N T hk hd hu hret
  obtain ⟨dx, lv, sl, tm, S, M, t1, t2, t3, n, H, hA⟩ := HLT
  replace N := news_sub N (two_sub H.i H.dd)
  obtain ⟨Tb, HI, hS, hφ⟩ := H.HM
  refine wpAny_call ?_
  k_dflt cell_enter
  k_steps
  obtain ⟨ot, hot, hdt⟩ := HI.top
  refine L_method PySem.F.slot_dict_get PySem.F.type_dict_get (by k_asm) (by simp only [List.mem_cons, hot, or_true]) hdt ?_
  k_steps
  refine L_get2 (by k_asm) (by simp only [List.mem_cons, hot, or_true]) hdt HI.lo (strKind_is _ _ _ _) ?_
  rw [valueAt_top]
  have hphi : ∀ k, g nm k = (Tb.find? fun e => e.1 = nm).bind fun e => intAt e.2.2 k := fun k => (hφ nm k).symm
  cases hf : Tb.find? (fun e => decide (e.1 = nm)) with
  | none =>
    rw [hf] at hphi
    dsimp only [Option.map_none, Option.getD_none]
    (rename Obj.IsDictOf (PySem.strKind _ _) _ _ => hd0)
    (rename (_ == sysModules) = false => lo0)
    k_steps
    refine L_dict (knd := mixKind prog w) (kvs := []) (by k_asm) (by k_asm) (Top.nolimit (by k_asm)) (List.Mem.head _) (isDictOf_nil hd0) lo0 (by decide) ?_
    intro d5 h5 o5 F5 N5 hlt5 lo5 hd5
    k_steps
    refine ret_to hret (by k_asm) (by k_asm) (fun p hp => ?_) ⟨d5, o5, [], rfl, rfl, fun p hp => hlt5 p (.tail _ (.tail _ (.tail _ hp))), lo5, hd5, fun k => by rw [hphi]; rfl⟩
    rcases List.mem_cons.mp hp with e | hp
    · rw [e]; exact .head _
    · exact .tail _ (.tail _ (.tail _ (.tail _ hp)))
  | some e =>
    rw [hf] at hphi
    dsimp only [Option.map_some, Option.getD_some]
    have he : e ∈ Tb := List.mem_of_find?_eq_some hf
    obtain ⟨hlo, oi, hoi, hdi⟩ := HI.inn e he
    k_steps
    refine L_dict (knd := mixKind prog w) (by k_asm) (by k_asm) (Top.nolimit (by k_asm)) (show (e.2.1, oi) ∈ _ by simp only [List.mem_cons, hoi, or_true]) hdi hlo (Nat.le_trans (HI.lenIn he) (by decide)) ?_
    intro d5 h5 o5 F5 N5 hlt5 lo5 hd5
    k_steps
    refine ret_to hret (by k_asm) (by k_asm) (fun p hp => ?_) ⟨d5, o5, e.2.2, rfl, rfl, fun p hp => hlt5 p (.tail _ (.tail _ (.tail _ hp))), lo5, hd5, fun k => by rw [hphi]; rfl⟩
    rcases List.mem_cons.mp hp with e | hp
    · rw [e]; exact .head _
    · exact .tail _ (.tail _ (.tail _ (.tail _ hp)))

end

/-! part T15 -/
section
open PySem PySem.W PyProof.Rows PySem.Spec PySem.Calls

set_option maxRecDepth 100000 in
set_option maxHeartbeats 8000000 in
theorem drop_c : Of PySem.Challenge.rw_xm0775_01 kk (∀ (prog : Program) (w : World) (lk : Addr) (A : List Addr) (k : MK) (ov : Value) (X : List (Addr × Obj)) (φ g : Str → MK → Option Int),
    LT prog w X lk A φ g → k.is ov = true →
    Spec prog w 3 229 [.ref lk, ov] X (fun r X' => r = .none ∧ ∃ A', LT prog w X' lk A' (fun n' k' => if k' = k then none else φ n' k') (fun n' k' => if k' = k then none else g n' k') ∧ Keep X A X' A')) := by
  k_fill
  unfold Of
  intro prog w lk A k ov X φ g HLT hov
  unfold Spec
  intro p loose mean mg mb dp un gd cn cs a ccd cl outer A₀ base h₀ L m s Q E B F KX N T hk hd hu hret
  obtain ⟨dx, lv, sl, tm, S, M, t1, t2, t3, n, H, hA⟩ := HLT
  replace N := news_sub N (two_sub H.i H.dd)
  obtain ⟨Tb, HI, hS, hφ⟩ := id H.HL
  obtain ⟨ot, hot, hdt⟩ := HI.top
  refine wpAny_call ?_
  k_dflt cell_enter
  k_steps
  refine iter_dictD (fun i nw => LTP prog w nw lk dx lv sl tm S M t1 t2 t3 n (cutPhi φ k ((Tb.map (·.1)).take i)) g ∧ Keep X A nw A ∧ ∀ p ∈ nw, ∃ q ∈ (lk, instObj 232 dx) :: (dx, lkD w.params lv sl tm t1 t2 t3 n) :: X, q.1 = p.1) (by rfl) HI.lo (by k_asm) (by k_asm) (by simp only [List.mem_cons, hot, or_true]) hdt ⟨(H.mono sub2).cong (by rw [List.take_zero, cut_nil]) rfl, fun p hp hn => ⟨sub2 p hp, hn⟩, fun p hp => ⟨p, hp, rfl⟩⟩ ?_ ?_
  · rintro i k1 v1 key nw h1 tk1 own hget hkey ⟨H1, HK1, HA1⟩ hsep hDD F1 N1
    obtain ⟨t1k, rfl⟩ := strKind_shape hkey
    replace N1 : News _ _ h1 ((lk, instObj 232 dx) :: (dx, lkD w.params lv sl tm t1 t2 t3 n) :: (own ++ nw)) := news_sub N1 (two_sub (List.mem_append_right _ H1.i) (List.mem_append_right _ H1.dd))
    obtain ⟨T1, HI1, hS1, hφ1⟩ := id H1.HL
    obtain ⟨o1, ho1, hd1⟩ := HI1.top
    have hTT : (T1.map fun e => (e.1, Value.ref e.2.1)) = Tb.map fun e => (e.1, Value.ref e.2.1) := by
      obtain ⟨o9, ho9, hd9⟩ := Heap.dictOf_iff.mp hDD
      have e9 := (N1 _ (.tail _ (.tail _ (List.mem_append_right own ho1)))).1
      rw [ho9] at e9
      have e8 := Option.some.inj e9
      subst e8
      exact isDictOf_uniq hd1 hd9
    rw [← hTT, List.getElem?_map, Option.map_eq_some_iff] at hget
    obtain ⟨e, hge, hev⟩ := hget
    have he : e ∈ T1 := List.mem_of_getElem? hge
    have hen : e.1 = k1 := congrArg Prod.fst hev
    have hva : valueAt (T1.map fun e => (e.1, Value.ref e.2.1)) k1 = some (.ref e.2.1) := by
      have := valueAt_get (kvs := T1.map fun e => (e.1, Value.ref e.2.1)) (i := i) (k := k1) (v := Value.ref e.2.1) (by rw [List.map_map]; exact HI1.nodTop) (by rw [List.getElem?_map, hge]; exact congrArg some (by rw [← hen]))
      exact this
    obtain ⟨hlo, oi, hoi, hdi⟩ := HI1.inn e he
    have hsz : (intPairs e.2.2).length ≤ sizeLine := Nat.le_trans (HI1.lenIn he) (by decide)
    have hphi : ∀ k', cutPhi φ k ((Tb.map (·.1)).take i) e.1 k' = intAt e.2.2 k' := fun k' => (hφ1 e.1 k').symm.trans (tabAt_hit HI1.nodTop he rfl)
    have haS : e.2.1 ∈ S := hS1 ▸ List.mem_cons_of_mem _ (List.mem_map.mpr ⟨e, he, rfl⟩)
    have hnd := HI1.nod
    rw [List.nodup_cons] at hnd
    have hownne : ∀ p ∈ own, p.1 ≠ e.2.1 := fun p hp h9 => by
      rcases hsep p hp with h | h
      · exact hnd.1 (List.mem_map.mpr ⟨e, he, h9.symm.trans h⟩)
      · exact h _ hoi h9.symm
    k_steps
    refine L_item (by k_asm) (by simp only [List.mem_cons, List.mem_append, ho1, or_true]) hd1 (strKind_is _ _ _ _) hva ?_
    k_steps
    refine L_method PySem.F.slot_dict_pop PySem.F.type_dict_pop (by k_asm) (show (e.2.1, oi) ∈ _ by simp only [List.mem_cons, List.mem_append, hoi, or_true]) hdi ?_
    k_steps
    refine L_pop (by k_asm) (by k_asm) (show (e.2.1, oi) ∈ _ by simp only [List.mem_cons, List.mem_append, hoi, or_true]) hdi hlo hov (mk_part hov) hsz ?_
    intro h4 o4 hd4 F4 N4
    obtain ⟨l', hl1, hl2, hl3⟩ := without_int e.2.2 k
    rw [hl1] at hd4
    have HT' := tab_hit HI1 he hd4 (fun x hx => let ⟨y, hy, e'⟩ := hl3 x hx; e' ▸ HI1.keys e he y hy) (φ' := set2 (cutPhi φ k ((Tb.map (·.1)).take i)) k1 k none) hφ1
      (fun k' => by rw [hl2]; unfold set2; rw [← hen]; by_cases h9 : k' = k <;> simp [h9, ← hphi]) (fun n' k' h9 => by unfold set2; rw [if_neg (fun h => h9 (h.1.trans hen.symm))])
    rw [← hS1] at HT'
    obtain ⟨HH, HK⟩ := H1.updL haS HT'
    rw [← hA] at HK
    have hT1 : T1.map (·.1) = Tb.map (·.1) := by
      have := congrArg (List.map Prod.fst) hTT
      rw [List.map_map, List.map_map] at this
      exact this
    k_steps
    refine ⟨_, _, _, upd nw e.2.1 o4, rfl, by k_asm, news_sub (by k_asm) (fun p hp => ?_), ⟨HH.cong (by rw [List.take_add_one, ← hT1, List.getElem?_map, hge]; simp only [Option.map_some, Option.toList_some, hen]; exact cut_snoc.symm) rfl, HK1.trans HK, fun p hp => ?_⟩, upd_addr, fun z hz => by simp only [if_neg hz]⟩
    · refine upd_sub sub2 p ?_
      rw [upd_append hownne]
      exact hp
    · obtain ⟨q, hq, e1⟩ := upd_addr p hp
      obtain ⟨r, hr, e2⟩ := HA1 q hq
      exact ⟨r, hr, e2.trans e1⟩
  · rintro u nw h1 tk1 ⟨H1, HK1, HA1⟩ F1 N1
    replace N1 := news_sub N1 (two_sub H1.i H1.dd)
    k_steps
    obtain ⟨os, hos, hds⟩ := H1.osl
    refine iter_dictD (kvs := []) (fun _ nw2 => nw2 = (lk, instObj 232 dx) :: (dx, lkD w.params lv sl tm t1 t2 t3 n) :: nw) (by rfl) H1.slo (by k_asm) (by k_asm) (show (sl, os) ∈ _ by simp only [List.mem_cons, hos, or_true]) hds rfl ?_ ?_
    · intro i k1 v1 key nw2 h2 tk2 own hget
      simp at hget
    intro u2 nw2 h2 tk2 e2 F2 N2
    subst e2
    k_steps
    obtain ⟨T2, HI2, hS2, hφ2⟩ := id H1.HM
    obtain ⟨o2, ho2, hd2⟩ := HI2.top
    refine iter_dictD (fun i nw => LTP prog w nw lk dx lv sl tm S M t1 t2 t3 n (cutPhi φ k ((Tb.map (·.1)).take (Tb.map fun e => (e.1, Value.ref e.2.1)).length)) (cutPhi g k ((T2.map (·.1)).take i)) ∧ Keep X A nw A) (by rfl) HI2.lo (by k_asm) (by k_asm) (show (tm, o2) ∈ _ by simp only [List.mem_cons, ho2, or_true]) hd2 ⟨(H1.mono sub2).cong rfl (by rw [List.take_zero, cut_nil]), fun p hp hn => let ⟨a, b⟩ := HK1 p hp hn; ⟨sub2 p a, b⟩⟩ ?_ ?_
    · rintro i k1 v1 key nw3 h3 tk3 own hget hkey ⟨H3, HK3⟩ hsep hDD F3 N3
      obtain ⟨t1k, rfl⟩ := strKind_shape hkey
      replace N3 : News _ _ h3 ((lk, instObj 232 dx) :: (dx, lkD w.params lv sl tm t1 t2 t3 n) :: (own ++ nw3)) := news_sub N3 (two_sub (List.mem_append_right _ H3.i) (List.mem_append_right _ H3.dd))
      obtain ⟨T1, HI1, hS1, hφ1⟩ := id H3.HM
      obtain ⟨o1, ho1, hd1⟩ := HI1.top
      have hTT : (T1.map fun e => (e.1, Value.ref e.2.1)) = T2.map fun e => (e.1, Value.ref e.2.1) := by
        obtain ⟨o9, ho9, hd9⟩ := Heap.dictOf_iff.mp hDD
        have e9 := (N3 _ (.tail _ (.tail _ (List.mem_append_right own ho1)))).1
        rw [ho9] at e9
        have e8 := Option.some.inj e9
        subst e8
        exact isDictOf_uniq hd1 hd9
      rw [← hTT, List.getElem?_map, Option.map_eq_some_iff] at hget
      obtain ⟨e, hge, hev⟩ := hget
      have he : e ∈ T1 := List.mem_of_getElem? hge
      have hen : e.1 = k1 := congrArg Prod.fst hev
      have hva : valueAt (T1.map fun e => (e.1, Value.ref e.2.1)) k1 = some (.ref e.2.1) := by
        have := valueAt_get (kvs := T1.map fun e => (e.1, Value.ref e.2.1)) (i := i) (k := k1) (v := Value.ref e.2.1) (by rw [List.map_map]; exact HI1.nodTop) (by rw [List.getElem?_map, hge]; exact congrArg some (by rw [← hen]))
        exact this
      obtain ⟨hlo, oi, hoi, hdi⟩ := HI1.inn e he
      have hsz : (intPairs e.2.2).length ≤ sizeLine := Nat.le_trans (HI1.lenIn he) (by decide)
      have hphi : ∀ k', cutPhi g k ((T2.map (·.1)).take i) e.1 k' = intAt e.2.2 k' := fun k' => (hφ1 e.1 k').symm.trans (tabAt_hit HI1.nodTop he rfl)
      have haS : e.2.1 ∈ M := hS1 ▸ List.mem_cons_of_mem _ (List.mem_map.mpr ⟨e, he, rfl⟩)
      have hnd := HI1.nod
      rw [List.nodup_cons] at hnd
      have hownne : ∀ p ∈ own, p.1 ≠ e.2.1 := fun p hp h9 => by
        rcases hsep p hp with h | h
        · exact hnd.1 (List.mem_map.mpr ⟨e, he, h9.symm.trans h⟩)
        · exact h _ hoi h9.symm
      k_steps
      refine L_item (by k_asm) (by simp only [List.mem_cons, List.mem_append, ho1, or_true]) hd1 (strKind_is _ _ _ _) hva ?_
      k_steps
      refine L_method PySem.F.slot_dict_pop PySem.F.type_dict_pop (by k_asm) (show (e.2.1, oi) ∈ _ by simp only [List.mem_cons, List.mem_append, hoi, or_true]) hdi ?_
      k_steps
      refine L_pop (by k_asm) (by k_asm) (show (e.2.1, oi) ∈ _ by simp only [List.mem_cons, List.mem_append, hoi, or_true]) hdi hlo hov (mk_part hov) hsz ?_
      intro h4 o4 hd4 F4 N4
      obtain ⟨l', hl1, hl2, hl3⟩ := without_int e.2.2 k
      rw [hl1] at hd4
      have HT' := tab_hit HI1 he hd4 (fun x hx => let ⟨y, hy, e'⟩ := hl3 x hx; e' ▸ HI1.keys e he y hy) (φ' := set2 (cutPhi g k ((T2.map (·.1)).take i)) k1 k none) hφ1
        (fun k' => by rw [hl2]; unfold set2; rw [← hen]; by_cases h9 : k' = k <;> simp [h9, ← hphi]) (fun n' k' h9 => by unfold set2; rw [if_neg (fun h => h9 (h.1.trans hen.symm))])
      rw [← hS1] at HT'
      obtain ⟨HH, HK⟩ := H3.updM haS HT'
      rw [← hA] at HK
      have hT1 : T1.map (·.1) = T2.map (·.1) := by
        have := congrArg (List.map Prod.fst) hTT
        rw [List.map_map, List.map_map] at this
        exact this
      k_steps
      refine ⟨_, _, _, upd nw3 e.2.1 o4, rfl, by k_asm, news_sub (by k_asm) (fun p hp => ?_), ⟨HH.cong rfl (by rw [List.take_add_one, ← hT1, List.getElem?_map, hge]; simp only [Option.map_some, Option.toList_some, hen]; exact cut_snoc.symm), HK3.trans HK⟩, upd_addr, fun z hz => by simp only [if_neg hz]⟩
      · refine upd_sub sub2 p ?_
        rw [upd_append hownne]
        exact hp
    · rintro u3 nw3 h3 tk3 ⟨H3, HK3⟩ F3 N3
      k_steps
      rw [List.length_map, cut_all hφ, List.length_map, cut_all hφ2] at H3
      exact ret_to hret (by k_asm) (by k_asm) (fun p hp => hp) ⟨rfl, A, hA ▸ H3.toLT, HK3⟩

end

/-! part T9 -/
section
open PySem PySem.W PyProof.Rows PySem.Spec PySem.Calls

set_option maxRecDepth 100000 in
set_option maxHeartbeats 8000000 in
theorem take_shared_c : Of PySem.Challenge.rw_xm0775_01 kk (∀ (prog : Program) (w : World) (lk : Addr) (A : List Addr) (k : MK) (ov : Value) (nm : Str) (tn : Tok) (X : List (Addr × Obj)) (φ g : Str → MK → Option Int),
    LT prog w X lk A φ g → k.is ov = true → nm ∈ NM → k ∈ OW →
    SpecR prog w 9 164 [.ref lk, ov, .str nm tn] X
      (fun r X' => r = .none ∧ ∃ H, IsHi φ nm k H ∧ ¬ 3 ≤ H ∧ ∃ A', LT prog w X' lk A' (set2 φ nm k (some 1)) g ∧ Keep X A X' A')
      (fun X' => X' = X ∧ ∃ H, IsHi φ nm k H ∧ 3 ≤ H)) := by
  k_fill
  unfold Of
  intro prog w lk A k ov nm tn X φ g HLT hov hnm hk0
  unfold SpecR
  intro p loose mean mg mb dp un gd cn cs a ccd cl outer A₀ base h₀ L m s Q E B F KX N T hk hd hu hret hraise
  have HLT2 := HLT
  obtain ⟨dx, lv, sl, tm, S, M, t1, t2, t3, n, H, hA⟩ := HLT
  replace N := news_sub N (two_sub H.i H.dd)
  refine wpAny_call ?_
  k_dflt cell_enter
  (rename Fr h₀ L _ m => FG)
  k_steps
  refine' use_spec (highest_c prog w lk A k ov nm tn _ φ g ?hlt ?hov) ?k1 ?k2 ?k3 ?k4 ?k5 ?k6 ?k7 ?k8 ?_
  ((case k1 => k_asm); (case k2 => k_asm); (case k3 => k_asm); (case k4 => k_asm); (case k5 => k_asm); (case k6 => first | exact rfl | assumption); (case k7 => ktr_room); (case k8 => ktr_units))
  (case hlt => exact HLT2.mono (by (intro p9 hp9; simp only [List.mem_cons, hp9, or_true, true_or])))
  (case hov => exact hov)
  rintro r9 X9 h9 tk9 F9 N9 ⟨e9, H9, t9, er9, hH9⟩
  subst e9; subst er9
  k_steps
  · (rename 3 ≤ H9 => hc)
    refine raise_own (C := 51) (D := 38) (by rfl) ?_
    k_steps
    refine' use_spec (busy_new_c prog w _ _ _) ?k1 ?k2 ?k3 ?k4 ?k5 ?k6 ?k7 ?k8 ?_
    ((case k1 => k_asm); (case k2 => k_asm); (case k3 => k_asm); (case k4 => k_asm); (case k5 => k_asm); (case k6 => first | exact rfl | assumption); (case k7 => ktr_room); (case k8 => ktr_units))
    rintro r8 X8 h8 tk8 F8 N8 ⟨e8, t8, dN8, er8, eX8, hne8⟩
    subst er8; subst eX8
    k_steps
    refine ⟨e8, t8, some dN8, rfl, busy_cls (P := w.params) (by k_in), (N8 _ (.head _)).1, ?_⟩
    refine leave_excS (by k_asm) F8 N8 hne8 ?_
    intro h7 R7 U7
    exact hraise e8 _ _ h7 _ FG U7 (raised_sub R7 (by (intro p9 hp9; simp only [List.mem_cons, hp9, or_true, true_or]))) ⟨rfl, H9, hH9, hc⟩
  · (rename ¬3 ≤ H9 => hc)
    refine' use_spec (put_level_c prog w lk A k ov nm tn _ _ _ φ g ?hlt ?hov hnm hk0) ?k1 ?k2 ?k3 ?k4 ?k5 ?k6 ?k7 ?k8 ?_
    ((case k1 => k_asm); (case k2 => k_asm); (case k3 => k_asm); (case k4 => k_asm); (case k5 => k_asm); (case k6 => first | exact rfl | assumption); (case k7 => ktr_room); (case k8 => ktr_units))
    (case hlt => exact HLT2.mono (by (intro p9 hp9; simp only [List.mem_cons, hp9, or_true, true_or])))
    (case hov => exact hov)
    rintro r8 X8 h8 tk8 F8 N8 ⟨er8, A8, HL8, HK8⟩
    subst er8
    k_steps
    exact ret_to hret (by k_asm) (by k_asm) (fun p hp => hp) ⟨rfl, H9, hH9, hc, A8, HL8, fun p hp => HK8 p (.tail _ (.tail _ hp))⟩

end

/-! part T12 -/
section
open PySem PySem.W PyProof.Rows PySem.Spec PySem.Calls

set_option maxRecDepth 100000 in
set_option maxHeartbeats 8000000 in
theorem lock_c : Of PySem.Challenge.rw_xm0775_01 kk (∀ (prog : Program) (w : World) (lk : Addr) (A : List Addr) (k : MK) (ov : Value) (nm : Str) (tn : Tok) (lev : Int) (tl : Tok) (X : List (Addr × Obj)) (φ g : Str → MK → Option Int) (H : Int),
    LT prog w X lk A φ g → k.is ov = true → nm ∈ NM → k ∈ OW → NZ φ → IsHi φ nm k H →
    SpecR prog w 14 157 [.ref lk, ov, .str nm tn, .int lev tl] X
      (fun r X' => r = .none ∧ lockNo ((φ nm k).getD 0) lev H = false ∧ ∃ A', LT prog w X' lk A' (set2 φ nm k (enc (lockTo ((φ nm k).getD 0) lev H))) g ∧ Keep X A X' A')
      (fun X' => lockNo ((φ nm k).getD 0) lev H = true ∧ ∃ A', LT prog w X' lk A' (set2 φ nm k (enc (lockTo ((φ nm k).getD 0) lev H))) g ∧ Keep X A X' A')) := by
  k_fill
  unfold Of
  intro prog w lk A k ov nm tn lev tl X φ g H HLT hov hnm hk0 hnz hhi
  unfold SpecR
  intro p loose mean mg mb dp un gd cn cs a ccd cl outer A₀ base h₀ L m s Q E B F KX N T hk hd hu hret hraise
  have HLT2 := HLT
  obtain ⟨dx, lv, sl, tm, S, M, t1, t2, t3, n, HH, hA⟩ := HLT
  replace N := news_sub N (two_sub HH.i HH.dd)
  refine wpAny_call ?_
  k_dflt cell_enter
  (rename Fr h₀ L _ m => FG)
  k_steps
  refine' use_spec (level_of_c prog w lk A k ov nm tn _ φ g ?hlt ?hov) ?k1 ?k2 ?k3 ?k4 ?k5 ?k6 ?k7 ?k8 ?_
  ((case k1 => k_asm); (case k2 => k_asm); (case k3 => k_asm); (case k4 => k_asm); (case k5 => k_asm); (case k6 => first | exact rfl | assumption); (case k7 => ktr_room); (case k8 => ktr_units))
  (case hlt => exact HLT2.mono sub2)
  (case hov => exact hov)
  rintro r9 X9 h9 tk9 F9 N9 ⟨e9, t9, er9⟩
  subst e9; subst er9
  have hmine : enc ((φ nm k).getD 0) = φ nm k := enc_get hnz nm k
  generalize hmi : (φ nm k).getD 0 = mine
  rw [hmi] at hmine hret hraise
  have hfin : ∀ {X' A' h' tk' v}, Fr h₀ L h' m → News h₀ L h' X' → LT prog w X' lk A' (set2 φ nm k (some v)) g → Keep X A X' A' → v ≠ 0 → lockTo mine lev H = v → lockNo mine lev H = false → Q .none { heap := h', gens := s.gens, drawn := s.drawn, toks := tk', os := s.os } := by
    intro X' A' h' tk' v F' N' HL' HK' hv h1 h2
    refine hret _ X' h' tk' F' N' ⟨rfl, h2, A', ?_, HK'⟩
    rw [h1]
    unfold enc
    rw [if_neg hv]
    exact HL'
  k_steps
  · (rename lev ≤ mine => hc)
    refine ret_to hret (by k_asm) (by k_asm) sub2 ⟨rfl, by unfold lockNo; rw [if_pos hc], A, ?_, Keep.refl⟩
    unfold lockTo
    rw [if_pos hc, hmine, set2_self]
    exact HLT2
  · (rename ¬lev ≤ mine => hc)
    (rename mine = 0 => hm0)
    refine' use_specR (take_shared_c prog w lk A k ov nm tn _ φ g ?hlt ?hov hnm hk0) ?k1 ?k2 ?k3 ?k4 ?k5 ?k6 ?k7 ?k8 ?_ ?hE
    ((case k1 => k_asm); (case k2 => k_asm); (case k3 => k_asm); (case k4 => k_asm); (case k5 => k_asm); (case k6 => first | exact rfl | assumption); (case k7 => ktr_room); (case k8 => ktr_units))
    (case hlt => exact HLT2.mono sub2)
    (case hov => exact hov)
    case hE =>
      rintro e7 X7 g7 h7 tk7 Fg7 U7 R7 ⟨eX7, H7, hH7, hge7⟩
      subst eX7
      have eH := isHi_uniq hhi hH7
      subst eH
      refine leave_onSN (by k_asm) Fg7 R7 U7 ?_
      intro h6 R6 _ U6
      refine hraise e7 _ _ h6 _ FG U6 (raised_sub R6 sub2) ⟨by unfold lockNo; rw [if_neg hc, if_pos hm0, if_pos hge7], A, ?_, Keep.refl⟩
      have ev : lockTo mine lev H = mine := by unfold lockTo; rw [if_neg hc, if_pos hm0, if_pos hge7, hm0]
      rw [ev, hmine, set2_self]
      exact HLT2
    rintro r8 X8 h8 tk8 F8 N8 ⟨er8, H8, hH8, hlt8, A8, HL8, HK8⟩
    subst er8
    have eH := isHi_uniq hhi hH8
    subst eH
    replace HK8 := HK8.two
    have HH8 := HL8
    obtain ⟨dx8, lv8, sl8, tm8, S8, M8, t18, t28, t38, n8, J8, hA8⟩ := HH8
    replace N8 := news_sub N8 (two_sub J8.i J8.dd)
    have ge8 : ((set2 φ nm k (some 1)) nm k).getD 0 = 1 := by simp [set2]
    k_steps
    · (rename 2 ≤ lev => hc2)
      refine' use_spec (level_of_c prog w lk A8 k ov nm tn _ _ g ?hlt ?hov) ?k1 ?k2 ?k3 ?k4 ?k5 ?k6 ?k7 ?k8 ?_
      ((case k1 => k_asm); (case k2 => k_asm); (case k3 => k_asm); (case k4 => k_asm); (case k5 => k_asm); (case k6 => first | exact rfl | assumption); (case k7 => ktr_room); (case k8 => ktr_units))
      (case hlt => exact HL8.mono sub2)
      (case hov => exact hov)
      rintro r10 X10 h10 tk10 F10 N10 ⟨e10, t10, er10⟩
      subst e10; subst er10
      rw [ge8]
      k_steps
      refine' use_specR (take_reserved_c prog w lk _ k ov nm tn _ _ g ?hlt ?hov hnm hk0) ?k1 ?k2 ?k3 ?k4 ?k5 ?k6 ?k7 ?k8 ?_ ?hE
      ((case k1 => k_asm); (case k2 => k_asm); (case k3 => k_asm); (case k4 => k_asm); (case k5 => k_asm); (case k6 => first | exact rfl | assumption); (case k7 => ktr_room); (case k8 => ktr_units))
      (case hlt => exact HL8.mono sub2)
      (case hov => exact hov)
      case hE =>
        rintro e7 X7 g7 h7 tk7 Fg7 U7 R7 ⟨eX7, H7, hH7, hge7⟩
        subst eX7
        have eH := isHi_uniq hhi (isHi_of_set2 hH7)
        subst eH
        refine leave_onSN (by k_asm) Fg7 R7 U7 ?_
        intro h6 R6 _ U6
        refine hraise e7 _ _ h6 _ FG U6 (raised_sub R6 sub2) ⟨by unfold lockNo noUp noEx; (repeat' split) <;> first | rfl | omega | (simp; omega), _, ?_, HK8.trans Keep.refl⟩
        have ev : lockTo mine lev H = 1 := by unfold lockTo lockUp lockEx; (repeat' split) <;> omega
        rw [ev]
        exact HL8
      rintro r11 X11 h11 tk11 F11 N11 ⟨er11, H11, hH11, hlt11, A11, HL11, HK11⟩
      subst er11
      have eH := isHi_uniq hhi (isHi_of_set2 hH11)
      subst eH
      rw [set2_set2] at HL11
      replace HK11 := HK8.trans HK11.two
      have HH11 := HL11
      obtain ⟨dx11, lv11, sl11, tm11, S11, M11, t111, t211, t311, n11, J11, hA11⟩ := HH11
      replace N11 := news_sub N11 (two_sub J11.i J11.dd)
      k_steps
      · (rename 3 ≤ lev => hc3)
        refine' use_specR (take_exclusive_c prog w lk _ k ov nm tn _ _ _ _ g ?hlt ?hov hnm hk0) ?k1 ?k2 ?k3 ?k4 ?k5 ?k6 ?k7 ?k8 ?_ ?hE
        ((case k1 => k_asm); (case k2 => k_asm); (case k3 => k_asm); (case k4 => k_asm); (case k5 => k_asm); (case k6 => first | exact rfl | assumption); (case k7 => ktr_room); (case k8 => ktr_units))
        (case hlt => exact HL11.mono sub2)
        (case hov => exact hov)
        case hE =>
          rintro e7 X7 g7 h7 tk7 Fg7 U7 R7 ⟨hl4, ⟨H7, hH7, hge7⟩, A7, HL7, HK7⟩
          have eH := isHi_uniq hhi (isHi_of_set2 hH7)
          subst eH
          refine leave_onSN (by k_asm) Fg7 R7 U7 ?_
          intro h6 R6 _ U6
          refine hraise e7 _ _ h6 _ FG U6 R6 ⟨by unfold lockNo noUp noEx; (repeat' split) <;> first | rfl | omega | (simp; omega), A7, ?_, HK11.trans HK7.two⟩
          have ev : lockTo mine lev H = 3 := by unfold lockTo lockUp lockEx; (repeat' split) <;> omega
          rw [ev]
          rw [set2_set2] at HL7
          exact HL7
        rintro r13 X13 h13 tk13 F13 N13 ⟨er13, hH13, A13, HL13, HK13⟩
        subst er13
        rw [set2_set2] at HL13
        k_steps
        refine hfin (by k_asm) (by k_asm) HL13 (HK11.trans HK13.two) (by split <;> decide) ?_ ?_
        · by_cases h4 : lev = 4
          · obtain ⟨H7, hH7, hge7⟩ := hH13 h4
            have eH := isHi_uniq hhi (isHi_of_set2 hH7)
            subst eH
            rw [if_pos h4]
            unfold lockTo lockUp lockEx; (repeat' split) <;> omega
          · rw [if_neg h4]
            unfold lockTo lockUp lockEx; (repeat' split) <;> omega
        · by_cases h4 : lev = 4
          · obtain ⟨H7, hH7, hge7⟩ := hH13 h4
            have eH := isHi_uniq hhi (isHi_of_set2 hH7)
            subst eH
            unfold lockNo noUp noEx; (repeat' split) <;> first | rfl | omega | (simp; omega)
          · unfold lockNo noUp noEx; (repeat' split) <;> first | rfl | omega | (simp; omega)
      · (rename ¬3 ≤ lev => hc3)
        exact hfin (by k_asm) (news_sub (by k_asm) sub2) HL11 HK11 (by decide) (by unfold lockTo lockUp lockEx; (repeat' split) <;> omega) (by unfold lockNo noUp noEx; (repeat' split) <;> first | rfl | omega | (simp; omega))
    · (rename ¬2 ≤ lev => hc2)
      exact hfin (by k_asm) (news_sub (by k_asm) sub2) HL8 HK8 (by decide) (by unfold lockTo lockUp lockEx; (repeat' split) <;> omega) (by unfold lockNo noUp noEx; (repeat' split) <;> first | rfl | omega | (simp; omega))
  · (rename ¬lev ≤ mine => hc)
    (rename ¬mine = 0 => hm0)
    (rename 2 ≤ lev => hc2)
    refine' use_spec (level_of_c prog w lk A k ov nm tn _ φ g ?hlt ?hov) ?k1 ?k2 ?k3 ?k4 ?k5 ?k6 ?k7 ?k8 ?_
    ((case k1 => k_asm); (case k2 => k_asm); (case k3 => k_asm); (case k4 => k_asm); (case k5 => k_asm); (case k6 => first | exact rfl | assumption); (case k7 => ktr_room); (case k8 => ktr_units))
    (case hlt => exact HLT2.mono sub2)
    (case hov => exact hov)
    rintro r10 X10 h10 tk10 F10 N10 ⟨e10, t10, er10⟩
    subst e10; subst er10
    rw [hmi]
    k_steps
    · (rename mine < 2 => hm2)
      refine' use_specR (take_reserved_c prog w lk _ k ov nm tn _ _ g ?hlt ?hov hnm hk0) ?k1 ?k2 ?k3 ?k4 ?k5 ?k6 ?k7 ?k8 ?_ ?hE
      ((case k1 => k_asm); (case k2 => k_asm); (case k3 => k_asm); (case k4 => k_asm); (case k5 => k_asm); (case k6 => first | exact rfl | assumption); (case k7 => ktr_room); (case k8 => ktr_units))
      (case hlt => exact HLT2.mono sub2)
      (case hov => exact hov)
      case hE =>
        rintro e7 X7 g7 h7 tk7 Fg7 U7 R7 ⟨eX7, H7, hH7, hge7⟩
        subst eX7
        have eH := isHi_uniq hhi (id hH7)
        subst eH
        refine leave_onSN (by k_asm) Fg7 R7 U7 ?_
        intro h6 R6 _ U6
        refine hraise e7 _ _ h6 _ FG U6 (raised_sub R6 sub2) ⟨by unfold lockNo noUp noEx; (repeat' split) <;> first | rfl | omega | (simp; omega), _, ?_, Keep.refl⟩
        have ev : lockTo mine lev H = mine := by unfold lockTo lockUp lockEx; (repeat' split) <;> omega
        rw [ev]
        rw [hmine, set2_self]
        exact HLT2
      rintro r11 X11 h11 tk11 F11 N11 ⟨er11, H11, hH11, hlt11, A11, HL11, HK11⟩
      subst er11
      have eH := isHi_uniq hhi (id hH11)
      subst eH
      replace HK11 := HK11.two
      have HH11 := HL11
      obtain ⟨dx11, lv11, sl11, tm11, S11, M11, t111, t211, t311, n11, J11, hA11⟩ := HH11
      replace N11 := news_sub N11 (two_sub J11.i J11.dd)
      k_steps
      · (rename 3 ≤ lev => hc3)
        refine' use_specR (take_exclusive_c prog w lk _ k ov nm tn _ _ _ _ g ?hlt ?hov hnm hk0) ?k1 ?k2 ?k3 ?k4 ?k5 ?k6 ?k7 ?k8 ?_ ?hE
        ((case k1 => k_asm); (case k2 => k_asm); (case k3 => k_asm); (case k4 => k_asm); (case k5 => k_asm); (case k6 => first | exact rfl | assumption); (case k7 => ktr_room); (case k8 => ktr_units))
        (case hlt => exact HL11.mono sub2)
        (case hov => exact hov)
        case hE =>
          rintro e7 X7 g7 h7 tk7 Fg7 U7 R7 ⟨hl4, ⟨H7, hH7, hge7⟩, A7, HL7, HK7⟩
          have eH := isHi_uniq hhi (isHi_of_set2 hH7)
          subst eH
          refine leave_onSN (by k_asm) Fg7 R7 U7 ?_
          intro h6 R6 _ U6
          refine hraise e7 _ _ h6 _ FG U6 R6 ⟨by unfold lockNo noUp noEx; (repeat' split) <;> first | rfl | omega | (simp; omega), A7, ?_, HK11.trans HK7.two⟩
          have ev : lockTo mine lev H = 3 := by unfold lockTo lockUp lockEx; (repeat' split) <;> omega
          rw [ev]
          rw [set2_set2] at HL7
          exact HL7
        rintro r13 X13 h13 tk13 F13 N13 ⟨er13, hH13, A13, HL13, HK13⟩
        subst er13
        rw [set2_set2] at HL13
        k_steps
        refine hfin (by k_asm) (by k_asm) HL13 (HK11.trans HK13.two) (by split <;> decide) ?_ ?_
        · by_cases h4 : lev = 4
          · obtain ⟨H7, hH7, hge7⟩ := hH13 h4
            have eH := isHi_uniq hhi (isHi_of_set2 hH7)
            subst eH
            rw [if_pos h4]
            unfold lockTo lockUp lockEx; (repeat' split) <;> omega
          · rw [if_neg h4]
            unfold lockTo lockUp lockEx; (repeat' split) <;> omega
        · by_cases h4 : lev = 4
          · obtain ⟨H7, hH7, hge7⟩ := hH13 h4
            have eH := isHi_uniq hhi (isHi_of_set2 hH7)
            subst eH
            unfold lockNo noUp noEx; (repeat' split) <;> first | rfl | omega | (simp; omega)
          · unfold lockNo noUp noEx; (repeat' split) <;> first | rfl | omega | (simp; omega)
      · (rename ¬3 ≤ lev => hc3)
        exact hfin (by k_asm) (news_sub (by k_asm) sub2) HL11 HK11 (by decide) (by unfold lockTo lockUp lockEx; (repeat' split) <;> omega) (by unfold lockNo noUp noEx; (repeat' split) <;> first | rfl | omega | (simp; omega))
    · (rename ¬mine < 2 => hm2)
      have hc3 : 3 ≤ lev := by omega
      refine' use_specR (take_exclusive_c prog w lk _ k ov nm tn _ _ _ _ g ?hlt ?hov hnm hk0) ?k1 ?k2 ?k3 ?k4 ?k5 ?k6 ?k7 ?k8 ?_ ?hE
      ((case k1 => k_asm); (case k2 => k_asm); (case k3 => k_asm); (case k4 => k_asm); (case k5 => k_asm); (case k6 => first | exact rfl | assumption); (case k7 => ktr_room); (case k8 => ktr_units))
      (case hlt => exact HLT2.mono sub2)
      (case hov => exact hov)
      case hE =>
        rintro e7 X7 g7 h7 tk7 Fg7 U7 R7 ⟨hl4, ⟨H7, hH7, hge7⟩, A7, HL7, HK7⟩
        have eH := isHi_uniq hhi (hH7)
        subst eH
        refine leave_onSN (by k_asm) Fg7 R7 U7 ?_
        intro h6 R6 _ U6
        refine hraise e7 _ _ h6 _ FG U6 R6 ⟨by unfold lockNo noUp noEx; (repeat' split) <;> first | rfl | omega | (simp; omega), A7, ?_, HK7.two⟩
        have ev : lockTo mine lev H = 3 := by unfold lockTo lockUp lockEx; (repeat' split) <;> omega
        rw [ev]
        exact HL7
      rintro r13 X13 h13 tk13 F13 N13 ⟨er13, hH13, A13, HL13, HK13⟩
      subst er13
      k_steps
      refine hfin (by k_asm) (by k_asm) HL13 (HK13.two) (by split <;> decide) ?_ ?_
      · by_cases h4 : lev = 4
        · obtain ⟨H7, hH7, hge7⟩ := hH13 h4
          have eH := isHi_uniq hhi (hH7)
          subst eH
          rw [if_pos h4]
          unfold lockTo lockUp lockEx; (repeat' split) <;> omega
        · rw [if_neg h4]
          unfold lockTo lockUp lockEx; (repeat' split) <;> omega
      · by_cases h4 : lev = 4
        · obtain ⟨H7, hH7, hge7⟩ := hH13 h4
          have eH := isHi_uniq hhi (hH7)
          subst eH
          unfold lockNo noUp noEx; (repeat' split) <;> first | rfl | omega | (simp; omega)
        · unfold lockNo noUp noEx; (repeat' split) <;> first | rfl | omega | (simp; omega)
  · (rename ¬lev ≤ mine => hc)
    (rename ¬mine = 0 => hm0)
    (rename ¬2 ≤ lev => hc2)
    refine ret_to hret (by k_asm) (by k_asm) sub2 ⟨rfl, by unfold lockNo noUp noEx; (repeat' split) <;> first | rfl | omega | (simp; omega), A, ?_, Keep.refl⟩
    have ev : lockTo mine lev H = mine := by unfold lockTo lockUp lockEx; (repeat' split) <;> omega
    rw [ev, hmine, set2_self]
    exact HLT2

end

/-! part T23 -/
section
open PySem PySem.W PyProof.Rows PySem.Spec PySem.Calls


set_option maxRecDepth 100000 in
set_option maxHeartbeats 8000000 in
theorem law_lock_c : Of PySem.Challenge.rw_xm0775_01 kk (∀ (prog : Program) (w : World) (lk : Addr) (A : List Addr) (k : MK) (ov : Value) (nm : Str) (tn : Tok) (lev : Int) (tl : Tok) (X : List (Addr × Obj)) (φ g : Str → MK → Option Int) (H : Int),
    LT prog w X lk A φ g → k.is ov = true → nm ∈ NM → k ∈ OW → NZ φ → IsHi φ nm k H →
    SpecT prog w 18 1374 [.ref lk, ov, .str nm tn, .int lev tl] X
      (fun r X' => r = .bool (lockNo ((φ nm k).getD 0) lev H) ∧ ∃ A', LT prog w X' lk A' (set2 φ nm k (enc (lockTo ((φ nm k).getD 0) lev H))) g ∧ Keep X A X' A')) := by
  k_fill
  unfold Of
  intro prog w lk A k ov nm tn lev tl X φ g H HLT hov hnm hk0 hnz hhi
  unfold SpecT
  intro p loose mean mg mb dp un gd cn cs a ccd cl outer A₀ base h₀ L m s Q E B F KX N T XB TB KD hk hd hu hret
  have HLT2 := HLT
  obtain ⟨dx, lv, sl, tm, S, M, t1, t2, t3, n, HH, hA⟩ := HLT
  replace N := news_sub N (two_sub HH.i HH.dd)
  refine wpAny_call ?_
  k_dflt (refine' code_SX ?k1 ?k2 ?k3 ?k4 ?k5 ?XB ?TB ?D ?T0 ?kA ?kF ?cK ?k6 ?k7 ?k8 ?k9 ?kB ?_ ?c2 ?c3 ?c4 ?c5; (case kA => exact rfl); (case kF => exact rfl); (case k2 => k_asm); (case k1 => k_asm); (case XB => assumption); (case TB => assumption); (case D => assumption); (case T0 => exact KtsTurn.refl); (case k3 => k_asm); (case k4 => k_asm); (case k5 => k_asm); (case k6 => k_is); (case k7 => k_is); (case k8 => ktr_room); (case k9 => exact BindsTo.of_eq rfl); (case kB => exact locs rfl); (case cK => assumption); (case c2 => exact rfl); (case c3 => exact rfl); (case c4 => exact rfl); (case c5 => decide); k_whole; intro g' L' h' FG' F' N' B' X' T' D'; (try dsimp only); (try k_fold))
  k_steps

  refine' use_specR (lock_c prog w lk A k ov nm tn _ _ _ φ g H ?hlt ?hov hnm hk0 hnz hhi) ?k1 ?k2 ?k3 ?k4 ?k5 ?k6 ?k7 ?k8 ?_ ?hE
  ((case k1 => k_asm); (case k2 => k_asm); (case k3 => k_asm); (case k4 => k_asm); (case k5 => k_asm); (case k6 => first | exact rfl | assumption); (case k7 => ktr_room); (case k8 => ktr_units))
  (case hlt => exact HLT2.mono sub2)
  (case hov => exact hov)
  case hE =>
    rintro e7 X7 g7 h7 tk7 Fg7 U7 R7 ⟨hno, A7, HL7, HK7⟩
    refine caught_own (C := 51) R7 Fg7 (by k_asm) U7 XB TB D' (by k_is) (by kts_isx) ?_
    intro h6 g6 T6 F6 N6 B6 X6 P6 D6
    k_steps

    refine hret _ X7 _ _ _ (by assumption) (by k_asm) (by k_asm) (by k_asm) (by k_asm) (by k_asm) (by assumption) ⟨by rw [hno], A7, HL7, HK7.two⟩
  rintro r9 X9 h9 tk9 F9 N9 ⟨er9, hno, A9, HL9, HK9⟩
  subst er9
  k_steps
  exact hret _ X9 _ _ _ KtsTurn.refl (by k_asm) (by k_asm) B KX T KD ⟨by rw [hno], A9, HL9, HK9.two⟩

end

/-! part T34 -/
section
open PySem PySem.W PyProof.Rows PySem.Spec PySem.Calls



theorem L_tupitem {prog : Program} {w : World} {A : Around} {E : Value → Shared → Prop} {s : Shared} {h₀ : Heap} {L l : Addr} {news : List (Addr × Obj)} {its : Array Value} {n : Nat} {k : Int} {t : Tok} {v : Value} {value slice : PySem.Expr} {Q : Value → Shared → Prop} (N : News h₀ L s.heap news) (hm : (l, ({ cls := .type "tuple", data := .seq its n } : Obj)) ∈ news) (h0 : 0 ≤ k) (hfit : k < 2 ^ 63) (hx : its[k.toNat]? = some v) (h : Q v s)
    (hs : subscripted slice false (.ref l) (.int k t) = operate [.ref l, .int k t] (getItem (.ref l) (.int k t)) := by with_unfolding_all rfl) :
    wpAny (model prog w) A (subscriptTail value slice (.ref l) (.int k t)) Q E s :=
  have ht : IsTup s.heap l its := ⟨_, (N _ hm).1, rfl, _, rfl⟩
  have hlt : k.toNat < its.size := (Array.getElem?_eq_some_iff.mp hx).1
  tail_any ht.typeIs slot_tuple_getitem.lookup (getItem_tuple ht (by omega) hfit (seqIndex_of h0 (by omega)) hx h) hs
theorem five_item (a b c d e : Tok) {H : Int} (h0 : 0 ≤ H) (h4 : H ≤ 4) : ∃ t', #[Value.int 4 a, .int 3 b, .int 1 c, .int 0 d, .int 0 e][H.toNat]? = some (.int (five H) t') := by
  have hh : H = 0 ∨ H = 1 ∨ H = 2 ∨ H = 3 ∨ H = 4 := by omega
  rcases hh with rfl | rfl | rfl | rfl | rfl
  · exact ⟨_, rfl⟩
  · exact ⟨_, rfl⟩
  · exact ⟨_, rfl⟩
  · exact ⟨_, rfl⟩
  · exact ⟨_, rfl⟩
theorem L_five {prog : Program} {w : World} {A : Around} {E : Value → Shared → Prop} {s : Shared} {h₀ : Heap} {L l : Addr} {news : List (Addr × Obj)} {a b c d e : Tok} {n : Nat} {H : Int} {t : Tok} {value slice : PySem.Expr} {Q : Value → Shared → Prop} (N : News h₀ L s.heap news) (hm : (l, ({ cls := .type "tuple", data := .seq #[Value.int 4 a, .int 3 b, .int 1 c, .int 0 d, .int 0 e] n } : Obj)) ∈ news) (h0 : 0 ≤ H) (h4 : H ≤ 4) (h : ∀ t', Q (.int (five H) t') s)
    (hs : subscripted slice false (.ref l) (.int H t) = operate [.ref l, .int H t] (getItem (.ref l) (.int H t)) := by with_unfolding_all rfl) :
    wpAny (model prog w) A (subscriptTail value slice (.ref l) (.int H t)) Q E s :=
  let ⟨t', ht⟩ := five_item a b c d e h0 h4
  L_tupitem N hm h0 (by omega) ht (h t') hs
set_option maxRecDepth 100000 in
set_option maxHeartbeats 8000000 in
theorem law_asked_c : Of PySem.Challenge.rw_xm0775_01 kk (∀ (prog : Program) (w : World) (lk la : Addr) (A : List Addr) (rows : List Row) (k : MK) (ov : Value) (nm : Str) (tn : Tok) (lev : Int) (tl : Tok) (X : List (Addr × Obj)) (φ g : Str → MK → Option Int) (H : Int),
    LT prog w X lk A φ g → k.is ov = true → nm ∈ NM → k ∈ OW → NZ φ → IsHi φ nm k H → Ok2 φ → Ag rows φ → RowsIn X la rows → rows.length ≤ 100 → 0 ≤ lev → lev ≤ 4 →
    SpecT prog w 24 1396 [.ref lk, .ref la, ov, .str nm tn, .int lev tl] X
      (fun r X' => ∃ ta la' A' nt, r = .ref ta ∧ (ta, ({ cls := .type "tuple", data := .seq #[.bool true, .ref la'] nt } : Obj)) ∈ X' ∧ RowsIn X' la' (putR rows k nm (reachR ((φ nm k).getD 0) lev H)) ∧ LT prog w X' lk A' (set2 φ nm k (enc (reachR ((φ nm k).getD 0) lev H))) g ∧ Keep X A X' A')) := by
  k_fill
  unfold Of
  intro prog w lk la A rows k ov nm tn lev tl X φ g H HLT hov hnm hk0 hnz hhi hok hag HR hlen hl0 hl4
  unfold SpecT
  intro p loose mean mg mb dp un gd cn cs a ccd cl outer A₀ base h₀ L m s Q E B F KX N T XB TB KD hk hd hu hret
  have HLT2 := HLT
  obtain ⟨dx, lv, sl, tm, S, M, t1, t2, t3, n, HH, hA⟩ := HLT
  replace N := news_sub N (two_sub HH.i HH.dd)
  refine wpAny_call ?_
  k_dflt (refine' code_SX ?k1 ?k2 ?k3 ?k4 ?k5 ?XB ?TB ?D ?T0 ?kA ?kF ?cK ?k6 ?k7 ?k8 ?k9 ?kB ?_ ?c2 ?c3 ?c4 ?c5; (case kA => exact rfl); (case kF => exact rfl); (case k2 => k_asm); (case k1 => k_asm); (case XB => assumption); (case TB => assumption); (case D => assumption); (case T0 => exact KtsTurn.refl); (case k3 => k_asm); (case k4 => k_asm); (case k5 => k_asm); (case k6 => k_is); (case k7 => k_is); (case k8 => ktr_room); (case k9 => exact BindsTo.of_eq rfl); (case kB => exact locs rfl); (case cK => assumption); (case c2 => exact rfl); (case c3 => exact rfl); (case c4 => exact rfl); (case c5 => decide); k_whole; intro g' L' h' FG' F' N' B' X' T' D'; (try dsimp only); (try k_fold))
  k_steps


  refine' use_spec (law_level_c prog w la rows k ov nm tn _ ?hr hlen hov) ?k1 ?k2 ?k3 ?k4 ?k5 ?k6 ?k7 ?k8 ?_
  ((case k1 => k_asm); (case k2 => k_asm); (case k3 => k_asm); (case k4 => k_asm); (case k5 => k_asm); (case k6 => first | exact rfl | assumption); (case k7 => ktr_room); (case k8 => ktr_units))
  (case hr => exact HR.mono sub2)
  rintro r7 X7 h7 tk7 F7 N7 ⟨e7, t7, er7⟩
  subst e7; subst er7
  k_steps
  refine' use_spec (law_highest_c prog w la rows k ov nm tn _ ?hr hlen hov) ?k1 ?k2 ?k3 ?k4 ?k5 ?k6 ?k7 ?k8 ?_
  ((case k1 => k_asm); (case k2 => k_asm); (case k3 => k_asm); (case k4 => k_asm); (case k5 => k_asm); (case k6 => first | exact rfl | assumption); (case k7 => ktr_room); (case k8 => ktr_units))
  (case hr => exact HR.mono sub2)
  rintro r5 X5 h5 tk5 F5 N5 ⟨e5, M5, tM, er5, hM⟩
  subst e5; subst er5
  have eH := ag_hi hag hM hhi
  subst eH
  rw [ag_sum hag k nm]
  k_steps
  obtain ⟨b1, b2, b3, b4, b5, b6, b7⟩ := ok2_i hok hhi
  refine L_five (by k_asm) (.head _) b3 b4 ?_
  intro t5
  k_steps
  (rename News _ _ _ _ => NB)
  refine' use_specT (law_lock_c prog w lk A k ov nm tn lev _ _ φ g M5 ?hlt hov hnm hk0 hnz hhi) ?q1 ?q2 ?q3 ?q4 ?q5 ?q6 ?q7 ?q8 ?q9 ?q10 ?q11 ?_
  case q2 => k_asm
  case q4 => k_asm
  case q1 => k_asm
  case q3 => k_asm
  case q5 => k_asm
  case q6 => assumption
  case q7 => assumption
  case q8 => assumption
  case q9 => exact rfl
  case q10 => ktr_room
  case q11 => ktr_units
  case hlt => exact HLT2.mono (fun q hq => by simp only [List.mem_cons, hq, or_true])
  rintro r8 X8 h8 tk8 g8 D8 F8 N8 B8 K8 T8 KD8 ⟨er8, A8, HL8, HK8⟩
  subst er8
  k_steps
  refine' use_spec (law_put_c prog w la rows k ov nm tn _ _ _ ?hr hlen hov) ?k1 ?k2 ?k3 ?k4 ?k5 ?k6 ?k7 ?k8 ?_
  ((case k1 => k_asm); (case k2 => k_asm); (case k3 => k_asm); (case k4 => k_asm); (case k5 => k_asm); (case k6 => first | exact rfl | assumption); (case k7 => ktr_room); (case k8 => ktr_units))
  (case hr => exact rows_keep (HLT2.mono (fun q hq => by simp only [List.mem_cons, hq, or_true])) NB HK8 (HR.mono (fun q hq => by simp only [List.mem_cons, hq, or_true])))
  rintro r9 X9 h9 tk9 F9 N9 ⟨la', er9, sub9, HR9⟩
  subst er9
  have eR : (if (if five M5 < lev then five M5 else lev) > (φ nm k).getD 0 then (if five M5 < lev then five M5 else lev) else (φ nm k).getD 0) = reachR ((φ nm k).getD 0) lev M5 := by
    unfold reachR
    split <;> split at * <;> omega
  obtain ⟨eL, eN⟩ := lock_is b1 b2 hl0 hl4 b3 b4 b5 b6
  have eB : (lockNo ((φ nm k).getD 0) lev M5 == decide ((if (if five M5 < lev then five M5 else lev) > (φ nm k).getD 0 then (if five M5 < lev then five M5 else lev) else (φ nm k).getD 0) < lev)) = true := by
    rw [eR, eN]; exact beq_self_eq_true _
  k_steps
  rw [eR] at HR9
  rw [eL] at HL8
  refine hret _ (_ :: X9) _ _ _ (by k_asm) (by k_asm) (by k_asm) (by k_asm) (by k_asm) (by k_asm) (by k_asm) ⟨_, la', A8, 0, rfl, ?_, HR9.mono (fun q hq => .tail _ hq), HL8.mono (fun q hq => .tail _ (sub9 q hq)), fun q hq hn => ?_⟩
  · rw [← eB]; exact .head _
  · obtain ⟨z1, z2⟩ := HK8 q (by simp only [List.mem_cons, hq, or_true]) hn
    exact ⟨.tail _ (sub9 q z1), z2⟩

end

end Mine
end

section
open PySem PySem.W PyProof.Rows PySem.Spec PySem.Calls
namespace Mine
local macro_rules | `(tactic| k_steps) => `(tactic| repeat' (first | (k_unfold; (try dsimp only)) | (k_end; wrow_close) | ((fail_if_success (first | (with_reducible show wpAny _ _ (call (Value.ref _) _) _ _ _) | (with_reducible show wpAny _ _ (getMethod (Value.ref _) (Str.ofString "get") _) _ _ _) | (with_reducible show wpAny _ _ (getMethod (Value.ref _) (Str.ofString "pop") _) _ _ _) | (with_reducible show wpAny _ _ (getMethod (Value.ref _) (Str.ofString "setdefault") _) _ _ _) | (with_reducible show wpAny _ _ (call (Value.builtin "dict.get") _) _ _ _) | (with_reducible show wpAny _ _ (call (Value.builtin "dict.pop") _) _ _ _) | (with_reducible show wpAny _ _ (call (Value.builtin "dict.setdefault") _) _ _ _) | (with_reducible show wpAny _ _ (setItem (Value.ref _) _ _) _ _ _) | (with_reducible show wpAny _ _ (call (Value.type "dict") _) _ _ _) | (with_reducible show wpAny _ _ (exec (Stmt.Raise _ _ _) _) _ _ _) | (with_reducible show wpAny _ _ (setAttr (Value.ref _) (Str.ofString "message") _) _ _ _) | (with_reducible show wpAny _ _ (eval (Expr.ListComp _ _ _ _) _) _ _ _) | (with_reducible show wpAny _ _ (exec (Stmt.Assign _ (Expr.ListComp _ _ _ _) _) _) _ _ _) | (with_reducible show wpAny _ _ (compareOp _ (Value.ref _) _) _ _ _) | (with_reducible show wpAny _ _ (binaryOp _ (Value.ref _) (Value.ref _)) _ _ _) | (with_reducible show wpAny _ _ (subscriptTail _ _ (Value.ref _) _) _ _ _) | (with_reducible show wpAny _ _ (getAttr (Value.ref _) (Str.ofString "locks") _) _ _ _) | (with_reducible show wpAny _ _ (getAttr (Value.ref _) (Str.ofString "name") _) _ _ _) | (with_reducible show wpAny _ _ (exec (Stmt.For _ _ _ _ _) _) _ _ _))); first | (with_reducible refine execs_tk fun tk9 => ?_; (try dsimp only)) | walk1 | (dsimp only; walk1) | (leave1; try dsimp only)) | fail "no step"))

/-! part T27 -/
section
open PySem PySem.W PyProof.Rows PySem.Spec PySem.Calls
/-- a pager of the file "a" beside the lock table lk -/
def PgIn (X : List (Addr × Obj)) (pg lk : Addr) : Prop := ∃ pd es n t, (pg, instObj 1344 pd) ∈ X ∧ (pd, dictOf es n) ∈ X ∧ getL (Str.ofString "locks") es = some (some (.ref lk)) ∧ getL (Str.ofString "name") es = some (some (.str (Str.ofString "a") t)) ∧ getL (Str.ofString "least_mark") es = some none
set_option maxRecDepth 100000 in
set_option maxHeartbeats 8000000 in
theorem least_mark_c : Of PySem.Challenge.rw_xm0775_01 kk (∀ (prog : Program) (w : World) (pg lk : Addr) (A : List Addr) (X : List (Addr × Obj)) (φ g : Str → MK → Option Int),
    LT prog w X lk A φ g → PgIn X pg lk →
    Spec prog w 6 1327 [.ref pg] X (fun r X' => X' = X ∧ ((r = .none ∧ ∀ k, g (Str.ofString "a") k = none) ∨ ∃ M t, r = .int M t ∧ (∃ k, g (Str.ofString "a") k = some M) ∧ ∀ k v, g (Str.ofString "a") k = some v → M ≤ v))) := by
  k_fill
  unfold Of
  intro prog w pg lk A X φ g HLT HPG
  unfold Spec
  intro p loose mean mg mb dp un gd cn cs a ccd cl outer A₀ base h₀ L m s Q E B F KX N T hk hd hu hret
  obtain ⟨pd, es, n, tn, hp1, hp2, hg1, hg2, hg3⟩ := HPG
  have HLT2 := HLT
  obtain ⟨dx, lv, sl, tm, S, M0, t1, t2, t3, n1, HH, hA⟩ := HLT
  replace N : News h₀ L s.heap ((pg, instObj 1344 pd) :: (pd, dictOf es n) :: (lk, instObj 232 dx) :: (dx, lkD w.params lv sl tm t1 t2 t3 n1) :: X) := news_sub N (by
    intro q hq
    rcases List.mem_cons.mp hq with e | hq
    · rw [e]; exact hp1
    rcases List.mem_cons.mp hq with e | hq
    · rw [e]; exact hp2
    exact two_sub HH.i HH.dd q hq)
  refine wpAny_call ?_
  k_dflt cell_enter
  k_steps
  refine get_own (by k_asm) (by k_in) (InstAt.of_news (by k_asm) (List.Mem.head _) (.tail _ (.head _))) (by k_is) (by k_is) (by k_is) (by k_is) hg1 (by k_handed) ?_
  k_steps
  refine get_own (by k_asm) (by k_in) (InstAt.of_news (by k_asm) (List.Mem.head _) (.tail _ (.head _))) (by k_is) (by k_is) (by k_is) (by k_is) hg2 (by k_handed) ?_
  k_steps
  refine' use_spec (marks_c prog w lk A _ _ _ φ g ?hlt) ?k1 ?k2 ?k3 ?k4 ?k5 ?k6 ?k7 ?k8 ?_
  ((case k1 => k_asm); (case k2 => k_asm); (case k3 => k_asm); (case k4 => k_asm); (case k5 => k_asm); (case k6 => first | exact rfl | assumption); (case k7 => ktr_room); (case k8 => ktr_units))
  (case hlt => exact HLT2.mono fun q hq => .tail _ (.tail _ (.tail _ (.tail _ hq))))
  rintro r9 X9 h9 tk9 F9 N9 ⟨d9, o9, l9, er9, eX9, hlt9, hlo9, hd9, hl9⟩
  subst er9; subst eX9
  have hnod : ((intPairs l9).map (·.1)).Nodup := by
    obtain ⟨_, _, _, _, _, _, hn⟩ := hd9
    exact hn
  k_steps
  (rename Fr _ _ _ _ => F3)
  (rename News _ _ _ _ => N3)
  with_unfolding_all (refine For_invVF F3 (by rfl) (by rfl) ?_)
  with_unfolding_all (refine ld F3 (by rfl) ?_)
  refine iter_dict1 (y := Str.ofString "least") (fun i a => (a = .none ∧ l9.take i = []) ∨ ∃ M t, a = Value.int M t ∧ M ∈ (l9.take i).map (·.2.1) ∧ ∀ v ∈ (l9.take i).map (·.2.1), M ≤ v) (by rfl) hlo9 F3 N3 (List.Mem.head _) hd9 (by with_unfolding_all rfl) (.inl ⟨rfl, rfl⟩) (by decide) ?_ ?_
  · intro i k1 v1 key a1 h1 tk1 own1 hi1 hk1 hI F4 N4
    clear F3 N3
    obtain ⟨n1, t1'', rfl, hl1⟩ := intPairs_get hi1
    have hstep : l9.take (i + 1) = l9.take i ++ [(k1, n1, t1'')] := by rw [List.take_add_one, hl1]; rfl
    have hsub := fun (s : Shared) (hs : s.heap = h1) => (Heap.dictOf_iff.mpr ⟨o9, by rw [hs]; exact (N4 _ (List.mem_append_right _ (.head _))).1, hd9⟩ : s.heap.DictOf (mixKind prog w) d9 (intPairs l9))
    rcases hI with ⟨rfl, hnil⟩ | ⟨M, t, rfl, hM1, hM2⟩
    · k_steps
      refine d_sub (hsub _ rfl) hk1 (valueAt_get hnod hi1) ?_
      k_steps
      refine ⟨_, _, _, _, rfl, by k_asm, by k_asm, fun _ h => h, ⟨_, rfl, .inr ⟨n1, t1'', rfl, ?_, ?_⟩⟩, fun z h1 h2 => by simp only [if_neg h1, if_neg h2]⟩
      · rw [hstep]; simp
      · rw [hstep, hnil]; simp
    · k_steps
      refine d_sub (hsub _ rfl) hk1 (valueAt_get hnod hi1) ?_
      k_steps
      · (rename n1 < M => hc)
        refine d_sub (hsub _ rfl) hk1 (valueAt_get hnod hi1) ?_
        k_steps
        refine ⟨_, _, _, _, rfl, by k_asm, by k_asm, fun _ h => h, ⟨_, rfl, .inr ⟨n1, t1'', rfl, ?_, ?_⟩⟩, fun z h1 h2 => by simp only [if_neg h1, if_neg h2]⟩
        · rw [hstep]; simp
        · rw [hstep]
          intro v hv
          rw [List.map_append] at hv
          rcases List.mem_append.mp hv with hv | hv
          · have := hM2 v hv; omega
          · have : v = n1 := by simpa using hv
            omega
      · (rename ¬n1 < M => hc)
        refine ⟨_, _, _, _, rfl, by k_asm, by k_asm, fun _ h => h, ⟨_, rfl, .inr ⟨M, t, rfl, ?_, ?_⟩⟩, fun z h1 h2 => by simp only [if_neg h1, if_neg h2]⟩
        · rw [hstep, List.map_append]; exact List.mem_append_left _ hM1
        · rw [hstep]
          intro v hv
          rw [List.map_append] at hv
          rcases List.mem_append.mp hv with hv | hv
          · exact hM2 v hv
          · have : v = n1 := by simpa using hv
            omega
  · intro u a1 h1 tk1 hI F4 N4
    clear F3 N3
    k_steps
    have hlen : (intPairs l9).length = l9.length := by unfold intPairs; rw [List.length_map]
    rw [hlen, List.take_length] at hI
    refine ret_to hret (by k_asm) (by k_asm) (fun q hq => .tail _ (.tail _ (.tail _ (.tail _ (.tail _ hq))))) ⟨rfl, ?_⟩
    rcases hI with ⟨e, hnil⟩ | ⟨M, t, e, hM1, hM2⟩
    · refine .inl ⟨e, fun k => ?_⟩
      rw [← hl9, hnil]; rfl
    · refine .inr ⟨M, t, e, ?_, fun k v hv => ?_⟩
      · obtain ⟨x, hx, hxe⟩ := List.mem_map.mp hM1
        obtain ⟨j, hj⟩ := List.mem_iff_getElem?.mp hx
        refine ⟨x.1, ?_⟩
        rw [← hl9]
        have := get_intAt (l := l9) (i := j) (k := x.1) (n := x.2.1) (t := x.2.2) hnod hj
        rw [this, ← hxe]
      · rw [← hl9] at hv
        obtain ⟨j, t9, hj⟩ := intAt_get hv
        exact hM2 v (List.mem_map.mpr ⟨_, List.mem_of_getElem? hj, rfl⟩)

end

/-! part T29 -/
section
open PySem PySem.W PyProof.Rows PySem.Spec PySem.Calls
open PyProof.Rows.LCg (lst NsObj lst_snoc ns_obj)


set_option maxRecDepth 100000 in
set_option maxHeartbeats 8000000 in
theorem law_stands_c : Of PySem.Challenge.rw_xm0775_01 kk (∀ (prog : Program) (w : World) (lk la : Addr) (A : List Addr) (rows : List Row) (nm : Str) (tn : Tok) (X : List (Addr × Obj)) (φ g : Str → MK → Option Int),
    LT prog w X lk A φ g → RowsIn X la rows → rows.length ≤ 100 → (∀ k ∈ OW, sumOf rows k nm = (φ nm k).getD 0) → (∀ k ∈ OW, ∀ M H, HiR rows k nm M → IsHi φ nm k H → M = H) →
    Spec prog w 12 1403 [.ref lk, .ref la, .str nm tn] X (fun r X' => X' = X ∧ r = .bool true)) := by
  k_fill
  unfold Of
  intro prog w lk la A rows nm tn X φ g HLT HR hlen hsum hhi
  unfold Spec
  intro p loose mean mg mb dp un gd cn cs a ccd cl outer A₀ base h₀ L m s Q E B F KX N T hk hd hu hret
  have HLT2 := HLT
  obtain ⟨dx, lv, sl, tm, S, M0, t1, t2, t3, n1, HH, hA⟩ := HLT
  replace N := news_sub N (two_sub HH.i HH.dd)
  refine wpAny_call ?_
  k_dflt cell_enter
  k_steps
  (rename Fr _ _ _ _ => F3)
  with_unfolding_all (refine For_invVF F3 (by rfl) (by rfl) ?_)
  k_steps
  refine iter_tup (y := Str.ofString "highest") (by rfl) (by k_asm) (by k_asm) (List.Mem.head _) rfl rfl ?_ ?_
  · intro i v u h1 tk1 own1 hv F4 N4
    have hkk : ∃ k ∈ OW, k.is v = true := by
      have hi : i < 3 := (Array.getElem?_eq_some_iff.mp hv).1
      match i, hi with
      | 0, _ => exact ⟨.ks (Str.ofString "x"), by decide, by rw [← Option.some.inj hv]; show (_ == _) = true; simp⟩
      | 1, _ => exact ⟨.ks (Str.ofString "y"), by decide, by rw [← Option.some.inj hv]; show (_ == _) = true; simp⟩
      | 2, _ => exact ⟨.ki 3, by decide, by rw [← Option.some.inj hv]; show (_ == _) = true; simp⟩
    obtain ⟨k, hkO, hov⟩ := hkk
    clear hv
    generalize hled : (own1 ++ (_ :: (lk, instObj 232 dx) :: (dx, lkD w.params lv sl tm t1 t2 t3 n1) :: X) : List (Addr × Obj)) = led at N4 ⊢
    have hX : ∀ q ∈ X, q ∈ (lk, instObj 232 dx) :: (dx, lkD w.params lv sl tm t1 t2 t3 n1) :: led := fun q hq => by
      rw [← hled]; simp only [List.mem_cons, List.mem_append, hq, or_true]
    replace N4 : News _ _ h1 ((lk, instObj 232 dx) :: (dx, lkD w.params lv sl tm t1 t2 t3 n1) :: led) := news_sub N4 (two_sub (by rw [← hled]; simp) (by rw [← hled]; simp))
    k_steps
    refine' use_spec (law_highest_c prog w la rows k v nm tn _ ?hr hlen hov) ?k1 ?k2 ?k3 ?k4 ?k5 ?k6 ?k7 ?k8 ?_
    ((case k1 => k_asm); (case k2 => k_asm); (case k3 => k_asm); (case k4 => k_asm); (case k5 => k_asm); (case k6 => first | exact rfl | assumption); (case k7 => ktr_room); (case k8 => ktr_units))
    (case hr => exact HR.mono hX)
    rintro r5 X5 h5 tk5 F5 N5 ⟨e5, M, tM, er5, hM⟩
    subst e5; subst er5
    k_steps
    refine' use_spec (level_of_c prog w lk A k v nm tn _ φ g ?hlt ?hov) ?k1 ?k2 ?k3 ?k4 ?k5 ?k6 ?k7 ?k8 ?_
    ((case k1 => k_asm); (case k2 => k_asm); (case k3 => k_asm); (case k4 => k_asm); (case k5 => k_asm); (case k6 => first | exact rfl | assumption); (case k7 => ktr_room); (case k8 => ktr_units))
    (case hlt => exact HLT2.mono hX)
    (case hov => exact hov)
    rintro r6 X6 h6 tk6 F6 N6 ⟨e6, t6, er6⟩
    subst e6; subst er6
    k_steps
    refine' use_spec (law_level_c prog w la rows k v nm tn _ ?hr hlen hov) ?k1 ?k2 ?k3 ?k4 ?k5 ?k6 ?k7 ?k8 ?_
    ((case k1 => k_asm); (case k2 => k_asm); (case k3 => k_asm); (case k4 => k_asm); (case k5 => k_asm); (case k6 => first | exact rfl | assumption); (case k7 => ktr_room); (case k8 => ktr_units))
    (case hr => exact HR.mono hX)
    rintro r7 X7 h7 tk7 F7 N7 ⟨e7, t7, er7⟩
    subst e7; subst er7
    rw [hsum k hkO]
    k_steps
    · exfalso
      first
        | (rename ¬(_ = _) => hbad; exact hbad rfl)
        | omega
    refine' use_spec (highest_c prog w lk A k v nm tn _ φ g ?hlt ?hov) ?k1 ?k2 ?k3 ?k4 ?k5 ?k6 ?k7 ?k8 ?_
    ((case k1 => k_asm); (case k2 => k_asm); (case k3 => k_asm); (case k4 => k_asm); (case k5 => k_asm); (case k6 => first | exact rfl | assumption); (case k7 => ktr_room); (case k8 => ktr_units))
    (case hlt => exact HLT2.mono hX)
    (case hov => exact hov)
    rintro r8 X8 h8 tk8 F8 N8 ⟨e8, H8, t8, er8, hH8⟩
    subst e8; subst er8
    have eM := hhi k hkO M H8 hM hH8
    subst eM
    k_steps
    · exfalso
      first
        | (rename ¬(_ = _) => hbad; exact hbad rfl)
        | omega
    refine' use_spec (others_shared_c prog w lk A k v nm tn _ φ g ?hlt ?hov) ?k1 ?k2 ?k3 ?k4 ?k5 ?k6 ?k7 ?k8 ?_
    ((case k1 => k_asm); (case k2 => k_asm); (case k3 => k_asm); (case k4 => k_asm); (case k5 => k_asm); (case k6 => first | exact rfl | assumption); (case k7 => ktr_room); (case k8 => ktr_units))
    (case hlt => exact HLT2.mono hX)
    (case hov => exact hov)
    rintro r9 X9 h9 tk9 F9 N9 ⟨e9, H9, er9, hH9⟩
    subst e9; subst er9
    have e10 := isHi_uniq hH9 hH8
    subst e10
    k_steps
    · exfalso
      rename (_ != _) = true => hbad
      simp only [bne_iff_ne, ne_eq, decide_eq_decide] at hbad
      omega
    refine' use_spec (others_reserved_c prog w lk A k v nm tn _ φ g ?hlt ?hov) ?k1 ?k2 ?k3 ?k4 ?k5 ?k6 ?k7 ?k8 ?_
    ((case k1 => k_asm); (case k2 => k_asm); (case k3 => k_asm); (case k4 => k_asm); (case k5 => k_asm); (case k6 => first | exact rfl | assumption); (case k7 => ktr_room); (case k8 => ktr_units))
    (case hlt => exact HLT2.mono hX)
    (case hov => exact hov)
    rintro r11 X11 h11 tk11 F11 N11 ⟨e11, H11, er11, hH11⟩
    subst e11; subst er11
    have e12 := isHi_uniq hH11 hH8
    subst e12
    k_steps
    · exfalso
      rename (_ != _) = true => hbad
      simp only [bne_iff_ne, ne_eq, decide_eq_decide] at hbad
      omega
    exact InvEnd.intro F11 N11 (fun _ h => .tail _ (.tail _ h)) (fun z hz1 hz2 => by simp only [if_neg hz1, if_neg hz2])
  · intro u u' h1 tk1 F4 N4
    k_steps
    exact ret_to hret (by k_asm) (by k_asm) (fun q hq => .tail _ (.tail _ (.tail _ hq))) ⟨rfl, rfl⟩

end

end Mine
end

section
open PySem PySem.W PyProof.Rows PySem.Spec PySem.Calls
namespace Mine
local macro_rules | `(tactic| k_room) => `(tactic| ktr_room)
local macro_rules | `(tactic| k_steps) => `(tactic| repeat' (first | (k_unfold; (try dsimp only)) | ((fail_if_success (with_reducible show wpC _ _ _ _ _ _)); k_end; wrow_close) | ((fail_if_success (first | (with_reducible show wpC _ _ _ _ _ _) | (with_reducible show wpAny _ _ (setItem (Value.ref _) _ _) _ _ _) | (with_reducible show wpAny _ _ (compareOp CmpOp.NotIn _ (Value.ref _)) _ _ _) | (with_reducible show wpAny _ _ (subscriptTail _ _ (Value.ref _) _) _ _ _))); first | (with_reducible refine execs_tk fun tk9 => ?_; (try dsimp only)) | walk1 | (dsimp only; walk1) | (leave1; try dsimp only)) | fail "no step"))

/-! part T16 -/
section
open PySem PySem.W PyProof.Rows PySem.Spec PySem.Calls
/-- the disk's own dict -/
abbrev diskD (P : Params) (fd sh lk : Addr) (a1 a2 a3 a4 a5 a6 a7 u1 u2 : Tok) : Obj :=
  dictOf [⟨PyData.keyHash P (Str.ofString "sector"), .str (Str.ofString "sector") a1, .int 8 u1⟩, ⟨PyData.keyHash P (Str.ofString "room"), .str (Str.ofString "room") a2, .none⟩, ⟨PyData.keyHash P (Str.ofString "files"), .str (Str.ofString "files") a3, .ref fd⟩,
    ⟨PyData.keyHash P (Str.ofString "steps"), .str (Str.ofString "steps") a4, .int 0 u2⟩, ⟨PyData.keyHash P (Str.ofString "crash_at"), .str (Str.ofString "crash_at") a5, .none⟩, ⟨PyData.keyHash P (Str.ofString "shared"), .str (Str.ofString "shared") a6, .ref sh⟩, ⟨PyData.keyHash P (Str.ofString "locks"), .str (Str.ofString "locks") a7, .ref lk⟩] 7
inductive DiskMade (prog : Program) (w : World) (X : List (Addr × Obj)) (r : Value) (X' : List (Addr × Obj)) : Prop
  | mk (dk dd fd sh lk dl lv sl tm : Addr) (ofd osh olv osl otm : Obj) (a1 a2 a3 a4 a5 a6 a7 u1 u2 t1 t2 t3 : Tok) (hr : r = .ref dk)
    (hX : X' = (tm, otm) :: (sl, osl) :: (lv, olv) :: (lk, instObj 232 dl) :: (dl, lkD w.params lv sl tm t1 t2 t3 3) :: (sh, osh) :: (fd, ofd) :: (dk, instObj 380 dd) :: (dd, diskD w.params fd sh lk a1 a2 a3 a4 a5 a6 a7 u1 u2) :: X)
    (d1 : ofd.IsDictOf (PySem.strKind prog w) []) (d2 : olv.IsDictOf (PySem.strKind prog w) []) (d3 : osl.IsDictOf (PySem.strKind prog w) []) (d4 : otm.IsDictOf (PySem.strKind prog w) [])
    (e1 : (fd == sysModules) = false) (e2 : (lv == sysModules) = false) (e3 : (sl == sysModules) = false) (e4 : (tm == sysModules) = false)
    (o0 : ∀ p ∈ X, p.1 < dd) (o1 : dd < dk) (o2 : dk < fd) (o3 : fd < sh) (o4 : sh < dl) (o5 : dl < lk) (o6 : lk < lv) (o7 : lv < sl) (o8 : sl < tm) : DiskMade prog w X r X'
set_option maxRecDepth 100000 in
set_option maxHeartbeats 8000000 in
theorem disk_new_c : Of PySem.Challenge.rw_xm0775_01 kk (∀ (prog : Program) (w : World) (X : List (Addr × Obj)),
    Spec prog w 9 380 [] X (fun r X' => DiskMade prog w X r X')) := by
  k_fill
  unfold Of
  intro prog w X
  unfold Spec
  intro p loose mean mg mb dp un gd cn cs a ccd cl outer A₀ base h₀ L m s Q E B F KX N T hk hd hu hret
  k_dflt (refine' call_cls ?k1 ?k2 ?k3 ?k4 ?k5 ?k6 ?_; (case k1 => k_asm); (case k2 => k_asm); (case k3 => k_asm); (case k4 => k_is); (case k5 => k_is); (case k6 => k_is); k_whole; intro x' d' h' F' N' l1 l2; (try k_lt l1); (try k_lt2 l2); (try k_sweep))
  k_dflt (refine' code_def ?k1 ?k2 ?k3 ?k4 ?k5 ?kA ?kF ?kK ?k6 ?k7 ?k8 ?k9 ?kB ?_ ?c2 ?c3 ?c4 ?c5; (case kA => exact rfl); (case kF => exact rfl); (case kK => first | assumption | exact rfl); (case k1 => k_asm); (case k2 => k_asm); (case k3 => k_asm); (case k4 => k_asm); (case k5 => k_asm); (case k6 => k_is); (case k7 => k_is); (case k8 => ktr_room); (case k9 => first | exact BindsTo.of_eq rfl | exact binds_K (by k_in) rfl (by k_is) rfl rfl rfl); (case c5 => decide); (case kB => exact locs rfl); (case c2 => exact rfl); (case c3 => exact rfl); (case c4 => exact rfl); k_whole; intro g' L' h' FG' F' N' B' X' T'; (try dsimp only); (try k_fold))
  k_steps
  exact ret_to hret (by k_asm) (by k_asm) (fun p hp => hp) ⟨_, _, _, _, _, _, _, _, _, _, _, _, _, _, _, _, _, _, _, _, _, _, _, _, _, _, rfl, rfl, by assumption, by assumption, by assumption, by assumption, by assumption, by assumption, by assumption, by assumption, by assumption, by assumption, And.left (by assumption), And.left (by assumption), And.left (by assumption), by assumption, And.left (by assumption), And.left (by assumption), And.left (by assumption)⟩

end

/-! part T36 -/
section
open PySem PySem.W PyProof.Rows PySem.Spec PySem.Calls
/-- what a call does at a caller that is calm and holds no guard -/
def SpecB (prog : Program) (w : World) (D : Nat) (f : Addr) (vs : List Value) (X : List (Addr × Obj)) (R : Value → List (Addr × Obj) → Prop) : Prop :=
  ∀ (p : Program) (loose : List Str) (mean : ExcName → Option Value) (mg mb : Str → Option Value) (dp un : Nat) (cn : Str) (cs : Scope) (a : Addr) (ccd : Value) (cl : List (Str × Addr)) (outer : List Env) (A₀ : Around) (base h₀ : Heap) (L : Addr) (m : Str → Option Value) (s : Shared) (Q E : Value → Shared → Prop),
    Below A₀ base outer h₀ → Fr h₀ L s.heap m → (kk w.params).In h₀ → News h₀ L s.heap X → Top p loose mean mg mb h₀ → cs.kind = .function → dp + D < recursionLimit → un + 10 * D < cLine →
    (∀ r X' h' tk', Fr h₀ L h' m → News h₀ L h' X' → R r X' → Q r { s with heap := h', toks := tk' }) →
    wpC (model prog w) (ktrTop dp un (some []) cn cs L a ccd cl outer) (call (.ref f) vs) Q E s
def PgD (X : List (Addr × Obj)) (pg pd lk : Addr) : Prop := ∃ es n t, (pg, instObj 1344 pd) ∈ X ∧ (pd, dictOf es n) ∈ X ∧ getL (Str.ofString "locks") es = some (some (.ref lk)) ∧ getL (Str.ofString "name") es = some (some (.str (Str.ofString "a") t)) ∧ getL (Str.ofString "least_mark") es = some none
theorem PgD.toIn {X : List (Addr × Obj)} {pg pd lk : Addr} (h : PgD X pg pd lk) : PgIn X pg lk := let ⟨es, n, t, a⟩ := h; ⟨pd, es, n, t, a⟩
theorem PgD.intro {X : List (Addr × Obj)} {pg lk pd : Addr} {es : List DictEntry} {n : Nat} {t : Tok} (h1 : (pg, instObj 1344 pd) ∈ X) (h2 : (pd, dictOf es n) ∈ X) (h3 : getL (Str.ofString "locks") es = some (some (.ref lk))) (h4 : getL (Str.ofString "name") es = some (some (.str (Str.ofString "a") t))) (h5 : getL (Str.ofString "least_mark") es = some none) : PgD X pg pd lk := ⟨_, _, _, h1, h2, h3, h4, h5⟩
set_option maxRecDepth 100000 in
set_option maxHeartbeats 8000000 in
theorem pager_new_c : Of PySem.Challenge.rw_xm0775_01 kk (∀ (prog : Program) (w : World) (dk dd fd sh lk : Addr) (a1 a2 a3 a4 a5 a6 a7 u1 u2 : Tok) (ofd : Obj) (ov : Value) (tn : Tok) (X : List (Addr × Obj)),
    (dk, instObj 380 dd) ∈ X → (dd, diskD w.params fd sh lk a1 a2 a3 a4 a5 a6 a7 u1 u2) ∈ X → (fd, ofd) ∈ X → ofd.IsDictOf (PySem.strKind prog w) [] → (fd == sysModules) = false → dk ≠ fd → dd ≠ fd →
    SpecB prog w 20 1344 [.ref dk, .str (Str.ofString "a") tn, ov] X (fun r X' => ∃ pg pd, r = .ref pg ∧ PgD X' pg pd lk ∧ (∀ p ∈ X, p.1 ≠ pg ∧ p.1 ≠ pd) ∧ ∀ p ∈ X, p.1 ≠ fd → p ∈ X')) := by
  k_fill
  unfold Of
  intro prog w dk dd fd sh lk a1 a2 a3 a4 a5 a6 a7 u1 u2 ofd ov tn X hdk hdd hfd hofd hlo hne1 hne2
  unfold SpecB
  intro p loose mean mg mb dp un cn cs a ccd cl outer A₀ base h₀ L m s Q E B F KX N T hk hd hu hret
  replace N : News h₀ L s.heap ((dk, instObj 380 dd) :: (dd, diskD w.params fd sh lk a1 a2 a3 a4 a5 a6 a7 u1 u2) :: (fd, ofd) :: X) := news_sub N (fun q hq => by
    rcases List.mem_cons.mp hq with e | hq
    · rw [e]; exact hdk
    · exact two_sub hdd hfd q hq)
  k_dflt (refine' makeC_K ?k1 ?k2 ?k3 ?k4 ?k5 ?k6 ?_; (case k1 => k_asm); (case k2 => k_asm); (case k3 => k_asm); (case k4 => k_is); (case k5 => k_is); (case k6 => k_is); k_whole; intro x' d' h' F' N' l1 l2; (try k_lt l1); (try k_lt2 l2); (try k_sweep))
  have hAl : AllLt d' X := l1.2.2.2
  have hfr : ∀ p ∈ X, p.1 ≠ x' ∧ p.1 ≠ d' := fun p hp => by
    have z : @LT.lt Nat _ p.1 d' := AllLt.of hAl p hp
    have z2 : @LT.lt Nat _ d' x' := l2
    exact ⟨neN (by omega), neN (by omega)⟩
  k_dflt (refine' codeC_K ?k1 ?k2 ?k3 ?k4 ?k5 ?kA ?kF ?kK ?k6 ?k7 ?k8 ?k9 ?kB ?_ ?c2 ?c3 ?c4 ?c5; (case kA => exact rfl); (case kF => exact rfl); (case kK => first | assumption | exact rfl); (case k1 => k_asm); (case k2 => k_asm); (case k3 => k_asm); (case k4 => k_asm); (case k5 => k_asm); (case k6 => k_is); (case k7 => k_is); (case k8 => ktr_room); (case k9 => first | exact BindsTo.of_eq rfl | exact binds_K (by k_in) rfl (by k_is) rfl rfl rfl); (case c5 => decide); (case kB => exact locs rfl); (case c2 => exact rfl); (case c3 => exact rfl); (case c4 => exact rfl); k_whole; intro g' L' h' FG' F' N' B' X' T'; (try dsimp only))
  refine wpC_named fun qk ek hq he => ?_
  refine wpC_tk fun tk9 => ?_
  (try dsimp only)
  refine execsC_cons (execC_Expr (evalC_Attr_Call ?_))
  k_steps
  dsimp only
  refine callWithC_K (K := kk w.params) (by k_is) ?_
  k_steps
  try dsimp only [List.nil_append, List.cons_append]
  refine wpC_call ?_
  k_dflt (refine' codeC_K ?k1 ?k2 ?k3 ?k4 ?k5 ?kA ?kF ?kK ?k6 ?k7 ?k8 ?k9 ?kB ?_ ?c2 ?c3 ?c4 ?c5; (case kA => exact rfl); (case kF => exact rfl); (case kK => first | assumption | exact rfl); (case k1 => k_asm); (case k2 => k_asm); (case k3 => k_asm); (case k4 => k_asm); (case k5 => k_asm); (case k6 => k_is); (case k7 => k_is); (case k8 => ktr_room); (case k9 => first | exact BindsTo.of_eq rfl | exact binds_K (by k_in) rfl (by k_is) rfl rfl rfl); (case c5 => decide); (case kB => exact locs rfl); (case c2 => exact rfl); (case c3 => exact rfl); (case c4 => exact rfl); k_whole; intro g' L' h' FG' F' N' B' X' T'; (try dsimp only))
  refine wpC_named fun qk2 ek2 hq2 he2 => ?_
  (rename News _ _ _ _ => NZ)
  obtain ⟨Z, hZ⟩ : ∃ Z, Z = ((dk, instObj 380 dd) :: (dd, diskD w.params fd sh lk a1 a2 a3 a4 a5 a6 a7 u1 u2) :: (fd, ofd) :: X) := ⟨_, rfl⟩
  rw [← hZ] at NZ
  have hAZ : AllLt d' Z := by rw [hZ]; exact l1
  refine execsC_tk fun tk9 => ?_
  (try dsimp only)
  k_steps
  dsimp only
  refine execsC_tk fun tk9 => ?_
  (try dsimp only)
  k_steps
  dsimp only
  refine execsC_tk fun tk9 => ?_
  (try dsimp only)
  k_steps
  dsimp only
  refine execsC_tk fun tk9 => ?_
  (try dsimp only)
  k_steps
  dsimp only
  refine execsC_tk fun tk9 => ?_
  (try dsimp only)
  k_steps
  dsimp only
  refine execsC_tk fun tk9 => ?_
  (try dsimp only)
  k_steps
  dsimp only
  (rename News _ _ _ _ => NZ2)
  rw [hZ] at NZ2
  refine wpC_tk fun tk9 => ?_
  (try dsimp only)
  refine execsC_cons (execC_Attribute (evalC_Attr_Call ?_))
  k_steps
  dsimp only
  refine callWithC_K (K := kk w.params) (by k_is) ?_
  k_steps
  (try dsimp only [List.nil_append, List.cons_append])
  refine wpC_call ?_
  k_dflt (refine' codeC_K ?k1 ?k2 ?k3 ?k4 ?k5 ?kA ?kF ?kK ?k6 ?k7 ?k8 ?k9 ?kB ?_ ?c2 ?c3 ?c4 ?c5; (case kA => exact rfl); (case kF => exact rfl); (case kK => first | assumption | exact rfl); (case k1 => k_asm); (case k2 => k_asm); (case k3 => k_asm); (case k4 => k_asm); (case k5 => k_asm); (case k6 => k_is); (case k7 => k_is); (case k8 => ktr_room); (case k9 => first | exact BindsTo.of_eq rfl | exact binds_K (by k_in) rfl (by k_is) rfl rfl rfl); (case c5 => decide); (case kB => exact locs rfl); (case c2 => exact rfl); (case c3 => exact rfl); (case c4 => exact rfl); k_whole; intro g' L' h' FG' F' N' B' X' T'; (try dsimp only))
  refine wpC_named fun qk3 ek3 hq3 he3 => ?_
  refine wpC_tk fun tk9 => ?_
  (try dsimp only)
  refine execsC_cons (execC_If (wpC_any ?_))
  k_steps
  refine L_notin (k := Str.ofString "a") (by k_asm) (by simp only [List.mem_cons, true_or, or_true]) hofd (strKind_is _ _ _ _) hlo ?_
  k_steps
  refine execsC_cons (execC_Subscript (evalC_Name_Call ?_))
  k_steps
  refine callWithC_K (K := kk w.params) (by k_is) ?_
  k_steps
  (try dsimp only [List.nil_append, List.cons_append])
  k_dflt (refine' makeC_K ?k1 ?k2 ?k3 ?k4 ?k5 ?k6 ?_; (case k1 => k_asm); (case k2 => k_asm); (case k3 => k_asm); (case k4 => k_is); (case k5 => k_is); (case k6 => k_is); k_whole; intro x' d' h' F' N' l1 l2; (try k_lt l1); (try k_lt2 l2); (try k_sweep))
  k_dflt (refine' codeC_K ?k1 ?k2 ?k3 ?k4 ?k5 ?kA ?kF ?kK ?k6 ?k7 ?k8 ?k9 ?kB ?_ ?c2 ?c3 ?c4 ?c5; (case kA => exact rfl); (case kF => exact rfl); (case kK => first | assumption | exact rfl); (case k1 => k_asm); (case k2 => k_asm); (case k3 => k_asm); (case k4 => k_asm); (case k5 => k_asm); (case k6 => k_is); (case k7 => k_is); (case k8 => ktr_room); (case k9 => first | exact BindsTo.of_eq rfl | exact binds_K (by k_in) rfl (by k_is) rfl rfl rfl); (case c5 => decide); (case kB => exact locs rfl); (case c2 => exact rfl); (case c3 => exact rfl); (case c4 => exact rfl); k_whole; intro g' L' h' FG' F' N' B' X' T'; (try dsimp only))
  refine wpC_named fun qk4 ek4 hq4 he4 => ?_
  refine execsC_tk fun tk9 => ?_
  (try dsimp only)
  k_steps
  dsimp only
  refine execsC_tk fun tk9 => ?_
  (try dsimp only)
  k_steps
  dsimp only
  refine execsC_tk fun tk9 => ?_
  (try dsimp only)
  k_steps
  dsimp only
  refine execsC_tk fun tk9 => ?_
  (try dsimp only)
  k_steps
  dsimp only
  refine execsC_cons (execC_Attribute (evalC_Name_Call ?_))
  k_steps
  refine callWithC_type0 ?_
  (try dsimp only [List.nil_append, List.append_nil])
  refine baC_K (by k_asm) (by k_asm) rfl ?_
  intro b' h' F' N' l1
  (try k_lt l1)
  (try k_sweep)
  k_steps
  dsimp only
  refine wpC_any ?_
  k_steps
  subst hq4
  (try dsimp only)
  k_steps
  refine L_set (k := Str.ofString "a") (by k_asm) (by k_asm) (by simp only [List.mem_cons, true_or, or_true]) hofd (strKind_is _ _ _ _) (by simp [sizeLine_eq]) ?_
  intro h6 o6 hd6 F6 N6
  refine' past_use N6 ?hp ?_
  (case hp => repeat' (first | exact past_eq | (k_ne; done) | exact hne1 | exact hne2 | refine' past_ne ?_ ?_))
  clear N6
  intro N6
  replace hAl := allLt_upd (a := fd) (o' := o6) hAl
  have hup : ∀ p ∈ X, p.1 ≠ fd → p ∈ upd X fd o6 := fun p hp hn => mem_upd_ne hp hn
  generalize upd X fd o6 = Y at N6 hAl hup
  k_steps
  dsimp only
  refine wpC_any ?_
  k_steps
  dsimp only
  refine wpC_any ?_
  k_steps
  refine L_item (k := Str.ofString "a") (by k_asm) (by simp only [List.mem_cons, true_or, or_true]) hd6 (strKind_is _ _ _ _) rfl ?_
  k_steps
  subst hq3
  (try dsimp only)
  k_steps
  dsimp only
  refine execsC_tk fun tk9 => ?_
  (try dsimp only)
  k_steps
  dsimp only
  (rename News _ _ _ _ => NQ)
  replace NQ := pick56 NQ
  refine wpC_any ?_
  k_steps
  subst hq2
  (try dsimp only)
  k_steps
  (try dsimp only)
  refine wpC_any ?_
  k_steps
  subst hq
  (try dsimp only)
  k_steps
  refine' ret_to hret (by k_asm) (by k_asm) (fun p hp => hp) ⟨_, _, rfl, ?mp, hfr, fun p hp hn => ?m6⟩
  case mp =>
    refine' PgD.intro ?m1 ?m2 ?m3 ?m4 ?m5
    case m1 => k_mem
    case m2 => k_mem
    case m3 => k_dflt k_get
    case m4 => k_dflt k_get
    case m5 => exact rfl
  case m6 => simp only [List.mem_cons, hup p hp hn, or_true]

end

end Mine
end

section
open PySem PySem.W PyProof.Rows PySem.Spec PySem.Calls
namespace Mine
local macro_rules | `(tactic| k_room) => `(tactic| ktr_room)
local macro_rules | `(tactic| k_steps) => `(tactic| repeat' (first | (k_unfold; (try dsimp only)) | (k_end; wrow_close) | ((fail_if_success (first | (with_reducible show wpAny _ _ (call (Value.ref _) _) _ _ _) | (with_reducible show wpAny _ _ (setItem (Value.ref _) _ _) _ _ _))); first | (with_reducible refine execs_tk fun tk9 => ?_; (try dsimp only)) | walk1 | (dsimp only; walk1) | (leave1; try dsimp only)) | fail "no step"))

/-! part T24 -/
section
open PySem PySem.W PyProof.Rows PySem.Spec PySem.Calls
set_option maxRecDepth 100000 in
set_option maxHeartbeats 8000000 in
theorem law_take_c : Of PySem.Challenge.rw_xm0775_01 kk (∀ (prog : Program) (w : World) (sr : Addr) (a b : Int) (t1 t2 : Tok) (n0 : Nat) (top : Int) (tt : Tok) (X : List (Addr × Obj)),
    0 < top → top ≤ 100 → (∀ p ∈ X, p.1 ≠ sr) →
    Spec prog w 3 1360 [.ref sr, .int top tt] ((sr, W.listOf #[.int a t1, .int b t2] n0) :: X) (fun r X' => ∃ d t a' b' t1' t2' n', r = .int d t ∧ 0 ≤ d ∧ d < top ∧ X' = (sr, W.listOf #[.int a' t1', .int b' t2'] n') :: X)) := by
  k_fill
  unfold Of
  intro prog w sr a b t1 t2 n0 top tt X htop htop2 hX
  unfold Spec
  intro p loose mean mg mb dp un gd cn cs ca ccd cl outer A₀ base h₀ L m s Q E B F KX N T hk hd hu hret
  refine wpAny_call ?_
  k_dflt cell_enter
  k_steps
  · refine L_setlist (by k_asm) (by k_asm) (List.Mem.head _) (by decide) (by decide) (by show (0 : Int) < 2; decide) ?_
    intro h5 F5 N5
    rw [upd_head hX] at N5
    replace N5 : News _ _ h5 ((sr, W.listOf #[_, .int b t2] n0) :: X) := N5
    k_steps
    exact ret_to hret (by k_asm) (by k_asm) (fun p hp => hp) ⟨_, _, _, _, _, _, _, rfl, Int.fmod_nonneg_of_pos _ htop, Int.fmod_lt_of_pos _ htop, rfl⟩
  · refine L_setlist (by k_asm) (by k_asm) (List.Mem.head _) (by decide) (by decide) (by show (1 : Int) < 2; decide) ?_
    intro h5 F5 N5
    rw [upd_head hX] at N5
    replace N5 : News _ _ h5 ((sr, W.listOf #[.int a t1, .int _ _] n0) :: X) := N5
    k_steps
    refine PyProof.Rows.mul_int ?_ (IntMulOk.of_left (intBits_le_64 ?_ ?_))
    rotate_left
    · exact Int.le_trans (by decide) (Int.fmod_nonneg_of_pos (a := [a, b].getD (Int.toNat 1) 0 * 39373 + 7) (b := 2147483647) (by decide))
    · exact Int.lt_of_lt_of_le (Int.fmod_lt_of_pos (a := [a, b].getD (Int.toNat 1) 0 * 39373 + 7) (b := 2147483647) (by decide)) (by decide)
    k_steps
    exact ret_to hret (by k_asm) (by k_asm) (fun p hp => hp) ⟨_, _, _, _, _, _, _, rfl, Int.fmod_nonneg_of_pos _ htop, Int.fmod_lt_of_pos _ htop, rfl⟩
/-- the law's own source of digits -/
def SrcI (sr : Addr) (X : List (Addr × Obj)) : Prop := ∃ a b t1 t2 n, (sr, W.listOf #[.int a t1, .int b t2] n) ∈ X
theorem law_take_c2 : ∀ (prog : Program) (w : World) (sr : Addr) (top : Int) (tt : Tok) (X : List (Addr × Obj)), SrcI sr X → 0 < top → top ≤ 100 →
    Spec prog w 3 1360 [.ref sr, .int top tt] X (fun r X' => ∃ d t, r = .int d t ∧ 0 ≤ d ∧ d < top ∧ SrcI sr X' ∧ ∀ p ∈ X, p.1 ≠ sr → p ∈ X') := by
  rintro prog w sr top tt X ⟨a, b, t1, t2, n, hm⟩ h0 h1
  intro p loose mean mg mb dp un gd cn cs ca ccd cl outer A₀ base h₀ L m s Q E B F KX N T hk hd hu hret
  have hX : ∀ p ∈ X.filter (fun p => decide (p.1 ≠ sr)), p.1 ≠ sr := fun p hp => by simpa using (List.mem_filter.mp hp).2
  refine law_take_c prog w sr a b t1 t2 n top tt _ h0 h1 hX p loose mean mg mb dp un gd cn cs ca ccd cl outer A₀ base h₀ L m s Q E B F KX (news_sub N fun q hq => ?_) T hk hd hu ?_
  · rcases List.mem_cons.mp hq with e | hq
    · rw [e]; exact hm
    · exact (List.mem_filter.mp hq).1
  · rintro r X' h' tk' F' N' ⟨d, t, a', b', t1', t2', n', er, d0, d1, eX⟩
    subst eX
    refine hret r _ h' tk' F' N' ⟨d, t, er, d0, d1, ⟨a', b', t1', t2', n', .head _⟩, fun q hq hne => .tail _ (List.mem_filter.mpr ⟨hq, by simpa using hne⟩)⟩

end

end Mine
end

section
open PySem PySem.W PyProof.Rows PySem.Spec PySem.Calls
namespace Mine
local macro_rules | `(tactic| k_steps) => `(tactic| repeat' (first | (k_unfold; (try dsimp only)) | (k_end; wrow_close) | ((fail_if_success (first | (with_reducible show wpAny _ _ (call (Value.ref _) _) _ _ _) | (with_reducible show wpAny _ _ (getMethod (Value.ref _) (Str.ofString "get") _) _ _ _) | (with_reducible show wpAny _ _ (getMethod (Value.ref _) (Str.ofString "pop") _) _ _ _) | (with_reducible show wpAny _ _ (getMethod (Value.ref _) (Str.ofString "setdefault") _) _ _ _) | (with_reducible show wpAny _ _ (call (Value.builtin "dict.get") _) _ _ _) | (with_reducible show wpAny _ _ (call (Value.builtin "dict.pop") _) _ _ _) | (with_reducible show wpAny _ _ (call (Value.builtin "dict.setdefault") _) _ _ _) | (with_reducible show wpAny _ _ (setItem (Value.ref _) _ _) _ _ _) | (with_reducible show wpAny _ _ (call (Value.type "dict") _) _ _ _) | (with_reducible show wpAny _ _ (exec (Stmt.Raise _ _ _) _) _ _ _) | (with_reducible show wpAny _ _ (setAttr (Value.ref _) (Str.ofString "message") _) _ _ _) | (with_reducible show wpAny _ _ (eval (Expr.ListComp _ _ _ _) _) _ _ _) | (with_reducible show wpAny _ _ (exec (Stmt.Assign _ (Expr.ListComp _ _ _ _) _) _) _ _ _) | (with_reducible show wpAny _ _ (compareOp _ (Value.ref _) _) _ _ _) | (with_reducible show wpAny _ _ (binaryOp _ (Value.ref _) (Value.ref _)) _ _ _) | (with_reducible show wpAny _ _ (subscriptTail _ _ (Value.ref _) _) _ _ _))); first | (with_reducible refine execs_tk fun tk9 => ?_; (try dsimp only)) | walk1 | (dsimp only; walk1) | (leave1; try dsimp only)) | fail "no step"))

/-! part T25 -/
section
open PySem PySem.W PyProof.Rows PySem.Spec PySem.Calls


set_option maxRecDepth 100000 in
set_option maxHeartbeats 8000000 in
theorem law_one_c : Of PySem.Challenge.rw_xm0775_01 kk (∀ (prog : Program) (w : World) (sr tl : Addr) (its : List Value) (n0 : Nat) (X : List (Addr × Obj)),
    SrcI sr X → (tl, W.listOf its.toArray n0) ∈ X → tl ≠ sr → 0 < its.length → its.length ≤ 100 →
    Spec prog w 6 1367 [.ref sr, .ref tl] X (fun r X' => r ∈ its ∧ SrcI sr X' ∧ ∀ p ∈ X, p.1 ≠ sr → p ∈ X')) := by
  k_fill
  unfold Of
  intro prog w sr tl its n0 X HS htl hne h0 h1
  unfold Spec
  intro p loose mean mg mb dp un gd cn cs ca ccd cl outer A₀ base h₀ L m s Q E B F KX N T hk hd hu hret
  replace N : News h₀ L s.heap ((tl, W.listOf its.toArray n0) :: X) := news_sub N (fun q hq => by rcases List.mem_cons.mp hq with e | hq; (· rw [e]; exact htl); (· exact hq))
  refine wpAny_call ?_
  k_dflt cell_enter
  k_steps
  (rename News _ _ _ _ => N1)
  have hsz : its.toArray.size = its.length := List.size_toArray
  refine call_len_list ⟨_, (N1 _ (.head _)).1, rfl, _, rfl⟩ (by rw [hsz]; omega) ?_
  k_steps
  refine' use_spec (law_take_c2 prog w sr _ _ _ ?hs ?h0 ?h1) ?k1 ?k2 ?k3 ?k4 ?k5 ?k6 ?k7 ?k8 ?_
  ((case k1 => k_asm); (case k2 => k_asm); (case k3 => k_asm); (case k4 => k_asm); (case k5 => k_asm); (case k6 => first | exact rfl | assumption); (case k7 => ktr_room); (case k8 => ktr_units))
  (case hs => exact let ⟨a, b, t1, t2, n, h⟩ := HS; ⟨a, b, t1, t2, n, .tail _ h⟩)
  (case h0 => rw [hsz]; omega)
  (case h1 => rw [hsz]; omega)
  rintro r9 X9 h9 tk9 F9 N9 ⟨d, t, er, d0, d1, HS9, hk9⟩
  subst er
  rw [hsz] at d1
  k_steps
  have hlt : d.toNat < its.length := by omega
  refine L_listitem (v := its[d.toNat]) N9 (hk9 _ (.head _) hne) d0 (by omega) (by rw [List.getElem?_toArray, List.getElem?_eq_getElem hlt]) ?_
  k_steps
  exact ret_to hret (by k_asm) (by k_asm) (fun p hp => hp) ⟨List.getElem_mem hlt, HS9, fun q hq hq2 => hk9 q (.tail _ hq) hq2⟩

end

/-! part T28 -/
section
open PySem PySem.W PyProof.Rows PySem.Spec PySem.Calls
open PyProof.Rows.LCg (lst NsObj lst_snoc ns_obj)


section
variable {prog : Program} {w : World} {A : Around} {E : Value → Shared → Prop} {s : Shared} {D l : Addr} {ys : List Value} {Q : Value → Shared → Prop}
theorem ne_nil_0 (h1 : s.heap.IsList D ([] : List Value).toArray) (h2 : s.heap.IsList l #[]) (hu : A.units < cLine) (h : Q (.bool false) s) : wpAny (model prog w) A (compareOp .NotEq (.ref D) (.ref l)) Q E s := by
  show wpAny _ _ (richCompare .NotEq (.ref D) (.ref l)) _ _ _
  exact PySem.SeqAt.RcNeAt.lists (e := fun _ => true) h1 h2 rfl hu (fun j hj => absurd hj (Nat.not_lt_zero _)) prog w E Q h
theorem ne_nil_1 (h1 : s.heap.IsList D ys.toArray) (hys : ys ≠ []) (h2 : s.heap.IsList l #[]) (hu : A.units < cLine) (h : Q (.bool true) s) : wpAny (model prog w) A (compareOp .NotEq (.ref D) (.ref l)) Q E s := by
  show wpAny _ _ (richCompare .NotEq (.ref D) (.ref l)) _ _ _
  refine PySem.SeqAt.RcNeAt.lists_lengths h1 h2 ?_ hu prog w E Q h
  cases ys with
  | nil => exact absurd rfl hys
  | cons a r => simp
end
set_option maxRecDepth 100000 in
set_option maxHeartbeats 8000000 in
theorem law_least_right_c : Of PySem.Challenge.rw_xm0775_01 kk (∀ (prog : Program) (w : World) (pg lk la : Addr) (A : List Addr) (rows : List Row) (X : List (Addr × Obj)) (φ g : Str → MK → Option Int),
    LT prog w X lk A φ g → PgIn X pg lk → RowsIn X la rows → rows.length ≤ 100 → (∀ k v, g (Str.ofString "a") k = some v ↔ (k, Str.ofString "a", v) ∈ rows) →
    Spec prog w 9 1408 [.ref pg, .ref la] X (fun r X' => X' = X ∧ r = .bool true)) := by
  k_fill
  unfold Of
  intro prog w pg lk la A rows X φ g HLT HPG HR hlen hco
  unfold Spec
  intro p loose mean mg mb dp un gd cn cs a ccd cl outer A₀ base h₀ L m s Q E B F KX N T hk hd hu hret
  refine wpAny_call ?_
  k_dflt cell_enter
  k_steps
  obtain ⟨its, k0, hla, hits⟩ := HR
  k_dflt (refine Assign_ListComp_G (_F₀ := by k_asm) (by rfl) (by with_unfolding_all rfl) (by with_unfolding_all rfl) (by decide) (by rfl) (by decide) (by rfl) (by rfl) ?_)
  k_steps
  refine ⟨la, its, k0, _, fun i ys => IntsAre ys (((rows.take i).filter fun r => decide (r.2.1 = Str.ofString "a")).map (·.2.2)), fun i m₂ => ∃ r ov2 tn2 tk2, rows[i]? = some r ∧ m₂ (Str.ofString "owner") = some ov2 ∧ m₂ (Str.ofString "name") = some (.str r.2.1 tn2) ∧ m₂ (Str.ofString "mark") = some (.int r.2.2 tk2), rfl, rfl, by k_asm, by k_asm, hla, ?_, .nil, ?_, ?_, ?_⟩
  · rw [hits.length]; exact Nat.le_trans hlen (by decide)
  · intro i v I C hv
    obtain ⟨r, hr, t, ot, ov2, tn2, tk2, nt, rfl, hm, hc, hd2, ho2⟩ := hits.get hv
    intro s9 m9 l9 i9 Q9 E9 hns hit hk9 hQ9
    exact bind_tup3 rfl (by decide) (by decide) (by decide) (by decide) (by decide) (by decide) rfl hm hc hd2 s9 m9 l9 i9 Q9 E9 hns hit hk9 fun h' tk m₂ a b ⟨c1, c2, c3⟩ => hQ9 h' tk m₂ a b ⟨r, ov2, tn2, tk2, hr, c1, c2, c3⟩
  · rintro i v ys I oI C oC D m₂ h9 tk9 E' hv hJ hoC ⟨r, ov2, tn2, tk2, hr, hm1, hm2, hm3⟩ F9 N9
    have hstep : (rows.take (i + 1)) = rows.take i ++ [r] := by rw [List.take_add_one, hr]; rfl
    k_steps
    by_cases hcc : r.2.1 = Str.ofString "a"
    · unfold GTest
      rw [if_pos (by rw [hcc]; decide)]
      k_steps
      refine ⟨_, _, rfl, by k_asm, by k_asm, ?_⟩
      show IntsAre _ _
      rw [hstep, List.filter_append, List.map_append]
      simp only [List.filter_cons, List.filter_nil, decide_eq_true hcc, if_true, List.map_cons, List.map_nil]
      exact IntsAre.append hJ (.cons _ _ .nil)
    · unfold GTest
      rw [if_neg (by simpa using hcc)]
      refine ⟨_, _, rfl, by k_asm, by k_asm, ?_⟩
      show IntsAre _ _
      rw [hstep, List.filter_append, List.map_append]
      simp only [List.filter_cons, List.filter_nil, decide_eq_false hcc, Bool.false_eq_true, if_false, List.map_nil, List.append_nil]
      exact hJ
  · intro D h9 tk9 ys hJ F9 N9 hlt9
    rw [hits.length, List.take_length] at hJ
    obtain ⟨pd, es, n, tn, hp1, hp2, hg1, hg2, hg3⟩ := id HPG
    replace N9 : News _ _ h9 ((pg, instObj 1344 pd) :: (pd, dictOf es n) :: (D, lst ys) :: X) := news_sub N9 (fun q hq => by
      rcases List.mem_cons.mp hq with e | hq
      · rw [e]; exact .tail _ hp1
      rcases List.mem_cons.mp hq with e | hq
      · rw [e]; exact .tail _ hp2
      exact hq)
    k_steps
    refine' method_inst ?k1 ?k2 ?k3 ?k4 ?k5 ?k6 ?k7 ?_
    (case k1 => k_asm)
    (case k2 => k_in)
    (case k3 => exact InstAt.of_news N9 (List.Mem.head _) (.tail _ (.head _)))
    (case k4 => k_is)
    (case k5 => k_is)
    (case k6 => k_is)
    (case k7 => exact hg3)
    k_steps
    refine' use_spec (least_mark_c prog w pg lk A _ φ g ?hlt ?hpg) ?k1 ?k2 ?k3 ?k4 ?k5 ?k6 ?k7 ?k8 ?_
    ((case k1 => k_asm); (case k2 => k_asm); (case k3 => k_asm); (case k4 => k_asm); (case k5 => k_asm); (case k6 => first | exact rfl | assumption); (case k7 => ktr_room); (case k8 => ktr_units))
    (case hlt => exact HLT.mono fun q hq => .tail _ (.tail _ (.tail _ hq)))
    (case hpg => exact ⟨pd, es, n, tn, .head _, .tail _ (.head _), hg1, hg2, hg3⟩)
    rintro r8 X8 h8 tk8 F8 N8 ⟨e8, hr8⟩
    subst e8
    have hns : ∀ v, v ∈ ((rows.filter fun r => decide (r.2.1 = Str.ofString "a")).map (·.2.2)) ↔ ∃ k, g (Str.ofString "a") k = some v := by
      intro v
      constructor
      · intro hv
        obtain ⟨r, hr, e⟩ := List.mem_map.mp hv
        obtain ⟨hr1, hr2⟩ := List.mem_filter.mp hr
        refine ⟨r.1, (hco r.1 v).mpr ?_⟩
        have h2 : r.2.1 = Str.ofString "a" := by simpa using hr2
        rw [← h2, ← e]
        exact hr1
      · rintro ⟨k, hk⟩
        exact List.mem_map.mpr ⟨_, List.mem_filter.mpr ⟨(hco k v).mp hk, by simp⟩, rfl⟩
    generalize hnn : ((rows.filter fun r => decide (r.2.1 = Str.ofString "a")).map (·.2.2)) = ns at hJ hns
    rcases hr8 with ⟨rfl, hno⟩ | ⟨M, t, rfl, ⟨kM, hkM⟩, hle⟩
    · have hnil : ns = [] := by
        cases ns with
        | nil => rfl
        | cons v r =>
          obtain ⟨k, hk⟩ := (hns v).mp (.head _)
          rw [hno k] at hk; cases hk
      subst hnil
      cases hJ
      k_steps
      (rename News _ _ _ _ => N10)
      refine ne_nil_0 ⟨_, (N10 _ (.tail _ (.tail _ (.tail _ (.head _))))).1, rfl, _, rfl⟩ ⟨_, (N10 _ (.head _)).1, rfl, _, rfl⟩ (by ktr_units) ?_
      k_steps
      exact ret_to hret (by k_asm) (by k_asm) (fun q hq => by simp only [List.mem_cons, hq, or_true]) ⟨rfl, rfl⟩
    · have hM : M ∈ ns := (hns M).mpr ⟨kM, hkM⟩
      have hMle : ∀ v ∈ ns, M ≤ v := fun v hv => let ⟨k, hk⟩ := (hns v).mp hv; hle k v hk
      have hys : ys ≠ [] := by
        intro e
        subst e
        cases hJ
        simp at hM
      have hpos : 0 < ns.length := List.length_pos_of_mem hM
      k_steps
      (rename News _ _ _ _ => N10)
      refine ne_nil_1 ⟨_, (N10 _ (.tail _ (.tail _ (.tail _ (.head _))))).1, rfl, _, rfl⟩ hys ⟨_, (N10 _ (.head _)).1, rfl, _, rfl⟩ (by ktr_units) ?_
      k_steps
      (rename _ ∈ ns => hm2)
      (rename ∀ a ∈ ns, _ ≤ a => hm3)
      have e1 := hMle _ hm2
      have e2 := hm3 _ hM
      refine ret_to hret (by k_asm) (by k_asm) (fun q hq => by simp only [List.mem_cons, hq, or_true]) ⟨rfl, congrArg Value.bool ?_⟩
      simp only [beq_iff_eq]
      omega

end

/-! part T41 -/
section
open PySem PySem.W PyProof.Rows PySem.Spec PySem.Calls


/-- as Spec, beside a fact about the ground -/
def SpecG (prog : Program) (w : World) (D : Nat) (f : Addr) (vs : List Value) (X : List (Addr × Obj)) (G : Heap → Prop) (R : Value → List (Addr × Obj) → Prop) : Prop :=
  ∀ (p : Program) (loose : List Str) (mean : ExcName → Option Value) (mg mb : Str → Option Value) (dp un : Nat) (gd : Option (List Code)) (cn : Str) (cs : Scope) (a : Addr) (ccd : Value) (cl : List (Str × Addr)) (outer : List Env) (A₀ : Around) (base h₀ : Heap) (L : Addr) (m : Str → Option Value) (s : Shared) (Q E : Value → Shared → Prop),
    G h₀ → Below A₀ base outer h₀ → Fr h₀ L s.heap m → (kk w.params).In h₀ → News h₀ L s.heap X → Top p loose mean mg mb h₀ → cs.kind = .function → dp + D < recursionLimit → un + 10 * D < cLine →
    (∀ r X' h' tk', Fr h₀ L h' m → News h₀ L h' X' → R r X' → Q r { s with heap := h', toks := tk' }) →
    wpAny (model prog w) (ktrTop dp un gd cn cs L a ccd cl outer) (call (.ref f) vs) Q E s
section
variable {prog : Program} {w : World} {D : Nat} {f : Addr} {vs : List Value} {X : List (Addr × Obj)} {G : Heap → Prop} {R : Value → List (Addr × Obj) → Prop} {p : Program} {loose : List Str} {mean : ExcName → Option Value} {mg mb : Str → Option Value}
  {dp un : Nat} {gd : Option (List Code)} {cn : Str} {cs : Scope} {a : Addr} {ccd : Value} {cl : List (Str × Addr)} {outer : List Env} {A₀ : Around} {base h₀ : Heap} {L : Addr} {m : Str → Option Value} {s : Shared} {Q E : Value → Shared → Prop}
theorem use_specG (C : SpecG prog w D f vs X G R) (hG : G h₀) (B : Below A₀ base outer h₀) (F : Fr h₀ L s.heap m) (KX : (kk w.params).In h₀) (N : News h₀ L s.heap X) (T : Top p loose mean mg mb h₀) (hk : cs.kind = .function) (hd : dp + D < recursionLimit) (hu : un + 10 * D < cLine)
    (h : ∀ r X' h' tk', Fr h₀ L h' m → News h₀ L h' X' → R r X' → Q r { s with heap := h', toks := tk' }) :
    wpAny (model prog w) (ktrTop dp un gd cn cs L a ccd cl outer) (call (.ref f) vs) Q E s := C _ _ _ _ _ _ _ _ _ _ _ _ _ _ _ _ _ _ _ _ _ _ hG B F KX N T hk hd hu h
end
theorem L_listG {prog : Program} {w : World} {A : Around} {E : Value → Shared → Prop} {s : Shared} {l : Addr} {its : Array Value} {k : Int} {t : Tok} {v : Value} {value slice : PySem.Expr} {Q : Value → Shared → Prop} (hl : s.heap.IsList l its) (h0 : 0 ≤ k) (hfit : k < 2 ^ 63) (hx : its[k.toNat]? = some v) (h : Q v s)
    (hs : subscripted slice false (.ref l) (.int k t) = operate [.ref l, .int k t] (getItem (.ref l) (.int k t)) := by with_unfolding_all rfl) :
    wpAny (model prog w) A (subscriptTail value slice (.ref l) (.int k t)) Q E s :=
  tail_any hl.typeIs slot_list_getitem.lookup (wpAny_getItem_list hl h0 hfit hx h) hs
set_option maxRecDepth 100000 in
set_option maxHeartbeats 8000000 in
theorem law_pool_g : Of PySem.Challenge.rw_xm0775_01 kk (∀ (prog : Program) (w : World) (sc : Addr) (its : List Value) (k : Int) (tk0 : Tok) (X : List (Addr × Obj)),
    (∀ v ∈ its, ∃ c t, v = .int c t) → its.length ≤ 100 → 0 ≤ k → k ≤ 1 →
    SpecG prog w 6 1353 [.ref sc, .int k tk0] X (fun h₀ => h₀.IsList sc its.toArray) (fun r X' => ∃ sr, r = .ref sr ∧ SrcI sr X' ∧ ∀ p ∈ X, p ∈ X')) := by
  k_fill
  unfold Of
  intro prog w sc its k tk0 X hits h1 hk0 hk1
  unfold SpecG
  intro p loose mean mg mb dp un gd cn cs ca ccd cl outer A₀ base h₀ L m s Q E hsc B F KX N T hk hd hu hret
  refine wpAny_call ?_
  k_dflt cell_enter
  k_steps
  (rename News _ _ _ _ => N1)
  have hsz : its.toArray.size = its.length := List.size_toArray
  (rename Fr _ _ _ _ => F1)
  have hsl := hsc
  obtain ⟨osc, hosc, hcsc, nsc, hdsc⟩ := hsc
  (rename Fr h₀ _ _ _ => FG)
  refine call_len_list ⟨_, F1.keep _ _ (FG.keep _ _ hosc), hcsc, _, hdsc⟩ (by rw [hsz]; omega) ?_
  k_steps
  · have hlt : k.toNat < its.length := by
      rw [hsz] at *
      omega
    (rename Fr _ _ _ _ => F2)
    refine L_listG (v := its[k.toNat]) ⟨_, F2.keep _ _ (FG.keep _ _ hosc), hcsc, _, hdsc⟩ hk0 (by omega) (by rw [List.getElem?_toArray, List.getElem?_eq_getElem hlt]) ?_
    obtain ⟨c, t, e⟩ := hits _ (List.getElem_mem hlt)
    rw [e]
    k_steps
    all_goals exact ret_to hret (by k_asm) (by k_asm) (fun p hp => hp) ⟨_, rfl, ⟨_, _, _, _, _, .head _⟩, fun q hq => .tail _ hq⟩
  · exact ret_to hret (by k_asm) (by k_asm) (fun p hp => hp) ⟨_, rfl, ⟨_, _, _, _, _, .head _⟩, fun q hq => .tail _ hq⟩

end

/-! part T37 -/
section
open PySem PySem.W PyProof.Rows PySem.Spec PySem.Calls
set_option maxRecDepth 100000
section
variable {prog : Program} {w : World} {X X' : List (Addr × Obj)} {d lk : Addr} {S A : List Addr} {φ g : Str → MK → Option Int} {T : Tab}
theorem TabIn.part (H : TabIn prog w X d T) (h : ∀ p ∈ X, p.1 ∈ d :: T.map (·.2.1) → p ∈ X') : TabIn prog w X' d T :=
  ⟨H.lo, let ⟨o, a, b⟩ := H.top; ⟨o, h _ a (.head _), b⟩, fun e he => ⟨(H.inn e he).1, let ⟨o, a, b⟩ := (H.inn e he).2; ⟨o, h _ a (.tail _ (List.mem_map.mpr ⟨e, he, rfl⟩)), b⟩⟩, H.nod, H.names, H.keys⟩
theorem TabFun.part (H : TabFun prog w X d S φ) (h : ∀ p ∈ X, p.1 ∈ S → p ∈ X') : TabFun prog w X' d S φ :=
  let ⟨T, a, b, c⟩ := H; ⟨T, a.part (b ▸ h), b, c⟩
/-- a lock table needs its own entries only -/
theorem LT.part (H : LT prog w X lk A φ g) (h : ∀ p ∈ X, p.1 ∈ A → p ∈ X') : LT prog w X' lk A φ g := by
  obtain ⟨dx, lv, sl, tm, S, M, t1, t2, t3, n, H, rfl⟩ := H
  refine ⟨dx, lv, sl, tm, S, M, t1, t2, t3, n, ⟨h _ H.i (by simp), h _ H.dd (by simp), H.HL.part fun p hp hs => h p hp (by simp [hs]), H.HM.part fun p hp hs => h p hp (by simp [hs]), H.slo, ?_, H.nd⟩, rfl⟩
  obtain ⟨o, a, b⟩ := H.osl
  exact ⟨o, h _ a (by simp), b⟩
end
theorem off5 {x a b c d e : Nat} (h1 : x < b) (h2 : b < a) (h3 : a < c) (h4 : c < d) (h5 : d < e) : x ∉ [a, b, d, c, e] := by
  have xa := Nat.lt_trans h1 h2
  have xc := Nat.lt_trans xa h3
  have xd := Nat.lt_trans xc h4
  simp only [List.mem_cons, List.not_mem_nil, or_false, not_or]
  exact ⟨Nat.ne_of_lt xa, Nat.ne_of_lt h1, Nat.ne_of_lt xd, Nat.ne_of_lt xc, Nat.ne_of_lt (Nat.lt_trans xd h5)⟩
theorem nodup5 {a b c d e : Nat} (h2 : b < a) (h3 : a < c) (h4 : c < d) (h5 : d < e) : [a, b, d, c, e].Nodup := by
  have bc := Nat.lt_trans h2 h3
  have bd := Nat.lt_trans bc h4
  have ad := Nat.lt_trans h3 h4
  have ae := Nat.lt_trans ad h5
  simp only [List.nodup_cons, List.mem_cons, List.not_mem_nil, or_false, not_or, not_false_eq_true, List.nodup_nil, and_true]
  exact ⟨⟨Nat.ne_of_gt h2, Nat.ne_of_lt ad, Nat.ne_of_lt h3, Nat.ne_of_lt ae⟩, ⟨Nat.ne_of_lt bd, Nat.ne_of_lt bc, Nat.ne_of_lt (Nat.lt_trans bd h5)⟩, ⟨Nat.ne_of_gt h4, Nat.ne_of_lt h5⟩, Nat.ne_of_lt (Nat.lt_trans h4 h5)⟩
theorem tabFun_nil {prog : Program} {w : World} {X : List (Addr × Obj)} {d : Addr} {o : Obj} (lo : (d == sysModules) = false) (hm : (d, o) ∈ X) (hd : o.IsDictOf (PySem.strKind prog w) []) : TabFun prog w X d [d] (fun _ _ => none) :=
  ⟨[], ⟨lo, ⟨o, hm, hd⟩, (fun e he => by cases he), (by simp), (fun e he => by cases he), (fun e he => by cases he)⟩, rfl, fun _ _ => rfl⟩
/-- a disk that was just made: its parts, and its table of locks -/
theorem disk_made {prog : Program} {w : World} {X X' : List (Addr × Obj)} {r : Value} (H : DiskMade prog w X r X') :
    ∃ dk dd fd sh lk a1 a2 a3 a4 a5 a6 a7 u1 u2 ofd A, r = .ref dk ∧ (∀ p ∈ X, p ∈ X') ∧ (dk, instObj 380 dd) ∈ X' ∧ (dd, diskD w.params fd sh lk a1 a2 a3 a4 a5 a6 a7 u1 u2) ∈ X' ∧ (fd, ofd) ∈ X' ∧ ofd.IsDictOf (PySem.strKind prog w) [] ∧ (fd == sysModules) = false ∧
      dk ≠ fd ∧ dd ≠ fd ∧ LT prog w X' lk A (fun _ _ => none) (fun _ _ => none) ∧ fd ∉ A ∧ dk ∉ A ∧ dd ∉ A ∧ (∀ p ∈ X, p.1 ∉ A) ∧ (∀ p ∈ X, p.1 < fd) := by
  obtain ⟨dk, dd, fd, sh, lk, dl, lv, sl, tm, ofd, osh, olv, osl, otm, a1, a2, a3, a4, a5, a6, a7, u1, u2, t1, t2, t3, rfl, rfl, d1, d2, d3, d4, e1, e2, e3, e4, hX, o1, o2, o3, o4, o5, o6, o7, o8⟩ := H
  have k1 : @LT.lt Nat _ dd dk := o1
  have k2 : @LT.lt Nat _ dk fd := o2
  have k3 : @LT.lt Nat _ fd sh := o3
  have k4 : @LT.lt Nat _ sh dl := o4
  have k5 : @LT.lt Nat _ dl lk := o5
  have k6 : @LT.lt Nat _ lk lv := o6
  have k7 : @LT.lt Nat _ lv sl := o7
  have k8 : @LT.lt Nat _ sl tm := o8
  have fdl : @LT.lt Nat _ fd dl := Nat.lt_trans k3 k4
  have dkl : @LT.lt Nat _ dk dl := Nat.lt_trans k2 fdl
  have ddl : @LT.lt Nat _ dd dl := Nat.lt_trans k1 dkl
  refine ⟨dk, dd, fd, sh, lk, a1, a2, a3, a4, a5, a6, a7, u1, u2, ofd, lk :: dl :: sl :: ([lv] ++ [tm]), rfl, fun p hp => by simp only [List.mem_cons, hp, or_true], by simp, by simp, by simp, d1, e1, Nat.ne_of_lt k2, Nat.ne_of_lt (Nat.lt_trans k1 k2), ?_, off5 fdl k5 k6 k7 k8, off5 dkl k5 k6 k7 k8, off5 ddl k5 k6 k7 k8, fun p hp => off5 (Nat.lt_trans (hX p hp) ddl) k5 k6 k7 k8, fun p hp => Nat.lt_trans (hX p hp) (Nat.lt_trans k1 k2)⟩
  exact ⟨dl, lv, sl, tm, [lv], [tm], t1, t2, t3, 3, ⟨by simp, by simp, tabFun_nil e2 (o := olv) (by simp) d2, tabFun_nil e4 (o := otm) (by simp) d4, e3, ⟨osl, by simp, d3⟩, nodup5 k5 k6 k7 k8⟩, rfl⟩
/-- the law's list of marks against the table's -/
def MAg (rows : List Row) (g : Str → MK → Option Int) : Prop := ∀ n k v, g n k = some v ↔ (k, n, v) ∈ rows
theorem mag_nil : MAg [] (fun _ _ => none) := fun n k v => by simp
theorem mag_none {rows : List Row} {g : Str → MK → Option Int} (h : MAg rows g) (k : MK) (n : Str) : MAg (rows.filter fun r => decide (¬ (r.1 = k ∧ r.2.1 = n))) (set2 g n k none) := by
  intro n' k' v
  unfold set2
  by_cases hc : n' = n ∧ k' = k
  · rw [if_pos hc, List.mem_filter]
    simp [hc.1, hc.2]
  · rw [if_neg hc, List.mem_filter, h n' k' v]
    simp only [decide_eq_true_eq]
    exact ⟨fun x => ⟨x, fun q => hc ⟨q.2, q.1⟩⟩, fun x => x.1⟩
theorem mag_int {rows : List Row} {g : Str → MK → Option Int} (h : MAg rows g) (k : MK) (n : Str) (u : Int) : MAg (putR rows k n u) (set2 g n k (some u)) := by
  intro n' k' v
  unfold set2 putR
  rw [List.mem_append, List.mem_filter, List.mem_singleton]
  by_cases hc : n' = n ∧ k' = k
  · rw [if_pos hc]
    obtain ⟨rfl, rfl⟩ := hc
    simp [eq_comm]
  · rw [if_neg hc, h n' k' v]
    simp only [decide_eq_true_eq]
    constructor
    · exact fun x => .inl ⟨x, fun q => hc ⟨q.2, q.1⟩⟩
    · rintro (x | x)
      · exact x.1
      · exact absurd ⟨congrArg (fun r => r.2.1) x, congrArg Prod.fst x⟩ hc
theorem mag_drop {rows : List Row} {g : Str → MK → Option Int} (h : MAg rows g) (k : MK) : MAg (rows.filter fun r => decide (r.1 ≠ k)) (fun n' k' => if k' = k then none else g n' k') := by
  intro n' k' v
  dsimp only
  rw [List.mem_filter]
  by_cases hc : k' = k
  · rw [if_pos hc]; simp [hc]
  · rw [if_neg hc, h n' k' v]; simp [hc]
theorem nz_none : NZ (fun _ _ => none) := by intro n k e; cases e
theorem ok2_none : Ok2 (fun _ _ => none) := ⟨fun n k a h => (by cases h), fun n k k' a b hn h => (by cases h)⟩
theorem ag_none : Ag [] (fun _ _ => none) := ⟨(fun r hr => by cases hr), (fun n k a h => by cases h), by simp⟩
theorem ok2_nz {φ : Str → MK → Option Int} (h : Ok2 φ) : NZ φ := by
  intro n k e
  have := (h.1 n k _ e).1
  omega

end

/-! part T38 -/
section
open PySem PySem.W PyProof.Rows PySem.Spec PySem.Calls
set_option maxRecDepth 100000
/-- an object that is no part of the law's own data -/
structure Odd (o : Obj) : Prop where
  s : ∀ its n, o.data ≠ .seq its n
  d : ∀ es n, o.data ≠ .dict es n
  p : o.data ≠ .plain
theorem odd_cell {o : Obj} {v : Option Value} (h : o.data = .cell v) : Odd o := ⟨(fun _ _ e => by rw [h] at e; cases e), (fun _ _ e => by rw [h] at e; cases e), (fun e => by rw [h] at e; cases e)⟩
theorem odd_rit (n i : Nat) : Odd (ritObj n i) := ⟨(fun _ _ e => by cases e), (fun _ _ e => by cases e), (fun e => by cases e)⟩
section
variable {prog : Program} {w : World} {X X' : List (Addr × Obj)} {lk : Addr} {A A' : List Addr} {φ g φ' g' : Str → MK → Option Int} {h₀ h : Heap} {L : Addr}
theorem same_obj (N : News h₀ L h X) {a : Addr} {o o' : Obj} (h1 : (a, o) ∈ X) (h2 : (a, o') ∈ X) : o = o' := Option.some.inj ((N _ h1).1.symm.trans (N _ h2).1)
theorem lt_data (H : LT prog w X lk A φ g) : ∀ a ∈ A, ∃ o, (a, o) ∈ X ∧ (o.data = .plain ∨ ∃ es n, o.data = .dict es n) := by
  obtain ⟨dx, lv, sl, tm, S, M, t1, t2, t3, n, HH, rfl⟩ := H
  have dd : ∀ {K : Type} [DecidableEq K] {knd : KeyKind prog w K} {o : Obj} {kvs : List (K × Value)}, o.IsDictOf knd kvs → (o.data = .plain ∨ ∃ es n, o.data = .dict es n) := fun hd => let ⟨es, ep, _, hx, _⟩ := hd; .inr ⟨es, ep, hx⟩
  have tab : ∀ {d : Addr} {S : List Addr} {φ : Str → MK → Option Int}, TabFun prog w X d S φ → ∀ a ∈ S, ∃ o, (a, o) ∈ X ∧ (o.data = .plain ∨ ∃ es n, o.data = .dict es n) := by
    intro d S φ H a ha
    obtain ⟨T, hT, rfl, _⟩ := H
    rcases List.mem_cons.mp ha with e | ha
    · obtain ⟨o, h1, h2⟩ := hT.top
      exact ⟨o, e ▸ h1, dd h2⟩
    · obtain ⟨e, he, rfl⟩ := List.mem_map.mp ha
      obtain ⟨o, h1, h2⟩ := (hT.inn e he).2
      exact ⟨o, h1, dd h2⟩
  intro a ha
  simp only [List.mem_cons, List.mem_append] at ha
  rcases ha with rfl | rfl | rfl | ha | ha
  · exact ⟨_, HH.i, .inl rfl⟩
  · exact ⟨_, HH.dd, .inr ⟨_, _, rfl⟩⟩
  · obtain ⟨o, h1, h2⟩ := HH.osl
    exact ⟨o, h1, dd h2⟩
  · exact tab HH.HL a ha
  · exact tab HH.HM a ha
theorem odd_off (H : LT prog w X lk A φ g) (N : News h₀ L h X) {a : Addr} {o : Obj} (ha : (a, o) ∈ X) (ho : Odd o) : a ∉ A := by
  intro hA
  obtain ⟨o', h1, h2⟩ := lt_data H a hA
  have e := same_obj N ha h1
  subst e
  rcases h2 with h2 | ⟨es, n, h2⟩
  · exact ho.p h2
  · exact ho.d _ _ h2
end
/-- the law's data in the ledger: its source, the lock table, the pager, its two lists; Z: what else is to stay -/
structure Facts (prog : Program) (w : World) (Z : List (Addr × Obj)) (sr pg pd lk la ma : Addr) (A : List Addr) (rows mrows : List Row) (φ gm : Str → MK → Option Int) (X : List (Addr × Obj)) : Prop where
  src : SrcI sr X
  lt : LT prog w X lk A φ gm
  pgd : PgD X pg pd lk
  rl : RowsIn X la rows
  rm : RowsIn X ma mrows
  pa : pg ∉ A
  qa : pd ∉ A
  nl : la ≠ sr
  nm : ma ≠ sr
  oz : ∀ z ∈ Z, Odd z.2
  z : ∀ z ∈ Z, z ∈ X
section
variable {prog : Program} {w : World} {Z Z' X X' : List (Addr × Obj)} {sr pg pd lk la ma la' ma' : Addr} {A A' : List Addr} {rows mrows rows' mrows' : List Row} {φ gm φ' gm' : Str → MK → Option Int} {h₀ h : Heap} {L : Addr}
theorem SrcI.part (H : SrcI sr X) (h : ∀ o its n, (sr, o) ∈ X → o.data = .seq its n → (sr, o) ∈ X') : SrcI sr X' := let ⟨a, b, t1, t2, n, m⟩ := H; ⟨a, b, t1, t2, n, h _ _ _ m rfl⟩
theorem PgD.part (H : PgD X pg pd lk) (h1 : ∀ o, (pg, o) ∈ X → o.data = .plain → (pg, o) ∈ X') (h2 : ∀ o es n, (pd, o) ∈ X → o.data = .dict es n → (pd, o) ∈ X') : PgD X' pg pd lk :=
  let ⟨es, n, t, a, b, c⟩ := H; ⟨es, n, t, h1 _ a rfl, h2 _ _ _ b rfl, c⟩
theorem RowsAre.part {vs : List Value} {rs : List Row} (R : RowsAre X vs rs) (h : ∀ t o its n, (t, o) ∈ X → o.data = .seq its n → o.cls = .type "tuple" → (t, o) ∈ X') : RowsAre X' vs rs := by
  induction R with
  | nil => exact .nil
  | cons a _ ih =>
    obtain ⟨t, ot, ov, tn, tk, nt, a1, a2, a3, a4, a5⟩ := a
    exact .cons ⟨t, ot, ov, tn, tk, nt, a1, h _ _ _ _ a2 a4 a3, a3, a4, a5⟩ ih
theorem RowsIn.part (R : RowsIn X la rows) (h0 : ∀ o its n, (la, o) ∈ X → o.data = .seq its n → (la, o) ∈ X') (h : ∀ t o its n, (t, o) ∈ X → o.data = .seq its n → o.cls = .type "tuple" → (t, o) ∈ X') : RowsIn X' la rows :=
  let ⟨its, k, a, b⟩ := R; ⟨its, k, h0 _ _ _ a rfl, b.part h⟩
theorem Facts.mono (F : Facts prog w Z sr pg pd lk la ma A rows mrows φ gm X) (h : ∀ p ∈ X, p ∈ X') : Facts prog w Z sr pg pd lk la ma A rows mrows φ gm X' :=
  ⟨F.src.part fun _ _ _ m _ => h _ m, F.lt.mono h, F.pgd.part (fun _ m _ => h _ m) (fun _ _ _ m _ => h _ m), F.rl.mono h, F.rm.mono h, F.pa, F.qa, F.nl, F.nm, F.oz, fun z hz => h _ (F.z z hz)⟩
theorem Facts.less (F : Facts prog w Z sr pg pd lk la ma A rows mrows φ gm X) (h : ∀ z ∈ Z', z ∈ Z) : Facts prog w Z' sr pg pd lk la ma A rows mrows φ gm X :=
  ⟨F.src, F.lt, F.pgd, F.rl, F.rm, F.pa, F.qa, F.nl, F.nm, fun z hz => F.oz z (h z hz), fun z hz => F.z z (h z hz)⟩
theorem Facts.more (F : Facts prog w Z sr pg pd lk la ma A rows mrows φ gm X) {q : Addr × Obj} (hq : q ∈ X) (ho : Odd q.2) : Facts prog w (q :: Z) sr pg pd lk la ma A rows mrows φ gm X :=
  ⟨F.src, F.lt, F.pgd, F.rl, F.rm, F.pa, F.qa, F.nl, F.nm, fun z hz => (List.mem_cons.mp hz).elim (fun e => e ▸ ho) (F.oz z), fun z hz => (List.mem_cons.mp hz).elim (fun e => e ▸ hq) (F.z z)⟩
/-- without one odd entry -/
theorem Facts.off (F : Facts prog w Z sr pg pd lk la ma A rows mrows φ gm X) (N : News h₀ L h X) {a : Addr} {o : Obj} (ha : (a, o) ∈ X) (ho : Odd o) (h : ∀ p ∈ X, p.1 ≠ a → p ∈ X') : Facts prog w (Z.filter fun q => decide (q.1 ≠ a)) sr pg pd lk la ma A rows mrows φ gm X' := by
  have sq : ∀ t o' its n, (t, o') ∈ X → o'.data = .seq its n → (t, o') ∈ X' := fun t o' its n m e => h _ m fun q => ho.s its n (by rw [same_obj N ha (show (a, o') ∈ X from q ▸ m)]; exact e)
  refine ⟨F.src.part fun o' its n m e => sq _ _ _ _ m e, F.lt.part fun p hp hA => h p hp fun q => odd_off F.lt N ha ho (q ▸ hA), F.pgd.part (fun o' m e => h _ m fun q => ho.p (by rw [same_obj N ha (show (a, o') ∈ X from q ▸ m)]; exact e)) (fun o' es n m e => h _ m fun q => ho.d es n (by rw [same_obj N ha (show (a, o') ∈ X from q ▸ m)]; exact e)),
    F.rl.part (fun o' its n m e => sq _ _ _ _ m e) fun t o' its n m e _ => sq _ _ _ _ m e, F.rm.part (fun o' its n m e => sq _ _ _ _ m e) fun t o' its n m e _ => sq _ _ _ _ m e, F.pa, F.qa, F.nl, F.nm, fun z hz => F.oz z (List.mem_filter.mp hz).1, fun z hz => ?_⟩
  obtain ⟨h1, h2⟩ := List.mem_filter.mp hz
  exact h _ (F.z z h1) (of_decide_eq_true h2)
/-- the source has been asked -/
theorem Facts.take (F : Facts prog w Z sr pg pd lk la ma A rows mrows φ gm X) (N : News h₀ L h X) (hs : SrcI sr X') (h : ∀ p ∈ X, p.1 ≠ sr → p ∈ X') : Facts prog w Z sr pg pd lk la ma A rows mrows φ gm X' := by
  obtain ⟨a, b, t1, t2, n, hm⟩ := F.src
  have hA : sr ∉ A := seq_off F.lt N hm rfl
  have ob : ∀ {x : Addr} {o : Obj}, (x, o) ∈ X → x = sr → o = W.listOf #[.int a t1, .int b t2] n := fun {x o} m e => same_obj N (show (sr, o) ∈ X from e ▸ m) hm
  have tu : ∀ t o its n, (t, o) ∈ X → o.data = .seq its n → o.cls = .type "tuple" → (t, o) ∈ X' := fun t o its n m _ e => h _ m fun q => by rw [ob m q] at e; injection e with e; revert e; decide
  refine ⟨hs, F.lt.part fun p hp q => h p hp fun e => hA (e ▸ q), F.pgd.part (fun o m e => h _ m fun q => by rw [ob m q] at e; cases e) (fun o es n m e => h _ m fun q => by rw [ob m q] at e; cases e), F.rl.part (fun o its n m e => h _ m F.nl) tu, F.rm.part (fun o its n m e => h _ m F.nm) tu, F.pa, F.qa, F.nl, F.nm, F.oz, fun z hz => h _ (F.z z hz) fun q => ?_⟩
  exact (F.oz z hz).s _ _ (by rw [ob (F.z z hz) q])
/-- the table has been turned -/
theorem Facts.keep (F : Facts prog w Z sr pg pd lk la ma A rows mrows φ gm X) (N : News h₀ L h X) (K : Keep X A X' A') (hl : LT prog w X' lk A' φ' gm') : Facts prog w Z sr pg pd lk la ma A' rows mrows φ' gm' X' := by
  have sq : ∀ t o' its n, (t, o') ∈ X → o'.data = .seq its n → (t, o') ∈ X' := fun t o' its n m e => (K _ m (seq_off F.lt N m e)).1
  have ⟨es, n, t, a, b, c⟩ := F.pgd
  exact ⟨F.src.part fun o' its n m e => sq _ _ _ _ m e, hl, ⟨es, n, t, (K _ a F.pa).1, (K _ b F.qa).1, c⟩, rows_keep F.lt N K F.rl, rows_keep F.lt N K F.rm, (K _ a F.pa).2, (K _ b F.qa).2, F.nl, F.nm, F.oz, fun z hz => (K _ (F.z z hz) (odd_off F.lt N (F.z z hz) (F.oz z hz))).1⟩
theorem rows_ne_src (N : News h₀ L h X) (R : RowsIn X la rows) (hne : rows ≠ []) (S : SrcI sr X) : la ≠ sr := by
  rintro rfl
  obtain ⟨a, b, t1, t2, n, hm⟩ := S
  obtain ⟨its, k, h1, h2⟩ := R
  have e := congrArg Obj.data (same_obj N h1 hm)
  have e2 : its.toArray = #[Value.int a t1, Value.int b t2] := by injection e
  have e3 : its = [Value.int a t1, Value.int b t2] := congrArg Array.toList e2
  subst e3
  cases h2 with
  | cons q _ =>
    obtain ⟨t, _, _, _, _, _, z, _⟩ := q
    cases z
theorem Facts.newL (F : Facts prog w Z sr pg pd lk la ma A rows mrows φ gm X) (h : RowsIn X la' rows') (hn : la' ≠ sr) : Facts prog w Z sr pg pd lk la' ma A rows' mrows φ gm X :=
  ⟨F.src, F.lt, F.pgd, h, F.rm, F.pa, F.qa, hn, F.nm, F.oz, F.z⟩
theorem Facts.newM (F : Facts prog w Z sr pg pd lk la ma A rows mrows φ gm X) (h : RowsIn X ma' mrows') (hn : ma' ≠ sr) : Facts prog w Z sr pg pd lk la ma' A rows mrows' φ gm X :=
  ⟨F.src, F.lt, F.pgd, F.rl, h, F.pa, F.qa, F.nl, hn, F.oz, F.z⟩
end

end

/-! part T39 -/
section
open PySem PySem.W PyProof.Rows PySem.Spec PySem.Calls
set_option maxRecDepth 100000
section
variable {M : Model} {A : Around} {E : Value → Shared → Prop} {s : Shared} {h₀ : Heap} {L a : Addr} {m : Str → Option Value} {cn : Str} {cs : Scope} {ccd : Value} {cl : List (Str × Addr)}
  {x : Str} {v : Value} {Q : Unit → Shared → Prop} {X : List (Addr × Obj)} {c : Addr} {o : Obj} {v₀ : Option Value}
/-- a name that is held in a cell is bound -/
theorem L_cell (F : Fr h₀ L s.heap m) (N : News h₀ L s.heap X) (hc : cl.lookup x = some c) (hm : (c, o) ∈ X) (hd : o.data = .cell v₀)
    (h : ∀ h' o', Fr h₀ L h' m → News h₀ L h' (upd X c o') → o'.data = .cell (some v) → Q () { s with heap := h' })
    (hk : cs.kind = .function := by rfl) (hx : (envX cn cs L a ccd cl).kindOf x = some .cell := by rfl) : wpAny M A (storeName (envX cn cs L a ccd cl) x v) Q E s := by
  have hmem := N _ hm
  refine wpAny_storeName_cell hk hx hc ⟨o, hmem.1, hd⟩ fun h' hv hs => ?_
  obtain ⟨o', ho', hd'⟩ := hv
  refine h h' o' ⟨F.ns.sameBut hs (Ne.symm hmem.2.1), fun b ob e => (hs.2 b (fun q => ?_)).trans (F.keep b ob e), F.above⟩ (news_upd1 N hm hs ho') hd'
  rw [q, hmem.2.2] at e; cases e
end
section
variable {prog : Program} {w : World} {X : List (Addr × Obj)} {sr pg pd lk la ma : Addr} {A : List Addr} {rows mrows : List Row} {φ gm : Str → MK → Option Int} {h₀ h : Heap} {L : Addr} {zI zx : Addr × Obj} {c1 c2 : Addr} {o1 o2 o' : Obj} {v v' : Option Value}
theorem Facts.set1 (F : Facts prog w [zI, (c1, o1), (c2, o2), zx] sr pg pd lk la ma A rows mrows φ gm X) (N : News h₀ L h X) (n1 : zI.1 ≠ c1) (n2 : c2 ≠ c1) (n3 : zx.1 ≠ c1) (hd : o1.data = .cell v) (hd' : o'.data = .cell v') :
    Facts prog w [zI, (c1, o'), (c2, o2), zx] sr pg pd lk la ma A rows mrows φ gm (upd X c1 o') := by
  have hm : (c1, o1) ∈ X := F.z _ (.tail _ (.head _))
  have G := ((F.off N hm (odd_cell hd) (X' := upd X c1 o') fun p hp hn => mem_upd_ne hp hn).more (q := (c1, o')) (mem_upd_self hm) (odd_cell hd'))
  refine G.less fun z hz => ?_
  simp only [List.mem_cons, List.not_mem_nil, or_false] at hz
  rcases hz with rfl | rfl | rfl | rfl
  · exact .tail _ (List.mem_filter.mpr ⟨.head _, decide_eq_true n1⟩)
  · exact .head _
  · exact .tail _ (List.mem_filter.mpr ⟨.tail _ (.tail _ (.head _)), decide_eq_true n2⟩)
  · exact .tail _ (List.mem_filter.mpr ⟨.tail _ (.tail _ (.tail _ (.head _))), decide_eq_true n3⟩)
theorem Facts.set2 (F : Facts prog w [zI, (c1, o1), (c2, o2), zx] sr pg pd lk la ma A rows mrows φ gm X) (N : News h₀ L h X) (n1 : zI.1 ≠ c2) (n2 : c1 ≠ c2) (n3 : zx.1 ≠ c2) (hd : o2.data = .cell v) (hd' : o'.data = .cell v') :
    Facts prog w [zI, (c1, o1), (c2, o'), zx] sr pg pd lk la ma A rows mrows φ gm (upd X c2 o') := by
  have hm : (c2, o2) ∈ X := F.z _ (.tail _ (.tail _ (.head _)))
  have G := ((F.off N hm (odd_cell hd) (X' := upd X c2 o') fun p hp hn => mem_upd_ne hp hn).more (q := (c2, o')) (mem_upd_self hm) (odd_cell hd'))
  refine G.less fun z hz => ?_
  simp only [List.mem_cons, List.not_mem_nil, or_false] at hz
  rcases hz with rfl | rfl | rfl | rfl
  · exact .tail _ (List.mem_filter.mpr ⟨.head _, decide_eq_true n1⟩)
  · exact .tail _ (List.mem_filter.mpr ⟨.tail _ (.head _), decide_eq_true n2⟩)
  · exact .head _
  · exact .tail _ (List.mem_filter.mpr ⟨.tail _ (.tail _ (.tail _ (.head _))), decide_eq_true n3⟩)
/-- the entries that the walk reads, ahead of the others -/
theorem Facts.heads (F : Facts prog w [zI, (c1, o1), (c2, o2), zx] sr pg pd lk la ma A rows mrows φ gm X) (N : News h₀ L h X) :
    ∃ dx lv sl tm t1 t2 t3 n, News h₀ L h ((c1, o1) :: (c2, o2) :: (lk, instObj 232 dx) :: (dx, lkD w.params lv sl tm t1 t2 t3 n) :: X) := by
  obtain ⟨dx, lv, sl, tm, S, M, t1, t2, t3, n, HH, _⟩ := F.lt
  refine ⟨dx, lv, sl, tm, t1, t2, t3, n, fun q hq => ?_⟩
  simp only [List.mem_cons] at hq
  rcases hq with rfl | rfl | rfl | rfl | hq
  · exact N _ (F.z _ (.tail _ (.head _)))
  · exact N _ (F.z _ (.tail _ (.tail _ (.head _))))
  · exact N _ HH.i
  · exact N _ HH.dd
  · exact N _ hq
end
/-- the state between two turns of the law's loop -/
structure TurnSt (prog : Program) (w : World) (base : Heap) (A₀ : Around) (outer : List Env) (p : Program) (loose : List Str) (mean : ExcName → Option Value) (mg mb : Str → Option Value) (g₀ : Heap) (zx : Addr × Obj) (sr pg pd lk c1 c2 : Addr) (la ma : Addr) (A : List Addr) (rows mrows : List Row) (φ gm : Str → MK → Option Int) (o1 o2 : Obj) (v1 v2 : Option Value) (i : Nat) (I : Addr) (g : Heap) (m : Str → Option Value) (X : List (Addr × Obj)) : Prop where
  f : Facts prog w [(c1, o1), (c2, o2), zx] sr pg pd lk la ma A rows mrows φ gm X
  m1 : m (Str.ofString "source") = some (.ref sr)
  m2 : m (Str.ofString "pager") = some (.ref pg)
  m3 : m (Str.ofString "locks") = some (.ref lk)
  m4 : m (Str.ofString "levels") = some (.ref la)
  m5 : m (Str.ofString "marks") = some (.ref ma)
  d1 : o1.data = .cell v1
  d2 : o2.data = .cell v2
  n1 : I ≠ c1
  n2 : I ≠ c2
  n3 : I ≠ zx.1
  n4 : zx.1 ≠ c1
  n5 : zx.1 ≠ c2
  ll : rows.length ≤ i
  lm : mrows.length ≤ i
  ok : Ok2 φ
  ag : Ag rows φ
  mag : MAg mrows gm
  T : KtsTurn (outer.filterMap (·.frame)) g₀ g
  B : Below A₀ base outer g
  K : (kk w.params).In g
  P : Top p loose mean mg mb g
  D : KtsDicts (outer.filterMap (·.frame)) g
/-- the names that the turn reads, ahead of the others -/
theorem names5 {m : Str → Option Value} {sr pg lk la ma : Addr} (m1 : m (Str.ofString "source") = some (.ref sr)) (m2 : m (Str.ofString "pager") = some (.ref pg)) (m3 : m (Str.ofString "locks") = some (.ref lk)) (m4 : m (Str.ofString "levels") = some (.ref la)) (m5 : m (Str.ofString "marks") = some (.ref ma)) :
    m = fun y => if y = Str.ofString "source" then some (.ref sr) else if y = Str.ofString "pager" then some (.ref pg) else if y = Str.ofString "locks" then some (.ref lk) else if y = Str.ofString "levels" then some (.ref la) else if y = Str.ofString "marks" then some (.ref ma) else m y := by
  funext y
  by_cases h1 : y = Str.ofString "source"
  · rw [if_pos h1, h1, m1]
  rw [if_neg h1]
  by_cases h2 : y = Str.ofString "pager"
  · rw [if_pos h2, h2, m2]
  rw [if_neg h2]
  by_cases h3 : y = Str.ofString "locks"
  · rw [if_pos h3, h3, m3]
  rw [if_neg h3]
  by_cases h4 : y = Str.ofString "levels"
  · rw [if_pos h4, h4, m4]
  rw [if_neg h4]
  by_cases h5 : y = Str.ofString "marks"
  · rw [if_pos h5, h5, m5]
  rw [if_neg h5]
theorem fr_names {h₀ h : Heap} {L : Addr} {m m' : Str → Option Value} (F : Fr h₀ L h m) (e : m = m') : Fr h₀ L h m' := e ▸ F
theorem law_one_l (prog : Program) (w : World) (sr tl : Addr) (its : List Value) (X : List (Addr × Obj)) (hs : SrcI sr X) (hl : ∀ p ∈ X, p.1 < tl) (h0 : 0 < its.length) (h1 : its.length ≤ 100) :
    Spec prog w 6 1367 [.ref sr, .ref tl] ((tl, W.listOf its.toArray 0) :: X) (fun r X' => r ∈ its ∧ SrcI sr X' ∧ ∀ p ∈ X, p.1 ≠ sr → p ∈ X') := by
  have hne : tl ≠ sr := by
    obtain ⟨a, b, t1, t2, n, hm⟩ := hs
    have z : @LT.lt Nat _ sr tl := hl _ hm
    exact neN (by omega)
  have C := law_one_c prog w sr tl its 0 ((tl, W.listOf its.toArray 0) :: X) (hs.part fun _ _ _ m _ => .tail _ m) (.head _) hne h0 h1
  intro p loose mean mg mb dp un gd cn cs ca ccd cl outer A₀ base h₀ L m s Q E B F KX N T hk hd hu hret
  exact C p loose mean mg mb dp un gd cn cs ca ccd cl outer A₀ base h₀ L m s Q E B F KX N T hk hd hu fun r X' h' tk' F' N' ⟨a, b, c⟩ => hret r X' h' tk' F' N' ⟨a, b, fun p hp hn => c p (.tail _ hp) hn⟩
section
variable {prog : Program} {w : World} {X X' : List (Addr × Obj)} {sr lk : Addr} {A : List Addr} {φ gm : Str → MK → Option Int} {h₀ h : Heap} {L : Addr}
theorem ne_src (N : News h₀ L h X) (S : SrcI sr X) {a : Addr} {o : Obj} (hm : (a, o) ∈ X) (ho : ∀ its n, o.data ≠ .seq its n) : a ≠ sr := by
  rintro rfl
  obtain ⟨x, y, t1, t2, n, hs⟩ := S
  exact ho _ _ (by rw [same_obj N hm hs])
theorem LT.take (H : LT prog w X lk A φ gm) (N : News h₀ L h X) (S : SrcI sr X) (k : ∀ p ∈ X, p.1 ≠ sr → p ∈ X') : LT prog w X' lk A φ gm := by
  obtain ⟨x, y, t1, t2, n, hs⟩ := S
  exact H.part fun p hp hA => k p hp fun e => seq_off H N hs rfl (e ▸ hA)
theorem LT.inX (H : LT prog w X lk A φ gm) : ∀ a ∈ A, ∃ o, (a, o) ∈ X := fun a ha => let ⟨o, h, _⟩ := lt_data H a ha; ⟨o, h⟩
end
theorem diff_obj {X : List (Addr × Obj)} {h₀ h : Heap} {L a b : Addr} {o o' : Obj} (N : News h₀ L h X) (h1 : (a, o) ∈ X) (h2 : (b, o') ∈ X) (hd : o ≠ o') : a ≠ b := by
  rintro rfl
  exact hd (same_obj N h1 h2)
theorem odd_ne_dict {K : Type} [DecidableEq K] {prog : Program} {w : World} {knd : KeyKind prog w K} {o o' : Obj} {kvs : List (K × Value)} (ho : Odd o) (hd : o'.IsDictOf knd kvs) : o ≠ o' := by
  rintro rfl
  obtain ⟨es, ep, _, hx, _⟩ := hd
  exact ho.d _ _ hx
theorem seq_ne_dict {K : Type} [DecidableEq K] {prog : Program} {w : World} {knd : KeyKind prog w K} {o o' : Obj} {kvs : List (K × Value)} {its : Array Value} {n : Nat} (ho : o.data = .seq its n) (hd : o'.IsDictOf knd kvs) : o ≠ o' := by
  rintro rfl
  exact dict_noseq hd _ _ ho
theorem empty_ne_src {X : List (Addr × Obj)} {h₀ h : Heap} {L la sr : Addr} (N : News h₀ L h X) (hm : (la, W.listOf #[] 0) ∈ X) (S : SrcI sr X) : la ≠ sr := by
  obtain ⟨a, b, t1, t2, n, hs⟩ := S
  refine diff_obj N hm hs fun e => ?_
  have e1 := congrArg Obj.data e
  injection e1 with e1
  cases e1
theorem Facts.start {prog : Program} {w : World} {Z X : List (Addr × Obj)} {h₀ h : Heap} {L sr pg pd lk la ma : Addr} {A : List Addr} (N : News h₀ L h X) (S : SrcI sr X) (lt : LT prog w X lk A (fun _ _ => none) (fun _ _ => none)) (hpg : PgD X pg pd lk) (hla : (la, W.listOf #[] 0) ∈ X) (hma : (ma, W.listOf #[] 0) ∈ X) (pa : pg ∉ A) (qa : pd ∉ A) (oz : ∀ z ∈ Z, Odd z.2) (hz : ∀ z ∈ Z, z ∈ X) :
    Facts prog w Z sr pg pd lk la ma A [] [] (fun _ _ => none) (fun _ _ => none) X :=
  ⟨S, lt, hpg, ⟨[], 0, hla, .nil⟩, ⟨[], 0, hma, .nil⟩, pa, qa, empty_ne_src N hla S, empty_ne_src N hma S, oz, hz⟩
theorem TurnSt.off {prog : Program} {w : World} {base : Heap} {A₀ : Around} {outer : List Env} {p : Program} {loose : List Str} {mean : ExcName → Option Value} {mg mb : Str → Option Value} {g₀ : Heap} {zx : Addr × Obj} {sr pg pd lk c1 c2 la ma : Addr} {A : List Addr} {rows mrows : List Row} {φ gm : Str → MK → Option Int} {o1 o2 : Obj} {v1 v2 : Option Value} {i j n : Nat} {I L : Addr} {g h : Heap} {m : Str → Option Value} {X : List (Addr × Obj)}
    (st : TurnSt prog w base A₀ outer p loose mean mg mb g₀ zx sr pg pd lk c1 c2 la ma A rows mrows φ gm o1 o2 v1 v2 i I g m X) (N : News g L h X) (hI : (I, ritObj n j) ∈ X) :
    TurnSt prog w base A₀ outer p loose mean mg mb g₀ zx sr pg pd lk c1 c2 la ma A rows mrows φ gm o1 o2 v1 v2 i I g m (X.filter fun q => decide (q.1 ≠ I)) :=
  { st with f := (st.f.off N hI (odd_rit _ _) (X' := X.filter fun q => decide (q.1 ≠ I)) fun p hp hn => List.mem_filter.mpr ⟨hp, decide_eq_true hn⟩).less fun z hz => List.mem_filter.mpr ⟨hz, by
      simp only [List.mem_cons, List.not_mem_nil, or_false] at hz
      rcases hz with rfl | rfl | rfl
      · exact decide_eq_true fun e => st.n1 e.symm
      · exact decide_eq_true fun e => st.n2 e.symm
      · exact decide_eq_true fun e => st.n3 e.symm⟩ }
theorem up5n {h₀ h : Heap} {L : Addr} {q1 q2 q3 q4 q5 z : Addr × Obj} {X : List (Addr × Obj)} (_ : News h₀ L h (q1 :: q2 :: q3 :: q4 :: q5 :: X)) (hz : z ∈ X) : z ∈ q1 :: q2 :: q3 :: q4 :: q5 :: X := .tail _ (.tail _ (.tail _ (.tail _ (.tail _ hz))))
theorem three_mem {z1 z2 z3 : Addr × Obj} {X : List (Addr × Obj)} (h1 : z1 ∈ X) (h2 : z2 ∈ X) (h3 : z3 ∈ X) : ∀ z ∈ [z1, z2, z3], z ∈ X := List.forall_mem_cons.mpr ⟨h1, List.forall_mem_cons.mpr ⟨h2, List.forall_mem_cons.mpr ⟨h3, List.forall_mem_nil _⟩⟩⟩
theorem three_odd {a1 a2 : Addr} {o1 o2 : Obj} {zx : Addr × Obj} (h1 : Odd o1) (h2 : Odd o2) (h3 : Odd zx.2) : ∀ z ∈ [(a1, o1), (a2, o2), zx], Odd z.2 := List.forall_mem_cons.mpr ⟨h1, List.forall_mem_cons.mpr ⟨h2, List.forall_mem_cons.mpr ⟨h3, List.forall_mem_nil _⟩⟩⟩
theorem Facts.heads0 {prog : Program} {w : World} {Z X : List (Addr × Obj)} {sr pg pd lk la ma : Addr} {A : List Addr} {rows mrows : List Row} {φ gm : Str → MK → Option Int} {h₀ h : Heap} {L : Addr} (F : Facts prog w Z sr pg pd lk la ma A rows mrows φ gm X) (N : News h₀ L h X) :
    ∃ dx lv sl tm t1 t2 t3 n, News h₀ L h ((lk, instObj 232 dx) :: (dx, lkD w.params lv sl tm t1 t2 t3 n) :: X) := by
  obtain ⟨dx, lv, sl, tm, S, M, t1, t2, t3, n, HH, _⟩ := F.lt
  exact ⟨dx, lv, sl, tm, t1, t2, t3, n, news_sub N (two_sub HH.i HH.dd)⟩
theorem owner_of {r : Value} {t1 t2 t3 : Tok} (h : r ∈ [Value.str (Str.ofString "x") t1, .str (Str.ofString "y") t2, .int 3 t3]) : ∃ k ∈ OW, k.is r = true := by
  simp only [List.mem_cons, List.not_mem_nil, or_false] at h
  rcases h with rfl | rfl | rfl
  · exact ⟨.ks (Str.ofString "x"), by simp [OW], by simp [MK.is]⟩
  · exact ⟨.ks (Str.ofString "y"), by simp [OW], by simp [MK.is]⟩
  · exact ⟨.ki 3, by simp [OW], by simp [MK.is]⟩
theorem file_of {r : Value} {t1 t2 t3 : Tok} (h : r ∈ [Value.str (Str.ofString "a") t1, .str (Str.ofString "a") t2, .str (Str.ofString "b") t3]) : ∃ nm ∈ NM, ∃ tn, r = .str nm tn := by
  simp only [List.mem_cons, List.not_mem_nil, or_false] at h
  rcases h with rfl | rfl | rfl
  · exact ⟨_, by simp [NM], _, rfl⟩
  · exact ⟨_, by simp [NM], _, rfl⟩
  · exact ⟨_, by simp [NM], _, rfl⟩
theorem mark_of {r : Value} {t1 t2 t3 : Tok} {d : Int} (h : r ∈ [Value.none, .int 0 t1, .int 5 t2, .int d t3]) : r = .none ∨ ∃ v t, r = .int v t := by
  simp only [List.mem_cons, List.not_mem_nil, or_false] at h
  rcases h with rfl | rfl | rfl | rfl
  · exact .inl rfl
  · exact .inr ⟨_, _, rfl⟩
  · exact .inr ⟨_, _, rfl⟩
  · exact .inr ⟨_, _, rfl⟩
theorem hiR_exists (k : MK) (n : Str) : ∀ rows : List Row, ∃ M, HiR rows k n M
  | [] => ⟨0, Int.le_refl _, .inl rfl, fun r hr => by cases hr⟩
  | r :: rs => by
    obtain ⟨M, h0, h1, h2⟩ := hiR_exists k n rs
    by_cases hc : r.2.1 = n ∧ r.1 ≠ k ∧ M < r.2.2
    · refine ⟨r.2.2, by omega, .inr ⟨r, .head _, hc.1, hc.2.1, rfl⟩, fun q hq a b => ?_⟩
      rcases List.mem_cons.mp hq with rfl | hq
      · exact Int.le_refl _
      · have := h2 q hq a b; omega
    · refine ⟨M, h0, ?_, fun q hq a b => ?_⟩
      · rcases h1 with e | ⟨q, hq, x⟩
        · exact .inl e
        · exact .inr ⟨q, .tail _ hq, x⟩
      · rcases List.mem_cons.mp hq with rfl | hq
        · by_cases hl : M < q.2.2
          · exact absurd ⟨a, b, hl⟩ hc
          · omega
        · exact h2 q hq a b
theorem isHi_exists {rows : List Row} {φ : Str → MK → Option Int} (h : Ag rows φ) (k : MK) (n : Str) : ∃ H, IsHi φ n k H := by
  obtain ⟨M, h0, h1, h2⟩ := hiR_exists k n rows
  refine ⟨M, h0, fun k' hk a ha => h2 _ (h.a2 _ _ _ ha) rfl hk, ?_⟩
  rcases h1 with e | ⟨r, hr, hn, hk, e⟩
  · exact .inl e
  · have g := h.a1 r hr
    rw [hn] at g
    cases hv : φ n r.1 with
    | none => rw [hv, Option.getD_none] at g; exact .inl (by omega)
    | some b => rw [hv, Option.getD_some] at g; exact .inr ⟨r.1, hk, by rw [hv]; congr 1; omega⟩
theorem putR_len {rows : List Row} {k : MK} {n : Str} {v : Int} {i : Nat} (h : rows.length ≤ i) : (putR rows k n v).length ≤ i + 1 := by
  unfold putR
  rw [List.length_append, List.length_singleton]
  have := List.length_filter_le (fun r : Row => decide (¬ (r.1 = k ∧ r.2.1 = n))) rows
  omega
theorem putR_ne {rows : List Row} {k : MK} {n : Str} {v : Int} : putR rows k n v ≠ [] := by unfold putR; simp
/-- what a mark that is asked for says -/
def MarkIs (mk : Value) (u : Option Int) : Prop := (mk = .none ∧ u = none) ∨ ∃ v t, mk = .int v t ∧ u = some v
theorem markIs_of {mk : Value} (h : mk = .none ∨ ∃ v t, mk = .int v t) : ∃ u, MarkIs mk u := by
  rcases h with rfl | ⟨v, t, rfl⟩
  · exact ⟨none, .inl ⟨rfl, rfl⟩⟩
  · exact ⟨some v, .inr ⟨v, t, rfl, rfl⟩⟩
theorem set_mark_c (prog : Program) (w : World) (lk : Addr) (A : List Addr) (k : MK) (ov : Value) (nm : Str) (tn : Tok) (mk : Value) (u : Option Int) (X : List (Addr × Obj)) (φ g : Str → MK → Option Int) (hu : MarkIs mk u)
    (hlt : LT prog w X lk A φ g) (hov : k.is ov = true) (hnm : nm ∈ NM) (hk : k ∈ OW) :
    Spec prog w 3 215 [.ref lk, ov, .str nm tn, mk] X (fun r X' => r = .none ∧ ∃ A', LT prog w X' lk A' φ (set2 g nm k u) ∧ Keep X A X' A') := by
  rcases hu with ⟨rfl, rfl⟩ | ⟨v, t, rfl, rfl⟩
  · exact set_mark_none_c prog w lk A k ov nm tn X φ g hlt hov hnm hk
  · exact set_mark_int_c prog w lk A k ov nm tn v t X φ g hlt hov hnm hk
theorem mag_u {rows : List Row} {g : Str → MK → Option Int} (h : MAg rows g) (k : MK) (n : Str) (u : Option Int) : MAg (match u with | none => rows.filter fun r => decide (¬ (r.1 = k ∧ r.2.1 = n)) | some v => putR rows k n v) (set2 g n k u) := by
  cases u with
  | none => exact mag_none h k n
  | some v => exact mag_int h k n v
theorem rows_app {g h : Heap} {L D2 t2 : Addr} {q2 q4 q5 q6 : Addr × Obj} {X : List (Addr × Obj)} {ys : List Value} {rows : List Row} {k : MK} {ov : Value} {nm : Str} {tn tv : Tok} {v : Int} (_ : News g L h ((D2, ({ cls := .type "list", data := .seq (ys ++ [Value.ref t2]).toArray } : Obj)) :: q2 :: (t2, ({ cls := .type "tuple", data := .seq #[ov, .str nm tn, .int v tv] } : Obj)) :: q4 :: q5 :: q6 :: X))
    (hJ : RowsAre X ys rows) (hov : k.is ov = true) : RowsIn ((D2, ({ cls := .type "list", data := .seq (ys ++ [Value.ref t2]).toArray } : Obj)) :: q2 :: (t2, ({ cls := .type "tuple", data := .seq #[ov, .str nm tn, .int v tv] } : Obj)) :: q4 :: q5 :: q6 :: X) D2 (rows ++ [(k, nm, v)]) :=
  ⟨_, _, .head _, (hJ.mono fun _ hq => .tail _ (.tail _ (.tail _ (.tail _ (.tail _ (.tail _ hq)))))).append (.cons ⟨_, _, ov, tn, tv, _, rfl, .tail _ (.tail _ (.head _)), rfl, rfl, hov⟩ .nil)⟩
theorem Facts.up3 {prog : Program} {w : World} {Z X : List (Addr × Obj)} {sr pg pd lk la ma : Addr} {A : List Addr} {rows mrows : List Row} {φ gm : Str → MK → Option Int} {h₀ h : Heap} {L : Addr} {q1 q2 q3 : Addr × Obj} (F : Facts prog w Z sr pg pd lk la ma A rows mrows φ gm X) (_ : News h₀ L h (q1 :: q2 :: q3 :: X)) : Facts prog w Z sr pg pd lk la ma A rows mrows φ gm (q1 :: q2 :: q3 :: X) :=
  F.mono fun _ hq => .tail _ (.tail _ (.tail _ hq))
theorem Facts.up1 {prog : Program} {w : World} {Z X : List (Addr × Obj)} {sr pg pd lk la ma : Addr} {A : List Addr} {rows mrows : List Row} {φ gm : Str → MK → Option Int} {h₀ h : Heap} {L : Addr} {q1 : Addr × Obj} (F : Facts prog w Z sr pg pd lk la ma A rows mrows φ gm X) (_ : News h₀ L h (q1 :: X)) : Facts prog w Z sr pg pd lk la ma A rows mrows φ gm (q1 :: X) :=
  F.mono fun _ hq => .tail _ hq
theorem L_tupat {prog : Program} {w : World} {A : Around} {E : Value → Shared → Prop} {s : Shared} {l : Addr} {its : Array Value} {k : Int} {t : Tok} {v : Value} {value slice : PySem.Expr} {Q : Value → Shared → Prop} (ht : IsTup s.heap l its) (h0 : 0 ≤ k) (hfit : k < 2 ^ 63) (hx : its[k.toNat]? = some v) (h : Q v s)
    (hs : subscripted slice false (.ref l) (.int k t) = operate [.ref l, .int k t] (getItem (.ref l) (.int k t)) := by with_unfolding_all rfl) :
    wpAny (model prog w) A (subscriptTail value slice (.ref l) (.int k t)) Q E s :=
  have hlt : k.toNat < its.size := (Array.getElem?_eq_some_iff.mp hx).1
  tail_any ht.typeIs slot_tuple_getitem.lookup (getItem_tuple ht (by omega) hfit (seqIndex_of h0 (by omega)) hx h) hs
theorem Facts.up5 {prog : Program} {w : World} {Z X : List (Addr × Obj)} {sr pg pd lk la ma : Addr} {A : List Addr} {rows mrows : List Row} {φ gm : Str → MK → Option Int} {h₀ h : Heap} {L : Addr} {q1 q2 q3 q4 q5 : Addr × Obj} (F : Facts prog w Z sr pg pd lk la ma A rows mrows φ gm X) (_ : News h₀ L h (q1 :: q2 :: q3 :: q4 :: q5 :: X)) : Facts prog w Z sr pg pd lk la ma A rows mrows φ gm (q1 :: q2 :: q3 :: q4 :: q5 :: X) :=
  F.mono fun _ hq => .tail _ (.tail _ (.tail _ (.tail _ (.tail _ hq))))
theorem ok2_drop {φ : Str → MK → Option Int} (h : Ok2 φ) (k : MK) : Ok2 (fun n' k' => if k' = k then none else φ n' k') := ok2_less h fun n k' a e => by
  by_cases hc : k' = k
  · simp only [if_pos hc] at e; cases e
  · simpa only [if_neg hc] using e

end

end Mine
end

section
open PySem PySem.W PyProof.Rows PySem.Spec PySem.Calls
namespace Mine
local macro_rules | `(tactic| k_steps) => `(tactic| repeat' (first | (k_unfold; (try dsimp only)) | ((fail_if_success (with_reducible show wpC _ _ _ _ _ _)); k_end; wrow_close) | ((fail_if_success (first | (with_reducible show wpC _ _ _ _ _ _) | (with_reducible show wpAny _ _ (call (Value.ref _) _) _ _ _) | (with_reducible show wpAny _ _ (setItem (Value.ref _) _ _) _ _ _) | (with_reducible show wpAny _ _ (eval (Expr.ListComp _ _ _ _) _) _ _ _) | (with_reducible show wpAny _ _ (exec (Stmt.Assign _ (Expr.ListComp _ _ _ _) _) _) _ _ _) | (with_reducible show wpAny _ _ (compareOp _ (Value.ref _) _) _ _ _) | (with_reducible show wpAny _ _ (binaryOp _ (Value.ref _) (Value.ref _)) _ _ _) | (with_reducible show wpAny _ _ (subscriptTail _ _ (Value.ref _) _) _ _ _) | (with_reducible show wpAny _ _ (execs (Stmt.If _ _ _ _ :: _) _) _ _ _) | (with_reducible show wpAny _ _ (exec (Stmt.For _ _ _ _ _) _) _ _ _) | (with_reducible show wpAny _ _ (storeName _ (Str.ofString "owner") _) _ _ _) | (with_reducible show wpAny _ _ (storeName _ (Str.ofString "name") _) _ _ _))); first | (with_reducible refine execs_tk fun tk9 => ?_; (try dsimp only)) | walk1 | (dsimp only; walk1) | (leave1; try dsimp only)) | fail "no step"))

/-! part T40 -/
section
open PySem PySem.W PyProof.Rows PySem.Spec PySem.Calls
open PyProof.Rows.LCg (lst NsObj lst_snoc ns_obj)
/-- what a call does at a caller that is calm and holds no guard; the ground may turn -/
def SpecBT (prog : Program) (w : World) (D : Nat) (f : Addr) (vs : List Value) (X : List (Addr × Obj)) (R : Value → List (Addr × Obj) → Prop) : Prop :=
  ∀ (p : Program) (loose : List Str) (mean : ExcName → Option Value) (mg mb : Str → Option Value) (dp un : Nat) (cn : Str) (cs : Scope) (a : Addr) (ccd : Value) (outer : List Env) (A₀ : Around) (base h₀ : Heap) (L : Addr) (m : Str → Option Value) (s : Shared) (Q E : Value → Shared → Prop),
    Below A₀ base outer h₀ → Fr h₀ L s.heap m → (kk w.params).In h₀ → News h₀ L s.heap X → Top p loose mean mg mb h₀ → (kk w.params).In base → Top p loose mean mg mb base → KtsDicts (outer.filterMap (·.frame)) h₀ → cs.kind = .function → dp + D < recursionLimit → un + 10 * D < cLine →
    (∀ r X' h' tk' g₀, KtsTurn (outer.filterMap (·.frame)) h₀ g₀ → Fr g₀ L h' m → News g₀ L h' X' → Below A₀ base outer g₀ → (kk w.params).In g₀ → Top p loose mean mg mb g₀ → KtsDicts (outer.filterMap (·.frame)) g₀ → R r X' → Q r { s with heap := h', toks := tk' }) →
    wpC (model prog w) (ktrTop dp un (some []) cn cs L a ccd [] outer) (call (.ref f) vs) Q E s
section
variable {prog : Program} {w : World} {D : Nat} {f : Addr} {vs : List Value} {X : List (Addr × Obj)} {R : Value → List (Addr × Obj) → Prop} {p : Program} {loose : List Str} {mean : ExcName → Option Value} {mg mb : Str → Option Value}
  {dp un : Nat} {cn : Str} {cs : Scope} {a : Addr} {ccd : Value} {cl : List (Str × Addr)} {outer : List Env} {A₀ : Around} {base h₀ : Heap} {L : Addr} {m : Str → Option Value} {s : Shared} {Q E : Value → Shared → Prop}
theorem use_specB (C : SpecB prog w D f vs X R) (B : Below A₀ base outer h₀) (F : Fr h₀ L s.heap m) (KX : (kk w.params).In h₀) (N : News h₀ L s.heap X) (T : Top p loose mean mg mb h₀) (hk : cs.kind = .function) (hd : dp + D < recursionLimit) (hu : un + 10 * D < cLine)
    (h : ∀ r X' h' tk', Fr h₀ L h' m → News h₀ L h' X' → R r X' → Q r { s with heap := h', toks := tk' }) :
    wpC (model prog w) (ktrTop dp un (some []) cn cs L a ccd cl outer) (call (.ref f) vs) Q E s := C _ _ _ _ _ _ _ _ _ _ _ _ _ _ _ _ _ _ _ _ _ B F KX N T hk hd hu h
end
set_option maxRecDepth 100000 in
set_option maxHeartbeats 8000000 in
theorem law_right_c : Of PySem.Challenge.rw_xm0775_01 kk (∀ (prog : Program) (w : World) (sr : Addr) (zx : Addr × Obj) (X : List (Addr × Obj)), SrcI sr X → zx ∈ X → Odd zx.2 →
    SpecBT prog w 40 1413 [.ref sr] X (fun r X' => r = .bool true ∧ zx ∈ X')) := by
  k_fill
  unfold Of
  intro prog w sr zx X hsr hzx hzo
  unfold SpecBT
  intro p loose mean mg mb dp un cn cs a ccd outer A₀ base h₀ L m s Q E B F KX N T XB TB KD hk hd hu hret
  refine wpC_call ?_
  k_dflt (refine' codeC_SC ?k1 ?k2 ?k3 ?k4 ?k5 ?XB ?TB ?D ?T0 ?kA ?kF ?cK ?k6 ?k7 ?k8 ?k9 ?kB ?kD ?_ ?c2 ?c3 ?c4; (case kA => exact rfl); (case kF => exact rfl); (case k2 => k_asm); (case k1 => k_asm); (case XB => assumption); (case TB => assumption); (case D => assumption); (case T0 => exact KtsTurn.refl); (case k3 => k_asm); (case k4 => k_asm); (case k5 => k_asm); (case k6 => k_is); (case k7 => k_is); (case k8 => ktr_room); (case k9 => exact BindsTo.of_eq rfl); (case kB => exact rfl); (case kD => decide +kernel); (case cK => assumption); (case c2 => exact rfl); (case c3 => exact rfl); (case c4 => exact rfl); k_whole; intro g' L' h' tk' cells' FG' F' N' Y' B' X' T' D' l1; (try k_lt l1); k_cells Y'; (try simp only [List.cons_append, List.nil_append] at N'); (try dsimp only))
  refine wpC_named fun qk ek hq he => ?_
  refine execsC_cons (wpC_any ?_)
  k_steps
  refine' use_spec (disk_new_c prog w _) ?k1 ?k2 ?k3 ?k4 ?k5 ?k6 ?k7 ?k8 ?_
  (case k1 => k_asm); (case k2 => k_asm); (case k3 => k_asm); (case k4 => k_asm); (case k5 => k_asm); (case k6 => first | exact rfl | assumption); (case k7 => ktr_room); (case k8 => ktr_units)
  intro r1 X1 h1 tk1 F1 N1 hmade
  obtain ⟨dk, dd, fd, sh, lk, a1, a2, a3, a4, a5, a6, a7, u1, u2, ofd, A, rfl, sub1, hdk, hdd, hfd, hofd, hlo, hne1, hne2, hLT, hfA, hdkA, hddA, hXA, hXfd⟩ := disk_made hmade
  k_steps
  dsimp only
  refine execsC_cons (execC_Tuple (evalC_Tuple (evalC_Name_Call ?_)))
  k_steps
  dsimp only
  refine callWithC_K (K := kk w.params) (by k_is) ?_
  k_steps
  (rename News _ _ _ _ => N2)
  have hs1 : SrcI sr X1 := hsr.part fun _ _ _ m _ => sub1 _ (by simp only [List.mem_cons, m, or_true])
  have N1b : News _ _ _ X1 := news_sub N2 (fun q hq => List.Mem.tail _ hq)
  refine' use_spec (law_one_l prog w sr _ _ X1 hs1 ?h2 ?h3 ?h4) ?k1 ?k2 ?k3 ?k4 ?k5 ?k6 ?k7 ?k8 ?_
  (case k1 => k_asm); (case k2 => k_asm); (case k3 => k_asm); (case k4 => k_asm); (case k5 => k_asm); (case k6 => first | exact rfl | assumption); (case k7 => ktr_room); (case k8 => ktr_units)
  (case h2 => assumption)
  (case h3 => simp)
  (case h4 => simp)
  rintro r2 X2 h2 tk2 F2 N2 ⟨hr2, hs2, k2⟩
  have m1 := k2 _ hdk (ne_src N1b hs1 hdk (fun _ _ e => by cases e))
  have m2 := k2 _ hdd (ne_src N1b hs1 hdd (fun _ _ e => by cases e))
  have m3 := k2 _ hfd (ne_src N1b hs1 hfd (dict_noseq hofd))
  have lt2 := hLT.take N1b hs1 k2
  have hs1' := hs1
  have hzL := l1 _ hzx
  have mzx := sub1 _ (.tail _ (.tail _ hzx))
  have mzx2 := k2 _ mzx (ne_src N1b hs1 mzx hzo.s)
  have mc1 := k2 _ (sub1 _ (.head _)) (ne_src N1b hs1 (sub1 _ (.head _)) (odd_cell (by assumption)).s)
  have mc2 := k2 _ (sub1 _ (.tail _ (.head _))) (ne_src N1b hs1 (sub1 _ (.tail _ (.head _))) (odd_cell (by assumption)).s)
  k_steps
  (try dsimp only [List.nil_append, List.cons_append])
  refine' use_specB (pager_new_c prog w dk dd fd sh lk a1 a2 a3 a4 a5 a6 a7 u1 u2 ofd r2 _ X2 m1 m2 m3 hofd hlo hne1 hne2) ?k1 ?k2 ?k3 ?k4 ?k5 ?k6 ?k7 ?k8 ?_
  (case k1 => k_asm); (case k2 => k_asm); (case k3 => k_asm); (case k4 => k_asm); (case k5 => k_asm); (case k6 => first | exact rfl | assumption); (case k7 => ktr_room); (case k8 => ktr_units)
  have N2b := N2
  rintro r3 X3 h3 tk3 F3 N3 ⟨pg, pd, er3, hpg, hfr3, k3⟩
  subst er3
  have hs3 : SrcI sr X3 := hs2.part fun o its n m e => k3 _ m (diff_obj N2b m m3 (seq_ne_dict e hofd))
  have lt3 : LT prog w X3 lk A _ _ := lt2.part fun p hp hA => k3 p hp (fun e => hfA (e ▸ hA))
  have pgA : pg ∉ A := fun q => let ⟨o, ho⟩ := lt2.inX _ q; (hfr3 _ ho).1 rfl
  have pdA : pd ∉ A := fun q => let ⟨o, ho⟩ := lt2.inX _ q; (hfr3 _ ho).2 rfl
  have mk1 := k3 _ m1 hne1
  have mk2 := k3 _ m2 hne2
  have mc3 := k3 _ mc1 (diff_obj N2b mc1 m3 (odd_ne_dict (odd_cell (by assumption)) hofd))
  have mc4 := k3 _ mc2 (diff_obj N2b mc2 m3 (odd_ne_dict (odd_cell (by assumption)) hofd))
  have mzx3 := k3 _ mzx2 (diff_obj N2b mzx2 m3 (odd_ne_dict hzo hofd))
  replace N3 := news_sub N3 (two_sub mk1 mk2)
  k_steps
  dsimp only
  refine execsC_cons (execC_range (by rfl) (by rfl) ?_)
  k_steps
  (rename IsRange _ _ _ _ _ _ _ _ => hR)
  (rename Fr _ _ _ _ => F4)
  (rename News _ _ _ _ => N4)
  have mz1 := up5n N4 mc3
  have mz2 := up5n N4 mc4
  have mz3 := up5n N4 mzx3
  have hzl : @LT.lt Nat _ zx.1 L' := hzL
  have fx := Facts.start N4 (hs3.part fun _ _ _ q _ => by simp only [List.mem_cons, q, or_true]) (lt3.mono fun q hq => by simp only [List.mem_cons, hq, or_true]) (hpg.part (fun _ q _ => by simp only [List.mem_cons, q, or_true]) (fun _ _ _ q _ => by simp only [List.mem_cons, q, or_true]))
    (.tail _ (.tail _ (.head _))) (.tail _ (.head _)) pgA pdA (three_odd (odd_cell (by assumption)) (odd_cell (by assumption)) hzo) (three_mem mz1 mz2 mz3)
  refine ⟨_, 14, _, _, _, 14, g', _, _, fun i I g m X => ∃ la ma A rows mrows φ gm o1 o2 v1 v2, TurnSt prog w base (ktrTop dp un (some []) cn cs L a ccd [] outer) (envX cn cs L a ccd [] :: outer) p loose mean mg mb g' zx sr pg pd lk (L' + 1 + 1) (L' + 1) la ma A rows mrows φ gm o1 o2 v1 v2 i I g m X, rfl, hR, by decide, by decide, rfl, F4, N4, ?j0, ?off, ?turn, ?done⟩
  case j0 =>
    intro I hI
    have z1 : @LT.lt Nat _ (L' + 1 + 1) I := hI _ mz1
    have z2 : @LT.lt Nat _ (L' + 1) I := hI _ mz2
    have z3 : @LT.lt Nat _ zx.1 I := hI _ mz3
    exact ⟨_, _, _, [], [], _, _, _, _, _, _, { f := fx.mono fun q hq => .tail _ hq, m1 := rfl, m2 := rfl, m3 := rfl, m4 := rfl, m5 := rfl, d1 := by assumption, d2 := by assumption, n1 := neN (by omega), n2 := neN (by omega), n3 := neN (by omega), n4 := neN (by omega), n5 := neN (by omega), ll := Nat.le_refl _, lm := Nat.le_refl _, ok := ok2_none, ag := ag_none, mag := mag_nil, T := KtsTurn.refl, B := by k_asm, K := by k_asm, P := by k_asm, D := by assumption }⟩
  case off =>
    rintro i I g m X h F N hI ⟨la, ma, A, rows, mrows, φ, gm, o1, o2, v1, v2, st⟩
    exact ⟨la, ma, A, rows, mrows, φ, gm, o1, o2, v1, v2, st.off N hI⟩
  case done =>
    rintro I g m X5 h5 tk5 ⟨la, ma, A5, rows, mrows, φ, gm, o1, o2, v1, v2, st⟩ F5 N5
    have hT5 := st.T
    have hB5 := st.B
    have hK5 := st.K
    have hP5 := st.P
    have hD5 := st.D
    replace F5 := fr_names F5 (names5 st.m1 st.m2 st.m3 st.m4 st.m5)
    clear F4 N4 hR
    have hz5 := st.f.z _ (.tail _ (.tail _ (.head _)))
    dsimp only
    refine wpC_any ?_
    k_steps
    refine' use_spec (law_stands_c prog w lk la A5 rows _ _ X5 φ gm st.f.lt st.f.rl (Nat.le_trans st.ll (by decide)) (fun k _ => ag_sum st.ag k _) (fun k _ M H hM hH => ag_hi st.ag hM hH)) ?k1 ?k2 ?k3 ?k4 ?k5 ?k6 ?k7 ?k8 ?_
    (case k1 => k_asm); (case k2 => k_asm); (case k3 => k_asm); (case k4 => k_asm); (case k5 => k_asm); (case k6 => first | exact rfl | assumption); (case k7 => ktr_room); (case k8 => ktr_units)
    rintro r6 X6 h6 tk6 F6 N6 ⟨e6, er6⟩
    subst e6; subst er6
    k_steps
    refine' use_spec (law_stands_c prog w lk la A5 rows _ _ _ φ gm st.f.lt st.f.rl (Nat.le_trans st.ll (by decide)) (fun k _ => ag_sum st.ag k _) (fun k _ M H hM hH => ag_hi st.ag hM hH)) ?k1 ?k2 ?k3 ?k4 ?k5 ?k6 ?k7 ?k8 ?_
    (case k1 => k_asm); (case k2 => k_asm); (case k3 => k_asm); (case k4 => k_asm); (case k5 => k_asm); (case k6 => first | exact rfl | assumption); (case k7 => ktr_room); (case k8 => ktr_units)
    rintro r7 X7 h7 tk7 F7 N7 ⟨e7, er7⟩
    subst e7; subst er7
    k_steps
    subst hq
    (try dsimp only)
    k_steps
    exact hret _ _ _ _ _ (by k_asm) (by k_asm) (by k_asm) (by k_asm) (by k_asm) (by k_asm) (by k_asm) ⟨rfl, hz5⟩
  case turn =>
    rintro i I g m X5 h5 tk5 t5 E' hlt ⟨la, ma, A5, rows, mrows, φ, gm, o1, o2, v1, v2, st⟩ hni F5 N5
    have hT5 := st.T
    have hB5 := st.B
    have hK5 := st.K
    have hP5 := st.P
    have hD5 := st.D
    replace F5 := fr_names F5 (congrArg (fun m' => fun y => if y = Str.ofString "turn" then some (Value.int i t5) else m' y) (names5 st.m1 st.m2 st.m3 st.m4 st.m5))
    clear F4 N4 hR
    have fx5 := (st.f.mono (X' := (I, ritObj 14 (i + 1)) :: X5) (fun q hq => .tail _ hq)).more (.head _) (odd_rit 14 (i + 1))
    obtain ⟨dx5, lv5, sl5, tm5, t51, t52, t53, n5, N6⟩ := fx5.heads N5
    have fx6 := fx5.mono (fun q hq => .tail (L' + 1 + 1, o1) (.tail (L' + 1, o2) (.tail (lk, instObj 232 dx5) (.tail (dx5, lkD w.params lv5 sl5 tm5 t51 t52 t53 n5) hq))))
    clear N5 fx5
    refine wpC_named fun q5 e5 hq5 he5 => ?_
    clear he5
    refine wpC_any ?_
    k_steps
    refine' use_spec (law_take_c2 prog w sr 12 _ _ fx6.src (by decide) (by decide)) ?k1 ?k2 ?k3 ?k4 ?k5 ?k6 ?k7 ?k8 ?_
    (case k1 => k_asm); (case k2 => k_asm); (case k3 => k_asm); (case k4 => k_asm); (case k5 => k_asm); (case k6 => first | exact rfl | assumption); (case k7 => ktr_room); (case k8 => ktr_units)
    rintro r7 X7 h7 tk7 F7 N7 ⟨d7, t7, er7, d70, d71, hs7, k7⟩
    subst er7
    have fx7 := fx6.take N6 hs7 k7
    clear fx6 N6
    k_steps
    (rename News _ _ _ _ => N8)
    have N8b : News _ _ _ X7 := news_sub N8 (fun q hq => List.Mem.tail _ hq)
    refine' use_spec (law_one_l prog w sr _ _ X7 fx7.src ?h2 ?h3 ?h4) ?k1 ?k2 ?k3 ?k4 ?k5 ?k6 ?k7 ?k8 ?_
    (case k1 => k_asm); (case k2 => k_asm); (case k3 => k_asm); (case k4 => k_asm); (case k5 => k_asm); (case k6 => first | exact rfl | assumption); (case k7 => ktr_room); (case k8 => ktr_units)
    (case h2 => assumption)
    (case h3 => simp)
    (case h4 => simp)
    rintro ov X8 h8 tk8 F8 N8 ⟨hr8, hs8, k8⟩
    have fx8 := fx7.take N8b hs8 k8
    clear fx7 N8b
    obtain ⟨ko, hko, hov⟩ := owner_of hr8
    k_steps
    (rename News _ _ _ _ => N9)
    have N9b : News _ _ _ X8 := news_sub N9 (fun q hq => List.Mem.tail _ hq)
    refine' use_spec (law_one_l prog w sr _ _ X8 fx8.src ?h2 ?h3 ?h4) ?k1 ?k2 ?k3 ?k4 ?k5 ?k6 ?k7 ?k8 ?_
    (case k1 => k_asm); (case k2 => k_asm); (case k3 => k_asm); (case k4 => k_asm); (case k5 => k_asm); (case k6 => first | exact rfl | assumption); (case k7 => ktr_room); (case k8 => ktr_units)
    (case h2 => assumption)
    (case h3 => simp)
    (case h4 => simp)
    rintro r9 X9 h9 tk9 F9 N9 ⟨hr9, hs9, k9⟩
    have fx9 := fx8.take N9b hs9 k9
    clear fx8 N9b
    obtain ⟨nm, hnm, tn, er9⟩ := file_of hr9
    subst er9
    k_steps
    (rename News _ _ _ _ => N10)
    have N10b : News _ _ _ X9 := news_sub N10 (fun q hq => List.Mem.tail _ hq)
    k_dflt (refine L_cell (c := L' + 1) (o := o2) (by k_asm) N10b (by rfl) (fx9.z _ (.tail _ (.tail _ (.head _)))) st.d2 ?_)
    intro h11 o11 F11 N11 d11
    have fx11 := fx9.set2 N10b st.n2 (neN (by omega)) st.n5 st.d2 d11
    clear fx9 N10b N10
    k_steps
    k_dflt (refine L_cell (c := L' + 1 + 1) (o := o1) (by k_asm) N11 (by rfl) (fx11.z _ (.tail _ (.head _))) st.d1 ?_)
    intro h12 o12 F12 N12 d12
    have fx12 := fx11.set1 N11 st.n1 (neN (by omega)) st.n4 st.d1 d12
    generalize upd (upd X9 (L' + 1) o11) (L' + 1 + 1) o12 = X12 at N12 fx12
    clear fx11 N11
    k_steps
    refine' use_spec (law_take_c2 prog w sr 5 _ _ fx12.src (by decide) (by decide)) ?k1 ?k2 ?k3 ?k4 ?k5 ?k6 ?k7 ?k8 ?_
    (case k1 => k_asm); (case k2 => k_asm); (case k3 => k_asm); (case k4 => k_asm); (case k5 => k_asm); (case k6 => first | exact rfl | assumption); (case k7 => ktr_room); (case k8 => ktr_units)
    rintro r13 X13 h13 tk13 F13 N13 ⟨lev, tl, er13, lev0, lev5, hs13, k13⟩
    subst er13
    have fx13 := fx12.take N12 hs13 k13
    clear fx12 N12
    k_steps
    (rename News _ _ _ _ => N14)
    obtain ⟨dx, lv, sl, tm, t1', t2', t3', n', N15⟩ := fx13.heads N14
    have fx15 := fx13.mono (fun q hq => .tail (L' + 1 + 1, o12) (.tail (L' + 1, o11) (.tail (lk, instObj 232 dx) (.tail (dx, lkD w.params lv sl tm t1' t2' t3' n') hq))))
    clear fx13 N14
    refine wpAny_execs_cons (wpAny_mono (Q := fun f s' => f = .next ∧ TurnEnd s L' I 14 (i + 1) (fun i I g m X => ∃ la ma A rows mrows φ gm o1 o2 nm tn v2, nm ∈ NM ∧ TurnSt prog w base (ktrTop dp un (some []) cn cs L a ccd [] outer) (envX cn cs L a ccd [] :: outer) p loose mean mg mb g' zx sr pg pd lk (L' + 1 + 1) (L' + 1) la ma A rows mrows φ gm o1 o2 (some (.str nm tn)) v2 i I g m X) s') (E := e5) ?br ?tl (fun _ _ x => x))
    case tl =>
      rintro f s' ⟨rfl, g8, m8, X8, h8, tk8, rfl, F8, N8, hI8, la, ma, A8, rows, mrows, φ, gm, o1, o2, nm, tn, v2, hnm, st8⟩
      clear hT5 hB5 hK5 hP5 hD5 fx15 N15
      (try clear F13)
      (try clear F5)
      (try clear st)
      have hT8 := st8.T
      have hB8 := st8.B
      have hK8 := st8.K
      have hP8 := st8.P
      have hD8 := st8.D
      replace F8 := fr_names F8 (names5 st8.m1 st8.m2 st8.m3 st8.m4 st8.m5)
      have fx8 := st8.f.more hI8 (odd_rit 14 (i + 1))
      have hc8 := st8.d1
      obtain ⟨dx8, lv8, sl8, tm8, t81, t82, t83, n8, N9⟩ := fx8.heads N8
      have fx9 := fx8.mono (fun q hq => .tail (L' + 1 + 1, o1) (.tail (L' + 1, o2) (.tail (lk, instObj 232 dx8) (.tail (dx8, lkD w.params lv8 sl8 tm8 t81 t82 t83 n8) hq))))
      clear N8 fx8
      dsimp only
      refine wpAny_execs_cons (wpAny_If ?_)
      k_steps
      refine' use_spec (law_stands_c prog w lk la A8 rows nm tn _ φ gm fx9.lt fx9.rl (Nat.le_trans st8.ll (by omega)) (fun k _ => ag_sum st8.ag k _) (fun k _ M H hM hH => ag_hi st8.ag hM hH)) ?k1 ?k2 ?k3 ?k4 ?k5 ?k6 ?k7 ?k8 ?_
      (case k1 => k_asm); (case k2 => k_asm); (case k3 => k_asm); (case k4 => k_asm); (case k5 => k_asm); (case k6 => first | exact rfl | assumption); (case k7 => ktr_room); (case k8 => ktr_units)
      rintro r6 X6 h6 tk6 F6 N6 ⟨e6, er6⟩
      subst e6; subst er6
      k_steps
      refine' use_spec (law_least_right_c prog w pg lk ma A8 mrows _ φ gm fx9.lt fx9.pgd.toIn fx9.rm (Nat.le_trans st8.lm (by omega)) (fun k v => st8.mag _ k v)) ?k1 ?k2 ?k3 ?k4 ?k5 ?k6 ?k7 ?k8 ?_
      (case k1 => k_asm); (case k2 => k_asm); (case k3 => k_asm); (case k4 => k_asm); (case k5 => k_asm); (case k6 => first | exact rfl | assumption); (case k7 => ktr_room); (case k8 => ktr_units)
      rintro r7 X7 h7 tk7 F7 N7 ⟨e7, er7⟩
      subst e7; subst er7
      k_steps
      dsimp only
      subst hq5
      (try dsimp only)
      exact ⟨g8, _, _, _, _, rfl, F7, N7, fx9.z _ (.head _), la, ma, A8, rows, mrows, φ, gm, o1, o2, _, _, { st8 with f := fx9.less fun z hz => .tail _ hz, m1 := rfl, m2 := rfl, m3 := rfl, m4 := rfl, m5 := rfl }⟩
    case br =>
      refine wpAny_named fun qb eb hqb heb => ?_
      clear heb
      refine wpAny_If ?_
      k_steps
      · obtain ⟨H, hH⟩ := isHi_exists st.ag ko nm
        refine' use_specT (law_asked_c prog w lk la A5 rows ko ov nm tn lev tl _ φ gm H fx15.lt hov hnm hko (ok2_nz st.ok) hH st.ok st.ag fx15.rl (Nat.le_trans st.ll (by omega)) lev0 (by omega)) ?q1 ?q2 ?q3 ?q4 ?q5 ?q6 ?q7 ?q8 ?q9 ?q10 ?q11 ?_
        (case q2 => k_asm); (case q4 => k_asm); (case q1 => k_asm); (case q3 => k_asm); (case q5 => k_asm); (case q6 => assumption); (case q7 => assumption); (case q8 => assumption); (case q9 => first | exact rfl | assumption); (case q10 => ktr_room); (case q11 => ktr_units)
        rintro r16 X16 h16 tk16 g16 D16 F16 N16 B16 K16 T16 KD16 ⟨ta, la16, A16, nt16, er16, htup, HR16, HL16, HK16⟩
        subst er16
        have fx16 := (fx15.keep N15 HK16 HL16).newL HR16 (rows_ne_src N16 HR16 putR_ne (fx15.keep N15 HK16 HL16).src)
        have hT16 := hT5.trans D16
        replace N16 := news_sub N16 (fun q (hq : q ∈ (ta, _) :: X16) => (List.mem_cons.mp hq).elim (fun e => e ▸ htup) id)
        clear hT5 D16
        k_steps
        refine wpAny_execs_cons (wpAny_If ?_)
        k_steps
        (rename Fr _ _ _ _ => FE)
        (rename News _ _ _ _ => NE)
        have fxE := fx16.up1 NE
        subst hqb
        (try dsimp only)
        first | exact ⟨rfl, g16, _, _, _, _, rfl, FE, NE, fxE.z _ (.head _), la16, ma, A16, _, mrows, _, gm, o12, o11, nm, tn, some ov, hnm, { f := fxE.less fun z hz => .tail _ hz, m1 := rfl, m2 := rfl, m3 := rfl, m4 := rfl, m5 := rfl, d1 := d12, d2 := d11, n1 := st.n1, n2 := st.n2, n3 := st.n3, n4 := st.n4, n5 := st.n5, ll := putR_len st.ll, lm := Nat.le_succ_of_le st.lm, ok := ok2_reach st.ok hH lev0 (by omega), ag := ag_put st.ag ko nm _, mag := st.mag, T := hT16, B := B16, K := K16, P := T16, D := KD16 }⟩ | exact ⟨g16, _, _, _, _, rfl, FE, NE, fxE.z _ (.head _), la16, ma, A16, _, mrows, _, gm, o12, o11, nm, tn, some ov, hnm, { f := fxE.less fun z hz => .tail _ hz, m1 := rfl, m2 := rfl, m3 := rfl, m4 := rfl, m5 := rfl, d1 := d12, d2 := d11, n1 := st.n1, n2 := st.n2, n3 := st.n3, n4 := st.n4, n5 := st.n5, ll := putR_len st.ll, lm := Nat.le_succ_of_le st.lm, ok := ok2_reach st.ok hH lev0 (by omega), ag := ag_put st.ag ko nm _, mag := st.mag, T := hT16, B := B16, K := K16, P := T16, D := KD16 }⟩
      · refine wpAny_execs_cons (wpAny_If ?_)
        k_steps
        · refine' use_spec (unlock_c prog w lk A5 ko ov nm tn lev tl _ φ gm fx15.lt hov hnm hko (ok2_nz st.ok)) ?k1 ?k2 ?k3 ?k4 ?k5 ?k6 ?k7 ?k8 ?_
          (case k1 => k_asm); (case k2 => k_asm); (case k3 => k_asm); (case k4 => k_asm); (case k5 => k_asm); (case k6 => first | exact rfl | assumption); (case k7 => ktr_room); (case k8 => ktr_units)
          rintro r16 X16 h16 tk16 F16 N16 ⟨er16, A16, HL16, HK16⟩
          subst er16
          rw [show (if lev < (φ nm ko).getD 0 then lev else (φ nm ko).getD 0) = min lev ((φ nm ko).getD 0) by split <;> omega] at HL16
          have fx16 := fx15.keep N15 HK16 HL16
          clear fx15 N15
          have co1 := fx16.z _ (.tail _ (.head _))
          have co2 := fx16.z _ (.tail _ (.tail _ (.head _)))
          replace N16 := news_sub N16 (two_sub co1 co2)
          k_steps
          refine' use_spec (law_level_c prog w la rows ko ov nm tn _ ?hr (Nat.le_trans st.ll (by omega)) hov) ?k1 ?k2 ?k3 ?k4 ?k5 ?k6 ?k7 ?k8 ?_
          (case k1 => k_asm); (case k2 => k_asm); (case k3 => k_asm); (case k4 => k_asm); (case k5 => k_asm); (case k6 => first | exact rfl | assumption); (case k7 => ktr_room); (case k8 => ktr_units)
          (case hr => exact fx16.rl.mono sub2)
          rintro r17 X17 h17 tk17 F17 N17 ⟨e17, t17, er17⟩
          subst e17; subst er17
          rw [ag_sum st.ag ko nm]
          k_steps
          refine' use_spec (law_put_c prog w la rows ko ov nm tn _ _ _ ?hr (Nat.le_trans st.ll (by omega)) hov) ?k1 ?k2 ?k3 ?k4 ?k5 ?k6 ?k7 ?k8 ?_
          (case k1 => k_asm); (case k2 => k_asm); (case k3 => k_asm); (case k4 => k_asm); (case k5 => k_asm); (case k6 => first | exact rfl | assumption); (case k7 => ktr_room); (case k8 => ktr_units)
          (case hr => exact fx16.rl.mono sub2)
          rintro r18 X18 h18 tk18 F18 N18 ⟨la18, er18, sub18, HR18⟩
          subst er18
          k_steps
          rw [show (if (φ nm ko).getD 0 < lev then (φ nm ko).getD 0 else lev) = min lev ((φ nm ko).getD 0) by split <;> omega] at HR18
          (rename Fr _ _ _ _ => FE)
          (rename News _ _ _ _ => NE)
          have fxE := (fx16.mono fun q hq => sub18 q (sub2 q hq)).newL HR18 (rows_ne_src NE HR18 putR_ne (fx16.mono fun q hq => sub18 q (sub2 q hq)).src)
          obtain ⟨H, hH⟩ := isHi_exists st.ag ko nm
          subst hqb
          (try dsimp only)
          first | exact ⟨rfl, g, _, _, _, _, rfl, FE, NE, fxE.z _ (.head _), la18, ma, A16, _, mrows, _, gm, o12, o11, nm, tn, some ov, hnm, { f := fxE.less fun z hz => .tail _ hz, m1 := rfl, m2 := rfl, m3 := rfl, m4 := rfl, m5 := rfl, d1 := d12, d2 := d11, n1 := st.n1, n2 := st.n2, n3 := st.n3, n4 := st.n4, n5 := st.n5, ll := putR_len st.ll, lm := Nat.le_succ_of_le st.lm, ok := ok2_down st.ok hH lev0, ag := ag_put st.ag ko nm _, mag := st.mag, T := hT5, B := hB5, K := hK5, P := hP5, D := hD5 }⟩ | exact ⟨g, _, _, _, _, rfl, FE, NE, fxE.z _ (.head _), la18, ma, A16, _, mrows, _, gm, o12, o11, nm, tn, some ov, hnm, { f := fxE.less fun z hz => .tail _ hz, m1 := rfl, m2 := rfl, m3 := rfl, m4 := rfl, m5 := rfl, d1 := d12, d2 := d11, n1 := st.n1, n2 := st.n2, n3 := st.n3, n4 := st.n4, n5 := st.n5, ll := putR_len st.ll, lm := Nat.le_succ_of_le st.lm, ok := ok2_down st.ok hH lev0, ag := ag_put st.ag ko nm _, mag := st.mag, T := hT5, B := hB5, K := hK5, P := hP5, D := hD5 }⟩
        · refine wpAny_execs_cons (wpAny_If ?_) --B3
          k_steps
          · refine' use_spec (law_take_c2 prog w sr 40 _ _ fx15.src (by decide) (by decide)) ?k1 ?k2 ?k3 ?k4 ?k5 ?k6 ?k7 ?k8 ?_
            (case k1 => k_asm); (case k2 => k_asm); (case k3 => k_asm); (case k4 => k_asm); (case k5 => k_asm); (case k6 => first | exact rfl | assumption); (case k7 => ktr_room); (case k8 => ktr_units)
            rintro r16 X16 h16 tk16 F16 N16 ⟨dm, tm16, er16, dm0, dm1, hs16, k16⟩
            subst er16
            have fx16 := fx15.take N15 hs16 k16
            clear fx15 N15
            k_steps
            (rename News _ _ _ _ => N17)
            have N17b : News _ _ _ X16 := news_sub N17 (fun q hq => List.Mem.tail _ hq)
            refine' use_spec (law_one_l prog w sr _ _ X16 fx16.src ?h2 ?h3 ?h4) ?k1 ?k2 ?k3 ?k4 ?k5 ?k6 ?k7 ?k8 ?_
            (case k1 => k_asm); (case k2 => k_asm); (case k3 => k_asm); (case k4 => k_asm); (case k5 => k_asm); (case k6 => first | exact rfl | assumption); (case k7 => ktr_room); (case k8 => ktr_units)
            (case h2 => assumption)
            (case h3 => simp)
            (case h4 => simp)
            rintro mk X17 h17 tk17 F17 N17 ⟨hr17, hs17, k17⟩
            have fx17 := fx16.take N17b hs17 k17
            clear fx16 N17b
            obtain ⟨u, hu⟩ := markIs_of (mark_of hr17)
            obtain ⟨dx, lv, sl, tm, t1', t2', t3', n', N18⟩ := fx17.heads N17
            have fx18 := fx17.mono (fun q hq => .tail (L' + 1 + 1, o12) (.tail (L' + 1, o11) (.tail (lk, instObj 232 dx) (.tail (dx, lkD w.params lv sl tm t1' t2' t3' n') hq))))
            clear fx17 N17
            k_steps
            (rename News _ _ _ _ => N18)
            refine' use_spec (set_mark_c prog w lk A5 ko ov nm tn mk u _ φ gm hu fx18.lt hov hnm hko) ?k1 ?k2 ?k3 ?k4 ?k5 ?k6 ?k7 ?k8 ?_
            (case k1 => k_asm); (case k2 => k_asm); (case k3 => k_asm); (case k4 => k_asm); (case k5 => k_asm); (case k6 => first | exact rfl | assumption); (case k7 => ktr_room); (case k8 => ktr_units)
            rintro r19 X19 h19 tk19 F19 N19 ⟨er19, A19, HL19, HK19⟩
            subst er19
            have fx19 := fx18.keep N18 HK19 HL19
            clear fx18 N18
            replace N19 := news_sub N19 (two_sub (fx19.z _ (.tail _ (.head _))) (fx19.z _ (.tail _ (.tail _ (.head _)))))
            k_steps
            obtain ⟨its, k0, hla, hits⟩ := fx19.rm
            k_dflt (refine Assign_ListComp_G (_F₀ := by k_asm) (by rfl) (by with_unfolding_all rfl) (by with_unfolding_all rfl) (by decide) (by rfl) (by decide) (by rfl) (by rfl) ?_)
            k_steps
            refine ⟨ma, its, k0, _, fun i ys => RowsAre X19 ys ((mrows.take i).filter fun r => decide (¬ (r.1 = ko ∧ r.2.1 = nm))), fun i m₂ => ∃ r t ot ov2 tn2 tk2 nt2, mrows[i]? = some r ∧ r.1.is ov2 = true ∧ (t, ot) ∈ X19 ∧ ot.cls = .type "tuple" ∧ ot.data = .seq #[ov2, .str r.2.1 tn2, .int r.2.2 tk2] nt2 ∧ m₂ (Str.ofString "row") = some (.ref t), rfl, rfl, by k_asm, by k_asm, (by simp only [List.mem_cons, hla, or_true]), ?_, .nil, ?_, ?_, ?_⟩
            · rw [hits.length]; exact Nat.le_trans st.lm (by have := sizeLine_eq; omega)
            · intro i v I C hv
              obtain ⟨r, hr, t, ot, ov2, tn2, tk2, nt, rfl, hm, hc, hd2, ho2⟩ := hits.get hv
              intro s9 m9 l9 i9 Q9 E9 hns hit hk9 hQ9
              exact bind_name (by decide) (by rfl) s9 m9 l9 i9 Q9 E9 hns hit hk9 fun h' tk m₂ a b c => hQ9 h' tk m₂ a b ⟨r, t, ot, ov2, tn2, tk2, nt, hr, ho2, hm, hc, hd2, c⟩
            · rintro i v ys I oI C oC D m₂ h9 tk9 E' hv hJ hoC ⟨r, t, ot, ov2, tn2, tk2, nt2, hr, ho2, hm, hc, hd2, hm1⟩ F9 N9
              have hstep : (mrows.take (i + 1)) = mrows.take i ++ [r] := by rw [List.take_add_one, hr]; rfl
              k_steps
              refine L_to2 (by k_asm) (by k_asm) ⟨ot, (N9 _ (show (t, ot) ∈ _ by simp only [List.mem_cons, hm, or_true])).1, hc, _, hd2⟩ ?_
              intro d10 h10 F10 N10 hlt10
              k_steps
              (rename News _ _ _ _ => N11)
              refine cmpNe_tup2 (⟨_, (N11 _ (.tail _ (.head _))).1, rfl, _, rfl⟩) (⟨_, (N11 _ (.head _)).1, rfl, _, rfl⟩) ho2 hov (by ktr_units) ?_
              by_cases hcc : r.1 = ko ∧ r.2.1 = nm
              · rw [decide_eq_true hcc]
                k_steps
                unfold GTest
                rw [if_neg (by decide)]
                refine ⟨_, _, rfl, by k_asm, news_sub (by k_asm) (fun p hp => .tail _ (.tail _ hp)), ?_⟩
                show RowsAre _ _ _
                rw [hstep, List.filter_append]
                simp only [List.filter_cons, List.filter_nil, decide_eq_false (show ¬¬(r.1 = ko ∧ r.2.1 = nm) from fun q => q hcc), Bool.false_eq_true, if_false, List.append_nil]
                exact hJ
              · rw [decide_eq_false hcc]
                k_steps
                unfold GTest
                rw [if_pos (by decide)]
                k_steps
                refine ⟨_, _, rfl, by k_asm, news_sub (by k_asm) (fun p hp => .tail _ (.tail _ hp)), ?_⟩
                show RowsAre _ _ _
                rw [hstep, List.filter_append]
                simp only [List.filter_cons, List.filter_nil, decide_eq_true (show ¬(r.1 = ko ∧ r.2.1 = nm) from hcc), if_true]
                exact hJ.snoc ⟨t, ot, ov2, tn2, tk2, nt2, rfl, hm, hc, hd2, ho2⟩
            · intro D h9 tk9 ys hJ F9 N9 hlt9
              rw [hits.length, List.take_length] at hJ
              have hDs : D ≠ sr := by
                obtain ⟨a, b, t1, t2, n, hs⟩ := fx19.src
                have z : @LT.lt Nat _ sr D := hlt9 _ (.tail _ (.tail _ hs))
                exact neN (by omega)
              have hlen2 : ((mrows.filter fun r => decide (¬ (r.1 = ko ∧ r.2.1 = nm)))).length ≤ mrows.length := List.length_filter_le _ _
              have fxM := fx19.mono fun q hq => List.Mem.tail (D, lst ys) (.tail (L' + 1 + 1, o12) (.tail (L' + 1, o11) hq))
              rcases hu with ⟨rfl, rfl⟩ | ⟨v, tv, rfl, rfl⟩
              · k_steps
                (rename Fr _ _ _ _ => FE)
                (rename News _ _ _ _ => NE)
                have fxE := fxM.newM ⟨ys, _, .head _, hJ.mono fun q hq => .tail _ (.tail _ (.tail _ hq))⟩ hDs
                subst hqb
                (try dsimp only)
                first | exact ⟨rfl, g, _, _, _, _, rfl, FE, NE, fxE.z _ (.head _), la, D, A19, rows, _, φ, _, o12, o11, nm, tn, some ov, hnm, { f := fxE.less fun z hz => .tail _ hz, m1 := rfl, m2 := rfl, m3 := rfl, m4 := rfl, m5 := rfl, d1 := d12, d2 := d11, n1 := st.n1, n2 := st.n2, n3 := st.n3, n4 := st.n4, n5 := st.n5, ll := Nat.le_succ_of_le st.ll, lm := Nat.le_trans hlen2 (Nat.le_succ_of_le st.lm), ok := st.ok, ag := st.ag, mag := mag_none st.mag ko nm, T := hT5, B := hB5, K := hK5, P := hP5, D := hD5 }⟩ | exact ⟨g, _, _, _, _, rfl, FE, NE, fxE.z _ (.head _), la, D, A19, rows, _, φ, _, o12, o11, nm, tn, some ov, hnm, { f := fxE.less fun z hz => .tail _ hz, m1 := rfl, m2 := rfl, m3 := rfl, m4 := rfl, m5 := rfl, d1 := d12, d2 := d11, n1 := st.n1, n2 := st.n2, n3 := st.n3, n4 := st.n4, n5 := st.n5, ll := Nat.le_succ_of_le st.ll, lm := Nat.le_trans hlen2 (Nat.le_succ_of_le st.lm), ok := st.ok, ag := st.ag, mag := mag_none st.mag ko nm, T := hT5, B := hB5, K := hK5, P := hP5, D := hD5 }⟩
              · k_steps
                (rename News _ _ _ _ => N11)
                have hlen3 : ys.length ≤ 100 := by
                  have e1 := hJ.length
                  have e2 := st.lm
                  omega
                refine add_lists (vs := ys) (ws := [_]) (by k_asm) N11 ⟨_, (N11 _ (.tail _ (.tail _ (.head _)))).1, rfl, _, rfl⟩ ⟨_, (N11 _ (.head _)).1, rfl, _, rfl⟩ ?_ (by rw [List.length_singleton]; exact Nat.le_trans (Nat.add_le_add_right hlen3 1) (by decide))
                intro h12 F12 N12
                have HR : RowsIn _ _ (putR mrows ko nm v) := rows_app (k := ko) N12 hJ hov
                k_steps
                (rename Fr _ _ _ _ => FE)
                (rename News _ _ _ _ => NE)
                have fxN := fxM.up3 NE
                have fxE := fxN.newM HR (rows_ne_src NE HR putR_ne fxN.src)
                subst hqb
                (try dsimp only)
                first | exact ⟨rfl, g, _, _, _, _, rfl, FE, NE, fxE.z _ (.head _), la, _, A19, rows, _, φ, _, o12, o11, nm, tn, some ov, hnm, { f := fxE.less fun z hz => .tail _ hz, m1 := rfl, m2 := rfl, m3 := rfl, m4 := rfl, m5 := rfl, d1 := d12, d2 := d11, n1 := st.n1, n2 := st.n2, n3 := st.n3, n4 := st.n4, n5 := st.n5, ll := Nat.le_succ_of_le st.ll, lm := putR_len st.lm, ok := st.ok, ag := st.ag, mag := mag_int st.mag ko nm v, T := hT5, B := hB5, K := hK5, P := hP5, D := hD5 }⟩ | exact ⟨g, _, _, _, _, rfl, FE, NE, fxE.z _ (.head _), la, _, A19, rows, _, φ, _, o12, o11, nm, tn, some ov, hnm, { f := fxE.less fun z hz => .tail _ hz, m1 := rfl, m2 := rfl, m3 := rfl, m4 := rfl, m5 := rfl, d1 := d12, d2 := d11, n1 := st.n1, n2 := st.n2, n3 := st.n3, n4 := st.n4, n5 := st.n5, ll := Nat.le_succ_of_le st.ll, lm := putR_len st.lm, ok := st.ok, ag := st.ag, mag := mag_int st.mag ko nm v, T := hT5, B := hB5, K := hK5, P := hP5, D := hD5 }⟩
          · --B4
            refine' use_spec (drop_c prog w lk A5 ko ov _ φ gm fx15.lt hov) ?k1 ?k2 ?k3 ?k4 ?k5 ?k6 ?k7 ?k8 ?_
            (case k1 => k_asm); (case k2 => k_asm); (case k3 => k_asm); (case k4 => k_asm); (case k5 => k_asm); (case k6 => first | exact rfl | assumption); (case k7 => ktr_room); (case k8 => ktr_units)
            rintro r16 X16 h16 tk16 F16 N16 ⟨er16, A16, HL16, HK16⟩
            subst er16
            have fx16 := fx15.keep N15 HK16 HL16
            clear fx15 N15
            replace N16 := news_sub N16 (two_sub (fx16.z _ (.tail _ (.head _))) (fx16.z _ (.tail _ (.tail _ (.head _)))))
            k_steps
            obtain ⟨its1, k01, hla1, hits1⟩ := fx16.rl
            k_dflt (refine ListComp_G (_F₀ := by k_asm) (by with_unfolding_all rfl) (by decide) (by rfl) (by decide) ?_)
            k_steps
            refine ⟨la, its1, k01, _, fun i ys => RowsAre X16 ys ((rows.take i).filter fun r => decide (r.1 ≠ ko)), fun i m₂ => ∃ r t ot ov2 tn2 tk2 nt2, rows[i]? = some r ∧ r.1.is ov2 = true ∧ (t, ot) ∈ X16 ∧ ot.cls = .type "tuple" ∧ ot.data = .seq #[ov2, .str r.2.1 tn2, .int r.2.2 tk2] nt2 ∧ m₂ (Str.ofString "row") = some (.ref t), rfl, rfl, by k_asm, by k_asm, (by simp only [List.mem_cons, hla1, or_true]), ?_, .nil, ?_, ?_, ?_⟩
            · rw [hits1.length]; exact Nat.le_trans st.ll (by have := sizeLine_eq; omega)
            · intro i v I C hv
              obtain ⟨r, hr, t, ot, ov2, tn2, tk2, nt, rfl, hm, hc, hd2, ho2⟩ := hits1.get hv
              intro s9 m9 l9 i9 Q9 E9 hns hit hk9 hQ9
              exact bind_name (by decide) (by rfl) s9 m9 l9 i9 Q9 E9 hns hit hk9 fun h' tk m₂ a b c => hQ9 h' tk m₂ a b ⟨r, t, ot, ov2, tn2, tk2, nt, hr, ho2, hm, hc, hd2, c⟩
            · rintro i v ys I oI C oC D m₂ h9 tk9 E' hv hJ hoC ⟨r, t, ot, ov2, tn2, tk2, nt2, hr, ho2, hm, hc, hd2, hm1⟩ F9 N9
              have hstep : (rows.take (i + 1)) = rows.take i ++ [r] := by rw [List.take_add_one, hr]; rfl
              k_steps
              refine L_tupat (its := #[ov2, .str r.2.1 tn2, .int r.2.2 tk2]) (v := ov2) ⟨ot, (N9 _ (show (t, ot) ∈ _ by simp only [List.mem_cons, hm, or_true])).1, hc, _, hd2⟩ (by decide) (by decide) rfl ?_
              k_steps
              refine cmpNe_mk ho2 hov ?_
              by_cases hcc : r.1 = ko
              · rw [decide_eq_true hcc]
                k_steps
                unfold GTest
                rw [if_neg (by decide)]
                refine ⟨_, _, rfl, by k_asm, by k_asm, ?_⟩
                show RowsAre _ _ _
                rw [hstep, List.filter_append]
                simp only [List.filter_cons, List.filter_nil, decide_eq_false (show ¬ (r.1 ≠ ko) from fun q => q hcc), Bool.false_eq_true, if_false, List.append_nil]
                exact hJ
              · rw [decide_eq_false hcc]
                k_steps
                unfold GTest
                rw [if_pos (by decide)]
                k_steps
                refine ⟨_, _, rfl, by k_asm, by k_asm, ?_⟩
                show RowsAre _ _ _
                rw [hstep, List.filter_append]
                simp only [List.filter_cons, List.filter_nil, decide_eq_true (show r.1 ≠ ko from hcc), if_true]
                exact hJ.snoc ⟨t, ot, ov2, tn2, tk2, nt2, rfl, hm, hc, hd2, ho2⟩
            intro D1 h91 tk91 ys1 hJ1 F91 N91 hlt91
            rw [hits1.length, List.take_length] at hJ1
            have hs16 := fx16.src
            have hD1 : D1 ≠ sr := by
              obtain ⟨a, b, t1, t2, n, hs⟩ := hs16
              have z : @LT.lt Nat _ sr D1 := hlt91 _ (.tail _ (.tail _ hs))
              exact neN (by omega)
            k_steps
            obtain ⟨its2, k02, hla2, hits2⟩ := fx16.rm
            k_dflt (refine ListComp_G (_F₀ := by k_asm) (by with_unfolding_all rfl) (by decide) (by rfl) (by decide) ?_)
            k_steps
            refine ⟨ma, its2, k02, _, fun i ys => RowsAre X16 ys ((mrows.take i).filter fun r => decide (r.1 ≠ ko)), fun i m₂ => ∃ r t ot ov2 tn2 tk2 nt2, mrows[i]? = some r ∧ r.1.is ov2 = true ∧ (t, ot) ∈ X16 ∧ ot.cls = .type "tuple" ∧ ot.data = .seq #[ov2, .str r.2.1 tn2, .int r.2.2 tk2] nt2 ∧ m₂ (Str.ofString "row") = some (.ref t), rfl, rfl, by k_asm, by k_asm, (by simp only [List.mem_cons, hla2, or_true]), ?_, .nil, ?_, ?_, ?_⟩
            · rw [hits2.length]; exact Nat.le_trans st.lm (by have := sizeLine_eq; omega)
            · intro i v I C hv
              obtain ⟨r, hr, t, ot, ov2, tn2, tk2, nt, rfl, hm, hc, hd2, ho2⟩ := hits2.get hv
              intro s9 m9 l9 i9 Q9 E9 hns hit hk9 hQ9
              exact bind_name (by decide) (by rfl) s9 m9 l9 i9 Q9 E9 hns hit hk9 fun h' tk m₂ a b c => hQ9 h' tk m₂ a b ⟨r, t, ot, ov2, tn2, tk2, nt, hr, ho2, hm, hc, hd2, c⟩
            · rintro i v ys I oI C oC D m₂ h9 tk9 E' hv hJ hoC ⟨r, t, ot, ov2, tn2, tk2, nt2, hr, ho2, hm, hc, hd2, hm1⟩ F9 N9
              have hstep : (mrows.take (i + 1)) = mrows.take i ++ [r] := by rw [List.take_add_one, hr]; rfl
              k_steps
              refine L_tupat (its := #[ov2, .str r.2.1 tn2, .int r.2.2 tk2]) (v := ov2) ⟨ot, (N9 _ (show (t, ot) ∈ _ by simp only [List.mem_cons, hm, or_true])).1, hc, _, hd2⟩ (by decide) (by decide) rfl ?_
              k_steps
              refine cmpNe_mk ho2 hov ?_
              by_cases hcc : r.1 = ko
              · rw [decide_eq_true hcc]
                k_steps
                unfold GTest
                rw [if_neg (by decide)]
                refine ⟨_, _, rfl, by k_asm, by k_asm, ?_⟩
                show RowsAre _ _ _
                rw [hstep, List.filter_append]
                simp only [List.filter_cons, List.filter_nil, decide_eq_false (show ¬ (r.1 ≠ ko) from fun q => q hcc), Bool.false_eq_true, if_false, List.append_nil]
                exact hJ
              · rw [decide_eq_false hcc]
                k_steps
                unfold GTest
                rw [if_pos (by decide)]
                k_steps
                refine ⟨_, _, rfl, by k_asm, by k_asm, ?_⟩
                show RowsAre _ _ _
                rw [hstep, List.filter_append]
                simp only [List.filter_cons, List.filter_nil, decide_eq_true (show r.1 ≠ ko from hcc), if_true]
                exact hJ.snoc ⟨t, ot, ov2, tn2, tk2, nt2, rfl, hm, hc, hd2, ho2⟩
            intro D2 h92 tk92 ys2 hJ2 F92 N92 hlt92
            rw [hits2.length, List.take_length] at hJ2
            have hD2 : D2 ≠ sr := by
              obtain ⟨a, b, t1, t2, n, hs⟩ := hs16
              have z : @LT.lt Nat _ sr D2 := hlt92 _ (.tail _ (.tail _ (.tail _ hs)))
              exact neN (by omega)
            k_steps
            (rename Fr _ _ _ _ => FE)
            (rename News _ _ _ _ => NE)
            have up := fun q (hq : q ∈ X16) => up5n NE hq
            have fxE := ((fx16.up5 NE).newL (la' := D1) ⟨ys1, _, .tail _ (.tail _ (.head _)), hJ1.mono up⟩ hD1).newM (ma' := D2) ⟨ys2, _, .tail _ (.head _), hJ2.mono up⟩ hD2
            subst hqb
            (try dsimp only)
            first | exact ⟨rfl, g, _, _, _, _, rfl, FE, NE, fxE.z _ (.head _), D1, D2, A16, _, _, _, _, o12, o11, nm, tn, some ov, hnm, { f := fxE.less fun z hz => .tail _ hz, m1 := rfl, m2 := rfl, m3 := rfl, m4 := rfl, m5 := rfl, d1 := d12, d2 := d11, n1 := st.n1, n2 := st.n2, n3 := st.n3, n4 := st.n4, n5 := st.n5, ll := Nat.le_trans (List.length_filter_le _ _) (Nat.le_succ_of_le st.ll), lm := Nat.le_trans (List.length_filter_le _ _) (Nat.le_succ_of_le st.lm), ok := ok2_drop st.ok ko, ag := ag_drop st.ag ko, mag := mag_drop st.mag ko, T := hT5, B := hB5, K := hK5, P := hP5, D := hD5 }⟩ | exact ⟨g, _, _, _, _, rfl, FE, NE, fxE.z _ (.head _), D1, D2, A16, _, _, _, _, o12, o11, nm, tn, some ov, hnm, { f := fxE.less fun z hz => .tail _ hz, m1 := rfl, m2 := rfl, m3 := rfl, m4 := rfl, m5 := rfl, d1 := d12, d2 := d11, n1 := st.n1, n2 := st.n2, n3 := st.n3, n4 := st.n4, n5 := st.n5, ll := Nat.le_trans (List.length_filter_le _ _) (Nat.le_succ_of_le st.ll), lm := Nat.le_trans (List.length_filter_le _ _) (Nat.le_succ_of_le st.lm), ok := ok2_drop st.ok ko, ag := ag_drop st.ag ko, mag := mag_drop st.mag ko, T := hT5, B := hB5, K := hK5, P := hP5, D := hD5 }⟩

end

/-! part T44 -/
section
open PySem PySem.W PyProof.Rows PySem.Spec PySem.Calls
section
variable {prog : Program} {w : World} {D : Nat} {f : Addr} {vs : List Value} {X : List (Addr × Obj)} {R : Value → List (Addr × Obj) → Prop} {p : Program} {loose : List Str} {mean : ExcName → Option Value} {mg mb : Str → Option Value}
  {dp un : Nat} {cn : Str} {cs : Scope} {a : Addr} {ccd : Value} {outer : List Env} {A₀ : Around} {base h₀ : Heap} {L : Addr} {m : Str → Option Value} {s : Shared} {Q E : Value → Shared → Prop}
theorem use_specBT (C : SpecBT prog w D f vs X R) (B : Below A₀ base outer h₀) (F : Fr h₀ L s.heap m) (KX : (kk w.params).In h₀) (N : News h₀ L s.heap X) (T : Top p loose mean mg mb h₀) (XB : (kk w.params).In base) (TB : Top p loose mean mg mb base) (KD : KtsDicts (outer.filterMap (·.frame)) h₀) (hk : cs.kind = .function) (hd : dp + D < recursionLimit) (hu : un + 10 * D < cLine)
    (h : ∀ r X' h' tk' g₀, KtsTurn (outer.filterMap (·.frame)) h₀ g₀ → Fr g₀ L h' m → News g₀ L h' X' → Below A₀ base outer g₀ → (kk w.params).In g₀ → Top p loose mean mg mb g₀ → KtsDicts (outer.filterMap (·.frame)) g₀ → R r X' → Q r { s with heap := h', toks := tk' }) :
    wpC (model prog w) (ktrTop dp un (some []) cn cs L a ccd [] outer) (call (.ref f) vs) Q E s := C _ _ _ _ _ _ _ _ _ _ _ _ _ _ _ _ _ _ _ _ B F KX N T XB TB KD hk hd hu h
end
/-- the law's own first table: what x holds, then y -/
abbrev kx : MK := .ks (Str.ofString "x")
abbrev ky : MK := .ks (Str.ofString "y")
abbrev fa : Str := Str.ofString "a"
def f1 : Str → MK → Option Int := set2 (fun _ _ => none) fa kx (enc (lockTo (((fun _ _ => none : Str → MK → Option Int) fa kx).getD 0) 1 0))
def f2 : Str → MK → Option Int := set2 f1 fa ky (enc (lockTo ((f1 fa ky).getD 0) 4 1))
theorem no1 : lockNo (((fun _ _ => none : Str → MK → Option Int) fa kx).getD 0) 1 0 = false := by decide
theorem hi0 : IsHi (fun _ _ => none) fa kx 0 := ⟨by decide, (fun k' _ v e => by cases e), Or.inl rfl⟩
theorem f1_at (n : Str) (k : MK) : f1 n k = if n = fa ∧ k = kx then some 1 else none := rfl
theorem nz1 : NZ f1 := by
  intro n k
  rw [f1_at]
  split <;> simp
theorem hi1 : IsHi f1 fa ky 1 := by
  refine ⟨by decide, fun k' _ v e => ?_, Or.inr ⟨kx, by decide, rfl⟩⟩
  rw [f1_at] at e
  split at e
  · cases e; exact Int.le_refl _
  · cases e
theorem no2 : lockNo ((f1 fa ky).getD 0) 4 1 = true := by decide
theorem at2 : (f2 fa ky).getD 0 = 3 := by decide
set_option maxRecDepth 100000 in
set_option maxHeartbeats 8000000 in
theorem law_body_c : Of PySem.Challenge.rw_xm0775_01 kk (∀ (prog : Program) (w : World) (p : Program) (loose : List Str) (mean : ExcName → Option Value) (mg mb : Str → Option Value) (dp un : Nat) (a : Addr) (ccd : Value) (A₀ : Around) (base : Heap) (L : Addr) (s : Shared) (sc : Addr) (its : List Value) (Q : Flow → Shared → Prop) (E : Value → Shared → Prop),
    Below A₀ base [] base → Fr base L s.heap (fun y => if y = Str.ofString "script" then some (.ref sc) else none) → (kk w.params).In base → Top p loose mean mg mb base → dp + 60 < recursionLimit → un + 10 * 60 < cLine →
    base.IsList sc its.toArray → (∀ v ∈ its, ∃ c t, v = Value.int c t) → its.length ≤ 63 →
    (∀ h' tk', (∀ b o, base.get? b = some o → h'.get? b = some o) → Q (.ret (.bool true)) { s with heap := h', toks := tk' }) →
    wpC (model prog w) (ktrTop dp un (some []) (Str.ofString "law") fd1420.snd.snd L a ccd [] []) (execs fd1420.snd.fst (envX (Str.ofString "law") fd1420.snd.snd L a ccd [])) Q E s) := by
  k_fill
  unfold Of
  intro prog w p loose mean mg mb dp un a ccd A₀ base L s sc its Q E B F KX T hd hu hsc hits hlen hret
  have XB := KX
  have TB := T
  have KD : KtsDicts (([] : List Env).filterMap (·.frame)) base := ktsDicts_nil
  have N : News base L s.heap [] := fun q hq => by cases hq
  refine wpC_named fun qk ek hq he => ?_
  k_dflt (refine execsC_cons (wpC_any ?_))
  k_steps
  refine' use_spec (disk_new_c prog w _) ?k1 ?k2 ?k3 ?k4 ?k5 ?k6 ?k7 ?k8 ?_
  (case k1 => k_asm); (case k2 => k_asm); (case k3 => k_asm); (case k4 => k_asm); (case k5 => k_asm); (case k6 => first | exact rfl | assumption); (case k7 => ktr_room); (case k8 => ktr_units)
  intro r1 X1 h1 tk1 F1 N1 hmade
  obtain ⟨dk, dd, fd, sh, lk, a1, a2, a3, a4, a5, a6, a7, u1, u2, ofd, A, rfl, sub1, hdk, hdd, hfd, hofd, hlo, hne1, hne2, hLT, hfA, hdkA, hddA, hXA, hXfd⟩ := disk_made hmade
  replace N1 := news_sub N1 (two_sub hdk hdd)
  k_steps
  dsimp only
  k_dflt (refine execsC_cons (wpC_any ?_))
  k_steps
  refine' use_specT (law_lock_c prog w lk A kx _ fa _ 1 _ _ (fun _ _ => none) (fun _ _ => none) 0 ?hlt ?hov (by decide) (by decide) nz_none hi0) ?q1 ?q2 ?q3 ?q4 ?q5 ?q6 ?q7 ?q8 ?q9 ?q10 ?q11 ?_
  (case q2 => k_asm); (case q4 => k_asm); (case q1 => k_asm); (case q3 => k_asm); (case q5 => k_asm); (case q6 => assumption); (case q7 => assumption); (case q8 => assumption); (case q9 => first | exact rfl | assumption); (case q10 => ktr_room); (case q11 => ktr_units)
  case hlt => exact hLT.mono (fun q hq => by simp only [List.mem_cons, hq, or_true])
  case hov => simp [MK.is]
  rintro r2 X2 h2 tk2 g2 D2 F2 N2 B2 K2 T2 KD2 ⟨er2, A2, HL2, HK2⟩
  subst er2
  rw [no1]
  k_steps
  refine' use_specT (law_lock_c prog w lk A2 ky _ fa _ 4 _ _ f1 (fun _ _ => none) 1 ?hlt ?hov (by decide) (by decide) nz1 hi1) ?q1 ?q2 ?q3 ?q4 ?q5 ?q6 ?q7 ?q8 ?q9 ?q10 ?q11 ?_
  (case q2 => k_asm); (case q4 => k_asm); (case q1 => k_asm); (case q3 => k_asm); (case q5 => k_asm); (case q6 => assumption); (case q7 => assumption); (case q8 => assumption); (case q9 => first | exact rfl | assumption); (case q10 => ktr_room); (case q11 => ktr_units)
  case hlt => exact HL2
  case hov => simp [MK.is]
  rintro r3 X3 h3 tk3 g3 D3 F3 N3 B3 K3 T3 KD3 ⟨er3, A3, HL3, HK3⟩
  subst er3
  rw [no2]
  have HL3b : LT prog w X3 lk A3 f2 (fun _ _ => none) := HL3
  obtain ⟨dx, lv, sl, tm, S, M, t1, t2, t3, n, HH, hA⟩ := HL3
  replace N3 := news_sub N3 (two_sub HH.i HH.dd)
  k_steps
  refine' use_spec (level_of_c prog w lk A3 ky _ fa _ _ f2 _ (HL3b.mono sub2) ?hov) ?k1 ?k2 ?k3 ?k4 ?k5 ?k6 ?k7 ?k8 ?_
  (case k1 => k_asm); (case k2 => k_asm); (case k3 => k_asm); (case k4 => k_asm); (case k5 => k_asm); (case k6 => first | exact rfl | assumption); (case k7 => ktr_room); (case k8 => ktr_units)
  case hov => simp [MK.is]
  rintro r4 X4 h4 tk4 F4 N4 ⟨e4, t4, er4⟩
  subst e4; subst er4
  rw [at2]
  k_steps
  dsimp only
  have hsc3 : g3.IsList sc its.toArray := by
    obtain ⟨o, ho, x⟩ := hsc
    exact ⟨o, D3.other _ _ (D2.other _ _ ho (fun q => by cases q)) (fun q => by cases q), x⟩
  k_dflt (refine execsC_cons (execC_range (by rfl) (by rfl) ?_))
  k_steps
  (rename Fr _ _ _ _ => F5)
  have hsz : its.toArray.size = its.length := List.size_toArray
  obtain ⟨osc, hosc, hcsc, nsc, hdsc⟩ := hsc3
  refine call_len_list ⟨_, F5.keep _ _ hosc, hcsc, _, hdsc⟩ (by rw [hsz]; omega) ?_
  rw [hsz]
  k_steps
  (rename IsRange _ _ _ _ _ _ _ _ => hR)
  (rename Fr _ _ _ _ => F6)
  (rename News _ _ _ _ => N6)
  obtain ⟨nn, hnn, hbe⟩ : ∃ nn : Nat, (nn = 1 ∨ nn = 2) ∧ (if (if (its.length : Int) < 2 then (its.length : Int) else 2) > 1 then (if (its.length : Int) < 2 then (its.length : Int) else 2) else 1) = (nn : Int) := by
    by_cases hc : (its.length : Int) < 2
    · refine ⟨1, .inl rfl, ?_⟩
      simp only [if_pos hc]
      rw [if_neg (by omega)]
      rfl
    · refine ⟨2, .inr rfl, ?_⟩
      simp only [if_neg hc]
      decide
  rw [hbe] at hR
  have hlist : g3.IsList sc its.toArray := ⟨osc, hosc, hcsc, nsc, hdsc⟩
  refine ⟨_, (nn : Int), _, _, _, nn, g3, _, _, fun i I g m X => m (Str.ofString "script") = some (.ref sc) ∧ g.IsList sc its.toArray ∧ Below A₀ base [] g ∧ (kk w.params).In g ∧ Top p loose mean mg mb g, rfl, hR, (by rcases hnn with rfl | rfl <;> decide), (by rcases hnn with rfl | rfl <;> decide), rfl, F6, N6, ?j0, ?off, ?turn, ?done⟩
  case j0 => exact fun I hI => ⟨rfl, hlist, B3, K3, T3⟩
  case off => exact fun i I g m X h _ _ _ hj => hj
  case done =>
    rintro I g m X h tk ⟨m1, hl, hB, hK, hP⟩ FE NE
    clear F6 N6 hR
    dsimp only
    refine wpC_any ?_
    k_steps
    subst hq
    exact hret _ _ (fun b o e => FE.keep _ _ (hB.stays _ _ e))
  case turn =>
    rintro i I g m X h tk t E' hi ⟨m1, hl, hB, hK, hP⟩ hne FE NE
    clear F6 N6 hR
    have hm : m = fun y => if y = Str.ofString "script" then some (.ref sc) else m y := by
      funext y
      by_cases hy : y = Str.ofString "script"
      · rw [if_pos hy, hy, m1]
      · rw [if_neg hy]
    replace FE := fr_names FE (congrArg (fun m' => fun y => if y = Str.ofString "k" then some (Value.int i t) else m' y) hm)
    have hD0 : KtsDicts (([] : List Env).filterMap (·.frame)) g := ktsDicts_nil
    k_dflt (refine execsC_cons (execC_If (isTrueC_Not (isTrueC_value (evalC_Name_Call ?_)))))
    k_steps
    dsimp only
    refine callWithC_K (K := kk w.params) (by k_is) ?_
    k_steps
    refine' use_specG (law_pool_g prog w sc its i t _ hits (by omega) (by omega) (by omega)) hl ?k1 ?k2 ?k3 ?k4 ?k5 ?k6 ?k7 ?k8 ?_
    (case k1 => k_asm); (case k2 => k_asm); (case k3 => k_asm); (case k4 => k_asm); (case k5 => k_asm); (case k6 => first | exact rfl | assumption); (case k7 => ktr_room); (case k8 => ktr_units)
    rintro r7 X7 h7 tk7 F7 N7 ⟨sr, er7, hs7, sub7⟩
    subst er7
    k_steps
    (try dsimp only [List.nil_append, List.cons_append])
    refine' use_specBT (law_right_c prog w sr (I, ritObj nn (i + 1)) _ hs7 (sub7 _ (.head _)) (odd_rit _ _)) ?q1 ?q2 ?q3 ?q4 ?q5 ?q6 ?q7 ?q8 ?q9 ?q10 ?q11 ?_
    (case q2 => k_asm); (case q4 => k_asm); (case q1 => k_asm); (case q3 => k_asm); (case q5 => k_asm); (case q6 => assumption); (case q7 => assumption); (case q8 => assumption); (case q9 => first | exact rfl | assumption); (case q10 => ktr_room); (case q11 => ktr_units)
    rintro r8 X8 h8 tk8 g8 D8 F8 N8 B8 K8 T8 KD8 ⟨er8, hz8⟩
    subst er8
    k_steps
    refine wpC_any (wpAny_execs_nil ?_)
    dsimp only
    refine wpC_any (wpAny_execs_nil ?_)
    dsimp only
    refine ⟨g8, _, X8, h8, tk8, rfl, F8, N8, hz8, rfl, ?_, B8, K8, T8⟩
    obtain ⟨o, ho, x⟩ := hl
    exact ⟨o, D8.other _ _ ho (fun q => by cases q), x⟩

end

/-! part T42 -/
section
open PySem PySem.W PyProof.Rows PySem.Spec PySem.Calls
theorem ints_all {vs : List Value} {ns : List Int} (h : IntsAre vs ns) : ∀ v ∈ vs, ∃ c t, v = Value.int c t := by
  induction h with
  | nil => intro v hv; cases hv
  | cons a t _ ih =>
    intro v hv
    rcases List.mem_cons.mp hv with rfl | hv
    · exact ⟨_, _, rfl⟩
    · exact ih v hv
set_option maxRecDepth 1000000 in
set_option maxHeartbeats 8000000 in
theorem args_of (P : Prop) (w : World) (s₀ s₁ : Shared) (args : List WData) (vals : List Value) (as : List Addr) (hpre : rw1.row.toRowW.claim.pre args = true) (hlay : WData.layableAll args = true) (hrd : ReadsAllW rw1.row.toRowW.records (classAt s₀.heap) s₁.heap vals args as) (hwl : WellAll w.params s₁.heap vals args) (hlo : ∀ a ∈ as, (a == sysModules) = false)
    (k : ∀ (sc : Addr) (its : List Value), vals = [.ref sc] → s₁.heap.IsList sc its.toArray → (∀ v ∈ its, ∃ c t, v = Value.int c t) → its.length ≤ 63 → rw1.row.claim.post args (WData.bool true) args = true → P) : P := by
  wrow_args hpre hlay hrd hwl hlo
  (rename IntsAre _ _ => hI)
  refine k _ _ rfl (by assumption) (ints_all hI) ?_ ?_
  · rw [hI.length]
    (rename ¬ _ => hc)
    omega
  · wrow_post
theorem good_true (s₀ s₁ s' : Shared) (args : List WData) (hk : ∀ b o, s₁.heap.get? b = some o → s'.heap.get? b = some o) (hos : s'.os = s₁.os) (hg : s'.gens = #[]) (hp : rw1.row.claim.post args (WData.bool true) args = true) : GoodWG rw1.row.toRowW.claim (classAt s₀.heap) (ExcName.means s₀.heap) args s₁ (.ok (.ret (.bool true))) s' := by
  refine ⟨.inl ⟨.bool true, .bool true, [], rfl, fun _ => ?_, ?_, ?_, ?_⟩, .of_keep hk, hos, .of_eq hg⟩
  · rfl
  · exact .bool true
  · exact hp
  · exact fun _ => ⟨.nil, fun a h => by cases h⟩

end

/-! part T43 -/
section
open PySem PySem.W PyProof.Rows PySem.Spec PySem.Calls
set_option maxRecDepth 1000000
set_option maxHeartbeats 8000000
theorem law_walk (w : World) (s₀ s₁ : Shared) (mg mb : Str → Option Value) (G : Ground qv looseL rw1.row.toRowW.records (XL qv []) w s₀ mg mb s₁.heap) (Y : hookL.says w s₁.heap) (hgens : s₁.gens = #[]) (args : List WData) (vals : List Value) (as : List Addr) (hpre : rw1.row.toRowW.claim.pre args = true) (hlay : WData.layableAll args = true) (hrd : ReadsAllW rw1.row.toRowW.records (classAt s₀.heap) s₁.heap vals args as) (hwl : WellAll w.params s₁.heap vals args) (hlo : ∀ a ∈ as, (a == sysModules) = false) :
    ∃ f, mg rw1.row.toRowW.name = some f ∧ wpC (model rw1.row.toRowW.prog w) callerA (PySem.call f vals) (fun v s' => GoodWG rw1.row.toRowW.claim (classAt s₀.heap) (ExcName.means s₀.heap) args s₁ (.ok (.ret v)) s') (fun e s' => GoodWG rw1.row.toRowW.claim (classAt s₀.heap) (ExcName.means s₀.heap) args s₁ (.error e) s') s₁ := by
  have KX := kIn_of Y
  obtain ⟨a, o, pm, cd, doc, dV, kV, h1, h2, h3, h4, h5⟩ := G.fn (show defOf qv rw1.row.name = some (_, _) from rfl)
  have he1 := Dflts.none h5 rfl
  subst he1
  refine ⟨.ref a, h1, ?_⟩
  refine Ground.open G ?_
  intro T B D TE TW
  refine args_of _ w s₀ s₁ args vals as hpre hlay hrd hwl hlo fun sc its hv hl hi hlen hpost => ?_
  subst hv
  have hcell : ∀ x ∈ (fd1420.snd.snd : Scope).names, x.2 ≠ .cell := by decide
  refine wpC_call (codeC_def (o := o) (binds := [(Str.ofString "script", Value.ref sc)]) (by decide +kernel) h2 h3 T.nolimit h4 rfl (BindsTo.of_eq rfl) hcell (by intro x hx; rcases List.mem_singleton.mp hx with rfl; rfl) (fun h₀ hns hk₁ => ?_))
  have e : (fun x => List.lookup x [(Str.ofString "script", Value.ref sc)].reverse) = (fun y => if y = Str.ofString "script" then some (Value.ref sc) else none) := by
    funext y
    show List.lookup y [(Str.ofString "script", Value.ref sc)] = _
    by_cases hy : y = Str.ofString "script"
    · subst hy
      simp [List.lookup]
    · rw [if_neg hy]
      simp only [List.lookup, beq_eq_false_iff_ne.mpr hy]
  have F : Fr s₁.heap s₁.heap.objs.size h₀ (fun y => if y = Str.ofString "script" then some (Value.ref sc) else none) := ⟨e ▸ hns, hk₁, Nat.le_refl _⟩
  exact law_body_c rw1.row.toRowW.prog w _ _ _ _ _ (callerA.depth + 1) (callerA.units + 3) a cd callerA s₁.heap _ { s₁ with heap := h₀, toks := s₁.toks + 1 } sc its _ _ (below_caller _) F KX T (by decide) (by decide) hl hi hlen (fun h' tk' hk => good_true s₀ s₁ _ args hk rfl hgens hpost)

end

/-! part T45 -/
section
open PySem PySem.W PyProof.Rows PySem.Calls
set_option maxRecDepth 1000000
set_option maxHeartbeats 4000000
/-- a thread whose tree ends at the calm caller ends -/
theorem ends_calm {prog : Program} {w : World} {t : Sem Fin} {s : Shared} {R : Result → Shared → Prop} (hreg : s.asleep)
    (h : wpC (model prog w) callerA t (fun fin s' => ∃ f, fin = .done f ∧ (R (.ok f) s' ∧ leftWithCleanup s'.gens = false)) (fun e s' => R (.error e) s' ∧ leftWithCleanup s'.gens = false) s) :
    ∃ n r s' s'', runN (denote table) prog w n s ⟨t, .builtin "claim.caller" {}, default, []⟩ = .halted (outcomeOf r) s' ∧
      schedN (denote table) prog w n (.single s ⟨t, .builtin "claim.caller" {}, default, []⟩) = .halted (outcomeOf r) s' ∧ s'.forget = s''.forget ∧ R r s'' := by
  have h0 := h _ default caller_in (by show Builtin.Bytes.decodersThatHold.contains "claim.caller" = false; decide) (fun q hq => by cases hq)
  obtain ⟨n, r, s₁, s₂, hs, hn, hfo, hR⟩ := wp_halts_full (M := model prog w) (R := R) (p := default) hreg (Sem.wp_mono _ _ t (fun fin p' s' h' => by
    obtain ⟨f, rfl, hf⟩ := h'
    exact hf) (fun _ _ _ h' => h') _ _ h0)
  exact ⟨n, r, s₂, s₁, hn, hs, hfo, hR⟩
abbrev rC : ClaimW := rw1.row.toRowW.claim
theorem call_calm {tree : List Value → Sem Fin} {w : World} {s : Shared} {free : Addr → Prop} {gens : Prop} {kept : Heap → Prop} (hz : s.asleep) (hgens : s.gens = #[])
    (hspec : ∀ args, rC.pre args = true → WData.layableAll args = true → ∀ ord : List DictEntry → List DictEntry, (∀ l, (ord l).Perm l) →
      ∃ vs s₁, layAllW rC.records (classAt s.heap) w.params ord args s = some (vs, s₁) ∧
        wpC (model rC.prog w) callerA (tree vs) (fun fin s' => ∃ f, fin = .done f ∧ (rC.Ends s args vs s₁ (.ok f) s' ∧ s'.os = s.os ∧ AllBare s'.gens ∧ kept s'.heap))
          (fun e s' => rC.Ends s args vs s₁ (.error e) s' ∧ s'.os = s.os ∧ AllBare s'.gens ∧ kept s'.heap) s₁) :
    rC.CallFrom (fun vs => ⟨tree vs, .builtin "claim.caller" {}, default, []⟩) w free gens kept s := by
  intro args hpre hlay ord hord
  obtain ⟨vs, s₁, hlaid, hcode⟩ := hspec args hpre hlay ord hord
  have hal := layAllW_rest _ _ _ hlaid
  have hend := ends_calm (R := fun r s' => rC.Ends s args vs s₁ r s' ∧ s'.os = s.os ∧ kept s'.heap) (Shared.asleep_of_life hal.2.2.2 hz)
    (wpC_mono hcode (fun fin s' ⟨f, e, h1, h2, h3, h4⟩ => ⟨f, e, ⟨h1, h2, h4⟩, leftWithCleanup_false_of_bare h3⟩) fun e s' ⟨h1, h2, h3, h4⟩ => ⟨⟨h1, h2, h4⟩, leftWithCleanup_false_of_bare h3⟩)
  obtain ⟨k, r, s', s'', hrun, hsched, hfo, hcase, hos, hkp⟩ := hend
  obtain ⟨eh, _, _, eo, _⟩ := Shared.forget_eq hfo
  have hcase := hcase.congr eh
  rw [← eh] at hkp
  rw [← eo] at hos
  have hlife : s'.heap.life = s.heap.life := (runN_life _ _ _ hrun).trans hal.2.2.2
  refine ⟨vs, s₁, hlaid, k, _, s', hsched, ?_, (fun _ i x hx => by rw [hgens] at hx; simp at hx), hkp, by rw [hlife], Shared.rest_eq hos⟩
  rcases hcase with ⟨v, rfl, d1, d2, d3, d4, d5⟩ | ⟨e, ob, cls, rfl, d1, d2, d3, d4, d5⟩
  · exact .inl ⟨v, rfl, d1, d2, d3, fun b o y _ => d4 b o y, d5⟩
  · exact .inr ⟨e, ob, cls, rfl, d1, d2, d3, d4, fun b o y _ => d5 b o y⟩
theorem law_ok : (chainsOk qv && opensWell rw1.row.toRowW.prog && (frees rw1.row.toRowW && rw1.row.toRowW.within.isEmpty)) = true := by decide +kernel
theorem law_bare : rw1.row.toRowW.prog.bare := ⟨rfl, rfl, rfl, rfl, rfl, whole⟩
theorem law_open : rC.HoldsOpenBy (callStub rw1.row.name) (if rw1.row.pinned then [rw1.row.name] else []) rw1.row.keeps rw1.row.writes := by
  obtain ⟨ok, k5⟩ := Bool.and_eq_true_iff.mp law_ok
  obtain ⟨hch, o1⟩ := Bool.and_eq_true_iff.mp ok
  obtain ⟨k5, k6⟩ := Bool.and_eq_true_iff.mp k5
  obtain ⟨hsame, hu, ha, hap, hm⟩ := frees_parts k5
  have hX : ∀ s, xt s = true → XL qv [] (s.heap.nsMap mainGlobals) s.heap ∧ RecFacts rw1.row.toRowW.records s.heap := fun s e => ⟨xl_of s (Bool.and_eq_true_iff.mp e).1, recFacts_of (Bool.and_eq_true_iff.mp e).2⟩
  refine ⟨⟨law_bare, o1, by show rw1.row.toRowW.makers.map rw1.row.toRowW.maker = []; rw [hm]; rfl⟩, hw1.witness, fun w => ⟨(leftL.behind (XP := fun mg h => XL qv [] mg h ∧ RecFacts rw1.row.toRowW.records h) hX hch w).1, fun s' hs' => ?_⟩⟩
  obtain ⟨s₀, hf, hg0, s, hT, hz, hgens, hg, G00, y⟩ := (leftL.behind (XP := fun mg h => XL qv [] mg h ∧ RecFacts rw1.row.toRowW.records h) hX hch w).2 s' hs'
  have G0 : Ground qv looseL [] (XL qv []) w s (s.heap.nsMap mainGlobals) (s.heap.nsMap builtinsNs) s.heap := ⟨G00.T, G00.B, G00.D, G00.TE, G00.TD, G00.W, G00.X.1, G00.cls, G00.has, G00.apart, G00.once, G00.K⟩
  have RF := G00.X.2
  have hgens : s.gens = #[] := Array.eq_empty_of_size_eq_zero (beq_iff_eq.mp hgens)
  have G : Ground qv looseL rw1.row.toRowW.records (XL qv []) w s _ _ s.heap := RF.ground G0
  refine ⟨s₀, hf, hg0, s, hT, fun n hn => ?_, RF.1, RF.2.1, ?_⟩
  · obtain rfl : n = rw1.row.name := by split at hn <;> simp_all
    exact pinned_of_view hg G0 (show defOf qv rw1.row.name = some (_, _) from rfl) (by rfl) (by rfl)
  · refine call_calm (tree := fun vs => do match ← nsGet mainNs rw1.row.name with
      | some f => do ret (← PySem.call f vs)
      | none => unsupported "claim.caller:no-such-global") hz hgens fun args hpre hlay ord hord => ?_
    obtain ⟨⟨vs, s₁⟩, hlaid⟩ := Option.isSome_iff_exists.mp (layAllW_isSome (P := w.params) (ord := ord) G.has args rw1.row.toRowW.args s (pre_splitW hpre).1)
    have keeps := layAllW_keeps _ _ _ hlaid
    have hal := layAllW_rest _ _ _ hlaid
    obtain ⟨as, hrd, hin, hold⟩ := reads_layAllW hord _ _ _ hlaid hlay s₁.heap (fun _ _ e => e)
    have L : Laid rw1.row.toRowW.records w s s₁ args vs as := ⟨⟨ord, hord, hlaid⟩, hrd, hin, hold, keeps, hal.1.trans hgens, hal.2.2.1⟩
    have G₁ := G.keeps XL.keeps keeps
    obtain ⟨f, hfn, h⟩ := law_walk w s s₁ _ _ G₁ (hookL.keeps _ _ _ (hookL.of w s y) keeps) L.gens args vs as hpre hlay L.reads L.well (L.low G.low)
    have hi := ident_freeW hu ha hap
    have hwi : rC.within = [] := List.isEmpty_iff.mp k6
    have kept : ∀ {s' : Shared} {r : Result}, GoodWG rC (classAt s.heap) (ExcName.means s.heap) args s₁ r s' → rC.Ends s args vs s₁ r s' ∧ s'.os = s.os ∧ AllBare s'.gens ∧ (rw1.row.writes = true → namesKept rC.prog rw1.row.keeps s.heap s'.heap ∧ ∀ x ∈ rC.records, ∀ a, classAt s.heap x.1 = some a → recordClass s'.heap a x.1 (x.2.map (·.1)) = true) := fun g =>
      have z := g.laid (c := rC) hsame hwi hi L
      ⟨z.1, z.2.1, z.2.2, fun _ => ⟨namesKept_of hT hg _ keeps g.2.1.old, fun x hx => (by cases hx)⟩⟩
    refine ⟨vs, s₁, hlaid, ?_⟩
    refine wpC_bindA (wpAny_nsGet G₁.T.g ?_)
    rw [hfn]
    exact wpC_bind (wpC_mono h (fun v s' g => wpC_pure ⟨_, rfl, kept g⟩) fun e s' g => kept g)
theorem law_holds : PySem.Challenge.rw_xm0775_01.Holds := holds_law said fun sd => ⟨sd, hw1, law_open⟩

end

end Mine
end

theorem PySem.Challenge.cw_xm0775_01_holds : PySem.Challenge.rw_xm0775_01.Holds :=
  Mine.law_holds
