import PyProof.Rows.All
import Wide.All
import OpenK.AllK
import Wide.FinOn
import PyProof.AttrMissHeap
import KE.KDictOf
import PySem.Challenge.RW_nz0296_01
open PySem PySem.W PyProof.Rows
set_option Elab.async false
set_option maxRecDepth 100000
set_option maxHeartbeats 8000000
set_option compiler.extract_closed false
set_option linter.all false
namespace Mine
noncomputable abbrev lawProg : Program := PySem.Challenge.rw_nz0296_01.row.toRowW.prog
noncomputable def lawView : Program := view lawProg [0, 2, 4, 5, 6, 7, 8, 10, 11, 13, 14, 15, 16, 17, 18, 19, 20, 21, 22, 23, 24, 25, 27, 28, 29]
noncomputable abbrev lawLoose : List Str := [Str.ofString "PostError"]
noncomputable def lawXt (s : Shared) : Bool := xlAt lawView [] s && recOk (RowW.records PySem.Challenge.rw_nz0296_01.row.toRowW) s
noncomputable def fnsIn : List Stmt → List (Arguments × List Stmt × Scope)
  | [] => []
  | .FunctionDef _ ps b _ _ _ sc _ _ _ :: r => (ps, b, sc) :: fnsIn r
  | _ :: r => fnsIn r
noncomputable def fnsOf : List Stmt → List (Arguments × List Stmt × Scope)
  | [] => []
  | .FunctionDef _ ps b _ _ _ sc _ _ _ :: r => (ps, b, sc) :: fnsOf r
  | .ClassDef _ _ _ b _ _ _ _ _ _ _ :: r => fnsIn b ++ fnsOf r
  | _ :: r => fnsOf r
noncomputable def fnAt (i : Nat) : Arguments × List Stmt × Scope := (fnsOf lawProg.main.body).getD i (⟨[], [], none, [], [], none, []⟩, [], default)
noncomputable abbrev hEnt (P : Params) (k : String) (t : Tok) (v : Value) : DictEntry := ⟨PyData.keyHash P (Str.ofString k), .str (Str.ofString k) t, v⟩
noncomputable abbrev hStr (x : String) (t : Tok) : Value := .str (Str.ofString x) t
noncomputable def endObjs (P : Params) : List Obj := [
  PySem.W.boot_o_0 P,
  PySem.W.boot_o_1 P,
  { cls := Value.none, data := Data.dict #[hEnt P "type.__subclasses__.Exception.0" 350 (Value.int 130 0), hEnt P "type.__subclasses__.Exception.n" 351 (Value.int 1 0)] 2 },
  { cls := Value.type "dict", data := Data.dict #[hEnt P "__name__" 165 (hStr "law_nz0296_01" 555), hEnt P "__doc__" 166 (Value.none), hEnt P "__package__" 167 (Value.none), hEnt P "__loader__" 168 (Value.builtin "__main__.__loader__#opaque"), hEnt P "__spec__" 169 (Value.none), hEnt P "__annotations__" 170 (Value.ref 6), hEnt P "__builtins__" 171 (Value.ref 4), hEnt P "__file__" 173 (hStr "/claim/cut.py" 172), hEnt P "__cached__" 174 (Value.none), hEnt P "_wall" 193 (Value.ref 21), hEnt P "ranges_of" 204 (Value.ref 28), hEnt P "View" 278 (Value.ref 77), hEnt P "place_among" 289 (Value.ref 88), hEnt P "gone_uids" 295 (Value.ref 93), hEnt P "forget" 301 (Value.ref 98), hEnt P "expunge_news" 311 (Value.ref 105), hEnt P "PostError" 353 (Value.ref 130), hEnt P "StoreFault" 369 (Value.ref 143), hEnt P "SYSTEM" 373 (hStr "\\Seen \\Answered \\Flagged \\Deleted \\Draft" 372), hEnt P "NO_KEYWORD" 375 (Value.str (Str.ofString "(){ %*\"\\]") 374), hEnt P "MOST_KEYWORD" 377 (Value.int 60 376), hEnt P "system_flags" 383 (Value.ref 152), hEnt P "is_keyword" 391 (Value.ref 159), hEnt P "flag_name" 399 (Value.ref 166), hEnt P "flag_tuple" 409 (Value.ref 173), hEnt P "Letter" 461 (Value.ref 204), hEnt P "Box" 518 (Value.ref 242), hEnt P "place_of" 529 (Value.ref 253), hEnt P "raised" 536 (Value.ref 260), hEnt P "add_letter" 548 (Value.ref 267), hEnt P "expunge" 554 (Value.ref 272), hEnt P "_law_draw" 565 (Value.ref 279), hEnt P "_law_ranges" 574 (Value.ref 286), hEnt P "law" 580 (Value.ref 291)] 34 },
  PySem.W.boot_o_4 P,
  PySem.W.boot_o_5 P,
  PySem.W.boot_o_6 P,
  PySem.W.boot_o_7 P,
  PySem.W.boot_o_8 P,
  PySem.W.boot_o_9 P,
  PySem.W.boot_o_10 P,
  { cls := Value.type "tuple", data := Data.seq #[] },
  { cls := Value.none, data := Data.fields #[Value.int 1 0, Value.int 0 0, Value.ref 20, Value.int 5 0, Value.int 0 0, Value.ref 27, Value.int 14 0, Value.int 0 0, Value.ref 34, Value.int 39 0, Value.int 0 0, Value.ref 87, Value.int 48 0, Value.int 0 0, Value.ref 92, Value.int 51 0, Value.int 0 0, Value.ref 97, Value.int 55 0, Value.int 0 0, Value.ref 104, Value.int 66 0, Value.int 0 0, Value.ref 111, Value.int 75 0, Value.int 0 0, Value.ref 139, Value.int 81 0, Value.int 0 0, Value.ref 151, Value.int 83 0, Value.int 0 0, Value.ref 158, Value.int 90 0, Value.int 0 0, Value.ref 165, Value.int 97 0, Value.int 0 0, Value.ref 172, Value.int 104 0, Value.int 0 0, Value.ref 179, Value.int 118 0, Value.int 0 0, Value.ref 214, Value.int 139 0, Value.int 0 0, Value.ref 252, Value.int 150 0, Value.int 0 0, Value.ref 259, Value.int 153 0, Value.int 0 0, Value.ref 266, Value.int 159 0, Value.int 0 0, Value.ref 271, Value.int 171 0, Value.int 0 0, Value.ref 278, Value.int 177 0, Value.int 0 0, Value.ref 285, Value.int 185 0, Value.int 0 0, Value.ref 290] },
  { cls := Value.type "code", data := Data.fields #[hStr "<module>" 182, hStr "<module>" 183, hStr "/claim/cut.py" 184, Value.int 1 0, Value.int 0 0, Value.int 0 0, Value.int 0 0, Value.int 0 0, Value.ref 11, Value.bool false, Value.int 181 0, Value.ref 12, Value.none, Value.none, Value.none, Value.none, Value.int 185 0, Value.int 1 0, hStr "/claim/cut.py" 186] },
  { cls := Value.type "frame", slots := #[some (Value.ref 13), some (Value.ref 3), some (Value.ref 3), none, some (hStr "__main__" 164), none, some (Value.ref 0)] },
  { cls := Value.type "tuple", data := Data.seq #[] },
  { cls := Value.none, data := Data.fields #[] },
  { cls := Value.type "tuple", data := Data.seq #[hStr "k" 190] },
  { cls := Value.type "tuple", data := Data.seq #[] },
  { cls := Value.none, data := Data.func { name := Str.ofString "_wall", qualname := Str.ofString "_wall", params := (fnAt 0).1, body := (.stmts (fnAt 0).2.1), scope := (fnAt 0).2.2, globals := 0, closure := [], defaults := Value.none, kwdefaults := Value.none } },
  { cls := Value.type "code", data := Data.fields #[hStr "_wall" 187, hStr "_wall" 188, hStr "/claim/cut.py" 189, Value.int 1 0, Value.int 1 0, Value.int 0 0, Value.int 0 0, Value.int 3 0, Value.ref 15, Value.bool true, Value.int 181 0, Value.ref 16, Value.none, Value.ref 17, Value.ref 18, Value.ref 19, Value.int 191 0, Value.int 1 0, hStr "/claim/cut.py" 192] },
  { cls := Value.type "function", data := Data.func { name := Str.ofString "_wall", qualname := Str.ofString "_wall", params := (fnAt 0).1, body := (.stmts (fnAt 0).2.1), scope := (fnAt 0).2.2, globals := 3, closure := [], defaults := Value.none, kwdefaults := Value.none, pyModule := hStr "__main__" 164, code := Value.ref 20 } },
  { cls := Value.type "tuple", data := Data.seq #[] },
  { cls := Value.none, data := Data.fields #[] },
  { cls := Value.type "tuple", data := Data.seq #[hStr "numbers" 199, hStr "out" 200, hStr "number" 201] },
  { cls := Value.type "tuple", data := Data.seq #[] },
  { cls := Value.none, data := Data.func { name := Str.ofString "ranges_of", qualname := Str.ofString "ranges_of", params := (fnAt 1).1, body := (.stmts (fnAt 1).2.1), scope := (fnAt 1).2.2, globals := 0, closure := [], defaults := Value.none, kwdefaults := Value.none } },
  { cls := Value.type "code", data := Data.fields #[hStr "ranges_of" 196, hStr "ranges_of" 197, hStr "/claim/cut.py" 198, Value.int 5 0, Value.int 1 0, Value.int 0 0, Value.int 0 0, Value.int 3 0, Value.ref 22, Value.bool true, Value.int 181 0, Value.ref 23, Value.none, Value.ref 24, Value.ref 25, Value.ref 26, Value.int 202 0, Value.int 5 0, hStr "/claim/cut.py" 203] },
  { cls := Value.type "function", data := Data.func { name := Str.ofString "ranges_of", qualname := Str.ofString "ranges_of", params := (fnAt 1).1, body := (.stmts (fnAt 1).2.1), scope := (fnAt 1).2.2, globals := 3, closure := [], defaults := Value.none, kwdefaults := Value.none, pyModule := hStr "postkeep.sets" 194, code := Value.ref 27 } },
  { cls := Value.type "tuple", data := Data.seq #[] },
  { cls := Value.type "builtin_function_or_method", data := Data.fields #[Value.builtin "type.__prepare__", Value.type "type"] },
  { cls := Value.type "dict", data := Data.dict #[hEnt P "__module__" 214 (hStr "postkeep.view" 205), hEnt P "__qualname__" 216 (hStr "View" 215), hEnt P "__firstlineno__" 218 (Value.int 14 217), hEnt P "__init__" 224 (Value.ref 41), hEnt P "number_of" 232 (Value.ref 48), hEnt P "uid_at" 240 (Value.ref 55), hEnt P "uids_in" 249 (Value.ref 62), hEnt P "has_number" 257 (Value.ref 69), hEnt P "told" 263 (Value.ref 74), hEnt P "__static_attributes__" 271 (Value.ref 75)] 10 },
  { cls := Value.type "tuple", data := Data.seq #[] },
  { cls := Value.none, data := Data.fields #[Value.int 16 0, Value.int 4 0, Value.ref 40, Value.int 25 0, Value.int 4 0, Value.ref 47, Value.int 28 0, Value.int 4 0, Value.ref 54, Value.int 31 0, Value.int 4 0, Value.ref 61, Value.int 34 0, Value.int 4 0, Value.ref 68, Value.int 37 0, Value.int 4 0, Value.ref 73] },
  { cls := Value.type "code", data := Data.fields #[hStr "View" 209, hStr "View" 210, hStr "/claim/cut.py" 211, Value.int 14 0, Value.int 0 0, Value.int 0 0, Value.int 0 0, Value.int 0 0, Value.ref 32, Value.bool false, Value.int 181 0, Value.ref 33, Value.none, Value.none, Value.none, Value.none, Value.int 212 0, Value.int 14 0, hStr "/claim/cut.py" 213] },
  { cls := Value.type "frame", slots := #[some (Value.ref 34), some (Value.ref 3), some (Value.ref 31), none, some (hStr "postkeep.view" 205), none, some (Value.ref 0)] },
  { cls := Value.type "tuple", data := Data.seq #[Value.bool false, Value.bool false, Value.bool false] },
  { cls := Value.type "tuple", data := Data.seq #[] },
  { cls := Value.none, data := Data.fields #[] },
  { cls := Value.none, data := Data.func { name := Str.ofString "__init__", qualname := Str.ofString "View.__init__", params := (fnAt 2).1, body := (.stmts (fnAt 2).2.1), scope := (fnAt 2).2.2, globals := 0, closure := [], defaults := Value.none, kwdefaults := Value.none } },
  { cls := Value.type "code", data := Data.fields #[hStr "__init__" 219, hStr "View.__init__" 220, hStr "/claim/cut.py" 221, Value.int 16 0, Value.int 5 0, Value.int 0 0, Value.int 0 0, Value.int 3 0, Value.ref 37, Value.bool true, Value.int 181 0, Value.ref 38, Value.none, Value.none, Value.none, Value.ref 39, Value.int 222 0, Value.int 16 0, hStr "/claim/cut.py" 223] },
  { cls := Value.type "function", data := Data.func { name := Str.ofString "__init__", qualname := Str.ofString "View.__init__", params := (fnAt 2).1, body := (.stmts (fnAt 2).2.1), scope := (fnAt 2).2.2, globals := 3, closure := [], defaults := Value.ref 36, kwdefaults := Value.none, pyModule := hStr "postkeep.view" 205, code := Value.ref 40 } },
  { cls := Value.type "tuple", data := Data.seq #[] },
  { cls := Value.none, data := Data.fields #[] },
  { cls := Value.type "tuple", data := Data.seq #[hStr "self" 228, hStr "uid" 229] },
  { cls := Value.type "tuple", data := Data.seq #[] },
  { cls := Value.none, data := Data.func { name := Str.ofString "number_of", qualname := Str.ofString "View.number_of", params := (fnAt 3).1, body := (.stmts (fnAt 3).2.1), scope := (fnAt 3).2.2, globals := 0, closure := [], defaults := Value.none, kwdefaults := Value.none } },
  { cls := Value.type "code", data := Data.fields #[hStr "number_of" 225, hStr "View.number_of" 226, hStr "/claim/cut.py" 227, Value.int 25 0, Value.int 2 0, Value.int 0 0, Value.int 0 0, Value.int 3 0, Value.ref 42, Value.bool true, Value.int 181 0, Value.ref 43, Value.none, Value.ref 44, Value.ref 45, Value.ref 46, Value.int 230 0, Value.int 25 0, hStr "/claim/cut.py" 231] },
  { cls := Value.type "function", data := Data.func { name := Str.ofString "number_of", qualname := Str.ofString "View.number_of", params := (fnAt 3).1, body := (.stmts (fnAt 3).2.1), scope := (fnAt 3).2.2, globals := 3, closure := [], defaults := Value.none, kwdefaults := Value.none, pyModule := hStr "postkeep.view" 205, code := Value.ref 47 } },
  { cls := Value.type "tuple", data := Data.seq #[] },
  { cls := Value.none, data := Data.fields #[] },
  { cls := Value.type "tuple", data := Data.seq #[hStr "self" 236, hStr "number" 237] },
  { cls := Value.type "tuple", data := Data.seq #[] },
  { cls := Value.none, data := Data.func { name := Str.ofString "uid_at", qualname := Str.ofString "View.uid_at", params := (fnAt 4).1, body := (.stmts (fnAt 4).2.1), scope := (fnAt 4).2.2, globals := 0, closure := [], defaults := Value.none, kwdefaults := Value.none } },
  { cls := Value.type "code", data := Data.fields #[hStr "uid_at" 233, hStr "View.uid_at" 234, hStr "/claim/cut.py" 235, Value.int 28 0, Value.int 2 0, Value.int 0 0, Value.int 0 0, Value.int 3 0, Value.ref 49, Value.bool true, Value.int 181 0, Value.ref 50, Value.none, Value.ref 51, Value.ref 52, Value.ref 53, Value.int 238 0, Value.int 28 0, hStr "/claim/cut.py" 239] },
  { cls := Value.type "function", data := Data.func { name := Str.ofString "uid_at", qualname := Str.ofString "View.uid_at", params := (fnAt 4).1, body := (.stmts (fnAt 4).2.1), scope := (fnAt 4).2.2, globals := 3, closure := [], defaults := Value.none, kwdefaults := Value.none, pyModule := hStr "postkeep.view" 205, code := Value.ref 54 } },
  { cls := Value.type "tuple", data := Data.seq #[] },
  { cls := Value.none, data := Data.fields #[] },
  { cls := Value.type "tuple", data := Data.seq #[hStr "self" 244, hStr "some" 245, hStr "is_uid" 246] },
  { cls := Value.type "tuple", data := Data.seq #[] },
  { cls := Value.none, data := Data.func { name := Str.ofString "uids_in", qualname := Str.ofString "View.uids_in", params := (fnAt 5).1, body := (.stmts (fnAt 5).2.1), scope := (fnAt 5).2.2, globals := 0, closure := [], defaults := Value.none, kwdefaults := Value.none } },
  { cls := Value.type "code", data := Data.fields #[hStr "uids_in" 241, hStr "View.uids_in" 242, hStr "/claim/cut.py" 243, Value.int 31 0, Value.int 3 0, Value.int 0 0, Value.int 0 0, Value.int 3 0, Value.ref 56, Value.bool true, Value.int 181 0, Value.ref 57, Value.none, Value.ref 58, Value.ref 59, Value.ref 60, Value.int 247 0, Value.int 31 0, hStr "/claim/cut.py" 248] },
  { cls := Value.type "function", data := Data.func { name := Str.ofString "uids_in", qualname := Str.ofString "View.uids_in", params := (fnAt 5).1, body := (.stmts (fnAt 5).2.1), scope := (fnAt 5).2.2, globals := 3, closure := [], defaults := Value.none, kwdefaults := Value.none, pyModule := hStr "postkeep.view" 205, code := Value.ref 61 } },
  { cls := Value.type "tuple", data := Data.seq #[] },
  { cls := Value.none, data := Data.fields #[] },
  { cls := Value.type "tuple", data := Data.seq #[hStr "self" 253, hStr "some" 254] },
  { cls := Value.type "tuple", data := Data.seq #[] },
  { cls := Value.none, data := Data.func { name := Str.ofString "has_number", qualname := Str.ofString "View.has_number", params := (fnAt 6).1, body := (.stmts (fnAt 6).2.1), scope := (fnAt 6).2.2, globals := 0, closure := [], defaults := Value.none, kwdefaults := Value.none } },
  { cls := Value.type "code", data := Data.fields #[hStr "has_number" 250, hStr "View.has_number" 251, hStr "/claim/cut.py" 252, Value.int 34 0, Value.int 2 0, Value.int 0 0, Value.int 0 0, Value.int 3 0, Value.ref 63, Value.bool true, Value.int 181 0, Value.ref 64, Value.none, Value.ref 65, Value.ref 66, Value.ref 67, Value.int 255 0, Value.int 34 0, hStr "/claim/cut.py" 256] },
  { cls := Value.type "function", data := Data.func { name := Str.ofString "has_number", qualname := Str.ofString "View.has_number", params := (fnAt 6).1, body := (.stmts (fnAt 6).2.1), scope := (fnAt 6).2.2, globals := 3, closure := [], defaults := Value.none, kwdefaults := Value.none, pyModule := hStr "postkeep.view" 205, code := Value.ref 68 } },
  { cls := Value.type "tuple", data := Data.seq #[] },
  { cls := Value.none, data := Data.fields #[] },
  { cls := Value.none, data := Data.func { name := Str.ofString "told", qualname := Str.ofString "View.told", params := (fnAt 7).1, body := (.stmts (fnAt 7).2.1), scope := (fnAt 7).2.2, globals := 0, closure := [], defaults := Value.none, kwdefaults := Value.none } },
  { cls := Value.type "code", data := Data.fields #[hStr "told" 258, hStr "View.told" 259, hStr "/claim/cut.py" 260, Value.int 37 0, Value.int 1 0, Value.int 0 0, Value.int 0 0, Value.int 3 0, Value.ref 70, Value.bool true, Value.int 181 0, Value.ref 71, Value.none, Value.none, Value.none, Value.ref 72, Value.int 261 0, Value.int 37 0, hStr "/claim/cut.py" 262] },
  { cls := Value.type "function", data := Data.func { name := Str.ofString "told", qualname := Str.ofString "View.told", params := (fnAt 7).1, body := (.stmts (fnAt 7).2.1), scope := (fnAt 7).2.2, globals := 3, closure := [], defaults := Value.none, kwdefaults := Value.none, pyModule := hStr "postkeep.view" 205, code := Value.ref 73 } },
  { cls := Value.type "tuple", data := Data.seq #[hStr "box" 264, hStr "flags" 265, hStr "is_readonly" 266, hStr "modseqs" 267, hStr "uids" 268, hStr "uses_modseq" 269, hStr "uses_vanished" 270] },
  { cls := Value.type "dict", data := Data.dict #[hEnt P "__module__" 214 (hStr "postkeep.view" 205), hEnt P "__firstlineno__" 218 (Value.int 14 217), hEnt P "__init__" 224 (Value.ref 41), hEnt P "number_of" 232 (Value.ref 48), hEnt P "uid_at" 240 (Value.ref 55), hEnt P "uids_in" 249 (Value.ref 62), hEnt P "has_number" 257 (Value.ref 69), hEnt P "told" 263 (Value.ref 74), hEnt P "__static_attributes__" 271 (Value.ref 75), hEnt P "__dict__" 273 (Value.ref 78), hEnt P "__weakref__" 275 (Value.ref 79), hEnt P "__doc__" 276 (Value.none)] 4 },
  { cls := Value.type "type", data := Data.cls { name := Str.ofString "View", bases := [Value.type "object"], mro := [Value.ref 77, Value.type "object"], ns := 76, qualname := Str.ofString "View" }, slots := #[none, none, some (hStr "View" 207), some (hStr "View" 215), some (Value.builtin "object.__new__"), some (Value.bool true)] },
  { cls := Value.type "getset_descriptor", data := Data.fields #[hStr "__dict__" 272, Value.ref 77, Value.builtin "function.__dict__", Value.builtin "function.__dict__#set"] },
  { cls := Value.type "getset_descriptor", data := Data.fields #[hStr "__weakref__" 274, Value.ref 77, Value.builtin "ExceptionGroup.__weakref__", Value.none] },
  { cls := Value.type "super", data := Data.fields #[Value.ref 77, Value.ref 77, Value.ref 77] },
  { cls := Value.type "builtin_function_or_method", data := Data.fields #[Value.builtin "object.__init_subclass__", Value.ref 77] },
  { cls := Value.type "tuple", data := Data.seq #[] },
  { cls := Value.none, data := Data.fields #[] },
  { cls := Value.type "tuple", data := Data.seq #[hStr "uids" 282, hStr "uid" 283, hStr "low" 284, hStr "high" 285, hStr "middle" 286] },
  { cls := Value.type "tuple", data := Data.seq #[] },
  { cls := Value.none, data := Data.func { name := Str.ofString "place_among", qualname := Str.ofString "place_among", params := (fnAt 8).1, body := (.stmts (fnAt 8).2.1), scope := (fnAt 8).2.2, globals := 0, closure := [], defaults := Value.none, kwdefaults := Value.none } },
  { cls := Value.type "code", data := Data.fields #[hStr "place_among" 279, hStr "place_among" 280, hStr "/claim/cut.py" 281, Value.int 39 0, Value.int 2 0, Value.int 0 0, Value.int 0 0, Value.int 3 0, Value.ref 82, Value.bool true, Value.int 181 0, Value.ref 83, Value.none, Value.ref 84, Value.ref 85, Value.ref 86, Value.int 287 0, Value.int 39 0, hStr "/claim/cut.py" 288] },
  { cls := Value.type "function", data := Data.func { name := Str.ofString "place_among", qualname := Str.ofString "place_among", params := (fnAt 8).1, body := (.stmts (fnAt 8).2.1), scope := (fnAt 8).2.2, globals := 3, closure := [], defaults := Value.none, kwdefaults := Value.none, pyModule := hStr "postkeep.view" 205, code := Value.ref 87 } },
  { cls := Value.type "tuple", data := Data.seq #[] },
  { cls := Value.none, data := Data.fields #[] },
  { cls := Value.none, data := Data.func { name := Str.ofString "gone_uids", qualname := Str.ofString "gone_uids", params := (fnAt 9).1, body := (.stmts (fnAt 9).2.1), scope := (fnAt 9).2.2, globals := 0, closure := [], defaults := Value.none, kwdefaults := Value.none } },
  { cls := Value.type "code", data := Data.fields #[hStr "gone_uids" 290, hStr "gone_uids" 291, hStr "/claim/cut.py" 292, Value.int 48 0, Value.int 1 0, Value.int 0 0, Value.int 0 0, Value.int 3 0, Value.ref 89, Value.bool true, Value.int 181 0, Value.ref 90, Value.none, Value.none, Value.none, Value.ref 91, Value.int 293 0, Value.int 48 0, hStr "/claim/cut.py" 294] },
  { cls := Value.type "function", data := Data.func { name := Str.ofString "gone_uids", qualname := Str.ofString "gone_uids", params := (fnAt 9).1, body := (.stmts (fnAt 9).2.1), scope := (fnAt 9).2.2, globals := 3, closure := [], defaults := Value.none, kwdefaults := Value.none, pyModule := hStr "postkeep.view" 205, code := Value.ref 92 } },
  { cls := Value.type "tuple", data := Data.seq #[] },
  { cls := Value.none, data := Data.fields #[] },
  { cls := Value.none, data := Data.func { name := Str.ofString "forget", qualname := Str.ofString "forget", params := (fnAt 10).1, body := (.stmts (fnAt 10).2.1), scope := (fnAt 10).2.2, globals := 0, closure := [], defaults := Value.none, kwdefaults := Value.none } },
  { cls := Value.type "code", data := Data.fields #[hStr "forget" 296, hStr "forget" 297, hStr "/claim/cut.py" 298, Value.int 51 0, Value.int 2 0, Value.int 0 0, Value.int 0 0, Value.int 3 0, Value.ref 94, Value.bool true, Value.int 181 0, Value.ref 95, Value.none, Value.none, Value.none, Value.ref 96, Value.int 299 0, Value.int 51 0, hStr "/claim/cut.py" 300] },
  { cls := Value.type "function", data := Data.func { name := Str.ofString "forget", qualname := Str.ofString "forget", params := (fnAt 10).1, body := (.stmts (fnAt 10).2.1), scope := (fnAt 10).2.2, globals := 3, closure := [], defaults := Value.none, kwdefaults := Value.none, pyModule := hStr "postkeep.view" 205, code := Value.ref 97 } },
  { cls := Value.type "tuple", data := Data.seq #[] },
  { cls := Value.none, data := Data.fields #[] },
  { cls := Value.type "tuple", data := Data.seq #[hStr "view" 305, hStr "gone" 306, hStr "answers" 307, hStr "uid" 308] },
  { cls := Value.type "tuple", data := Data.seq #[] },
  { cls := Value.none, data := Data.func { name := Str.ofString "expunge_news", qualname := Str.ofString "expunge_news", params := (fnAt 11).1, body := (.stmts (fnAt 11).2.1), scope := (fnAt 11).2.2, globals := 0, closure := [], defaults := Value.none, kwdefaults := Value.none } },
  { cls := Value.type "code", data := Data.fields #[hStr "expunge_news" 302, hStr "expunge_news" 303, hStr "/claim/cut.py" 304, Value.int 55 0, Value.int 1 0, Value.int 0 0, Value.int 0 0, Value.int 3 0, Value.ref 99, Value.bool true, Value.int 181 0, Value.ref 100, Value.none, Value.ref 101, Value.ref 102, Value.ref 103, Value.int 309 0, Value.int 55 0, hStr "/claim/cut.py" 310] },
  { cls := Value.type "function", data := Data.func { name := Str.ofString "expunge_news", qualname := Str.ofString "expunge_news", params := (fnAt 11).1, body := (.stmts (fnAt 11).2.1), scope := (fnAt 11).2.2, globals := 3, closure := [], defaults := Value.none, kwdefaults := Value.none, pyModule := hStr "postkeep.view" 205, code := Value.ref 104 } },
  { cls := Value.type "tuple", data := Data.seq #[Value.type "Exception"] },
  { cls := Value.type "builtin_function_or_method", data := Data.fields #[Value.builtin "type.__prepare__", Value.type "type"] },
  { cls := Value.type "dict", data := Data.dict #[hEnt P "__module__" 321 (hStr "postkeep.errors" 312), hEnt P "__qualname__" 323 (hStr "PostError" 322), hEnt P "__firstlineno__" 325 (Value.int 66 324), hEnt P "__init__" 336 (Value.ref 120), hEnt P "told" 343 (Value.ref 127), hEnt P "__static_attributes__" 346 (Value.ref 128)] 6 },
  { cls := Value.type "tuple", data := Data.seq #[] },
  { cls := Value.none, data := Data.fields #[Value.int 68 0, Value.int 4 0, Value.ref 119, Value.int 73 0, Value.int 4 0, Value.ref 126] },
  { cls := Value.type "code", data := Data.fields #[hStr "PostError" 316, hStr "PostError" 317, hStr "/claim/cut.py" 318, Value.int 66 0, Value.int 0 0, Value.int 0 0, Value.int 0 0, Value.int 0 0, Value.ref 109, Value.bool false, Value.int 181 0, Value.ref 110, Value.none, Value.none, Value.none, Value.none, Value.int 319 0, Value.int 66 0, hStr "/claim/cut.py" 320] },
  { cls := Value.type "frame", slots := #[some (Value.ref 111), some (Value.ref 3), some (Value.ref 108), none, some (hStr "postkeep.errors" 312), none, some (Value.ref 0)] },
  { cls := Value.type "tuple", data := Data.seq #[Value.int (-1) 327] },
  { cls := Value.type "tuple", data := Data.seq #[] },
  { cls := Value.none, data := Data.fields #[] },
  { cls := Value.type "tuple", data := Data.seq #[hStr "self" 331, hStr "what" 332, hStr "at" 333] },
  { cls := Value.type "tuple", data := Data.seq #[] },
  { cls := Value.none, data := Data.func { name := Str.ofString "__init__", qualname := Str.ofString "PostError.__init__", params := (fnAt 12).1, body := (.stmts (fnAt 12).2.1), scope := (fnAt 12).2.2, globals := 0, closure := [], defaults := Value.none, kwdefaults := Value.none } },
  { cls := Value.type "code", data := Data.fields #[hStr "__init__" 328, hStr "PostError.__init__" 329, hStr "/claim/cut.py" 330, Value.int 68 0, Value.int 3 0, Value.int 0 0, Value.int 0 0, Value.int 3 0, Value.ref 114, Value.bool true, Value.int 181 0, Value.ref 115, Value.none, Value.ref 116, Value.ref 117, Value.ref 118, Value.int 334 0, Value.int 68 0, hStr "/claim/cut.py" 335] },
  { cls := Value.type "function", data := Data.func { name := Str.ofString "__init__", qualname := Str.ofString "PostError.__init__", params := (fnAt 12).1, body := (.stmts (fnAt 12).2.1), scope := (fnAt 12).2.2, globals := 3, closure := [], defaults := Value.ref 113, kwdefaults := Value.none, pyModule := hStr "postkeep.errors" 312, code := Value.ref 119 } },
  { cls := Value.type "tuple", data := Data.seq #[] },
  { cls := Value.none, data := Data.fields #[] },
  { cls := Value.type "tuple", data := Data.seq #[hStr "self" 340] },
  { cls := Value.type "tuple", data := Data.seq #[] },
  { cls := Value.none, data := Data.func { name := Str.ofString "told", qualname := Str.ofString "PostError.told", params := (fnAt 13).1, body := (.stmts (fnAt 13).2.1), scope := (fnAt 13).2.2, globals := 0, closure := [], defaults := Value.none, kwdefaults := Value.none } },
  { cls := Value.type "code", data := Data.fields #[hStr "told" 337, hStr "PostError.told" 338, hStr "/claim/cut.py" 339, Value.int 73 0, Value.int 1 0, Value.int 0 0, Value.int 0 0, Value.int 3 0, Value.ref 121, Value.bool true, Value.int 181 0, Value.ref 122, Value.none, Value.ref 123, Value.ref 124, Value.ref 125, Value.int 341 0, Value.int 73 0, hStr "/claim/cut.py" 342] },
  { cls := Value.type "function", data := Data.func { name := Str.ofString "told", qualname := Str.ofString "PostError.told", params := (fnAt 13).1, body := (.stmts (fnAt 13).2.1), scope := (fnAt 13).2.2, globals := 3, closure := [], defaults := Value.none, kwdefaults := Value.none, pyModule := hStr "postkeep.errors" 312, code := Value.ref 126 } },
  { cls := Value.type "tuple", data := Data.seq #[hStr "at" 344, hStr "what" 345] },
  { cls := Value.type "dict", data := Data.dict #[hEnt P "__module__" 321 (hStr "postkeep.errors" 312), hEnt P "__firstlineno__" 325 (Value.int 66 324), hEnt P "__init__" 336 (Value.ref 120), hEnt P "told" 343 (Value.ref 127), hEnt P "__static_attributes__" 346 (Value.ref 128), hEnt P "__weakref__" 348 (Value.ref 131), hEnt P "__doc__" 349 (Value.none)] 3 },
  { cls := Value.type "type", data := Data.cls { name := Str.ofString "PostError", bases := [Value.type "Exception"], mro := [Value.ref 130, Value.type "Exception", Value.type "BaseException", Value.type "object"], ns := 129, qualname := Str.ofString "PostError", subclasses := [Value.ref 143] }, slots := #[some (Value.ref 106), none, some (hStr "PostError" 314), some (hStr "PostError" 322), some (Value.builtin "Exception.__new__"), some (Value.bool true)] },
  { cls := Value.type "getset_descriptor", data := Data.fields #[hStr "__weakref__" 347, Value.ref 130, Value.builtin "ExceptionGroup.__weakref__", Value.none] },
  { cls := Value.type "super", data := Data.fields #[Value.ref 130, Value.ref 130, Value.ref 130] },
  { cls := Value.type "builtin_function_or_method", data := Data.fields #[Value.builtin "object.__init_subclass__", Value.ref 130] },
  { cls := Value.type "tuple", data := Data.seq #[Value.ref 130] },
  { cls := Value.type "builtin_function_or_method", data := Data.fields #[Value.builtin "type.__prepare__", Value.type "type"] },
  { cls := Value.type "dict", data := Data.dict #[hEnt P "__module__" 361 (hStr "postkeep.errors" 312), hEnt P "__qualname__" 363 (hStr "StoreFault" 362), hEnt P "__firstlineno__" 365 (Value.int 75 364), hEnt P "__static_attributes__" 366 (Value.ref 141)] 4 },
  { cls := Value.type "tuple", data := Data.seq #[] },
  { cls := Value.none, data := Data.fields #[] },
  { cls := Value.type "code", data := Data.fields #[hStr "StoreFault" 356, hStr "StoreFault" 357, hStr "/claim/cut.py" 358, Value.int 75 0, Value.int 0 0, Value.int 0 0, Value.int 0 0, Value.int 0 0, Value.ref 137, Value.bool false, Value.int 181 0, Value.ref 138, Value.none, Value.none, Value.none, Value.none, Value.int 359 0, Value.int 75 0, hStr "/claim/cut.py" 360] },
  { cls := Value.type "frame", slots := #[some (Value.ref 139), some (Value.ref 3), some (Value.ref 136), none, some (hStr "postkeep.errors" 312), none, some (Value.ref 0)] },
  { cls := Value.type "tuple", data := Data.seq #[] },
  { cls := Value.type "dict", data := Data.dict #[hEnt P "__module__" 361 (hStr "postkeep.errors" 312), hEnt P "__firstlineno__" 365 (Value.int 75 364), hEnt P "__static_attributes__" 366 (Value.ref 141), hEnt P "__doc__" 367 (Value.none)] 2 },
  { cls := Value.type "type", data := Data.cls { name := Str.ofString "StoreFault", bases := [Value.ref 130], mro := [Value.ref 143, Value.ref 130, Value.type "Exception", Value.type "BaseException", Value.type "object"], ns := 142, qualname := Str.ofString "StoreFault" }, slots := #[some (Value.ref 134), none, some (hStr "StoreFault" 354), some (hStr "StoreFault" 362), some (Value.builtin "Exception.__new__"), some (Value.bool true)] },
  { cls := Value.type "super", data := Data.fields #[Value.ref 143, Value.ref 143, Value.ref 143] },
  { cls := Value.type "builtin_function_or_method", data := Data.fields #[Value.builtin "object.__init_subclass__", Value.ref 143] },
  { cls := Value.type "tuple", data := Data.seq #[] },
  { cls := Value.none, data := Data.fields #[] },
  { cls := Value.type "tuple", data := Data.seq #[] },
  { cls := Value.type "tuple", data := Data.seq #[] },
  { cls := Value.none, data := Data.func { name := Str.ofString "system_flags", qualname := Str.ofString "system_flags", params := (fnAt 14).1, body := (.stmts (fnAt 14).2.1), scope := (fnAt 14).2.2, globals := 0, closure := [], defaults := Value.none, kwdefaults := Value.none } },
  { cls := Value.type "code", data := Data.fields #[hStr "system_flags" 378, hStr "system_flags" 379, hStr "/claim/cut.py" 380, Value.int 81 0, Value.int 0 0, Value.int 0 0, Value.int 0 0, Value.int 3 0, Value.ref 146, Value.bool true, Value.int 181 0, Value.ref 147, Value.none, Value.ref 148, Value.ref 149, Value.ref 150, Value.int 381 0, Value.int 81 0, hStr "/claim/cut.py" 382] },
  { cls := Value.type "function", data := Data.func { name := Str.ofString "system_flags", qualname := Str.ofString "system_flags", params := (fnAt 14).1, body := (.stmts (fnAt 14).2.1), scope := (fnAt 14).2.2, globals := 3, closure := [], defaults := Value.none, kwdefaults := Value.none, pyModule := hStr "postkeep.boxes" 370, code := Value.ref 151 } },
  { cls := Value.type "tuple", data := Data.seq #[] },
  { cls := Value.none, data := Data.fields #[] },
  { cls := Value.type "tuple", data := Data.seq #[hStr "text" 387, hStr "sign" 388] },
  { cls := Value.type "tuple", data := Data.seq #[] },
  { cls := Value.none, data := Data.func { name := Str.ofString "is_keyword", qualname := Str.ofString "is_keyword", params := (fnAt 15).1, body := (.stmts (fnAt 15).2.1), scope := (fnAt 15).2.2, globals := 0, closure := [], defaults := Value.none, kwdefaults := Value.none } },
  { cls := Value.type "code", data := Data.fields #[hStr "is_keyword" 384, hStr "is_keyword" 385, hStr "/claim/cut.py" 386, Value.int 83 0, Value.int 1 0, Value.int 0 0, Value.int 0 0, Value.int 3 0, Value.ref 153, Value.bool true, Value.int 181 0, Value.ref 154, Value.none, Value.ref 155, Value.ref 156, Value.ref 157, Value.int 389 0, Value.int 83 0, hStr "/claim/cut.py" 390] },
  { cls := Value.type "function", data := Data.func { name := Str.ofString "is_keyword", qualname := Str.ofString "is_keyword", params := (fnAt 15).1, body := (.stmts (fnAt 15).2.1), scope := (fnAt 15).2.2, globals := 3, closure := [], defaults := Value.none, kwdefaults := Value.none, pyModule := hStr "postkeep.boxes" 370, code := Value.ref 158 } },
  { cls := Value.type "tuple", data := Data.seq #[] },
  { cls := Value.none, data := Data.fields #[] },
  { cls := Value.type "tuple", data := Data.seq #[hStr "text" 395, hStr "name" 396] },
  { cls := Value.type "tuple", data := Data.seq #[] },
  { cls := Value.none, data := Data.func { name := Str.ofString "flag_name", qualname := Str.ofString "flag_name", params := (fnAt 16).1, body := (.stmts (fnAt 16).2.1), scope := (fnAt 16).2.2, globals := 0, closure := [], defaults := Value.none, kwdefaults := Value.none } },
  { cls := Value.type "code", data := Data.fields #[hStr "flag_name" 392, hStr "flag_name" 393, hStr "/claim/cut.py" 394, Value.int 90 0, Value.int 1 0, Value.int 0 0, Value.int 0 0, Value.int 3 0, Value.ref 160, Value.bool true, Value.int 181 0, Value.ref 161, Value.none, Value.ref 162, Value.ref 163, Value.ref 164, Value.int 397 0, Value.int 90 0, hStr "/claim/cut.py" 398] },
  { cls := Value.type "function", data := Data.func { name := Str.ofString "flag_name", qualname := Str.ofString "flag_name", params := (fnAt 16).1, body := (.stmts (fnAt 16).2.1), scope := (fnAt 16).2.2, globals := 3, closure := [], defaults := Value.none, kwdefaults := Value.none, pyModule := hStr "postkeep.boxes" 370, code := Value.ref 165 } },
  { cls := Value.type "tuple", data := Data.seq #[] },
  { cls := Value.none, data := Data.fields #[] },
  { cls := Value.type "tuple", data := Data.seq #[hStr "flags" 403, hStr "found" 404, hStr "text" 405, hStr "name" 406] },
  { cls := Value.type "tuple", data := Data.seq #[] },
  { cls := Value.none, data := Data.func { name := Str.ofString "flag_tuple", qualname := Str.ofString "flag_tuple", params := (fnAt 17).1, body := (.stmts (fnAt 17).2.1), scope := (fnAt 17).2.2, globals := 0, closure := [], defaults := Value.none, kwdefaults := Value.none } },
  { cls := Value.type "code", data := Data.fields #[hStr "flag_tuple" 400, hStr "flag_tuple" 401, hStr "/claim/cut.py" 402, Value.int 97 0, Value.int 1 0, Value.int 0 0, Value.int 0 0, Value.int 3 0, Value.ref 167, Value.bool true, Value.int 181 0, Value.ref 168, Value.none, Value.ref 169, Value.ref 170, Value.ref 171, Value.int 407 0, Value.int 97 0, hStr "/claim/cut.py" 408] },
  { cls := Value.type "function", data := Data.func { name := Str.ofString "flag_tuple", qualname := Str.ofString "flag_tuple", params := (fnAt 17).1, body := (.stmts (fnAt 17).2.1), scope := (fnAt 17).2.2, globals := 3, closure := [], defaults := Value.none, kwdefaults := Value.none, pyModule := hStr "postkeep.boxes" 370, code := Value.ref 172 } },
  { cls := Value.type "tuple", data := Data.seq #[] },
  { cls := Value.type "builtin_function_or_method", data := Data.fields #[Value.builtin "type.__prepare__", Value.type "type"] },
  { cls := Value.type "dict", data := Data.dict #[hEnt P "__module__" 417 (hStr "postkeep.boxes" 370), hEnt P "__qualname__" 419 (hStr "Letter" 418), hEnt P "__firstlineno__" 421 (Value.int 104 420), hEnt P "__init__" 433 (Value.ref 187), hEnt P "has" 441 (Value.ref 194), hEnt P "told" 448 (Value.ref 201), hEnt P "__static_attributes__" 454 (Value.ref 202)] 7 },
  { cls := Value.type "tuple", data := Data.seq #[] },
  { cls := Value.none, data := Data.fields #[Value.int 106 0, Value.int 4 0, Value.ref 186, Value.int 113 0, Value.int 4 0, Value.ref 193, Value.int 116 0, Value.int 4 0, Value.ref 200] },
  { cls := Value.type "code", data := Data.fields #[hStr "Letter" 412, hStr "Letter" 413, hStr "/claim/cut.py" 414, Value.int 104 0, Value.int 0 0, Value.int 0 0, Value.int 0 0, Value.int 0 0, Value.ref 177, Value.bool false, Value.int 181 0, Value.ref 178, Value.none, Value.none, Value.none, Value.none, Value.int 415 0, Value.int 104 0, hStr "/claim/cut.py" 416] },
  { cls := Value.type "frame", slots := #[some (Value.ref 179), some (Value.ref 3), some (Value.ref 176), none, some (hStr "postkeep.boxes" 370), none, some (Value.ref 0)] },
  { cls := Value.type "tuple", data := Data.seq #[] },
  { cls := Value.none, data := Data.fields #[] },
  { cls := Value.type "tuple", data := Data.seq #[hStr "self" 425, hStr "uid" 426, hStr "octets" 427, hStr "flags" 428, hStr "instant" 429, hStr "modseq" 430] },
  { cls := Value.type "tuple", data := Data.seq #[] },
  { cls := Value.none, data := Data.func { name := Str.ofString "__init__", qualname := Str.ofString "Letter.__init__", params := (fnAt 18).1, body := (.stmts (fnAt 18).2.1), scope := (fnAt 18).2.2, globals := 0, closure := [], defaults := Value.none, kwdefaults := Value.none } },
  { cls := Value.type "code", data := Data.fields #[hStr "__init__" 422, hStr "Letter.__init__" 423, hStr "/claim/cut.py" 424, Value.int 106 0, Value.int 6 0, Value.int 0 0, Value.int 0 0, Value.int 3 0, Value.ref 181, Value.bool true, Value.int 181 0, Value.ref 182, Value.none, Value.ref 183, Value.ref 184, Value.ref 185, Value.int 431 0, Value.int 106 0, hStr "/claim/cut.py" 432] },
  { cls := Value.type "function", data := Data.func { name := Str.ofString "__init__", qualname := Str.ofString "Letter.__init__", params := (fnAt 18).1, body := (.stmts (fnAt 18).2.1), scope := (fnAt 18).2.2, globals := 3, closure := [], defaults := Value.none, kwdefaults := Value.none, pyModule := hStr "postkeep.boxes" 370, code := Value.ref 186 } },
  { cls := Value.type "tuple", data := Data.seq #[] },
  { cls := Value.none, data := Data.fields #[] },
  { cls := Value.type "tuple", data := Data.seq #[hStr "self" 437, hStr "name" 438] },
  { cls := Value.type "tuple", data := Data.seq #[] },
  { cls := Value.none, data := Data.func { name := Str.ofString "has", qualname := Str.ofString "Letter.has", params := (fnAt 19).1, body := (.stmts (fnAt 19).2.1), scope := (fnAt 19).2.2, globals := 0, closure := [], defaults := Value.none, kwdefaults := Value.none } },
  { cls := Value.type "code", data := Data.fields #[hStr "has" 434, hStr "Letter.has" 435, hStr "/claim/cut.py" 436, Value.int 113 0, Value.int 2 0, Value.int 0 0, Value.int 0 0, Value.int 3 0, Value.ref 188, Value.bool true, Value.int 181 0, Value.ref 189, Value.none, Value.ref 190, Value.ref 191, Value.ref 192, Value.int 439 0, Value.int 113 0, hStr "/claim/cut.py" 440] },
  { cls := Value.type "function", data := Data.func { name := Str.ofString "has", qualname := Str.ofString "Letter.has", params := (fnAt 19).1, body := (.stmts (fnAt 19).2.1), scope := (fnAt 19).2.2, globals := 3, closure := [], defaults := Value.none, kwdefaults := Value.none, pyModule := hStr "postkeep.boxes" 370, code := Value.ref 193 } },
  { cls := Value.type "tuple", data := Data.seq #[] },
  { cls := Value.none, data := Data.fields #[] },
  { cls := Value.type "tuple", data := Data.seq #[hStr "self" 445] },
  { cls := Value.type "tuple", data := Data.seq #[] },
  { cls := Value.none, data := Data.func { name := Str.ofString "told", qualname := Str.ofString "Letter.told", params := (fnAt 20).1, body := (.stmts (fnAt 20).2.1), scope := (fnAt 20).2.2, globals := 0, closure := [], defaults := Value.none, kwdefaults := Value.none } },
  { cls := Value.type "code", data := Data.fields #[hStr "told" 442, hStr "Letter.told" 443, hStr "/claim/cut.py" 444, Value.int 116 0, Value.int 1 0, Value.int 0 0, Value.int 0 0, Value.int 3 0, Value.ref 195, Value.bool true, Value.int 181 0, Value.ref 196, Value.none, Value.ref 197, Value.ref 198, Value.ref 199, Value.int 446 0, Value.int 116 0, hStr "/claim/cut.py" 447] },
  { cls := Value.type "function", data := Data.func { name := Str.ofString "told", qualname := Str.ofString "Letter.told", params := (fnAt 20).1, body := (.stmts (fnAt 20).2.1), scope := (fnAt 20).2.2, globals := 3, closure := [], defaults := Value.none, kwdefaults := Value.none, pyModule := hStr "postkeep.boxes" 370, code := Value.ref 200 } },
  { cls := Value.type "tuple", data := Data.seq #[hStr "flags" 449, hStr "instant" 450, hStr "modseq" 451, hStr "octets" 452, hStr "uid" 453] },
  { cls := Value.type "dict", data := Data.dict #[hEnt P "__module__" 417 (hStr "postkeep.boxes" 370), hEnt P "__firstlineno__" 421 (Value.int 104 420), hEnt P "__init__" 433 (Value.ref 187), hEnt P "has" 441 (Value.ref 194), hEnt P "told" 448 (Value.ref 201), hEnt P "__static_attributes__" 454 (Value.ref 202), hEnt P "__dict__" 456 (Value.ref 205), hEnt P "__weakref__" 458 (Value.ref 206), hEnt P "__doc__" 459 (Value.none)] 4 },
  { cls := Value.type "type", data := Data.cls { name := Str.ofString "Letter", bases := [Value.type "object"], mro := [Value.ref 204, Value.type "object"], ns := 203, qualname := Str.ofString "Letter" }, slots := #[none, none, some (hStr "Letter" 410), some (hStr "Letter" 418), some (Value.builtin "object.__new__"), some (Value.bool true)] },
  { cls := Value.type "getset_descriptor", data := Data.fields #[hStr "__dict__" 455, Value.ref 204, Value.builtin "function.__dict__", Value.builtin "function.__dict__#set"] },
  { cls := Value.type "getset_descriptor", data := Data.fields #[hStr "__weakref__" 457, Value.ref 204, Value.builtin "ExceptionGroup.__weakref__", Value.none] },
  { cls := Value.type "super", data := Data.fields #[Value.ref 204, Value.ref 204, Value.ref 204] },
  { cls := Value.type "builtin_function_or_method", data := Data.fields #[Value.builtin "object.__init_subclass__", Value.ref 204] },
  { cls := Value.type "tuple", data := Data.seq #[] },
  { cls := Value.type "builtin_function_or_method", data := Data.fields #[Value.builtin "type.__prepare__", Value.type "type"] },
  { cls := Value.type "dict", data := Data.dict #[hEnt P "__module__" 469 (hStr "postkeep.boxes" 370), hEnt P "__qualname__" 471 (hStr "Box" 470), hEnt P "__firstlineno__" 473 (Value.int 118 472), hEnt P "__init__" 482 (Value.ref 222), hEnt P "letter" 491 (Value.ref 229), hEnt P "uids" 497 (Value.ref 234), hEnt P "told" 503 (Value.ref 239), hEnt P "__static_attributes__" 511 (Value.ref 240)] 8 },
  { cls := Value.type "tuple", data := Data.seq #[] },
  { cls := Value.none, data := Data.fields #[Value.int 120 0, Value.int 4 0, Value.ref 221, Value.int 129 0, Value.int 4 0, Value.ref 228, Value.int 133 0, Value.int 4 0, Value.ref 233, Value.int 136 0, Value.int 4 0, Value.ref 238] },
  { cls := Value.type "code", data := Data.fields #[hStr "Box" 464, hStr "Box" 465, hStr "/claim/cut.py" 466, Value.int 118 0, Value.int 0 0, Value.int 0 0, Value.int 0 0, Value.int 0 0, Value.ref 212, Value.bool false, Value.int 181 0, Value.ref 213, Value.none, Value.none, Value.none, Value.none, Value.int 467 0, Value.int 118 0, hStr "/claim/cut.py" 468] },
  { cls := Value.type "frame", slots := #[some (Value.ref 214), some (Value.ref 3), some (Value.ref 211), none, some (hStr "postkeep.boxes" 370), none, some (Value.ref 0)] },
  { cls := Value.type "tuple", data := Data.seq #[] },
  { cls := Value.none, data := Data.fields #[] },
  { cls := Value.type "tuple", data := Data.seq #[hStr "self" 477, hStr "name" 478, hStr "validity" 479] },
  { cls := Value.type "tuple", data := Data.seq #[] },
  { cls := Value.none, data := Data.func { name := Str.ofString "__init__", qualname := Str.ofString "Box.__init__", params := (fnAt 21).1, body := (.stmts (fnAt 21).2.1), scope := (fnAt 21).2.2, globals := 0, closure := [], defaults := Value.none, kwdefaults := Value.none } },
  { cls := Value.type "code", data := Data.fields #[hStr "__init__" 474, hStr "Box.__init__" 475, hStr "/claim/cut.py" 476, Value.int 120 0, Value.int 3 0, Value.int 0 0, Value.int 0 0, Value.int 3 0, Value.ref 216, Value.bool true, Value.int 181 0, Value.ref 217, Value.none, Value.ref 218, Value.ref 219, Value.ref 220, Value.int 480 0, Value.int 120 0, hStr "/claim/cut.py" 481] },
  { cls := Value.type "function", data := Data.func { name := Str.ofString "__init__", qualname := Str.ofString "Box.__init__", params := (fnAt 21).1, body := (.stmts (fnAt 21).2.1), scope := (fnAt 21).2.2, globals := 3, closure := [], defaults := Value.none, kwdefaults := Value.none, pyModule := hStr "postkeep.boxes" 370, code := Value.ref 221 } },
  { cls := Value.type "tuple", data := Data.seq #[] },
  { cls := Value.none, data := Data.fields #[] },
  { cls := Value.type "tuple", data := Data.seq #[hStr "self" 486, hStr "uid" 487, hStr "at" 488] },
  { cls := Value.type "tuple", data := Data.seq #[] },
  { cls := Value.none, data := Data.func { name := Str.ofString "letter", qualname := Str.ofString "Box.letter", params := (fnAt 22).1, body := (.stmts (fnAt 22).2.1), scope := (fnAt 22).2.2, globals := 0, closure := [], defaults := Value.none, kwdefaults := Value.none } },
  { cls := Value.type "code", data := Data.fields #[hStr "letter" 483, hStr "Box.letter" 484, hStr "/claim/cut.py" 485, Value.int 129 0, Value.int 2 0, Value.int 0 0, Value.int 0 0, Value.int 3 0, Value.ref 223, Value.bool true, Value.int 181 0, Value.ref 224, Value.none, Value.ref 225, Value.ref 226, Value.ref 227, Value.int 489 0, Value.int 129 0, hStr "/claim/cut.py" 490] },
  { cls := Value.type "function", data := Data.func { name := Str.ofString "letter", qualname := Str.ofString "Box.letter", params := (fnAt 22).1, body := (.stmts (fnAt 22).2.1), scope := (fnAt 22).2.2, globals := 3, closure := [], defaults := Value.none, kwdefaults := Value.none, pyModule := hStr "postkeep.boxes" 370, code := Value.ref 228 } },
  { cls := Value.type "tuple", data := Data.seq #[] },
  { cls := Value.none, data := Data.fields #[] },
  { cls := Value.none, data := Data.func { name := Str.ofString "uids", qualname := Str.ofString "Box.uids", params := (fnAt 23).1, body := (.stmts (fnAt 23).2.1), scope := (fnAt 23).2.2, globals := 0, closure := [], defaults := Value.none, kwdefaults := Value.none } },
  { cls := Value.type "code", data := Data.fields #[hStr "uids" 492, hStr "Box.uids" 493, hStr "/claim/cut.py" 494, Value.int 133 0, Value.int 1 0, Value.int 0 0, Value.int 0 0, Value.int 3 0, Value.ref 230, Value.bool true, Value.int 181 0, Value.ref 231, Value.none, Value.none, Value.none, Value.ref 232, Value.int 495 0, Value.int 133 0, hStr "/claim/cut.py" 496] },
  { cls := Value.type "function", data := Data.func { name := Str.ofString "uids", qualname := Str.ofString "Box.uids", params := (fnAt 23).1, body := (.stmts (fnAt 23).2.1), scope := (fnAt 23).2.2, globals := 3, closure := [], defaults := Value.none, kwdefaults := Value.none, pyModule := hStr "postkeep.boxes" 370, code := Value.ref 233 } },
  { cls := Value.type "tuple", data := Data.seq #[] },
  { cls := Value.none, data := Data.fields #[] },
  { cls := Value.none, data := Data.func { name := Str.ofString "told", qualname := Str.ofString "Box.told", params := (fnAt 24).1, body := (.stmts (fnAt 24).2.1), scope := (fnAt 24).2.2, globals := 0, closure := [], defaults := Value.none, kwdefaults := Value.none } },
  { cls := Value.type "code", data := Data.fields #[hStr "told" 498, hStr "Box.told" 499, hStr "/claim/cut.py" 500, Value.int 136 0, Value.int 1 0, Value.int 0 0, Value.int 0 0, Value.int 3 0, Value.ref 235, Value.bool true, Value.int 181 0, Value.ref 236, Value.none, Value.none, Value.none, Value.ref 237, Value.int 501 0, Value.int 136 0, hStr "/claim/cut.py" 502] },
  { cls := Value.type "function", data := Data.func { name := Str.ofString "told", qualname := Str.ofString "Box.told", params := (fnAt 24).1, body := (.stmts (fnAt 24).2.1), scope := (fnAt 24).2.2, globals := 3, closure := [], defaults := Value.none, kwdefaults := Value.none, pyModule := hStr "postkeep.boxes" 370, code := Value.ref 238 } },
  { cls := Value.type "tuple", data := Data.seq #[hStr "floor" 504, hStr "gone" 505, hStr "letters" 506, hStr "name" 507, hStr "next_uid" 508, hStr "top" 509, hStr "validity" 510] },
  { cls := Value.type "dict", data := Data.dict #[hEnt P "__module__" 469 (hStr "postkeep.boxes" 370), hEnt P "__firstlineno__" 473 (Value.int 118 472), hEnt P "__init__" 482 (Value.ref 222), hEnt P "letter" 491 (Value.ref 229), hEnt P "uids" 497 (Value.ref 234), hEnt P "told" 503 (Value.ref 239), hEnt P "__static_attributes__" 511 (Value.ref 240), hEnt P "__dict__" 513 (Value.ref 243), hEnt P "__weakref__" 515 (Value.ref 244), hEnt P "__doc__" 516 (Value.none)] 4 },
  { cls := Value.type "type", data := Data.cls { name := Str.ofString "Box", bases := [Value.type "object"], mro := [Value.ref 242, Value.type "object"], ns := 241, qualname := Str.ofString "Box" }, slots := #[none, none, some (hStr "Box" 462), some (hStr "Box" 470), some (Value.builtin "object.__new__"), some (Value.bool true)] },
  { cls := Value.type "getset_descriptor", data := Data.fields #[hStr "__dict__" 512, Value.ref 242, Value.builtin "function.__dict__", Value.builtin "function.__dict__#set"] },
  { cls := Value.type "getset_descriptor", data := Data.fields #[hStr "__weakref__" 514, Value.ref 242, Value.builtin "ExceptionGroup.__weakref__", Value.none] },
  { cls := Value.type "super", data := Data.fields #[Value.ref 242, Value.ref 242, Value.ref 242] },
  { cls := Value.type "builtin_function_or_method", data := Data.fields #[Value.builtin "object.__init_subclass__", Value.ref 242] },
  { cls := Value.type "tuple", data := Data.seq #[] },
  { cls := Value.none, data := Data.fields #[] },
  { cls := Value.type "tuple", data := Data.seq #[hStr "letters" 522, hStr "uid" 523, hStr "low" 524, hStr "high" 525, hStr "middle" 526] },
  { cls := Value.type "tuple", data := Data.seq #[] },
  { cls := Value.none, data := Data.func { name := Str.ofString "place_of", qualname := Str.ofString "place_of", params := (fnAt 25).1, body := (.stmts (fnAt 25).2.1), scope := (fnAt 25).2.2, globals := 0, closure := [], defaults := Value.none, kwdefaults := Value.none } },
  { cls := Value.type "code", data := Data.fields #[hStr "place_of" 519, hStr "place_of" 520, hStr "/claim/cut.py" 521, Value.int 139 0, Value.int 2 0, Value.int 0 0, Value.int 0 0, Value.int 3 0, Value.ref 247, Value.bool true, Value.int 181 0, Value.ref 248, Value.none, Value.ref 249, Value.ref 250, Value.ref 251, Value.int 527 0, Value.int 139 0, hStr "/claim/cut.py" 528] },
  { cls := Value.type "function", data := Data.func { name := Str.ofString "place_of", qualname := Str.ofString "place_of", params := (fnAt 25).1, body := (.stmts (fnAt 25).2.1), scope := (fnAt 25).2.2, globals := 3, closure := [], defaults := Value.none, kwdefaults := Value.none, pyModule := hStr "postkeep.boxes" 370, code := Value.ref 252 } },
  { cls := Value.type "tuple", data := Data.seq #[] },
  { cls := Value.none, data := Data.fields #[] },
  { cls := Value.type "tuple", data := Data.seq #[hStr "box" 533] },
  { cls := Value.type "tuple", data := Data.seq #[] },
  { cls := Value.none, data := Data.func { name := Str.ofString "raised", qualname := Str.ofString "raised", params := (fnAt 26).1, body := (.stmts (fnAt 26).2.1), scope := (fnAt 26).2.2, globals := 0, closure := [], defaults := Value.none, kwdefaults := Value.none } },
  { cls := Value.type "code", data := Data.fields #[hStr "raised" 530, hStr "raised" 531, hStr "/claim/cut.py" 532, Value.int 150 0, Value.int 1 0, Value.int 0 0, Value.int 0 0, Value.int 3 0, Value.ref 254, Value.bool true, Value.int 181 0, Value.ref 255, Value.none, Value.ref 256, Value.ref 257, Value.ref 258, Value.int 534 0, Value.int 150 0, hStr "/claim/cut.py" 535] },
  { cls := Value.type "function", data := Data.func { name := Str.ofString "raised", qualname := Str.ofString "raised", params := (fnAt 26).1, body := (.stmts (fnAt 26).2.1), scope := (fnAt 26).2.2, globals := 3, closure := [], defaults := Value.none, kwdefaults := Value.none, pyModule := hStr "postkeep.boxes" 370, code := Value.ref 259 } },
  { cls := Value.type "tuple", data := Data.seq #[] },
  { cls := Value.none, data := Data.fields #[] },
  { cls := Value.type "tuple", data := Data.seq #[hStr "box" 540, hStr "octets" 541, hStr "flags" 542, hStr "instant" 543, hStr "names" 544, hStr "letter" 545] },
  { cls := Value.type "tuple", data := Data.seq #[] },
  { cls := Value.none, data := Data.func { name := Str.ofString "add_letter", qualname := Str.ofString "add_letter", params := (fnAt 27).1, body := (.stmts (fnAt 27).2.1), scope := (fnAt 27).2.2, globals := 0, closure := [], defaults := Value.none, kwdefaults := Value.none } },
  { cls := Value.type "code", data := Data.fields #[hStr "add_letter" 537, hStr "add_letter" 538, hStr "/claim/cut.py" 539, Value.int 153 0, Value.int 4 0, Value.int 0 0, Value.int 0 0, Value.int 3 0, Value.ref 261, Value.bool true, Value.int 181 0, Value.ref 262, Value.none, Value.ref 263, Value.ref 264, Value.ref 265, Value.int 546 0, Value.int 153 0, hStr "/claim/cut.py" 547] },
  { cls := Value.type "function", data := Data.func { name := Str.ofString "add_letter", qualname := Str.ofString "add_letter", params := (fnAt 27).1, body := (.stmts (fnAt 27).2.1), scope := (fnAt 27).2.2, globals := 3, closure := [], defaults := Value.none, kwdefaults := Value.none, pyModule := hStr "postkeep.boxes" 370, code := Value.ref 266 } },
  { cls := Value.type "tuple", data := Data.seq #[] },
  { cls := Value.none, data := Data.fields #[] },
  { cls := Value.none, data := Data.func { name := Str.ofString "expunge", qualname := Str.ofString "expunge", params := (fnAt 28).1, body := (.stmts (fnAt 28).2.1), scope := (fnAt 28).2.2, globals := 0, closure := [], defaults := Value.none, kwdefaults := Value.none } },
  { cls := Value.type "code", data := Data.fields #[hStr "expunge" 549, hStr "expunge" 550, hStr "/claim/cut.py" 551, Value.int 159 0, Value.int 2 0, Value.int 0 0, Value.int 0 0, Value.int 3 0, Value.ref 268, Value.bool true, Value.int 181 0, Value.ref 269, Value.none, Value.none, Value.none, Value.ref 270, Value.int 552 0, Value.int 159 0, hStr "/claim/cut.py" 553] },
  { cls := Value.type "function", data := Data.func { name := Str.ofString "expunge", qualname := Str.ofString "expunge", params := (fnAt 28).1, body := (.stmts (fnAt 28).2.1), scope := (fnAt 28).2.2, globals := 3, closure := [], defaults := Value.none, kwdefaults := Value.none, pyModule := hStr "postkeep.boxes" 370, code := Value.ref 271 } },
  { cls := Value.type "tuple", data := Data.seq #[] },
  { cls := Value.none, data := Data.fields #[] },
  { cls := Value.type "tuple", data := Data.seq #[hStr "pen" 560, hStr "many" 561, hStr "spot" 562] },
  { cls := Value.type "tuple", data := Data.seq #[] },
  { cls := Value.none, data := Data.func { name := Str.ofString "_law_draw", qualname := Str.ofString "_law_draw", params := (fnAt 29).1, body := (.stmts (fnAt 29).2.1), scope := (fnAt 29).2.2, globals := 0, closure := [], defaults := Value.none, kwdefaults := Value.none } },
  { cls := Value.type "code", data := Data.fields #[hStr "_law_draw" 557, hStr "_law_draw" 558, hStr "/claim/cut.py" 559, Value.int 171 0, Value.int 2 0, Value.int 0 0, Value.int 0 0, Value.int 3 0, Value.ref 273, Value.bool true, Value.int 181 0, Value.ref 274, Value.none, Value.ref 275, Value.ref 276, Value.ref 277, Value.int 563 0, Value.int 171 0, hStr "/claim/cut.py" 564] },
  { cls := Value.type "function", data := Data.func { name := Str.ofString "_law_draw", qualname := Str.ofString "_law_draw", params := (fnAt 29).1, body := (.stmts (fnAt 29).2.1), scope := (fnAt 29).2.2, globals := 3, closure := [], defaults := Value.none, kwdefaults := Value.none, pyModule := hStr "law_nz0296_01" 555, code := Value.ref 278 } },
  { cls := Value.type "tuple", data := Data.seq #[] },
  { cls := Value.none, data := Data.fields #[] },
  { cls := Value.type "tuple", data := Data.seq #[hStr "some" 569, hStr "found" 570, hStr "uid" 571] },
  { cls := Value.type "tuple", data := Data.seq #[] },
  { cls := Value.none, data := Data.func { name := Str.ofString "_law_ranges", qualname := Str.ofString "_law_ranges", params := (fnAt 30).1, body := (.stmts (fnAt 30).2.1), scope := (fnAt 30).2.2, globals := 0, closure := [], defaults := Value.none, kwdefaults := Value.none } },
  { cls := Value.type "code", data := Data.fields #[hStr "_law_ranges" 566, hStr "_law_ranges" 567, hStr "/claim/cut.py" 568, Value.int 177 0, Value.int 1 0, Value.int 0 0, Value.int 0 0, Value.int 3 0, Value.ref 280, Value.bool true, Value.int 181 0, Value.ref 281, Value.none, Value.ref 282, Value.ref 283, Value.ref 284, Value.int 572 0, Value.int 177 0, hStr "/claim/cut.py" 573] },
  { cls := Value.type "function", data := Data.func { name := Str.ofString "_law_ranges", qualname := Str.ofString "_law_ranges", params := (fnAt 30).1, body := (.stmts (fnAt 30).2.1), scope := (fnAt 30).2.2, globals := 3, closure := [], defaults := Value.none, kwdefaults := Value.none, pyModule := hStr "law_nz0296_01" 555, code := Value.ref 285 } },
  { cls := Value.type "tuple", data := Data.seq #[] },
  { cls := Value.none, data := Data.fields #[] },
  { cls := Value.none, data := Data.func { name := Str.ofString "law", qualname := Str.ofString "law", params := (fnAt 31).1, body := (.stmts (fnAt 31).2.1), scope := (fnAt 31).2.2, globals := 0, closure := [], defaults := Value.none, kwdefaults := Value.none } },
  { cls := Value.type "code", data := Data.fields #[hStr "law" 575, hStr "law" 576, hStr "/claim/cut.py" 577, Value.int 185 0, Value.int 1 0, Value.int 0 0, Value.int 0 0, Value.int 3 0, Value.ref 287, Value.bool true, Value.int 181 0, Value.ref 288, Value.none, Value.none, Value.none, Value.ref 289, Value.int 578 0, Value.int 185 0, hStr "/claim/cut.py" 579] },
  { cls := Value.type "function", data := Data.func { name := Str.ofString "law", qualname := Str.ofString "law", params := (fnAt 31).1, body := (.stmts (fnAt 31).2.1), scope := (fnAt 31).2.2, globals := 3, closure := [], defaults := Value.none, kwdefaults := Value.none, pyModule := hStr "law_nz0296_01" 555, code := Value.ref 290 } }]
noncomputable def treeFrom : List Obj → Nat → BT → BT
  | [], _, t => t
  | o :: l, i, t => treeFrom l (i + 1) (t.ins i o)
noncomputable def objs0 (P : Params) : List Obj := (((((endObjs P).take 15).set 2
    (PySem.W.boot_o_2 P : Obj)).set 3
    (PySem.W.boot_o_3 P : Obj)).set 12
    ({ cls := Value.none, data := Data.fields #[] } : Obj))
noncomputable def objs1 (P : Params) : List Obj := (((((endObjs P).take 82).set 2
    (PySem.W.boot_o_2 P : Obj)).set 3
    ({ cls := Value.type "dict", data := Data.dict #[hEnt P "__name__" 165 (hStr "postkeep.view" 205), hEnt P "__doc__" 166 (Value.none), hEnt P "__package__" 167 (Value.none), hEnt P "__loader__" 168 (Value.builtin "__main__.__loader__#opaque"), hEnt P "__spec__" 169 (Value.none), hEnt P "__annotations__" 170 (Value.ref 6), hEnt P "__builtins__" 171 (Value.ref 4), hEnt P "__file__" 173 (hStr "/claim/cut.py" 172), hEnt P "__cached__" 174 (Value.none), hEnt P "_wall" 193 (Value.ref 21), hEnt P "ranges_of" 204 (Value.ref 28), hEnt P "View" 278 (Value.ref 77)] 12 } : Obj)).set 12
    ({ cls := Value.none, data := Data.fields #[Value.int 1 0, Value.int 0 0, Value.ref 20, Value.int 5 0, Value.int 0 0, Value.ref 27, Value.int 14 0, Value.int 0 0, Value.ref 34] } : Obj))
noncomputable def objs2 (P : Params) : List Obj := (((((endObjs P).take 134).set 3
    ({ cls := Value.type "dict", data := Data.dict #[hEnt P "__name__" 165 (hStr "postkeep.errors" 312), hEnt P "__doc__" 166 (Value.none), hEnt P "__package__" 167 (Value.none), hEnt P "__loader__" 168 (Value.builtin "__main__.__loader__#opaque"), hEnt P "__spec__" 169 (Value.none), hEnt P "__annotations__" 170 (Value.ref 6), hEnt P "__builtins__" 171 (Value.ref 4), hEnt P "__file__" 173 (hStr "/claim/cut.py" 172), hEnt P "__cached__" 174 (Value.none), hEnt P "_wall" 193 (Value.ref 21), hEnt P "ranges_of" 204 (Value.ref 28), hEnt P "View" 278 (Value.ref 77), hEnt P "place_among" 289 (Value.ref 88), hEnt P "gone_uids" 295 (Value.ref 93), hEnt P "forget" 301 (Value.ref 98), hEnt P "expunge_news" 311 (Value.ref 105), hEnt P "PostError" 353 (Value.ref 130)] 17 } : Obj)).set 12
    ({ cls := Value.none, data := Data.fields #[Value.int 1 0, Value.int 0 0, Value.ref 20, Value.int 5 0, Value.int 0 0, Value.ref 27, Value.int 14 0, Value.int 0 0, Value.ref 34, Value.int 39 0, Value.int 0 0, Value.ref 87, Value.int 48 0, Value.int 0 0, Value.ref 92, Value.int 51 0, Value.int 0 0, Value.ref 97, Value.int 55 0, Value.int 0 0, Value.ref 104, Value.int 66 0, Value.int 0 0, Value.ref 111] } : Obj)).set 130
    ({ cls := Value.type "type", data := Data.cls { name := Str.ofString "PostError", bases := [Value.type "Exception"], mro := [Value.ref 130, Value.type "Exception", Value.type "BaseException", Value.type "object"], ns := 129, qualname := Str.ofString "PostError" }, slots := #[some (Value.ref 106), none, some (hStr "PostError" 314), some (hStr "PostError" 322), some (Value.builtin "Exception.__new__"), some (Value.bool true)] } : Obj))
noncomputable def objs3 (P : Params) : List Obj := ((((endObjs P).take 209).set 3
    ({ cls := Value.type "dict", data := Data.dict #[hEnt P "__name__" 165 (hStr "postkeep.boxes" 370), hEnt P "__doc__" 166 (Value.none), hEnt P "__package__" 167 (Value.none), hEnt P "__loader__" 168 (Value.builtin "__main__.__loader__#opaque"), hEnt P "__spec__" 169 (Value.none), hEnt P "__annotations__" 170 (Value.ref 6), hEnt P "__builtins__" 171 (Value.ref 4), hEnt P "__file__" 173 (hStr "/claim/cut.py" 172), hEnt P "__cached__" 174 (Value.none), hEnt P "_wall" 193 (Value.ref 21), hEnt P "ranges_of" 204 (Value.ref 28), hEnt P "View" 278 (Value.ref 77), hEnt P "place_among" 289 (Value.ref 88), hEnt P "gone_uids" 295 (Value.ref 93), hEnt P "forget" 301 (Value.ref 98), hEnt P "expunge_news" 311 (Value.ref 105), hEnt P "PostError" 353 (Value.ref 130), hEnt P "StoreFault" 369 (Value.ref 143), hEnt P "SYSTEM" 373 (hStr "\\Seen \\Answered \\Flagged \\Deleted \\Draft" 372), hEnt P "NO_KEYWORD" 375 (Value.str (Str.ofString "(){ %*\"\\]") 374), hEnt P "MOST_KEYWORD" 377 (Value.int 60 376), hEnt P "system_flags" 383 (Value.ref 152), hEnt P "is_keyword" 391 (Value.ref 159), hEnt P "flag_name" 399 (Value.ref 166), hEnt P "flag_tuple" 409 (Value.ref 173), hEnt P "Letter" 461 (Value.ref 204)] 26 } : Obj)).set 12
    ({ cls := Value.none, data := Data.fields #[Value.int 1 0, Value.int 0 0, Value.ref 20, Value.int 5 0, Value.int 0 0, Value.ref 27, Value.int 14 0, Value.int 0 0, Value.ref 34, Value.int 39 0, Value.int 0 0, Value.ref 87, Value.int 48 0, Value.int 0 0, Value.ref 92, Value.int 51 0, Value.int 0 0, Value.ref 97, Value.int 55 0, Value.int 0 0, Value.ref 104, Value.int 66 0, Value.int 0 0, Value.ref 111, Value.int 75 0, Value.int 0 0, Value.ref 139, Value.int 81 0, Value.int 0 0, Value.ref 151, Value.int 83 0, Value.int 0 0, Value.ref 158, Value.int 90 0, Value.int 0 0, Value.ref 165, Value.int 97 0, Value.int 0 0, Value.ref 172, Value.int 104 0, Value.int 0 0, Value.ref 179] } : Obj))
noncomputable def objs4 (P : Params) : List Obj := (endObjs P)
noncomputable abbrev tB : List Stmt := behindTheImports lawProg
noncomputable def tEnv : Env := { scope := lawProg.main.scope, locals := mainNs, globals := mainNs, cells := [], code := .ref 13, frame := some 14 }
noncomputable abbrev tC : Code := .body tB tEnv
noncomputable abbrev tF : List Frame := [topFrame ⟨0, 0, 0, 0⟩]
noncomputable abbrev tS (l : List Obj) (n toks : Nat) (os : OsState) : SharedT := ⟨treeFrom l 0 .nil, n, {}, Array.mk [], {}, toks, os⟩
section
variable (w : World) (os : OsState)
theorem t_pre : topGo treeTable lawProg w 11 (some (.ref 6)) 12 ⟨boot_heap w.params, Array.mk [], boot_drawn, boot_toks, os⟩ (topStub lawProg) = some ((tS (objs0 w.params) 15 187 os).abs, ⟨denote treeTable tC, tC, ⟨0, 0, 0, 0⟩, tF⟩) := by kernel_rfl
theorem t_block : segRun treeTable lawProg w 11 (some (.ref 6)) 1 1 (tS (objs0 w.params) 15 187 os).abs (blockOf tB tEnv tC ⟨0, 0, 0, 0⟩ tF) = some (.next, (tS (objs0 w.params) 15 187 os).abs, tC, ⟨0, 0, 0, 0⟩) := by kernel_rfl
theorem t_1F : PySem.W.Fast.tw10110043849684766642 treeTable lawProg w 11 (some (.ref 6)) 1 461 (tS (objs0 w.params) 15 187 os) (piecesOf ((tB.drop 0).take 5) tEnv tC ⟨0, 0, 0, 0⟩ tF) = some (.next, (tS (objs1 w.params) 82 279 os), tC, ⟨14, 0, 38, 86⟩) := by kernel_rfl
theorem t_1 : segRun treeTable lawProg w 11 (some (.ref 6)) 1 461 (tS (objs0 w.params) 15 187 os).abs (piecesOf ((tB.drop 0).take 5) tEnv tC ⟨0, 0, 0, 0⟩ tF) = some (.next, (tS (objs1 w.params) 82 279 os).abs, tC, ⟨14, 0, 38, 86⟩) := segRun_of (by rw [PySem.W.Fast.te10110043849684766642]; exact t_1F w os)
theorem t_2F : PySem.W.Fast.tw10110043849684766642 treeTable lawProg w 11 (some (.ref 6)) 1 395 (tS (objs1 w.params) 82 279 os) (piecesOf ((tB.drop 5).take 6) tEnv tC ⟨14, 0, 38, 86⟩ tF) = some (.next, (tS (objs2 w.params) 134 354 os), tC, ⟨66, 0, 74, 35⟩) := by kernel_rfl
theorem t_2 : segRun treeTable lawProg w 11 (some (.ref 6)) 1 395 (tS (objs1 w.params) 82 279 os).abs (piecesOf ((tB.drop 5).take 6) tEnv tC ⟨14, 0, 38, 86⟩ tF) = some (.next, (tS (objs2 w.params) 134 354 os).abs, tC, ⟨66, 0, 74, 35⟩) := segRun_of (by rw [PySem.W.Fast.te10110043849684766642]; exact t_2F w os)
theorem t_3F : PySem.W.Fast.tw10110043849684766642 treeTable lawProg w 11 (some (.ref 6)) 1 663 (tS (objs2 w.params) 134 354 os) (piecesOf ((tB.drop 11).take 10) tEnv tC ⟨66, 0, 74, 35⟩ tF) = some (.next, (tS (objs3 w.params) 209 462 os), tC, ⟨104, 0, 117, 77⟩) := by kernel_rfl
theorem t_3 : segRun treeTable lawProg w 11 (some (.ref 6)) 1 663 (tS (objs2 w.params) 134 354 os).abs (piecesOf ((tB.drop 11).take 10) tEnv tC ⟨66, 0, 74, 35⟩ tF) = some (.next, (tS (objs3 w.params) 209 462 os).abs, tC, ⟨104, 0, 117, 77⟩) := segRun_of (by rw [PySem.W.Fast.te10110043849684766642]; exact t_3F w os)
theorem t_4F : PySem.W.Fast.tw10110043849684766642 treeTable lawProg w 11 (some (.ref 6)) 1 538 (tS (objs3 w.params) 209 462 os) (piecesOf ((tB.drop 21).take 9) tEnv tC ⟨104, 0, 117, 77⟩ tF) = some (.next, (tS (objs4 w.params) 292 581 os), tC, ⟨185, 0, 221, 155⟩) := by kernel_rfl
theorem t_4 : segRun treeTable lawProg w 11 (some (.ref 6)) 1 538 (tS (objs3 w.params) 209 462 os).abs (piecesOf ((tB.drop 21).take 9) tEnv tC ⟨104, 0, 117, 77⟩ tF) = some (.next, (tS (objs4 w.params) 292 581 os).abs, tC, ⟨185, 0, 221, 155⟩) := segRun_of (by rw [PySem.W.Fast.te10110043849684766642]; exact t_4F w os)
theorem t_cut : tB = ((tB.drop 0).take 5) ++ (((tB.drop 5).take 6) ++ (((tB.drop 11).take 10) ++ (((tB.drop 21).take 9) ++ []))) := by kernel_rfl
noncomputable def lawHeap (P : Params) : Heap := absHeap (treeFrom (objs4 P) 0 .nil) 292 {}
noncomputable abbrev lawEnd : SharedT := tS (objs4 w.params) 292 581 os
theorem t_fin : topRun treeTable lawProg w 11 (some (.ref 6)) 2 (lawEnd w os).abs ⟨doneF .next, tC, ⟨185, 0, 221, 155⟩, tF⟩ = some (lawEnd w os).abs := by kernel_rfl
theorem t_end : (lawEnd w os).abs = ⟨lawHeap w.params, Array.mk [], {}, 581, os⟩ := by kernel_rfl
theorem t_run : topRun treeTable lawProg w 11 (some (.ref 6)) (12 + (1 + (461 + (395 + (663 + (538 + 2)))))) ⟨boot_heap w.params, Array.mk [], boot_drawn, boot_toks, os⟩ (topStub lawProg) = some ⟨lawHeap w.params, Array.mk [], {}, 581, os⟩ := by
  rw [← t_end]
  refine go_top (t_pre w os) (piece_block (t_block w os) ?_)
  rw [t_cut]
  exact piece_app (t_1 w os) (piece_app (t_2 w os) (piece_app (t_3 w os) (piece_app (t_4 w os) (piece_nil (t_fin w os)))))
theorem boot_size : ((boot_heap w.params).isNs mainGlobals && (Array.mk [] : Array GenState).size == 0, (boot_heap w.params).objs.size, (boot_heap w.params).nsMap mainGlobals "__annotations__") = (true, 11, some (Value.ref 6)) := by kernel_rfl
end
theorem head_said : PySem.Challenge.rw_nz0296_01.wellSaid = true := by
  rw [PySem.W.Fast.te9446332074065402090]
  delta PySem.W.Fast.tw9446332074065402090
  repeat (rw [Bool.and_eq_true]; refine ⟨?_, by decide +kernel⟩)
  delta PySem.W.Fast.tw17960256430627541270
  repeat (rw [Bool.and_eq_true]; refine ⟨?_, by decide +kernel⟩)
  delta PySem.W.Fast.tw2436336058641802641
  repeat (rw [Bool.and_eq_true]; refine ⟨?_, by decide +kernel⟩)
  delta PySem.W.Fast.tw12908688711261696721
  repeat (rw [Bool.and_eq_true]; refine ⟨?_, by decide +kernel⟩)
  decide +kernel
theorem head_plain : opening lawProg = plainProg lawProg.main.scope.names := by kernel_rfl
theorem head_fence (s : Shared) : fenceModules? lawProg s = some s := by kernel_rfl
theorem head_r1 (w : World) (os : OsState) : (staticsOk (importedModules lawProg.main.body) (boot_heap w.params) (lawHeap w.params) && namesBound lawProg (lawHeap w.params) && gensDone ⟨lawHeap w.params, Array.mk [], {}, 581, os⟩ && laidKept (boot_heap w.params) (lawHeap w.params)) = true := by kernel_rfl
theorem head_r2F (w : World) (os : OsState) : PySem.W.Fast.tw4187177175401517315 lawView lawLoose (importedModules lawProg.main.body) lawXt true ⟨lawHeap w.params, Array.mk [], {}, 581, os⟩ = openGood lawView lawLoose := by kernel_rfl
theorem head_r2 (w : World) (os : OsState) : openSeen lawView lawLoose (importedModules lawProg.main.body) lawXt true ⟨lawHeap w.params, Array.mk [], {}, 581, os⟩ = openGood lawView lawLoose := by
  rw [PySem.W.Fast.te4187177175401517315]; exact head_r2F w os
set_option maxHeartbeats 400000 in
theorem head_left {α : Type} {Yf : Shared → α} {Ya : World → α} (r3 : ∀ w os, Yf ⟨lawHeap w.params, Array.mk [], {}, 581, os⟩ = Ya w) : LeftO lawProg lawView lawLoose lawXt Yf Ya 4232 :=
  LeftO.of_pieces (H₀ := boot_heap) (H₁ := lawHeap) (gs₀ := Array.mk []) (gs₁ := Array.mk []) (d₀ := boot_drawn) (d₁ := {}) (k₀ := boot_toks) (k₁ := 581) (m₀ := 11) (ann := some (.ref 6)) (M := 12 + (1 + (461 + (395 + (663 + (538 + 2))))))
    (boot_open head_plain (by decide +kernel) head_fence) boot_size t_run (by decide +kernel) fun w => funext fun os => looks_pair (head_r1 w os) (looks_pair (head_r2 w os) (r3 w os))
section
local macro_rules | `(tactic| o_law) => `(tactic| refine holds_law head_said fun said => ?_)
local macro_rules | `(tactic| o_head $H) => `(tactic| refine holds_open (q := lawView) (loose := lawLoose) (Xt := lawXt) (XP := XL lawView []) (Yf := Hook.obs $H) (Ya := Hook.val $H) (YP := Hook.says $H) (N := 4232) (head_left fun w os => by kernel_rfl) (Hook.of $H) (Hook.keeps $H) (fun s e => xl_of s (Bool.and_eq_true_iff.mp e).1) XL.keeps (by rfl) (by rfl) (by rfl) (fun s e => recFacts_of (Bool.and_eq_true_iff.mp e).2) (by rfl) (by first | assumption | decide +kernel) (by decide +kernel) ⟨rfl, rfl, rfl, rfl, rfl, by decide +kernel⟩ ?hw ?hc)
open_top hd for PySem.Challenge.rw_nz0296_01
end
end Mine
section
open PySem PySem.W PyProof.Rows PySem.Calls PyProof.V PySem.Spec
set_option maxRecDepth 100000
set_option maxHeartbeats 8000000
namespace Mine
noncomputable abbrev ent (P : Params) (k : String) (t : Tok) (v : Value) : DictEntry := ⟨PyData.keyHash P (Str.ofString k), .str (Str.ofString k) t, v⟩
/-- a box's own entries -/
noncomputable abbrev boxD (P : Params) (k0 k1 k2 k3 k4 k5 k6 : Tok) (nm vl nu tp fl : Value) (la ga : Addr) : List DictEntry :=
  [ent P "name" k0 nm, ent P "validity" k1 vl, ent P "next_uid" k2 nu, ent P "top" k3 tp, ent P "floor" k4 fl, ent P "letters" k5 (.ref la), ent P "gone" k6 (.ref ga)]
/-- a letter's own entries -/
noncomputable abbrev letD (P : Params) (k0 k1 k2 k3 k4 : Tok) (u oct fl ins ms : Value) : List DictEntry :=
  [ent P "uid" k0 u, ent P "octets" k1 oct, ent P "flags" k2 fl, ent P "instant" k3 ins, ent P "modseq" k4 ms]
/-- a view's own entries -/
noncomputable abbrev viewD (P : Params) (k0 k1 k2 k3 k4 k5 k6 : Tok) (box : Addr) (ro um uv : Bool) (us fs ms : Addr) : List DictEntry :=
  [ent P "box" k0 (.ref box), ent P "is_readonly" k1 (.bool ro), ent P "uses_modseq" k2 (.bool um), ent P "uses_vanished" k3 (.bool uv), ent P "uids" k4 (.ref us), ent P "flags" k5 (.ref fs), ent P "modseqs" k6 (.ref ms)]
/-- a mark that the walk does not pass -/
noncomputable def Stop (P : Prop) : Prop := P
theorem Stop.out {P : Prop} (h : Stop P) : P := h
theorem Stop.mk {P : Prop} (h : P) : Stop P := h
noncomputable def AllNe (d : Nat) : List (Addr × Obj) → Prop
  | [] => True
  | p :: r => @Ne Nat p.1 d ∧ AllNe d r
theorem allNe_of {d : Addr} : ∀ {l : List (Addr × Obj)}, (∀ p ∈ l, p.1 ≠ d) → AllNe d l
  | [], _ => trivial
  | p :: _, h => ⟨h p (.head _), allNe_of fun q hq => h q (.tail _ hq)⟩
theorem of_allLt {d : Addr} : ∀ {l : List (Addr × Obj)}, AllLt d l → ∀ p ∈ l, p.1 < d
  | [], _, _, h => nomatch h
  | _ :: _, ⟨a, b⟩, p, h => by
    rcases List.mem_cons.mp h with rfl | h
    · exact a
    · exact of_allLt b p h
theorem news_sub {h₀ h : Heap} {L : Addr} {l l' : List (Addr × Obj)} (N : News h₀ L h l) (hs : ∀ p ∈ l', p ∈ l) : News h₀ L h l' := fun p hp => N p (hs p hp)
theorem news_drop0 {h₀ h : Heap} {L : Addr} {a : Addr × Obj} {r : List (Addr × Obj)} (N : News h₀ L h (a :: r)) : News h₀ L h r := fun p hp => N p (.tail _ hp)
theorem news_drop1 {h₀ h : Heap} {L : Addr} {a b : Addr × Obj} {r : List (Addr × Obj)} (N : News h₀ L h (a :: b :: r)) : News h₀ L h (a :: r) := fun p hp => by
  rcases List.mem_cons.mp hp with rfl | hp
  · exact N _ (.head _)
  · exact N _ (.tail _ (.tail _ hp))
theorem news_drop2 {h₀ h : Heap} {L : Addr} {a b c : Addr × Obj} {r : List (Addr × Obj)} (N : News h₀ L h (a :: b :: c :: r)) : News h₀ L h (a :: b :: r) := fun p hp => by
  rcases List.mem_cons.mp hp with rfl | hp
  · exact N _ (.head _)
  · rcases List.mem_cons.mp hp with rfl | hp
    · exact N _ (.tail _ (.head _))
    · exact N _ (.tail _ (.tail _ (.tail _ hp)))
theorem instAt_base {h₀ h : Heap} {L x C dx : Addr} {m : Str → Option Value} {od : Obj} {sl : Array (Option Value)} (F : Fr h₀ L h m) (h1 : h₀.get? x = some (⟨.ref C, some dx, .plain, sl⟩ : Obj)) (h2 : h₀.get? dx = some od) :
    InstAt h x ⟨.ref C, some dx, .plain, sl⟩ C (some od) := ⟨F.keep _ _ h1, rfl, rfl, F.keep _ _ h2⟩
theorem isList_base {h₀ h : Heap} {L l : Addr} {n : Nat} {m : Str → Option Value} {vs : List Value} (F : Fr h₀ L h m) (h1 : h₀.get? l = some (listOf vs.toArray n)) : h.IsList l vs.toArray := ⟨_, F.keep _ _ h1, rfl, _, rfl⟩
theorem news_new {h₀ h h' : Heap} {L D : Addr} {o : Obj} {m : Str → Option Value} {news : List (Addr × Obj)} (F : Fr h₀ L h m) (N : News h₀ L h news) (st : h.StaysIn h') (hD : h.get? D = none) (hg : h'.get? D = some o) : News h₀ L h' ((D, o) :: news) := fun p hp => by
  rcases List.mem_cons.mp hp with rfl | hp
  · refine ⟨hg, fun (e : D = L) => ?_, ?_⟩
    · obtain ⟨oL, _, _, hL, _⟩ := F.ns
      rw [e, hL] at hD; cases hD
    · cases q : h₀.get? D with
      | none => rfl
      | some o' => rw [F.keep _ _ q] at hD; cases hD
  · exact ⟨st _ _ (N p hp).1, (N p hp).2⟩
theorem units_make {A : Around} {a : Args} : (A.under (.builtin "type.__call__" a)).units ≤ A.units + 10 := by
  show A.units + (1 + 3 * Code.frames (.builtin "type.__call__" a)) ≤ A.units + 10
  have : Code.frames (.builtin "type.__call__" a) ≤ 3 := by unfold Code.frames; split <;> first | decide | (split <;> decide)
  omega
theorem next_none (h : Heap) : h.get? h.objs.size = none := by
  cases q : h.get? h.objs.size with
  | none => rfl
  | some o => exact absurd (Heap.lt_size q) (Nat.lt_irrefl _)
theorem off_of_lt {d x : Addr} {l : List (Addr × Obj)} (h : AllLt x l) (hx : @LE.le Nat _ x d) : ∀ p ∈ l, p.1 ≠ d := fun p hp => Nat.ne_of_lt (Nat.lt_of_lt_of_le (of_allLt h p hp) hx)
theorem off_of_none {h₀ h : Heap} {L r : Addr} {news : List (Addr × Obj)} (N : News h₀ L h news) (e : h.get? r = none) : ∀ p ∈ news, p.1 ≠ r := fun p hp q => by
  have := (N p hp).1; rw [q, e] at this; cases this
theorem none_of_new {h g g' : Heap} {L r : Addr} {o : Obj} {news : List (Addr × Obj)} (st : h.StaysIn g) (N : News g L g' news) (hm : (r, o) ∈ news) : h.get? r = none := by
  cases q : h.get? r with
  | none => rfl
  | some o' => have := st _ _ q; rw [(N _ hm).2.2] at this; cases this
theorem of_allNe {d : Addr} : ∀ {l : List (Addr × Obj)}, AllNe d l → ∀ p ∈ l, p.1 ≠ d
  | [], _, _, h => nomatch h
  | _ :: _, ⟨a, b⟩, p, h => by
    rcases List.mem_cons.mp h with rfl | h
    · exact a
    · exact of_allNe b p h
section
variable {prog : Program} {w : World} {A A₀ : Around} {s : Shared} {K : Frag} {L : Addr} {h₀ base : Heap} {m mg mb : Str → Option Value} {p : Program} {loose : List Str} {mean : ExcName → Option Value}
  {env : Env} {outer : List Env} {R : Result → Shared → Prop} {name qual : Str} {params : Arguments} {body : List Stmt} {scope : Scope} {dV kV doc pm cdv ct oc : Value} {an od : Option Addr} {osl : Array (Option Value)} {f : Addr} {args : Args} {binds : List (Str × Value)}
/-- a call of a def that changes nothing that stands: its base is the whole heap, its ledger starts empty -/
theorem code_defP (B : Below A₀ base outer h₀) (F : Fr h₀ L s.heap m) (X₀ : K.In h₀) (T : Top p loose mean mg mb h₀) (hA : A.frames = some (env :: outer)) (hf : env.frame = some L) (hke : env.scope.kind = .function)
    (ho : K.lookup f = some ⟨oc, od, .func (fnOf name qual params body scope dV kV doc pm an cdv ct), osl⟩) (hcd : codeIn K cdv qual = true) (hroom : A.depth < recursionLimit)
    (hbind : BindsTo s (fnOf name qual params body scope dV kV doc pm an cdv ct) args binds) (hloc : ∀ y ∈ binds, scope.names.lookup y.1 = some .local)
    (h : ∀ g L' h₁, Fr h₀ L g m → Fr g L' h₁ (fun y => binds.reverse.lookup y) → News g L' h₁ [] → Below A base (env :: outer) g → K.In g → Top p loose mean mg mb g → s.heap.StaysIn g →
      wpAny (model prog w) (A.deeper (envOf qual scope L' f cdv)) (execs body (envOf qual scope L' f cdv))
        (fun fl s' => LeaveK h₀ L m g (fun r s' => s.heap.StaysIn s'.heap → R r s') (match fl with | .ret v => v | _ => .none) s')
        (fun e s' => wpAny (model prog w) (A.deeper (envOf qual scope L' f cdv)) (leaving (envOf qual scope L' f cdv) e) (fun _ s'' => R (.error e) s'') (fun e' s'' => R (.error e') s'') s')
        { s with heap := h₁, toks := s.toks + binds.length })
    (hco : scope.isCoroutine = false) (hgen : scope.isGenerator = false) (hk : scope.kind = .function)
    (hcell : ∀ x ∈ scope.names, x.2 ≠ .cell) : codeAny (model prog w) A (.call (.ref f) args) R s := by
  obtain ⟨FG, BG, st, lv⟩ := groundX (R := R) B F (News.nil (h₀ := h₀) (L := L) (h := s.heap)) hA hf hke
  refine codeAny_call_def (fd := fnX name qual params body scope [] dV kV doc pm an cdv ct) (body := body) (binds := binds) hroom ((X₀.keeps F.keep) _ _ ho) rfl (T.nolimit.keeps F.keep) (codeRec_of (X₀.keeps F.keep) hcd) rfl hbind hcell hloc (fun h₁ hns hk₁ => ?_) hco hgen hk
  refine wpAny_mono (h _ s.heap.objs.size h₁ FG ⟨hns, fun b o e => hk₁ b o (of_hideAll _ e), Nat.le_of_eq (hideAll_size _ _)⟩ News.nil BG (X₀.keeps st) (T.keeps st) (fun b o e => e)) (fun fl s' hl => ?_) fun _ _ y => y
  obtain ⟨L', m', news', F', N', k⟩ := hl
  exact lv _ _ ⟨L', m', news', F', N', fun a b => k a b F'.keep⟩
theorem code_defCP (B : Below A₀ base outer h₀) (F : Fr h₀ L s.heap m) (X₀ : K.In h₀) (T : Top p loose mean mg mb h₀) (hA : A.frames = some (env :: outer)) (hf : env.frame = some L) (hke : env.scope.kind = .function)
    (ho : K.lookup f = some ⟨oc, od, .func (fnOf name qual params body scope dV kV doc pm an cdv ct), osl⟩) (hcd : codeIn K cdv qual = true) (hroom : A.depth < recursionLimit)
    (hbind : BindsTo s (fnOf name qual params body scope dV kV doc pm an cdv ct) args binds) (hkind : (binds.all fun y => scope.names.lookup y.1 == some .local || scope.names.lookup y.1 == some .cell) = true)
    (hnd : ((cellsFrom 0 scope.names []).map (·.1)).Nodup)
    (h : ∀ g L' h₁ tk cells, Fr h₀ L g m → Fr g L' h₁ (bindL (envOfC qual scope L' f cdv).kindOf binds fun _ => none) → News g L' h₁ (cells ++ []) →
      CellsAre (bindC (envOfC qual scope L' f cdv).kindOf binds fun _ => none) (cellsFrom (L' + 1) scope.names []) cells → Below A base (env :: outer) g → K.In g → Top p loose mean mg mb g → s.heap.StaysIn g →
      wpAny (model prog w) (A.deeper (envOfC qual scope L' f cdv)) (execs body (envOfC qual scope L' f cdv))
        (fun fl s' => LeaveK h₀ L m g (fun r s' => s.heap.StaysIn s'.heap → R r s') (match fl with | .ret v => v | _ => .none) s')
        (fun e s' => wpAny (model prog w) (A.deeper (envOfC qual scope L' f cdv)) (leaving (envOfC qual scope L' f cdv) e) (fun _ s'' => R (.error e) s'') (fun e' s'' => R (.error e') s'') s')
        { s with heap := h₁, toks := tk })
    (hco : scope.isCoroutine = false) (hgen : scope.isGenerator = false) (hk : scope.kind = .function) : codeAny (model prog w) A (.call (.ref f) args) R s := by
  have N := News.nil (h₀ := h₀) (L := L) (h := s.heap)
  obtain ⟨FG, BG, st, lv⟩ := groundX (R := R) B F N hA hf hke
  refine codeAny_call_function hroom ((X₀.keeps F.keep) _ _ ho) rfl hco hgen rfl (codeRec_of (X₀.keeps F.keep) hcd) (hbind _ _ _ _ ?_)
  refine wpAny_newFunctionEnv_cells hk (kindsX hkind _) fun env' he s' x => ?_
  subst he
  refine ⟨(T.nolimit.keeps F.keep).keeps x.toInCall.keep, codeAny_func ?_⟩
  obtain ⟨h₁, tk, rfl, _⟩ := x.done
  have hk₁ := x.toInCall.keep
  obtain ⟨cells, NC, Y⟩ := Cl.news (h₀ := s.heap) (Nat.le_refl _) fun n c hm => ⟨x.cell n c (lookup_of_mem_nodup (cellsFrom_names scope.names 0 (s.heap.objs.size + 1) [] [] rfl ▸ hnd) hm), x.above n c hm⟩
  refine wpAny_mono (h _ s.heap.objs.size h₁ tk cells FG ⟨x.toInCall.ns, fun b o e => hk₁ b o (of_hideAll _ e), Nat.le_of_eq (hideAll_size _ _)⟩ (fun p hp => ?_) Y BG (X₀.keeps st) (T.keeps st) (fun b o e => e)) (fun fl s' hl => ?_) fun _ _ y => y
  · rw [List.append_nil] at hp
    refine ⟨(NC p hp).1, (NC p hp).2.1, ?_⟩
    cases q : (hideAll s.heap (([] : List (Addr × Obj)).map (·.1))).get? p.1 with
    | none => rfl
    | some o => have := of_hideAll _ q; rw [(NC p hp).2.2] at this; cases this
  · obtain ⟨L', m', news', F', N', k⟩ := hl
    exact lv _ _ ⟨L', m', news', F', N', fun a b => k a b F'.keep⟩
end
/-- a turn's end -/
noncomputable def TurnOut (h₀ : Heap) (L I : Addr) (oI : Obj) (J : (Str → Option Value) → List (Addr × Obj) → Prop) (s₁ : Shared) (Q : Flow → Shared → Prop) (f : Flow) (s₂ : Shared) : Prop :=
  match f with
  | .ret v => Q (.ret v) s₂
  | .brk => Q .next s₂
  | _ => ∃ h' tk m' news', s₂ = { s₁ with heap := h', toks := tk } ∧ Fr h₀ L h' m' ∧ News h₀ L h' ((I, oI) :: news') ∧ (∀ p ∈ news', p.1 ≠ I) ∧ J m' news'
theorem TurnOut.intro {h₀ : Heap} {L I : Addr} {oI : Obj} {J : (Str → Option Value) → List (Addr × Obj) → Prop} {s₁ : Shared} {Q : Flow → Shared → Prop} {h' : Heap} {tk : Nat} {m' : Str → Option Value} (news' : List (Addr × Obj))
    (F : Fr h₀ L h' m') (N : News h₀ L h' ((I, oI) :: news')) (off : ∀ p ∈ news', p.1 ≠ I) (j : J m' news') : TurnOut h₀ L I oI J s₁ Q .next { s₁ with heap := h', toks := tk } :=
  ⟨h', tk, m', news', rfl, F, N, off, j⟩
section
variable {prog : Program} {w : World} {A : Around} {E : Value → Shared → Prop} {s : Shared} {env : Env} {h₀ : Heap} {x : Str} {body : List Stmt} {Q : Flow → Shared → Prop}
theorem loop_J {I l : Addr} {ol : Obj} {fp : List Addr} {n : Nat} {P : Nat → Value → Prop} {St : Nat → Heap → Prop} {m₀ : Str → Option Value} {news : List (Addr × Obj)} (J : Nat → (Str → Option Value) → List (Addr × Obj) → Prop)
    (W : Walks prog w A I fp [I] n P St) (hfp : ∀ b ∈ fp, b = I ∨ b = l) (hI0 : h₀.get? I = none) (hob : ∀ i h, St i h → ∃ o, h.get? I = some o) (hIf : I ∈ fp)
    (hLf : env.locals ∉ fp) (hnw : ∀ p ∈ news, p.1 ≠ I) (hst : St 0 s.heap) (F : Fr h₀ env.locals s.heap m₀) (N : News h₀ env.locals s.heap news) (hj : J 0 m₀ news)
    (hsrc : l ≠ I → h₀.get? l = none → ∀ i m₁ n₁, J i m₁ n₁ → (l, ol) ∈ n₁)
    (turn : ∀ i v m₁ news₁ h tk oI, i < n → P i v → J i m₁ news₁ → (∀ p ∈ news₁, p.1 ≠ I) → Fr h₀ env.locals h (fun y => if y = x then some v else m₁ y) → News h₀ env.locals h ((I, oI) :: news₁) →
      wpAny (model prog w) A (execs body env) (TurnOut h₀ env.locals I oI (J (i + 1)) { s with heap := h, toks := tk } Q) E { s with heap := h, toks := tk })
    (done : ∀ m₁ news₁ h tk, J n m₁ news₁ → Fr h₀ env.locals h m₁ → News h₀ env.locals h news₁ → Q .next { s with heap := h, toks := tk }) :
    LoopAtV prog w A h₀ env x body Q E (.ref I) s := by
  refine ⟨I, fp, [I], n, P, St, m₀, news, J, rfl, W, hLf, ?_, ?_, hst, F, N, hj, ?_, ?_⟩
  · intro b hb; rw [List.mem_singleton.mp hb]; exact hI0
  · intro p hp hq; exact hnw p hp (List.mem_singleton.mp hq)
  · rintro i v m₁ news₁ s₁ own ⟨hh', tk', rfl⟩ hin hP hJ hoff hown hget hall hst' F₁ N₁
    obtain ⟨o, ho⟩ := hob _ _ hst'
    have hio : (I, o) ∈ own := hall I hIf hI0 o ho
    have N₂ : News h₀ env.locals hh' ((I, o) :: news₁) := fun p hp => by
      rcases List.mem_cons.mp hp with rfl | hp
      · exact N₁ _ (List.mem_append_left _ hio)
      · exact N₁ _ (List.mem_append_right _ hp)
    have off : ∀ p ∈ news₁, p.1 ≠ I := fun p hp e => hoff p hp (List.mem_singleton.mpr e)
    refine wpAny_mono (turn i v m₁ news₁ hh' tk' o hin hP hJ off F₁ N₂) (fun f s₂ p => ?_) fun _ _ e => e
    have fin : (∃ h' tk m' news', s₂ = { s with heap := h', toks := tk } ∧ Fr h₀ env.locals h' m' ∧ News h₀ env.locals h' ((I, o) :: news') ∧ (∀ p ∈ news', p.1 ≠ I) ∧ J (i + 1) m' news') →
        LoopStepU h₀ env.locals [I] own (J (i + 1)) { s with heap := hh', toks := tk' } .next s₂ := by
      rintro ⟨h', tk, m', news', e, F', N', off', j'⟩
      refine ⟨rfl, h', tk, m', news', e, F', fun p hp => ?_, fun p hp hq => off' p hp (List.mem_singleton.mp hq), j'⟩
      rcases List.mem_append.mp hp with hp | hp
      · have g1 := hget p hp
        have g2 := N₁ p (List.mem_append_left _ hp)
        by_cases e1 : p.1 = I
        · have : p = (I, o) := Prod.ext e1 (by rw [e1] at g1; exact Option.some.inj (g1.symm.trans ho))
          rw [this]; exact N' _ (.head _)
        · have e2 : p.1 = l := (hfp _ (hown p hp)).resolve_left e1
          have hl0 : h₀.get? l = none := e2 ▸ g2.2.2
          have hlI : l ≠ I := e2 ▸ e1
          have m1 := hsrc hlI hl0 i m₁ news₁ hJ
          have m2 := hsrc hlI hl0 (i + 1) m' news' j'
          have g3 := (N₂ _ (.tail _ m1)).1
          have : p = (l, ol) := Prod.ext e2 (by rw [e2] at g1; exact Option.some.inj (g1.symm.trans g3))
          rw [this]; exact N' _ (.tail _ m2)
      · exact N' _ (.tail _ hp)
    cases f with
    | ret v => exact .ret p
    | brk => exact .brk p
    | next => exact .next (fin p)
    | cont => exact .cont (fin p)
  · rintro h' tk m' news' F' N' _ hJ
    exact done m' news' h' tk hJ F' N'
/-- over a list of the ledger's, whatever its items -/
theorem iter_listJ {l : Addr} {vs : List Value} {ep : Nat} {m₀ : Str → Option Value} {news : List (Addr × Obj)} (J : Nat → (Str → Option Value) → List (Addr × Obj) → Prop)
    (hh : A.handled = none) (hl : (l, listOf vs.toArray ep) ∈ news) (F : Fr h₀ env.locals s.heap m₀) (N : News h₀ env.locals s.heap news) (hj : J 0 m₀ news)
    (hsrc : ∀ i m₁ n₁, J i m₁ n₁ → (l, listOf vs.toArray ep) ∈ n₁)
    (turn : ∀ i v m₁ news₁ h tk I oI, vs[i]? = some v → J i m₁ news₁ → (∀ p ∈ news₁, p.1 ≠ I) → Fr h₀ env.locals h (fun y => if y = x then some v else m₁ y) → News h₀ env.locals h ((I, oI) :: news₁) →
      wpAny (model prog w) A (execs body env) (TurnOut h₀ env.locals I oI (J (i + 1)) { s with heap := h, toks := tk } Q) E { s with heap := h, toks := tk })
    (done : ∀ m₁ news₁ h tk, J vs.length m₁ news₁ → Fr h₀ env.locals h m₁ → News h₀ env.locals h news₁ → Q .next { s with heap := h, toks := tk }) :
    wpAny (model prog w) A (pyIter (.ref l)) (fun it s₂ => LoopAtV prog w A h₀ env x body Q E it s₂) E s := by
  have hls : s.heap.IsList l vs.toArray := N.isList hl
  have hne : l ≠ s.heap.objs.size := Nat.ne_of_lt (Heap.lt_size (N _ hl).1)
  refine wpAny_pyIter_list hls ?_
  have W := Walks.list (prog := prog) (w := w) hh s.heap.objs.size l hne vs.toArray
  refine loop_J (l := l) (ol := listOf vs.toArray ep) J W ?_ (next_is_new F) (fun i h ⟨⟨o, ho, _⟩, _⟩ => ⟨o, ho⟩) (.head _) ?_ (fun p hp e => Nat.lt_irrefl _ (e ▸ Heap.lt_size (N p hp).1))
    ⟨⟨_, Heap.get?_push_size _ rfl, rfl, rfl⟩, hls.at fun o e => Heap.get?_push_of_some _ e⟩ (F.push _) (fun p hp => ⟨Heap.get?_push_of_some _ (N p hp).1, (N p hp).2⟩) hj (fun _ _ => hsrc) ?_ (fun m₁ n₁ h tk j => done m₁ n₁ h tk (by simpa using j))
  · intro b hb
    rcases List.mem_cons.mp hb with e | hb
    · exact .inl e
    · exact .inr (List.mem_singleton.mp hb)
  · intro hm
    rcases List.mem_cons.mp hm with e | hm
    · exact absurd F.ns.lt (e ▸ Nat.lt_irrefl _)
    · exact (N _ hl).2.1 (List.mem_singleton.mp hm).symm
  · intro i v m₁ news₁ h tk oI hi hP hJ off F₁ N₁
    exact turn i v m₁ news₁ h tk _ oI (by simpa using hP) hJ off F₁ N₁
/-- over a tuple that stands in the base -/
theorem iter_tupB {l : Addr} {vs : List Value} {m₀ : Str → Option Value} {news : List (Addr × Obj)} (J : Nat → (Str → Option Value) → List (Addr × Obj) → Prop)
    (hh : A.handled = none) (hl : IsTup h₀ l vs.toArray) (F : Fr h₀ env.locals s.heap m₀) (N : News h₀ env.locals s.heap news) (hj : J 0 m₀ news)
    (turn : ∀ i v m₁ news₁ h tk I oI, vs[i]? = some v → J i m₁ news₁ → (∀ p ∈ news₁, p.1 ≠ I) → Fr h₀ env.locals h (fun y => if y = x then some v else m₁ y) → News h₀ env.locals h ((I, oI) :: news₁) →
      wpAny (model prog w) A (execs body env) (TurnOut h₀ env.locals I oI (J (i + 1)) { s with heap := h, toks := tk } Q) E { s with heap := h, toks := tk })
    (done : ∀ m₁ news₁ h tk, J vs.length m₁ news₁ → Fr h₀ env.locals h m₁ → News h₀ env.locals h news₁ → Q .next { s with heap := h, toks := tk }) :
    wpAny (model prog w) A (pyIter (.ref l)) (fun it s₂ => LoopAtV prog w A h₀ env x body Q E it s₂) E s := by
  have hls : s.heap.IsTuple l vs.toArray := IsTup.keeps hl F.keep
  obtain ⟨ol, hol, _⟩ := id hl
  have hlt : l < h₀.objs.size := Heap.lt_size hol
  have hne : l ≠ s.heap.objs.size := Nat.ne_of_lt (Nat.lt_trans (Nat.lt_of_lt_of_le hlt F.above) F.ns.lt)
  refine wpAny_pyIter_tuple hls ?_
  have W := Walks.tuple (prog := prog) (w := w) hh s.heap.objs.size l hne vs.toArray
  refine loop_J (l := l) (ol := ol) J W ?_ (next_is_new F) (fun i h ⟨⟨o, ho, _⟩, _⟩ => ⟨o, ho⟩) (.head _) ?_ (fun p hp e => Nat.lt_irrefl _ (e ▸ Heap.lt_size (N p hp).1))
    ⟨⟨_, Heap.get?_push_size _ rfl, rfl, rfl⟩, IsTup.keeps hls fun b o e => Heap.get?_push_of_some _ e⟩ (F.push _) (fun p hp => ⟨Heap.get?_push_of_some _ (N p hp).1, (N p hp).2⟩) hj (fun _ e => by rw [hol] at e; cases e) ?_ (fun m₁ n₁ h tk j => done m₁ n₁ h tk (by simpa using j))
  · intro b hb
    rcases List.mem_cons.mp hb with e | hb
    · exact .inl e
    · exact .inr (List.mem_singleton.mp hb)
  · intro hm
    rcases List.mem_cons.mp hm with e | hm
    · exact absurd F.ns.lt (e ▸ Nat.lt_irrefl _)
    · exact absurd (Nat.lt_of_lt_of_le hlt F.above) ((List.mem_singleton.mp hm) ▸ Nat.lt_irrefl _)
  · intro i v m₁ news₁ h tk oI hi hP hJ off F₁ N₁
    exact turn i v m₁ news₁ h tk _ oI (by simpa using hP) hJ off F₁ N₁
/-- over a list that stands in the base -/
theorem iter_listB {l : Addr} {vs : List Value} {m₀ : Str → Option Value} {news : List (Addr × Obj)} (J : Nat → (Str → Option Value) → List (Addr × Obj) → Prop)
    (hh : A.handled = none) (hl : h₀.IsList l vs.toArray) (F : Fr h₀ env.locals s.heap m₀) (N : News h₀ env.locals s.heap news) (hj : J 0 m₀ news)
    (turn : ∀ i v m₁ news₁ h tk I oI, vs[i]? = some v → J i m₁ news₁ → (∀ p ∈ news₁, p.1 ≠ I) → Fr h₀ env.locals h (fun y => if y = x then some v else m₁ y) → News h₀ env.locals h ((I, oI) :: news₁) →
      wpAny (model prog w) A (execs body env) (TurnOut h₀ env.locals I oI (J (i + 1)) { s with heap := h, toks := tk } Q) E { s with heap := h, toks := tk })
    (done : ∀ m₁ news₁ h tk, J vs.length m₁ news₁ → Fr h₀ env.locals h m₁ → News h₀ env.locals h news₁ → Q .next { s with heap := h, toks := tk }) :
    wpAny (model prog w) A (pyIter (.ref l)) (fun it s₂ => LoopAtV prog w A h₀ env x body Q E it s₂) E s := by
  have hls : s.heap.IsList l vs.toArray := hl.at fun o e => F.keep l o e
  obtain ⟨ol, hol, _⟩ := id hl
  have hlt : l < h₀.objs.size := Heap.lt_size hol
  have hne : l ≠ s.heap.objs.size := Nat.ne_of_lt (Nat.lt_trans (Nat.lt_of_lt_of_le hlt F.above) F.ns.lt)
  refine wpAny_pyIter_list hls ?_
  have W := Walks.list (prog := prog) (w := w) hh s.heap.objs.size l hne vs.toArray
  refine loop_J (l := l) (ol := ol) J W ?_ (next_is_new F) (fun i h ⟨⟨o, ho, _⟩, _⟩ => ⟨o, ho⟩) (.head _) ?_ (fun p hp e => Nat.lt_irrefl _ (e ▸ Heap.lt_size (N p hp).1))
    ⟨⟨_, Heap.get?_push_size _ rfl, rfl, rfl⟩, hls.at fun o e => Heap.get?_push_of_some _ e⟩ (F.push _) (fun p hp => ⟨Heap.get?_push_of_some _ (N p hp).1, (N p hp).2⟩) hj (fun _ e => by rw [hol] at e; cases e) ?_ (fun m₁ n₁ h tk j => done m₁ n₁ h tk (by simpa using j))
  · intro b hb
    rcases List.mem_cons.mp hb with e | hb
    · exact .inl e
    · exact .inr (List.mem_singleton.mp hb)
  · intro hm
    rcases List.mem_cons.mp hm with e | hm
    · exact absurd F.ns.lt (e ▸ Nat.lt_irrefl _)
    · exact absurd (Nat.lt_of_lt_of_le hlt F.above) ((List.mem_singleton.mp hm) ▸ Nat.lt_irrefl _)
  · intro i v m₁ news₁ h tk oI hi hP hJ off F₁ N₁
    exact turn i v m₁ news₁ h tk _ oI (by simpa using hP) hJ off F₁ N₁
/-- over a range by ones -/
theorem iter_rangeJ {r : Addr} {a₀ b₀ : Int} {t₀ u₀ v₀ : Tok} {n : Nat} {m₀ : Str → Option Value} {news : List (Addr × Obj)} (J : Nat → (Str → Option Value) → List (Addr × Obj) → Prop)
    (hh : A.handled = none) (hr : IsRange s.heap r a₀ b₀ 1 t₀ u₀ v₀) (hsmall : Builtin.Range.small a₀ b₀ 1 = true) (hn : Builtin.Range.rangeSize a₀ b₀ 1 = (n : Int)) (F : Fr h₀ env.locals s.heap m₀) (N : News h₀ env.locals s.heap news) (hj : J 0 m₀ news)
    (turn : ∀ i t m₁ news₁ h tk I oI, i < n → J i m₁ news₁ → (∀ p ∈ news₁, p.1 ≠ I) → Fr h₀ env.locals h (fun y => if y = x then some (.int (a₀ + (i : Int)) t) else m₁ y) → News h₀ env.locals h ((I, oI) :: news₁) →
      wpAny (model prog w) A (execs body env) (TurnOut h₀ env.locals I oI (J (i + 1)) { s with heap := h, toks := tk } Q) E { s with heap := h, toks := tk })
    (done : ∀ m₁ news₁ h tk, J n m₁ news₁ → Fr h₀ env.locals h m₁ → News h₀ env.locals h news₁ → Q .next { s with heap := h, toks := tk }) :
    wpAny (model prog w) A (pyIter (.ref r)) (fun it s₂ => LoopAtV prog w A h₀ env x body Q E it s₂) E s := by
  refine wpAny_pyIter_range hr hsmall ?_
  have W : Walks prog w A s.heap.objs.size [s.heap.objs.size] [s.heap.objs.size] n (fun i v => i < n ∧ ∃ t, v = .int (a₀ + i * 1) t)
      (fun i h => IsRangeIter h s.heap.objs.size (a₀ + (i : Nat) * 1) ((n : Int) - (i : Nat)) 1) := (Walks.range hh _ a₀ 1 n).bound
  refine loop_J (l := s.heap.objs.size) (ol := default) J W (fun b hb => .inl (List.mem_singleton.mp hb)) (next_is_new F) (fun i h hs => ⟨_, hs⟩) (.head _) ?_ (fun p hp e => Nat.lt_irrefl _ (e ▸ Heap.lt_size (N p hp).1))
    (by show IsRangeIter _ _ _ _ _; rw [hn]; simpa using Heap.get?_push_size _ rfl) (F.push _) (fun p hp => ⟨Heap.get?_push_of_some _ (N p hp).1, (N p hp).2⟩) hj (fun e => absurd rfl e) ?_ done
  · intro hm
    exact absurd F.ns.lt ((List.mem_singleton.mp hm) ▸ Nat.lt_irrefl _)
  · rintro i v m₁ news₁ h tk oI hi ⟨_, t, rfl⟩ hJ off F₁ N₁
    rw [Int.mul_one] at F₁
    exact turn i t m₁ news₁ h tk _ oI hi hJ off F₁ N₁
/-- what is left of a loop that is unrolled -/
noncomputable def RestL (prog : Program) (w : World) (A : Around) (E : Value → Shared → Prop) (h₀ : Heap) (env : Env) (x : Str) (body : List Stmt) (Q : Flow → Shared → Prop) (s : Shared) (C : List (Addr × Obj) → Prop) : List Value → (Str → Option Value) → List (Addr × Obj) → Prop
  | [], m, n => ∀ h tk, Fr h₀ env.locals h m → News h₀ env.locals h n → Q .next { s with heap := h, toks := tk }
  | v :: r, m, n => ∀ h tk I oI, (∀ p ∈ n, p.1 ≠ I) → Fr h₀ env.locals h (fun y => if y = x then some v else m y) → News h₀ env.locals h ((I, oI) :: n) →
      wpAny (model prog w) A (execs body env) (TurnOut h₀ env.locals I oI (fun m' n' => C n' ∧ RestL prog w A E h₀ env x body Q s C r m' n') { s with heap := h, toks := tk } Q) E { s with heap := h, toks := tk }
theorem unr_listN {l : Addr} {vs : List Value} {ep : Nat} {m₀ : Str → Option Value} {news : List (Addr × Obj)}
    (hh : A.handled = none) (hl : (l, listOf vs.toArray ep) ∈ news) (F : Fr h₀ env.locals s.heap m₀) (N : News h₀ env.locals s.heap news)
    (h : RestL prog w A E h₀ env x body Q s (fun n => (l, listOf vs.toArray ep) ∈ n) vs m₀ news) :
    wpAny (model prog w) A (pyIter (.ref l)) (fun it s₂ => LoopAtV prog w A h₀ env x body Q E it s₂) E s := by
  refine iter_listJ (fun i m n => (l, listOf vs.toArray ep) ∈ n ∧ RestL prog w A E h₀ env x body Q s (fun n => (l, listOf vs.toArray ep) ∈ n) (vs.drop i) m n) hh hl F N ⟨hl, h⟩ (fun _ _ _ j => j.1) ?_ ?_
  · rintro i v m₁ news₁ h tk I oI hi ⟨_, hJ⟩ off F₁ N₁
    have e : vs.drop i = v :: vs.drop (i + 1) := by
      obtain ⟨hlt, hv⟩ := List.getElem?_eq_some_iff.mp hi
      rw [← hv]; exact List.drop_eq_getElem_cons hlt
    rw [e] at hJ
    exact hJ h tk I oI off F₁ N₁
  · rintro m₁ news₁ h tk ⟨_, hJ⟩ F₁ N₁
    rw [List.drop_length] at hJ
    exact hJ h tk F₁ N₁
theorem unr_listB {l : Addr} {vs : List Value} {m₀ : Str → Option Value} {news : List (Addr × Obj)}
    (hh : A.handled = none) (hl : h₀.IsList l vs.toArray) (F : Fr h₀ env.locals s.heap m₀) (N : News h₀ env.locals s.heap news)
    (h : RestL prog w A E h₀ env x body Q s (fun _ => True) vs m₀ news) :
    wpAny (model prog w) A (pyIter (.ref l)) (fun it s₂ => LoopAtV prog w A h₀ env x body Q E it s₂) E s := by
  refine iter_listB (fun i m n => True ∧ RestL prog w A E h₀ env x body Q s (fun _ => True) (vs.drop i) m n) hh hl F N ⟨trivial, h⟩ ?_ ?_
  · rintro i v m₁ news₁ h tk I oI hi ⟨_, hJ⟩ off F₁ N₁
    have e : vs.drop i = v :: vs.drop (i + 1) := by
      obtain ⟨hlt, hv⟩ := List.getElem?_eq_some_iff.mp hi
      rw [← hv]; exact List.drop_eq_getElem_cons hlt
    rw [e] at hJ
    exact hJ h tk I oI off F₁ N₁
  · rintro m₁ news₁ h tk ⟨_, hJ⟩ F₁ N₁
    rw [List.drop_length] at hJ
    exact hJ h tk F₁ N₁
theorem unr_tupB {l : Addr} {vs : List Value} {m₀ : Str → Option Value} {news : List (Addr × Obj)}
    (hh : A.handled = none) (hl : IsTup h₀ l vs.toArray) (F : Fr h₀ env.locals s.heap m₀) (N : News h₀ env.locals s.heap news)
    (h : RestL prog w A E h₀ env x body Q s (fun _ => True) vs m₀ news) :
    wpAny (model prog w) A (pyIter (.ref l)) (fun it s₂ => LoopAtV prog w A h₀ env x body Q E it s₂) E s := by
  refine iter_tupB (fun i m n => True ∧ RestL prog w A E h₀ env x body Q s (fun _ => True) (vs.drop i) m n) hh hl F N ⟨trivial, h⟩ ?_ ?_
  · rintro i v m₁ news₁ h tk I oI hi ⟨_, hJ⟩ off F₁ N₁
    have e : vs.drop i = v :: vs.drop (i + 1) := by
      obtain ⟨hlt, hv⟩ := List.getElem?_eq_some_iff.mp hi
      rw [← hv]; exact List.drop_eq_getElem_cons hlt
    rw [e] at hJ
    exact hJ h tk I oI off F₁ N₁
  · rintro m₁ news₁ h tk ⟨_, hJ⟩ F₁ N₁
    rw [List.drop_length] at hJ
    exact hJ h tk F₁ N₁
/-- over a text of one sign -/
theorem unr_str1 {c : Nat} {y : Str} {u : Tok} {m₀ : Str → Option Value} {news : List (Addr × Obj)} (hy : y = ⟨#[c]⟩) (hc : c < 128)
    (hh : A.handled = none) (F : Fr h₀ env.locals s.heap m₀) (N : News h₀ env.locals s.heap news)
    (h : ∀ u', RestL prog w A E h₀ env x body Q s (fun _ => True) [.str y u'] m₀ news) :
    wpAny (model prog w) A (pyIter (.str y u)) (fun it s₂ => LoopAtV prog w A h₀ env x body Q E it s₂) E s := by
  subst hy
  refine wpAny_pyIter_ascii (by simp [hc]) ?_
  refine loop_J (l := s.heap.objs.size) (ol := default) (fun i m n => match i with | 0 => ∀ u', RestL prog w A E h₀ env x body Q s (fun _ => True) [.str ⟨#[c]⟩ u'] m n | _ => RestL prog w A E h₀ env x body Q s (fun _ => True) [] m n)
    (Walks.strAscii hh _ (⟨#[c]⟩ : Str) u) (fun b hb => .inl (List.mem_singleton.mp hb)) (next_is_new F) (fun i h ⟨o, ho, _⟩ => ⟨o, ho⟩) (.head _) ?_ (fun p hp e => Nat.lt_irrefl _ (e ▸ Heap.lt_size (N p hp).1))
    ⟨_, Heap.get?_push_size _ rfl, rfl, rfl⟩ (F.push _) (fun p hp => ⟨Heap.get?_push_of_some _ (N p hp).1, (N p hp).2⟩) h (fun e => absurd rfl e) ?_ ?_
  · intro hm
    exact absurd F.ns.lt ((List.mem_singleton.mp hm) ▸ Nat.lt_irrefl _)
  · rintro i v m₁ news₁ hp tk oI hi ⟨c', u', hc', rfl⟩ hJ off F₁ N₁
    have hi0 : i = 0 := by simpa using hi
    subst hi0
    have : c' = c := by simpa using hc'.symm
    subst this
    refine wpAny_mono (hJ u' hp tk _ oI off F₁ N₁) (fun f s₂ p => ?_) fun _ _ e => e
    cases f with
    | ret v => exact p
    | brk => exact p
    | next => obtain ⟨h', tk, m', news', e, a, b, d, j⟩ := p; exact ⟨h', tk, m', news', e, a, b, d, j.2⟩
    | cont => obtain ⟨h', tk, m', news', e, a, b, d, j⟩ := p; exact ⟨h', tk, m', news', e, a, b, d, j.2⟩
  · intro m₁ news₁ h tk hJ F₁ N₁
    exact hJ h tk F₁ N₁
end
end Mine
end
section
open PySem PySem.W PyProof.Rows PySem.Calls PyProof.V PySem.Spec
set_option maxRecDepth 100000
set_option maxHeartbeats 8000000
namespace Mine
theorem getAttrQ_miss_list {prog : Program} {w : World} {A : Around} {E : Value → Shared → Prop} {s : Shared} {a : Addr} {o : Obj} {xs : Array Value} {k : Nat} {name : Str} {Q : Option Value → Shared → Prop}
    (hx : s.heap.get? a = some o) (hc : o.cls = .type "list") (hdat : o.data = .seq xs k) (hd : o.dict = none) (hmiss : typeLookup (.type "list") name = pure none) (hname : (["__module__", "__name__", "__qualname__", "__doc__", "__annotations__"] : List Str).contains name = false) (hA : A.handled = none)
    (h : ∀ h' tk, s.heap.StaysIn h' → Q none { s with heap := h', toks := tk }) (hsz : name.length + 100 ≤ sizeLine := by size_fits) :
    wpAny (model prog w) A (getAttr? (.ref a) name) Q E s := by
  obtain ⟨c, dct, dat, sl⟩ := o
  simp only at hc hdat hd
  subst hc hdat hd
  obtain ⟨hp, g, d, tk, os⟩ := s
  have hT : ∀ tk', (⟨hp, g, d, tk', os⟩ : Shared).TypeIs (.ref a) "list" := fun _ => ⟨_, hx, rfl⟩
  have f1 := sub_AttributeError
  have f3 := F.slot_list_getattribute.lookup
  have f4 := F.slot_list_getattribute.bind (.ref a)
  have f5 := am_list_getattr_none
  unfold getAttr?
  refine wpAny_bind (wpAny_mkText ?_)
  unfold getAttrBy?
  refine wpAny_bind (wpAny_attempt ?_)
  unfold getAttrBy
  repeat (any_goals (first | assumption | exact hT _ | ((with_reducible show wpAny _ _ (call (Value.builtin "list.__getattribute__") _ _) _ _ _); refine call_meets F.slot_list_getattribute (hT _) am_entry_list_getattribute (F.args_list_getattribute_2 _ _) (meets_getattribute_miss_list a xs k sl name _ hmiss hname hsz) ⟨hx, hA, fun h' tk' e hx' => ?_⟩) | wp_step))
  obtain ⟨t', u', he⟩ := hx'.there
  show wpAny _ _ (getattributeRaised _ _ _ _ _ _ _) _ _ _
  unfold getattributeRaised
  repeat (any_goals (first | assumption | wp_step))
  exact h h' tk' hx'.keeps
theorem plain_update_loop : plainId "dict.update.loop" = true := by decide +kernel
theorem entry_update_loop : entryFor table "dict.update.loop" = some Builtin.«dict.update.loop» := entryFor_of_fast (by kernel_rfl)
/-- what a list of pairs holds -/
noncomputable def PairAt (h : Heap) (d I : Addr) (y : Value) (kv : Int × Value) : Prop := ∃ T t, y = .ref T ∧ T ≠ d ∧ T ≠ I ∧ h.IsTuple T #[.int kv.1 t, kv.2]
theorem stored_new {kvs : List (Int × Value)} {k : Int} {v : Value} (h : k ∉ kvs.map (·.1)) : stored kvs k v = kvs ++ [(k, v)] := by
  unfold stored
  rw [if_neg]
  intro q
  obtain ⟨kv, hm, e⟩ := List.any_eq_true.mp q
  exact h (List.mem_map.mpr ⟨kv, hm, of_decide_eq_true e⟩)
theorem update_loop {prog : Program} {w : World} {A : Around} {R : Result → Shared → Prop} (hh : A.handled = none) {d l I : Addr} {ys : List Value} {kvs : List (Int × Value)} {res : Value}
    (hlI : l ≠ I) (hdl : d ≠ l) (hdI : d ≠ I) (hlen : kvs.length = ys.length) (hn : (kvs.map (·.1)).Nodup) (hsz : ys.length ≤ 1000) :
    ∀ (k i : Nat) (z : Int) (t : Tok) (s : Shared), ys.length - i = k → i ≤ ys.length → (s.heap.IsListIter I l i ∧ s.heap.IsList l ys.toArray) → s.heap.DictOf (intKind prog w) d (kvs.take i) →
      (∀ (j : Nat) (y : Value) (kv : Int × Value), ys[j]? = some y → kvs[j]? = some kv → PairAt s.heap d I y kv) →
      (∀ h' tk, h'.DictOf (intKind prog w) d kvs → (∀ b o, b ≠ d → b ≠ I → s.heap.get? b = some o → h'.get? b = some o) → R (.ok (.ret res)) { s with heap := h', toks := tk }) →
      codeAny (model prog w) A (.builtin "dict.update.loop" ⟨[.ref d, .ref I, .int z t, res], []⟩) R s := by
  have W := Walks.list (prog := prog) (w := w) (A := A.in1) hh I l hlI ys.toArray
  intro k
  induction k with
  | zero =>
    intro i z t s hk hi hst hd hp hR
    have hin : i = ys.length := by omega
    subst hin
    refine codeAny_builtin entry_update_loop ?_
    rw [Around.under_plainId plain_update_loop _]
    show wpAny _ A.in1 (pyNext (.ref I) >>= _) _ _ s
    refine wpAny_bind (W.done s _ _ (by simpa using hst) fun h' tk hm => ?_)
    show wpAny _ A.in1 (Builtin.Dict.addKeywords d [] >>= _) _ _ _
    refine wpAny_bind (wpAny_pure ?_)
    refine wpAny_pure (hR h' tk ?_ fun b o _ hb e => hm b o (fun q => hb (List.mem_singleton.mp q)) e)
    have hd' : s.heap.DictOf (intKind prog w) d kvs := by rw [← hlen, List.take_length] at hd; exact hd
    obtain ⟨o, es, ep, ho, r⟩ := hd'
    exact ⟨o, es, ep, hm _ _ (fun q => hdI (List.mem_singleton.mp q)) ho, r⟩
  | succ k ih =>
    intro i z t s hk hi hst hd hp hR
    have hlt : i < ys.length := by omega
    refine codeAny_builtin entry_update_loop ?_
    rw [Around.under_plainId plain_update_loop _]
    show wpAny _ A.in1 (pyNext (.ref I) >>= _) _ _ s
    refine wpAny_bind (W.item i s _ _ (by simpa using hlt) hst fun v h₁ tk₁ hP hst' hm => ?_)
    have hy : ys[i]? = some v := by simpa using hP
    obtain ⟨kv, hkv⟩ : ∃ kv, kvs[i]? = some kv := ⟨kvs[i]'(by omega), by simp⟩
    obtain ⟨T, tt, rfl, hTd, hTI, hT⟩ := hp i v kv hy hkv
    have keep1 : ∀ b o, b ≠ I → s.heap.get? b = some o → h₁.get? b = some o := fun b o hb e => hm b o (fun q => hb (List.mem_singleton.mp q)) e
    obtain ⟨oT, hoT, hcT, nT, hdT⟩ := hT
    have hoT' := keep1 _ _ hTI hoT
    have hd1 : h₁.DictOf (intKind prog w) d (kvs.take i) := by
      obtain ⟨o, es, ep, ho, r⟩ := hd
      exact ⟨o, es, ep, keep1 _ _ hdI ho, r⟩
    dsimp only
    refine wpAny_bind (wpAny_holding ?_)
    refine wpAny_bind (wpAny_tryCatch ?_)
    unfold Builtin.Dict.pairItems
    refine wpAny_bind (wpAny_typeOf (T := "tuple") ⟨oT, hoT', hcT⟩ ?_)
    rw [if_pos (by decide)]
    refine wpAny_bind (wpAny_seqItems hoT' hdT ?_)
    refine wpAny_pure ?_
    show wpAny _ A.in1 (holding [Value.int kv.1 tt, kv.2] (dictSet d (.int kv.1 tt) kv.2)) _ _ _
    refine wpAny_holding ?_
    unfold dictSet
    refine wpAny_holding (wpAny_bind ((intKind prog w).pyHash (k := kv.1) (intKind_is _ _ _ _) ?_))
    have hfresh : kv.1 ∉ (kvs.take i).map (·.1) := by
      intro q
      obtain ⟨j, hj⟩ := List.getElem?_of_mem q
      rw [List.getElem?_map] at hj
      obtain ⟨kv', hj1, hj2⟩ := Option.map_eq_some_iff.mp hj
      have hji : j < i := by
        have h1 := (List.getElem?_eq_some_iff.mp hj1).1
        rw [List.length_take] at h1
        omega
      have e1 : (kvs.map (·.1))[j]? = some kv.1 := by
        rw [List.getElem?_map]
        rw [List.getElem?_take_of_lt hji] at hj1
        rw [hj1]; simp [hj2]
      have e2 : (kvs.map (·.1))[i]? = some kv.1 := by rw [List.getElem?_map, hkv]; rfl
      obtain ⟨l1, q1⟩ := List.getElem?_eq_some_iff.mp e1
      obtain ⟨l2, q2⟩ := List.getElem?_eq_some_iff.mp e2
      exact (List.pairwise_iff_getElem.mp hn) j i l1 l2 hji (q1.trans q2.symm)
    refine wpAny_dictSetHashed_pairs (knd := intKind prog w) (hsz := by rw [List.length_take, sizeLine_eq]; omega) (intKind_is _ _ _ _) hd1 fun h₂ hd2 hs2 => ?_
    rw [stored_new hfresh] at hd2
    have et : kvs.take (i + 1) = kvs.take i ++ [(kv.1, kv.2)] := by rw [List.take_add_one, hkv]; rfl
    rw [← et] at hd2
    have keep2 : ∀ b o, b ≠ d → h₁.get? b = some o → h₂.get? b = some o := fun b o hb e => (hs2.2 b hb).trans e
    refine wpAny_pure ⟨plainId_quiet plain_update_loop _, ih (i + 1) _ _ _ (by omega) hlt (W.frame _ h₁ h₂ hst' fun b hb o e => ?_) hd2 (fun j y kv' hj hkv' => ?_) fun h' tk hd' hk' => ?_⟩
    · refine keep2 b o (fun q => ?_) e
      rcases List.mem_cons.mp hb with h1 | h1
      · exact hdI (q.symm.trans h1)
      · exact hdl (q.symm.trans (List.mem_singleton.mp h1))
    · obtain ⟨T', t', e', a', b', oT', hoT2, c'⟩ := hp j y kv' hj hkv'
      exact ⟨T', t', e', a', b', oT', keep2 _ _ a' (keep1 _ _ b' hoT2), c'⟩
    · exact hR h' tk hd' fun b o hb1 hb2 e => hk' b o hb1 hb2 (keep2 _ _ hb1 (keep1 _ _ hb2 e))
theorem dict_of_pairs {prog : Program} {w : World} {A : Around} {E : Value → Shared → Prop} {s : Shared} {Q : Value → Shared → Prop} {l : Addr} {n : Nat} {ys : List Value} {kvs : List (Int × Value)}
    (hA : A.handled = none) (hl : s.heap.get? l = some (listOf ys.toArray n)) (hlen : kvs.length = ys.length) (hn : (kvs.map (·.1)).Nodup) (hsz : ys.length ≤ 1000)
    (hp : ∀ (j : Nat) (y : Value) (kv : Int × Value), ys[j]? = some y → kvs[j]? = some kv → ∃ T t, y = .ref T ∧ s.heap.IsTuple T #[.int kv.1 t, kv.2])
    (h : ∀ h' tk, h'.DictOf (intKind prog w) s.heap.objs.size kvs → s.heap.StaysIn h' → Q (.ref s.heap.objs.size) { s with heap := h', toks := tk }) :
    wpAny (model prog w) A (call (.type "dict") [.ref l]) Q E s := by
  refine callType_codes (Q₁ := fun obj s₁ => obj = .ref s.heap.objs.size ∧ s₁ = { s with heap := s.heap.push { cls := .type "dict", data := .dict #[] } }) F.kt_called_dict (F.kt_typeCall_dict_1 _) F.entry_dict_init (kt_code_dict_new _ ⟨rfl, rfl⟩) ?_
  rintro obj s₁ ⟨rfl, rfl⟩
  have hnew : (s.heap.push { cls := .type "dict", data := .dict #[] }).DictOf (intKind prog w) s.heap.objs.size [] := Heap.DictOf.new s.heap
  have hlt : l < s.heap.objs.size := Heap.lt_size hl
  have hl1 : (s.heap.push { cls := .type "dict", data := .dict #[] }).get? l = some (listOf ys.toArray n) := Heap.get?_push_of_some _ hl
  refine ⟨hnew.typeIs, F.args_dict_init_2 _ _, ?_⟩
  unfold Builtin.«dict.__init__»
  refine wpAny_bind ?_
  unfold Builtin.Dict.selfAndRest
  refine wpAny_bind (wpAny_notOrdered_dict hnew.typeIs ?_)
  show wpAny _ _ (pure (s.heap.objs.size, [Value.ref l])) _ _ _
  refine wpAny_pure ?_
  show wpAny _ _ (Builtin.Dict.updateFrom "dict.__init__" s.heap.objs.size (.ref l) [] .none) _ _ _
  unfold Builtin.Dict.updateFrom
  refine wpAny_bind (wpAny_typeOf (T := "list") ⟨_, hl1, rfl⟩ ?_)
  rw [if_pos (by decide)]
  refine wpAny_bind (getAttrQ_miss_list hl1 rfl rfl rfl (am_miss_of_fast (by kernel_rfl)) (by decide) hA (fun h₂ tk₂ st₂ => ?_) (by rw [sizeLine_eq]; decide))
  dsimp only
  rw [if_pos (by rfl)]
  refine wpAny_bind (wpAny_rule ?_)
  have hl2 : h₂.get? l = some (listOf ys.toArray n) := st₂ _ _ hl1
  have hd2 : h₂.DictOf (intKind prog w) s.heap.objs.size [] := by
    obtain ⟨o, es, ep, ho, r⟩ := hnew
    exact ⟨o, es, ep, st₂ _ _ ho, r⟩
  have hdl : s.heap.objs.size < h₂.objs.size := by
    obtain ⟨o, es, ep, ho, r⟩ := hd2
    exact Heap.lt_size ho
  have hll : h₂.IsList l ys.toArray := ⟨_, hl2, rfl, _, rfl⟩
  refine wpAny_bind (wpAny_pyIter_list hll ?_)
  refine wpAny_pure ⟨plainId_quiet plain_update_loop _, ?_⟩
  have hIs : s.heap.objs.size ≠ h₂.objs.size := Nat.ne_of_lt hdl
  have hlI : l ≠ h₂.objs.size := Nat.ne_of_lt (Nat.lt_trans hlt hdl)
  show codeAny (model prog w) A.in1 (.builtin "dict.update.loop" ⟨[.ref s.heap.objs.size, .ref h₂.objs.size, .int 0 0, .none], []⟩) _ _
  refine update_loop (A := A.in1) (kvs := kvs) (ys := ys) (l := l) hA hlI (Nat.ne_of_gt hlt) hIs hlen hn hsz ys.length 0 0 0 _ (by omega) (Nat.zero_le _) ?_ ?_ (fun j y kv hj hkv => ?_) (fun h' tk hd' hk' => ?_)
  · exact ⟨⟨_, Heap.get?_push_size _ rfl, rfl, rfl⟩, hll.at fun o e => Heap.get?_push_of_some _ e⟩
  · rw [List.take_zero]; exact hd2.push _
  · obtain ⟨T, t, rfl, oT, hoT, rT⟩ := hp j y kv hj hkv
    have hTs := Heap.lt_size hoT
    exact ⟨T, t, rfl, Nat.ne_of_lt hTs, Nat.ne_of_lt (Nat.lt_trans hTs hdl), oT, Heap.get?_push_of_some _ (st₂ _ _ (Heap.get?_push_of_some _ hoT)), rT⟩
  · refine ⟨rfl, h h' tk hd' fun b o e => ?_⟩
    have hb := Heap.lt_size e
    exact hk' b o (Nat.ne_of_lt hb) (Nat.ne_of_lt (Nat.lt_trans hb hdl)) (Heap.get?_push_of_some _ (st₂ _ _ (Heap.get?_push_of_some _ e)))
end Mine
end
section
open PySem PySem.W PyProof.Rows PySem.Calls PyProof.V PySem.Spec
set_option maxRecDepth 100000
set_option maxHeartbeats 8000000
namespace Mine
section
variable {prog : Program} {w : World} {A : Around} {E : Value → Shared → Prop} {s : Shared} {env : Env}
theorem keeps_refl (s : Shared) : Keeps s s := ⟨s.heap, s.toks, rfl, fun _ _ e => e⟩
theorem keeps_tok (s : Shared) (tk : Nat) : Keeps s { s with toks := tk } := ⟨s.heap, tk, rfl, fun _ _ e => e⟩
noncomputable abbrev testsOf (ifs : List Expr) (cenv : Env) : Sem Bool := forIn ifs true fun c r => if r = true then do let ok ← isTrue c cenv (eval c cenv); pure (ForInStep.yield ok) else pure (ForInStep.yield r)
theorem comp_any {elt iter : Expr} {x : Str} {px : Pos} {ifs : List Expr} {scope : Scope} {cl : List (Str × Addr)} {pos : Pos} {Q : Value → Shared → Prop} (p : Value → Bool) (G : Value → Value → Prop)
    (hh : A.handled = none) (hclos : closureFor scope env = pure cl) (hcell : ∀ y ∈ scope.names, y.2 ≠ .cell) (hkind : scope.kind = .function)
    (hnames : ∀ y ∈ scope.names, y.2 = .local → scope.names.lookup y.1 = some .local) (hx : scope.names.lookup x = some .local)
    (hs : ∀ x, foldedSetIterable iter env x = pure x)
    (h : wpAny (model prog w) A (eval iter env) (fun xv s₁ => Stop (∃ ax vs, xv = .ref ax ∧ s₁.heap.IsList ax (List.toArray vs) ∧ vs.length ≤ 1000 ∧
      (∀ C v s₂ m₂ E', s₁.heap.objs.size ≤ C → v ∈ vs → s₂.heap.Ns C m₂ → m₂ x = some v → s₁.heap.StaysIn s₂.heap → wpAny (model prog w) A (testsOf ifs (compEnvC scope cl C env)) (fun ok s₃ => ok = p v ∧ Keeps s₂ s₃) E' s₂) ∧
      (∀ C v s₂ m₂ E', s₁.heap.objs.size ≤ C → v ∈ vs → p v = true → s₂.heap.Ns C m₂ → m₂ x = some v → s₁.heap.StaysIn s₂.heap → wpAny (model prog w) A (eval elt (compEnvC scope cl C env)) (fun y s₃ => G v y ∧ Keeps s₂ s₃) E' s₂) ∧
      (∀ D ys n h' tk, s₁.heap.get? D = none → h'.get? D = some (listOf (List.toArray ys) n) → Paired G (vs.filter p) ys → s₁.heap.StaysIn h' → Q (.ref D) { s₁ with heap := h', toks := tk }))) E s) :
    wpAny (model prog w) A (eval (.ListComp elt [⟨.Name x px, iter, ifs, 0⟩] scope pos) env) Q E s := by
  refine wpAny_ListComp_free p G hclos hcell hkind hnames hx (wpAny_mono h (fun xv s₁ h₁ => ?_) fun _ _ e => e) hs
  obtain ⟨ax, vs, rfl, hl, hsz, htests, helt, hQ⟩ := h₁
  have hlt : ax < s₁.heap.objs.size := by obtain ⟨_, e, _⟩ := hl; exact Heap.lt_size e
  have up : ∀ (s₃ : Shared), (∀ b o, b ∉ [s₁.heap.objs.size] → (s₁.heap.push { cls := .type "list_iterator", data := .fields #[.ref ax, .int 0 0] }).get? b = some o → s₃.heap.get? b = some o) → ∀ b o, s₁.heap.get? b = some o → s₃.heap.get? b = some o :=
    fun s₃ hk b o e => hk b o (fun hm => by rcases List.mem_cons.mp hm with rfl | hm; exact Nat.lt_irrefl _ (Heap.lt_size e); cases hm) (Heap.get?_push_of_some _ e)
  refine wpAny_pyIter_list hl ⟨s₁.heap.objs.size, [s₁.heap.objs.size, ax], [s₁.heap.objs.size], vs.toArray.size, _, _, rfl, Walks.list hh _ _ (Nat.ne_of_lt hlt) vs.toArray, (by rw [List.size_toArray, sizeLine_eq]; omega), ⟨⟨_, Heap.get?_push_size _ rfl, rfl, rfl⟩, hl.push _⟩, ?_, ⟨?_, ?_⟩, ?_⟩
  · intro b hb
    show b < (s₁.heap.push _).objs.size
    rw [Heap.size_push]
    rcases List.mem_cons.mp hb with rfl | hb
    · exact Nat.lt_succ_self _
    · rw [List.mem_singleton.mp hb]; exact Nat.lt_succ_of_lt hlt
  · intro C i v s₃ m₃ E' hC hP hn hm hk _
    exact htests C v s₃ m₃ E' (Nat.le_of_succ_le (by simpa [Heap.size_push] using hC)) (by simpa using Array.mem_of_getElem? hP) hn hm (up s₃ hk)
  · intro C i v s₃ m₃ E' hC hP hp hn hm hk _
    exact helt C v s₃ m₃ E' (Nat.le_of_succ_le (by simpa [Heap.size_push] using hC)) (by simpa using Array.mem_of_getElem? hP) hp hn hm (up s₃ hk)
  · intro D h' tk ys vs' hnew hlD hplD hlen hP hF hk
    have e : vs' = vs := by simpa using list_of_places hlen hP
    subst e
    obtain ⟨n, hD⟩ := hplD
    refine hQ D ys.toList n h' tk ?_ (by rw [Array.toArray_toList]; exact hD) hF (up { s₁ with heap := h' } hk)
    cases e : s₁.heap.get? D with
    | none => rfl
    | some o' => rw [Heap.get?_push_of_some _ e] at hnew; cases hnew
theorem comp_anyA {elt iter : Expr} {x y : Str} {px py : Pos} {ifs : List Expr} {scope : Scope} {cl : List (Str × Addr)} {pos spos : Pos} {Q : Flow → Shared → Prop} (p : Value → Bool) (G : Value → Value → Prop)
    (hsw : swapsWith (.ListComp elt [⟨.Name x px, iter, ifs, 0⟩] scope pos) (some (.Name y py)) spos.line env = pure true)
    (hh : A.handled = none) (hclos : closureFor scope env = pure cl) (hcell : ∀ y ∈ scope.names, y.2 ≠ .cell) (hkind : scope.kind = .function)
    (hnames : ∀ y ∈ scope.names, y.2 = .local → scope.names.lookup y.1 = some .local) (hx : scope.names.lookup x = some .local)
    (hy : env.kindOf y = some .local) (hp : (env.scope.kind == .class || (env.scope.kind == .module && env.locals != env.globals)) = false)
    (hs : ∀ x, foldedSetIterable iter env x = pure x)
    (h : wpAny (model prog w) A (eval iter env) (fun xv s₁ => Stop (∃ ax vs h₀ m, xv = .ref ax ∧ s₁.heap.IsList ax (List.toArray vs) ∧ vs.length ≤ 1000 ∧ Fr h₀ env.locals s₁.heap m ∧
      (∀ C v s₂ m₂ E', s₁.heap.objs.size ≤ C → v ∈ vs → s₂.heap.Ns C m₂ → m₂ x = some v → s₁.heap.StaysIn s₂.heap → wpAny (model prog w) A (testsOf ifs (compEnvC scope cl C env)) (fun ok s₃ => ok = p v ∧ Keeps s₂ s₃) E' s₂) ∧
      (∀ C v s₂ m₂ E', s₁.heap.objs.size ≤ C → v ∈ vs → p v = true → s₂.heap.Ns C m₂ → m₂ x = some v → s₁.heap.StaysIn s₂.heap → wpAny (model prog w) A (eval elt (compEnvC scope cl C env)) (fun y s₃ => G v y ∧ Keeps s₂ s₃) E' s₂) ∧
      (∀ D ys n h' tk, s₁.heap.get? D = none → h'.get? D = some (listOf (List.toArray ys) n) → Paired G (vs.filter p) ys → Fr h₀ env.locals h' (fun z => if z = y then some (.ref D) else m z) → (∀ b o, b ≠ env.locals → s₁.heap.get? b = some o → h'.get? b = some o) → Q .next { s₁ with heap := h', toks := tk }))) E s) :
    wpAny (model prog w) A (exec (.Assign [.Name y py] (.ListComp elt [⟨.Name x px, iter, ifs, 0⟩] scope pos) spos) env) Q E s := by
  refine wpAny_Assign_ListComp_free p G hsw hclos hcell hkind hnames hx hy hp (wpAny_mono h (fun xv s₁ h₁ => ?_) fun _ _ e => e) hs
  obtain ⟨ax, vs, h₀, m, rfl, hl, hsz, F, htests, helt, hQ⟩ := h₁
  have hlt : ax < s₁.heap.objs.size := by obtain ⟨_, e, _⟩ := hl; exact Heap.lt_size e
  have up : ∀ (s₃ : Shared), (∀ b o, b ∉ [s₁.heap.objs.size] → (s₁.heap.push { cls := .type "list_iterator", data := .fields #[.ref ax, .int 0 0] }).get? b = some o → s₃.heap.get? b = some o) → ∀ b o, s₁.heap.get? b = some o → s₃.heap.get? b = some o :=
    fun s₃ hk b o e => hk b o (fun hm => by rcases List.mem_cons.mp hm with rfl | hm; exact Nat.lt_irrefl _ (Heap.lt_size e); cases hm) (Heap.get?_push_of_some _ e)
  refine wpAny_pyIter_list hl ⟨s₁.heap.objs.size, [s₁.heap.objs.size, ax], [s₁.heap.objs.size], vs.toArray.size, _, _, m, rfl, Walks.list hh _ _ (Nat.ne_of_lt hlt) vs.toArray, (by rw [List.size_toArray, sizeLine_eq]; omega), ⟨⟨_, Heap.get?_push_size _ rfl, rfl, rfl⟩, hl.push _⟩, ?_, ?_, F.ns.push _, ⟨?_, ?_⟩, ?_⟩
  · intro b hb
    show b < (s₁.heap.push _).objs.size
    rw [Heap.size_push]
    rcases List.mem_cons.mp hb with rfl | hb
    · exact Nat.lt_succ_self _
    · rw [List.mem_singleton.mp hb]; exact Nat.lt_succ_of_lt hlt
  · intro hm
    exact Nat.lt_irrefl _ ((List.mem_singleton.mp hm) ▸ F.ns.lt)
  · intro C i v s₃ m₃ E' hC hP hn hm hk _
    exact htests C v s₃ m₃ E' (Nat.le_of_succ_le (by simpa [Heap.size_push] using hC)) (by simpa using Array.mem_of_getElem? hP) hn hm (up s₃ hk)
  · intro C i v s₃ m₃ E' hC hP hp hn hm hk _
    exact helt C v s₃ m₃ E' (Nat.le_of_succ_le (by simpa [Heap.size_push] using hC)) (by simpa using Array.mem_of_getElem? hP) hp hn hm (up s₃ hk)
  · intro D h' tk ys vs' hnew hlD hplD hlen hP hF hn' hk
    have e : vs' = vs := by simpa using list_of_places hlen hP
    subst e
    obtain ⟨n, hD⟩ := hplD
    have keep : ∀ b o, b ≠ env.locals → s₁.heap.get? b = some o → h'.get? b = some o := fun b o hb e =>
      hk b o hb (fun hm => by rcases List.mem_cons.mp hm with rfl | hm; exact Nat.lt_irrefl _ (Heap.lt_size e); cases hm) (Heap.get?_push_of_some _ e)
    refine hQ D ys.toList n h' tk ?_ (by rw [Array.toArray_toList]; exact hD) hF ⟨hn', fun b o e => keep b o (Nat.ne_of_lt (Nat.lt_of_lt_of_le (Heap.lt_size e) F.above)) (F.keep b o e), F.above⟩ keep
    cases e : s₁.heap.get? D with
    | none => rfl
    | some o' => rw [Heap.get?_push_of_some _ e] at hnew; cases hnew
/-- pairs that a letter gives -/
theorem comp_tup {elt iter : Expr} {x : Str} {px : Pos} {ifs : List Expr} {scope : Scope} {pos : Pos} {Q : Value → Shared → Prop} (G : Value → Array Value → Prop)
    (hh : A.handled = none) (hfree : ∀ y ∈ scope.names, y.2 ≠ .free) (hcell : ∀ y ∈ scope.names, y.2 ≠ .cell) (hkind : scope.kind = .function)
    (hnames : ∀ y ∈ scope.names, y.2 = .local → scope.names.lookup y.1 = some .local) (hx : scope.names.lookup x = some .local) (hifs : ifs = [])
    (hs : ∀ x, foldedSetIterable iter env x = pure x)
    (h : wpAny (model prog w) A (eval iter env) (fun xv s₁ => Stop (∃ ax vs, xv = .ref ax ∧ s₁.heap.IsList ax (List.toArray vs) ∧ vs.length ≤ 1000 ∧
      (∀ C v s₂ m₂ E', v ∈ vs → s₂.heap.Ns C m₂ → m₂ x = some v → s₁.heap.StaysIn s₂.heap → wpAny (model prog w) A (eval elt (compEnv scope C env)) (fun y s₃ => (∃ T vs, y = .ref T ∧ s₂.heap.get? T = none ∧ s₃.heap.IsTuple T vs ∧ G v vs) ∧ Keeps s₂ s₃) E' s₂) ∧
      (∀ D ys h' tk, s₁.heap.get? D = none → h'.IsList D (List.toArray ys) → Paired (TupIs G h') vs ys → s₁.heap.StaysIn h' → Q (.ref D) { s₁ with heap := h', toks := tk }))) E s) :
    wpAny (model prog w) A (eval (.ListComp elt [⟨.Name x px, iter, ifs, 0⟩] scope pos) env) Q E s := by
  subst hifs
  refine wpAny_ListComp_tup (fun _ => true) G hh hfree hcell hkind hnames hx (wpAny_mono h (fun xv s₁ h₁ => ?_) fun _ _ e => e) hs
  obtain ⟨ax, vs, rfl, hl, hsz, helt, hQ⟩ := h₁
  refine ⟨ax, vs.toArray, rfl, hl, by rw [List.size_toArray, sizeLine_eq]; omega, fun C v s₂ m₂ E' _ _ _ _ => wpAny_pure ⟨rfl, s₂.heap, s₂.toks, rfl, fun _ _ e => e⟩, fun C v s₂ m₂ E' hv _ hn hm hk => helt C v s₂ m₂ E' (by simpa using hv) hn hm hk, fun D h' tk ys hn hl hp hk => ?_⟩
  refine hQ D ys.toList h' tk hn (by rw [Array.toArray_toList]; exact hl) ?_ hk
  have e : List.filter (fun _ => true) vs.toArray.toList = vs := by simp
  rw [e] at hp
  exact hp
end
section
variable {P : Params} {h h' : Heap}
/-- a letter that stands in the heap -/
noncomputable def LetterAt (P : Params) (h : Heap) (v : Value) (u : Int) : Prop :=
  ∃ x dx k0 k1 k2 k3 k4 tu tm oct fa ins ms, v = .ref x ∧ h.get? x = some (instObj 204 dx) ∧ h.get? dx = some (dictOf (letD P k0 k1 k2 k3 k4 (.int u tu) oct (.ref fa) ins (.int ms tm)) 5)
theorem LetterAt.keeps {v : Value} {u : Int} (x : LetterAt P h v u) (st : h.StaysIn h') : LetterAt P h' v u := by
  obtain ⟨x, dx, k0, k1, k2, k3, k4, tu, tm, oct, fa, ins, ms, e, a, b⟩ := x
  exact ⟨x, dx, k0, k1, k2, k3, k4, tu, tm, oct, fa, ins, ms, e, st _ _ a, st _ _ b⟩
theorem LetterAt.uniq {v : Value} {u u' : Int} (x : LetterAt P h v u) (y : LetterAt P h v u') : u = u' := by
  obtain ⟨x, dx, k0, k1, k2, k3, k4, tu, tm, oct, fa, ins, ms, e, a, b⟩ := x
  obtain ⟨x', dx', k0', k1', k2', k3', k4', tu', tm', oct', fa', ins', ms', e', a', b'⟩ := y
  subst e
  cases e'
  rw [a] at a'; cases a'
  rw [b] at b'; cases b'
  rfl
inductive LettersAt (P : Params) (h : Heap) : List Value → List Int → Prop
  | nil : LettersAt P h [] []
  | cons {v : Value} {u : Int} {vs : List Value} {us : List Int} : LetterAt P h v u → LettersAt P h vs us → LettersAt P h (v :: vs) (u :: us)
theorem LettersAt.keeps (st : h.StaysIn h') : ∀ {vs : List Value} {us : List Int}, LettersAt P h vs us → LettersAt P h' vs us
  | _, _, .nil => .nil
  | _, _, .cons a b => .cons (a.keeps st) (b.keeps st)
theorem LettersAt.length : ∀ {vs : List Value} {us : List Int}, LettersAt P h vs us → vs.length = us.length
  | _, _, .nil => rfl
  | _, _, .cons _ b => by simp [b.length]
theorem LettersAt.mem : ∀ {vs : List Value} {us : List Int}, LettersAt P h vs us → ∀ v ∈ vs, ∃ u ∈ us, LetterAt P h v u
  | _, _, .cons a b, v, hv => by
    rcases List.mem_cons.mp hv with rfl | hv
    · exact ⟨_, .head _, a⟩
    · obtain ⟨u, hu, q⟩ := b.mem v hv; exact ⟨u, .tail _ hu, q⟩
theorem LettersAt.snoc {v : Value} {u : Int} (q : LetterAt P h v u) : ∀ {vs : List Value} {us : List Int}, LettersAt P h vs us → LettersAt P h (vs ++ [v]) (us ++ [u])
  | _, _, .nil => .cons q .nil
  | _, _, .cons a b => .cons a (b.snoc q)
open Classical in
/-- a letter's uid, read off -/
noncomputable def uidOf (P : Params) (h : Heap) (v : Value) : Int := if x : ∃ u, LetterAt P h v u then x.choose else 0
theorem uidOf_is {v : Value} {u : Int} (x : LetterAt P h v u) : uidOf P h v = u := by
  have : ∃ u, LetterAt P h v u := ⟨u, x⟩
  unfold uidOf
  rw [dif_pos this]
  exact this.choose_spec.uniq x
/-- what a comprehension over letters gives: the uids -/
theorem LettersAt.uids {G : Value → Value → Prop} : ∀ {vs : List Value} {us : List Int} {ys : List Value}, LettersAt P h vs us → Paired G vs ys → (∀ v u y, LetterAt P h v u → G v y → ∃ t, y = .int u t) → IntsAre ys us
  | _, _, _, .nil, .nil, _ => .nil
  | _, _, _, .cons a b, .cons g r, hG => by
    obtain ⟨t, rfl⟩ := hG _ _ _ a g
    exact .cons _ t (b.uids r hG)
/-- the letters that a test leaves -/
theorem LettersAt.filtered (q : Int → Bool) : ∀ {vs : List Value} {us : List Int}, LettersAt P h vs us → LettersAt P h (vs.filter fun v => q (uidOf P h v)) (us.filter q)
  | _, _, .nil => .nil
  | _, _, .cons (v := v) (u := u) a b => by
    have e := uidOf_is a
    rw [List.filter_cons, List.filter_cons, e]
    cases hq : q u with
    | true => exact .cons a (b.filtered q)
    | false => exact b.filtered q
/-- a letter that the ledger names -/
noncomputable def LetterIn (P : Params) (led : List (Addr × Obj)) (v : Value) (u : Int) : Prop :=
  ∃ x dx k0 k1 k2 k3 k4 tu tm oct fa ins ms, v = .ref x ∧ (x, instObj 204 dx) ∈ led ∧ (dx, dictOf (letD P k0 k1 k2 k3 k4 (.int u tu) oct (.ref fa) ins (.int ms tm)) 5) ∈ led
inductive LettersIn (P : Params) (led : List (Addr × Obj)) : List Value → List Int → Prop
  | nil : LettersIn P led [] []
  | cons {v : Value} {u : Int} {vs : List Value} {us : List Int} : LetterIn P led v u → LettersIn P led vs us → LettersIn P led (v :: vs) (u :: us)
theorem LetterIn.more {led led' : List (Addr × Obj)} {v : Value} {u : Int} (x : LetterIn P led v u) (hs : ∀ p ∈ led, p ∈ led') : LetterIn P led' v u := by
  obtain ⟨x, dx, k0, k1, k2, k3, k4, tu, tm, oct, fa, ins, ms, e, a, b⟩ := x
  exact ⟨x, dx, k0, k1, k2, k3, k4, tu, tm, oct, fa, ins, ms, e, hs _ a, hs _ b⟩
theorem LettersIn.more {led led' : List (Addr × Obj)} (hs : ∀ p ∈ led, p ∈ led') : ∀ {vs : List Value} {us : List Int}, LettersIn P led vs us → LettersIn P led' vs us
  | _, _, .nil => .nil
  | _, _, .cons a b => .cons (a.more hs) (b.more hs)
theorem LettersIn.snoc {led : List (Addr × Obj)} {v : Value} {u : Int} (q : LetterIn P led v u) : ∀ {vs : List Value} {us : List Int}, LettersIn P led vs us → LettersIn P led (vs ++ [v]) (us ++ [u])
  | _, _, .nil => .cons q .nil
  | _, _, .cons a b => .cons a (b.snoc q)
theorem LettersIn.length {led : List (Addr × Obj)} : ∀ {vs : List Value} {us : List Int}, LettersIn P led vs us → vs.length = us.length
  | _, _, .nil => rfl
  | _, _, .cons _ b => by simp [b.length]
theorem LetterIn.at {h₀ : Heap} {L : Addr} {led : List (Addr × Obj)} {v : Value} {u : Int} (N : News h₀ L h led) (x : LetterIn P led v u) : LetterAt P h v u := by
  obtain ⟨x, dx, k0, k1, k2, k3, k4, tu, tm, oct, fa, ins, ms, e, p, q⟩ := x
  exact ⟨x, dx, k0, k1, k2, k3, k4, tu, tm, oct, fa, ins, ms, e, N.get p, N.get q⟩
theorem LettersIn.mem {led : List (Addr × Obj)} : ∀ {vs : List Value} {us : List Int}, LettersIn P led vs us → ∀ v ∈ vs, ∃ u ∈ us, LetterIn P led v u
  | _, _, .cons a b, v, hv => by
    rcases List.mem_cons.mp hv with rfl | hv
    · exact ⟨_, .head _, a⟩
    · obtain ⟨u, hu, q⟩ := b.mem v hv; exact ⟨u, .tail _ hu, q⟩
theorem LettersIn.at {h₀ : Heap} {L : Addr} {led : List (Addr × Obj)} (N : News h₀ L h led) : ∀ {vs : List Value} {us : List Int}, LettersIn P led vs us → LettersAt P h vs us
  | _, _, .nil => .nil
  | _, _, .cons a b => by
    obtain ⟨x, dx, k0, k1, k2, k3, k4, tu, tm, oct, fa, ins, ms, e, p, q⟩ := a
    exact .cons ⟨x, dx, k0, k1, k2, k3, k4, tu, tm, oct, fa, ins, ms, e, N.get p, N.get q⟩ (LettersIn.at N b)
/-- the letters that a test on their uids leaves, by the ledger -/
theorem LettersIn.filtered {h₀ : Heap} {L : Addr} {led : List (Addr × Obj)} (N : News h₀ L h led) (q : Int → Bool) : ∀ {vs : List Value} {us : List Int}, LettersIn P led vs us → LettersIn P led (vs.filter fun v => q (uidOf P h v)) (us.filter q)
  | _, _, .nil => .nil
  | _, _, .cons (v := v) (u := u) a b => by
    have e : uidOf P h v = u := by
      obtain ⟨x, dx, k0, k1, k2, k3, k4, tu, tm, oct, fa, ins, ms, e, p, q⟩ := a
      exact uidOf_is ⟨x, dx, k0, k1, k2, k3, k4, tu, tm, oct, fa, ins, ms, e, N.get p, N.get q⟩
    rw [List.filter_cons, List.filter_cons, e]
    cases hq : q u with
    | true => exact .cons a (LettersIn.filtered N q b)
    | false => exact LettersIn.filtered N q b
/-- the pairs that letters give, item by item -/
theorem pairs_places {h₁ h₂ : Heap} {G : Value → Array Value → Prop} (hG : ∀ v its, G v its → ∃ t fv, its = #[Value.int (uidOf P h₁ v) t, fv]) :
    ∀ {vs : List Value} {us : List Int} {ys : List Value}, LettersAt P h₁ vs us → Paired (TupIs G h₂) vs ys →
      ∃ kvs : List (Int × Value), kvs.map (·.1) = us ∧ ∀ (j : Nat) (y : Value) (kv : Int × Value), ys[j]? = some y → kvs[j]? = some kv → ∃ T t, y = .ref T ∧ h₂.IsTuple T #[.int kv.1 t, kv.2]
  | _, _, _, .nil, .nil => ⟨[], rfl, fun j y kv h => by simp at h⟩
  | _, _, _, .cons (u := u) a b, .cons (b := y) ⟨T, its, e1, e2, e3⟩ r => by
    obtain ⟨kvs, q1, q2⟩ := pairs_places hG b r
    obtain ⟨t, fv, rfl⟩ := hG _ _ e3
    refine ⟨(u, fv) :: kvs, by simp [q1], fun j y' kv hj hk => ?_⟩
    cases j with
    | zero =>
      have h1 : y = y' := by simpa using hj
      have h2 : (u, fv) = kv := by simpa using hk
      subst h1; subst h2
      exact ⟨T, t, e1, by rw [uidOf_is a] at e2; exact e2⟩
    | succ j => exact q2 j y' kv (by simpa using hj) (by simpa using hk)
theorem Paired_length {α β : Type} {G : α → β → Prop} : ∀ {l₁ : List α} {l₂ : List β}, Paired G l₁ l₂ → l₁.length = l₂.length
  | _, _, .nil => rfl
  | _, _, .cons _ r => by simp [Paired_length r]
end
/-- the first n addresses differ from all behind them -/
noncomputable def ApartN : Nat → List (Addr × Obj) → Prop
  | 0, _ => True
  | _ + 1, [] => True
  | n + 1, p :: r => (∀ q ∈ r, q.1 ≠ p.1) ∧ ApartN n r
/-- no address twice -/
noncomputable def Apart : List (Addr × Obj) → Prop
  | [] => True
  | p :: r => (∀ q ∈ r, q.1 ≠ p.1) ∧ Apart r
theorem Apart.cons {p : Addr × Obj} {r : List (Addr × Obj)} (h : ∀ q ∈ r, q.1 ≠ p.1) (a : Apart r) : Apart (p :: r) := ⟨h, a⟩
theorem Apart.pick : ∀ {l : List (Addr × Obj)} (n : Nat) {p : Addr × Obj}, l[n]? = some p → Apart l → (∀ q ∈ l.eraseIdx n, q.1 ≠ p.1) ∧ Apart (l.eraseIdx n)
  | [], _, _, h, _ => by simp at h
  | a :: r, 0, p, h, ⟨x, y⟩ => by
    have : a = p := by simpa using h
    subst this
    exact ⟨x, y⟩
  | a :: r, n + 1, p, h, ⟨x, y⟩ => by
    have h' : r[n]? = some p := by simpa using h
    obtain ⟨u, v⟩ := Apart.pick n h' y
    have hm : p ∈ r := List.mem_of_getElem? h'
    refine ⟨fun q hq => ?_, fun q hq => ?_, v⟩
    · rcases List.mem_cons.mp hq with rfl | hq
      · exact fun e => x p hm e.symm
      · exact u q hq
    · exact x q (List.mem_of_mem_eraseIdx hq)
theorem Apart.put : ∀ {l : List (Addr × Obj)} (n : Nat) {d : Addr} {o o' : Obj}, l[n]? = some (d, o) → Apart l → Apart (l.set n (d, o'))
  | [], _, _, _, _, h, _ => by simp at h
  | a :: r, 0, d, o, o', h, ⟨x, y⟩ => by
    have : a = (d, o) := by simpa using h
    subst this
    exact ⟨x, y⟩
  | a :: r, n + 1, d, o, o', h, ⟨x, y⟩ => by
    have h' : r[n]? = some (d, o) := by simpa using h
    refine ⟨fun q hq => ?_, Apart.put n h' y⟩
    rcases List.mem_or_eq_of_mem_set hq with hq | rfl
    · exact x q hq
    · exact x (d, o) (List.mem_of_getElem? h')
theorem news_pick {h₀ h : Heap} {L : Addr} {l : List (Addr × Obj)} (n : Nat) {p : Addr × Obj} (hp : l[n]? = some p) (N : News h₀ L h l) : News h₀ L h (p :: l.eraseIdx n) := fun q hq => by
  rcases List.mem_cons.mp hq with rfl | hq
  · exact N _ (List.mem_of_getElem? hp)
  · exact N _ (List.mem_of_mem_eraseIdx hq)
theorem news_put {h₀ h : Heap} {L : Addr} : ∀ {l : List (Addr × Obj)} (n : Nat) {d : Addr} {o o' : Obj}, l[n]? = some (d, o) → News h₀ L h ((d, o') :: l.eraseIdx n) → News h₀ L h (l.set n (d, o'))
  | [], _, _, _, _, hx, _ => by simp at hx
  | a :: r, 0, d, o, o', hx, N => N
  | a :: r, n + 1, d, o, o', hx, N => by
    have h' : r[n]? = some (d, o) := by simpa using hx
    have N1 : News h₀ L h ((d, o') :: r.eraseIdx n) := fun q hq => by
      rcases List.mem_cons.mp hq with rfl | hq
      · exact N _ (.head _)
      · exact N _ (.tail _ (.tail _ hq))
    have N2 := news_put n h' N1
    intro q hq
    rcases List.mem_cons.mp hq with rfl | hq
    · exact N _ (.tail _ (.head _))
    · exact N2 q hq
theorem updF_at : ∀ {l : List (Addr × Obj)} (n : Nat) {d : Addr} {o : Obj}, l[n]? = some (d, o) → Apart l → UpdF d o l (fun o' => l.set n (d, o'))
  | [], _, _, _, h, _ => by simp at h
  | a :: r, 0, d, o, h, ⟨x, y⟩ => by
    have : a = (d, o) := by simpa using h
    subst this
    exact .head x
  | a :: r, n + 1, d, o, h, ⟨x, y⟩ => by
    have h' : r[n]? = some (d, o) := by simpa using h
    exact .tail (fun e => x (d, o) (List.mem_of_getElem? h') e.symm) (updF_at n h' y)
end Mine
end
section
open PySem PySem.W PyProof.Rows PySem.Calls PyProof.V PySem.Spec
set_option maxRecDepth 100000
set_option maxHeartbeats 8000000
namespace Mine
section
variable {prog : Program} {w : World} {A : Around} {E : Value → Shared → Prop} {s : Shared} {env : Env} {R : Result → Shared → Prop}
/-- what an element's value may say of objects of its own -/
noncomputable def Lasts (G : Heap → List Addr → Value → Value → Prop) : Prop := ∀ h h' fp v y, G h fp v y → (∀ b ∈ fp, ∀ o, h.get? b = some o → h'.get? b = some o) → G h' fp v y
noncomputable def RelAt (G : Heap → List Addr → Value → Value → Prop) (s : Heap) (Z : List Addr) (h : Heap) (v y : Value) : Prop := ∃ fp, (∀ b ∈ fp, b ∉ Z ∧ s.get? b = none) ∧ G h fp v y
theorem RelAt.keep {G : Heap → List Addr → Value → Value → Prop} (hG : Lasts G) {h₀ h h' : Heap} {Z : List Addr} {v y : Value} (x : RelAt G h₀ Z h v y) (hk : ∀ b o, b ∉ Z → h.get? b = some o → h'.get? b = some o) : RelAt G h₀ Z h' v y :=
  let ⟨fp, a, b⟩ := x
  ⟨fp, a, hG _ _ _ _ _ b fun c hc o e => hk c o (a c hc).1 e⟩
theorem paired_mono {α β : Type} {G G' : α → β → Prop} (hm : ∀ a b, G a b → G' a b) : ∀ {l₁ : List α} {l₂ : List β}, Paired G l₁ l₂ → Paired G' l₁ l₂
  | _, _, .nil => .nil
  | _, _, .cons a r => .cons (hm _ _ a) (paired_mono hm r)
theorem comp_loop {elt iter : Expr} {x : Str} {px : Pos} {ifs : List Expr} {scope : Scope} {pos : Pos} {cenv : Env} {I ax D : Addr} {vs : List Value} {p : Value → Bool} {G : Heap → List Addr → Value → Value → Prop} {m : Str → Option Value}
    (hG : Lasts G) (hh : A.handled = none) (hx : cenv.kindOf x = some .local) (hp : (cenv.scope.kind == .class || (cenv.scope.kind == .module && cenv.locals != cenv.globals)) = false)
    (hDC : D ≠ cenv.locals) (hDI : D ≠ I) (hCI : cenv.locals ≠ I) (hax : ax ∉ [cenv.locals, I, D]) (hsz : vs.length ≤ 1000)
    (hit : s.heap.IsListIter I ax 0) (hl : s.heap.IsList ax vs.toArray) (hacc : s.heap.PlainList D #[]) (hn : s.heap.Ns cenv.locals m)
    (htests : ∀ v s₂ m₂ E', v ∈ vs → s₂.heap.Ns cenv.locals m₂ → m₂ x = some v → (∀ b o, b ∉ [cenv.locals, I, D] → s.heap.get? b = some o → s₂.heap.get? b = some o) → wpAny (model prog w) A (testsOf ifs cenv) (fun ok s₃ => ok = p v ∧ Keeps s₂ s₃) E' s₂)
    (helt : ∀ v s₂ m₂ E', v ∈ vs → p v = true → s₂.heap.Ns cenv.locals m₂ → m₂ x = some v → (∀ b o, b ∉ [cenv.locals, I, D] → s.heap.get? b = some o → s₂.heap.get? b = some o) →
      wpAny (model prog w) A (eval elt cenv) (fun y s₃ => (∃ fp, (∀ b ∈ fp, s₂.heap.get? b = none) ∧ G s₃.heap fp v y) ∧ Keeps s₂ s₃) E' s₂)
    (hR : ∀ h' tk m' ys, h'.Ns cenv.locals m' → h'.PlainList D (List.toArray ys) → Paired (RelAt G s.heap [cenv.locals, I, D] h') (vs.filter p) ys →
      (∀ b o, b ∉ [cenv.locals, I, D] → s.heap.get? b = some o → h'.get? b = some o) → R (.ok .next) { s with heap := h', toks := tk }) :
    codeAny (model prog w) A (.compLoop (.ListComp elt [⟨.Name x px, iter, ifs, 0⟩] scope pos) 0 (.ref I) (.ref D) cenv) R s := by
  refine codeAny_compLoop_tests
    (fun k s' => ∃ i h' tk m' ys, s' = { s with heap := h', toks := tk } ∧ h'.IsListIter I ax i ∧ h'.PlainList D (List.toArray ys) ∧ h'.Ns cenv.locals m' ∧ Paired (RelAt G s.heap [cenv.locals, I, D] h') ((vs.take i).filter p) ys ∧
      i ≤ vs.length ∧ ys.length ≤ i ∧ k = vs.length + 1 - i ∧ ∀ b o, b ∉ [cenv.locals, I, D] → s.heap.get? b = some o → h'.get? b = some o) ?_ (vs.length + 1)
    ⟨0, s.heap, s.toks, m, [], rfl, hit, hacc, hn, by simpa using Paired.nil, Nat.zero_le _, Nat.le_refl _, rfl, fun _ _ _ e => e⟩
  rintro k s' ⟨i, H, tk, m', ys, rfl, hit', hacc', hn', hF, hi, hys, rfl, hk⟩
  have hZ : ∀ b, b ∉ [cenv.locals, I, D] → b ≠ cenv.locals ∧ b ≠ I ∧ b ≠ D := fun b hb => by simpa using hb
  have hl' : H.IsList ax vs.toArray := hl.at fun o e => hk _ _ hax e
  have hax' := hZ ax hax
  by_cases hlt : i < vs.length
  · have hv : vs[i]? = some vs[i] := by simp [hlt]
    generalize hve : vs[i] = v at hv
    have hvm : v ∈ vs := List.mem_of_getElem? hv
    refine wpAny_pyNext_list_item hit' hl' (x := v) (by simpa using hv) fun h₁ hit₁ hs₁ => ?_
    have k1 : ∀ b o, b ≠ I → H.get? b = some o → h₁.get? b = some o := fun b o hb e => (hs₁.2 b hb).trans e
    refine wpAny_assign_Name (wpAny_storeName_local hx (hn'.at' fun o e => k1 _ _ hCI e) (fun h₂ hn₂ hs₂ => ?_) hp)
    have k2 : ∀ b o, b ≠ cenv.locals → h₁.get? b = some o → h₂.get? b = some o := fun b o hb e => (hs₂.2 b hb).trans e
    have k12 : ∀ b o, b ∉ [cenv.locals, I, D] → H.get? b = some o → h₂.get? b = some o := fun b o hb e => k2 b o (hZ b hb).1 (k1 b o (hZ b hb).2.1 e)
    refine wpAny_mono (htests v _ _ _ hvm hn₂ (by simp) fun b o hb e => k12 b o hb (hk b o hb e)) (fun ok s₃ h₃ => ?_) fun _ _ e => e
    obtain ⟨rfl, h₃, tk₃, rfl, k3⟩ := h₃
    have hit₃ : h₃.IsListIter I ax (i + 1) := hit₁.at fun o e => k3 _ _ (k2 _ _ (Ne.symm hCI) e)
    have hacc₃ : h₃.PlainList D ys.toArray := hacc'.at fun o e => k3 _ _ (k2 _ _ hDC (k1 _ _ hDI e))
    have hn₃ : h₃.Ns cenv.locals _ := hn₂.at' fun o e => k3 _ _ e
    have k13 : ∀ b o, b ∉ [cenv.locals, I, D] → H.get? b = some o → h₃.get? b = some o := fun b o hb e => k3 b o (k12 b o hb e)
    have et := take_succ_filter p vs i v hv
    by_cases hpv : p v = true
    · rw [if_pos hpv]
      refine wpAny_mono (helt v _ _ _ hvm hpv hn₃ (by simp) fun b o hb e => k13 b o hb (hk b o hb e)) (fun y s₄ h₄ => ?_) fun _ _ e => e
      obtain ⟨⟨fp, hfp, hg⟩, h₄, tk₄, rfl, k4⟩ := h₄
      have hacc₄ : h₄.PlainList D ys.toArray := hacc₃.at fun o e => k4 _ _ e
      refine wpAny_list_append_plain (hsz := by rw [List.size_toArray, sizeLine_eq]; omega) hacc₄ fun h₅ hacc₅ hs₅ => ?_
      have k5 : ∀ b o, b ≠ D → h₄.get? b = some o → h₅.get? b = some o := fun b o hb e => (hs₅.2 b hb).trans e
      have k15 : ∀ b o, b ∉ [cenv.locals, I, D] → H.get? b = some o → h₅.get? b = some o := fun b o hb e => k5 b o (hZ b hb).2.2 (k4 _ _ (k13 b o hb e))
      have there : ∀ b, b ∈ [cenv.locals, I, D] → ∃ o, h₃.get? b = some o := fun b hb => by
        rcases List.mem_cons.mp hb with rfl | hb
        · obtain ⟨o, _, _, ho, _⟩ := hn₃; exact ⟨o, ho⟩
        · rcases List.mem_cons.mp hb with rfl | hb
          · obtain ⟨o, ho, _⟩ := hit₃; exact ⟨o, ho⟩
          · rw [List.mem_singleton.mp hb]; obtain ⟨_, ho⟩ := hacc₃; exact ⟨_, ho⟩
      have hfz : ∀ b ∈ fp, b ∉ [cenv.locals, I, D] ∧ s.heap.get? b = none := fun b hb => by
        have h1 := hfp b hb
        have h2 : b ∉ [cenv.locals, I, D] := fun q => by obtain ⟨o, ho⟩ := there b q; rw [ho] at h1; cases h1
        refine ⟨h2, ?_⟩
        cases q : s.heap.get? b with
        | none => rfl
        | some o => rw [k13 b o h2 (hk b o h2 q)] at h1; cases h1
      refine ⟨vs.length + 1 - (i + 1), by omega, i + 1, h₅, _, _, ys ++ [y], rfl, hit₃.at fun o e => k5 _ _ (Ne.symm hDI) (k4 _ _ e), ?_, hn₃.at' fun o e => k5 _ _ (Ne.symm hDC) (k4 _ _ e), ?_, hlt, ?_, rfl, fun b o hb e => k15 b o hb (hk b o hb e)⟩
      · simpa using hacc₅
      · rw [et, if_pos hpv]
        refine Paired.snoc (paired_mono (fun a b q => q.keep hG k15) hF) ⟨fp, hfz, hG _ _ _ _ _ hg fun b hb o e => k5 b o (hZ b (hfz b hb).1).2.2 e⟩
      · simp; omega
    · rw [if_neg hpv]
      refine ⟨vs.length + 1 - (i + 1), by omega, i + 1, h₃, _, _, ys, rfl, hit₃, hacc₃, hn₃, ?_, hlt, by omega, rfl, fun b o hb e => k13 b o hb (hk b o hb e)⟩
      rw [et, if_neg hpv, List.append_nil]
      exact paired_mono (fun a b q => q.keep hG k13) hF
  · have hin : i = vs.length := by omega
    subst hin
    refine wpAny_pyNext_list_end hh hit' hl' (by simp) fun h₁ hs₁ => ?_
    have k1 : ∀ b o, b ≠ I → H.get? b = some o → h₁.get? b = some o := fun b o hb e => hs₁ b o hb e
    rw [List.take_length] at hF
    refine hR h₁ _ m' ys (hn'.at' fun o e => k1 _ _ hCI e) (hacc'.at fun o e => k1 _ _ hDI e) (paired_mono (fun a b q => q.keep hG fun c o hc e => k1 c o (hZ c hc).2.1 e) hF) fun b o hb e => k1 b o (hZ b hb).2.1 (hk b o hb e)
/-- a comprehension over a list, whatever its items; its elements may make objects of their own -/
theorem comp_gen {elt iter : Expr} {x : Str} {px : Pos} {ifs : List Expr} {scope : Scope} {cl : List (Str × Addr)} {pos : Pos} {Q : Value → Shared → Prop} (p : Value → Bool) (G : Heap → List Addr → Value → Value → Prop)
    (hG : Lasts G) (hh : A.handled = none) (hclos : closureFor scope env = pure cl) (hcell : ∀ y ∈ scope.names, y.2 ≠ .cell) (hkind : scope.kind = .function)
    (hnames : ∀ y ∈ scope.names, y.2 = .local → scope.names.lookup y.1 = some .local) (hx : scope.names.lookup x = some .local)
    (hs : ∀ x, foldedSetIterable iter env x = pure x)
    (h : wpAny (model prog w) A (eval iter env) (fun xv s₁ => Stop (∃ ax vs, xv = .ref ax ∧ s₁.heap.IsList ax (List.toArray vs) ∧ vs.length ≤ 1000 ∧
      (∀ C v s₂ m₂ E', s₁.heap.objs.size ≤ C → v ∈ vs → s₂.heap.Ns C m₂ → m₂ x = some v → s₁.heap.StaysIn s₂.heap → wpAny (model prog w) A (testsOf ifs (compEnvC scope cl C env)) (fun ok s₃ => ok = p v ∧ Keeps s₂ s₃) E' s₂) ∧
      (∀ C v s₂ m₂ E', s₁.heap.objs.size ≤ C → v ∈ vs → p v = true → s₂.heap.Ns C m₂ → m₂ x = some v → s₁.heap.StaysIn s₂.heap →
        wpAny (model prog w) A (eval elt (compEnvC scope cl C env)) (fun y s₃ => (∃ fp, (∀ b ∈ fp, s₂.heap.get? b = none) ∧ G s₃.heap fp v y) ∧ Keeps s₂ s₃) E' s₂) ∧
      (∀ D ys n h' tk, s₁.heap.get? D = none → h'.get? D = some (listOf (List.toArray ys) n) → Paired (RelAt G s₁.heap [D] h') (vs.filter p) ys → s₁.heap.StaysIn h' → Q (.ref D) { s₁ with heap := h', toks := tk }))) E s) :
    wpAny (model prog w) A (eval (.ListComp elt [⟨.Name x px, iter, ifs, 0⟩] scope pos) env) Q E s := by
  rw [eval_ListComp]
  refine wpAny_comprehension_free (use := none) rfl hs hclos hkind hnames (wpAny_mono h (fun xv s₁ h₁ => ?_) fun _ _ e => e)
  obtain ⟨ax, vs, rfl, hl, hsz, htests, helt, hQ⟩ := h₁
  refine wpAny_pyIter_list hl (wpAny_newObj_type (hd := by size_fits) (wpAny_newFunctionEnv hcell (by intro y hy; simp at hy) (fun h₁ hns₁ hsb₁ => ?_) hkind))
  dsimp only at hns₁ hsb₁ ⊢
  obtain ⟨ol, hol, hol'⟩ := id hl
  have hax : ax < s₁.heap.objs.size := Heap.lt_size hol
  generalize hH1 : s₁.heap.push { cls := .type "list_iterator", data := .fields #[.ref ax, .int 0 0] } = H1 at hns₁ hsb₁ ⊢
  have hD : H1.objs.size = s₁.heap.objs.size + 1 := by rw [← hH1, Heap.size_push]
  generalize hH2 : H1.push { cls := .type "list", dict := none, data := .seq ([] : List Value).toArray } = H2 at hns₁ hsb₁ ⊢
  have hC : H2.objs.size = s₁.heap.objs.size + 2 := by rw [← hH2, Heap.size_push, hD]
  have hDI : H1.objs.size ≠ s₁.heap.objs.size := by rw [hD]; exact Nat.succ_ne_self _
  have hDC : H1.objs.size ≠ H2.objs.size := by rw [hD, hC]; exact Nat.ne_of_lt (Nat.lt_succ_self _)
  have hIC : s₁.heap.objs.size ≠ H2.objs.size := by rw [hC]; exact Nat.ne_of_lt (Nat.lt_succ_of_lt (Nat.lt_succ_self _))
  have below : ∀ b, b < s₁.heap.objs.size → b ∉ [H2.objs.size, s₁.heap.objs.size, H1.objs.size] := fun b hb hm => by
    simp only [List.mem_cons, List.not_mem_nil, or_false, hC, hD] at hm
    rcases hm with rfl | rfl | rfl
    · exact Nat.lt_irrefl _ (Nat.lt_of_succ_lt (Nat.lt_of_succ_lt hb))
    · exact Nat.lt_irrefl _ hb
    · exact Nat.lt_irrefl _ (Nat.lt_of_succ_lt hb)
  have hCle : s₁.heap.objs.size ≤ H2.objs.size := by rw [hC]; exact Nat.le_add_right _ _
  have old : ∀ b o, s₁.heap.get? b = some o → h₁.get? b = some o := fun b o e =>
    hsb₁.extBut b o (fun q => below b (Heap.lt_size e) (by rw [q]; exact .head _)) (Heap.get?_push_of_some _ (hH2 ▸ Heap.get?_push_of_some _ (hH1 ▸ Heap.get?_push_of_some _ e)))
  have hit : h₁.IsListIter s₁.heap.objs.size ax 0 :=
    ⟨_, hsb₁.extBut _ _ hIC (Heap.get?_push_of_some _ (hH2 ▸ Heap.get?_push_of_some _ (hH1 ▸ Heap.get?_push_size _ rfl))), rfl, rfl⟩
  have hacc : h₁.PlainList H1.objs.size #[] := ⟨0, hsb₁.extBut _ _ hDC (Heap.get?_push_of_some _ (hH2 ▸ Heap.get?_push_size _ rfl))⟩
  have fresh : ∀ a, s₁.heap.objs.size ≤ a → s₁.heap.get? a = none := fun a ha => by
    cases e : s₁.heap.get? a with
    | none => rfl
    | some o' => exact absurd (Heap.lt_size e) (Nat.not_lt.mpr ha)
  have up : ∀ (h₂ : Heap), (∀ b o, b ∉ [H2.objs.size, s₁.heap.objs.size, H1.objs.size] → h₁.get? b = some o → h₂.get? b = some o) → s₁.heap.StaysIn h₂ := fun h₂ hk b o e => hk b o (below b (Heap.lt_size e)) (old b o e)
  have loop : ∀ s₂ : Shared, s₂ = { s₁ with heap := h₁, toks := s₁.toks + ([] : List (Str × Value)).length } →
      codeAny (model prog w) A (.compLoop (.ListComp elt [⟨.Name x px, iter, ifs, 0⟩] scope pos) 0 (.ref s₁.heap.objs.size) (.ref H1.objs.size) (compEnvC scope cl H2.objs.size env))
        (compPost (model prog w) A E none Q (.ref H1.objs.size) H2.objs.size) s₂ := by
    rintro s₂ rfl
    refine comp_loop (p := p) (G := G) (cenv := compEnvC scope cl H2.objs.size env) hG hh (lookup_relabel_local hx) (by simp [compEnvC, relabel, hkind]) hDC hDI (Ne.symm hIC) (below ax hax) hsz hit ⟨ol, old _ _ hol, hol'⟩ hacc hns₁
      (fun v s₂ m₂ E' hv hn hm hk => htests _ v s₂ m₂ E' hCle hv hn hm (up _ hk)) (fun v s₂ m₂ E' hv hpv hn hm hk => helt _ v s₂ m₂ E' hCle hv hpv hn hm (up _ hk)) fun h' tk m' ys hn' ha hF hk => ?_
    obtain ⟨n, ha⟩ := ha
    refine ⟨m', hn', fun h'' hs'' => ?_⟩
    have k'' : ∀ b o, b ≠ H2.objs.size → h'.get? b = some o → h''.get? b = some o := fun b o hb e => hs''.extBut b o hb e
    refine hQ _ ys n h'' tk (fresh _ (by rw [hD]; exact Nat.le_succ _)) (k'' _ _ hDC ha) (paired_mono (fun v y q => ?_) hF) fun b o e => k'' b o (fun q => below b (Heap.lt_size e) (by rw [q]; exact .head _)) (up _ hk b o e)
    obtain ⟨fp, a, g⟩ := q
    refine ⟨fp, fun b hb => ⟨fun q => (a b hb).1 (by rw [List.mem_singleton.mp q]; exact .tail _ (.tail _ (.head _))), ?_⟩, hG _ _ _ _ _ g fun b hb o e => k'' b o (fun q => (a b hb).1 (by rw [q]; exact .head _)) e⟩
    cases e : s₁.heap.get? b with
    | none => rfl
    | some o => have := old _ _ e; rw [(a b hb).2] at this; cases this
  exact codeAny_compStart_list (loop _ rfl) (wpAny_pyIter_listiter hit (loop _ rfl))
end
/-- a pair that a letter gives: its uid first -/
noncomputable def PairG (P : Params) (h₀ : Heap) : Heap → List Addr → Value → Value → Prop := fun h fp v y => ∃ T t fv, fp = [T] ∧ y = .ref T ∧ h.IsTuple T #[Value.int (uidOf P h₀ v) t, fv]
theorem pairG_lasts {P : Params} {h₀ : Heap} : Lasts (PairG P h₀) := by
  rintro h h' fp v y ⟨T, t, fv, rfl, e, o, ho, r⟩ hk
  exact ⟨T, t, fv, rfl, e, o, hk T (.head _) o ho, r⟩
theorem pairG_places {P : Params} {h₀ s h' : Heap} {Z : List Addr} : ∀ {vs : List Value} {us : List Int} {ys : List Value}, LettersAt P h₀ vs us → Paired (RelAt (PairG P h₀) s Z h') vs ys →
      ∃ kvs : List (Int × Value), kvs.map (·.1) = us ∧ ∀ (j : Nat) (y : Value) (kv : Int × Value), ys[j]? = some y → kvs[j]? = some kv → ∃ T t, y = .ref T ∧ h'.IsTuple T #[.int kv.1 t, kv.2]
  | _, _, _, .nil, .nil => ⟨[], rfl, fun j y kv h => by simp at h⟩
  | _, _, _, .cons (u := u) a b, .cons (b := y) ⟨fp, _, T, t, fv, _, e1, e2⟩ r => by
    obtain ⟨kvs, q1, q2⟩ := pairG_places b r
    refine ⟨(u, fv) :: kvs, by simp [q1], fun j y' kv hj hk => ?_⟩
    cases j with
    | zero =>
      have h1 : y = y' := by simpa using hj
      have h2 : (u, fv) = kv := by simpa using hk
      subst h1; subst h2
      exact ⟨T, t, e1, by rw [uidOf_is a] at e2; exact e2⟩
    | succ j => exact q2 j y' kv (by simpa using hj) (by simpa using hk)
end Mine
end
section
open PySem PySem.W PyProof.Rows PySem.Calls PyProof.V PySem.Spec
set_option maxRecDepth 100000
set_option maxHeartbeats 8000000
namespace Mine
/-- a test over ints, as a test over values -/
noncomputable def intP (q : Int → Bool) : Value → Bool
  | .int u _ => q u
  | _ => false
theorem ints_filter (q : Int → Bool) : ∀ {vs : List Value} {ns : List Int}, IntsAre vs ns → IntsAre (vs.filter (intP q)) (ns.filter q)
  | _, _, .nil => .nil
  | _, _, .cons (n := u) (t := t) r => by
    rw [List.filter_cons, List.filter_cons]
    show IntsAre (if q u = true then _ else _) _
    cases hq : q u with
    | true => exact .cons _ _ (ints_filter q r)
    | false => exact ints_filter q r
theorem ints_mem : ∀ {vs : List Value} {ns : List Int}, IntsAre vs ns → ∀ v ∈ vs, ∃ u t, v = .int u t ∧ u ∈ ns
  | _, _, .cons (n := u) (t := t) r, v, hv => by
    rcases List.mem_cons.mp hv with rfl | hv
    · exact ⟨u, t, rfl, .head _⟩
    · obtain ⟨u', t', e, h⟩ := ints_mem r v hv; exact ⟨u', t', e, .tail _ h⟩
theorem paired_eq {α : Type} : ∀ {l₁ l₂ : List α}, Paired (fun a b => b = a) l₁ l₂ → l₂ = l₁
  | _, _, .nil => rfl
  | _, _, .cons e r => by rw [e, paired_eq r]
theorem any_stored (kvs : List (Int × Value)) (k u : Int) (v : Value) : (PySem.stored kvs k v).any (fun kv => decide (kv.1 = u)) = (kvs.any (fun kv => decide (kv.1 = u)) || u == k) := by
  unfold PySem.stored
  split
  · rename_i h
    rw [List.any_map]
    have e1 : (kvs.any ((fun kv => decide (kv.1 = u)) ∘ fun kv => if kv.1 = k then (kv.1, v) else kv)) = kvs.any (fun kv => decide (kv.1 = u)) := by
      congr 1; funext kv; dsimp only [Function.comp]; split <;> rfl
    rw [e1]
    by_cases hu : u = k
    · subst hu; rw [h]; simp
    · rw [beq_false_of_ne hu, Bool.or_false]
  · rw [List.any_append, List.any_cons, List.any_nil, Bool.or_false]
    congr 1
    by_cases hu : u = k
    · subst hu; simp
    · rw [beq_false_of_ne hu]; exact decide_eq_false fun q => hu q.symm
theorem two_keys (x1 x2 u : Int) (a b : Value) : (valueAt (PySem.stored (PySem.stored [] x1 a) x2 b) u).isSome = (u == x1 || u == x2) := by
  rw [valueAt_isSome_eq_any, any_stored, any_stored]; simp
theorem cell_of {h₀ h : Heap} {L : Addr} {news : List (Addr × Obj)} {c : Addr} {o : Obj} {v : Option Value} (N : News h₀ L h news) (hm : (c, o) ∈ news) (hd : o.data = .cell v) : h.IsCell c v := ⟨o, (N _ hm).1, hd⟩
theorem cell_stays {h h' : Heap} {c : Addr} {v : Option Value} (x : h.IsCell c v) (st : h.StaysIn h') : h'.IsCell c v := let ⟨o, a, b⟩ := x; ⟨o, st _ _ a, b⟩
theorem dict_at {K : Type} [DecidableEq K] {prog : Program} {w : World} {knd : KeyKind prog w K} {h₀ h : Heap} {L d : Addr} {o : Obj} {kvs : List (K × Value)} {news : List (Addr × Obj)} (N : News h₀ L h news) (hm : (d, o) ∈ news) (hd : o.IsDictOf knd kvs) : h.DictOf knd d kvs :=
  Heap.dictOf_iff.mpr ⟨o, (N _ hm).1, hd⟩
theorem news_newL {h₀ h h' : Heap} {L D : Addr} {o : Obj} {m : Str → Option Value} {news : List (Addr × Obj)} (F : Fr h₀ L h m) (N : News h₀ L h news) (st : ∀ b o, b ≠ L → h.get? b = some o → h'.get? b = some o) (hD : h.get? D = none) (hg : h'.get? D = some o) : News h₀ L h' ((D, o) :: news) := fun p hp => by
  rcases List.mem_cons.mp hp with rfl | hp
  · refine ⟨hg, fun (e : D = L) => ?_, ?_⟩
    · obtain ⟨oL, _, _, hL, _⟩ := F.ns
      rw [e, hL] at hD; cases hD
    · cases q : h₀.get? D with
      | none => rfl
      | some o' => rw [F.keep _ _ q] at hD; cases hD
  · exact ⟨st _ _ (N p hp).2.1 (N p hp).1, (N p hp).2⟩
/-- a differing that omega does not split on -/
noncomputable def NeA (a b : Nat) : Prop := a ≠ b
theorem NeA.l {a b : Nat} (h : NeA a b) : @Ne Nat a b := h
theorem NeA.r {a b : Nat} (h : NeA a b) : @Ne Nat b a := Ne.symm h
noncomputable def AllOff (d : Nat) : List (Addr × Obj) → Prop
  | [] => True
  | p :: r => NeA p.1 d ∧ AllOff d r
theorem allOff_of {d : Addr} : ∀ {l : List (Addr × Obj)}, (∀ p ∈ l, p.1 ≠ d) → AllOff d l
  | [], _ => trivial
  | p :: _, h => ⟨h p (.head _), allOff_of fun q hq => h q (.tail _ hq)⟩
theorem AllOff.ne {d : Addr} : ∀ {l : List (Addr × Obj)}, AllOff d l → ∀ p ∈ l, p.1 ≠ d
  | [], _, _, h => nomatch h
  | _ :: _, ⟨a, b⟩, p, h => by
    rcases List.mem_cons.mp h with rfl | h
    · exact a
    · exact AllOff.ne b p h
theorem news4 {h₀ h : Heap} {L : Addr} {a b c : Addr × Obj} {r : List (Addr × Obj)} (ha : h.get? a.1 = some a.2 ∧ a.1 ≠ L ∧ h₀.get? a.1 = none) (hb : h.get? b.1 = some b.2 ∧ b.1 ≠ L ∧ h₀.get? b.1 = none)
    (hc : h.get? c.1 = some c.2 ∧ c.1 ≠ L ∧ h₀.get? c.1 = none) (N : News h₀ L h r) : News h₀ L h (a :: b :: c :: r) := fun p hp => by
  rcases List.mem_cons.mp hp with rfl | hp
  · exact ha
  · rcases List.mem_cons.mp hp with rfl | hp
    · exact hb
    · rcases List.mem_cons.mp hp with rfl | hp
      · exact hc
      · exact N _ hp
theorem keys_isSome {kvs : List (Int × Value)} {us : List Int} (h : kvs.map (·.1) = us) (u : Int) : (valueAt kvs u).isSome = us.contains u := by
  subst h
  rw [valueAt_isSome_eq_any, List.contains_eq_any_beq, List.any_map]
  congr 1; funext kv
  by_cases q : kv.1 = u
  · subst q; simp
  · simp [q, Ne.symm q]
theorem without_keys (kvs : List (Int × Value)) (k : Int) : (without kvs k).map (·.1) = (kvs.map (·.1)).filter fun x => x != k := by
  unfold without
  rw [List.filter_map]
  refine congrArg _ (List.filter_congr fun kv _ => ?_)
  by_cases q : kv.1 = k <;> simp [q]
theorem without_length (kvs : List (Int × Value)) (k : Int) : (without kvs k).length ≤ kvs.length := List.length_filter_le _ _
theorem key_there {kvs : List (Int × Value)} {us : List Int} {u : Int} (h : kvs.map (·.1) = us) (hu : u ∈ us) : ∃ v, valueAt kvs u = some v := by
  have := keys_isSome h u
  rw [List.contains_iff_mem.mpr hu] at this
  exact Option.isSome_iff_exists.mp this
section
variable {prog : Program} {w : World} {A : Around} {E : Value → Shared → Prop} {s : Shared} {env : Env}
/-- a test of a comprehension: an int among a dict's keys -/
theorem test_in {l r : PySem.Expr} {p3 : Pos} {u : Int} {d : Addr} {kvs : List (Int × Value)} (hd : s.heap.DictOf (intKind prog w) d kvs) (ld : (d == sysModules) = false)
    (hl : ∀ Q2 : Value → Shared → Prop, (∀ t tk, Q2 (.int u t) { s with toks := tk }) → wpAny (model prog w) A (eval l env) Q2 E s)
    (hr : ∀ (Q2 : Value → Shared → Prop) tk, (∀ tk', Q2 (.ref d) { s with toks := tk' }) → wpAny (model prog w) A (eval r env) Q2 E { s with toks := tk })
    (hm : behindInMarks .In r = false := by with_unfolding_all rfl) :
    wpAny (model prog w) A (testsOf [.Compare l [.In] [r] p3] env) (fun ok s₃ => ok = (valueAt kvs u).isSome ∧ Keeps s s₃) E s :=
  wpAny_tests_one (wpAny_isTrue_Compare1 (hl _ fun t tk => hr _ tk fun tk' => wpAny_in_of (f := valueAt kvs) (intKind_is prog w u t) ld hd.mapOf (wpAny_truthy_bool ⟨rfl, keeps_tok s _⟩)) hm)
theorem test_notin {l r : PySem.Expr} {p3 : Pos} {u : Int} {d : Addr} {kvs : List (Int × Value)} (hd : s.heap.DictOf (intKind prog w) d kvs) (ld : (d == sysModules) = false)
    (hl : ∀ Q2 : Value → Shared → Prop, (∀ t tk, Q2 (.int u t) { s with toks := tk }) → wpAny (model prog w) A (eval l env) Q2 E s)
    (hr : ∀ (Q2 : Value → Shared → Prop) tk, (∀ tk', Q2 (.ref d) { s with toks := tk' }) → wpAny (model prog w) A (eval r env) Q2 E { s with toks := tk })
    (hm : behindInMarks .NotIn r = false := by with_unfolding_all rfl) :
    wpAny (model prog w) A (testsOf [.Compare l [.NotIn] [r] p3] env) (fun ok s₃ => ok = !(valueAt kvs u).isSome ∧ Keeps s s₃) E s :=
  wpAny_tests_one (wpAny_isTrue_Compare1 (hl _ fun t tk => hr _ tk fun tk' => wpAny_notIn_of (f := valueAt kvs) (intKind_is prog w u t) ld hd.mapOf (wpAny_truthy_bool ⟨rfl, keeps_tok s _⟩)) hm)
theorem test_ne {l r : PySem.Expr} {p3 : Pos} {u v : Int}
    (hl : ∀ Q2 : Value → Shared → Prop, (∀ t tk, Q2 (.int u t) { s with toks := tk }) → wpAny (model prog w) A (eval l env) Q2 E s)
    (hr : ∀ (Q2 : Value → Shared → Prop) tk, (∀ t tk', Q2 (.int v t) { s with toks := tk' }) → wpAny (model prog w) A (eval r env) Q2 E { s with toks := tk })
    (hm : behindInMarks .NotEq r = false := by with_unfolding_all rfl) :
    wpAny (model prog w) A (testsOf [.Compare l [.NotEq] [r] p3] env) (fun ok s₃ => ok = (u != v) ∧ Keeps s s₃) E s :=
  wpAny_tests_one (wpAny_isTrue_Compare1 (hl _ fun t tk => hr _ tk fun t' tk' => PyProof.Rows.ne_int (wpAny_truthy_bool ⟨rfl, keeps_tok s _⟩)) hm)
end
end Mine
end
section
open PySem PySem.W PyProof.Rows PySem.Calls PyProof.V PySem.Spec
set_option maxRecDepth 100000
set_option maxHeartbeats 8000000
namespace Mine
noncomputable abbrev tupOf (vs : List Value) : Obj := { cls := .type "tuple", data := .seq vs.toArray }
/-- pairs of ints that stand in a ledger -/
inductive PairsIn (led : List (Addr × Obj)) : List Value → List (Int × Int) → Prop
  | nil : PairsIn led [] []
  | cons {T : Addr} {a b : Int} {ta tb : Tok} {vs : List Value} {l : List (Int × Int)} : (T, tupOf [.int a ta, .int b tb]) ∈ led → PairsIn led vs l → PairsIn led (.ref T :: vs) ((a, b) :: l)
theorem PairsIn.more {led led' : List (Addr × Obj)} (h : ∀ p ∈ led, p ∈ led') : ∀ {vs : List Value} {l : List (Int × Int)}, PairsIn led vs l → PairsIn led' vs l
  | _, _, .nil => .nil
  | _, _, .cons a r => .cons (h _ a) (r.more h)
theorem PairsIn.length {led : List (Addr × Obj)} : ∀ {vs : List Value} {l : List (Int × Int)}, PairsIn led vs l → vs.length = l.length
  | _, _, .nil => rfl
  | _, _, .cons _ r => by simp [r.length]
theorem PairsIn.snoc {led : List (Addr × Obj)} {T : Addr} {a b : Int} {ta tb : Tok} (hT : (T, tupOf [.int a ta, .int b tb]) ∈ led) : ∀ {vs : List Value} {l : List (Int × Int)}, PairsIn led vs l → PairsIn led (vs ++ [.ref T]) (l ++ [(a, b)])
  | _, _, .nil => .cons hT .nil
  | _, _, .cons x r => .cons x (r.snoc hT)
theorem PairsIn.cases {led : List (Addr × Obj)} : ∀ {vs : List Value} {l : List (Int × Int)}, PairsIn led vs l → (vs = [] ∧ l = []) ∨ ∃ vs' l' T a b ta tb, vs = vs' ++ [.ref T] ∧ l = l' ++ [(a, b)] ∧ PairsIn led vs' l' ∧ (T, tupOf [.int a ta, .int b tb]) ∈ led
  | _, _, .nil => .inl ⟨rfl, rfl⟩
  | _, _, .cons (T := T) (a := a) (b := b) (ta := ta) (tb := tb) x r => by
    rcases r.cases with ⟨rfl, rfl⟩ | ⟨vs', l', T', a', b', ta', tb', rfl, rfl, p, q⟩
    · exact .inr ⟨[], [], T, a, b, ta, tb, rfl, rfl, .nil, x⟩
    · exact .inr ⟨_ :: vs', _ :: l', T', a', b', ta', tb', rfl, rfl, .cons x p, q⟩
/-- the runs of a list of uids -/
noncomputable def runStep (l : List (Int × Int)) (x : Int) : List (Int × Int) :=
  match l.getLast? with
  | some (a, b) => if b = x - 1 then l.dropLast ++ [(a, x)] else l ++ [(x, x)]
  | none => [(x, x)]
noncomputable def runs (ns : List Int) : List (Int × Int) := ns.foldl runStep []
theorem runs_snoc (ns : List Int) (x : Int) : runs (ns ++ [x]) = runStep (runs ns) x := by simp [runs, List.foldl_append]
theorem runStep_last (l : List (Int × Int)) (x : Int) : ∃ a l', runStep l x = l' ++ [(a, x)] := by
  unfold runStep
  split
  · split
    · exact ⟨_, _, rfl⟩
    · exact ⟨_, _, rfl⟩
  · exact ⟨x, [], rfl⟩
theorem runs_last {ns : List Int} {l' : List (Int × Int)} {a b : Int} (h : runs ns = l' ++ [(a, b)]) : ns.getLast? = some b := by
  rcases List.eq_nil_or_concat ns with rfl | ⟨ns', x, rfl⟩
  · have := congrArg List.length h; simp [runs] at this
  · rw [List.concat_eq_append] at h ⊢
    rw [runs_snoc] at h
    obtain ⟨a', l'', e⟩ := runStep_last (runs ns') x
    rw [e] at h
    have h2 := congrArg List.getLast? h
    simp at h2
    simp [h2.2]
theorem runs_length (ns : List Int) : (runs ns).length ≤ ns.length := by
  induction h : ns.length generalizing ns with
  | zero => rw [List.length_eq_zero_iff.mp h]; simp [runs]
  | succ k ih =>
    rcases List.eq_nil_or_concat ns with rfl | ⟨ns', x, rfl⟩
    · simp at h
    · rw [List.concat_eq_append] at h ⊢
      have h1 : ns'.length = k := by simpa using h
      have h2 := ih ns' h1
      rw [runs_snoc]
      unfold runStep
      split
      · rename_i hl
        have : 0 < (runs ns').length := by
          rcases hr : runs ns' with _ | ⟨c, r⟩
          · rw [hr] at hl; simp at hl
          · simp
        split
        · simp; omega
        · simp; omega
      · simp
theorem take_snoc {ns : List Int} {i : Nat} {x : Int} (h : ns[i]? = some x) : ns.take (i + 1) = ns.take i ++ [x] := by
  obtain ⟨hl, e⟩ := List.getElem?_eq_some_iff.mp h
  rw [← e, List.take_append_getElem hl]
theorem ints_at : ∀ {vs : List Value} {ns : List Int}, IntsAre vs ns → ∀ {i : Nat} {v : Value}, vs[i]? = some v → ∃ x t, v = .int x t ∧ ns[i]? = some x
  | _, _, .cons (n := u) (t := t) r, 0, v, h => ⟨u, t, (by simpa using h.symm), rfl⟩
  | _, _, .cons (n := u) (t := t) r, i + 1, v, h => by
    obtain ⟨x, t', e, q⟩ := ints_at r (i := i) (by simpa using h)
    exact ⟨x, t', e, by simpa using q⟩
theorem last_lt {ns : List Int} (hs : ns.Pairwise (· < ·)) {i : Nat} {x b : Int} (hx : ns[i]? = some x) (h : (ns.take i).getLast? = some b) : b < x := by
  have e := take_snoc hx
  have h1 : (ns.take (i + 1)).Pairwise (· < ·) := hs.sublist (List.take_sublist _ _)
  rw [e, List.pairwise_append] at h1
  exact h1.2.2 b (List.mem_of_getLast? h) x (List.mem_singleton.mpr rfl)
theorem runs_step0 {l : List (Int × Int)} {x : Int} (h : l = []) : runStep l x = [(x, x)] := by subst h; rfl
theorem runs_step1 {l l' : List (Int × Int)} {a b x : Int} (h : l = l' ++ [(a, b)]) (e : b = x - 1) : runStep l x = l' ++ [(a, x)] := by
  subst h; unfold runStep; rw [List.getLast?_concat]; simp [e]
theorem runs_step2 {l l' : List (Int × Int)} {a b x : Int} (h : l = l' ++ [(a, b)]) (e : b ≠ x - 1) : runStep l x = l ++ [(x, x)] := by
  subst h; unfold runStep; rw [List.getLast?_concat]; simp [e]
theorem mem_perm3 {α : Type} {a b c : α} {l : List α} : ∀ p ∈ b :: c :: a :: l, p ∈ a :: b :: c :: l := fun p h => by
  simp only [List.mem_cons] at h ⊢
  rcases h with h | h | h | h <;> simp [h]
theorem news_mv3 {h₀ h : Heap} {L : Addr} {a b c : Addr × Obj} {l : List (Addr × Obj)} (N : News h₀ L h (a :: b :: c :: l)) : News h₀ L h (b :: c :: a :: l) := news_sub N mem_perm3
theorem mem_perm4 {α : Type} {a b c d : α} {l : List α} : ∀ p ∈ b :: c :: a :: l, p ∈ a :: d :: b :: c :: l := fun p h => by
  simp only [List.mem_cons] at h ⊢
  rcases h with h | h | h | h <;> simp [h]
theorem news_mv4 {h₀ h : Heap} {L : Addr} {a b c d : Addr × Obj} {l : List (Addr × Obj)} (N : News h₀ L h (a :: d :: b :: c :: l)) : News h₀ L h (b :: c :: a :: l) := news_sub N mem_perm4
end Mine
end
section
open PySem PySem.W PyProof.Rows PySem.Calls PyProof.V PySem.Spec
set_option maxRecDepth 100000
set_option maxHeartbeats 8000000
namespace Mine
section
variable {prog : Program} {w : World} {A : Around} {E : Value → Shared → Prop} {s : Shared} {env : Env} {h₀ : Heap} {L : Addr} {m : Str → Option Value}
theorem len_any {l : Addr} {vs : List Value} {Q : Value → Shared → Prop} (hl : s.heap.IsList l vs.toArray) (hz : vs.length ≤ 1000) (h : ∀ t tk, Q (.int (vs.length : Int) t) { s with toks := tk }) :
    wpAny (model prog w) A (call (.builtin "len") [.ref l]) Q E s :=
  PyProof.Rows.len_list hl (by rw [List.size_toArray]; omega) (by rw [List.size_toArray]; exact h _ _)
theorem item_last {value slice : PySem.Expr} {l : Addr} {vs : List Value} {x : Value} {u : Tok} {Q : Value → Shared → Prop} (hl : s.heap.IsList l (vs ++ [x]).toArray) (hz : vs.length ≤ 1000) (h : Q x s)
    (hs : subscripted slice false (.ref l) (.int (-1) u) = operate [.ref l, .int (-1) u] (getItem (.ref l) (.int (-1) u)) := by with_unfolding_all rfl) :
    wpAny (model prog w) A (subscriptTail value slice (.ref l) (.int (-1) u)) Q E s :=
  tail_any hl.typeIs slot_list_getitem.lookup (wpAny_getItem_list_neg hl (by decide) (by rw [List.size_toArray, List.length_append, List.length_singleton]; omega) (by decide) (by
    have e : ((-1 : Int) + ((vs ++ [x]).toArray.size : Int)).toNat = vs.length := by rw [List.size_toArray, List.length_append, List.length_singleton]; omega
    rw [e]; simp) h) hs
theorem ki_setL_snoc {x y : Value} : ∀ {vs : List Value}, ki_setL (vs ++ [x]) vs.length y = some (vs ++ [y])
  | [] => rfl
  | a :: r => by
    show (match ki_setL (r ++ [x]) r.length y with | some q => some (a :: q) | none => none) = _
    rw [ki_setL_snoc]; rfl
theorem set_last {o : Addr} {vs : List Value} {x y : Value} {e : Nat} {t : Tok} {news news' : List (Addr × Obj)} {Q : Unit → Shared → Prop} (F : Fr h₀ L s.heap m) (N : News h₀ L s.heap news) (hz : vs.length ≤ 1000)
    (U : Upd o (listOf (vs ++ [x]).toArray e) (listOf (vs ++ [y]).toArray e) news news') (h : ∀ h', Fr h₀ L h' m → News h₀ L h' news' → Q () { s with heap := h' }) :
    wpAny (model prog w) A (setItem (.ref o) (.int (-1) t) y) Q E s :=
  ki_setNeg (j := vs.length) F N (by decide) (by decide) (by rw [PySem.seqIndex_neg (by decide) (by rw [List.size_toArray, List.length_append, List.length_singleton]; omega), List.size_toArray, List.length_append, List.length_singleton]; congr 1; omega) ki_setL_snoc U h
end
noncomputable def pairDat (p : Int × Int) : Dat := .tuple [.int p.1, .int p.2]
theorem PairsIn.dat {led : List (Addr × Obj)} : ∀ {vs : List Value} {l : List (Int × Int)}, PairsIn led vs l → DatAll led vs (l.map pairDat)
  | _, _, .nil => .nil
  | _, _, .cons a r => .cons (.tuple a (.cons (.int _ _) (.cons (.int _ _) .nil))) r.dat
theorem pairs_ok {l : List (Int × Int)} : ∀ d ∈ l.map pairDat, kqdOk 8 d = true := fun d h => by
  obtain ⟨p, _, rfl⟩ := List.mem_map.mp h
  rfl
open Classical in
/-- pairs against the empty list -/
theorem pairs_ne {prog : Program} {w : World} {A : Around} {E : Value → Shared → Prop} {s : Shared} {h₀ : Heap} {L a b : Addr} {news led : List (Addr × Obj)} {ka kb : Nat} {vs : List Value} {l : List (Int × Int)} {Q : Value → Shared → Prop}
    (N : News h₀ L s.heap news) (ma : (a, listOf vs.toArray ka) ∈ news) (hp : PairsIn led vs l) (hs : ∀ p ∈ led, p ∈ news) (mb : (b, listOf [].toArray kb) ∈ news) (hu : A.units + 64 < cLine)
    (h : Q (.bool (!l.isEmpty)) s) : wpAny (model prog w) A (compareOp .NotEq (.ref a) (.ref b)) Q E s := by
  refine kqd_ne N ma rfl rfl hp.dat hs mb rfl rfl (DatAll.nil (news := news)) (fun _ h => h) pairs_ok (fun d h => nomatch h) hu ?_
  have e : decide (l.map pairDat = []) = l.isEmpty := by cases l <;> simp
  rw [e]; exact h
/-- the numbers told, one by one -/
inductive ToldNum : List Int → List Int → List Int → Prop
  | nil {vu : List Int} : ToldNum vu [] []
  | cons {vu gs ks : List Int} {g : Int} {j : Nat} : vu[j]? = some g → ToldNum (vu.filter fun x => !([g] : List Int).contains x) gs ks → ToldNum vu (g :: gs) (((j : Int) + 1) :: ks)
theorem without_two (vu gs hs : List Int) : (vu.filter fun x => !gs.contains x).filter (fun x => !hs.contains x) = vu.filter fun x => !(gs ++ hs).contains x := by
  rw [List.filter_filter]
  refine List.filter_congr fun x _ => ?_
  by_cases a : x ∈ gs <;> by_cases b : x ∈ hs <;> simp [a, b]
theorem without_none (vu : List Int) : (vu.filter fun x => !([] : List Int).contains x) = vu := by simp
theorem without_one (vu : List Int) (g : Int) : (vu.filter fun x => x != g) = vu.filter fun x => !([g] : List Int).contains x := by
  refine List.filter_congr fun x _ => ?_
  by_cases a : x = g <;> simp [a]
theorem ToldNum.snoc {g : Int} {j : Nat} : ∀ {vu gs ks : List Int}, ToldNum vu gs ks → (vu.filter fun x => !gs.contains x)[j]? = some g → ToldNum vu (gs ++ [g]) (ks ++ [((j : Int) + 1)])
  | _, _, _, .nil, h => .cons (by rw [without_none] at h; exact h) .nil
  | _, _, _, .cons (gs := gs) (g := g0) a r, h => .cons a (r.snoc (by rw [without_two]; exact h))
theorem ToldNum.length : ∀ {vu gs ks : List Int}, ToldNum vu gs ks → ks.length = gs.length
  | _, _, _, .nil => rfl
  | _, _, _, .cons _ r => by simp [r.length]
noncomputable def numDat (k : Int) : Dat := .tuple [.str (Str.ofString "expunge"), .int k]
noncomputable def vanDats (gone : List Int) : List Dat := if gone = [] then [] else [.tuple [.str (Str.ofString "vanished"), .tuple ((runs gone).map pairDat), .bool false]]
theorem left_is (vu us : List Int) : (vu.filter fun x => !(vu.filter fun u => !us.contains u).contains x) = vu.filter fun x => us.contains x := by
  refine List.filter_congr fun x hx => ?_
  by_cases a : x ∈ us <;> simp [a, hx]
theorem asc_filter {vu : List Int} (q : Int → Bool) (h : vu.Pairwise (· < ·)) : (vu.filter q).Pairwise (· < ·) := h.sublist List.filter_sublist
theorem AllOff.app {d : Nat} : ∀ {l l' : List (Addr × Obj)}, AllOff d l → AllOff d l' → AllOff d (l ++ l')
  | [], _, _, h => h
  | _ :: _, _, ⟨a, b⟩, h => ⟨a, AllOff.app b h⟩
theorem allOff_lt {d : Nat} {l : List (Addr × Obj)} (h : AllLt d l) : AllOff d l := allOff_of fun p hp => Nat.ne_of_lt (of_allLt h p hp)
section
variable {h₀ h : Heap} {L : Addr} {a b c v f m u t : Addr × Obj} {r : List (Addr × Obj)}
theorem news_f1 (N : News h₀ L h (a :: b :: c :: v :: f :: m :: r)) : News h₀ L h (v :: f :: m :: a :: b :: c :: r) := news_sub N fun p h => by
  simp only [List.mem_cons] at h ⊢
  rcases h with h | h | h | h | h | h | h <;> simp [h]
theorem news_f2 (N : News h₀ L h (a :: b :: v :: f :: m :: r)) : News h₀ L h (v :: f :: m :: a :: b :: r) := news_sub N fun p h => by
  simp only [List.mem_cons] at h ⊢
  rcases h with h | h | h | h | h | h <;> simp [h]
/-- behind a turn with a tuple: t the tuple, b the iterator, c the answers, u the new uids -/
theorem news_f3 {x y : List (Addr × Obj)} (N : News h₀ L h (v :: f :: m :: u :: t :: b :: c :: (x ++ y))) : News h₀ L h (b :: c :: v :: f :: m :: ((u :: t :: x) ++ y)) := news_sub N fun p h => by
  simp only [List.mem_cons, List.mem_append] at h ⊢
  rcases h with h | h | h | h | h | (h | h | h) | h <;> simp [h]
theorem news_f4 {x y : List (Addr × Obj)} (N : News h₀ L h (v :: f :: m :: u :: b :: c :: (x ++ y))) : News h₀ L h (b :: c :: v :: f :: m :: ((u :: x) ++ y)) := news_sub N fun p h => by
  simp only [List.mem_cons, List.mem_append] at h ⊢
  rcases h with h | h | h | h | h | (h | h) | h <;> simp [h]
end
theorem uid_here {vu gone : List Int} {i : Nat} {g : Int} (hs : vu.Pairwise (· < ·)) (q : Int → Bool) (hg : vu.filter q = gone) (h : gone[i]? = some g) : g ∈ vu.filter fun x => !(gone.take i).contains x := by
  have hs2 : gone.Pairwise (· < ·) := hg ▸ asc_filter q hs
  have hm := List.mem_of_getElem? h
  rw [List.mem_filter]
  refine ⟨(List.mem_filter.mp (hg ▸ hm : g ∈ vu.filter q)).1, ?_⟩
  have : g ∉ gone.take i := fun hm => by
    obtain ⟨j, hj⟩ := List.getElem?_of_mem hm
    have hji : j < i := by
      have h1 := (List.getElem?_eq_some_iff.mp hj).1
      rw [List.length_take] at h1; omega
    rw [List.getElem?_take_of_lt hji] at hj
    obtain ⟨l1, e1⟩ := List.getElem?_eq_some_iff.mp hj
    obtain ⟨l2, e2⟩ := List.getElem?_eq_some_iff.mp h
    have := List.pairwise_iff_getElem.mp hs2 j i l1 l2 hji
    omega
  simpa using this
theorem without_next {vu gone : List Int} {i : Nat} {g : Int} (h : gone[i]? = some g) : (vu.filter fun x => !(gone.take i).contains x).filter (fun x => x != g) = vu.filter fun x => !(gone.take (i + 1)).contains x := by
  rw [without_one, without_two, take_snoc h]
end Mine
end
section
open PySem PySem.W PyProof.Rows PySem.Calls PyProof.V PySem.Spec
set_option maxRecDepth 100000
set_option maxHeartbeats 8000000
namespace Mine
section
variable {prog : Program} {w : World} {A : Around} {E : Value → Shared → Prop} {s : Shared} {env : Env}
theorem test_inL {l r : PySem.Expr} {p3 : Pos} {u : Int} {d : Addr} {vs : List Value} {ns : List Int} (hd : s.heap.IsList d vs.toArray) (hi : IntsAre vs ns)
    (hl : ∀ Q2 : Value → Shared → Prop, (∀ t tk, Q2 (.int u t) { s with toks := tk }) → wpAny (model prog w) A (eval l env) Q2 E s)
    (hr : ∀ (Q2 : Value → Shared → Prop) tk, (∀ tk', Q2 (.ref d) { s with toks := tk' }) → wpAny (model prog w) A (eval r env) Q2 E { s with toks := tk })
    (hm : behindInMarks .In r = false := by with_unfolding_all rfl) :
    wpAny (model prog w) A (testsOf [.Compare l [.In] [r] p3] env) (fun ok s₃ => ok = ns.any (· == u) ∧ Keeps s s₃) E s :=
  wpAny_tests_one (wpAny_isTrue_Compare1 (hl _ fun t tk => hr _ tk fun tk' => in_list_ints hd hi (wpAny_truthy_bool ⟨rfl, keeps_tok s _⟩)) hm)
theorem test_notinL {l r : PySem.Expr} {p3 : Pos} {u : Int} {d : Addr} {vs : List Value} {ns : List Int} (hd : s.heap.IsList d vs.toArray) (hi : IntsAre vs ns)
    (hl : ∀ Q2 : Value → Shared → Prop, (∀ t tk, Q2 (.int u t) { s with toks := tk }) → wpAny (model prog w) A (eval l env) Q2 E s)
    (hr : ∀ (Q2 : Value → Shared → Prop) tk, (∀ tk', Q2 (.ref d) { s with toks := tk' }) → wpAny (model prog w) A (eval r env) Q2 E { s with toks := tk })
    (hm : behindInMarks .NotIn r = false := by with_unfolding_all rfl) :
    wpAny (model prog w) A (testsOf [.Compare l [.NotIn] [r] p3] env) (fun ok s₃ => ok = !(ns.any (· == u)) ∧ Keeps s s₃) E s :=
  wpAny_tests_one (wpAny_isTrue_Compare1 (hl _ fun t tk => hr _ tk fun tk' => notin_list_ints hd hi (wpAny_truthy_bool ⟨rfl, keeps_tok s _⟩)) hm)
end
theorem two_any (x1 x2 u : Int) : ([x1, x2].any fun y => y == u) = (u == x1 || u == x2) := by
  simp only [List.any_cons, List.any_nil, Bool.or_false]
  congr 1 <;> exact Bool.beq_comm ..
theorem setM_eq {m : Str → Option Value} {x : Str} {v : Value} : (fun z => if z = x then some v else m z) x = some v := if_pos rfl
theorem setM_ne {m : Str → Option Value} {x y : Str} {v u : Value} (h : x ≠ y) (hm : m x = some v) : (fun z => if z = y then some u else m z) x = some v := (if_neg h).trans hm
theorem ints_dat {led : List (Addr × Obj)} : ∀ {vs : List Value} {ns : List Int}, IntsAre vs ns → DatAll led vs (ns.map Dat.int)
  | _, _, .nil => .nil
  | _, _, .cons _ _ r => .cons (.int _ _) (ints_dat r)
theorem intsD_ok (n : Nat) (ns : List Int) : kqdOk (n + 1) (.list (ns.map Dat.int)) = true := by
  simp [kqdOk]
theorem intD_ok (ns : List Int) : ∀ d ∈ ns.map Dat.int, kqdOk 8 d = true := fun d h => by
  obtain ⟨x, _, rfl⟩ := List.mem_map.mp h
  rfl
section
variable {prog : Program} {w : World} {A : Around} {E : Value → Shared → Prop} {s : Shared} {h₀ : Heap} {L a b : Addr} {news n₁ n₂ : List (Addr × Obj)} {oa ob : Obj} {xs ys : List Value} {ka kb : Nat} {ds : List Dat} {Q : Value → Shared → Prop}
open Classical in
/-- two lists that hold the same -/
theorem ne_same (N : News h₀ L s.heap news) (ma : (a, oa) ∈ news) (ca : oa.cls = .type "list") (da : oa.data = .seq xs.toArray ka) (Da : DatAll n₁ xs ds) (sa : ∀ p ∈ n₁, p ∈ news)
    (mb : (b, ob) ∈ news) (cb : ob.cls = .type "list") (db : ob.data = .seq ys.toArray kb) (Db : DatAll n₂ ys ds) (sb : ∀ p ∈ n₂, p ∈ news)
    (ha : ∀ d ∈ ds, kqdOk 8 d = true) (hu : A.units + 64 < cLine) (h : Q (.bool false) s) : wpAny (model prog w) A (compareOp .NotEq (.ref a) (.ref b)) Q E s :=
  kqd_ne N ma ca da Da sa mb cb db Db sb ha ha hu (by rw [decide_eq_true rfl]; exact h)
end
theorem list_no_dict {prog : Program} {w : World} {o : Obj} {kvs : List (Int × Value)} {vs : List Value} {n : Nat} (h : o.IsDictOf (intKind prog w) kvs) : o ≠ listOf vs.toArray n := fun e => by
  subst e
  obtain ⟨_, _, _, q, _⟩ := h
  cases q
end Mine
end
section
open PySem PySem.W PyProof.Rows PySem.Calls PyProof.V PySem.Spec
set_option maxRecDepth 100000
set_option maxHeartbeats 8000000
namespace Mine
section
variable {prog : Program} {w : World} {A : Around} {E : Value → Shared → Prop} {s : Shared} {env : Env} {h₀ : Heap} {target iter : Expr} {body : List Stmt} {Q : Flow → Shared → Prop} {pos : Pos}
/-- over a list of the ledger's, whatever its items, whatever its target -/
theorem for_listT (hh : A.handled = none)
    (h : wpAny (model prog w) A (eval iter env) (fun xv s₁ => Stop (∃ (l : Addr) (vs : List Value) (ep : Nat) (m₀ : Str → Option Value) (news : List (Addr × Obj)) (J : Nat → (Str → Option Value) → List (Addr × Obj) → Prop), xv = .ref l ∧
      (l, listOf vs.toArray ep) ∈ news ∧ Fr h₀ env.locals s₁.heap m₀ ∧ News h₀ env.locals s₁.heap news ∧ J 0 m₀ news ∧ (∀ i m₁ n₁, J i m₁ n₁ → (l, listOf vs.toArray ep) ∈ n₁) ∧
      (∀ i v m₁ news₁ h tk I oI, vs[i]? = some v → J i m₁ news₁ → (∀ p ∈ news₁, p.1 ≠ I) → Fr h₀ env.locals h m₁ → News h₀ env.locals h ((I, oI) :: news₁) → (∀ xs k, oI ≠ listOf xs k) →
        wpAny (model prog w) A (assign target env v) (fun _ s₂ => wpAny (model prog w) A (execs body env) (TurnOut h₀ env.locals I oI (J (i + 1)) { s₁ with heap := h, toks := tk } Q) E s₂) E { s₁ with heap := h, toks := tk }) ∧
      (∀ m₁ news₁ h tk, J vs.length m₁ news₁ → Fr h₀ env.locals h m₁ → News h₀ env.locals h news₁ → Q .next { s₁ with heap := h, toks := tk }))) E s)
    (hs : ∀ x, foldedSetIterable iter env x = pure x)
    (hE : PassesOwn (model prog w) A env E := by passes_own) :
    wpAny (model prog w) A (exec (.For target iter body [] pos) env) Q E s := by
  refine wpAny_For (wpAny_mono h (fun xv s₁ h₁ => ?_) fun _ _ e => e) hs
  obtain ⟨l, vs, ep, m₀, news, J, rfl, hl, F, N, hj, hsrc, turn, done⟩ := h₁
  have hls : s₁.heap.IsList l vs.toArray := N.isList hl
  have hne : l ≠ s₁.heap.objs.size := Nat.ne_of_lt (Heap.lt_size (N _ hl).1)
  refine wpAny_pyIter_list hls ?_
  have W := Walks.list (prog := prog) (w := w) (A := A) hh s₁.heap.objs.size l hne vs.toArray
  have hI0 : h₀.get? s₁.heap.objs.size = none := next_is_new F
  have hLI : env.locals ≠ s₁.heap.objs.size := Nat.ne_of_lt F.ns.lt
  refine codeAny_forLoop_any
    (fun k s' => ∃ h' tk m' news' i, s' = { s₁ with heap := h', toks := tk } ∧ (h'.IsListIter s₁.heap.objs.size l i ∧ h'.IsList l vs.toArray) ∧ Fr h₀ env.locals h' m' ∧ News h₀ env.locals h' news' ∧ (∀ p ∈ news', p.1 ≠ s₁.heap.objs.size) ∧ J i m' news' ∧ i ≤ vs.length ∧ k = vs.length + 1 - i) ?_ (vs.length + 1)
    ⟨_, _, m₀, news, 0, rfl, ⟨⟨_, Heap.get?_push_size _ rfl, rfl, rfl⟩, hls.at fun o e => Heap.get?_push_of_some _ e⟩, F.push _, fun p hp => ⟨Heap.get?_push_of_some _ (N p hp).1, (N p hp).2⟩, fun p hp e => Nat.lt_irrefl _ (e ▸ Heap.lt_size (N p hp).1), hj, Nat.zero_le _, rfl⟩
  rintro k s' ⟨h', tk, m', news', i, rfl, hst', F', N', hnw', hJ, hi, rfl⟩
  have next : ∀ h₁ : Heap, (∀ b o, b ∉ [s₁.heap.objs.size] → h'.get? b = some o → h₁.get? b = some o) → Fr h₀ env.locals h₁ m' ∧ News h₀ env.locals h₁ news' := fun h₁ hk₁ =>
    ⟨⟨F'.ns.at' fun o e => hk₁ _ o (fun q => hLI (List.mem_singleton.mp q)) e, fun b o e => hk₁ b o (fun q => by rw [List.mem_singleton.mp q, hI0] at e; cases e) (F'.keep b o e), F'.above⟩, fun p hp => ⟨hk₁ _ _ (fun q => hnw' p hp (List.mem_singleton.mp q)) (N' p hp).1, (N' p hp).2⟩⟩
  by_cases hlt : i < vs.length
  · refine W.item i _ _ _ (by simpa using hlt) hst' fun v h₁ tk₁ hP hst₁ hk₁ => ?_
    obtain ⟨F₁, N₁⟩ := next h₁ hk₁
    have hv : vs[i]? = some v := by simpa using hP
    obtain ⟨oI, hoI, _, hdI⟩ := id hst₁.1
    have hno : ∀ xs k, oI ≠ listOf xs k := fun xs k e => by rw [e] at hdI; cases hdI
    have N₂ : News h₀ env.locals h₁ ((s₁.heap.objs.size, oI) :: news') := fun p hp => by
      rcases List.mem_cons.mp hp with rfl | hp
      · exact ⟨hoI, hLI.symm, hI0⟩
      · exact N₁ p hp
    refine letGo_listiter hst₁.1 (wpAny_mono (turn i v m' news' h₁ tk₁ _ oI hv hJ hnw' F₁ N₂ hno) (fun _ s₂ h₂ => wpAny_mono h₂ (fun f s₃ h₃ => ?_) hE) hE)
    have fin : (∃ h' tk m' news', s₃ = { s₁ with heap := h', toks := tk } ∧ Fr h₀ env.locals h' m' ∧ News h₀ env.locals h' ((s₁.heap.objs.size, oI) :: news') ∧ (∀ p ∈ news', p.1 ≠ s₁.heap.objs.size) ∧ J (i + 1) m' news') →
        ∃ m, m < vs.length + 1 - i ∧ ∃ h' tk m' news' i, s₃ = { s₁ with heap := h', toks := tk } ∧ (h'.IsListIter s₁.heap.objs.size l i ∧ h'.IsList l vs.toArray) ∧ Fr h₀ env.locals h' m' ∧ News h₀ env.locals h' news' ∧ (∀ p ∈ news', p.1 ≠ s₁.heap.objs.size) ∧ J i m' news' ∧ i ≤ vs.length ∧ m = vs.length + 1 - i := by
      rintro ⟨g₃, tk₃, m₂, news₂, rfl, F₃, N₃, off₃, j₃⟩
      refine ⟨vs.length + 1 - (i + 1), by omega, g₃, tk₃, m₂, news₂, i + 1, rfl, ⟨hst₁.1.at fun o e => ?_, (news_drop0 N₃).isList (hsrc _ _ _ j₃)⟩, F₃, news_drop0 N₃, off₃, j₃, hlt, rfl⟩
      rw [hoI] at e
      rw [← Option.some.inj e]; exact (N₃ _ (.head _)).1
    cases f with
    | ret v => exact h₃
    | brk => exact h₃
    | next => exact fin h₃
    | cont => exact fin h₃
  · have hin : i = vs.length := by omega
    subst hin
    refine W.done _ _ _ (by simpa using hst') fun h₁ tk₁ hk₁ => wpAny_execs_nil ?_
    obtain ⟨F₁, N₁⟩ := next h₁ hk₁
    exact done m' news' h₁ tk₁ hJ F₁ N₁
end
theorem ToldNum.at : ∀ {vu gs ks : List Int}, ToldNum vu gs ks → ∀ {i : Nat} {k : Int}, ks[i]? = some k → ∃ (g : Int) (j : Nat), gs[i]? = some g ∧ k = (j : Int) + 1 ∧ (vu.filter fun x => !(gs.take i).contains x)[j]? = some g
  | _, _, _, .nil, i, k, h => by simp at h
  | _, _, _, .cons (g := g) (j := j) a r, 0, k, h => ⟨g, j, rfl, by simpa using h.symm, by rw [List.take_zero, without_none]; exact a⟩
  | vu, _, _, .cons (gs := gs) (g := g) (j := j) a r, i + 1, k, h => by
    obtain ⟨g', j', e1, e2, e3⟩ := r.at (i := i) (k := k) (by simpa using h)
    refine ⟨g', j', by simpa using e1, e2, ?_⟩
    rw [without_two] at e3
    exact e3
theorem DatAll.at {led : List (Addr × Obj)} : ∀ {vs : List Value} {ds : List Dat}, DatAll led vs ds → ∀ {i : Nat} {v : Value}, vs[i]? = some v → ∃ d, ds[i]? = some d ∧ DatIn led v d
  | _, _, .cons a r, 0, v, h => ⟨_, rfl, by have e := Option.some.inj (by simpa using h); exact e ▸ a⟩
  | _, _, .cons a r, i + 1, v, h => by
    obtain ⟨d, e, q⟩ := DatAll.at r (i := i) (v := v) (by simpa using h)
    exact ⟨d, by simpa using e, q⟩
theorem num_at {led : List (Addr × Obj)} {vs : List Value} {ks : List Int} (D : DatAll led vs (ks.map numDat)) {i : Nat} {v : Value} (h : vs[i]? = some v) : ∃ k T t1 t2 n, ks[i]? = some k ∧ v = .ref T ∧ (T, ({ cls := .type "tuple", data := .seq [Value.str (Str.ofString "expunge") t1, .int k t2].toArray n } : Obj)) ∈ led := by
  obtain ⟨d, e, q⟩ := DatAll.at D h
  rw [List.getElem?_map] at e
  obtain ⟨k, hk, rfl⟩ := Option.map_eq_some_iff.mp e
  cases q with
  | tuple hm a =>
    cases a with
    | cons a1 a =>
      cases a with
      | cons a2 a =>
        cases a
        cases a1; cases a2
        exact ⟨k, _, _, _, _, hk, rfl, hm⟩
/-- an item taken out by its place -/
theorem take_out {vu : List Int} (hs : vu.Pairwise (· < ·)) {j : Nat} {g : Int} (h : vu[j]? = some g) : vu.take j ++ vu.drop (j + 1) = vu.filter fun x => x != g := by
  induction vu generalizing j with
  | nil => simp at h
  | cons a r ih =>
    obtain ⟨h1, h2⟩ := List.pairwise_cons.mp hs
    cases j with
    | zero =>
      have e : a = g := by simpa using h
      subst e
      rw [List.take_zero, List.drop_succ_cons, List.drop_zero, List.nil_append, List.filter_cons, if_neg (by simp)]
      rw [List.filter_eq_self.mpr]
      intro x hx
      have := h1 x hx
      simp; omega
    | succ j =>
      have hm : r[j]? = some g := by simpa using h
      have hg := h1 g (List.mem_of_getElem? hm)
      rw [List.take_succ_cons, List.drop_succ_cons, List.filter_cons, if_pos (by simp; omega), List.cons_append, ih h2 hm]
theorem news_mvI {h₀ h : Heap} {L : Addr} {a b c d : Addr × Obj} {r : List (Addr × Obj)} (N : News h₀ L h (a :: b :: c :: d :: r)) : News h₀ L h (d :: a :: b :: c :: r) := news_sub N fun p h => by
  simp only [List.mem_cons] at h ⊢
  rcases h with h | h | h | h | h <;> simp [h]
theorem van_reads {h₀ h : Heap} {L : Addr} {news led : List (Addr × Obj)} (N : News h₀ L h news) (hs : ∀ p ∈ led, p ∈ news) {as : List Value} {gone : List Int} (D : DatAll led as (vanDats gone)) : ∃ al, ReadsAll h as (kqdPs (vanDats gone)) al := by
  unfold vanDats at D ⊢
  split at D
  · rename_i c
    rw [if_pos c]
    cases D
    exact ⟨_, .nil⟩
  · rename_i c
    rw [if_neg c]
    cases D with
    | cons a r =>
    cases r
    cases a with
    | tuple hm a =>
    cases a with
    | cons a1 a =>
    cases a with
    | cons a2 a =>
    cases a with
    | cons a3 a =>
    cases a
    cases a1; cases a3
    cases a2 with
    | tuple hm2 b =>
    obtain ⟨al, q⟩ := kqd_all (N) 8 (b.mono hs) pairs_ok
    exact ⟨_, .cons (reads_tuple_at (N.get (hs _ hm)) rfl rfl (.cons (.str _ _) (.cons (reads_tuple_at (N.get (hs _ hm2)) rfl rfl q) (.cons (.bool _) .nil)))) .nil⟩
theorem van_lay (gone : List Int) : SeqAt.shaped (.list (kqdPs (vanDats gone))) = true := by
  unfold vanDats
  split
  · decide
  · have l := kqd_lay 9 (.tuple ((runs gone).map pairDat)) (by
      have := pairs_ok (l := runs gone)
      show ((runs gone).map pairDat).all (kqdOk 8) = true
      exact List.all_eq_true.mpr this)
    unfold SeqAt.shaped
    have e1 : (PyData.str (Str.ofString "vanished")).canLay0 = true := by decide +kernel
    simp only [kqdPs, kqdP] at l ⊢
    simp only [PyData.canLay0, PyData.canLayAll0, PyData.depth, PyData.depthAll, Bool.and_true, Bool.true_and, Bool.and_eq_true, decide_eq_true_eq] at l e1 ⊢
    refine ⟨⟨e1, l.1⟩, ?_⟩
    refine decide_eq_true ?_
    omega
section
variable {prog : Program} {w : World} {A : Around} {E : Value → Shared → Prop} {s : Shared} {h₀ : Heap} {L a b : Addr} {news n₁ n₂ : List (Addr × Obj)} {xs ys : List Value} {ka kb : Nat} {gone : List Int} {Q : Value → Shared → Prop}
theorem ne_van (N : News h₀ L s.heap news) (ma : (a, listOf xs.toArray ka) ∈ news) (Da : DatAll n₁ xs (vanDats gone)) (sa : ∀ p ∈ n₁, p ∈ news) (mb : (b, listOf ys.toArray kb) ∈ news) (Db : DatAll n₂ ys (vanDats gone)) (sb : ∀ p ∈ n₂, p ∈ news)
    (hu : A.units + 64 < cLine) (h : Q (.bool false) s) : wpAny (model prog w) A (compareOp .NotEq (.ref a) (.ref b)) Q E s := by
  obtain ⟨as, ra⟩ := van_reads N sa Da
  obtain ⟨bs, rb⟩ := van_reads N sb Db
  have l := van_lay gone
  refine ne_dataH (reads_list_at (N.get ma) rfl rfl (by simpa using ra)) (reads_list_at (N.get mb) rfl rfl (by simpa using rb)) l l hu ?_
  rw [SeqAt.eqv_refl _ (SeqAt.canLay_of_shaped l)]
  exact h
end
end Mine
end
section
open PySem PySem.W PyProof.Rows PySem.Calls PyProof.V PySem.Spec
set_option maxRecDepth 100000
set_option maxHeartbeats 8000000
namespace Mine
/-- what a comprehension over a range gives -/
theorem rng_ints {f : Int → Int} {a₀ : Int} : ∀ {vs ys : List Value} (k : Nat), (∀ (j : Nat) v, vs[j]? = some v → ∃ t, v = .int (a₀ + ((k + j : Nat) : Int)) t) → Paired (fun v y => ∀ u t, v = .int u t → ∃ t', y = .int (f u) t') vs ys → IntsAre ys ((List.range vs.length).map fun i => f (a₀ + ((k + i : Nat) : Int)))
  | [], _, _, _, .nil => .nil
  | v :: vs, y :: ys, k, h, .cons g r => by
    obtain ⟨t, rfl⟩ := h 0 v rfl
    obtain ⟨t', rfl⟩ := g _ _ rfl
    have q := rng_ints (a₀ := a₀) (k + 1) (fun j v hj => by
      obtain ⟨t, e⟩ := h (j + 1) v (by simpa using hj)
      exact ⟨t, by rw [e]; congr 2; omega⟩) r
    rw [List.length_cons, List.range_succ_eq_map, List.map_cons, List.map_map]
    refine .cons _ t' ?_
    refine Eq.mp ?_ q
    congr 1
    refine List.map_congr_left fun i _ => ?_
    show f (a₀ + ((k + 1 + i : Nat) : Int)) = f (a₀ + ((k + (i + 1) : Nat) : Int))
    congr 2
    omega
section
variable {prog : Program} {w : World} {A : Around} {E : Value → Shared → Prop} {s : Shared} {env : Env}
theorem comp_rng {elt iter : Expr} {x : Str} {px : Pos} {scope : Scope} {cl : List (Str × Addr)} {pos : Pos} {Q : Value → Shared → Prop} (f : Int → Int)
    (hh : A.handled = none) (hclos : closureFor scope env = pure cl) (hcell : ∀ y ∈ scope.names, y.2 ≠ .cell) (hkind : scope.kind = .function)
    (hnames : ∀ y ∈ scope.names, y.2 = .local → scope.names.lookup y.1 = some .local) (hx : scope.names.lookup x = some .local)
    (hs : ∀ x, foldedSetIterable iter env x = pure x)
    (h : wpAny (model prog w) A (eval iter env) (fun xv s₁ => Stop (∃ (r : Addr) (a₀ b₀ : Int) (t₀ u₀ v₀ : Tok) (n : Nat), xv = .ref r ∧ IsRange s₁.heap r a₀ b₀ 1 t₀ u₀ v₀ ∧ Builtin.Range.small a₀ b₀ 1 = true ∧ Builtin.Range.rangeSize a₀ b₀ 1 = (n : Int) ∧ n ≤ 1000 ∧
      (∀ C u t s₂ m₂ E', s₁.heap.objs.size ≤ C → a₀ ≤ u → u < a₀ + n → s₂.heap.Ns C m₂ → m₂ x = some (.int u t) → s₁.heap.StaysIn s₂.heap → wpAny (model prog w) A (eval elt (compEnvC scope cl C env)) (fun y s₃ => (∃ t', y = .int (f u) t') ∧ Keeps s₂ s₃) E' s₂) ∧
      (∀ D ys k h' tk, s₁.heap.get? D = none → h'.get? D = some (listOf (List.toArray ys) k) → IntsAre ys ((List.range n).map fun i : Nat => f (a₀ + (i : Int))) → s₁.heap.StaysIn h' → Q (.ref D) { s₁ with heap := h', toks := tk }))) E s) :
    wpAny (model prog w) A (eval (.ListComp elt [⟨.Name x px, iter, [], 0⟩] scope pos) env) Q E s := by
  refine wpAny_ListComp_free (fun _ => true) (fun v y => ∀ u t, v = .int u t → ∃ t', y = .int (f u) t') hclos hcell hkind hnames hx (wpAny_mono h (fun xv s₁ h₁ => ?_) fun _ _ e => e) hs
  obtain ⟨r, a₀, b₀, t₀, u₀, v₀, n, rfl, hr, hsm, hn, hsz, helt, hQ⟩ := h₁
  have up : ∀ (s₃ : Shared), (∀ b o, b ∉ [s₁.heap.objs.size] → (s₁.heap.push (itR a₀ n)).get? b = some o → s₃.heap.get? b = some o) → ∀ b o, s₁.heap.get? b = some o → s₃.heap.get? b = some o :=
    fun s₃ hk b o e => hk b o (fun hm => by rcases List.mem_cons.mp hm with rfl | hm; exact Nat.lt_irrefl _ (Heap.lt_size e); cases hm) (Heap.get?_push_of_some _ e)
  refine wpAny_pyIter_range hr hsm ?_
  rw [hn]
  have W : Walks prog w A s₁.heap.objs.size [s₁.heap.objs.size] [s₁.heap.objs.size] n (fun i v => i < n ∧ ∃ t, v = .int (a₀ + i * 1) t)
      (fun i h => IsRangeIter h s₁.heap.objs.size (a₀ + (i : Nat) * 1) ((n : Int) - (i : Nat)) 1) := (Walks.range hh _ a₀ 1 n).bound
  refine ⟨s₁.heap.objs.size, [s₁.heap.objs.size], [s₁.heap.objs.size], n, _, _, rfl, W, (by rw [sizeLine_eq]; omega), (by show IsRangeIter _ _ _ _ _; simpa using Heap.get?_push_size _ rfl), ?_, ⟨?_, ?_⟩, ?_⟩
  · intro b hb
    show b < (s₁.heap.push _).objs.size
    rw [Heap.size_push, List.mem_singleton.mp hb]
    exact Nat.lt_succ_self _
  · intro C i v s₃ m₃ E' hC hP hn hm hk _
    exact wpAny_pure ⟨rfl, s₃.heap, s₃.toks, rfl, fun _ _ e => e⟩
  · intro C i v s₃ m₃ E' hC hP hp hn hm hk _
    obtain ⟨hi, t, rfl⟩ := hP
    refine wpAny_mono (helt C _ t s₃ m₃ E' (Nat.le_of_succ_le (by simpa [Heap.size_push] using hC)) (by omega) (by omega) hn hm (up s₃ hk)) (fun y s₄ ⟨⟨t', e⟩, k⟩ => ⟨fun u t2 q => ?_, k⟩) fun _ _ e => e
    cases q
    exact ⟨t', e⟩
  · intro D h' tk ys vs' hnew hlD hplD hlen hP hF hk
    obtain ⟨k, hD⟩ := hplD
    rw [filter_tt] at hF
    have q := rng_ints (f := f) (a₀ := a₀) 0 (fun j v hj => by
      obtain ⟨_, t, e⟩ := hP j v hj
      exact ⟨t, by rw [e]; simp⟩) hF
    rw [hlen] at q
    refine hQ D ys.toList k h' tk ?_ (by rw [Array.toArray_toList]; exact hD) (by simpa using q) (up { s₁ with heap := h' } hk)
    cases e : s₁.heap.get? D with
    | none => rfl
    | some o' => rw [Heap.get?_push_of_some _ e] at hnew; cases hnew
end
theorem isList_of_get {h : Heap} {l : Addr} {vs : List Value} {n : Nat} (e : h.get? l = some (listOf vs.toArray n)) : h.IsList l vs.toArray := ⟨_, e, rfl, _, rfl⟩
/-- a uid's number, 0 where it is not there -/
noncomputable def posOf (vu : List Int) (u : Int) : Int := if u ∈ vu then (vu.idxOf u : Int) + 1 else 0
theorem posOf_in {vu : List Int} (hs : vu.Pairwise (· < ·)) {u : Int} {j : Nat} (h : vu[j]? = some u) : (j : Int) + 1 = posOf vu u := by
  have hm := List.mem_of_getElem? h
  unfold posOf
  rw [if_pos hm]
  have hlt := List.idxOf_lt_length_of_mem hm
  obtain ⟨hj, e⟩ := List.getElem?_eq_some_iff.mp h
  have e2 : vu[vu.idxOf u]'hlt = u := List.getElem_idxOf hlt
  have : vu.idxOf u = j := by
    rcases Nat.lt_trichotomy (vu.idxOf u) j with q | q | q
    · have := List.pairwise_iff_getElem.mp hs _ _ hlt hj q; omega
    · exact q
    · have := List.pairwise_iff_getElem.mp hs _ _ hj hlt q; omega
  rw [this]
theorem posOf_out {vu : List Int} {u : Int} (h : u ∉ vu) : posOf vu u = 0 := if_neg h
theorem range_getD (vu : List Int) : ((List.range vu.length).map fun i : Nat => vu.getD ((0 : Int) + (i : Int)).toNat 0) = vu := by
  apply List.ext_getElem
  · simp
  · intro i h1 h2
    simp only [List.getElem_map, List.getElem_range]
    rw [show ((0 : Int) + (i : Int)).toNat = i by omega, List.getD_eq_getElem?_getD, List.getElem?_eq_getElem h2]
    rfl
section
variable {prog : Program} {w : World} {A : Around} {E : Value → Shared → Prop} {s : Shared} {h₀ : Heap} {L a b : Addr} {news : List (Addr × Obj)} {xs ys : List Value} {ka kb : Nat} {ns : List Int} {Q : Value → Shared → Prop}
theorem ne_ints (N : News h₀ L s.heap news) (ma : (a, listOf xs.toArray ka) ∈ news) (ia : IntsAre xs ns) (mb : (b, listOf ys.toArray kb) ∈ news) (ib : IntsAre ys ns) (hu : A.units + 64 < cLine) (h : Q (.bool false) s) :
    wpAny (model prog w) A (compareOp .NotEq (.ref a) (.ref b)) Q E s :=
  ne_same N ma rfl rfl (ints_dat ia) (fun _ h => h) mb rfl rfl (ints_dat ib) (fun _ h => h) (intD_ok _) hu h
end
theorem weight_small : ∀ {ns : List Int}, (∀ n ∈ ns, 0 ≤ n ∧ n ≤ 1000) → PyData.weightAll (ns.map .int) ≤ 11 * ns.length
  | [], _ => by simp [PyData.weightAll]
  | n :: r, h => by
    have h1 := weight_small (ns := r) fun x hx => h x (.tail _ hx)
    obtain ⟨a, b⟩ := h n (.head _)
    have h2 : PyData.weight (.int n) ≤ 10 := by
      simp only [PyData.weight]
      split
      · omega
      · rename_i hn
        have hn' : n.natAbs ≠ 0 := by
          intro q; apply hn; simp; omega
        have := (Nat.log2_lt (k := 10) hn').mpr (by omega)
        omega
    simp only [List.map_cons, PyData.weightAll, List.length_cons]
    omega
theorem lay_small {ns : List Int} (h : ∀ n ∈ ns, 0 ≤ n ∧ n ≤ 1000) (hl : ns.length ≤ 500) : PyData.layable0 (.list (ns.map .int)) = true := by
  have h1 := weight_small h
  have h2 := PyProof.Rows.canLayAll_ints ns
  have h3 := PyProof.Rows.depthAll_ints ns
  unfold PyData.layable0
  rw [Bool.and_eq_true, Bool.and_eq_true]
  refine ⟨⟨h2, decide_eq_true ?_⟩, decide_eq_true (Nat.le_trans h1 (show 11 * ns.length ≤ 2 ^ 20 by omega))⟩
  rw [PyData.depth, h3]; decide
/-- what is left of a loop that is unrolled, whatever its target -/
noncomputable def RestT (prog : Program) (w : World) (A : Around) (E : Value → Shared → Prop) (h₀ : Heap) (env : Env) (target : Expr) (body : List Stmt) (Q : Flow → Shared → Prop) (s : Shared) (C : List (Addr × Obj) → Prop) : List Value → (Str → Option Value) → List (Addr × Obj) → Prop
  | [], m, n => ∀ h tk, Fr h₀ env.locals h m → News h₀ env.locals h n → Q .next { s with heap := h, toks := tk }
  | v :: r, m, n => ∀ h tk I oI, (∀ p ∈ n, p.1 ≠ I) → Fr h₀ env.locals h m → News h₀ env.locals h ((I, oI) :: n) → (∀ xs k, oI ≠ listOf xs k) →
      wpAny (model prog w) A (assign target env v) (fun _ s₂ => wpAny (model prog w) A (execs body env) (TurnOut h₀ env.locals I oI (fun m' n' => C n' ∧ RestT prog w A E h₀ env target body Q s C r m' n') { s with heap := h, toks := tk } Q) E s₂) E { s with heap := h, toks := tk }
theorem for_unrT {prog : Program} {w : World} {A : Around} {E : Value → Shared → Prop} {s : Shared} {env : Env} {h₀ : Heap} {target iter : Expr} {body : List Stmt} {Q : Flow → Shared → Prop} {pos : Pos} (hh : A.handled = none)
    (h : wpAny (model prog w) A (eval iter env) (fun xv s₁ => Stop (∃ (l : Addr) (vs : List Value) (ep : Nat) (m₀ : Str → Option Value) (news : List (Addr × Obj)), xv = .ref l ∧ (l, listOf vs.toArray ep) ∈ news ∧ Fr h₀ env.locals s₁.heap m₀ ∧ News h₀ env.locals s₁.heap news ∧
      RestT prog w A E h₀ env target body Q s₁ (fun n => (l, listOf vs.toArray ep) ∈ n) vs m₀ news)) E s)
    (hs : ∀ x, foldedSetIterable iter env x = pure x)
    (hE : PassesOwn (model prog w) A env E := by passes_own) :
    wpAny (model prog w) A (exec (.For target iter body [] pos) env) Q E s := by
  refine for_listT (h₀ := h₀) hh (wpAny_mono h (fun xv s₁ h₁ => ?_) fun _ _ e => e) hs hE
  obtain ⟨l, vs, ep, m₀, news, rfl, hl, F, N, hr⟩ := h₁
  refine ⟨l, vs, ep, m₀, news, fun i m n => (l, listOf vs.toArray ep) ∈ n ∧ RestT prog w A E h₀ env target body Q s₁ (fun n => (l, listOf vs.toArray ep) ∈ n) (vs.drop i) m n, rfl, hl, F, N, ⟨hl, hr⟩, fun _ _ _ j => j.1, ?_, ?_⟩
  · rintro i v m₁ n₁ h1 tk I oI hv ⟨_, hJ⟩ off F₁ N₁ hno
    have e : vs.drop i = v :: vs.drop (i + 1) := by
      obtain ⟨hlt, hv⟩ := List.getElem?_eq_some_iff.mp hv
      rw [← hv]; exact List.drop_eq_getElem_cons hlt
    rw [e] at hJ
    exact hJ h1 tk I oI off F₁ N₁ hno
  · rintro m₁ n₁ h1 tk ⟨_, hJ⟩ F₁ N₁
    rw [List.drop_length] at hJ
    exact hJ h1 tk F₁ N₁
end Mine
end
section
open PySem PySem.W PyProof.Rows PySem.Calls PyProof.V PySem.Spec
set_option maxRecDepth 100000
set_option maxHeartbeats 8000000
namespace Mine
theorem ApartN.mono : ∀ {m n : Nat} {l : List (Addr × Obj)}, m ≤ n → ApartN n l → ApartN m l
  | 0, _, _, _, _ => trivial
  | _ + 1, 0, _, h, _ => absurd h (Nat.not_succ_le_zero _)
  | _ + 1, _ + 1, [], _, _ => trivial
  | _ + 1, _ + 1, _ :: _, h, ⟨a, b⟩ => ⟨a, ApartN.mono (Nat.le_of_succ_le_succ h) b⟩
theorem ApartN.pick : ∀ {n : Nat} {l : List (Addr × Obj)} (i : Nat) {p : Addr × Obj}, l[i]? = some p → i < n → ApartN n l → ApartN n (p :: l.eraseIdx i)
  | 0, _, _, _, _, h, _ => absurd h (Nat.not_lt_zero _)
  | _ + 1, [], _, _, h, _, _ => by simp at h
  | n + 1, a :: r, 0, p, h, _, ⟨x, y⟩ => by
    have : a = p := by simpa using h
    subst this
    exact ⟨x, y⟩
  | n + 1, a :: r, i + 1, p, h, hi, ⟨x, y⟩ => by
    have h' : r[i]? = some p := by simpa using h
    have hm : p ∈ r := List.mem_of_getElem? h'
    cases n with
    | zero => omega
    | succ n =>
    obtain ⟨u, v⟩ := ApartN.pick i h' (Nat.lt_of_succ_lt_succ hi) y
    refine ⟨fun q hq => ?_, fun q hq => ?_, v⟩
    · rcases List.mem_cons.mp hq with rfl | hq
      · exact fun e => x p hm e.symm
      · exact u q hq
    · exact x q (List.mem_of_mem_eraseIdx hq)
theorem ApartN.congr : ∀ {n : Nat} {l l' : List (Addr × Obj)}, l.map (·.1) = l'.map (·.1) → ApartN n l → ApartN n l'
  | 0, _, _, _, _ => trivial
  | _ + 1, [], [], _, _ => trivial
  | _ + 1, [], _ :: _, h, _ => by simp at h
  | _ + 1, _ :: _, [], h, _ => by simp at h
  | n + 1, a :: r, b :: r', h, ⟨x, y⟩ => by
    obtain ⟨e1, e2⟩ := List.cons.inj h
    refine ⟨fun q hq => ?_, ApartN.congr e2 y⟩
    have hm : q.1 ∈ r'.map (·.1) := List.mem_map.mpr ⟨q, hq, rfl⟩
    rw [← e2] at hm
    obtain ⟨q', hq', e⟩ := List.mem_map.mp hm
    have e1' : a.1 = b.1 := e1
    have e' : q'.1 = q.1 := e
    rw [← e', ← e1']
    exact x q' hq'
theorem ApartN.grow : ∀ {n : Nat} {hd tl r : List (Addr × Obj)}, hd.length = n → ApartN n (hd ++ r) → (∀ p ∈ tl, ∀ q ∈ hd, p.1 ≠ q.1) → ApartN n (hd ++ (tl ++ r))
  | 0, [], _, _, _, _, _ => trivial
  | 0, _ :: _, _, _, h, _, _ => by simp at h
  | _ + 1, [], _, _, h, _, _ => by simp at h
  | n + 1, a :: hd, tl, r, h, ⟨x, y⟩, ht => by
    refine ⟨fun q hq => ?_, ApartN.grow (by simpa using h) y fun p hp q hq => ht p hp q (.tail _ hq)⟩
    rcases List.mem_append.mp hq with hq | hq
    · exact x q (List.mem_append_left _ hq)
    · rcases List.mem_append.mp hq with hq | hq
      · exact ht q hq a (.head _)
      · exact x q (List.mem_append_right _ hq)
theorem ApartN.heads : ∀ {n : Nat} {hd r : List (Addr × Obj)}, hd.length = n → ApartN n (hd ++ r) → ∀ p ∈ r, ∀ q ∈ hd, p.1 ≠ q.1
  | 0, [], _, _, _, _, _, _, hq => nomatch hq
  | 0, _ :: _, _, h, _, _, _, _, _ => by simp at h
  | _ + 1, [], _, h, _, _, _, _, _ => by simp at h
  | n + 1, a :: hd, r, h, ⟨x, y⟩, p, hp, q, hq => by
    rcases List.mem_cons.mp hq with rfl | hq
    · exact x p (List.mem_append_right _ hp)
    · exact ApartN.heads (by simpa using h) y p hp q hq
set_option genInjectivity false
set_option genSizeOf false
/-- what stays through the laps -/
structure Ad where
  (pa ca bx bd v1 d1 f1 m1 v2 d2 f2 m2 vl : Addr)
  cvs : List Value
  cns : List Int
/-- what the laps change -/
structure Gh where
  (k z nu tp : Int)
  (tk tz tn tt k0 k1 k2 k3 k4 k5 k6 q0 q1 q2 q3 q4 q5 q6 p0 p1 p2 p3 p4 p5 p6 : Tok)
  (ep np el eg n1 n2 nv nl : Nat)
  (la ga ul1 ul2 lf : Addr)
  (vs gs ys1 ys2 ls : List Value)
  (us vu : List Int)
  (nm vd fl : Value)
  (o1 o2 o3 o4 oL oS oV : Obj)
  (vS vV : Option Value)
  (kf1 km1 kf2 km2 : List (Int × Value))
noncomputable abbrev penO (A : Ad) (g : Gh) : Addr × Obj := (A.pa, listOf [.ref A.ca, .int g.k g.tk, .int g.z g.tz].toArray g.ep)
noncomputable abbrev boxO (w : World) (A : Ad) (g : Gh) : Addr × Obj := (A.bd, dictOf (boxD w.params g.k0 g.k1 g.k2 g.k3 g.k4 g.k5 g.k6 g.nm g.vd (.int g.nu g.tn) (.int g.tp g.tt) g.fl g.la g.ga) 7)
noncomputable abbrev view1 (w : World) (A : Ad) (g : Gh) : Addr × Obj := (A.d1, dictOf (viewD w.params g.q0 g.q1 g.q2 g.q3 g.q4 g.q5 g.q6 A.bx false false false g.ul1 A.f1 A.m1) 7)
noncomputable abbrev view2 (w : World) (A : Ad) (g : Gh) : Addr × Obj := (A.d2, dictOf (viewD w.params g.p0 g.p1 g.p2 g.p3 g.p4 g.p5 g.p6 A.bx false true true g.ul2 A.f2 A.m2) 7)
noncomputable abbrev headsOf (w : World) (L : Addr) (A : Ad) (g : Gh) : List (Addr × Obj) :=
  [penO A g, boxO w A g, (g.la, listOf g.vs.toArray g.el), (g.ga, listOf g.gs.toArray g.eg), view1 w A g, (A.f1, g.o1), (A.m1, g.o2), view2 w A g, (A.f2, g.o3), (A.m2, g.o4), (L + 1, g.oL), (L + 1 + 1, g.oS), (L + 1 + 1 + 1 + 1, g.oV)]
/-- the state at a lap's start -/
structure LapSt (w : World) (A : Ad) (g : Gh) (i : Nat) (m : Str → Option Value) (R : List (Addr × Obj)) : Prop where
  mpen : m (Str.ofString "pen") = some (.ref A.pa)
  mbox : m (Str.ofString "box") = some (.ref A.bx)
  mviews : m (Str.ofString "views") = some (.ref A.vl)
  hca : (A.ca, listOf A.cvs.toArray g.np) ∈ R
  k0 : 0 ≤ g.k
  k1 : g.k ≤ 100 + 3 * i
  z0 : 0 ≤ g.z
  z1 : g.z < 997
  hbx : (A.bx, instObj 242 A.bd) ∈ R
  hL : LettersIn w.params R g.vs g.us
  hlen : g.vs.length ≤ 10 + i
  hglen : g.gs.length ≤ 40 * i
  asc : g.us.Pairwise (· < ·)
  low : ∀ u ∈ g.us, 1 ≤ u ∧ u < g.nu
  hnu : g.nu ≤ 20 + i
  nu1 : 1 ≤ g.nu
  hv1 : (A.v1, instObj 77 A.d1) ∈ R
  hu1 : (g.ul1, listOf g.ys1.toArray g.n1) ∈ R
  i1 : IntsAre g.ys1 g.vu
  hv2 : (A.v2, instObj 77 A.d2) ∈ R
  hu2 : (g.ul2, listOf g.ys2.toArray g.n2) ∈ R
  i2 : IntsAre g.ys2 g.vu
  D1 : g.o1.IsDictOf (intKind PySem.Challenge.rw_nz0296_01.row.prog w) g.kf1
  D2 : g.o2.IsDictOf (intKind PySem.Challenge.rw_nz0296_01.row.prog w) g.km1
  D3 : g.o3.IsDictOf (intKind PySem.Challenge.rw_nz0296_01.row.prog w) g.kf2
  D4 : g.o4.IsDictOf (intKind PySem.Challenge.rw_nz0296_01.row.prog w) g.km2
  E1 : g.kf1.map (·.1) = g.vu
  E2 : g.km1.map (·.1) = g.vu
  E3 : g.kf2.map (·.1) = g.vu
  E4 : g.km2.map (·.1) = g.vu
  hvl : (A.vl, listOf [.ref A.v1, .ref A.v2].toArray g.nv) ∈ R
  hlf : (g.lf, listOf g.ls.toArray g.nl) ∈ R
  il : IntsAre g.ls g.vu
  dL : g.oL.data = .cell (some (.ref g.lf))
  dS : g.oS.data = .cell g.vS
  dV : g.oV.data = .cell g.vV
  ascv : g.vu.Pairwise (· < ·)
  sub : ∀ u ∈ g.vu, u ∈ g.us
  lenv : g.vu.length ≤ 20
theorem mid_mem {T X R : List (Addr × Obj)} : ∀ p ∈ T ++ R, p ∈ T ++ (X ++ R) := fun p h => by
  rcases List.mem_append.mp h with h | h
  · exact List.mem_append_left _ h
  · exact List.mem_append_right _ (List.mem_append_right _ h)
section
variable {us us2 vu : List Int} {x1 x2 nu nu2 : Int}
theorem law_in (sub : ∀ u ∈ vu, u ∈ us) (low : ∀ u ∈ us, 1 ≤ u ∧ u < nu) (h : (us2 = us.filter (fun u => !(u == x1 || u == x2)) ∧ nu2 = nu) ∨ (us2 = us.filter (fun u => !(u == x1 || u == x2)) ++ [nu] ∧ nu2 = nu + 1)) {u : Int} (hu : u ∈ vu) : us2.contains u = !(u == x1 || u == x2) := by
  have h1 := sub u hu
  have h2 := low u h1
  have e : (us.filter fun u => !(u == x1 || u == x2)).contains u = !(u == x1 || u == x2) := by
    by_cases c : (u == x1 || u == x2) = true
    · rw [c]
      simp only [Bool.not_true]
      exact Bool.eq_false_iff.mpr fun q => by
        have := (List.mem_filter.mp (List.contains_iff_mem.mp q)).2
        rw [c] at this; cases this
    · rw [Bool.eq_false_iff.mpr c]
      simp only [Bool.not_false]
      exact List.contains_iff_mem.mpr (List.mem_filter.mpr ⟨h1, by rw [Bool.eq_false_iff.mpr c]; rfl⟩)
  rcases h with ⟨rfl, _⟩ | ⟨rfl, _⟩
  · exact e
  · have ne : u ≠ nu := by omega
    have : (us.filter (fun u => !(u == x1 || u == x2)) ++ [nu]).contains u = (us.filter fun u => !(u == x1 || u == x2)).contains u := by
      rw [Bool.eq_iff_iff, List.contains_iff_mem, List.contains_iff_mem, List.mem_append, List.mem_singleton]
      exact ⟨fun q => q.resolve_right ne, .inl⟩
    rw [this]; exact e
theorem law_gone (sub : ∀ u ∈ vu, u ∈ us) (low : ∀ u ∈ us, 1 ≤ u ∧ u < nu) (h : (us2 = us.filter (fun u => !(u == x1 || u == x2)) ∧ nu2 = nu) ∨ (us2 = us.filter (fun u => !(u == x1 || u == x2)) ++ [nu] ∧ nu2 = nu + 1)) : (vu.filter fun u => !us2.contains u) = vu.filter fun u => u == x1 || u == x2 :=
  List.filter_congr fun u hu => by rw [law_in sub low h hu, Bool.not_not]
theorem law_left (sub : ∀ u ∈ vu, u ∈ us) (low : ∀ u ∈ us, 1 ≤ u ∧ u < nu) (h : (us2 = us.filter (fun u => !(u == x1 || u == x2)) ∧ nu2 = nu) ∨ (us2 = us.filter (fun u => !(u == x1 || u == x2)) ++ [nu] ∧ nu2 = nu + 1)) : (vu.filter fun u => us2.contains u) = vu.filter fun u => !(u == x1 || u == x2) :=
  List.filter_congr fun u hu => law_in sub low h hu
theorem law_plain : (vu.filter fun x => !(vu.filter fun u => u == x1 || u == x2).contains x) = vu.filter fun u => !(u == x1 || u == x2) :=
  List.filter_congr fun u hu => by
    by_cases c : (u == x1 || u == x2) = true
    · rw [c, List.contains_iff_mem.mpr (List.mem_filter.mpr ⟨hu, c⟩)]
    · have n1 : (vu.filter fun u => u == x1 || u == x2).contains u = false := Bool.eq_false_iff.mpr fun q => c (List.mem_filter.mp (List.contains_iff_mem.mp q)).2
      rw [n1, Bool.eq_false_iff.mpr c]
theorem law_asc (low : ∀ u ∈ us, 1 ≤ u ∧ u < nu) (asc : us.Pairwise (· < ·)) (h : (us2 = us.filter (fun u => !(u == x1 || u == x2)) ∧ nu2 = nu) ∨ (us2 = us.filter (fun u => !(u == x1 || u == x2)) ++ [nu] ∧ nu2 = nu + 1)) (h1 : 1 ≤ nu) :
    us2.Pairwise (· < ·) ∧ (∀ u ∈ us2, 1 ≤ u ∧ u < nu2) ∧ us2.length ≤ us.length + 1 ∧ nu2 ≤ nu + 1 ∧ nu ≤ nu2 := by
  have hf := List.length_filter_le (fun u => !(u == x1 || u == x2)) us
  rcases h with ⟨rfl, rfl⟩ | ⟨rfl, rfl⟩
  · exact ⟨asc_filter _ asc, fun u hu => low u (List.mem_filter.mp hu).1, by omega, by omega, by omega⟩
  · refine ⟨List.pairwise_append.mpr ⟨asc_filter _ asc, List.pairwise_singleton .., fun a ha b hb => ?_⟩, fun u hu => ?_, ?_, by omega, by omega⟩
    · rw [List.mem_singleton.mp hb]; exact (low a (List.mem_filter.mp ha).1).2
    · rcases List.mem_append.mp hu with hu | hu
      · have := low u (List.mem_filter.mp hu).1; omega
      · rw [List.mem_singleton.mp hu]; omega
    · rw [List.length_append, List.length_singleton]; omega
theorem asc_nodup {l : List Int} (h : l.Pairwise (· < ·)) : l.Nodup := h.imp fun h => by omega
end
theorem news_back {h₀ h : Heap} {L : Addr} (new hd r : List (Addr × Obj)) (N : News h₀ L h (new ++ (hd ++ r))) : News h₀ L h (hd ++ (new ++ r)) := news_sub N fun p hp => by
  simp only [List.mem_append] at hp ⊢
  rcases hp with h | h | h <;> simp [h]
theorem news_mid {h₀ h : Heap} {L : Addr} (a tl b r : List (Addr × Obj)) (N : News h₀ L h (a ++ (tl ++ (b ++ r)))) : News h₀ L h ((a ++ b) ++ (tl ++ r)) := news_sub N fun p hp => by
  simp only [List.mem_append] at hp ⊢
  rcases hp with (h | h) | h | h <;> simp [h]
theorem ApartN.sub : ∀ {n : Nat} {hd r r' : List (Addr × Obj)}, hd.length = n → ApartN n (hd ++ r) → (∀ p ∈ r', p ∈ r) → ApartN n (hd ++ r')
  | 0, [], _, _, _, _, _ => trivial
  | 0, _ :: _, _, _, h, _, _ => by simp at h
  | _ + 1, [], _, _, h, _, _ => by simp at h
  | n + 1, a :: hd, r, r', h, ⟨x, y⟩, hs => by
    refine ⟨fun q hq => ?_, ApartN.sub (by simpa using h) y hs⟩
    rcases List.mem_append.mp hq with hq | hq
    · exact x q (List.mem_append_left _ hq)
    · exact x q (List.mem_append_right _ (hs q hq))
/-- a ledger without an address -/
noncomputable def dropA (c : Nat) (l : List (Addr × Obj)) : List (Addr × Obj) := l.filter fun p => decide (@Ne Nat p.1 c)
theorem mem_dropA {c : Nat} {l : List (Addr × Obj)} {p : Addr × Obj} (h : p ∈ l) (ne : @Ne Nat p.1 c) : p ∈ dropA c l := List.mem_filter.mpr ⟨h, decide_eq_true ne⟩
theorem sub_dropA {c : Nat} {l : List (Addr × Obj)} {p : Addr × Obj} (h : p ∈ dropA c l) : p ∈ l := (List.mem_filter.mp h).1
theorem off_dropA {c : Nat} {l : List (Addr × Obj)} : AllOff c (dropA c l) := allOff_of fun _ h => of_decide_eq_true (List.mem_filter.mp h).2
theorem ne_of_data {h₀ h : Heap} {L : Addr} {l : List (Addr × Obj)} (N : News h₀ L h l) {a c : Addr} {o oc : Obj} (ha : (a, o) ∈ l) (hc : (c, oc) ∈ l) (hd : o.data ≠ oc.data) : @Ne Nat a c := fun e => by
  have e' : a = c := e
  subst e'
  have := (N _ ha).1.symm.trans (N _ hc).1
  exact hd (congrArg Obj.data (Option.some.inj this))
section
variable {prog : Program} {w : World} {A : Around} {E : Value → Shared → Prop} {s : Shared} {h₀ : Heap} {L a b : Addr} {news : List (Addr × Obj)} {xs ys : List Value} {ka kb : Nat} {ns : List Int} {Q : Value → Shared → Prop}
open Classical in
theorem eq_ints (N : News h₀ L s.heap news) (ma : (a, listOf xs.toArray ka) ∈ news) (ia : IntsAre xs ns) (mb : (b, listOf ys.toArray kb) ∈ news) (ib : IntsAre ys ns) (hu : A.units + 64 < cLine) (h : Q (.bool true) s) :
    wpAny (model prog w) A (compareOp .Eq (.ref a) (.ref b)) Q E s :=
  kqd_eq N ma rfl rfl (ints_dat ia) (fun _ h => h) mb rfl rfl (ints_dat ib) (fun _ h => h) (intD_ok _) (intD_ok _) hu (by rw [decide_eq_true rfl]; exact h)
end
theorem gone_key (kvs : List (Int × Value)) (u : Int) : (valueAt (without kvs u) u).isSome = false := by
  rw [keys_isSome rfl, without_keys]
  exact Bool.eq_false_iff.mpr fun q => by
    have := (List.mem_filter.mp (List.contains_iff_mem.mp q)).2
    simp at this
theorem there_key {kvs : List (Int × Value)} {us : List Int} {u : Int} (h : kvs.map (·.1) = us) (hu : u ∈ us) : (valueAt kvs u).isSome = true := by
  rw [keys_isSome h]; exact List.contains_iff_mem.mpr hu
theorem ApartN.join : ∀ {n k : Nat} {hd r : List (Addr × Obj)}, hd.length = n → ApartN n (hd ++ r) → ApartN k r → ApartN (k + n) (hd ++ r)
  | 0, _, [], _, _, _, h => h
  | 0, _, _ :: _, _, h, _, _ => by simp at h
  | _ + 1, _, [], _, h, _, _ => by simp at h
  | n + 1, k, a :: hd, r, h, ⟨x, y⟩, z => ⟨x, ApartN.join (by simpa using h) y z⟩
end Mine
end
section
open PySem PySem.W PyProof.Rows PySem.Calls PyProof.V PySem.Spec
set_option maxRecDepth 100000
set_option maxHeartbeats 8000000
namespace Mine
theorem ord1 {h₀ h : Heap} {L : Addr} {p0 p1 p2 p3 p4 p5 p6 p7 p8 p9 p10 p11 p12 p13 p14 p15 p16 p17 : Addr × Obj} {R : List (Addr × Obj)} (N : News h₀ L h (p0 :: p1 :: p2 :: p3 :: p4 :: p5 :: p6 :: p7 :: p8 :: p9 :: p10 :: p11 :: p12 :: p13 :: p14 :: p15 :: p16 :: p17 :: R))
    (ap : ApartN 18 (p0 :: p1 :: p2 :: p3 :: p4 :: p5 :: p6 :: p7 :: p8 :: p9 :: p10 :: p11 :: p12 :: p13 :: p14 :: p15 :: p16 :: p17 :: R)) :
    News h₀ L h (p14 :: p11 :: p12 :: p13 :: p17 :: p10 :: p7 :: p6 :: p5 :: p2 :: p1 :: p15 :: p16 :: p0 :: p3 :: p4 :: p8 :: p9 :: R) ∧ ApartN 13 (p14 :: p11 :: p12 :: p13 :: p17 :: p10 :: p7 :: p6 :: p5 :: p2 :: p1 :: p15 :: p16 :: p0 :: p3 :: p4 :: p8 :: p9 :: R) := by
  have N : News h₀ L h (p9 :: p0 :: p1 :: p2 :: p3 :: p4 :: p5 :: p6 :: p7 :: p8 :: p10 :: p11 :: p12 :: p13 :: p14 :: p15 :: p16 :: p17 :: R) := news_pick 9 rfl N
  have ap : ApartN 18 (p9 :: p0 :: p1 :: p2 :: p3 :: p4 :: p5 :: p6 :: p7 :: p8 :: p10 :: p11 :: p12 :: p13 :: p14 :: p15 :: p16 :: p17 :: R) := ap.pick 9 rfl (by decide)
  have N : News h₀ L h (p8 :: p9 :: p0 :: p1 :: p2 :: p3 :: p4 :: p5 :: p6 :: p7 :: p10 :: p11 :: p12 :: p13 :: p14 :: p15 :: p16 :: p17 :: R) := news_pick 9 rfl N
  have ap : ApartN 18 (p8 :: p9 :: p0 :: p1 :: p2 :: p3 :: p4 :: p5 :: p6 :: p7 :: p10 :: p11 :: p12 :: p13 :: p14 :: p15 :: p16 :: p17 :: R) := ap.pick 9 rfl (by decide)
  have N : News h₀ L h (p4 :: p8 :: p9 :: p0 :: p1 :: p2 :: p3 :: p5 :: p6 :: p7 :: p10 :: p11 :: p12 :: p13 :: p14 :: p15 :: p16 :: p17 :: R) := news_pick 6 rfl N
  have ap : ApartN 18 (p4 :: p8 :: p9 :: p0 :: p1 :: p2 :: p3 :: p5 :: p6 :: p7 :: p10 :: p11 :: p12 :: p13 :: p14 :: p15 :: p16 :: p17 :: R) := ap.pick 6 rfl (by decide)
  have N : News h₀ L h (p3 :: p4 :: p8 :: p9 :: p0 :: p1 :: p2 :: p5 :: p6 :: p7 :: p10 :: p11 :: p12 :: p13 :: p14 :: p15 :: p16 :: p17 :: R) := news_pick 6 rfl N
  have ap : ApartN 18 (p3 :: p4 :: p8 :: p9 :: p0 :: p1 :: p2 :: p5 :: p6 :: p7 :: p10 :: p11 :: p12 :: p13 :: p14 :: p15 :: p16 :: p17 :: R) := ap.pick 6 rfl (by decide)
  have N : News h₀ L h (p0 :: p3 :: p4 :: p8 :: p9 :: p1 :: p2 :: p5 :: p6 :: p7 :: p10 :: p11 :: p12 :: p13 :: p14 :: p15 :: p16 :: p17 :: R) := news_pick 4 rfl N
  have ap : ApartN 18 (p0 :: p3 :: p4 :: p8 :: p9 :: p1 :: p2 :: p5 :: p6 :: p7 :: p10 :: p11 :: p12 :: p13 :: p14 :: p15 :: p16 :: p17 :: R) := ap.pick 4 rfl (by decide)
  have N : News h₀ L h (p16 :: p0 :: p3 :: p4 :: p8 :: p9 :: p1 :: p2 :: p5 :: p6 :: p7 :: p10 :: p11 :: p12 :: p13 :: p14 :: p15 :: p17 :: R) := news_pick 16 rfl N
  have ap : ApartN 18 (p16 :: p0 :: p3 :: p4 :: p8 :: p9 :: p1 :: p2 :: p5 :: p6 :: p7 :: p10 :: p11 :: p12 :: p13 :: p14 :: p15 :: p17 :: R) := ap.pick 16 rfl (by decide)
  have N : News h₀ L h (p15 :: p16 :: p0 :: p3 :: p4 :: p8 :: p9 :: p1 :: p2 :: p5 :: p6 :: p7 :: p10 :: p11 :: p12 :: p13 :: p14 :: p17 :: R) := news_pick 16 rfl N
  have ap : ApartN 18 (p15 :: p16 :: p0 :: p3 :: p4 :: p8 :: p9 :: p1 :: p2 :: p5 :: p6 :: p7 :: p10 :: p11 :: p12 :: p13 :: p14 :: p17 :: R) := ap.pick 16 rfl (by decide)
  have N : News h₀ L h (p1 :: p15 :: p16 :: p0 :: p3 :: p4 :: p8 :: p9 :: p2 :: p5 :: p6 :: p7 :: p10 :: p11 :: p12 :: p13 :: p14 :: p17 :: R) := news_pick 7 rfl N
  have ap : ApartN 18 (p1 :: p15 :: p16 :: p0 :: p3 :: p4 :: p8 :: p9 :: p2 :: p5 :: p6 :: p7 :: p10 :: p11 :: p12 :: p13 :: p14 :: p17 :: R) := ap.pick 7 rfl (by decide)
  have N : News h₀ L h (p2 :: p1 :: p15 :: p16 :: p0 :: p3 :: p4 :: p8 :: p9 :: p5 :: p6 :: p7 :: p10 :: p11 :: p12 :: p13 :: p14 :: p17 :: R) := news_pick 8 rfl N
  have ap : ApartN 18 (p2 :: p1 :: p15 :: p16 :: p0 :: p3 :: p4 :: p8 :: p9 :: p5 :: p6 :: p7 :: p10 :: p11 :: p12 :: p13 :: p14 :: p17 :: R) := ap.pick 8 rfl (by decide)
  have N : News h₀ L h (p5 :: p2 :: p1 :: p15 :: p16 :: p0 :: p3 :: p4 :: p8 :: p9 :: p6 :: p7 :: p10 :: p11 :: p12 :: p13 :: p14 :: p17 :: R) := news_pick 9 rfl N
  have ap : ApartN 18 (p5 :: p2 :: p1 :: p15 :: p16 :: p0 :: p3 :: p4 :: p8 :: p9 :: p6 :: p7 :: p10 :: p11 :: p12 :: p13 :: p14 :: p17 :: R) := ap.pick 9 rfl (by decide)
  have N : News h₀ L h (p6 :: p5 :: p2 :: p1 :: p15 :: p16 :: p0 :: p3 :: p4 :: p8 :: p9 :: p7 :: p10 :: p11 :: p12 :: p13 :: p14 :: p17 :: R) := news_pick 10 rfl N
  have ap : ApartN 18 (p6 :: p5 :: p2 :: p1 :: p15 :: p16 :: p0 :: p3 :: p4 :: p8 :: p9 :: p7 :: p10 :: p11 :: p12 :: p13 :: p14 :: p17 :: R) := ap.pick 10 rfl (by decide)
  have N : News h₀ L h (p7 :: p6 :: p5 :: p2 :: p1 :: p15 :: p16 :: p0 :: p3 :: p4 :: p8 :: p9 :: p10 :: p11 :: p12 :: p13 :: p14 :: p17 :: R) := news_pick 11 rfl N
  have ap : ApartN 18 (p7 :: p6 :: p5 :: p2 :: p1 :: p15 :: p16 :: p0 :: p3 :: p4 :: p8 :: p9 :: p10 :: p11 :: p12 :: p13 :: p14 :: p17 :: R) := ap.pick 11 rfl (by decide)
  have N : News h₀ L h (p10 :: p7 :: p6 :: p5 :: p2 :: p1 :: p15 :: p16 :: p0 :: p3 :: p4 :: p8 :: p9 :: p11 :: p12 :: p13 :: p14 :: p17 :: R) := news_pick 12 rfl N
  have ap : ApartN 18 (p10 :: p7 :: p6 :: p5 :: p2 :: p1 :: p15 :: p16 :: p0 :: p3 :: p4 :: p8 :: p9 :: p11 :: p12 :: p13 :: p14 :: p17 :: R) := ap.pick 12 rfl (by decide)
  have N : News h₀ L h (p17 :: p10 :: p7 :: p6 :: p5 :: p2 :: p1 :: p15 :: p16 :: p0 :: p3 :: p4 :: p8 :: p9 :: p11 :: p12 :: p13 :: p14 :: R) := news_pick 17 rfl N
  have ap : ApartN 18 (p17 :: p10 :: p7 :: p6 :: p5 :: p2 :: p1 :: p15 :: p16 :: p0 :: p3 :: p4 :: p8 :: p9 :: p11 :: p12 :: p13 :: p14 :: R) := ap.pick 17 rfl (by decide)
  have N : News h₀ L h (p13 :: p17 :: p10 :: p7 :: p6 :: p5 :: p2 :: p1 :: p15 :: p16 :: p0 :: p3 :: p4 :: p8 :: p9 :: p11 :: p12 :: p14 :: R) := news_pick 16 rfl N
  have ap : ApartN 18 (p13 :: p17 :: p10 :: p7 :: p6 :: p5 :: p2 :: p1 :: p15 :: p16 :: p0 :: p3 :: p4 :: p8 :: p9 :: p11 :: p12 :: p14 :: R) := ap.pick 16 rfl (by decide)
  have N : News h₀ L h (p12 :: p13 :: p17 :: p10 :: p7 :: p6 :: p5 :: p2 :: p1 :: p15 :: p16 :: p0 :: p3 :: p4 :: p8 :: p9 :: p11 :: p14 :: R) := news_pick 16 rfl N
  have ap : ApartN 18 (p12 :: p13 :: p17 :: p10 :: p7 :: p6 :: p5 :: p2 :: p1 :: p15 :: p16 :: p0 :: p3 :: p4 :: p8 :: p9 :: p11 :: p14 :: R) := ap.pick 16 rfl (by decide)
  have N : News h₀ L h (p11 :: p12 :: p13 :: p17 :: p10 :: p7 :: p6 :: p5 :: p2 :: p1 :: p15 :: p16 :: p0 :: p3 :: p4 :: p8 :: p9 :: p14 :: R) := news_pick 16 rfl N
  have ap : ApartN 18 (p11 :: p12 :: p13 :: p17 :: p10 :: p7 :: p6 :: p5 :: p2 :: p1 :: p15 :: p16 :: p0 :: p3 :: p4 :: p8 :: p9 :: p14 :: R) := ap.pick 16 rfl (by decide)
  have N : News h₀ L h (p14 :: p11 :: p12 :: p13 :: p17 :: p10 :: p7 :: p6 :: p5 :: p2 :: p1 :: p15 :: p16 :: p0 :: p3 :: p4 :: p8 :: p9 :: R) := news_pick 17 rfl N
  have ap : ApartN 18 (p14 :: p11 :: p12 :: p13 :: p17 :: p10 :: p7 :: p6 :: p5 :: p2 :: p1 :: p15 :: p16 :: p0 :: p3 :: p4 :: p8 :: p9 :: R) := ap.pick 17 rfl (by decide)
  exact ⟨N, ApartN.mono (by decide) ap⟩
theorem ord2 {h₀ h : Heap} {L : Addr} {p0 p1 p2 p3 p4 p5 p6 p7 p8 p9 p10 p11 p12 p13 p14 p15 p16 p17 p18 : Addr × Obj} {R : List (Addr × Obj)} (N : News h₀ L h (p0 :: p1 :: p2 :: p3 :: p4 :: p5 :: p6 :: p7 :: p8 :: p9 :: p10 :: p11 :: p12 :: p13 :: p14 :: p15 :: p16 :: p17 :: p18 :: R))
    (ap : ApartN 13 (p0 :: p1 :: p2 :: p3 :: p4 :: p5 :: p6 :: p7 :: p8 :: p9 :: p10 :: p11 :: p12 :: p13 :: p14 :: p15 :: p16 :: p17 :: p18 :: R)) :
    News h₀ L h (p1 :: p2 :: p3 :: p4 :: p5 :: p6 :: p7 :: p8 :: p9 :: p10 :: p0 :: p11 :: p12 :: p13 :: p14 :: p15 :: p16 :: p17 :: p18 :: R) ∧ ApartN 13 (p1 :: p2 :: p3 :: p4 :: p5 :: p6 :: p7 :: p8 :: p9 :: p10 :: p0 :: p11 :: p12 :: p13 :: p14 :: p15 :: p16 :: p17 :: p18 :: R) := by
  have N : News h₀ L h (p12 :: p0 :: p1 :: p2 :: p3 :: p4 :: p5 :: p6 :: p7 :: p8 :: p9 :: p10 :: p11 :: p13 :: p14 :: p15 :: p16 :: p17 :: p18 :: R) := news_pick 12 rfl N
  have ap : ApartN 13 (p12 :: p0 :: p1 :: p2 :: p3 :: p4 :: p5 :: p6 :: p7 :: p8 :: p9 :: p10 :: p11 :: p13 :: p14 :: p15 :: p16 :: p17 :: p18 :: R) := ap.pick 12 rfl (by decide)
  have N : News h₀ L h (p11 :: p12 :: p0 :: p1 :: p2 :: p3 :: p4 :: p5 :: p6 :: p7 :: p8 :: p9 :: p10 :: p13 :: p14 :: p15 :: p16 :: p17 :: p18 :: R) := news_pick 12 rfl N
  have ap : ApartN 13 (p11 :: p12 :: p0 :: p1 :: p2 :: p3 :: p4 :: p5 :: p6 :: p7 :: p8 :: p9 :: p10 :: p13 :: p14 :: p15 :: p16 :: p17 :: p18 :: R) := ap.pick 12 rfl (by decide)
  have N : News h₀ L h (p0 :: p11 :: p12 :: p1 :: p2 :: p3 :: p4 :: p5 :: p6 :: p7 :: p8 :: p9 :: p10 :: p13 :: p14 :: p15 :: p16 :: p17 :: p18 :: R) := news_pick 2 rfl N
  have ap : ApartN 13 (p0 :: p11 :: p12 :: p1 :: p2 :: p3 :: p4 :: p5 :: p6 :: p7 :: p8 :: p9 :: p10 :: p13 :: p14 :: p15 :: p16 :: p17 :: p18 :: R) := ap.pick 2 rfl (by decide)
  have N : News h₀ L h (p10 :: p0 :: p11 :: p12 :: p1 :: p2 :: p3 :: p4 :: p5 :: p6 :: p7 :: p8 :: p9 :: p13 :: p14 :: p15 :: p16 :: p17 :: p18 :: R) := news_pick 12 rfl N
  have ap : ApartN 13 (p10 :: p0 :: p11 :: p12 :: p1 :: p2 :: p3 :: p4 :: p5 :: p6 :: p7 :: p8 :: p9 :: p13 :: p14 :: p15 :: p16 :: p17 :: p18 :: R) := ap.pick 12 rfl (by decide)
  have N : News h₀ L h (p9 :: p10 :: p0 :: p11 :: p12 :: p1 :: p2 :: p3 :: p4 :: p5 :: p6 :: p7 :: p8 :: p13 :: p14 :: p15 :: p16 :: p17 :: p18 :: R) := news_pick 12 rfl N
  have ap : ApartN 13 (p9 :: p10 :: p0 :: p11 :: p12 :: p1 :: p2 :: p3 :: p4 :: p5 :: p6 :: p7 :: p8 :: p13 :: p14 :: p15 :: p16 :: p17 :: p18 :: R) := ap.pick 12 rfl (by decide)
  have N : News h₀ L h (p8 :: p9 :: p10 :: p0 :: p11 :: p12 :: p1 :: p2 :: p3 :: p4 :: p5 :: p6 :: p7 :: p13 :: p14 :: p15 :: p16 :: p17 :: p18 :: R) := news_pick 12 rfl N
  have ap : ApartN 13 (p8 :: p9 :: p10 :: p0 :: p11 :: p12 :: p1 :: p2 :: p3 :: p4 :: p5 :: p6 :: p7 :: p13 :: p14 :: p15 :: p16 :: p17 :: p18 :: R) := ap.pick 12 rfl (by decide)
  have N : News h₀ L h (p7 :: p8 :: p9 :: p10 :: p0 :: p11 :: p12 :: p1 :: p2 :: p3 :: p4 :: p5 :: p6 :: p13 :: p14 :: p15 :: p16 :: p17 :: p18 :: R) := news_pick 12 rfl N
  have ap : ApartN 13 (p7 :: p8 :: p9 :: p10 :: p0 :: p11 :: p12 :: p1 :: p2 :: p3 :: p4 :: p5 :: p6 :: p13 :: p14 :: p15 :: p16 :: p17 :: p18 :: R) := ap.pick 12 rfl (by decide)
  have N : News h₀ L h (p6 :: p7 :: p8 :: p9 :: p10 :: p0 :: p11 :: p12 :: p1 :: p2 :: p3 :: p4 :: p5 :: p13 :: p14 :: p15 :: p16 :: p17 :: p18 :: R) := news_pick 12 rfl N
  have ap : ApartN 13 (p6 :: p7 :: p8 :: p9 :: p10 :: p0 :: p11 :: p12 :: p1 :: p2 :: p3 :: p4 :: p5 :: p13 :: p14 :: p15 :: p16 :: p17 :: p18 :: R) := ap.pick 12 rfl (by decide)
  have N : News h₀ L h (p5 :: p6 :: p7 :: p8 :: p9 :: p10 :: p0 :: p11 :: p12 :: p1 :: p2 :: p3 :: p4 :: p13 :: p14 :: p15 :: p16 :: p17 :: p18 :: R) := news_pick 12 rfl N
  have ap : ApartN 13 (p5 :: p6 :: p7 :: p8 :: p9 :: p10 :: p0 :: p11 :: p12 :: p1 :: p2 :: p3 :: p4 :: p13 :: p14 :: p15 :: p16 :: p17 :: p18 :: R) := ap.pick 12 rfl (by decide)
  have N : News h₀ L h (p4 :: p5 :: p6 :: p7 :: p8 :: p9 :: p10 :: p0 :: p11 :: p12 :: p1 :: p2 :: p3 :: p13 :: p14 :: p15 :: p16 :: p17 :: p18 :: R) := news_pick 12 rfl N
  have ap : ApartN 13 (p4 :: p5 :: p6 :: p7 :: p8 :: p9 :: p10 :: p0 :: p11 :: p12 :: p1 :: p2 :: p3 :: p13 :: p14 :: p15 :: p16 :: p17 :: p18 :: R) := ap.pick 12 rfl (by decide)
  have N : News h₀ L h (p3 :: p4 :: p5 :: p6 :: p7 :: p8 :: p9 :: p10 :: p0 :: p11 :: p12 :: p1 :: p2 :: p13 :: p14 :: p15 :: p16 :: p17 :: p18 :: R) := news_pick 12 rfl N
  have ap : ApartN 13 (p3 :: p4 :: p5 :: p6 :: p7 :: p8 :: p9 :: p10 :: p0 :: p11 :: p12 :: p1 :: p2 :: p13 :: p14 :: p15 :: p16 :: p17 :: p18 :: R) := ap.pick 12 rfl (by decide)
  have N : News h₀ L h (p2 :: p3 :: p4 :: p5 :: p6 :: p7 :: p8 :: p9 :: p10 :: p0 :: p11 :: p12 :: p1 :: p13 :: p14 :: p15 :: p16 :: p17 :: p18 :: R) := news_pick 12 rfl N
  have ap : ApartN 13 (p2 :: p3 :: p4 :: p5 :: p6 :: p7 :: p8 :: p9 :: p10 :: p0 :: p11 :: p12 :: p1 :: p13 :: p14 :: p15 :: p16 :: p17 :: p18 :: R) := ap.pick 12 rfl (by decide)
  have N : News h₀ L h (p1 :: p2 :: p3 :: p4 :: p5 :: p6 :: p7 :: p8 :: p9 :: p10 :: p0 :: p11 :: p12 :: p13 :: p14 :: p15 :: p16 :: p17 :: p18 :: R) := news_pick 12 rfl N
  have ap : ApartN 13 (p1 :: p2 :: p3 :: p4 :: p5 :: p6 :: p7 :: p8 :: p9 :: p10 :: p0 :: p11 :: p12 :: p13 :: p14 :: p15 :: p16 :: p17 :: p18 :: R) := ap.pick 12 rfl (by decide)
  exact ⟨N, ApartN.mono (by decide) ap⟩
end Mine
end
section
open PySem PySem.W PyProof.Rows PySem.Calls PyProof.V PySem.Spec
set_option maxRecDepth 100000
set_option maxHeartbeats 8000000
namespace Mine
theorem ord3 {h₀ h : Heap} {L : Addr} {p0 p1 p2 p3 p4 p5 p6 p7 p8 p9 p10 : Addr × Obj} (N : News h₀ L h [p0, p1, p2, p3, p4, p5, p6, p7, p8, p9, p10]) :
    News h₀ L h [p4, p3, p1, p10, p9, p7, p0, p2, p5, p6, p8] := by
  have N : News h₀ L h [p8, p0, p1, p2, p3, p4, p5, p6, p7, p9, p10] := news_pick 8 rfl N
  have N : News h₀ L h [p6, p8, p0, p1, p2, p3, p4, p5, p7, p9, p10] := news_pick 7 rfl N
  have N : News h₀ L h [p5, p6, p8, p0, p1, p2, p3, p4, p7, p9, p10] := news_pick 7 rfl N
  have N : News h₀ L h [p2, p5, p6, p8, p0, p1, p3, p4, p7, p9, p10] := news_pick 5 rfl N
  have N : News h₀ L h [p0, p2, p5, p6, p8, p1, p3, p4, p7, p9, p10] := news_pick 4 rfl N
  have N : News h₀ L h [p7, p0, p2, p5, p6, p8, p1, p3, p4, p9, p10] := news_pick 8 rfl N
  have N : News h₀ L h [p9, p7, p0, p2, p5, p6, p8, p1, p3, p4, p10] := news_pick 9 rfl N
  have N : News h₀ L h [p10, p9, p7, p0, p2, p5, p6, p8, p1, p3, p4] := news_pick 10 rfl N
  have N : News h₀ L h [p1, p10, p9, p7, p0, p2, p5, p6, p8, p3, p4] := news_pick 8 rfl N
  have N : News h₀ L h [p3, p1, p10, p9, p7, p0, p2, p5, p6, p8, p4] := news_pick 9 rfl N
  have N : News h₀ L h [p4, p3, p1, p10, p9, p7, p0, p2, p5, p6, p8] := news_pick 10 rfl N
  exact N
end Mine
end
section
open PySem PySem.W PyProof.Rows PySem.Calls PyProof.V PySem.Spec
set_option maxRecDepth 100000
set_option maxHeartbeats 8000000
namespace Mine
theorem sub_cons {a : Addr × Obj} {l t : List (Addr × Obj)} (h : a ∈ t) (k : ∀ p ∈ l, p ∈ t) : ∀ p ∈ a :: l, p ∈ t := fun p hp => by
  rcases List.mem_cons.mp hp with rfl | hp
  · exact h
  · exact k p hp
theorem sub_app {l m t : List (Addr × Obj)} (h : ∀ p ∈ l, p ∈ t) (k : ∀ p ∈ m, p ∈ t) : ∀ p ∈ l ++ m, p ∈ t := fun p hp => by
  rcases List.mem_append.mp hp with hp | hp
  · exact h p hp
  · exact k p hp
theorem ordU {h₀ h : Heap} {L x : Addr} {pU p1 p2 p3 p4 p5 p6 p7 p8 p9 p10 p11 p12 p13 : Addr × Obj} {R : List (Addr × Obj)} (hu : pU ∈ R) (N : News h₀ L h (p1 :: p2 :: p3 :: p4 :: p5 :: p6 :: p7 :: p8 :: p9 :: p10 :: p11 :: p12 :: p13 :: R)) :
    News h₀ L h (pU :: p1 :: p5 :: p6 :: p7 :: p2 :: p3 :: p4 :: p8 :: p9 :: p10 :: p11 :: p12 :: p13 :: dropA x R) := news_sub N fun p hp => by
  rcases List.mem_cons.mp hp with h | hp
  · rw [h]; exact .tail _ (.tail _ (.tail _ (.tail _ (.tail _ (.tail _ (.tail _ (.tail _ (.tail _ (.tail _ (.tail _ (.tail _ (.tail _ (hu)))))))))))))
  · simp only [List.mem_cons] at hp ⊢
    rcases hp with h | h | h | h | h | h | h | h | h | h | h | h | h | h
    all_goals first | (have h' := sub_dropA h; simp [h']) | simp [h]
theorem ordV {x : Addr} {p1 p2 p3 p4 p5 p6 p7 p8 p9 p10 p11 p12 p13 : Addr × Obj} {R : List (Addr × Obj)} (ap : ApartN 4 ([p1, p5, p6, p7] ++ (p2 :: p3 :: p4 :: p8 :: p9 :: p10 :: p11 :: p12 :: p13 :: R))) : ApartN 4 ([p1, p5, p6, p7] ++ (p2 :: p3 :: p4 :: p8 :: p9 :: p10 :: p11 :: p12 :: p13 :: dropA x R)) := ApartN.sub (n := 4) rfl ap fun p hp => by
  simp only [List.mem_cons] at hp ⊢
  rcases hp with h | h | h | h | h | h | h | h | h | h
  all_goals first | (have h' := sub_dropA h; simp [h']) | simp [h]
end Mine
end
section
open PySem PySem.W PyProof.Rows PySem.Calls PyProof.V PySem.Spec
set_option maxRecDepth 100000
set_option maxHeartbeats 8000000
namespace Mine
/-- the state of expunge_news at its loop's turn i: vo is the view's dict by its list of uids, T what the answers tell -/
inductive NewsF (w : World) (vo : Addr → Obj) (vw vd fd md al gl ul : Addr) (oG oU : Obj) (vu gone : List Int) (rest : List (Addr × Obj)) (T : Nat → List (Addr × Obj) → List Value → Prop)
    (i : Nat) (m₁ : Str → Option Value) (n₁ : List (Addr × Obj)) : Prop
  | mk (as : List Value) (ea : Nat) (ul1 : Addr) (zs : List Value) (nz : Nat) (o1' o2' : Obj) (kf' km' : List (Int × Value)) (tl : List (Addr × Obj)) (num : Option Value)
    (hn : n₁ = (al, listOf (List.toArray as) ea) :: (vd, vo ul1) :: (fd, o1') :: (md, o2') :: (tl ++ ((gl, oG) :: rest)))
    (oa : AllOff al tl) (ov : AllOff vd tl) (of : AllOff fd tl) (om : AllOff md tl) (fr : ∀ p, p ∈ tl → ∀ q, q ∈ (gl, oG) :: rest → p.1 ≠ q.1)
    (mul : (ul1, listOf (List.toArray zs) nz) ∈ (ul, oU) :: tl) (iz : IntsAre zs (vu.filter fun x => !(gone.take i).contains x))
    (D1 : o1'.IsDictOf (intKind PySem.Challenge.rw_nz0296_01.row.prog w) kf') (D2 : o2'.IsDictOf (intKind PySem.Challenge.rw_nz0296_01.row.prog w) km')
    (E1 : kf'.map (·.1) = (vu.filter fun x => !(gone.take i).contains x)) (E2 : km'.map (·.1) = (vu.filter fun x => !(gone.take i).contains x)) (td : T i tl as)
    (hm : m₁ = fun y => if y = Str.ofString "answers" then some (.ref al) else if y = Str.ofString "gone" then some (.ref gl) else if y = Str.ofString "uid" then num else if y = Str.ofString "view" then some (.ref vw) else none) :
    NewsF w vo vw vd fd md al gl ul oG oU vu gone rest T i m₁ n₁
theorem newsF_map0 {al gl vw : Addr} {f : Str → Option Value} (hf : f = fun y => if y = Str.ofString "answers" then some (Value.ref al) else if y = Str.ofString "gone" then some (.ref gl) else List.lookup y [(Str.ofString "view", Value.ref vw)]) :
    f = fun y => if y = Str.ofString "answers" then some (Value.ref al) else if y = Str.ofString "gone" then some (.ref gl) else if y = Str.ofString "uid" then none else if y = Str.ofString "view" then some (.ref vw) else none := by
  subst hf
  funext y
  by_cases z3 : y = Str.ofString "uid"
  · subst z3; rfl
  by_cases z4 : y = Str.ofString "view"
  · subst z4; rfl
  have : List.lookup y [(Str.ofString "view", Value.ref vw)] = none := by simp [List.lookup, beq_false_of_ne z4]
  rw [if_neg z3, if_neg z4, this]
theorem newsF_back {h₀ h : Heap} {L : Addr} {A V F M G : Addr × Obj} {tl rest : List (Addr × Obj)} (N : News h₀ L h (A :: V :: F :: M :: (tl ++ (G :: rest)))) :
    News h₀ L h (V :: F :: M :: ((A :: (tl ++ [G])) ++ rest)) := news_sub N fun p hp => by
  simp only [List.mem_cons, List.mem_append, List.not_mem_nil, or_false] at hp ⊢
  rcases hp with h | h | h | (h | h | h) | h <;> simp [h]
theorem newsF_far {al gl vd fd md : Addr} {oA oV o1 o2 oG : Obj} {tl rest : List (Addr × Obj)} (g1 : AllOff al ((vd, oV) :: (fd, o1) :: (md, o2) :: rest)) (g2 : AllOff gl ((vd, oV) :: (fd, o1) :: (md, o2) :: rest))
    (ov : AllOff vd tl) (of : AllOff fd tl) (om : AllOff md tl) (fr : ∀ p, p ∈ tl → ∀ q, q ∈ (gl, oG) :: rest → p.1 ≠ q.1) :
    ∀ p ∈ (al, oA) :: (tl ++ [(gl, oG)]), ∀ q ∈ (vd, oV) :: (fd, o1) :: (md, o2) :: rest, p.1 ≠ q.1 := fun p hp q hq => by
  rcases List.mem_cons.mp hp with rfl | hp
  · exact (AllOff.ne g1 q hq).symm
  rcases List.mem_append.mp hp with hp | hp
  · rcases List.mem_cons.mp hq with rfl | hq
    · exact AllOff.ne ov p hp
    rcases List.mem_cons.mp hq with rfl | hq
    · exact AllOff.ne of p hp
    rcases List.mem_cons.mp hq with rfl | hq
    · exact AllOff.ne om p hp
    · exact fr p hp q (.tail _ hq)
  · rw [List.mem_singleton.mp hp]; exact (AllOff.ne g2 q hq).symm
theorem newsF_back2 {h₀ h : Heap} {L : Addr} {X6 A V F M X5 E G : Addr × Obj} {led tl rest : List (Addr × Obj)} (N : News h₀ L h (X6 :: A :: V :: F :: M :: ((X5 :: led) ++ (E :: (tl ++ (G :: rest)))))) :
    News h₀ L h (V :: F :: M :: ((A :: X6 :: ((X5 :: led) ++ (E :: (tl ++ [G])))) ++ rest)) := news_sub N fun p hp => by
  simp only [List.mem_cons, List.mem_append, List.not_mem_nil, or_false] at hp ⊢
  rcases hp with h | h | h | (h | h | (h | h) | h | h | h) | h <;> simp [h]
theorem newsF_front2 {h₀ h : Heap} {L : Addr} {A V F M X5 E : Addr × Obj} {led r : List (Addr × Obj)} (N : News h₀ L h ((X5 :: led) ++ (E :: A :: V :: F :: M :: r))) :
    News h₀ L h (A :: V :: F :: M :: ((X5 :: led) ++ (E :: r))) := news_sub N fun p hp => by
  simp only [List.mem_cons, List.mem_append] at hp ⊢
  rcases hp with h | h | h | h | (h | h) | h | h <;> simp [h]
theorem newsF_far2 {al gl vd fd md T6 T5 e5 : Addr} {oA oA' oV oV' o1 o1' o2 o2' oG o6 o5 oe : Obj} {led tl rest : List (Addr × Obj)} (g1 : AllOff al ((vd, oV) :: (fd, o1) :: (md, o2) :: rest)) (g2 : AllOff gl ((vd, oV) :: (fd, o1) :: (md, o2) :: rest))
    (ov : AllOff vd tl) (of : AllOff fd tl) (om : AllOff md tl) (fr : ∀ p, p ∈ tl → ∀ q, q ∈ (gl, oG) :: rest → p.1 ≠ q.1)
    (a6 : @LT.lt Nat _ vd T6) (b6 : @LT.lt Nat _ fd T6) (c6 : @LT.lt Nat _ md T6) (oT6 : ∀ q ∈ ((T5, o5) :: led) ++ ((e5, oe) :: (tl ++ ((gl, oG) :: rest))), @LT.lt Nat _ q.1 T6)
    (a5 : @LT.lt Nat _ vd e5) (b5 : @LT.lt Nat _ fd e5) (c5 : @LT.lt Nat _ md e5) (oe5 : ∀ q ∈ tl ++ ((gl, oG) :: rest), @LT.lt Nat _ q.1 e5)
    (f7 : ∀ p ∈ (T5, o5) :: led, ∀ q ∈ (e5, oe) :: (al, oA') :: (vd, oV') :: (fd, o1') :: (md, o2') :: (tl ++ ((gl, oG) :: rest)), q.1 ≠ p.1) :
    ∀ p ∈ (al, oA) :: (T6, o6) :: (((T5, o5) :: led) ++ ((e5, oe) :: (tl ++ [(gl, oG)]))), ∀ q ∈ (vd, oV) :: (fd, o1) :: (md, o2) :: rest, p.1 ≠ q.1 := fun p hp q hq => by
  rcases List.mem_cons.mp hp with rfl | hp
  · exact (AllOff.ne g1 q hq).symm
  rcases List.mem_cons.mp hp with rfl | hp
  · rcases List.mem_cons.mp hq with rfl | hq
    · exact Nat.ne_of_gt a6
    rcases List.mem_cons.mp hq with rfl | hq
    · exact Nat.ne_of_gt b6
    rcases List.mem_cons.mp hq with rfl | hq
    · exact Nat.ne_of_gt c6
    · exact Nat.ne_of_gt (oT6 q (List.mem_append_right _ (.tail _ (List.mem_append_right _ (.tail _ hq)))))
  rcases List.mem_append.mp hp with hp | hp
  · have f8 := f7 p hp
    rcases List.mem_cons.mp hq with rfl | hq
    · exact (f8 (vd, _) (.tail _ (.tail _ (.head _)))).symm
    rcases List.mem_cons.mp hq with rfl | hq
    · exact (f8 (fd, _) (.tail _ (.tail _ (.tail _ (.head _))))).symm
    rcases List.mem_cons.mp hq with rfl | hq
    · exact (f8 (md, _) (.tail _ (.tail _ (.tail _ (.tail _ (.head _)))))).symm
    · exact (f8 q (.tail _ (.tail _ (.tail _ (.tail _ (.tail _ (List.mem_append_right _ (.tail _ hq)))))))).symm
  rcases List.mem_cons.mp hp with rfl | hp
  · rcases List.mem_cons.mp hq with rfl | hq
    · exact Nat.ne_of_gt a5
    rcases List.mem_cons.mp hq with rfl | hq
    · exact Nat.ne_of_gt b5
    rcases List.mem_cons.mp hq with rfl | hq
    · exact Nat.ne_of_gt c5
    · exact Nat.ne_of_gt (oe5 q (List.mem_append_right _ (.tail _ hq)))
  rcases List.mem_append.mp hp with hp | hp
  · rcases List.mem_cons.mp hq with rfl | hq
    · exact AllOff.ne ov p hp
    rcases List.mem_cons.mp hq with rfl | hq
    · exact AllOff.ne of p hp
    rcases List.mem_cons.mp hq with rfl | hq
    · exact AllOff.ne om p hp
    · exact fr p hp q (.tail _ hq)
  · rw [List.mem_singleton.mp hp]; exact (AllOff.ne g2 q hq).symm
end Mine
end
section
open PySem PySem.W PyProof.Rows
set_option maxRecDepth 100000
set_option maxHeartbeats 8000000
namespace Mine
/-- the last def of a text: its body, its scope -/
noncomputable def lastBody : List Stmt → List Stmt
  | [] => []
  | .FunctionDef _ _ b _ _ _ _ _ _ _ :: [] => b
  | _ :: r => lastBody r
noncomputable def lastScope : List Stmt → Scope
  | [] => default
  | .FunctionDef _ _ _ _ _ _ sc _ _ _ :: [] => sc
  | _ :: r => lastScope r
noncomputable def forBody : Stmt → List Stmt
  | .For _ _ b _ _ => b
  | _ => []
noncomputable abbrev lawStmts : List Stmt := lastBody PySem.Challenge.pw_nz0296_01.main.body
noncomputable abbrev lawScope : Scope := lastScope PySem.Challenge.pw_nz0296_01.main.body
noncomputable abbrev lapStmts : List Stmt := forBody (lawStmts.getD 6 default)
end Mine
end
section
namespace Mine
local macro_rules | `(tactic| k_all) => `(tactic| first | assumption | exact AllOff.ne (by assumption) | exact off_of_lt (by assumption) (by omega))
local macro_rules | `(tactic| k_ne) => `(tactic| (refine neN ?_; (try dsimp only); first | exact NeA.l (by assumption) | exact NeA.r (by assumption) | omega))
local macro_rules | `(tactic| k_mem) => `(tactic| assumption)
local macro_rules | `(tactic| news_mem) => `(tactic| k_mem)
local macro_rules | `(tactic| k_room) => `(tactic| ((try simp only [depth_under_make, depth_under_kw, depth_in1, depth_deeper]); (try dsimp only [ktrTop]); omega))
local macro_rules | `(tactic| ktr_room) => `(tactic| ((try simp only [depth_under_make, depth_under_kw, depth_in1, depth_deeper]); (try dsimp only [ktrTop]); omega))
local macro_rules | `(tactic| k_units) => `(tactic| first | ((try simp only [units_in1, units_deeper, Around.mark_units]); (try dsimp only [ktrTop]); omega) | ((try simp only [units_in1, units_deeper, Around.mark_units]); refine Nat.lt_of_le_of_lt (Nat.add_le_add_right (Nat.add_le_add_right units_make _) _) ?_; (try dsimp only [ktrTop]); omega))
local macro_rules | `(tactic| walk_at "enterP") => `(tactic| (first
  | (refine' code_defP ?k1 ?k2 ?k3 ?k5 ?kA ?kF ?kK ?k6 ?k7 ?k8 ?k9 ?kB ?_ ?c2 ?c3 ?c4 ?c5; (case kA => exact rfl); (case kF => exact rfl); (case kK => assumption); (case k1 => k_asm); (case k2 => k_asm); (case k3 => k_asm); (case k5 => k_asm); (case k6 => k_is); (case k7 => k_is); (case k8 => ktr_room); (case k9 => exact BindsTo.of_eq rfl); (case c5 => decide); (case kB => exact locs rfl); (case c2 => exact rfl); (case c3 => exact rfl); (case c4 => exact rfl); k_whole; intro g' L' h' FG' F' N' B' X' T' st')
  | (refine' code_defCP ?k1 ?k2 ?k3 ?k5 ?kA ?kF ?kK ?k6 ?k7 ?k8 ?k9 ?kB ?kD ?_ ?c2 ?c3 ?c4; (case kA => exact rfl); (case kF => exact rfl); (case kK => assumption); (case k1 => k_asm); (case k2 => k_asm); (case k3 => k_asm); (case k5 => k_asm); (case k6 => k_is); (case k7 => k_is); (case k8 => ktr_room); (case k9 => exact BindsTo.of_eq rfl); (case kB => exact rfl); (case kD => decide +kernel); (case c2 => exact rfl); (case c3 => exact rfl); (case c4 => exact rfl); k_whole; intro g' L' h' tk' cells' FG' F' N' Y' B' X' T' st'; k_cells Y'; (try simp only [List.cons_append, List.nil_append] at N'))))
local macro_rules | `(tactic| walk_at "enterW") => `(tactic| (first
  | (refine' code_def ?k1 ?k2 ?k3 ?k4 ?k5 ?kA ?kF ?kK ?k6 ?k7 ?k8 ?k9 ?kB ?_ ?c2 ?c3 ?c4 ?c5; (case kA => exact rfl); (case kF => exact rfl); (case kK => assumption); (case k1 => k_asm); (case k2 => k_asm); (case k3 => k_asm); (case k4 => k_asm); (case k5 => k_asm); (case k6 => k_is); (case k7 => k_is); (case k8 => ktr_room); (case k9 => first | exact BindsTo.of_eq rfl | exact binds_K (by k_in) rfl (by k_is) rfl rfl rfl); (case c5 => decide); (case kB => exact locs rfl); (case c2 => exact rfl); (case c3 => exact rfl); (case c4 => exact rfl); k_whole; intro g' L' h' FG' F' N' B' X' T'; (try dsimp only); (try k_fold))
  | (refine' code_defC ?k1 ?k2 ?k3 ?k4 ?k5 ?kA ?kF ?kK ?k6 ?k7 ?k8 ?k9 ?kB ?kD ?_ ?c2 ?c3 ?c4; (case kA => exact rfl); (case kF => exact rfl); (case kK => assumption); (case k1 => k_asm); (case k2 => k_asm); (case k3 => k_asm); (case k4 => k_asm); (case k5 => k_asm); (case k6 => k_is); (case k7 => k_is); (case k8 => ktr_room); (case k9 => first | exact BindsTo.of_eq rfl | exact binds_K (by k_in) rfl (by k_is) rfl rfl rfl); (case kB => exact rfl); (case kD => decide +kernel); (case c2 => exact rfl); (case c3 => exact rfl); (case c4 => exact rfl); k_whole; intro g' L' h' tk' cells' FG' F' N' Y' B' X' T' l1; (try k_lt l1); k_cells Y'; (try simp only [List.cons_append, List.nil_append] at N'); (try dsimp only); (try k_fold))))
local macro_rules | `(tactic| k_inst) => `(tactic| (refine' instAt_base ?F ?a ?b; (case F => k_asm); (case a => assumption); (case b => assumption)))
local macro_rules | `(tactic| walk_at "offs") => `(tactic| ((rename AllOff _ _ => oX); (try simp only [AllOff] at oX); (repeat (obtain ⟨_, oX⟩ := oX))))
local macro_rules | `(tactic| walk_at "sides") => `(tactic| (all_goals (try (first | (with_unfolding_all rfl) | decide | (intro _; with_unfolding_all rfl)))))
local macro_rules | `(tactic| walk_at "forName") => `(tactic| (refine Stop.mk ?_; (rename Fr _ _ _ _ => lF'); (with_unfolding_all refine' For_invVF lF' ?k1 ?k2 ?_; (case k1 => exact rfl); (case k2 => exact rfl)); walk1))
local macro_rules | `(tactic| walk_at "turnEnd") => `(tactic| (refine' TurnOut.intro _ ?F ?N ?o ?_; (case F => k_asm); (case N => k_asm); (case o => (refine AllOff.ne ?_; (try dsimp only [AllOff]); (repeat' (first | exact trivial | refine And.intro ?_ ?_ | assumption | exact NeA.l (by assumption) | exact NeA.r (by assumption) | (show @Ne Nat _ _; omega)))))))
local macro_rules | `(tactic| walk_at "sub") => `(tactic| first | (refine sub_cons ?sA ?sB; (case sA => walk_at "subMem"); (case sB => walk_at "sub")) | (refine sub_app ?sA ?sB; (case sA => walk_at "sub"); (case sB => walk_at "sub")) | (intro p9 h9; walk_at "subMem"))
local macro_rules | `(tactic| walk_at "subMem") => `(tactic| first | assumption | exact List.Mem.head _ | (refine List.Mem.tail _ ?_; walk_at "subMem") | (refine List.mem_append.mpr (.inl ?_); walk_at "subMem") | (refine List.mem_append.mpr (.inr ?_); walk_at "subMem"))
theorem zC1 {M : Model} {A : Around} {env : Env} {p : Pos} {Q : Flow → Shared → Prop} {E : Value → Shared → Prop} {s : Shared} (h : wpAny M A (exec (.Pass p) env) Q E s) : wpAny M A (exec (.Pass p) env) Q E s := by
  w_top off
  first | (walk1; fail "z") | exact h
section
variable {w : World} {mean : ExcName → Option Value} {mg mb : Str → Option Value} {dp un : Nat} {gd : Option (List Code)} {cn : Str} {cs : Scope} {a : Addr} {ccd : Value} {cl : List (Str × Addr)} {outer : List Env} {A₀ : Around} {base h₀ : Heap} {L : Addr} {m : Str → Option Value} {s : Shared} {Q E : Value → Shared → Prop} {rest news : List (Addr × Obj)}
  (B : Below A₀ base outer h₀) (F : Fr h₀ L s.heap m) (X : (hd.heap_1 w.params).In h₀) (T : Top Mine.lawView (looseW Mine.lawView [Str.ofString "PostError"]) mean mg mb h₀) (hk : cs.kind = .function)
  (hdp : dp + 3 < recursionLimit) (hu : un + 100 < cLine)
include B F X T hk hdp hu
theorem draw_call {pa ca : Addr} {vs : List Value} {ns : List Int} {i z many : Int} {ti tz tm : Tok} {n n' : Nat}
    (N : News h₀ L s.heap ((pa, listOf [.ref ca, .int i ti, .int z tz].toArray n) :: rest))
    (hoff : ∀ p ∈ rest, p.1 ≠ pa) (hc : (ca, listOf vs.toArray n') ∈ rest) (hi : IntsAre vs ns) (hlen : ns.length ≤ 63) (hi0 : 0 ≤ i) (hi1 : i ≤ 1000) (hz0 : 0 ≤ z) (hz1 : z < 997) (hm0 : 0 < many) (hm1 : many ≤ 1000)
    (hret : ∀ r t ti' h' tk', Fr h₀ L h' m → News h₀ L h' ((pa, listOf [.ref ca, .int (i + 1) ti', .int z tz].toArray n) :: rest) → 0 ≤ r → r < many → Q (.int r t) { s with heap := h', toks := tk' }) :
    wpAny (model PySem.Challenge.rw_nz0296_01.row.prog w) (ktrTop dp un gd cn cs L a ccd cl outer) (call (.ref 279) [.ref pa, .int many tm]) Q E s := by
  revert X; k_fill; intro X
  refine wpAny_call ?_
  k_dflt ktr_enter
  k_steps
  all_goals exact hret _ _ _ _ _ (by assumption) (by assumption) (Int.fmod_nonneg_of_pos _ hm0) (Int.fmod_lt_of_pos _ hm0)
end
theorem zC2 {M : Model} {A : Around} {env : Env} {p : Pos} {Q : Flow → Shared → Prop} {E : Value → Shared → Prop} {s : Shared} (h : wpAny M A (exec (.Pass p) env) Q E s) : wpAny M A (exec (.Pass p) env) Q E s := by
  w_top off
  first | (walk1; fail "z") | exact h
section
variable {w : World} {mean : ExcName → Option Value} {mg mb : Str → Option Value} {dp un : Nat} {gd : Option (List Code)} {cn : Str} {cs : Scope} {a : Addr} {ccd : Value} {cl : List (Str × Addr)} {outer : List Env} {A₀ : Around} {base h₀ : Heap} {L : Addr} {m : Str → Option Value} {s : Shared} {Q E : Value → Shared → Prop} {rest news : List (Addr × Obj)}
  (B : Below A₀ base outer h₀) (F : Fr h₀ L s.heap m) (X : (hd.heap_1 w.params).In h₀) (T : Top Mine.lawView (looseW Mine.lawView [Str.ofString "PostError"]) mean mg mb h₀) (hk : cs.kind = .function)
  (hdp : dp + 3 < recursionLimit) (hu : un + 100 < cLine)
include B F X T hk hdp hu
local macro_rules | `(tactic| walk_at "exec For") => `(tactic| ((with_reducible show wpAny _ _ (exec (Stmt.For _ _ _ _ _) _) _ _ _); refine Stop.out ?_))
theorem is_keyword_x {t : Tok}
    (hret : ∀ h' tk', Fr h₀ L h' m → s.heap.StaysIn h' → Q (.bool true) { s with heap := h', toks := tk' }) :
    wpAny (model PySem.Challenge.rw_nz0296_01.row.prog w) (ktrTop dp un gd cn cs L a ccd cl outer) (call (.ref 159) [.str (Str.ofString "x") t]) Q E s := by
  revert X; k_fill; intro X
  refine wpAny_call ?_
  k_dflt (walk_at "enterP")
  (try dsimp only)
  (try k_fold)
  k_steps
  refine Stop.mk ?_
  rename Fr _ _ _ _ => lF
  rename News _ _ _ _ => lN
  with_unfolding_all refine' For_invVF lF ?k1 ?k2 ?_
  (case k1 => exact rfl)
  (case k2 => exact rfl)
  k_dflt (refine' ld lF ?k2 ?_; (case k2 => exact rfl))
  k_dflt (refine' unr_str1 (c := 120) (by decide +kernel) (by decide) (by rfl) lF lN ?_)
  intro u9 h9 tk9 I9 oI9 off9 F9 N9
  clear lF lN
  k_steps
  · refine TurnOut.intro [] F9 N9 (fun _ h => nomatch h) ⟨trivial, ?_⟩
    intro h tk F1 N1
    clear F9 N9
    k_steps
    exact hret _ _ (by assumption) (by assumption)
  · rename (List.isEmpty _ = false) => hx
    exact absurd hx (by decide +kernel)
end
theorem zC3 {M : Model} {A : Around} {env : Env} {p : Pos} {Q : Flow → Shared → Prop} {E : Value → Shared → Prop} {s : Shared} (h : wpAny M A (exec (.Pass p) env) Q E s) : wpAny M A (exec (.Pass p) env) Q E s := by
  w_top off
  first | (walk1; fail "z") | exact h
section
variable {w : World} {mean : ExcName → Option Value} {mg mb : Str → Option Value} {dp un : Nat} {gd : Option (List Code)} {cn : Str} {cs : Scope} {a : Addr} {ccd : Value} {cl : List (Str × Addr)} {outer : List Env} {A₀ : Around} {base h₀ : Heap} {L : Addr} {m : Str → Option Value} {s : Shared} {Q E : Value → Shared → Prop} {rest news : List (Addr × Obj)}
  (B : Below A₀ base outer h₀) (F : Fr h₀ L s.heap m) (X : (hd.heap_1 w.params).In h₀) (T : Top Mine.lawView (looseW Mine.lawView [Str.ofString "PostError"]) mean mg mb h₀) (hk : cs.kind = .function)
  (hdp : dp + 6 < recursionLimit) (hu : un + 120 < cLine)
include B F X T hk hdp hu
local macro_rules | `(tactic| walk_at "call ref") => `(tactic| (k_here; (with_reducible show wpAny _ _ (call (Value.ref 159) _) _ _ _); k_dflt (refine' is_keyword_x ?cB ?cF ?cX ?cT ?ck ?cd ?cu  ?_; (case cB => k_asm); (case cF => k_asm); (case cX => k_asm); (case cT => k_asm); (case ck => first | exact rfl | assumption); (case cd => ktr_room); (case cu => k_units);  k_whole); intro h9 tk9 F9 st9; (rename News _ _ _ _ => kN9); (k_dflt have N9 := News.grown kN9 st9); clear kN9 st9; (try k_sweep); (try dsimp only); (try k_fold)))
theorem flag_name_x {t : Tok}
    (hret : ∀ t' h' tk', Fr h₀ L h' m → s.heap.StaysIn h' → Q (.str (Str.ofString "x") t') { s with heap := h', toks := tk' }) :
    wpAny (model PySem.Challenge.rw_nz0296_01.row.prog w) (ktrTop dp un gd cn cs L a ccd cl outer) (call (.ref 166) [.str (Str.ofString "x") t]) Q E s := by
  revert X; k_fill; intro X
  refine wpAny_call ?_
  k_dflt (walk_at "enterP")
  (try dsimp only)
  (try k_fold)
  k_steps
  exact hret _ _ _ (by assumption) (by assumption)
end
theorem zC4 {M : Model} {A : Around} {env : Env} {p : Pos} {Q : Flow → Shared → Prop} {E : Value → Shared → Prop} {s : Shared} (h : wpAny M A (exec (.Pass p) env) Q E s) : wpAny M A (exec (.Pass p) env) Q E s := by
  w_top off
  first | (walk1; fail "z") | exact h
section
variable {w : World} {mean : ExcName → Option Value} {mg mb : Str → Option Value} {dp un : Nat} {gd : Option (List Code)} {cn : Str} {cs : Scope} {a : Addr} {ccd : Value} {cl : List (Str × Addr)} {outer : List Env} {A₀ : Around} {base h₀ : Heap} {L : Addr} {m : Str → Option Value} {s : Shared} {Q E : Value → Shared → Prop} {rest news : List (Addr × Obj)}
  (B : Below A₀ base outer h₀) (F : Fr h₀ L s.heap m) (X : (hd.heap_1 w.params).In h₀) (T : Top Mine.lawView (looseW Mine.lawView [Str.ofString "PostError"]) mean mg mb h₀) (hk : cs.kind = .function)
  (hdp : dp + 9 < recursionLimit) (hu : un + 140 < cLine)
include B F X T hk hdp hu
local macro_rules | `(tactic| walk_at "call ref") => `(tactic| (k_here; (with_reducible show wpAny _ _ (call (Value.ref 166) _) _ _ _); k_dflt (refine' flag_name_x ?cB ?cF ?cX ?cT ?ck ?cd ?cu  ?_; (case cB => k_asm); (case cF => k_asm); (case cX => k_asm); (case cT => k_asm); (case ck => first | exact rfl | assumption); (case cd => ktr_room); (case cu => k_units);  k_whole); intro t9 h9 tk9 F9 st9; (rename News _ _ _ _ => kN9); (k_dflt have N9 := News.grown kN9 st9); clear kN9 st9; (try k_sweep); (try dsimp only); (try k_fold)))
local macro_rules | `(tactic| walk_at "exec For Name Name cons nil") => `(tactic| ((with_reducible show wpAny _ _ (exec (Stmt.For _ _ _ _ _) _) _ _ _); refine Stop.out ?_))
theorem flag_tuple_x {ta : Addr} {t : Tok}
    (hc : IsTup s.heap ta [.str (Str.ofString "x") t].toArray)
    (hret : ∀ r t' h' tk', Fr h₀ L h' m → s.heap.StaysIn h' → s.heap.get? r = none → News h₀ L h' [(r, ({ cls := .type "tuple", data := .seq [.str (Str.ofString "x") t'].toArray } : Obj))] → Q (.ref r) { s with heap := h', toks := tk' }) :
    wpAny (model PySem.Challenge.rw_nz0296_01.row.prog w) (ktrTop dp un gd cn cs L a ccd cl outer) (call (.ref 173) [.ref ta]) Q E s := by
  revert X; k_fill; intro X
  refine wpAny_call ?_
  k_dflt (walk_at "enterP")
  rename Heap.StaysIn _ _ => st9
  have hT := IsTup.keeps hc st9
  clear hc
  (try dsimp only)
  (try k_fold)
  k_steps
  walk_at "forName"
  k_dflt (refine' unr_tupB (by rfl) hT (by k_asm) (by k_asm) ?_)
  intro h9 tk9 I9 oI9 off9 F9 N9
  replace off9 := allNe_of off9; simp only [AllNe, and_true] at off9
  (try dsimp only at N9)
  k_steps
  walk_at "turnEnd"
  refine ⟨trivial, ?_⟩
  clear hT
  intro h1 tk1 F1 N1
  k_steps
  rename Fr _ _ _ _ => lF
  rename News _ _ _ _ => lN
  obtain ⟨t8, lN⟩ : ∃ t8, News _ _ _ [(_, listOf [Value.str (Str.ofString "x") t8].toArray 1)] := ⟨_, lN⟩
  k_dflt (refine' sorted_N_str (vs := [.str (Str.ofString "x") t8]) (ss := [Str.ofString "x"]) lF lN ?a ?b ?c ?_; (case a => exact lN.isList (.head _)); (case b => exact .cons _ _ .nil); (case c => simp))
  intro h2 vs2 ss2 e2 F2 N2 hS2 hp2 hs2
  have hss : ss2 = [Str.ofString "x"] := List.perm_singleton.mp hp2
  subst hss
  obtain ⟨t2, rfl⟩ : ∃ t2, vs2 = [.str (Str.ofString "x") t2] := by
    cases hS2 with
    | cons _ t r => cases r; exact ⟨_, rfl⟩
  clear hS2 hp2 hs2 lF lN
  k_steps
  exact hret _ _ _ _ (by assumption) (by assumption) (none_of_new st9 (by assumption) (.head _)) (fun p hp => by rw [List.mem_singleton.mp hp]; exact (by assumption : News _ _ _ _) _ (.head _))
end
theorem zC5 {M : Model} {A : Around} {env : Env} {p : Pos} {Q : Flow → Shared → Prop} {E : Value → Shared → Prop} {s : Shared} (h : wpAny M A (exec (.Pass p) env) Q E s) : wpAny M A (exec (.Pass p) env) Q E s := by
  w_top off
  first | (walk1; fail "z") | exact h
section
variable {w : World} {mean : ExcName → Option Value} {mg mb : Str → Option Value} {dp un : Nat} {gd : Option (List Code)} {cn : Str} {cs : Scope} {a : Addr} {ccd : Value} {cl : List (Str × Addr)} {outer : List Env} {A₀ : Around} {base h₀ : Heap} {L : Addr} {m : Str → Option Value} {s : Shared} {Q E : Value → Shared → Prop} {rest news : List (Addr × Obj)}
  (B : Below A₀ base outer h₀) (F : Fr h₀ L s.heap m) (X : (hd.heap_1 w.params).In h₀) (T : Top Mine.lawView (looseW Mine.lawView [Str.ofString "PostError"]) mean mg mb h₀) (hk : cs.kind = .function)
  (hdp : dp + 9 < recursionLimit) (hu : un + 140 < cLine)
include B F X T hk hdp hu
local macro_rules | `(tactic| walk_at "exec For Name Name cons nil") => `(tactic| ((with_reducible show wpAny _ _ (exec (Stmt.For _ _ _ _ _) _) _ _ _); refine Stop.out ?_))
theorem flag_tuple_nil {ta : Addr}
    (hc : IsTup s.heap ta [].toArray)
    (hret : ∀ r h' tk', Fr h₀ L h' m → s.heap.StaysIn h' → s.heap.get? r = none → News h₀ L h' [(r, ({ cls := .type "tuple", data := .seq [].toArray } : Obj))] → Q (.ref r) { s with heap := h', toks := tk' }) :
    wpAny (model PySem.Challenge.rw_nz0296_01.row.prog w) (ktrTop dp un gd cn cs L a ccd cl outer) (call (.ref 173) [.ref ta]) Q E s := by
  revert X; k_fill; intro X
  refine wpAny_call ?_
  k_dflt (walk_at "enterP")
  rename Heap.StaysIn _ _ => st9
  have hT := IsTup.keeps hc st9
  clear hc
  (try dsimp only)
  (try k_fold)
  k_steps
  walk_at "forName"
  k_dflt (refine' unr_tupB (by rfl) hT (by k_asm) (by k_asm) ?_)
  clear hT
  intro h1 tk1 F1 N1
  k_steps
  rename List.Perm _ _ => pX
  rename IntsAre _ _ => iX
  have hnx := List.perm_nil.mp pX
  subst hnx
  cases iX
  exact hret _ _ _ (by assumption) (by assumption) (none_of_new st9 (by assumption) (.head _)) (fun p hp => by rw [List.mem_singleton.mp hp]; exact (by assumption : News h₀ _ _ _) _ (.head _))
theorem flag_tuple_any {ta : Addr} {its : List Value} (hits : its = [] ∨ ∃ t, its = [.str (Str.ofString "x") t])
    (hc : IsTup s.heap ta its.toArray)
    (hret : ∀ r its' h' tk', Fr h₀ L h' m → s.heap.StaysIn h' → s.heap.get? r = none → News h₀ L h' [(r, ({ cls := .type "tuple", data := .seq (List.toArray its') } : Obj))] → Q (.ref r) { s with heap := h', toks := tk' }) :
    wpAny (model PySem.Challenge.rw_nz0296_01.row.prog w) (ktrTop dp un gd cn cs L a ccd cl outer) (call (.ref 173) [.ref ta]) Q E s := by
  rcases hits with rfl | ⟨t, rfl⟩
  · exact flag_tuple_nil B F X T hk hdp hu hc fun r h' tk' a b c d => hret r _ h' tk' a b c d
  · exact flag_tuple_x B F X T hk hdp hu hc fun r t' h' tk' a b c d => hret r _ h' tk' a b c d
end
theorem zC6 {M : Model} {A : Around} {env : Env} {p : Pos} {Q : Flow → Shared → Prop} {E : Value → Shared → Prop} {s : Shared} (h : wpAny M A (exec (.Pass p) env) Q E s) : wpAny M A (exec (.Pass p) env) Q E s := by
  w_top off
  first | (walk1; fail "z") | exact h
section
variable {w : World} {mean : ExcName → Option Value} {mg mb : Str → Option Value} {dp un : Nat} {gd : Option (List Code)} {cn : Str} {cs : Scope} {a : Addr} {ccd : Value} {cl : List (Str × Addr)} {outer : List Env} {A₀ : Around} {base h₀ : Heap} {L : Addr} {m : Str → Option Value} {s : Shared} {Q E : Value → Shared → Prop} {rest news : List (Addr × Obj)}
  (B : Below A₀ base outer h₀) (F : Fr h₀ L s.heap m) (X : (hd.heap_1 w.params).In h₀) (T : Top Mine.lawView (looseW Mine.lawView [Str.ofString "PostError"]) mean mg mb h₀) (hk : cs.kind = .function)
  (hdp : dp + 12 < recursionLimit) (hu : un + 160 < cLine)
include B F X T hk hdp hu
local macro_rules | `(tactic| walk_at "call ref") => `(tactic| (k_here; (with_reducible show wpAny _ _ (call (Value.ref 173) _) _ _ _); k_dflt (refine' flag_tuple_any ?cB ?cF ?cX ?cT ?ck ?cd ?cu ?ch ?ci ?_; (case cB => k_asm); (case cF => k_asm); (case cX => k_asm); (case cT => k_asm); (case ck => first | exact rfl | assumption); (case cd => ktr_room); (case cu => k_units); (case ch => assumption); (case ci => exact News.isTup (by k_asm) (by k_mem)); k_whole); intro r9 its9 h9 tk9 F9 st9 fr9 n9; (rename News _ _ _ (_ :: _ :: _) => kN9); (k_dflt have o9 := allNe_of (off_of_none kN9 fr9)); (k_dflt have N9 := News.append n9 (News.grown kN9 st9)); clear fr9; (simp only [AllNe, and_true] at o9); clear kN9 n9 st9; (try k_sweep); (try dsimp only at N9); (try dsimp only); (try k_fold)))
theorem add_letter_call {bx bd la ga ta : Addr} {its vs : List Value} {oct ins nm vl fl : Value} {nu tp : Int} {tn tt k0 k1 k2 k3 k4 k5 k6 : Tok} {e : Nat}
    (N : News h₀ L s.heap ((bd, dictOf (boxD w.params k0 k1 k2 k3 k4 k5 k6 nm vl (.int nu tn) (.int tp tt) fl la ga) 7) :: (la, listOf vs.toArray e) :: rest))
    (hne : bd ≠ la) (o1 : ∀ p ∈ rest, p.1 ≠ bd) (o2 : ∀ p ∈ rest, p.1 ≠ la)
    (hbx : (bx, instObj 242 bd) ∈ rest) (hta : (ta, ({ cls := .type "tuple", data := .seq its.toArray } : Obj)) ∈ rest) (hits : its = [] ∨ ∃ t, its = [.str (Str.ofString "x") t])
    (hvs : vs.length ≤ 1000)
    (hret : ∀ x dx fa tn' tt' tu tm q0 q1 q2 q3 q4 h' tk', Fr h₀ L h' m →
      News h₀ L h' ((x, instObj 204 dx) :: (dx, dictOf (letD w.params q0 q1 q2 q3 q4 (.int nu tu) oct (.ref fa) ins (.int (tp + 1) tm)) 5) :: (bd, dictOf (boxD w.params k0 k1 k2 k3 k4 k5 k6 nm vl (.int (nu + 1) tn') (.int (tp + 1) tt') fl la ga) 7) :: (la, listOf (vs ++ [Value.ref x]).toArray (e + 1)) :: rest) →
      dx < x → (∀ p ∈ (bd, dictOf (boxD w.params k0 k1 k2 k3 k4 k5 k6 nm vl (.int nu tn) (.int tp tt) fl la ga) 7) :: (la, listOf vs.toArray e) :: rest, p.1 < dx) → Q (.ref x) { s with heap := h', toks := tk' }) :
    wpAny (model PySem.Challenge.rw_nz0296_01.row.prog w) (ktrTop dp un gd cn cs L a ccd cl outer) (call (.ref 267) [.ref bx, oct, .ref ta, ins]) Q E s := by
  replace hne := neN hne
  revert X; k_fill; intro X
  refine wpAny_call ?_
  k_dflt ktr_enter
  k_steps
  rename News h₀ L _ _ => lN
  simp only [List.push_toArray] at lN
  rename Fr h₀ L _ _ => lF
  rename (@LT.lt Nat _ _ _ ∧ _) => ll
  rename (@LT.lt Nat _ _ _) => l2
  exact hret _ _ _ _ _ _ _ _ _ _ _ _ _ _ lF (news_drop2 lN) l2 (of_allLt ll.2)
end
theorem zE1 {M : Model} {A : Around} {env : Env} {p : Pos} {Q : Flow → Shared → Prop} {E : Value → Shared → Prop} {s : Shared} (h : wpAny M A (exec (.Pass p) env) Q E s) : wpAny M A (exec (.Pass p) env) Q E s := by
  w_top off
  first | (walk1; fail "z") | exact h
section
variable {w : World} {mean : ExcName → Option Value} {mg mb : Str → Option Value} {dp un : Nat} {gd : Option (List Code)} {cn : Str} {cs : Scope} {a : Addr} {ccd : Value} {cl : List (Str × Addr)} {outer : List Env} {A₀ : Around} {base h₀ : Heap} {L : Addr} {m : Str → Option Value} {s : Shared} {Q E : Value → Shared → Prop} {rest news : List (Addr × Obj)}
  (B : Below A₀ base outer h₀) (F : Fr h₀ L s.heap m) (X : (hd.heap_1 w.params).In h₀) (T : Top Mine.lawView (looseW Mine.lawView [Str.ofString "PostError"]) mean mg mb h₀) (hk : cs.kind = .function)
  (hdp : dp + 6 < recursionLimit) (hu : un + 120 < cLine)
include B F X T hk hdp hu
omit B F X T hk hdp hu in
theorem letter_uid {v : Value} {u : Int} {s : Shared} {A : Around} {expr : Bool} (X : (hd.heap_1 w.params).In s.heap) (hL : LetterAt w.params s.heap v u)
    (h : ∀ t, Q (.int u t) { s with toks := s.toks + 1 }) : wpAny (model PySem.Challenge.rw_nz0296_01.row.prog w) A (getAttr v (Str.ofString "uid") expr) Q E s := by
  obtain ⟨x, dx, k0, k1, k2, k3, k4, tu, tm, oct, fa, ins, ms, rfl, ha, hb⟩ := hL
  revert X; k_fill; intro X
  k_dflt (refine' get_value (v := .int u tu) (C := 204) (od := some (dictOf (letD w.params k0 k1 k2 k3 k4 (.int u tu) oct (.ref fa) ins (.int ms tm)) 5)) X ⟨ha, rfl, rfl, hb⟩ (plainGet_of (K := hd.heap_1 w.params) (C := 204) (name := Str.ofString "uid") ?g).1 (findObj_own (K := hd.heap_1 w.params) ?a ?b ?c ?d) ?e (h _); (case g => k_is); (case a => k_is); (case b => k_is); (case c => k_is); (case d => (rw [lookIn_dict]; k_get)); (case e => k_handed))
omit B F X T hk hdp hu in
theorem letter_flags {v : Value} {u : Int} {s : Shared} {A : Around} {expr : Bool} (X : (hd.heap_1 w.params).In s.heap) (hL : LetterAt w.params s.heap v u)
    (h : ∀ v, Q v { s with toks := s.toks + 1 }) : wpAny (model PySem.Challenge.rw_nz0296_01.row.prog w) A (getAttr v (Str.ofString "flags") expr) Q E s := by
  obtain ⟨x, dx, k0, k1, k2, k3, k4, tu, tm, oct, fa, ins, ms, rfl, ha, hb⟩ := hL
  revert X; k_fill; intro X
  k_dflt (refine' get_value (v := .ref fa) (C := 204) (od := some (dictOf (letD w.params k0 k1 k2 k3 k4 (.int u tu) oct (.ref fa) ins (.int ms tm)) 5)) X ⟨ha, rfl, rfl, hb⟩ (plainGet_of (K := hd.heap_1 w.params) (C := 204) (name := Str.ofString "flags") ?g).1 (findObj_own (K := hd.heap_1 w.params) ?a ?b ?c ?d) ?e (h _); (case g => k_is); (case a => k_is); (case b => k_is); (case c => k_is); (case d => (rw [lookIn_dict]; k_get)); (case e => k_handed))
omit B F X T hk hdp hu in
theorem letter_modseq {v : Value} {u : Int} {s : Shared} {A : Around} {expr : Bool} (X : (hd.heap_1 w.params).In s.heap) (hL : LetterAt w.params s.heap v u)
    (h : ∀ v, Q v { s with toks := s.toks + 1 }) : wpAny (model PySem.Challenge.rw_nz0296_01.row.prog w) A (getAttr v (Str.ofString "modseq") expr) Q E s := by
  obtain ⟨x, dx, k0, k1, k2, k3, k4, tu, tm, oct, fa, ins, ms, rfl, ha, hb⟩ := hL
  revert X; k_fill; intro X
  k_dflt (refine' get_value (v := .int ms tm) (C := 204) (od := some (dictOf (letD w.params k0 k1 k2 k3 k4 (.int u tu) oct (.ref fa) ins (.int ms tm)) 5)) X ⟨ha, rfl, rfl, hb⟩ (plainGet_of (K := hd.heap_1 w.params) (C := 204) (name := Str.ofString "modseq") ?g).1 (findObj_own (K := hd.heap_1 w.params) ?a ?b ?c ?d) ?e (h _); (case g => k_is); (case a => k_is); (case b => k_is); (case c => k_is); (case d => (rw [lookIn_dict]; k_get)); (case e => k_handed))
omit B F X T hk hdp hu in
theorem pair_elt {v : Value} {u : Int} {s : Shared} {A : Around} {env : Env} {m₂ : Str → Option Value} {e2 : PySem.Expr} {p1 p2 p5 : Pos} {k : Nat} (X : (hd.heap_1 w.params).In s.heap) (hL : LetterAt w.params s.heap v u)
    (hn : s.heap.Ns env.locals m₂) (hm : m₂ (Str.ofString "letter") = some v) (hk : env.scope.kind = .function) (hl : env.kindOf (Str.ofString "letter") = some .local)
    (hs2 : starEach [e2] env = (false, eval e2 env) :: starEach [] env)
    (h2 : ∀ (s₂ : Shared) (Q2 : Value → Shared → Prop), s₂.heap = s.heap → (∀ fv tk, Q2 fv { s₂ with toks := tk }) → wpAny (model PySem.Challenge.rw_nz0296_01.row.prog w) A (eval e2 env) Q2 E s₂) :
    wpAny (model PySem.Challenge.rw_nz0296_01.row.prog w) A (eval (.Tuple [.Attribute (.Name (Str.ofString "letter") p1) (Str.ofString "uid") p2, e2] k p5) env)
      (fun y s₃ => (∃ T vs, y = .ref T ∧ s.heap.get? T = none ∧ s₃.heap.IsTuple T vs ∧ ∃ t fv, vs = #[Value.int u t, fv]) ∧ Keeps s s₃) E s := by
  refine Tuple_ (spliced_more (Attribute_name (wpAny_Name (wpAny_loadName_local hk hl hn hm (letter_uid X hL fun t => spliced_more (h2 _ _ rfl fun fv tk => spliced_none (wpAny_newTuple ?_ (by show (2 : Nat) ≤ sizeLine; rw [sizeLine_eq]; decide))) hs2)))))
  refine ⟨⟨_, _, rfl, ?_, ⟨_, Heap.get?_push_size _ rfl, rfl, _, rfl⟩, t, fv, rfl⟩, ⟨_, _, rfl, fun b o e => Heap.get?_push_of_some _ e⟩⟩
  cases q : s.heap.get? s.heap.objs.size with
  | none => rfl
  | some o => exact absurd (Heap.lt_size q) (Nat.lt_irrefl _)
end
theorem zE2 {M : Model} {A : Around} {env : Env} {p : Pos} {Q : Flow → Shared → Prop} {E : Value → Shared → Prop} {s : Shared} (h : wpAny M A (exec (.Pass p) env) Q E s) : wpAny M A (exec (.Pass p) env) Q E s := by
  w_top off
  first | (walk1; fail "z") | exact h
section
variable {w : World} {mean : ExcName → Option Value} {mg mb : Str → Option Value} {dp un : Nat} {gd : Option (List Code)} {cn : Str} {cs : Scope} {a : Addr} {ccd : Value} {cl : List (Str × Addr)} {outer : List Env} {A₀ : Around} {base h₀ : Heap} {L : Addr} {m : Str → Option Value} {s : Shared} {Q E : Value → Shared → Prop} {rest news : List (Addr × Obj)}
  (B : Below A₀ base outer h₀) (F : Fr h₀ L s.heap m) (X : (hd.heap_1 w.params).In h₀) (T : Top Mine.lawView (looseW Mine.lawView [Str.ofString "PostError"]) mean mg mb h₀) (hk : cs.kind = .function)
  (hdp : dp + 9 < recursionLimit) (hu : un + 140 < cLine)
include B F X T hk hdp hu
local macro_rules | `(tactic| walk_at "eval ListComp") => `(tactic| ((with_reducible show wpAny _ _ (eval (Expr.ListComp _ _ _ _) _) _ _ _); refine Stop.out ?_))
theorem uids_call {bx bd la ga : Addr} {vs : List Value} {us : List Int} {nm vl nu tp fl : Value} {k0 k1 k2 k3 k4 k5 k6 : Tok} {e : Nat}
    (hbx : s.heap.get? bx = some (instObj 242 bd)) (hbd : s.heap.get? bd = some (dictOf (boxD w.params k0 k1 k2 k3 k4 k5 k6 nm vl nu tp fl la ga) 7)) (hla : s.heap.get? la = some (listOf vs.toArray e))
    (hL : LettersAt w.params s.heap vs us) (hlen : vs.length ≤ 1000)
    (hret : ∀ D ys n h' tk', Fr h₀ L h' m → s.heap.StaysIn h' → s.heap.get? D = none → News h₀ L h' [(D, listOf (List.toArray ys) n)] → IntsAre ys us → Q (.ref D) { s with heap := h', toks := tk' }) :
    wpAny (model PySem.Challenge.rw_nz0296_01.row.prog w) (ktrTop dp un gd cn cs L a ccd cl outer) (call (.ref 234) [.ref bx]) Q E s := by
  revert X; k_fill; intro X
  refine wpAny_call ?_
  k_dflt (walk_at "enterP")
  rename Heap.StaysIn _ _ => st9
  replace hbx := st9 _ _ hbx; replace hbd := st9 _ _ hbd; replace hla := st9 _ _ hla; have hL0 := hL; replace hL := hL.keeps st9
  (try dsimp only)
  (try k_fold)
  k_steps
  refine Stop.mk ?_
  refine' comp_any (fun _ => true) (fun v y => ∃ t, y = .int (uidOf w.params s.heap v) t) ?_ ?_ ?_ ?_ ?_ ?_ ?_ ?_
  walk_at "sides"
  k_steps
  refine Stop.mk ⟨la, vs, rfl, isList_base (by k_asm) hla, hlen, fun C v s₂ m₂ E' _ _ _ _ _ => wpAny_pure ⟨rfl, keeps_refl _⟩, fun C v s₂ m₂ E' hC hv _ hn hm hk => ?_, fun D ys n h' tk hD hget hp st => ?_⟩
  · obtain ⟨u, hu, hl⟩ := hL0.mem v hv
    refine Attribute_name (ldVarK (C := C) hn hm ?_)
    rename Fr _ _ _ _ => lF
    refine letter_uid (Frag.In.keeps (by assumption) fun b o e => hk b o (lF.keep b o e)) (hl.keeps fun b o e => hk b o (lF.keep b o (st9 b o e))) fun t => ⟨⟨t, by rw [uidOf_is hl]⟩, keeps_tok _ _⟩
  · rename Fr _ _ _ _ => lF
    rename News _ _ _ _ => lN
    have lN2 := news_new lF lN st hD hget
    have lF2 := Fr.keeps lF st
    clear lN lF
    rw [filter_tt] at hp
    have hi : IntsAre ys us := hL0.uids hp fun v u y q r => by rw [uidOf_is q] at r; exact r
    k_steps
    exact hret _ _ _ _ _ (by assumption) (by assumption) (none_of_new st9 lN2 (.head _)) (by assumption) hi
end
theorem zE3 {M : Model} {A : Around} {env : Env} {p : Pos} {Q : Flow → Shared → Prop} {E : Value → Shared → Prop} {s : Shared} (h : wpAny M A (exec (.Pass p) env) Q E s) : wpAny M A (exec (.Pass p) env) Q E s := by
  w_top off
  first | (walk1; fail "z") | exact h
section
variable {w : World} {mean : ExcName → Option Value} {mg mb : Str → Option Value} {dp un : Nat} {gd : Option (List Code)} {cn : Str} {cs : Scope} {a : Addr} {ccd : Value} {cl : List (Str × Addr)} {outer : List Env} {A₀ : Around} {base h₀ : Heap} {L : Addr} {m : Str → Option Value} {s : Shared} {Q E : Value → Shared → Prop} {rest news : List (Addr × Obj)}
  (B : Below A₀ base outer h₀) (F : Fr h₀ L s.heap m) (X : (hd.heap_1 w.params).In h₀) (T : Top Mine.lawView (looseW Mine.lawView [Str.ofString "PostError"]) mean mg mb h₀) (hk : cs.kind = .function)
  (hdp : dp + 12 < recursionLimit) (hu : un + 160 < cLine)
include B F X T hk hdp hu
local macro_rules | `(tactic| walk_at "call ref") => `(tactic| ((with_reducible show wpAny _ _ (call (Value.ref 234) _) _ _ _); refine Stop.out ?_))
local macro_rules | `(tactic| walk_at "eval ListComp") => `(tactic| ((with_reducible show wpAny _ _ (eval (Expr.ListComp _ _ _ _) _) _ _ _); refine Stop.out ?_))
local macro_rules | `(tactic| walk_at "call type:dict") => `(tactic| ((with_reducible show wpAny _ _ (call (Value.type "dict") _) _ _ _); refine Stop.out ?_))
theorem view_call {bx bd la ga : Addr} {vs : List Value} {us : List Int} {nm vl nu tp fl : Value} {k0 k1 k2 k3 k4 k5 k6 : Tok} {e : Nat} {ro um uv : Bool}
    (N : News h₀ L s.heap news) (hbx : (bx, instObj 242 bd) ∈ news) (hbd : (bd, dictOf (boxD w.params k0 k1 k2 k3 k4 k5 k6 nm vl nu tp fl la ga) 7) ∈ news) (hla : (la, listOf vs.toArray e) ∈ news)
    (hL : LettersIn w.params news vs us) (hnd : us.Nodup) (hlen : vs.length ≤ 1000)
    (hret : ∀ x dx ul fd md ys n o1 o2 kf km q0 q1 q2 q3 q4 q5 q6 h' tk', Fr h₀ L h' m →
      News h₀ L h' ((md, o2) :: (fd, o1) :: (ul, listOf (List.toArray ys) n) :: (x, instObj 77 dx) :: (dx, dictOf (viewD w.params q0 q1 q2 q3 q4 q5 q6 bx ro um uv ul fd md) 7) :: news) →
      IntsAre ys us → o1.IsDictOf (intKind PySem.Challenge.rw_nz0296_01.row.prog w) kf → kf.map (·.1) = us → o2.IsDictOf (intKind PySem.Challenge.rw_nz0296_01.row.prog w) km → km.map (·.1) = us → (fd == sysModules) = false → (md == sysModules) = false →
      ApartN 5 ((md, o2) :: (fd, o1) :: (ul, listOf (List.toArray ys) n) :: (x, instObj 77 dx) :: (dx, dictOf (viewD w.params q0 q1 q2 q3 q4 q5 q6 bx ro um uv ul fd md) 7) :: news) → Q (.ref x) { s with heap := h', toks := tk' }) :
    wpAny (model PySem.Challenge.rw_nz0296_01.row.prog w) (ktrTop dp un gd cn cs L a ccd cl outer) (call (.ref 77) [.ref bx, .bool ro, .bool um, .bool uv]) Q E s := by
  revert X; k_fill; intro X
  k_dflt (refine' call_cls ?k1 ?k2 ?k3 ?k4 ?k5 ?k6 ?_; (case k1 => k_asm); (case k2 => k_asm); (case k3 => k_asm); (case k4 => k_is); (case k5 => k_is); (case k6 => k_is))
  intro x dx h1 F1 N1 l1 l2
  replace l2 := ltN l2
  have lx : ∀ p ∈ (dx, dictOf [] 0) :: news, p.1 ≠ x := fun p hp => by
    rcases List.mem_cons.mp hp with rfl | hp
    · exact Nat.ne_of_lt l2
    · exact Nat.ne_of_lt (Nat.lt_trans (l1 p hp) l2)
  have ldx : ∀ p ∈ news, p.1 ≠ dx := fun p hp => Nat.ne_of_lt (l1 p hp)
  k_dflt (walk_at "enterW")
  k_steps
  refine Stop.mk ?_
  rename Fr _ _ _ _ => lF
  rename News _ _ _ _ => lN
  have a1 := News.get lN (by k_mem : (bx, instObj 242 bd) ∈ _)
  have a2 := News.get lN (by k_mem : (bd, dictOf (boxD w.params k0 k1 k2 k3 k4 k5 k6 nm vl nu tp fl la ga) 7) ∈ _)
  have a3 := News.get lN (by k_mem : (la, listOf vs.toArray e) ∈ _)
  have a4 := LettersIn.at lN (hL.more fun p hp => .tail _ (.tail _ hp))
  k_dflt (refine' uids_call ?cB ?cF ?cX ?cT ?ck ?cd ?cu a1 a2 a3 a4 hlen ?_; (case cB => k_asm); (case cF => k_asm); (case cX => k_asm); (case cT => k_asm); (case ck => first | exact rfl | assumption); (case cd => ktr_room); (case cu => k_units))
  intro ul ys n h2 tk2 F2 st2 fr2 n2 hys
  k_dflt have ou := allNe_of (off_of_none lN fr2)
  k_dflt have N2 := News.append n2 (News.grown lN st2)
  simp only [AllNe] at ou
  clear n2 st2 fr2 a1 a2 a3 a4 lN
  (try k_sweep)
  (try dsimp only at N2)
  k_steps
  have hL0 := LettersIn.at N hL
  -- the pairs, flags
  refine Stop.mk ?_
  refine' comp_gen (fun _ => true) (PairG w.params s.heap) pairG_lasts ?_ ?_ ?_ ?_ ?_ ?_ ?_ ?_
  walk_at "sides"
  k_steps
  rename Fr _ _ _ _ => lF
  rename News _ _ _ _ => lN
  refine Stop.mk ⟨la, vs, rfl, lN.isList (by k_mem), hlen, fun C v s₂ m₂ E' _ _ _ _ _ => wpAny_pure ⟨rfl, keeps_refl _⟩, fun C v s₂ m₂ E' hC hv _ hn hm hk => ?_, fun D ys2 n2 h' tk hD hget hp st => ?_⟩
  · obtain ⟨u, hu, hl⟩ := hL.mem v hv
    have hl0 := hl.at N
    have hl2 : LetterAt w.params s₂.heap v u := (hl.more (fun p hp => (by k_mem : p ∈ _))).at (fun p hp => ⟨hk _ _ (lN p hp).1, (lN p hp).2⟩ : News _ _ s₂.heap _)
    refine wpAny_mono (pair_elt (Frag.In.keeps (by assumption) fun b o e => hk b o (lF.keep b o e)) hl2 hn hm rfl rfl rfl fun s3 Q2 e3 h2 => ?_) (fun y s₃ ⟨⟨T, vs, a, b, c, t, fv, d⟩, k⟩ => ⟨⟨[T], fun x hx => by rw [List.mem_singleton.mp hx]; exact b, T, t, fv, rfl, a, by rw [uidOf_is hl0, ← d]; exact c⟩, k⟩) fun _ _ e => e
    refine Attribute_name (wpAny_Name (wpAny_loadName_local rfl rfl (e3 ▸ hn) hm (letter_flags (e3 ▸ Frag.In.keeps (by assumption) fun b o e => hk b o (lF.keep b o e)) (e3 ▸ hl2) fun fv => h2 _ _)))
  have hlN := News.grown lN st
  have hlF := Fr.keeps lF st
  rw [filter_tt] at hp
  obtain ⟨kv1, hk1, hpl⟩ := pairG_places hL0 hp
  have hlen2 : kv1.length = ys2.length := by rw [← Paired_length hp, hL.length, ← hk1, List.length_map]
  clear lN lF hp st hD
  k_steps
  refine Stop.mk ?_
  rename Fr _ _ _ _ => lF
  rename News _ _ _ _ => lN
  refine dict_of_pairs (kvs := kv1) (by rfl) hget hlen2 (hk1 ▸ hnd) (by rw [← hlen2, ← List.length_map (f := (·.1)), hk1, ← hL.length]; exact hlen) hpl fun h3 tk3 hd3 st3 => ?_
  obtain ⟨o1, ho3, hi1⟩ := Heap.dictOf_iff.mp hd3
  have fr3 := next_none h'
  rename Top _ _ _ _ _ _ => lT
  have lo1 := lF.notModules (modules_low (lT.nolimit))
  have lN3 := news_new lF lN st3 fr3 ho3
  have lF3 := Fr.keeps lF st3
  k_dflt have od1 := allNe_of (off_of_none lN fr3)
  simp only [AllNe] at od1
  clear lN lF hget hpl hd3 ho3 st3 fr3
  k_steps
  -- the pairs, modseq
  refine Stop.mk ?_
  refine' comp_gen (fun _ => true) (PairG w.params s.heap) pairG_lasts ?_ ?_ ?_ ?_ ?_ ?_ ?_ ?_
  walk_at "sides"
  k_steps
  rename Fr _ _ _ _ => lF
  rename News _ _ _ _ => lN
  refine Stop.mk ⟨la, vs, rfl, lN.isList (by k_mem), hlen, fun C v s₂ m₂ E' _ _ _ _ _ => wpAny_pure ⟨rfl, keeps_refl _⟩, fun C v s₂ m₂ E' hC hv _ hn hm hk => ?_, fun D ys2 n2 h' tk hD hget hp st => ?_⟩
  · obtain ⟨u, hu, hl⟩ := hL.mem v hv
    have hl0 := hl.at N
    have hl2 : LetterAt w.params s₂.heap v u := (hl.more (fun p hp => (by k_mem : p ∈ _))).at (fun p hp => ⟨hk _ _ (lN p hp).1, (lN p hp).2⟩ : News _ _ s₂.heap _)
    refine wpAny_mono (pair_elt (Frag.In.keeps (by assumption) fun b o e => hk b o (lF.keep b o e)) hl2 hn hm rfl rfl rfl fun s3 Q2 e3 h2 => ?_) (fun y s₃ ⟨⟨T, vs, a, b, c, t, fv, d⟩, k⟩ => ⟨⟨[T], fun x hx => by rw [List.mem_singleton.mp hx]; exact b, T, t, fv, rfl, a, by rw [uidOf_is hl0, ← d]; exact c⟩, k⟩) fun _ _ e => e
    refine Attribute_name (wpAny_Name (wpAny_loadName_local rfl rfl (e3 ▸ hn) hm (letter_modseq (e3 ▸ Frag.In.keeps (by assumption) fun b o e => hk b o (lF.keep b o e)) (e3 ▸ hl2) fun fv => h2 _ _)))
  have hlN := News.grown lN st
  have hlF := Fr.keeps lF st
  rw [filter_tt] at hp
  obtain ⟨kv2, hk2, hpl⟩ := pairG_places hL0 hp
  have hlen2 : kv2.length = ys2.length := by rw [← Paired_length hp, hL.length, ← hk2, List.length_map]
  clear lN lF hp st hD
  k_steps
  refine Stop.mk ?_
  rename Fr _ _ _ _ => lF
  rename News _ _ _ _ => lN
  refine dict_of_pairs (kvs := kv2) (by rfl) hget hlen2 (hk2 ▸ hnd) (by rw [← hlen2, ← List.length_map (f := (·.1)), hk2, ← hL.length]; exact hlen) hpl fun h3 tk3 hd3 st3 => ?_
  obtain ⟨o2, ho3, hi2⟩ := Heap.dictOf_iff.mp hd3
  have fr3 := next_none h'
  have lo2 := lF.notModules (modules_low (lT.nolimit))
  have lN3 := news_new lF lN st3 fr3 ho3
  have lF3 := Fr.keeps lF st3
  k_dflt have od2 := allNe_of (off_of_none lN fr3)
  simp only [AllNe] at od2
  clear lN lF hget hpl hd3 ho3 st3 fr3
  k_steps
  rename News h₀ L _ _ => lN
  rename Fr h₀ L _ _ => lF
  have lxn : AllNe x news := allNe_of fun p hp => lx p (.tail _ hp)
  exact hret _ _ _ _ _ _ _ _ _ kv1 kv2 _ _ _ _ _ _ _ _ _ lF lN hys hi1 hk1 hi2 hk2 lo1 lo2 ⟨of_allNe od2, of_allNe od1, of_allNe ou, of_allNe ⟨Nat.ne_of_lt l2, lxn⟩, ldx, trivial⟩
end
theorem zE4 {M : Model} {A : Around} {env : Env} {p : Pos} {Q : Flow → Shared → Prop} {E : Value → Shared → Prop} {s : Shared} (h : wpAny M A (exec (.Pass p) env) Q E s) : wpAny M A (exec (.Pass p) env) Q E s := by
  w_top off
  first | (walk1; fail "z") | exact h
section
variable {w : World} {mean : ExcName → Option Value} {mg mb : Str → Option Value} {dp un : Nat} {gd : Option (List Code)} {cn : Str} {cs : Scope} {a : Addr} {ccd : Value} {cl : List (Str × Addr)} {outer : List Env} {A₀ : Around} {base h₀ : Heap} {L : Addr} {m : Str → Option Value} {s : Shared} {Q E : Value → Shared → Prop} {rest news : List (Addr × Obj)}
  (B : Below A₀ base outer h₀) (F : Fr h₀ L s.heap m) (X : (hd.heap_1 w.params).In h₀) (T : Top Mine.lawView (looseW Mine.lawView [Str.ofString "PostError"]) mean mg mb h₀) (hk : cs.kind = .function)
  (hdp : dp + 12 < recursionLimit) (hu : un + 160 < cLine)
include B F X T hk hdp hu
local macro_rules | `(tactic| walk_at "binaryOp Add ref ref") => `(tactic| ((with_reducible show wpAny _ _ (binaryOp _ (Value.ref _) (Value.ref _)) _ _ _); refine Stop.out ?_))
local macro_rules | `(tactic| walk_at "exec For Name Name cons nil") => `(tactic| ((with_reducible show wpAny _ _ (exec (Stmt.For _ _ _ _ _) _) _ _ _); refine Stop.out ?_))
local macro_rules | `(tactic| walk_at "call ref") => `(tactic| ((with_reducible show wpAny _ _ (call (Value.ref 234) _) _ _ _); refine Stop.out ?_))
local macro_rules | `(tactic| walk_at "eval ListComp") => `(tactic| ((with_reducible show wpAny _ _ (eval (Expr.ListComp _ _ _ _) _) _ _ _); refine Stop.out ?_))
local macro_rules | `(tactic| walk_at "exec Assign cons ListComp") => `(tactic| ((with_reducible show wpAny _ _ (exec (Stmt.Assign [PySem.Expr.Name _ _] _ _) _) _ _ _); refine Stop.out ?_))
theorem expunge_call {bx bd la ga sl : Addr} {vs gs : List Value} {us : List Int} {nm vl nu fl : Value} {tp x1 x2 : Int} {tt t1 t2 k0 k1 k2 k3 k4 k5 k6 : Tok} {e eg es : Nat}
    (N : News h₀ L s.heap ((bd, dictOf (boxD w.params k0 k1 k2 k3 k4 k5 k6 nm vl nu (.int tp tt) fl la ga) 7) :: (la, listOf vs.toArray e) :: (ga, listOf gs.toArray eg) :: rest))
    (ap : ApartN 3 ((bd, dictOf (boxD w.params k0 k1 k2 k3 k4 k5 k6 nm vl nu (.int tp tt) fl la ga) 7) :: (la, listOf vs.toArray e) :: (ga, listOf gs.toArray eg) :: rest))
    (hbx : (bx, instObj 242 bd) ∈ rest) (hsl : (sl, listOf [.int x1 t1, .int x2 t2].toArray es) ∈ rest)
    {R : List (Addr × Obj)} (hR : ∀ p ∈ R, p ∈ rest) (hLR : LettersIn w.params R vs us) (hlen : vs.length ≤ 500) (hglen : gs.length ≤ 500)
    (hret : ∀ r la' ga' vs' gs' e' eg' tp' tt' h' tk', Fr h₀ L h' m →
      News h₀ L h' ((bd, dictOf (boxD w.params k0 k1 k2 k3 k4 k5 k6 nm vl nu (.int tp' tt') fl la' ga') 7) :: (la', listOf (List.toArray vs') e') :: (ga', listOf (List.toArray gs') eg') :: rest) →
      ApartN 3 ((bd, dictOf (boxD w.params k0 k1 k2 k3 k4 k5 k6 nm vl nu (.int tp' tt') fl la' ga') 7) :: (la', listOf (List.toArray vs') e') :: (ga', listOf (List.toArray gs') eg') :: rest) →
      LettersIn w.params R vs' (us.filter fun u => !(u == x1 || u == x2)) → gs'.length ≤ gs.length + us.length → Q r { s with heap := h', toks := tk' }) :
    wpAny (model PySem.Challenge.rw_nz0296_01.row.prog w) (ktrTop dp un gd cn cs L a ccd cl outer) (call (.ref 272) [.ref bx, .ref sl]) Q E s := by
  have hL := hLR.more hR
  revert X; k_fill; intro X
  refine wpAny_call ?_
  k_dflt (walk_at "enterW")
  rename (@LT.lt Nat _ bd _ ∧ _) => hl1
  have hr1 : AllLt _ rest := hl1.2.2.2
  have hn1 : (bd ≠ la) := fun q => ap.1 (la, _) (.head _) q.symm
  have hn2 : (bd ≠ ga) := fun q => ap.1 (ga, _) (.tail _ (.head _)) q.symm
  have hn3 : (la ≠ ga) := fun q => ap.2.1 (ga, _) (.head _) q.symm
  have hn4 : ∀ p ∈ rest, p.1 ≠ bd := fun p hp => ap.1 p (.tail _ (.tail _ hp))
  replace hn1 : NeA bd la := hn1; replace hn2 : NeA bd ga := hn2; replace hn3 : NeA la ga := hn3
  have hn5 : AllOff bd rest := allOff_of hn4
  k_steps
  walk_at "forName"
  k_dflt (refine' unr_listN (vs := [.int x1 t1, .int x2 t2]) (ep := es) ?a ?b ?c ?d ?_; (case c => k_asm); (case d => k_asm); (case a => rfl); (case b => k_mem))
  intro h9 tk9 I9 oI9 off9 F9 N9
  replace off9 := allOff_of off9; walk_at "offs"
  k_steps
  walk_at "turnEnd"
  refine ⟨by k_mem, ?_⟩
  intro hA tkA IA oIA offA FA NA
  replace offA := allOff_of offA; walk_at "offs"
  k_steps
  walk_at "turnEnd"
  refine ⟨by k_mem, ?_⟩
  intro hA tkA FA NA
  k_steps
  refine Stop.mk ?_
  refine' comp_anyA (intP fun u => u == x1 || u == x2) (fun v y => y = v) ?_ ?_ ?_ ?_ ?_ ?_ ?_ ?_ ?_ ?_ ?_
  walk_at "sides"
  k_steps
  refine Stop.mk ?_
  rename Fr _ _ _ _ => lF
  rename News _ _ _ _ => lN
  have a1 := News.get lN (by k_mem : (bx, instObj 242 bd) ∈ _)
  have a2 := News.get lN (by k_mem : (bd, dictOf (boxD w.params k0 k1 k2 k3 k4 k5 k6 nm vl nu (.int tp tt) fl la ga) 7) ∈ _)
  have a3 := News.get lN (by k_mem : (la, listOf vs.toArray e) ∈ _)
  have a4 := LettersIn.at lN (hL.more fun p hp => (by k_mem : p ∈ _))
  have a5 := News.get lN (by k_mem : (sl, _) ∈ _)
  k_dflt (refine' uids_call ?cB ?cF ?cX ?cT ?ck ?cd ?cu a1 a2 a3 a4 (by omega) ?_; (case cB => k_asm); (case cF => k_asm); (case cX => k_asm); (case cT => k_asm); (case ck => first | exact rfl | assumption); (case cd => ktr_room); (case cu => k_units))
  intro ul ys n h2 tk2 F2 st2 fr2 n2 hys
  k_dflt have ou := allOff_of (off_of_none lN fr2)
  walk_at "offs"
  k_dflt have N2 := News.append n2 (News.grown lN st2)
  rename (Obj.data _ = Data.cell (some (Value.ref _))) => dW
  rename (Obj.IsDictOf _ _ (PySem.stored (PySem.stored _ _ _) _ _)) => dI
  rename ((_ == sysModules) = false) => lo
  clear n2 st2 fr2 a1 a2 a3 a4 lN
  simp only [List.cons_append, List.nil_append] at N2
  have cW := fun (h : Heap) (st : h2.StaysIn h) => cell_stays (cell_of N2 (by k_mem) dW) st
  have dK := fun (h : Heap) (st : h2.StaysIn h) => Heap.DictOf.keep (dict_at N2 (by k_mem) dI) st
  refine Stop.mk ⟨ul, ys, _, _, rfl, N2.isList (by k_mem), by rw [hys.length, ← hL.length]; omega, F2, fun C v s₂ m₂ E' hC hv hn hm hk => ?_, fun C v s₂ m₂ E' hC hv _ hn hm hk => wpAny_mono (ldVarK (C := C) hn hm ⟨rfl, keeps_refl _⟩) (fun _ _ q => q) fun _ _ e => e, fun D ys2 n2 h' tk hD hget hp F3 hkp => ?_⟩
  · obtain ⟨u, t, rfl, -⟩ := ints_mem hys v hv
    refine wpAny_mono (test_in (dK _ hk) lo (fun Q2 q => ldVarK (C := C) hn hm (q _ _)) fun Q2 tk q => ldCellK (C := C) rfl (cW _ hk) (q _)) (fun ok s₃ q => ⟨q.1.trans (two_keys _ _ _ _ _), q.2⟩) fun _ _ e => e
  have N3 := news_newL F2 N2 hkp hD hget
  k_dflt have oD := allOff_of (off_of_none N2 hD)
  walk_at "offs"
  have e2 := paired_eq hp
  have hys2 : IntsAre ys2 (us.filter fun u => u == x1 || u == x2) := e2 ▸ ints_filter _ hys
  clear N2 F2 cW dK hD hget hp hkp e2
  k_steps
  · rename (decide _ = true) => c0
    have c1 := List.filter_eq_nil_iff.mp (of_decide_eq_true c0)
    rename Fr h₀ L _ m => lF
    rename News h₀ L _ _ => lN
    exact hret _ la ga vs gs e eg tp tt _ _ lF (news_sub lN fun p hp => (by k_mem : p ∈ _)) ap (by rw [List.filter_eq_self.mpr fun u hu => by simpa using c1 u hu]; exact hLR) (by omega)
  refine Stop.mk ?_
  refine' comp_any (fun v => !(uidOf w.params s.heap v == x1 || uidOf w.params s.heap v == x2)) (fun v y => y = v) ?_ ?_ ?_ ?_ ?_ ?_ ?_ ?_
  walk_at "sides"
  k_steps
  rename Fr _ _ _ _ => lF
  rename News _ _ _ _ => lN
  rename (Obj.data _ = Data.cell (some (Value.ref _))) => dW
  rename (Obj.data _ = Data.cell (some (Value.int _ _))) => dM
  rename (Obj.IsDictOf _ _ (PySem.stored (PySem.stored _ _ _) _ _)) => dI
  rename ((_ == sysModules) = false) => lo
  have NR := news_sub N (l' := rest) fun p hp => .tail _ (.tail _ (.tail _ hp))
  have hL0 := LettersIn.at NR hL
  have cW := fun (h : Heap) st => cell_stays (h' := h) (cell_of lN (by k_mem) dW) st
  have dK := fun (h : Heap) st => Heap.DictOf.keep (h' := h) (dict_at lN (by k_mem) dI) st
  refine Stop.mk ⟨la, vs, rfl, lN.isList (by k_mem), by omega, fun C v s₂ m₂ E' hC hv hn hm hk => ?_, fun C v s₂ m₂ E' hC hv _ hn hm hk => wpAny_mono (ldVarK (C := C) hn hm ⟨rfl, keeps_refl _⟩) (fun _ _ q => q) fun _ _ e => e, fun D3 ys3 n3 h3 tk3 hD hget hp st => ?_⟩
  · obtain ⟨u, hu, hl⟩ := hL.mem v hv
    have hl2 : LetterAt w.params s₂.heap v u := (hl.more (fun p hp => (by k_mem : p ∈ _))).at (fun p hp => ⟨hk _ _ (lN p hp).1, (lN p hp).2⟩ : News _ _ s₂.heap _)
    refine wpAny_mono (test_notin (dK _ hk) lo (fun Q2 q => Attribute_name (ldVarK (C := C) hn hm (letter_uid (Frag.In.keeps (by assumption) fun b o e => hk b o (lF.keep b o e)) hl2 fun t => q _ _))) fun Q2 tk q => ldCellK (C := C) rfl (cW _ hk) (q _)) (fun ok s₃ q => ⟨q.1.trans (by rw [two_keys, uidOf_is (hl.at NR)]), q.2⟩) fun _ _ e => e
  have N4 := news_new lF lN st hD hget
  have F4 := Fr.keeps lF st
  k_dflt have oD3 := allOff_of (off_of_none lN hD)
  walk_at "offs"
  have hL3 : LettersIn w.params R ys3 (us.filter fun u => !(u == x1 || u == x2)) := paired_eq hp ▸ LettersIn.filtered (news_sub NR hR) (fun u => !(u == x1 || u == x2)) hLR
  clear lN lF cW dK hD hget hp st NR hL0
  k_steps
  refine Stop.mk ?_
  refine' comp_gen (fun _ => true) (fun _ _ _ _ => True) (fun _ _ _ _ _ _ _ => trivial) ?_ ?_ ?_ ?_ ?_ ?_ ?_ ?_
  walk_at "sides"
  k_steps
  rename Fr _ _ _ _ => lF
  rename News _ _ _ _ => lN
  have cM := fun (h : Heap) st => cell_stays (h' := h) (cell_of lN (by k_mem) dM) st
  have hl2 : ys2.length ≤ us.length := by rw [hys2.length]; exact List.length_filter_le _ _
  have hl3 := hL.length
  refine Stop.mk ⟨D, ys2, rfl, lN.isList (by k_mem), by omega, fun C v s₂ m₂ E' _ _ _ _ _ => wpAny_pure ⟨rfl, keeps_refl _⟩, fun C v s₂ m₂ E' hC hv _ hn hm hk => ?_, fun D5 ys5 n5 h5 tk5 hD hget hp st => ?_⟩
  · refine Tuple_ (spliced_more (ldVarK (C := C) hn hm (spliced_more (ldCellK (C := C) rfl (cM _ hk) (spliced_none (wpAny_newTuple ?_ (by show (2 : Nat) ≤ sizeLine; rw [sizeLine_eq]; decide)))))))
    exact ⟨⟨[], by simp, trivial⟩, ⟨_, _, rfl, fun b o e => Heap.get?_push_of_some _ e⟩⟩
  have N6 := news_new lF lN st hD hget
  have F6 := Fr.keeps lF st
  k_dflt have oD5 := allOff_of (off_of_none lN hD)
  walk_at "offs"
  rw [filter_tt] at hp
  have hl5 := Paired_length hp
  clear lN lF cM hD hget hp st
  k_steps
  refine Stop.mk ?_
  rename Fr _ _ _ _ => lF
  rename News _ _ _ _ => lN
  k_dflt (refine' add_lists lF lN ?ad1 ?ad2 ?_ ?ad3; (case ad1 => exact lN.isList (by k_mem)); (case ad2 => exact lN.isList (by k_mem)); (case ad3 => rw [sizeLine_eq]; omega))
  intro h7 F7 N7
  k_dflt have oD7 := allOff_of (off_of_none lN (next_none _))
  walk_at "offs"
  clear lN lF
  k_steps
  rename Fr h₀ L _ m => lF
  rename News h₀ L _ _ => lN
  refine' hret _ D3 _ ys3 (gs ++ ys5) _ _ _ _ _ _ lF ?hN ?hA hL3 ?hl
  case hN =>
    refine news4 ?_ ?_ ?_ (news_sub lN fun p hp => (by k_mem : p ∈ _))
    · exact lN _ (by k_mem : (bd, _) ∈ _)
    · exact lN _ (by k_mem : (D3, _) ∈ _)
    · exact lN _ (by k_mem : (h5.objs.size, _) ∈ _)
  case hA =>
    refine' ⟨AllOff.ne ?o1, AllOff.ne ?o2, AllOff.ne ?o3, ap.2.2.2⟩ <;> (try dsimp only [AllOff]) <;> (repeat' (first | exact trivial | refine And.intro ?_ ?_ | assumption | exact NeA.r (by assumption)))
  case hl => rw [List.length_append]; omega
end
theorem zE5 {M : Model} {A : Around} {env : Env} {p : Pos} {Q : Flow → Shared → Prop} {E : Value → Shared → Prop} {s : Shared} (h : wpAny M A (exec (.Pass p) env) Q E s) : wpAny M A (exec (.Pass p) env) Q E s := by
  w_top off
  first | (walk1; fail "z") | exact h
section
variable {w : World} {mean : ExcName → Option Value} {mg mb : Str → Option Value} {dp un : Nat} {gd : Option (List Code)} {cn : Str} {cs : Scope} {a : Addr} {ccd : Value} {cl : List (Str × Addr)} {outer : List Env} {A₀ : Around} {base h₀ : Heap} {L : Addr} {m : Str → Option Value} {s : Shared} {Q E : Value → Shared → Prop} {rest news : List (Addr × Obj)}
  (B : Below A₀ base outer h₀) (F : Fr h₀ L s.heap m) (X : (hd.heap_1 w.params).In h₀) (T : Top Mine.lawView (looseW Mine.lawView [Str.ofString "PostError"]) mean mg mb h₀) (hk : cs.kind = .function)
  (hdp : dp + 9 < recursionLimit) (hu : un + 140 < cLine)
include B F X T hk hdp hu
local macro_rules | `(tactic| walk_at "eval ListComp") => `(tactic| ((with_reducible show wpAny _ _ (eval (Expr.ListComp _ _ _ _) _) _ _ _); refine Stop.out ?_))
local macro_rules | `(tactic| walk_at "call type:dict") => `(tactic| ((with_reducible show wpAny _ _ (call (Value.type "dict") _) _ _ _); refine Stop.out ?_))
omit B F X T hk hdp hu in
theorem true_elt {v : Value} {u : Int} {s : Shared} {A : Around} {env : Env} {m₂ : Str → Option Value} {p1 p2 p5 p6 : Pos} {k kd : Nat} (X : (hd.heap_1 w.params).In s.heap) (hL : LetterAt w.params s.heap v u)
    (hn : s.heap.Ns env.locals m₂) (hm : m₂ (Str.ofString "letter") = some v) (hk : env.scope.kind = .function) (hl : env.kindOf (Str.ofString "letter") = some .local) :
    wpAny (model PySem.Challenge.rw_nz0296_01.row.prog w) A (eval (.Tuple [.Attribute (.Name (Str.ofString "letter") p1) (Str.ofString "uid") p2, .Constant (.bool true) kd p6] k p5) env)
      (fun y s₃ => (∃ T vs, y = .ref T ∧ s.heap.get? T = none ∧ s₃.heap.IsTuple T vs ∧ ∃ t fv, vs = #[Value.int u t, fv]) ∧ Keeps s s₃) E s :=
  pair_elt X hL hn hm hk hl rfl fun s₂ Q2 e h => wpAny_of_eq rfl (h _ s₂.toks)
theorem gone_call {vw vd bx bd la ul fd md : Addr} {vs ys : List Value} {us vu : List Int} {nm vl nu tp fl : Value} {k0 k1 k2 k3 k4 k5 k6 q0 q1 q2 q3 q4 q5 q6 : Tok} {e n : Nat} {ga : Addr} {ro um uv : Bool}
    (hvw : s.heap.get? vw = some (instObj 77 vd)) (hvd : s.heap.get? vd = some (dictOf (viewD w.params q0 q1 q2 q3 q4 q5 q6 bx ro um uv ul fd md) 7))
    (hbx : s.heap.get? bx = some (instObj 242 bd)) (hbd : s.heap.get? bd = some (dictOf (boxD w.params k0 k1 k2 k3 k4 k5 k6 nm vl nu tp fl la ga) 7)) (hla : s.heap.get? la = some (listOf vs.toArray e))
    (hul : s.heap.get? ul = some (listOf ys.toArray n)) (hL : LettersAt w.params s.heap vs us) (hi : IntsAre ys vu) (hnd : us.Nodup) (hlen : vs.length ≤ 1000) (hlen2 : ys.length ≤ 1000)
    (hret : ∀ D zs n h' tk', Fr h₀ L h' m → s.heap.StaysIn h' → s.heap.get? D = none → News h₀ L h' [(D, listOf (List.toArray zs) n)] → IntsAre zs (vu.filter fun u => !us.contains u) → Q (.ref D) { s with heap := h', toks := tk' }) :
    wpAny (model PySem.Challenge.rw_nz0296_01.row.prog w) (ktrTop dp un gd cn cs L a ccd cl outer) (call (.ref 93) [.ref vw]) Q E s := by
  revert X; k_fill; intro X
  refine wpAny_call ?_
  k_dflt (walk_at "enterP")
  rename Heap.StaysIn _ _ => st9
  replace hvw := st9 _ _ hvw; replace hvd := st9 _ _ hvd; replace hul := st9 _ _ hul
  replace hbx := st9 _ _ hbx; replace hbd := st9 _ _ hbd; replace hla := st9 _ _ hla; have hL0 := hL; replace hL := hL.keeps st9
  (try dsimp only)
  (try k_fold)
  k_steps
  refine Stop.mk ?_
  refine' comp_gen (fun _ => true) (PairG w.params s.heap) pairG_lasts ?_ ?_ ?_ ?_ ?_ ?_ ?_ ?_
  walk_at "sides"
  k_steps
  rename Fr _ _ _ _ => lF
  rename News _ _ _ _ => lN
  refine Stop.mk ⟨la, vs, rfl, isList_base lF hla, hlen, fun C v s₂ m₂ E' _ _ _ _ _ => wpAny_pure ⟨rfl, keeps_refl _⟩, fun C v s₂ m₂ E' hC hv _ hn hm hk => ?_, fun D ys2 n2 h' tk hD hget hp st => ?_⟩
  · obtain ⟨u, hu, hl⟩ := hL0.mem v hv
    have hl2 : LetterAt w.params s₂.heap v u := hl.keeps fun b o e => hk b o (lF.keep b o (st9 b o e))
    exact wpAny_mono (true_elt (Frag.In.keeps (by assumption) fun b o e => hk b o (lF.keep b o e)) hl2 hn hm rfl rfl) (fun y s₃ ⟨⟨T, vs, a, b, c, t, fv, d⟩, k⟩ => ⟨⟨[T], fun x hx => by rw [List.mem_singleton.mp hx]; exact b, T, t, fv, rfl, a, by rw [uidOf_is hl, ← d]; exact c⟩, k⟩) fun _ _ e => e
  have hlN := News.grown lN st
  have hlF := Fr.keeps lF st
  rw [filter_tt] at hp
  obtain ⟨kv1, hk1, hpl⟩ := pairG_places hL0 hp
  have hlen3 : kv1.length = ys2.length := by rw [← Paired_length hp, hL.length, ← hk1, List.length_map]
  clear lN lF hp st hD
  k_steps
  refine Stop.mk ?_
  rename Fr _ _ _ _ => lF
  rename News _ _ _ _ => lN
  refine dict_of_pairs (kvs := kv1) (by rfl) hget hlen3 (hk1 ▸ hnd) (by rw [← hlen3, ← List.length_map (f := (·.1)), hk1, ← hL.length]; exact hlen) hpl fun h3 tk3 hd3 st3 => ?_
  obtain ⟨o1, ho3, hi1⟩ := Heap.dictOf_iff.mp hd3
  have fr3 := next_none h'
  rename Top _ _ _ _ _ _ => lT
  have lo := lF.notModules (modules_low (lT.nolimit))
  have lN3 := news_new lF lN st3 fr3 ho3
  have lF3 := Fr.keeps lF st3
  k_dflt have od1 := allOff_of (off_of_none lN fr3)
  walk_at "offs"
  clear lN lF hget hpl hd3 ho3 st3 fr3
  k_steps
  refine Stop.mk ?_
  refine' comp_any (intP fun u => !us.contains u) (fun v y => y = v) ?_ ?_ ?_ ?_ ?_ ?_ ?_ ?_
  walk_at "sides"
  k_steps
  rename Fr _ _ _ _ => lF
  rename News _ _ _ _ => lN
  rename (Obj.data _ = Data.cell (some (Value.ref _))) => dW
  have cW := fun (h : Heap) st => cell_stays (h' := h) (cell_of lN (by k_mem) dW) st
  have dK := fun (h : Heap) st => Heap.DictOf.keep (h' := h) (dict_at lN (by k_mem) hi1) st
  refine Stop.mk ⟨ul, ys, rfl, isList_base lF hul, hlen2, fun C v s₂ m₂ E' hC hv hn hm hk => ?_, fun C v s₂ m₂ E' hC hv _ hn hm hk => wpAny_mono (ldVarK (C := C) hn hm ⟨rfl, keeps_refl _⟩) (fun _ _ q => q) fun _ _ e => e, fun D3 ys3 n3 h3 tk3 hD hget hp st => ?_⟩
  · obtain ⟨u, t, rfl, -⟩ := ints_mem hi v hv
    refine wpAny_mono (test_notin (dK _ hk) lo (fun Q2 q => ldVarK (C := C) hn hm (q _ _)) fun Q2 tk q => ldCellK (C := C) rfl (cW _ hk) (q _)) (fun ok s₃ q => ⟨q.1.trans (by rw [keys_isSome hk1]; rfl), q.2⟩) fun _ _ e => e
  have N4 := news_new lF lN st hD hget
  have F4 := Fr.keeps lF st
  have hys3 : IntsAre ys3 (vu.filter fun u => !us.contains u) := paired_eq hp ▸ ints_filter _ hi
  clear lN lF cW dK hD hget hp st
  k_steps
  rename Fr h₀ L _ m => lF
  rename News h₀ L _ _ => lN
  refine hret _ _ n3 _ _ lF (by assumption) (none_of_new st9 (news_sub N4 (l' := [(D3, _)]) fun p hp => by rw [List.mem_singleton.mp hp]; exact .head _) (.head _)) (news_sub lN fun p hp => ?_) hys3
  rw [List.mem_singleton.mp hp]; k_mem
end
theorem zF1 {M : Model} {A : Around} {env : Env} {p : Pos} {Q : Flow → Shared → Prop} {E : Value → Shared → Prop} {s : Shared} (h : wpAny M A (exec (.Pass p) env) Q E s) : wpAny M A (exec (.Pass p) env) Q E s := by
  w_top off
  first | (walk1; fail "z") | exact h
section
variable {w : World} {mean : ExcName → Option Value} {mg mb : Str → Option Value} {dp un : Nat} {gd : Option (List Code)} {cn : Str} {cs : Scope} {a : Addr} {ccd : Value} {cl : List (Str × Addr)} {outer : List Env} {A₀ : Around} {base h₀ : Heap} {L : Addr} {m : Str → Option Value} {s : Shared} {Q E : Value → Shared → Prop} {rest news : List (Addr × Obj)}
  (B : Below A₀ base outer h₀) (F : Fr h₀ L s.heap m) (X : (hd.heap_1 w.params).In h₀) (T : Top Mine.lawView (looseW Mine.lawView [Str.ofString "PostError"]) mean mg mb h₀) (hk : cs.kind = .function)
  (hdp : dp + 9 < recursionLimit) (hu : un + 140 < cLine)
include B F X T hk hdp hu
local macro_rules | `(tactic| walk_at "eval ListComp") => `(tactic| ((with_reducible show wpAny _ _ (eval (Expr.ListComp _ _ _ _) _) _ _ _); refine Stop.out ?_))
local macro_rules | `(tactic| walk_at "call builtin:dict.pop") => `(tactic| ((with_reducible show wpAny _ _ (call (Value.builtin "dict.pop") _) _ _ _); refine Stop.out ?_))
omit B F X T hk hdp hu in
theorem news_cons {h : Heap} {a : Addr × Obj} {r : List (Addr × Obj)} (ha : h.get? a.1 = some a.2 ∧ a.1 ≠ L ∧ h₀.get? a.1 = none) (N : News h₀ L h r) : News h₀ L h (a :: r) := fun p hp => by
  rcases List.mem_cons.mp hp with rfl | hp
  · exact ha
  · exact N _ hp
theorem forget_call {vw vd bx ul fd md : Addr} {ys : List Value} {vu : List Int} {kf km : List (Int × Value)} {o1 o2 : Obj} {q0 q1 q2 q3 q4 q5 q6 tu : Tok} {n : Nat} {ro um uv : Bool} {u : Int}
    (N : News h₀ L s.heap ((vd, dictOf (viewD w.params q0 q1 q2 q3 q4 q5 q6 bx ro um uv ul fd md) 7) :: (fd, o1) :: (md, o2) :: rest))
    (ap : ApartN 3 ((vd, dictOf (viewD w.params q0 q1 q2 q3 q4 q5 q6 bx ro um uv ul fd md) 7) :: (fd, o1) :: (md, o2) :: rest))
    (hvw : (vw, instObj 77 vd) ∈ rest) (hul : (ul, listOf ys.toArray n) ∈ rest) (hi : IntsAre ys vu) (hlen : ys.length ≤ 1000)
    (d1 : o1.IsDictOf (intKind PySem.Challenge.rw_nz0296_01.row.prog w) kf) (d2 : o2.IsDictOf (intKind PySem.Challenge.rw_nz0296_01.row.prog w) km)
    (hu1 : u ∈ kf.map (·.1)) (hu2 : u ∈ km.map (·.1)) (s1 : kf.length ≤ 1000) (s2 : km.length ≤ 1000)
    (hret : ∀ r ul' zs n' o1' o2' h' tk', Fr h₀ L h' m →
      News h₀ L h' ((vd, dictOf (viewD w.params q0 q1 q2 q3 q4 q5 q6 bx ro um uv ul' fd md) 7) :: (fd, o1') :: (md, o2') :: (ul', listOf (List.toArray zs) n') :: rest) →
      ApartN 4 ((vd, dictOf (viewD w.params q0 q1 q2 q3 q4 q5 q6 bx ro um uv ul' fd md) 7) :: (fd, o1') :: (md, o2') :: (ul', listOf (List.toArray zs) n') :: rest) →
      IntsAre zs (vu.filter fun x => x != u) → o1'.IsDictOf (intKind PySem.Challenge.rw_nz0296_01.row.prog w) (without kf u) → o2'.IsDictOf (intKind PySem.Challenge.rw_nz0296_01.row.prog w) (without km u) → Q r { s with heap := h', toks := tk' }) :
    wpAny (model PySem.Challenge.rw_nz0296_01.row.prog w) (ktrTop dp un gd cn cs L a ccd cl outer) (call (.ref 98) [.ref vw, .int u tu]) Q E s := by
  revert X; k_fill; intro X
  refine wpAny_call ?_
  have c1 : NeA vd fd := fun q => ap.1 (fd, _) (.head _) q.symm
  have c2 : NeA vd md := fun q => ap.1 (md, _) (.tail _ (.head _)) q.symm
  have c3 : NeA fd md := fun q => ap.2.1 (md, _) (.head _) q.symm
  have c4 : AllOff vd rest := allOff_of fun p hp => ap.1 p (.tail _ (.tail _ hp))
  have c5 : AllOff fd rest := allOff_of fun p hp => ap.2.1 p (.tail _ hp)
  have c6 : AllOff md rest := allOff_of fun p hp => ap.2.2.1 p hp
  obtain ⟨v1, hv1⟩ := key_there rfl hu1
  obtain ⟨v2, hv2⟩ := key_there rfl hu2
  k_dflt (walk_at "enterW")
  k_steps
  refine Stop.mk ?_
  refine' comp_any (intP fun x => x != u) (fun v y => y = v) ?_ ?_ ?_ ?_ ?_ ?_ ?_ ?_
  walk_at "sides"
  k_steps
  rename Fr _ _ _ _ => lF
  rename News _ _ _ _ => lN
  rename (Obj.data _ = Data.cell (some (Value.int _ _))) => dU
  have cU := fun (h : Heap) st => cell_stays (h' := h) (cell_of lN (by k_mem) dU) st
  refine Stop.mk ⟨ul, ys, rfl, lN.isList (by k_mem), hlen, fun C v s₂ m₂ E' hC hv hn hm hk => ?_, fun C v s₂ m₂ E' hC hv _ hn hm hk => wpAny_mono (ldVarK (C := C) hn hm ⟨rfl, keeps_refl _⟩) (fun _ _ q => q) fun _ _ e => e, fun D3 ys3 n3 h3 tk3 hD hget hp st => ?_⟩
  · obtain ⟨x, t, rfl, -⟩ := ints_mem hi v hv
    exact wpAny_mono (test_ne (fun Q2 q => ldVarK (C := C) hn hm (q _ _)) fun Q2 tk q => ldCellK (C := C) rfl (cU _ hk) (q _ _)) (fun ok s₃ q => q) fun _ _ e => e
  have N4 := news_new lF lN st hD hget
  have F4 := Fr.keeps lF st
  k_dflt have oD3 := allOff_of (off_of_none lN hD)
  walk_at "offs"
  have hys3 : IntsAre ys3 (vu.filter fun x => x != u) := paired_eq hp ▸ ints_filter _ hi
  clear lN lF cU hD hget hp st
  k_steps
  refine Stop.mk ?_
  rename Fr _ _ _ _ => lF
  rename News _ _ _ _ => lN
  refine' kob_pop (knd := intKind _ _) (more := []) lF lN ?U1 d1 (intKind_is _ _ _ _) (.inl rfl) (by rfl) (PySem.F.args_dict_pop_2 _ _) hv1 ?z1 ?_
  case U1 => k_updF
  case z1 => rw [sizeLine_eq]; omega
  intro h5 p1 F5 N5 e1
  (try dsimp only at N5)
  clear lN lF
  k_steps
  refine Stop.mk ?_
  rename Fr _ _ _ _ => lF
  rename News _ _ _ _ => lN
  refine' kob_pop (knd := intKind _ _) (more := []) lF lN ?U2 d2 (intKind_is _ _ _ _) (.inl rfl) (by rfl) (PySem.F.args_dict_pop_2 _ _) hv2 ?z2 ?_
  case U2 => k_updF
  case z2 => rw [sizeLine_eq]; omega
  intro h6 p2 F6 N6 e2
  (try dsimp only at N6)
  clear lN lF
  k_steps
  rename Fr h₀ L _ m => lF
  rename News h₀ L _ _ => lN
  refine' hret _ D3 _ n3 _ _ _ _ lF ?hN ?hA hys3 e1 e2
  case hN =>
    refine news4 ?_ ?_ ?_ (news_cons ?_ (news_sub lN fun p hp => (by k_mem : p ∈ _)))
    · exact lN _ (by k_mem : (vd, _) ∈ _)
    · exact lN _ (by k_mem : (fd, _) ∈ _)
    · exact lN _ (by k_mem : (md, _) ∈ _)
    · exact lN _ (by k_mem : (D3, _) ∈ _)
  case hA =>
    refine' ⟨AllOff.ne ?o1, AllOff.ne ?o2, AllOff.ne ?o3, AllOff.ne ?o4, ap.2.2.2⟩ <;> (try dsimp only [AllOff]) <;> (repeat' (first | exact trivial | refine And.intro ?_ ?_ | assumption | exact NeA.r (by assumption)))
end
theorem zF2 {M : Model} {A : Around} {env : Env} {p : Pos} {Q : Flow → Shared → Prop} {E : Value → Shared → Prop} {s : Shared} (h : wpAny M A (exec (.Pass p) env) Q E s) : wpAny M A (exec (.Pass p) env) Q E s := by
  w_top off
  first | (walk1; fail "z") | exact h
section
variable {w : World} {mean : ExcName → Option Value} {mg mb : Str → Option Value} {dp un : Nat} {gd : Option (List Code)} {cn : Str} {cs : Scope} {a : Addr} {ccd : Value} {cl : List (Str × Addr)} {outer : List Env} {A₀ : Around} {base h₀ : Heap} {L : Addr} {m : Str → Option Value} {s : Shared} {Q E : Value → Shared → Prop} {rest news : List (Addr × Obj)}
  (B : Below A₀ base outer h₀) (F : Fr h₀ L s.heap m) (X : (hd.heap_1 w.params).In h₀) (T : Top Mine.lawView (looseW Mine.lawView [Str.ofString "PostError"]) mean mg mb h₀) (hk : cs.kind = .function)
  (hdp : dp + 3 < recursionLimit) (hu : un + 100 < cLine)
include B F X T hk hdp hu
local macro_rules | `(tactic| walk_at "binaryOp FloorDiv int int") => `(tactic| ((with_reducible show wpAny _ _ (binaryOp _ (Value.int _ _) (Value.int _ _)) _ _ _); refine Stop.out ?_))
local macro_rules | `(tactic| walk_at "exec While Compare") => `(tactic| ((with_reducible show wpAny _ _ (exec (Stmt.While _ _ _ _) _) _ _ _); refine Stop.out ?_))
local macro_rules | `(tactic| walk_at "exec While") => `(tactic| ((with_reducible show wpAny _ _ (exec (Stmt.While _ _ _ _) _) _ _ _); refine Stop.out ?_))
omit B F X T hk hdp hu in
theorem sorted_le {vu : List Int} (hs : vu.Pairwise (· < ·)) {i j : Nat} {x y : Int} (hij : i ≤ j) (hx : vu[i]? = some x) (hy : vu[j]? = some y) : x ≤ y := by
  obtain ⟨h1, e1⟩ := List.getElem?_eq_some_iff.mp hx
  obtain ⟨h2, e2⟩ := List.getElem?_eq_some_iff.mp hy
  rcases Nat.lt_or_eq_of_le hij with h | rfl
  · have := List.pairwise_iff_getElem.mp hs i j h1 h2 h
    omega
  · omega
omit B F X T hk hdp hu in
theorem getD_some {vu : List Int} {i : Nat} (h : i < vu.length) : vu[i]? = some (vu.getD i 0) := by
  rw [List.getD_eq_getElem?_getD]; simp [h]
theorem place_call {ul : Addr} {ys : List Value} {vu : List Int} {n : Nat} {u : Int} {tu : Tok}
    (N : News h₀ L s.heap news) (hul : (ul, listOf ys.toArray n) ∈ news) (hi : IntsAre ys vu) (hlen : vu.length ≤ 1000) (hs : vu.Pairwise (· < ·))
    (hret : ∀ (r : Int) t h' tk', Fr h₀ L h' m → News h₀ L h' news → (u ∈ vu → ∃ j : Nat, r = j ∧ vu[j]? = some u) → (u ∉ vu → r = -1) → Q (.int r t) { s with heap := h', toks := tk' }) :
    wpAny (model PySem.Challenge.rw_nz0296_01.row.prog w) (ktrTop dp un gd cn cs L a ccd cl outer) (call (.ref 88) [.ref ul, .int u tu]) Q E s := by
  revert X; k_fill; intro X
  refine wpAny_call ?_
  k_dflt (walk_at "enterW")
  k_steps
  refine Stop.mk ?_
  rename Fr _ _ _ _ => lF
  rename News _ _ _ _ => lN
  have lN2 := news_drop0 lN
  refine' While_inv (fun k m₁ n₁ => n₁ = news ∧ ∃ (lo hi : Nat) (tl th : Tok) (md : Option Value), m₁ = (fun y => if y = Str.ofString "high" then some (.int hi th) else if y = Str.ofString "low" then some (.int lo tl) else if y = Str.ofString "middle" then md else if y = Str.ofString "uids" then some (.ref ul) else if y = Str.ofString "uid" then some (.int u tu) else none) ∧
    lo ≤ hi ∧ hi ≤ vu.length ∧ k = hi - lo ∧ (∀ j x, j < lo → vu[j]? = some x → x < u) ∧ (∀ j x, hi ≤ j → vu[j]? = some x → u ≤ x)) lF lN2 ⟨rfl, 0, vu.length, ?tl, ?th, none, ?eq, Nat.zero_le _, Nat.le_refl _, rfl, fun j x hj => absurd hj (Nat.not_lt_zero _), fun j x hj hx => absurd hj (Nat.not_le.mpr (List.getElem?_eq_some_iff.mp hx).1)⟩ ?turn
  case eq =>
    funext y
    by_cases e1 : y = Str.ofString "high"
    · subst e1; rfl
    by_cases e2 : y = Str.ofString "low"
    · subst e2; rfl
    by_cases e3 : y = Str.ofString "middle"
    · subst e3; rfl
    by_cases e4 : y = Str.ofString "uids"
    · subst e4; rfl
    by_cases e5 : y = Str.ofString "uid"
    · subst e5; rfl
    rw [if_neg e1, if_neg e2, if_neg e1, if_neg e2, if_neg e3, if_neg e4, if_neg e5]
    show List.lookup y [(Str.ofString "uid", Value.int u tu), (Str.ofString "uids", Value.ref ul)] = none
    simp [List.lookup, beq_false_of_ne e4, beq_false_of_ne e5]
  rintro k m₁ n₁ h₁ tk₁ F₁ N₁ ⟨rfl, lo, hi', tl, th, md, rfl, hlh, hhl, rfl, hlow, hhigh⟩
  clear lF lN lN2
  k_steps
  · refine Stop.mk ?_
    rename ((lo : Int) < (hi' : Int)) => hlt
    have em : Int.fdiv ((lo : Int) + (hi' : Int)) 2 = (((lo + hi') / 2 : Nat) : Int) := by rw [Int.fdiv_eq_ediv_of_nonneg _ (by decide)]; omega
    k_dflt (refine floordiv_int (by decide) ?_ (Or.inl (PyProof.noPylong_small (by omega))))
    rw [em]
    have hm1 : lo ≤ (lo + hi') / 2 := by omega
    have hm2 : (lo + hi') / 2 < hi' := by omega
    generalize (lo + hi') / 2 = mid at hm1 hm2 ⊢
    clear em
    k_steps
    · rename (vu.getD _ _ < u) => q
      have hx := getD_some (vu := vu) (i := mid) (by omega)
      rw [show ((mid : Int)).toNat = mid from rfl] at q
      refine' WhileStep.intro (n' := hi' - (mid + 1)) ?wF ?wN (by omega) ⟨rfl, mid + 1, hi', ?tl2, ?th2, ?md2, ?e22, by omega, hhl, rfl, fun j x hj hx2 => ?lo2, hhigh⟩
      case wF => k_asm
      case wN => k_asm
      case lo2 =>
        have := sorted_le hs (Nat.le_of_lt_succ hj) hx2 hx
        omega
      case e22 =>
        funext y
        by_cases e1 : y = Str.ofString "high"
        · subst e1; rfl
        by_cases e2 : y = Str.ofString "low"
        · subst e2; rfl
        by_cases e3 : y = Str.ofString "middle"
        · subst e3; rfl
        by_cases e4 : y = Str.ofString "uids"
        · subst e4; rfl
        by_cases e5 : y = Str.ofString "uid"
        · subst e5; rfl
        simp [e1, e2, e3, e4, e5]
    · rename (¬ vu.getD _ _ < u) => q
      have hx := getD_some (vu := vu) (i := mid) (by omega)
      rw [show ((mid : Int)).toNat = mid from rfl] at q
      refine' WhileStep.intro (n' := mid - lo) ?wF2 ?wN2 (by omega) ⟨rfl, lo, mid, ?tl3, ?th3, ?md3, ?e33, hm1, by omega, rfl, hlow, fun j x hj hx2 => ?lo3⟩
      case wF2 => k_asm
      case wN2 => k_asm
      case lo3 =>
        have := sorted_le hs hj hx hx2
        omega
      case e33 =>
        funext y
        by_cases e1 : y = Str.ofString "high"
        · subst e1; rfl
        by_cases e2 : y = Str.ofString "low"
        · subst e2; rfl
        by_cases e3 : y = Str.ofString "middle"
        · subst e3; rfl
        by_cases e4 : y = Str.ofString "uids"
        · subst e4; rfl
        by_cases e5 : y = Str.ofString "uid"
        · subst e5; rfl
        simp [e1, e2, e3, e4, e5]
  · rename (vu.getD _ _ = u) => q
    rename ((lo : Int) < (vu.length : Int)) => q2
    have hx := getD_some (vu := vu) (i := lo) (by omega)
    rw [show ((lo : Int)).toNat = lo from rfl] at q
    rw [q] at hx
    exact hret _ _ _ _ (by assumption) (by assumption) (fun _ => ⟨lo, rfl, hx⟩) fun hn => absurd (List.mem_of_getElem? hx) hn
  · rename (vu.getD _ _ ≠ u) => q
    rename ((lo : Int) < (vu.length : Int)) => q2
    rename (¬ (lo : Int) < (hi' : Int)) => q3
    have hx := getD_some (vu := vu) (i := lo) (by omega)
    rw [show ((lo : Int)).toNat = lo from rfl] at q
    have hnot : u ∉ vu := fun hm => by
      obtain ⟨j, hj⟩ := List.getElem?_of_mem hm
      by_cases hjl : j < lo
      · have := hlow j u hjl hj; omega
      · have h1 := sorted_le hs (Nat.le_of_not_lt hjl) hx hj
        have h2 := hhigh lo _ (by omega) hx
        omega
    exact hret _ _ _ _ (by assumption) (by assumption) (fun hm => absurd hm hnot) fun _ => rfl
  · rename (¬ (lo : Int) < (vu.length : Int)) => q2
    have hnot : u ∉ vu := fun hm => by
      obtain ⟨j, hj⟩ := List.getElem?_of_mem hm
      have hjl := (List.getElem?_eq_some_iff.mp hj).1
      have := hlow j u (by omega) hj; omega
    exact hret _ _ _ _ (by assumption) (by assumption) (fun hm => absurd hm hnot) fun _ => rfl
end
theorem zF3 {M : Model} {A : Around} {env : Env} {p : Pos} {Q : Flow → Shared → Prop} {E : Value → Shared → Prop} {s : Shared} (h : wpAny M A (exec (.Pass p) env) Q E s) : wpAny M A (exec (.Pass p) env) Q E s := by
  w_top off
  first | (walk1; fail "z") | exact h
section
variable {w : World} {mean : ExcName → Option Value} {mg mb : Str → Option Value} {dp un : Nat} {gd : Option (List Code)} {cn : Str} {cs : Scope} {a : Addr} {ccd : Value} {cl : List (Str × Addr)} {outer : List Env} {A₀ : Around} {base h₀ : Heap} {L : Addr} {m : Str → Option Value} {s : Shared} {Q E : Value → Shared → Prop} {rest news : List (Addr × Obj)}
  (B : Below A₀ base outer h₀) (F : Fr h₀ L s.heap m) (X : (hd.heap_1 w.params).In h₀) (T : Top Mine.lawView (looseW Mine.lawView [Str.ofString "PostError"]) mean mg mb h₀) (hk : cs.kind = .function)
  (hdp : dp + 6 < recursionLimit) (hu : un + 120 < cLine)
include B F X T hk hdp hu
local macro_rules | `(tactic| walk_at "call ref") => `(tactic| (k_here; (with_reducible show wpAny _ _ (call (Value.ref 88) _) _ _ _); k_dflt (refine' place_call ?cB ?cF ?cX ?cT ?ck ?cd ?cu ?zN ?zul ?zi ?zl ?zs ?_; (case cB => k_asm); (case cF => k_asm); (case cX => k_asm); (case cT => k_asm); (case ck => first | exact rfl | assumption); (case cd => ktr_room); (case cu => k_units); (case zN => k_asm); (case zul => k_mem); (case zi => assumption); (case zl => assumption); (case zs => assumption); k_whole); intro r9 t9 h9 tk9 F9 N9 q1 q2))
theorem number_call {vw vd bx ul fd md : Addr} {ys : List Value} {vu : List Int} {n : Nat} {u : Int} {tu q0 q1 q2 q3 q4 q5 q6 : Tok} {ro um uv : Bool}
    (N : News h₀ L s.heap news) (hvw : (vw, instObj 77 vd) ∈ news) (hvd : (vd, dictOf (viewD w.params q0 q1 q2 q3 q4 q5 q6 bx ro um uv ul fd md) 7) ∈ news)
    (hul : (ul, listOf ys.toArray n) ∈ news) (hi : IntsAre ys vu) (hlen : vu.length ≤ 1000) (hs : vu.Pairwise (· < ·))
    (hret : ∀ (r : Int) t h' tk', Fr h₀ L h' m → News h₀ L h' news → (u ∈ vu → ∃ j : Nat, r = j + 1 ∧ vu[j]? = some u) → (u ∉ vu → r = 0) → Q (.int r t) { s with heap := h', toks := tk' }) :
    wpAny (model PySem.Challenge.rw_nz0296_01.row.prog w) (ktrTop dp un gd cn cs L a ccd cl outer) (call (.ref 48) [.ref vw, .int u tu]) Q E s := by
  revert X; k_fill; intro X
  refine wpAny_call ?_
  k_dflt (walk_at "enterW")
  k_steps
  rename (u ∈ vu → Exists _) => z1
  rename (u ∉ vu → _) => z2
  exact hret _ _ _ _ (by assumption) (by assumption) (fun hm => by obtain ⟨j, e, hj⟩ := z1 hm; exact ⟨j, by rw [e], hj⟩) fun hm => by rw [z2 hm]; rfl
end
theorem zG1 {M : Model} {A : Around} {env : Env} {p : Pos} {Q : Flow → Shared → Prop} {E : Value → Shared → Prop} {s : Shared} (h : wpAny M A (exec (.Pass p) env) Q E s) : wpAny M A (exec (.Pass p) env) Q E s := by
  w_top off
  first | (walk1; fail "z") | exact h
section
variable {w : World} {mean : ExcName → Option Value} {mg mb : Str → Option Value} {dp un : Nat} {gd : Option (List Code)} {cn : Str} {cs : Scope} {a : Addr} {ccd : Value} {cl : List (Str × Addr)} {outer : List Env} {A₀ : Around} {base h₀ : Heap} {L : Addr} {m : Str → Option Value} {s : Shared} {Q E : Value → Shared → Prop} {rest news : List (Addr × Obj)}
  (B : Below A₀ base outer h₀) (F : Fr h₀ L s.heap m) (X : (hd.heap_1 w.params).In h₀) (T : Top Mine.lawView (looseW Mine.lawView [Str.ofString "PostError"]) mean mg mb h₀) (hk : cs.kind = .function)
  (hdp : dp + 6 < recursionLimit) (hu : un + 120 < cLine)
include B F X T hk hdp hu
local macro_rules | `(tactic| walk_at "mapEq") => `(tactic| (funext y; by_cases e1 : y = Str.ofString "out"; (subst e1; rfl); by_cases e2 : y = Str.ofString "number"; (subst e2; rfl); by_cases e3 : y = Str.ofString "numbers"; (subst e3; rfl); simp [e1, e2, e3]))
local macro_rules | `(tactic| walk_at "offEnd") => `(tactic| (refine AllOff.ne ?_; (try dsimp only [AllOff]); (repeat' (first | exact trivial | refine And.intro ?_ ?_ | assumption | exact NeA.l (by assumption) | exact NeA.r (by assumption) | (show @Ne Nat _ _; omega)))))
local macro_rules | `(tactic| walk_at "call builtin:len") => `(tactic| (k_here; (with_reducible show wpAny _ _ (call (Value.builtin "len") [Value.ref _]) _ _ _); k_dflt (refine' len_any ?l ?z ?_; (case l => exact News.isList (by k_asm) (by k_mem)); (case z => assumption)); intro _ _))
local macro_rules | `(tactic| walk_at "subscriptTail") => `(tactic| (k_here; (with_reducible show wpAny _ _ (subscriptTail _ _ (Value.ref _) (Value.int (-1) _)) _ _ _); k_dflt (refine' item_last ?l ?z ?_ ?hs; (case l => exact News.isList (by k_asm) (by k_mem)); (case z => assumption); (case hs => with_unfolding_all rfl))))
local macro_rules | `(tactic| walk_at "setItem ref int") => `(tactic| (k_here; (with_reducible show wpAny _ _ (setItem (Value.ref _) (Value.int (-1) _) _) _ _ _); k_dflt (refine' set_last ?F ?N ?z ?U ?_; (case F => k_asm); (case N => k_asm); (case z => assumption); (case U => k_upd)); intro h' F' N'; (try dsimp only [List.nil_append, List.cons_append] at N')))
local macro_rules | `(tactic| walk_at "exec For Name Name cons nil") => `(tactic| ((with_reducible show wpAny _ _ (exec (Stmt.For _ _ _ _ _) _) _ _ _); refine Stop.out ?_))
theorem ranges_call {al : Addr} {zs : List Value} {ns : List Int} {n : Nat}
    (hal : s.heap.get? al = some (listOf zs.toArray n)) (hi : IntsAre zs ns) (hlen : ns.length ≤ 1000) (hs : ns.Pairwise (· < ·))
    (hret : ∀ T vs led h' tk', Fr h₀ L h' m → s.heap.StaysIn h' → News h₀ L h' ((T, tupOf vs) :: led) → PairsIn led vs (runs ns) → (∀ p ∈ (T, tupOf vs) :: led, s.heap.get? p.1 = none) → Q (.ref T) { s with heap := h', toks := tk' }) :
    wpAny (model PySem.Challenge.rw_nz0296_01.row.prog w) (ktrTop dp un gd cn cs L a ccd cl outer) (call (.ref 28) [.ref al]) Q E s := by
  revert X; k_fill; intro X
  refine wpAny_call ?_
  k_dflt (walk_at "enterP")
  rename Heap.StaysIn _ _ => st9
  rename Fr h₀ L _ m => FG
  rename Below (ktrTop dp un gd cn cs L a ccd cl outer) _ _ _ => BG
  have hT := st9 _ _ hal
  (try dsimp only)
  (try k_fold)
  k_steps
  walk_at "forName"
  rename Fr _ _ _ _ => lF
  rename News _ _ _ _ => lN
  k_dflt (refine' iter_listB (vs := zs) (fun i m₁ n₁ => ∃ vs led e o num, n₁ = (o, listOf (List.toArray vs) e) :: led ∧ PairsIn led vs (runs (ns.take i)) ∧ (∀ p ∈ led, p.1 ≠ o) ∧ m₁ = fun y => if y = Str.ofString "out" then some (.ref o) else if y = Str.ofString "number" then num else if y = Str.ofString "numbers" then some (.ref al) else none) ?hh ?hl lF lN ?hj ?turn ?done)
  case hh => rfl
  case hl => exact ⟨_, hT, rfl, _, rfl⟩
  case hj =>
    refine ⟨[], [], _, _, none, rfl, by simpa [runs] using PairsIn.nil, fun p hp => (nomatch hp), ?_⟩
    funext y
    by_cases e1 : y = Str.ofString "out"
    · subst e1; rfl
    by_cases e2 : y = Str.ofString "number"
    · subst e2; rfl
    by_cases e3 : y = Str.ofString "numbers"
    · subst e3; rfl
    rw [if_neg e1, if_neg e1, if_neg e2, if_neg e3]
    show List.lookup y [(Str.ofString "numbers", Value.ref al)] = none
    simp [List.lookup, beq_false_of_ne e3]
  case turn =>
    rintro i v m₁ n₁ h1 tk1 I oI hv ⟨vs, led, e, o, num, rfl, hp, ho, rfl⟩ off1 F1 N1
    clear lF lN
    obtain ⟨x, t, rfl, hx⟩ := ints_at hi hv
    have hil : i < ns.length := (List.getElem?_eq_some_iff.mp hx).1
    have hvl : vs.length ≤ 1000 := by rw [hp.length]; exact Nat.le_trans (runs_length _) (by rw [List.length_take]; omega)
    have et := take_snoc hx
    replace off1 := allOff_of off1; walk_at "offs"
    have hoA := allOff_of ho
    rcases hp.cases with ⟨rfl, hl⟩ | ⟨vs', l', T, a9, b9, ta, tb, rfl, hl, hp', hT9⟩
    · k_steps
      rename Fr _ _ _ _ => lF
      rename News _ _ _ _ => lN
      rename (_ < _ ∧ _) => l1
      (try simp only [List.push_toArray, List.nil_append] at lN)
      refine TurnOut.intro _ lF (news_mv3 lN) ?off0 ⟨_, _, _, o, some (.int x t), rfl, ?pp0, ?hh0, ?eq0⟩
      case eq0 => walk_at "mapEq"
      case pp0 =>
        rw [et, runs_snoc, runs_step0 hl]
        exact .cons (.head _) .nil
      case off0 => walk_at "offEnd"
      case hh0 => walk_at "offEnd"
    · have hvl' : vs'.length ≤ 1000 := by simp at hvl; omega
      k_steps
      · rename Fr _ _ _ _ => lF
        rename News _ _ _ _ => lN
        rename (_ < _ ∧ _) => l1
        (try simp only [List.push_toArray, List.nil_append] at lN)
        refine TurnOut.intro _ lF (news_mv3 lN) ?off1 ⟨_, _, _, o, some (.int x t), rfl, ?pp1, ?hh1, ?eq1⟩
        case eq1 => walk_at "mapEq"
        case pp1 =>
          have hb := last_lt hs hx (runs_last hl)
          rw [et, runs_snoc, runs_step1 hl (by omega)]
          exact PairsIn.snoc (.head _) (hp'.more fun p q => .tail _ q)
        case off1 => walk_at "offEnd"
        case hh1 => walk_at "offEnd"
      · rename Fr _ _ _ _ => lF
        rename News _ _ _ _ => lN
        rename (_ < _ ∧ _) => l1
        (try simp only [List.push_toArray, List.nil_append] at lN)
        refine TurnOut.intro _ lF (news_mv3 lN) ?off2 ⟨_, _, _, o, some (.int x t), rfl, ?pp2, ?hh2, ?eq2⟩
        case eq2 => walk_at "mapEq"
        case pp2 =>
          have hb := last_lt hs hx (runs_last hl)
          rw [et, runs_snoc, runs_step2 hl (by omega)]
          exact PairsIn.snoc (.head _) (hp.more fun p q => .tail _ q)
        case off2 => walk_at "offEnd"
        case hh2 => walk_at "offEnd"
      · rename (¬ _ < _) => z9
        rw [List.length_append, List.length_singleton] at z9
        omega
  case done =>
    rintro m₁ n₁ h tk ⟨vs, led, e, o, num, rfl, hp, ho, rfl⟩ F1 N1
    clear lF lN
    rw [hi.length, List.take_length] at hp
    have hvl : vs.length ≤ 1000 := by rw [hp.length]; exact Nat.le_trans (runs_length _) hlen
    k_steps
    rename News h₀ L _ _ => kN
    exact hret _ vs ((o, _) :: led) _ _ (by assumption) (by assumption) kN (hp.more fun p q => .tail _ q) fun p q => none_of_new st9 (by assumption : News _ _ _ ((_, tupOf vs) :: (o, _) :: led)) (o := p.2) q
end
theorem zG2 {M : Model} {A : Around} {env : Env} {p : Pos} {Q : Flow → Shared → Prop} {E : Value → Shared → Prop} {s : Shared} (h : wpAny M A (exec (.Pass p) env) Q E s) : wpAny M A (exec (.Pass p) env) Q E s := by
  w_top off
  first | (walk1; fail "z") | exact h
section
variable {w : World} {mean : ExcName → Option Value} {mg mb : Str → Option Value} {dp un : Nat} {gd : Option (List Code)} {cn : Str} {cs : Scope} {a : Addr} {ccd : Value} {cl : List (Str × Addr)} {outer : List Env} {A₀ : Around} {base h₀ : Heap} {L : Addr} {m : Str → Option Value} {s : Shared} {Q E : Value → Shared → Prop} {rest news : List (Addr × Obj)}
  (B : Below A₀ base outer h₀) (F : Fr h₀ L s.heap m) (X : (hd.heap_1 w.params).In h₀) (T : Top Mine.lawView (looseW Mine.lawView [Str.ofString "PostError"]) mean mg mb h₀) (hk : cs.kind = .function)
  (hdp : dp + 6 < recursionLimit) (hu : un + 120 < cLine)
include B F X T hk hdp hu
local macro_rules | `(tactic| walk_at "mapEq") => `(tactic| (funext y; by_cases e1 : y = Str.ofString "found"; (subst e1; rfl); by_cases e2 : y = Str.ofString "uid"; (subst e2; rfl); by_cases e3 : y = Str.ofString "some"; (subst e3; rfl); simp [e1, e2, e3]))
local macro_rules | `(tactic| walk_at "offEnd") => `(tactic| (refine AllOff.ne ?_; (try dsimp only [AllOff]); (repeat' (first | exact trivial | refine And.intro ?_ ?_ | assumption | exact NeA.l (by assumption) | exact NeA.r (by assumption) | (show @Ne Nat _ _; omega)))))
local macro_rules | `(tactic| walk_at "call builtin:len") => `(tactic| (k_here; (with_reducible show wpAny _ _ (call (Value.builtin "len") [Value.ref _]) _ _ _); k_dflt (refine' len_any ?l ?z ?_; (case l => exact News.isList (by k_asm) (by k_mem)); (case z => assumption)); intro _ _))
local macro_rules | `(tactic| walk_at "subscriptTail") => `(tactic| (k_here; (with_reducible show wpAny _ _ (subscriptTail _ _ (Value.ref _) (Value.int (-1) _)) _ _ _); k_dflt (refine' item_last ?l ?z ?_ ?hs; (case l => exact News.isList (by k_asm) (by k_mem)); (case z => assumption); (case hs => with_unfolding_all rfl))))
local macro_rules | `(tactic| walk_at "compareOp NotEq ref ref") => `(tactic| (k_here; (with_reducible show wpAny _ _ (compareOp CmpOp.NotEq (Value.ref _) (Value.ref _)) _ _ _); k_dflt (refine' pairs_ne ?N ?a ?p ?s ?b ?u ?_; (case N => k_asm); (case p => exact (by assumption : PairsIn _ (_ ++ _) _)); (case a => k_mem); (case s => exact fun p hp => by k_mem); (case b => k_mem); (case u => k_units))))
local macro_rules | `(tactic| walk_at "setItem ref int") => `(tactic| (k_here; (with_reducible show wpAny _ _ (setItem (Value.ref _) (Value.int (-1) _) _) _ _ _); k_dflt (refine' set_last ?F ?N ?z ?U ?_; (case F => k_asm); (case N => k_asm); (case z => assumption); (case U => k_upd)); intro h' F' N'; (try dsimp only [List.nil_append, List.cons_append] at N')))
local macro_rules | `(tactic| walk_at "exec For Name Name cons nil") => `(tactic| ((with_reducible show wpAny _ _ (exec (Stmt.For _ _ _ _ _) _) _ _ _); refine Stop.out ?_))
theorem law_ranges_call {al : Addr} {zs : List Value} {ns : List Int} {n : Nat}
    (hal : s.heap.get? al = some (listOf zs.toArray n)) (hi : IntsAre zs ns) (hlen : ns.length ≤ 1000) (hs : ns.Pairwise (· < ·))
    (hret : ∀ T vs e led h' tk', Fr h₀ L h' m → s.heap.StaysIn h' → News h₀ L h' ((T, listOf (List.toArray vs) e) :: led) → PairsIn led vs (runs ns) → (∀ p ∈ (T, listOf (List.toArray vs) e) :: led, s.heap.get? p.1 = none) → Q (.ref T) { s with heap := h', toks := tk' }) :
    wpAny (model PySem.Challenge.rw_nz0296_01.row.prog w) (ktrTop dp un gd cn cs L a ccd cl outer) (call (.ref 286) [.ref al]) Q E s := by
  revert X; k_fill; intro X
  refine wpAny_call ?_
  k_dflt (walk_at "enterP")
  rename Heap.StaysIn _ _ => st9
  rename Fr h₀ L _ m => FG
  rename Below (ktrTop dp un gd cn cs L a ccd cl outer) _ _ _ => BG
  have hT := st9 _ _ hal
  (try dsimp only)
  (try k_fold)
  k_steps
  walk_at "forName"
  rename Fr _ _ _ _ => lF
  rename News _ _ _ _ => lN
  k_dflt (refine' iter_listB (vs := zs) (fun i m₁ n₁ => ∃ vs led e o num, n₁ = (o, listOf (List.toArray vs) e) :: led ∧ PairsIn led vs (runs (ns.take i)) ∧ (∀ p ∈ led, p.1 ≠ o) ∧ m₁ = fun y => if y = Str.ofString "found" then some (.ref o) else if y = Str.ofString "uid" then num else if y = Str.ofString "some" then some (.ref al) else none) ?hh ?hl lF lN ?hj ?turn ?done)
  case hh => rfl
  case hl => exact ⟨_, hT, rfl, _, rfl⟩
  case hj =>
    refine ⟨[], [], _, _, none, rfl, by simpa [runs] using PairsIn.nil, fun p hp => (nomatch hp), ?_⟩
    funext y
    by_cases e1 : y = Str.ofString "found"
    · subst e1; rfl
    by_cases e2 : y = Str.ofString "uid"
    · subst e2; rfl
    by_cases e3 : y = Str.ofString "some"
    · subst e3; rfl
    rw [if_neg e1, if_neg e1, if_neg e2, if_neg e3]
    show List.lookup y [(Str.ofString "some", Value.ref al)] = none
    simp [List.lookup, beq_false_of_ne e3]
  case turn =>
    rintro i v m₁ n₁ h1 tk1 I oI hv ⟨vs, led, e, o, num, rfl, hp, ho, rfl⟩ off1 F1 N1
    clear lF lN
    obtain ⟨x, t, rfl, hx⟩ := ints_at hi hv
    have hil : i < ns.length := (List.getElem?_eq_some_iff.mp hx).1
    have hvl : vs.length ≤ 1000 := by rw [hp.length]; exact Nat.le_trans (runs_length _) (by rw [List.length_take]; omega)
    have et := take_snoc hx
    replace off1 := allOff_of off1; walk_at "offs"
    have hoA := allOff_of ho
    rcases hp.cases with ⟨rfl, hl⟩ | ⟨vs', l', T, a9, b9, ta, tb, rfl, hl, hp', hT9⟩
    · k_steps
      rename Fr _ _ _ _ => lF
      rename News _ _ _ _ => lN
      rename (_ < _ ∧ _) => l1
      (try simp only [List.push_toArray, List.nil_append] at lN)
      refine TurnOut.intro _ lF (news_mv4 lN) ?off0 ⟨_, _, _, o, some (.int x t), rfl, ?pp0, ?hh0, ?eq0⟩
      case eq0 => walk_at "mapEq"
      case pp0 =>
        rw [et, runs_snoc, runs_step0 hl]
        exact .cons (.head _) .nil
      case off0 => walk_at "offEnd"
      case hh0 => walk_at "offEnd"
    · have hvl' : vs'.length ≤ 1000 := by simp at hvl; omega
      k_steps
      · rename (List.isEmpty _ = true) => z9
        rw [hl] at z9
        simp at z9
      · rename Fr _ _ _ _ => lF
        rename News _ _ _ _ => lN
        rename (_ < _ ∧ _) => l1
        (try simp only [List.push_toArray, List.nil_append] at lN)
        refine TurnOut.intro _ lF (news_mv4 lN) ?off2 ⟨_, _, _, o, some (.int x t), rfl, ?pp2, ?hh2, ?eq2⟩
        case eq2 => walk_at "mapEq"
        case pp2 =>
          have hb := last_lt hs hx (runs_last hl)
          rw [et, runs_snoc, runs_step1 hl (by omega)]
          exact PairsIn.snoc (.head _) (hp'.more fun p q => .tail _ q)
        case off2 => walk_at "offEnd"
        case hh2 => walk_at "offEnd"
      · rename Fr _ _ _ _ => lF
        rename News _ _ _ _ => lN
        rename (_ < _ ∧ _) => l1
        (try simp only [List.push_toArray, List.nil_append] at lN)
        refine TurnOut.intro _ lF (news_mv4 lN) ?off1 ⟨_, _, _, o, some (.int x t), rfl, ?pp1, ?hh1, ?eq1⟩
        case eq1 => walk_at "mapEq"
        case pp1 =>
          have hb := last_lt hs hx (runs_last hl)
          rw [et, runs_snoc, runs_step2 hl (by omega)]
          exact PairsIn.snoc (.head _) (hp.more fun p q => .tail _ q)
        case off1 => walk_at "offEnd"
        case hh1 => walk_at "offEnd"
  case done =>
    rintro m₁ n₁ h tk ⟨vs, led, e, o, num, rfl, hp, ho, rfl⟩ F1 N1
    clear lF lN
    rw [hi.length, List.take_length] at hp
    have hvl : vs.length ≤ 1000 := by rw [hp.length]; exact Nat.le_trans (runs_length _) hlen
    k_steps
    rename News h₀ L _ _ => kN
    exact hret _ vs _ led _ _ (by assumption) (by assumption) kN hp fun p q => none_of_new st9 (by assumption : News _ _ _ ((o, _) :: led)) (o := p.2) q
end
theorem zF5 {M : Model} {A : Around} {env : Env} {p : Pos} {Q : Flow → Shared → Prop} {E : Value → Shared → Prop} {s : Shared} (h : wpAny M A (exec (.Pass p) env) Q E s) : wpAny M A (exec (.Pass p) env) Q E s := by
  w_top off
  first | (walk1; fail "z") | exact h
section
variable {w : World} {mean : ExcName → Option Value} {mg mb : Str → Option Value} {dp un : Nat} {gd : Option (List Code)} {cn : Str} {cs : Scope} {a : Addr} {ccd : Value} {cl : List (Str × Addr)} {outer : List Env} {A₀ : Around} {base h₀ : Heap} {L : Addr} {m : Str → Option Value} {s : Shared} {Q E : Value → Shared → Prop} {rest news : List (Addr × Obj)}
  (B : Below A₀ base outer h₀) (F : Fr h₀ L s.heap m) (X : (hd.heap_1 w.params).In h₀) (T : Top Mine.lawView (looseW Mine.lawView [Str.ofString "PostError"]) mean mg mb h₀) (hk : cs.kind = .function)
  (hdp : dp + 12 < recursionLimit) (hu : un + 160 < cLine)
include B F X T hk hdp hu
local macro_rules | `(tactic| walk_at "mapEq") => `(tactic| (funext y; by_cases e1 : y = Str.ofString "answers"; (subst e1; rfl); by_cases e2 : y = Str.ofString "gone"; (subst e2; rfl); by_cases e3 : y = Str.ofString "uid"; (subst e3; rfl); by_cases e4 : y = Str.ofString "view"; (subst e4; rfl); simp [e1, e2, e3, e4]))
local macro_rules | `(tactic| walk_at "offEnd") => `(tactic| ((try dsimp only [AllOff]); (repeat' (first | exact trivial | refine And.intro ?_ ?_ | assumption | exact NeA.l (by assumption) | exact NeA.r (by assumption) | (show @Ne Nat _ _; omega)))))
local macro_rules | `(tactic| walk_at "exec For Name Name cons nil") => `(tactic| ((with_reducible show wpAny _ _ (exec (Stmt.For _ _ _ _ _) _) _ _ _); refine Stop.out ?_))
local macro_rules | `(tactic| walk_at "call ref") => `(tactic| ((with_reducible show wpAny _ _ (call (Value.ref 93) _) _ _ _); refine Stop.out ?_))
local macro_rules | `(tactic| walk_at "call ref") => `(tactic| ((with_reducible show wpAny _ _ (call (Value.ref 98) _) _ _ _); refine Stop.out ?_))
local macro_rules | `(tactic| walk_at "call ref") => `(tactic| ((with_reducible show wpAny _ _ (call (Value.ref 48) _) _ _ _); refine Stop.out ?_))
local macro_rules | `(tactic| walk_at "call ref") => `(tactic| ((with_reducible show wpAny _ _ (call (Value.ref 28) _) _ _ _); refine Stop.out ?_))
theorem news_call_f {vw vd bx bd la ga ul fd md : Addr} {vs ys : List Value} {us vu : List Int} {kf km : List (Int × Value)} {o1 o2 : Obj} {nm vl nu tp fl : Value} {k0 k1 k2 k3 k4 k5 k6 q0 q1 q2 q3 q4 q5 q6 : Tok} {e n : Nat} {ro um : Bool}
    (N : News h₀ L s.heap ((vd, dictOf (viewD w.params q0 q1 q2 q3 q4 q5 q6 bx ro um false ul fd md) 7) :: (fd, o1) :: (md, o2) :: rest))
    (ap : ApartN 3 ((vd, dictOf (viewD w.params q0 q1 q2 q3 q4 q5 q6 bx ro um false ul fd md) 7) :: (fd, o1) :: (md, o2) :: rest))
    (hvw : (vw, instObj 77 vd) ∈ rest) (hbx : (bx, instObj 242 bd) ∈ rest) (hbd : (bd, dictOf (boxD w.params k0 k1 k2 k3 k4 k5 k6 nm vl nu tp fl la ga) 7) ∈ rest) (hla : (la, listOf vs.toArray e) ∈ rest)
    (hul : (ul, listOf ys.toArray n) ∈ rest) (hL : LettersIn w.params rest vs us) (hi : IntsAre ys vu) (hnd : us.Nodup) (hlen : vs.length ≤ 500) (hlen2 : vu.length ≤ 500) (hs : vu.Pairwise (· < ·))
    (d1 : o1.IsDictOf (intKind PySem.Challenge.rw_nz0296_01.row.prog w) kf) (d2 : o2.IsDictOf (intKind PySem.Challenge.rw_nz0296_01.row.prog w) km) (e1 : kf.map (·.1) = vu) (e2 : km.map (·.1) = vu)
    (hret : ∀ D as ea ul' zs n' o1' o2' kf' km' tl h' tk', Fr h₀ L h' m →
      News h₀ L h' ((vd, dictOf (viewD w.params q0 q1 q2 q3 q4 q5 q6 bx ro um false ul' fd md) 7) :: (fd, o1') :: (md, o2') :: (tl ++ rest)) →
      (∀ p ∈ tl, ∀ q ∈ (vd, dictOf (viewD w.params q0 q1 q2 q3 q4 q5 q6 bx ro um false ul fd md) 7) :: (fd, o1) :: (md, o2) :: rest, p.1 ≠ q.1) →
      (D, listOf (List.toArray as) ea) ∈ tl → (ul', listOf (List.toArray zs) n') ∈ (ul, listOf ys.toArray n) :: tl → IntsAre zs (vu.filter fun x => us.contains x) →
      o1'.IsDictOf (intKind PySem.Challenge.rw_nz0296_01.row.prog w) kf' → o2'.IsDictOf (intKind PySem.Challenge.rw_nz0296_01.row.prog w) km' → kf'.map (·.1) = (vu.filter fun x => us.contains x) → km'.map (·.1) = (vu.filter fun x => us.contains x) →
      (∃ ks, ToldNum vu (vu.filter fun u => !us.contains u) ks ∧ DatAll tl as (ks.map numDat)) → Q (.ref D) { s with heap := h', toks := tk' }) :
    wpAny (model PySem.Challenge.rw_nz0296_01.row.prog w) (ktrTop dp un gd cn cs L a ccd cl outer) (call (.ref 105) [.ref vw]) Q E s := by
  revert X; k_fill; intro X
  refine wpAny_call ?_
  have c1 : NeA vd fd := fun q => ap.1 (fd, _) (.head _) q.symm
  have c2 : NeA vd md := fun q => ap.1 (md, _) (.tail _ (.head _)) q.symm
  have c3 : NeA fd md := fun q => ap.2.1 (md, _) (.head _) q.symm
  have c4 : AllOff vd rest := allOff_of fun p hp => ap.1 p (.tail _ (.tail _ hp))
  have c5 : AllOff fd rest := allOff_of fun p hp => ap.2.1 p (.tail _ hp)
  have c6 : AllOff md rest := allOff_of fun p hp => ap.2.2.1 p hp
  k_dflt (walk_at "enterW")
  k_steps
  refine Stop.mk ?_
  rename Fr _ _ _ _ => lF
  rename News _ _ _ _ => lN
  have a1 := News.get lN (by k_mem : (vw, instObj 77 vd) ∈ _)
  have a2 := News.get lN (by k_mem : (vd, _) ∈ _)
  have a3 := News.get lN (by k_mem : (bx, instObj 242 bd) ∈ _)
  have a4 := News.get lN (by k_mem : (bd, _) ∈ _)
  have a5 := News.get lN (by k_mem : (la, listOf vs.toArray e) ∈ _)
  have a6 := News.get lN (by k_mem : (ul, listOf ys.toArray n) ∈ _)
  have a7 := LettersIn.at lN (hL.more fun p hp => (by k_mem : p ∈ _))
  k_dflt (refine' gone_call ?cB ?cF ?cX ?cT ?ck ?cd ?cu a1 a2 a3 a4 a5 a6 a7 hi hnd (by omega) (by rw [hi.length]; omega) ?_; (case cB => k_asm); (case cF => k_asm); (case cX => k_asm); (case cT => k_asm); (case ck => first | exact rfl | assumption); (case cd => ktr_room); (case cu => k_units))
  intro gl gs ng h2 tk2 F2 st2 fr2 n2 hgs
  k_dflt have ou := allOff_of (off_of_none lN fr2)
  walk_at "offs"
  k_dflt have N2 := News.append n2 (News.grown lN st2)
  simp only [List.cons_append, List.nil_append] at N2
  clear n2 st2 fr2 a1 a2 a3 a4 a5 a6 a7 lN lF
  generalize hgone : (vu.filter fun u => !us.contains u) = gone at hgs
  k_steps
  walk_at "forName"
  rename Fr _ _ _ _ => lF
  rename News _ _ _ _ => lN
  rename (_ < _ ∧ _) => lal
  rename_i al h3 h4
  rename AllOff gl rest => ogl
  have bal := allOff_lt lal.2.2.2.2
  have bg : NeA gl al := Nat.ne_of_lt lal.1
  have bv : NeA vd al := Nat.ne_of_lt lal.2.1
  have bf : NeA fd al := Nat.ne_of_lt lal.2.2.1
  have bm : NeA md al := Nat.ne_of_lt lal.2.2.2.1
  have lM := news_sub (l' := (al, listOf [].toArray 0) :: (vd, dictOf (viewD w.params q0 q1 q2 q3 q4 q5 q6 bx ro um false ul fd md) 7) :: (fd, o1) :: (md, o2) :: (gl, listOf gs.toArray ng) :: rest) lN (by walk_at "sub")
  clear lN
  k_dflt (refine' iter_listJ (vs := gs) (ep := ng) (NewsF w (fun u => dictOf (viewD w.params q0 q1 q2 q3 q4 q5 q6 bx ro um false u fd md) 7) vw vd fd md al gl ul (listOf gs.toArray ng) (listOf ys.toArray n) vu gone rest (fun i tl as => ∃ ks, ToldNum vu (gone.take i) ks ∧ DatAll tl as (ks.map numDat))) ?hh ?hl lF lM ?hj ?hsrc ?turn ?done)
  case hh => rfl
  case hl => simp
  case hj =>
    refine .mk [] 0 ul ys n o1 o2 kf km [] none rfl trivial trivial trivial trivial (fun p hp => (nomatch hp)) (.head _) ?_ d1 d2 ?_ ?_ ⟨[], .nil, .nil⟩ (newsF_map0 rfl)
    · rw [List.take_zero, without_none]; exact hi
    · rw [List.take_zero, without_none]; exact e1
    · rw [List.take_zero, without_none]; exact e2
  case hsrc =>
    rintro i m₁ n₁ ⟨as, ea, ul1, zs, nz, o1', o2', kf', km', tl, num, rfl⟩
    simp
  case turn =>
    rintro i v m₁ n₁ h1 tk1 I oI hv ⟨as, ea, ul1, zs, nz, o1', o2', kf', km', tl, num, rfl, oa, ov, of, om, fr, mul, iz, D1, D2, E1, E2, ⟨ks, tn, td⟩, rfl⟩ off1 F1 N1
    clear lF lM
    obtain ⟨x, t, rfl, hx⟩ := ints_at hgs hv
    have hin := uid_here hs _ hgone hx
    have hnx := without_next (vu := vu) hx
    have hzl : (vu.filter fun x => !(gone.take i).contains x).length ≤ 500 := Nat.le_trans (List.length_filter_le _ _) hlen2
    have hsz := asc_filter (fun x => !(gone.take i).contains x) hs
    have hksl : ks.length ≤ 500 := by
      rw [tn.length, List.length_take]
      have : gone.length ≤ vu.length := hgone ▸ List.length_filter_le _ _
      omega
    have hasl : as.length ≤ 500 := by rw [td.length, List.length_map]; exact hksl
    generalize hV : (vu.filter fun x => !(gone.take i).contains x) = V at iz E1 E2 hin hzl hsz hnx
    have mul2 : (ul1, listOf (List.toArray zs) nz) ∈ tl ++ ((gl, listOf gs.toArray ng) :: rest) := by
      rcases List.mem_cons.mp mul with h | h
      · rw [h]; exact List.mem_append_right _ (.tail _ hul)
      · exact List.mem_append_left _ h
    have r1 : (vw, instObj 77 vd) ∈ tl ++ ((gl, listOf gs.toArray ng) :: rest) := List.mem_append_right _ (.tail _ hvw)
    have r2 : (gl, listOf gs.toArray ng) ∈ tl ++ ((gl, listOf gs.toArray ng) :: rest) := List.mem_append_right _ (.head _)
    have pa : AllOff al (tl ++ ((gl, listOf gs.toArray ng) :: rest)) := oa.app ⟨bg, bal⟩
    have pv : AllOff vd (tl ++ ((gl, listOf gs.toArray ng) :: rest)) := ov.app ⟨(by assumption : NeA vd gl).r, c4⟩
    have pf : AllOff fd (tl ++ ((gl, listOf gs.toArray ng) :: rest)) := of.app ⟨(by assumption : NeA fd gl).r, c5⟩
    have pm : AllOff md (tl ++ ((gl, listOf gs.toArray ng) :: rest)) := om.app ⟨(by assumption : NeA md gl).r, c6⟩
    obtain ⟨r3, hr3⟩ : ∃ r3, r3 = tl ++ ((gl, listOf gs.toArray ng) :: rest) := ⟨_, rfl⟩
    rw [← hr3] at r1 r2 pa pv pf pm mul2 N1
    replace off1 := allOff_of off1
    rw [← hr3] at off1
    walk_at "offs"
    k_steps
    refine Stop.mk ?_
    k_dflt (refine' number_call (vu := V) ?cB ?cF ?cX ?cT ?ck ?cd ?cu N1 (by k_mem) (by k_mem) (by k_mem) iz (by omega) hsz ?_; (case cB => k_asm); (case cF => k_asm); (case cX => k_asm); (case cT => k_asm); (case ck => first | exact rfl | assumption); (case cd => ktr_room); (case cu => k_units))
    intro r9 t9 h9 tk9 F9 N9 w1 _
    obtain ⟨j, rfl, hj⟩ := w1 hin
    clear w1 N1 F1
    k_steps
    refine Stop.mk ?_
    rename Fr _ _ _ _ => lF
    rename News _ _ _ _ => lN
    rename (_ < _ ∧ _) => l1
    (try simp only [List.push_toArray] at lN)
    rename_i T9 h6 h7
    k_dflt (refine' forget_call (vu := V) ?cB lF ?cX ?cT ?ck ?cd ?cu (news_f1 lN) ?ap ?hvw ?hul iz (by rw [iz.length]; omega) D1 D2 (by rw [E1]; exact hin) (by rw [E2]; exact hin) (by rw [← List.length_map (f := (·.1)), E1]; omega) (by rw [← List.length_map (f := (·.1)), E2]; omega) ?_; (case cB => k_asm); (case cX => k_asm); (case cT => k_asm); (case ck => first | exact rfl | assumption); (case cd => ktr_room); (case cu => k_units); (case hvw => k_mem); (case hul => k_mem))
    case ap =>
      refine ⟨AllOff.ne ?_, AllOff.ne ?_, AllOff.ne ?_, trivial⟩ <;> (try dsimp only [AllOff]) <;> (repeat' (first | exact trivial | refine And.intro ?_ ?_ | assumption | exact NeA.l (by assumption) | exact NeA.r (by assumption) | (show @Ne Nat _ _; omega)))
    intro rv ul2 zs2 nz2 o12 o22 h8 tk8 F8 N8 ap8 iz2 D12 D22
    clear lF lN
    k_steps
    subst hr3
    have t1 : AllOff T9 (tl ++ ((gl, listOf gs.toArray ng) :: rest)) := allOff_lt l1.2.2.2.2.2
    have u1 := ap8.2.2.2.1
    have u2 : ∀ q ∈ tl ++ ((gl, listOf gs.toArray ng) :: rest), q.1 ≠ ul2 := fun q hq => u1 q (.tail _ (.tail _ (.tail _ hq)))
    have uA : NeA al ul2 := u1 (al, _) (.tail _ (.tail _ (.head _)))
    have uI : NeA I ul2 := u1 (I, _) (.tail _ (.head _))
    have uv : NeA ul2 vd := ap8.1 (ul2, _) (.tail _ (.tail _ (.head _)))
    have uf : NeA ul2 fd := ap8.2.1 (ul2, _) (.tail _ (.head _))
    have um : NeA ul2 md := ap8.2.2.1 (ul2, _) (.head _)
    have hI : AllOff I tl := allOff_of fun p hp => AllOff.ne (by assumption : AllOff I (tl ++ ((gl, listOf gs.toArray ng) :: rest))) p (List.mem_append_left _ hp)
    have hI2 : AllOff I ((gl, listOf gs.toArray ng) :: rest) := allOff_of fun p hp => AllOff.ne (by assumption : AllOff I (tl ++ ((gl, listOf gs.toArray ng) :: rest))) p (List.mem_append_right _ hp)
    have nT1 : NeA al T9 := Nat.ne_of_lt l1.2.1
    have nT2 : NeA vd T9 := Nat.ne_of_lt l1.2.2.1
    have nT3 : NeA fd T9 := Nat.ne_of_lt l1.2.2.2.1
    have nT4 : NeA md T9 := Nat.ne_of_lt l1.2.2.2.2.1
    have nT5 : NeA I T9 := Nat.ne_of_lt l1.1
    refine TurnOut.intro _ F8 (news_f3 N8) (AllOff.ne ?off) (.mk (as ++ [.ref T9]) _ ul2 zs2 nz2 o12 o22 _ _ ((ul2, _) :: (T9, _) :: tl) (some (.int x t)) rfl ?b1 ?b2 ?b3 ?b4 ?b5 (.tail _ (.head _)) ?b6 D12 D22 ?b7 ?b8 ⟨ks ++ [((j : Int) + 1)], ?b9, ?b10⟩ ?b11)
    case off =>
      have z := AllOff.app (l := (ul2, listOf (List.toArray zs2) nz2) :: (T9, tupOf [.str (Str.ofString "expunge") 0, .int 0 0]) :: tl) ⟨uI.r, nT5.r, hI⟩ hI2
      walk_at "offEnd"
    case b1 => walk_at "offEnd"
    case b2 => walk_at "offEnd"
    case b3 => walk_at "offEnd"
    case b4 => walk_at "offEnd"
    case b5 =>
      intro p hp q hq
      rcases List.mem_cons.mp hp with rfl | hp
      · exact (u2 q (List.mem_append_right _ hq)).symm
      · rcases List.mem_cons.mp hp with rfl | hp
        · exact (AllOff.ne t1 q (List.mem_append_right _ hq)).symm
        · exact fr p hp q hq
    case b6 => rw [← hnx]; exact iz2
    case b7 => rw [without_keys, E1, hnx]
    case b8 => rw [without_keys, E2, hnx]
    case b9 => rw [take_snoc hx]; exact tn.snoc (by rw [hV]; exact hj)
    case b10 =>
      rw [List.map_append]
      exact DatAll.append (td.mono fun p hp => .tail _ (.tail _ hp)) (.cons (.tuple (.tail _ (.head _)) (.cons (.str _ _) (.cons (.int _ _) .nil))) .nil)
    case b11 => walk_at "mapEq"
  case done =>
    rintro m₁ n₁ h tk5 ⟨as, ea, ul1, zs, nz, o1', o2', kf', km', tl, num, rfl, oa, ov, of, om, fr, mul, iz, D1, D2, E1, E2, ⟨ks, tn, td⟩, rfl⟩ F1 N1
    clear lF lM
    rw [hgs.length, List.take_length] at iz E1 E2 tn
    obtain ⟨r3, hr3⟩ : ∃ r3, r3 = tl ++ ((gl, listOf gs.toArray ng) :: rest) := ⟨_, rfl⟩
    have r1 : (vw, instObj 77 vd) ∈ r3 := hr3 ▸ List.mem_append_right _ (.tail _ hvw)
    have r2 : (gl, listOf gs.toArray ng) ∈ r3 := hr3 ▸ List.mem_append_right _ (.head _)
    rw [← hr3] at N1
    have hv : (vu.filter fun x => !gone.contains x) = vu.filter fun x => us.contains x := by rw [← hgone]; exact left_is vu us
    rw [hv] at iz E1 E2
    have fin : ∀ h' tk', Fr h₀ L h' m → News h₀ L h' ((al, listOf (List.toArray as) ea) :: (vd, dictOf (viewD w.params q0 q1 q2 q3 q4 q5 q6 bx ro um false ul1 fd md) 7) :: (fd, o1') :: (md, o2') :: r3) → Q (.ref al) { s with heap := h', toks := tk' } := fun h' tk' lF lN => by
      subst hr3
      refine hret al as ea ul1 zs nz o1' o2' kf' km' ((al, listOf (List.toArray as) ea) :: (tl ++ [(gl, listOf gs.toArray ng)])) _ _ lF (newsF_back lN) ?hfr (.head _) ?hul iz D1 D2 E1 E2 ?told
      case hfr =>
        have g1 : AllOff al ((vd, dictOf (viewD w.params q0 q1 q2 q3 q4 q5 q6 bx ro um false ul fd md) 7) :: (fd, o1) :: (md, o2) :: rest) := ⟨bv, bf, bm, bal⟩
        have g2 : AllOff gl ((vd, dictOf (viewD w.params q0 q1 q2 q3 q4 q5 q6 bx ro um false ul fd md) 7) :: (fd, o1) :: (md, o2) :: rest) := ⟨by assumption, by assumption, by assumption, ogl⟩
        exact newsF_far g1 g2 ov of om fr
      case hul =>
        rcases List.mem_cons.mp mul with h | h
        · rw [h]; exact .head _
        · exact .tail _ (.tail _ (List.mem_append_left _ h))
      case told => exact ⟨ks, hgone ▸ tn, td.mono fun p hp => .tail _ (List.mem_append_left _ hp)⟩
    clear hret
    k_steps
    all_goals (
      rename News h₀ L _ _ => lN
      rename Fr h₀ L _ m => lF
      exact fin _ _ lF (news_sub lN fun p hp => .tail _ hp))
end
theorem zF6 {M : Model} {A : Around} {env : Env} {p : Pos} {Q : Flow → Shared → Prop} {E : Value → Shared → Prop} {s : Shared} (h : wpAny M A (exec (.Pass p) env) Q E s) : wpAny M A (exec (.Pass p) env) Q E s := by
  w_top off
  first | (walk1; fail "z") | exact h
section
variable {w : World} {mean : ExcName → Option Value} {mg mb : Str → Option Value} {dp un : Nat} {gd : Option (List Code)} {cn : Str} {cs : Scope} {a : Addr} {ccd : Value} {cl : List (Str × Addr)} {outer : List Env} {A₀ : Around} {base h₀ : Heap} {L : Addr} {m : Str → Option Value} {s : Shared} {Q E : Value → Shared → Prop} {rest news : List (Addr × Obj)}
  (B : Below A₀ base outer h₀) (F : Fr h₀ L s.heap m) (X : (hd.heap_1 w.params).In h₀) (T : Top Mine.lawView (looseW Mine.lawView [Str.ofString "PostError"]) mean mg mb h₀) (hk : cs.kind = .function)
  (hdp : dp + 12 < recursionLimit) (hu : un + 160 < cLine)
include B F X T hk hdp hu
local macro_rules | `(tactic| walk_at "mapEq") => `(tactic| (funext y; by_cases e1 : y = Str.ofString "answers"; (subst e1; rfl); by_cases e2 : y = Str.ofString "gone"; (subst e2; rfl); by_cases e3 : y = Str.ofString "uid"; (subst e3; rfl); by_cases e4 : y = Str.ofString "view"; (subst e4; rfl); simp [e1, e2, e3, e4]))
local macro_rules | `(tactic| walk_at "offEnd") => `(tactic| ((try dsimp only [AllOff]); (repeat' (first | exact trivial | refine And.intro ?_ ?_ | assumption | exact NeA.l (by assumption) | exact NeA.r (by assumption) | (show @Ne Nat _ _; omega)))))
local macro_rules | `(tactic| walk_at "exec For Name Name cons nil") => `(tactic| ((with_reducible show wpAny _ _ (exec (Stmt.For _ _ _ _ _) _) _ _ _); refine Stop.out ?_))
local macro_rules | `(tactic| walk_at "call ref") => `(tactic| ((with_reducible show wpAny _ _ (call (Value.ref 93) _) _ _ _); refine Stop.out ?_))
local macro_rules | `(tactic| walk_at "call ref") => `(tactic| ((with_reducible show wpAny _ _ (call (Value.ref 98) _) _ _ _); refine Stop.out ?_))
local macro_rules | `(tactic| walk_at "call ref") => `(tactic| ((with_reducible show wpAny _ _ (call (Value.ref 48) _) _ _ _); refine Stop.out ?_))
local macro_rules | `(tactic| walk_at "call ref") => `(tactic| ((with_reducible show wpAny _ _ (call (Value.ref 28) _) _ _ _); refine Stop.out ?_))
theorem news_call_t {vw vd bx bd la ga ul fd md : Addr} {vs ys : List Value} {us vu : List Int} {kf km : List (Int × Value)} {o1 o2 : Obj} {nm vl nu tp fl : Value} {k0 k1 k2 k3 k4 k5 k6 q0 q1 q2 q3 q4 q5 q6 : Tok} {e n : Nat} {ro um : Bool}
    (N : News h₀ L s.heap ((vd, dictOf (viewD w.params q0 q1 q2 q3 q4 q5 q6 bx ro um true ul fd md) 7) :: (fd, o1) :: (md, o2) :: rest))
    (ap : ApartN 3 ((vd, dictOf (viewD w.params q0 q1 q2 q3 q4 q5 q6 bx ro um true ul fd md) 7) :: (fd, o1) :: (md, o2) :: rest))
    (hvw : (vw, instObj 77 vd) ∈ rest) (hbx : (bx, instObj 242 bd) ∈ rest) (hbd : (bd, dictOf (boxD w.params k0 k1 k2 k3 k4 k5 k6 nm vl nu tp fl la ga) 7) ∈ rest) (hla : (la, listOf vs.toArray e) ∈ rest)
    (hul : (ul, listOf ys.toArray n) ∈ rest) (hL : LettersIn w.params rest vs us) (hi : IntsAre ys vu) (hnd : us.Nodup) (hlen : vs.length ≤ 500) (hlen2 : vu.length ≤ 500) (hs : vu.Pairwise (· < ·))
    (d1 : o1.IsDictOf (intKind PySem.Challenge.rw_nz0296_01.row.prog w) kf) (d2 : o2.IsDictOf (intKind PySem.Challenge.rw_nz0296_01.row.prog w) km) (e1 : kf.map (·.1) = vu) (e2 : km.map (·.1) = vu)
    (hret : ∀ D as ea ul' zs n' o1' o2' kf' km' tl h' tk', Fr h₀ L h' m →
      News h₀ L h' ((vd, dictOf (viewD w.params q0 q1 q2 q3 q4 q5 q6 bx ro um true ul' fd md) 7) :: (fd, o1') :: (md, o2') :: (tl ++ rest)) →
      (∀ p ∈ tl, ∀ q ∈ (vd, dictOf (viewD w.params q0 q1 q2 q3 q4 q5 q6 bx ro um true ul fd md) 7) :: (fd, o1) :: (md, o2) :: rest, p.1 ≠ q.1) →
      (D, listOf (List.toArray as) ea) ∈ tl → (ul', listOf (List.toArray zs) n') ∈ (ul, listOf ys.toArray n) :: tl → IntsAre zs (vu.filter fun x => us.contains x) →
      o1'.IsDictOf (intKind PySem.Challenge.rw_nz0296_01.row.prog w) kf' → o2'.IsDictOf (intKind PySem.Challenge.rw_nz0296_01.row.prog w) km' → kf'.map (·.1) = (vu.filter fun x => us.contains x) → km'.map (·.1) = (vu.filter fun x => us.contains x) →
      DatAll tl as (vanDats (vu.filter fun u => !us.contains u)) → Q (.ref D) { s with heap := h', toks := tk' }) :
    wpAny (model PySem.Challenge.rw_nz0296_01.row.prog w) (ktrTop dp un gd cn cs L a ccd cl outer) (call (.ref 105) [.ref vw]) Q E s := by
  revert X; k_fill; intro X
  refine wpAny_call ?_
  have c1 : NeA vd fd := fun q => ap.1 (fd, _) (.head _) q.symm
  have c2 : NeA vd md := fun q => ap.1 (md, _) (.tail _ (.head _)) q.symm
  have c3 : NeA fd md := fun q => ap.2.1 (md, _) (.head _) q.symm
  have c4 : AllOff vd rest := allOff_of fun p hp => ap.1 p (.tail _ (.tail _ hp))
  have c5 : AllOff fd rest := allOff_of fun p hp => ap.2.1 p (.tail _ hp)
  have c6 : AllOff md rest := allOff_of fun p hp => ap.2.2.1 p hp
  k_dflt (walk_at "enterW")
  k_steps
  refine Stop.mk ?_
  rename Fr _ _ _ _ => lF
  rename News _ _ _ _ => lN
  have a1 := News.get lN (by k_mem : (vw, instObj 77 vd) ∈ _)
  have a2 := News.get lN (by k_mem : (vd, _) ∈ _)
  have a3 := News.get lN (by k_mem : (bx, instObj 242 bd) ∈ _)
  have a4 := News.get lN (by k_mem : (bd, _) ∈ _)
  have a5 := News.get lN (by k_mem : (la, listOf vs.toArray e) ∈ _)
  have a6 := News.get lN (by k_mem : (ul, listOf ys.toArray n) ∈ _)
  have a7 := LettersIn.at lN (hL.more fun p hp => (by k_mem : p ∈ _))
  k_dflt (refine' gone_call ?cB ?cF ?cX ?cT ?ck ?cd ?cu a1 a2 a3 a4 a5 a6 a7 hi hnd (by omega) (by rw [hi.length]; omega) ?_; (case cB => k_asm); (case cF => k_asm); (case cX => k_asm); (case cT => k_asm); (case ck => first | exact rfl | assumption); (case cd => ktr_room); (case cu => k_units))
  intro gl gs ng h2 tk2 F2 st2 fr2 n2 hgs
  k_dflt have ou := allOff_of (off_of_none lN fr2)
  walk_at "offs"
  k_dflt have N2 := News.append n2 (News.grown lN st2)
  simp only [List.cons_append, List.nil_append] at N2
  clear n2 st2 fr2 a1 a2 a3 a4 a5 a6 a7 lN lF
  generalize hgone : (vu.filter fun u => !us.contains u) = gone at hgs
  k_steps
  walk_at "forName"
  rename Fr _ _ _ _ => lF
  rename News _ _ _ _ => lN
  rename (_ < _ ∧ _) => lal
  rename_i al h3 h4
  rename AllOff gl rest => ogl
  have bal := allOff_lt lal.2.2.2.2
  have bg : NeA gl al := Nat.ne_of_lt lal.1
  have bv : NeA vd al := Nat.ne_of_lt lal.2.1
  have bf : NeA fd al := Nat.ne_of_lt lal.2.2.1
  have bm : NeA md al := Nat.ne_of_lt lal.2.2.2.1
  have lM := news_sub (l' := (al, listOf [].toArray 0) :: (vd, dictOf (viewD w.params q0 q1 q2 q3 q4 q5 q6 bx ro um true ul fd md) 7) :: (fd, o1) :: (md, o2) :: (gl, listOf gs.toArray ng) :: rest) lN (by walk_at "sub")
  clear lN
  k_dflt (refine' iter_listJ (vs := gs) (ep := ng) (NewsF w (fun u => dictOf (viewD w.params q0 q1 q2 q3 q4 q5 q6 bx ro um true u fd md) 7) vw vd fd md al gl ul (listOf gs.toArray ng) (listOf ys.toArray n) vu gone rest (fun _ _ as => as = [])) ?hh ?hl lF lM ?hj ?hsrc ?turn ?done)
  case hh => rfl
  case hl => simp
  case hj =>
    refine .mk [] 0 ul ys n o1 o2 kf km [] none rfl trivial trivial trivial trivial (fun p hp => (nomatch hp)) (.head _) ?_ d1 d2 ?_ ?_ rfl (newsF_map0 rfl)
    · rw [List.take_zero, without_none]; exact hi
    · rw [List.take_zero, without_none]; exact e1
    · rw [List.take_zero, without_none]; exact e2
  case hsrc =>
    rintro i m₁ n₁ ⟨as, ea, ul1, zs, nz, o1', o2', kf', km', tl, num, rfl⟩
    simp
  case turn =>
    rintro i v m₁ n₁ h1 tk1 I oI hv ⟨as, ea, ul1, zs, nz, o1', o2', kf', km', tl, num, rfl, oa, ov, of, om, fr, mul, iz, D1, D2, E1, E2, rfl, rfl⟩ off1 F1 N1
    clear lF lM
    obtain ⟨x, t, rfl, hx⟩ := ints_at hgs hv
    have hin := uid_here hs _ hgone hx
    have hnx := without_next (vu := vu) hx
    have hzl : (vu.filter fun x => !(gone.take i).contains x).length ≤ 500 := Nat.le_trans (List.length_filter_le _ _) hlen2
    have hsz := asc_filter (fun x => !(gone.take i).contains x) hs
    generalize hV : (vu.filter fun x => !(gone.take i).contains x) = V at iz E1 E2 hin hzl hsz hnx
    have mul2 : (ul1, listOf (List.toArray zs) nz) ∈ tl ++ ((gl, listOf gs.toArray ng) :: rest) := by
      rcases List.mem_cons.mp mul with h | h
      · rw [h]; exact List.mem_append_right _ (.tail _ hul)
      · exact List.mem_append_left _ h
    have r1 : (vw, instObj 77 vd) ∈ tl ++ ((gl, listOf gs.toArray ng) :: rest) := List.mem_append_right _ (.tail _ hvw)
    have r2 : (gl, listOf gs.toArray ng) ∈ tl ++ ((gl, listOf gs.toArray ng) :: rest) := List.mem_append_right _ (.head _)
    have pa : AllOff al (tl ++ ((gl, listOf gs.toArray ng) :: rest)) := oa.app ⟨bg, bal⟩
    have pv : AllOff vd (tl ++ ((gl, listOf gs.toArray ng) :: rest)) := ov.app ⟨(by assumption : NeA vd gl).r, c4⟩
    have pf : AllOff fd (tl ++ ((gl, listOf gs.toArray ng) :: rest)) := of.app ⟨(by assumption : NeA fd gl).r, c5⟩
    have pm : AllOff md (tl ++ ((gl, listOf gs.toArray ng) :: rest)) := om.app ⟨(by assumption : NeA md gl).r, c6⟩
    obtain ⟨r3, hr3⟩ : ∃ r3, r3 = tl ++ ((gl, listOf gs.toArray ng) :: rest) := ⟨_, rfl⟩
    rw [← hr3] at r1 r2 pa pv pf pm mul2 N1
    replace off1 := allOff_of off1
    rw [← hr3] at off1
    walk_at "offs"
    k_steps
    refine Stop.mk ?_
    rename Fr _ _ _ _ => lF
    rename News _ _ _ _ => lN
    k_dflt (refine' forget_call (vu := V) ?cB lF ?cX ?cT ?ck ?cd ?cu (news_f2 lN) ?ap ?hvw ?hul iz (by rw [iz.length]; omega) D1 D2 (by rw [E1]; exact hin) (by rw [E2]; exact hin) (by rw [← List.length_map (f := (·.1)), E1]; omega) (by rw [← List.length_map (f := (·.1)), E2]; omega) ?_; (case cB => k_asm); (case cX => k_asm); (case cT => k_asm); (case ck => first | exact rfl | assumption); (case cd => ktr_room); (case cu => k_units); (case hvw => k_mem); (case hul => k_mem))
    case ap =>
      refine ⟨AllOff.ne ?_, AllOff.ne ?_, AllOff.ne ?_, trivial⟩ <;> (try dsimp only [AllOff]) <;> (repeat' (first | exact trivial | refine And.intro ?_ ?_ | assumption | exact NeA.l (by assumption) | exact NeA.r (by assumption) | (show @Ne Nat _ _; omega)))
    intro rv ul2 zs2 nz2 o12 o22 h8 tk8 F8 N8 ap8 iz2 D12 D22
    clear lF lN
    k_steps
    subst hr3
    have u1 := ap8.2.2.2.1
    have u2 : ∀ q ∈ tl ++ ((gl, listOf gs.toArray ng) :: rest), q.1 ≠ ul2 := fun q hq => u1 q (.tail _ (.tail _ hq))
    have uA : NeA al ul2 := u1 (al, _) (.tail _ (.head _))
    have uI : NeA I ul2 := u1 (I, _) (.head _)
    have uv : NeA ul2 vd := ap8.1 (ul2, _) (.tail _ (.tail _ (.head _)))
    have uf : NeA ul2 fd := ap8.2.1 (ul2, _) (.tail _ (.head _))
    have um : NeA ul2 md := ap8.2.2.1 (ul2, _) (.head _)
    have hI : AllOff I tl := allOff_of fun p hp => AllOff.ne (by assumption : AllOff I (tl ++ ((gl, listOf gs.toArray ng) :: rest))) p (List.mem_append_left _ hp)
    have hI2 : AllOff I ((gl, listOf gs.toArray ng) :: rest) := allOff_of fun p hp => AllOff.ne (by assumption : AllOff I (tl ++ ((gl, listOf gs.toArray ng) :: rest))) p (List.mem_append_right _ hp)
    refine TurnOut.intro _ F8 (news_f4 N8) (AllOff.ne ?off) (.mk [] _ ul2 zs2 nz2 o12 o22 _ _ ((ul2, _) :: tl) (some (.int x t)) rfl ?b1 ?b2 ?b3 ?b4 ?b5 (.tail _ (.head _)) ?b6 D12 D22 ?b7 ?b8 rfl ?b11)
    case off =>
      have z := AllOff.app (l := (ul2, listOf (List.toArray zs2) nz2) :: tl) ⟨uI.r, hI⟩ hI2
      walk_at "offEnd"
    case b1 => walk_at "offEnd"
    case b2 => walk_at "offEnd"
    case b3 => walk_at "offEnd"
    case b4 => walk_at "offEnd"
    case b5 =>
      intro p hp q hq
      rcases List.mem_cons.mp hp with rfl | hp
      · exact (u2 q (List.mem_append_right _ hq)).symm
      · exact fr p hp q hq
    case b6 => rw [← hnx]; exact iz2
    case b7 => rw [without_keys, E1, hnx]
    case b8 => rw [without_keys, E2, hnx]
    case b11 => walk_at "mapEq"
  case done =>
    rintro m₁ n₁ h tk5 ⟨as, ea, ul1, zs, nz, o1', o2', kf', km', tl, num, rfl, oa, ov, of, om, fr, mul, iz, D1, D2, E1, E2, rfl, rfl⟩ F1 N1
    clear lF lM
    rw [hgs.length, List.take_length] at iz E1 E2
    obtain ⟨r3, hr3⟩ : ∃ r3, r3 = tl ++ ((gl, listOf gs.toArray ng) :: rest) := ⟨_, rfl⟩
    have r1 : (vw, instObj 77 vd) ∈ r3 := hr3 ▸ List.mem_append_right _ (.tail _ hvw)
    have r2 : (gl, listOf gs.toArray ng) ∈ r3 := hr3 ▸ List.mem_append_right _ (.head _)
    rw [← hr3] at N1
    have hv : (vu.filter fun x => !gone.contains x) = vu.filter fun x => us.contains x := by rw [← hgone]; exact left_is vu us
    rw [hv] at iz E1 E2
    have g1 : AllOff al ((vd, dictOf (viewD w.params q0 q1 q2 q3 q4 q5 q6 bx ro um true ul fd md) 7) :: (fd, o1) :: (md, o2) :: rest) := ⟨bv, bf, bm, bal⟩
    have g2 : AllOff gl ((vd, dictOf (viewD w.params q0 q1 q2 q3 q4 q5 q6 bx ro um true ul fd md) 7) :: (fd, o1) :: (md, o2) :: rest) := ⟨by assumption, by assumption, by assumption, ogl⟩
    k_steps
    · rename (decide _ = true) => c0
      rename News h₀ L _ _ => lN
      rename Fr h₀ L _ m => lF
      subst hr3
      refine hret al [] ea ul1 zs nz o1' o2' kf' km' ((al, listOf [].toArray ea) :: (tl ++ [(gl, listOf gs.toArray ng)])) _ _ lF (newsF_back (news_sub lN fun p hp => .tail _ hp)) (newsF_far g1 g2 ov of om fr) (.head _) ?hul iz D1 D2 E1 E2 ?told
      case hul =>
        rcases List.mem_cons.mp mul with h | h
        · rw [h]; exact .head _
        · exact .tail _ (.tail _ (List.mem_append_left _ h))
      case told => rw [hgone, of_decide_eq_true c0]; exact .nil
    · rename (decide _ = false) => c0
      refine Stop.mk ?_
      have c1 : gone ≠ [] := of_decide_eq_false c0
      have pa : AllOff al r3 := hr3 ▸ oa.app ⟨bg, bal⟩
      rename Fr _ _ _ _ => lF
      rename News _ _ _ _ => lN
      rename (_ < _ ∧ _) => l1
      rename_i e5 h5
      k_dflt (refine' ranges_call ?cB lF ?cX ?cT ?ck ?cd ?cu (lN.get (by k_mem : (gl, _) ∈ _)) hgs (by rw [← hgone]; exact Nat.le_trans (List.length_filter_le _ _) (by omega)) (hgone ▸ asc_filter _ hs) ?_; (case cB => k_asm); (case cX => k_asm); (case cT => k_asm); (case ck => first | exact rfl | assumption); (case cd => ktr_room); (case cu => k_units))
      intro T5 vs5 led5 h7 tk7 F7 st7 n7 pp7 fr7
      have f7 := fun p hp => off_of_none lN (fr7 p hp)
      have N7 := News.append n7 (News.grown lN st7)
      obtain ⟨r5, hr5⟩ : ∃ r5, r5 = ((T5, tupOf vs5) :: led5) ++ ((e5, listOf [].toArray 0) :: r3) := ⟨_, rfl⟩
      have N8 := newsF_front2 N7
      rw [← hr5] at N8
      have pe : AllOff al r5 := by
        rw [hr5]
        exact AllOff.app (allOff_of fun p hp => (f7 p hp (al, _) (.tail _ (.head _))).symm) ⟨Nat.ne_of_gt l1.1, pa⟩
      clear lF lN N7 n7
      k_steps
      rename News h₀ L _ _ => lN
      rename Fr h₀ L _ m => lF
      rename (_ < _ ∧ _ ∧ _ ∧ _ ∧ _) => l6
      rename_i T6 h8 h9 z1 z2 z3 z4
      subst hr3
      subst hr5
      have oT6 := of_allLt l6.2.2.2.2
      have oe5 := of_allLt l1.2.2.2.2
      (try simp only [List.push_toArray, List.nil_append] at lN)
      obtain ⟨tv, lN⟩ : ∃ tv, News h₀ L _ ((T6, tupOf [Value.str (Str.ofString "vanished") tv, .ref T5, .bool false]) :: (al, listOf [Value.ref T6].toArray (ea + 1)) :: _) := ⟨_, lN⟩
      refine hret al [.ref T6] (ea + 1) ul1 zs nz o1' o2' kf' km' ((al, listOf [Value.ref T6].toArray (ea + 1)) :: (T6, tupOf [Value.str (Str.ofString "vanished") tv, .ref T5, .bool false]) :: (((T5, tupOf vs5) :: led5) ++ ((e5, listOf [].toArray 0) :: (tl ++ [(gl, listOf gs.toArray ng)])))) _ _ lF (newsF_back2 lN) (newsF_far2 g1 g2 ov of om fr l6.2.1 l6.2.2.1 l6.2.2.2.1 oT6 l1.2.1 l1.2.2.1 l1.2.2.2.1 oe5 f7) (.head _) ?hul2 iz D1 D2 E1 E2 ?told2
      case hul2 =>
        rcases List.mem_cons.mp mul with h | h
        · rw [h]; exact .head _
        · exact .tail _ (.tail _ (.tail _ (List.mem_append_right _ (.tail _ (List.mem_append_left _ h)))))
      case told2 =>
        rw [hgone]
        unfold vanDats
        rw [if_neg c1]
        exact .cons (.tuple (.tail _ (.head _)) (.cons (.str _ _) (.cons (.tuple (.tail _ (.tail _ (.head _))) (pp7.dat.mono fun p hp => .tail _ (.tail _ (.tail _ (List.mem_append_left _ hp))))) (.cons (.bool _) .nil)))) .nil
end
theorem zF7 {M : Model} {A : Around} {env : Env} {p : Pos} {Q : Flow → Shared → Prop} {E : Value → Shared → Prop} {s : Shared} (h : wpAny M A (exec (.Pass p) env) Q E s) : wpAny M A (exec (.Pass p) env) Q E s := by
  w_top off
  first | (walk1; fail "z") | exact h
section
variable {w : World} {mean : ExcName → Option Value} {mg mb : Str → Option Value} {dp un : Nat} {gd : Option (List Code)} {cn : Str} {cs : Scope} {a : Addr} {ccd : Value} {cl : List (Str × Addr)} {outer : List Env} {A₀ : Around} {base h₀ : Heap} {L : Addr} {m : Str → Option Value} {s : Shared} {Q E : Value → Shared → Prop} {rest news : List (Addr × Obj)}
  (B : Below A₀ base outer h₀) (F : Fr h₀ L s.heap m) (X : (hd.heap_1 w.params).In h₀) (T : Top Mine.lawView (looseW Mine.lawView [Str.ofString "PostError"]) mean mg mb h₀) (hk : cs.kind = .function)
  (hdp : dp + 3 < recursionLimit) (hu : un + 100 < cLine)
include B F X T hk hdp hu
local macro_rules | `(tactic| walk_at "binaryOp FloorDiv int int") => `(tactic| ((with_reducible show wpAny _ _ (binaryOp _ (Value.int _ _) (Value.int _ _)) _ _ _); refine Stop.out ?_))
local macro_rules | `(tactic| walk_at "exec While Compare") => `(tactic| ((with_reducible show wpAny _ _ (exec (Stmt.While _ _ _ _) _) _ _ _); refine Stop.out ?_))
local macro_rules | `(tactic| walk_at "exec While") => `(tactic| ((with_reducible show wpAny _ _ (exec (Stmt.While _ _ _ _) _) _ _ _); refine Stop.out ?_))
theorem place_p {ul : Addr} {ys : List Value} {vu : List Int} {n : Nat} {u : Int} {tu : Tok}
    (hul : s.heap.get? ul = some (listOf ys.toArray n)) (hi : IntsAre ys vu) (hlen : vu.length ≤ 1000) (hs : vu.Pairwise (· < ·))
    (hret : ∀ (r : Int) t h' tk', Fr h₀ L h' m → s.heap.StaysIn h' → (u ∈ vu → ∃ j : Nat, r = j ∧ vu[j]? = some u) → (u ∉ vu → r = -1) → Q (.int r t) { s with heap := h', toks := tk' }) :
    wpAny (model PySem.Challenge.rw_nz0296_01.row.prog w) (ktrTop dp un gd cn cs L a ccd cl outer) (call (.ref 88) [.ref ul, .int u tu]) Q E s := by
  revert X; k_fill; intro X
  refine wpAny_call ?_
  k_dflt (walk_at "enterP")
  rename Heap.StaysIn _ _ => st9
  have hT := st9 _ _ hul
  rename Top _ _ _ _ _ _ => T9
  have hB := isList_of_get hT
  (try dsimp only)
  (try k_fold)
  k_steps
  refine Stop.mk ?_
  rename Fr _ _ _ _ => lF
  rename News _ _ _ _ => lN
  have lN2 := news_drop0 lN
  refine' While_inv (fun k m₁ n₁ => n₁ = [] ∧ ∃ (lo hi : Nat) (tl th : Tok) (md : Option Value), m₁ = (fun y => if y = Str.ofString "high" then some (.int hi th) else if y = Str.ofString "low" then some (.int lo tl) else if y = Str.ofString "middle" then md else if y = Str.ofString "uids" then some (.ref ul) else if y = Str.ofString "uid" then some (.int u tu) else none) ∧
    lo ≤ hi ∧ hi ≤ vu.length ∧ k = hi - lo ∧ (∀ j x, j < lo → vu[j]? = some x → x < u) ∧ (∀ j x, hi ≤ j → vu[j]? = some x → u ≤ x)) lF lN2 ⟨rfl, 0, vu.length, ?tl, ?th, none, ?eq, Nat.zero_le _, Nat.le_refl _, rfl, fun j x hj => absurd hj (Nat.not_lt_zero _), fun j x hj hx => absurd hj (Nat.not_le.mpr (List.getElem?_eq_some_iff.mp hx).1)⟩ ?turn
  case eq =>
    funext y
    by_cases e1 : y = Str.ofString "high"
    · subst e1; rfl
    by_cases e2 : y = Str.ofString "low"
    · subst e2; rfl
    by_cases e3 : y = Str.ofString "middle"
    · subst e3; rfl
    by_cases e4 : y = Str.ofString "uids"
    · subst e4; rfl
    by_cases e5 : y = Str.ofString "uid"
    · subst e5; rfl
    rw [if_neg e1, if_neg e2, if_neg e1, if_neg e2, if_neg e3, if_neg e4, if_neg e5]
    show List.lookup y [(Str.ofString "uid", Value.int u tu), (Str.ofString "uids", Value.ref ul)] = none
    simp [List.lookup, beq_false_of_ne e4, beq_false_of_ne e5]
  rintro k m₁ n₁ h₁ tk₁ F₁ N₁ ⟨rfl, lo, hi', tl, th, md, rfl, hlh, hhl, rfl, hlow, hhigh⟩
  clear lF lN lN2
  k_steps
  · refine Stop.mk ?_
    rename ((lo : Int) < (hi' : Int)) => hlt
    have em : Int.fdiv ((lo : Int) + (hi' : Int)) 2 = (((lo + hi') / 2 : Nat) : Int) := by rw [Int.fdiv_eq_ediv_of_nonneg _ (by decide)]; omega
    k_dflt (refine floordiv_int (by decide) ?_ (Or.inl (PyProof.noPylong_small (by omega))))
    rw [em]
    have hm1 : lo ≤ (lo + hi') / 2 := by omega
    have hm2 : (lo + hi') / 2 < hi' := by omega
    generalize (lo + hi') / 2 = mid at hm1 hm2 ⊢
    clear em
    k_steps
    · rename (vu.getD _ _ < u) => q
      have hx := getD_some (vu := vu) (i := mid) (by omega)
      rw [show ((mid : Int)).toNat = mid from rfl] at q
      refine' WhileStep.intro (n' := hi' - (mid + 1)) ?wF ?wN (by omega) ⟨rfl, mid + 1, hi', ?tl2, ?th2, ?md2, ?e22, by omega, hhl, rfl, fun j x hj hx2 => ?lo2, hhigh⟩
      case wF => k_asm
      case wN => k_asm
      case lo2 =>
        have := sorted_le hs (Nat.le_of_lt_succ hj) hx2 hx
        omega
      case e22 =>
        funext y
        by_cases e1 : y = Str.ofString "high"
        · subst e1; rfl
        by_cases e2 : y = Str.ofString "low"
        · subst e2; rfl
        by_cases e3 : y = Str.ofString "middle"
        · subst e3; rfl
        by_cases e4 : y = Str.ofString "uids"
        · subst e4; rfl
        by_cases e5 : y = Str.ofString "uid"
        · subst e5; rfl
        simp [e1, e2, e3, e4, e5]
    · rename (¬ vu.getD _ _ < u) => q
      have hx := getD_some (vu := vu) (i := mid) (by omega)
      rw [show ((mid : Int)).toNat = mid from rfl] at q
      refine' WhileStep.intro (n' := mid - lo) ?wF2 ?wN2 (by omega) ⟨rfl, lo, mid, ?tl3, ?th3, ?md3, ?e33, hm1, by omega, rfl, hlow, fun j x hj hx2 => ?lo3⟩
      case wF2 => k_asm
      case wN2 => k_asm
      case lo3 =>
        have := sorted_le hs hj hx hx2
        omega
      case e33 =>
        funext y
        by_cases e1 : y = Str.ofString "high"
        · subst e1; rfl
        by_cases e2 : y = Str.ofString "low"
        · subst e2; rfl
        by_cases e3 : y = Str.ofString "middle"
        · subst e3; rfl
        by_cases e4 : y = Str.ofString "uids"
        · subst e4; rfl
        by_cases e5 : y = Str.ofString "uid"
        · subst e5; rfl
        simp [e1, e2, e3, e4, e5]
  · rename (vu.getD _ _ = u) => q
    rename ((lo : Int) < (vu.length : Int)) => q2
    have hx := getD_some (vu := vu) (i := lo) (by omega)
    rw [show ((lo : Int)).toNat = lo from rfl] at q
    rw [q] at hx
    exact hret _ _ _ _ (by assumption) (by assumption) (fun _ => ⟨lo, rfl, hx⟩) fun hn => absurd (List.mem_of_getElem? hx) hn
  · rename (vu.getD _ _ ≠ u) => q
    rename ((lo : Int) < (vu.length : Int)) => q2
    rename (¬ (lo : Int) < (hi' : Int)) => q3
    have hx := getD_some (vu := vu) (i := lo) (by omega)
    rw [show ((lo : Int)).toNat = lo from rfl] at q
    have hnot : u ∉ vu := fun hm => by
      obtain ⟨j, hj⟩ := List.getElem?_of_mem hm
      by_cases hjl : j < lo
      · have := hlow j u hjl hj; omega
      · have h1 := sorted_le hs (Nat.le_of_not_lt hjl) hx hj
        have h2 := hhigh lo _ (by omega) hx
        omega
    exact hret _ _ _ _ (by assumption) (by assumption) (fun hm => absurd hm hnot) fun _ => rfl
  · rename (¬ (lo : Int) < (vu.length : Int)) => q2
    have hnot : u ∉ vu := fun hm => by
      obtain ⟨j, hj⟩ := List.getElem?_of_mem hm
      have hjl := (List.getElem?_eq_some_iff.mp hj).1
      have := hlow j u (by omega) hj; omega
    exact hret _ _ _ _ (by assumption) (by assumption) (fun hm => absurd hm hnot) fun _ => rfl
end
theorem zF8 {M : Model} {A : Around} {env : Env} {p : Pos} {Q : Flow → Shared → Prop} {E : Value → Shared → Prop} {s : Shared} (h : wpAny M A (exec (.Pass p) env) Q E s) : wpAny M A (exec (.Pass p) env) Q E s := by
  w_top off
  first | (walk1; fail "z") | exact h
section
variable {w : World} {mean : ExcName → Option Value} {mg mb : Str → Option Value} {dp un : Nat} {gd : Option (List Code)} {cn : Str} {cs : Scope} {a : Addr} {ccd : Value} {cl : List (Str × Addr)} {outer : List Env} {A₀ : Around} {base h₀ : Heap} {L : Addr} {m : Str → Option Value} {s : Shared} {Q E : Value → Shared → Prop} {rest news : List (Addr × Obj)}
  (B : Below A₀ base outer h₀) (F : Fr h₀ L s.heap m) (X : (hd.heap_1 w.params).In h₀) (T : Top Mine.lawView (looseW Mine.lawView [Str.ofString "PostError"]) mean mg mb h₀) (hk : cs.kind = .function)
  (hdp : dp + 6 < recursionLimit) (hu : un + 120 < cLine)
include B F X T hk hdp hu
local macro_rules | `(tactic| walk_at "call ref") => `(tactic| (k_here; (with_reducible show wpAny _ _ (call (Value.ref 88) _) _ _ _); k_dflt (refine' place_p ?cB ?cF ?cX ?cT ?ck ?cd ?cu ?zul ?zi ?zl ?zs ?_; (case cB => k_asm); (case cF => k_asm); (case cX => k_asm); (case cT => k_asm); (case ck => first | exact rfl | assumption); (case cd => ktr_room); (case cu => k_units); (case zul => exact Fr.keep (by k_asm) _ _ (by assumption)); (case zi => assumption); (case zl => assumption); (case zs => assumption); k_whole); intro r9 t9 h9 tk9 F9 s9 q1 q2; (rename News _ _ _ _ => kN9); (k_dflt have N9 := News.grown kN9 s9); clear kN9 s9; (try k_sweep); (try dsimp only); (try k_fold)))
theorem number_p {vw vd bx ul fd md : Addr} {ys : List Value} {vu : List Int} {n : Nat} {u : Int} {tu q0 q1 q2 q3 q4 q5 q6 : Tok} {ro um uv : Bool}
    (hvw : s.heap.get? vw = some (instObj 77 vd)) (hvd : s.heap.get? vd = some (dictOf (viewD w.params q0 q1 q2 q3 q4 q5 q6 bx ro um uv ul fd md) 7))
    (hul : s.heap.get? ul = some (listOf ys.toArray n)) (hi : IntsAre ys vu) (hlen : vu.length ≤ 1000) (hs : vu.Pairwise (· < ·))
    (hret : ∀ (r : Int) t h' tk', Fr h₀ L h' m → s.heap.StaysIn h' → (u ∈ vu → ∃ j : Nat, r = j + 1 ∧ vu[j]? = some u) → (u ∉ vu → r = 0) → Q (.int r t) { s with heap := h', toks := tk' }) :
    wpAny (model PySem.Challenge.rw_nz0296_01.row.prog w) (ktrTop dp un gd cn cs L a ccd cl outer) (call (.ref 48) [.ref vw, .int u tu]) Q E s := by
  revert X; k_fill; intro X
  refine wpAny_call ?_
  k_dflt (walk_at "enterP")
  rename Heap.StaysIn _ _ => st9
  replace hvw := st9 _ _ hvw; replace hvd := st9 _ _ hvd; replace hul := st9 _ _ hul
  (try dsimp only)
  (try k_fold)
  k_steps
  rename (u ∈ vu → Exists _) => z1
  rename (u ∉ vu → _) => z2
  exact hret _ _ _ _ (by assumption) (by assumption) (fun hm => by obtain ⟨j, e, hj⟩ := z1 hm; exact ⟨j, by rw [e], hj⟩) fun hm => by rw [z2 hm]; rfl
end
theorem zF9 {M : Model} {A : Around} {env : Env} {p : Pos} {Q : Flow → Shared → Prop} {E : Value → Shared → Prop} {s : Shared} (h : wpAny M A (exec (.Pass p) env) Q E s) : wpAny M A (exec (.Pass p) env) Q E s := by
  w_top off
  first | (walk1; fail "z") | exact h
section
variable {w : World} {mean : ExcName → Option Value} {mg mb : Str → Option Value} {dp un : Nat} {gd : Option (List Code)} {cn : Str} {cs : Scope} {a : Addr} {ccd : Value} {cl : List (Str × Addr)} {outer : List Env} {A₀ : Around} {base h₀ : Heap} {L : Addr} {m : Str → Option Value} {s : Shared} {Q E : Value → Shared → Prop} {rest news : List (Addr × Obj)}
  (B : Below A₀ base outer h₀) (F : Fr h₀ L s.heap m) (X : (hd.heap_1 w.params).In h₀) (T : Top Mine.lawView (looseW Mine.lawView [Str.ofString "PostError"]) mean mg mb h₀) (hk : cs.kind = .function)
  (hdp : dp + 3 < recursionLimit) (hu : un + 100 < cLine)
include B F X T hk hdp hu
theorem uid_at_p {vw vd bx ul fd md : Addr} {ys : List Value} {vu : List Int} {n : Nat} {k : Int} {tu q0 q1 q2 q3 q4 q5 q6 : Tok} {ro um uv : Bool}
    (hvw : s.heap.get? vw = some (instObj 77 vd)) (hvd : s.heap.get? vd = some (dictOf (viewD w.params q0 q1 q2 q3 q4 q5 q6 bx ro um uv ul fd md) 7))
    (hul : s.heap.get? ul = some (listOf ys.toArray n)) (hi : IntsAre ys vu) (hlen : vu.length ≤ 1000) (hk1 : 1 ≤ k) (hk2 : k ≤ vu.length)
    (hret : ∀ t h' tk', Fr h₀ L h' m → s.heap.StaysIn h' → Q (.int (vu.getD (k - 1).toNat 0) t) { s with heap := h', toks := tk' }) :
    wpAny (model PySem.Challenge.rw_nz0296_01.row.prog w) (ktrTop dp un gd cn cs L a ccd cl outer) (call (.ref 55) [.ref vw, .int k tu]) Q E s := by
  revert X; k_fill; intro X
  refine wpAny_call ?_
  k_dflt (walk_at "enterP")
  rename Heap.StaysIn _ _ => st9
  replace hvw := st9 _ _ hvw; replace hvd := st9 _ _ hvd; replace hul := st9 _ _ hul
  have hB := isList_of_get hul
  (try dsimp only)
  (try k_fold)
  k_steps
  exact hret _ _ _ (by assumption) (by assumption)
end
theorem zF10 {M : Model} {A : Around} {env : Env} {p : Pos} {Q : Flow → Shared → Prop} {E : Value → Shared → Prop} {s : Shared} (h : wpAny M A (exec (.Pass p) env) Q E s) : wpAny M A (exec (.Pass p) env) Q E s := by
  w_top off
  first | (walk1; fail "z") | exact h
section
variable {w : World} {mean : ExcName → Option Value} {mg mb : Str → Option Value} {dp un : Nat} {gd : Option (List Code)} {cn : Str} {cs : Scope} {a : Addr} {ccd : Value} {cl : List (Str × Addr)} {outer : List Env} {A₀ : Around} {base h₀ : Heap} {L : Addr} {m : Str → Option Value} {s : Shared} {Q E : Value → Shared → Prop} {rest news : List (Addr × Obj)}
  (B : Below A₀ base outer h₀) (F : Fr h₀ L s.heap m) (X : (hd.heap_1 w.params).In h₀) (T : Top Mine.lawView (looseW Mine.lawView [Str.ofString "PostError"]) mean mg mb h₀) (hk : cs.kind = .function)
  (hdp : dp + 12 < recursionLimit) (hu : un + 160 < cLine)
include B F X T hk hdp hu
theorem news_none {vw vd bx bd la ga ul fd md : Addr} {vs ys : List Value} {us vu : List Int} {kf km : List (Int × Value)} {o1 o2 : Obj} {nm vl nu tp fl : Value} {k0 k1 k2 k3 k4 k5 k6 q0 q1 q2 q3 q4 q5 q6 : Tok} {e n : Nat} {ro um uv : Bool}
    (N : News h₀ L s.heap ((vd, dictOf (viewD w.params q0 q1 q2 q3 q4 q5 q6 bx ro um uv ul fd md) 7) :: (fd, o1) :: (md, o2) :: rest))
    (ap : ApartN 3 ((vd, dictOf (viewD w.params q0 q1 q2 q3 q4 q5 q6 bx ro um uv ul fd md) 7) :: (fd, o1) :: (md, o2) :: rest))
    (hvw : (vw, instObj 77 vd) ∈ rest) (hbx : (bx, instObj 242 bd) ∈ rest) (hbd : (bd, dictOf (boxD w.params k0 k1 k2 k3 k4 k5 k6 nm vl nu tp fl la ga) 7) ∈ rest) (hla : (la, listOf vs.toArray e) ∈ rest)
    (hul : (ul, listOf ys.toArray n) ∈ rest) (hL : LettersIn w.params rest vs us) (hi : IntsAre ys vu) (hnd : us.Nodup) (hlen : vs.length ≤ 500) (hlen2 : vu.length ≤ 500) (hs : vu.Pairwise (· < ·)) (hsub : ∀ u ∈ vu, u ∈ us)
    (d1 : o1.IsDictOf (intKind PySem.Challenge.rw_nz0296_01.row.prog w) kf) (d2 : o2.IsDictOf (intKind PySem.Challenge.rw_nz0296_01.row.prog w) km) (e1 : kf.map (·.1) = vu) (e2 : km.map (·.1) = vu)
    (hret : ∀ D ea ul' zs n' o1' o2' kf' km' tl h' tk', Fr h₀ L h' m →
      News h₀ L h' ((vd, dictOf (viewD w.params q0 q1 q2 q3 q4 q5 q6 bx ro um uv ul' fd md) 7) :: (fd, o1') :: (md, o2') :: (tl ++ rest)) →
      (∀ p ∈ tl, ∀ q ∈ (vd, dictOf (viewD w.params q0 q1 q2 q3 q4 q5 q6 bx ro um uv ul fd md) 7) :: (fd, o1) :: (md, o2) :: rest, p.1 ≠ q.1) →
      (D, listOf [].toArray ea) ∈ tl → (ul', listOf (List.toArray zs) n') ∈ (ul, listOf ys.toArray n) :: tl → IntsAre zs vu →
      o1'.IsDictOf (intKind PySem.Challenge.rw_nz0296_01.row.prog w) kf' → o2'.IsDictOf (intKind PySem.Challenge.rw_nz0296_01.row.prog w) km' → kf'.map (·.1) = vu → km'.map (·.1) = vu →
      Q (.ref D) { s with heap := h', toks := tk' }) :
    wpAny (model PySem.Challenge.rw_nz0296_01.row.prog w) (ktrTop dp un gd cn cs L a ccd cl outer) (call (.ref 105) [.ref vw]) Q E s := by
  have g0 : (vu.filter fun u => !us.contains u) = [] := List.filter_eq_nil_iff.mpr fun u hu => by simpa using hsub u hu
  have g1 : (vu.filter fun x => us.contains x) = vu := List.filter_eq_self.mpr fun u hu => by simpa using hsub u hu
  cases uv
  · refine news_call_f B F X T hk hdp hu N ap hvw hbx hbd hla hul hL hi hnd hlen hlen2 hs d1 d2 e1 e2 ?_
    rintro D as ea ul' zs n' o1' o2' kf' km' tl h' tk' F' N' fr mD mu iz D1 D2 E1 E2 ⟨ks, tn, td⟩
    rw [g0] at tn
    rw [g1] at iz E1 E2
    cases tn
    cases td
    exact hret D ea ul' zs n' o1' o2' kf' km' tl h' tk' F' N' fr mD mu iz D1 D2 E1 E2
  · refine news_call_t B F X T hk hdp hu N ap hvw hbx hbd hla hul hL hi hnd hlen hlen2 hs d1 d2 e1 e2 ?_
    rintro D as ea ul' zs n' o1' o2' kf' km' tl h' tk' F' N' fr mD mu iz D1 D2 E1 E2 td
    rw [g0] at td
    rw [g1] at iz E1 E2
    cases td
    exact hret D ea ul' zs n' o1' o2' kf' km' tl h' tk' F' N' fr mD mu iz D1 D2 E1 E2
end
section
local macro_rules | `(tactic| walk_at "lit") => `(tactic| ((conv at hsc => rhs; whnf); (conv at hst => rhs; whnf); subst hsc; subst hst))
local macro_rules | `(tactic| walk_at "offEnd") => `(tactic| ((try dsimp only [AllOff]); (repeat' (first | exact trivial | refine And.intro ?_ ?_ | assumption | exact NeA.l (by assumption) | exact NeA.r (by assumption) | (show @Ne Nat _ _; omega)))))
local macro_rules | `(tactic| walk_at "look") => `(tactic| first | assumption | exact setM_eq | (refine setM_ne (by decide +kernel) ?_; walk_at "look") | exact if_pos rfl | (refine (if_neg (by decide +kernel)).trans ?_; walk_at "look"))
local macro_rules | `(tactic| walk_at "eval Name") => `(tactic| (k_here; (with_reducible show wpAny _ _ (eval (PySem.Expr.Name _ _) (envOfC _ _ _ _ _)) _ _ _); k_dflt (refine' ldLoc ?lF ?lv ?_ ?la ?lb ?lc; (case la => exact rfl); (case lb => exact rfl); (case lF => k_asm); (case lv => walk_at "look"); (case lc => decide +kernel))))
theorem zS0 {M : Model} {A : Around} {env : Env} {p : Pos} {Q : Flow → Shared → Prop} {E : Value → Shared → Prop} {s : Shared} (h : wpAny M A (exec (.Pass p) env) Q E s) : wpAny M A (exec (.Pass p) env) Q E s := by
  w_top off
  first | (walk1; fail "z") | exact h
section
variable {w : World} {mean : ExcName → Option Value} {mg mb : Str → Option Value} {dp un : Nat} {gd : Option (List Code)} {sc : Scope} {st : Stmt} {a : Addr} {ccd : Value} {outer : List Env} {A₀ : Around} {base h₀ : Heap} {L : Addr} {m : Str → Option Value} {s : Shared} {Q : Flow → Shared → Prop} {E : Value → Shared → Prop} {rest news : List (Addr × Obj)}
  (hsc : sc = lawScope) (B : Below A₀ base outer h₀) (F : Fr h₀ L s.heap m) (X : (hd.heap_1 w.params).In h₀) (T : Top Mine.lawView (looseW Mine.lawView [Str.ofString "PostError"]) mean mg mb h₀)
  (hdp : dp + 30 < recursionLimit) (hu : un + 300 < cLine)
include hsc B F X T hdp hu
local macro_rules | `(tactic| walk_at "call ref") => `(tactic| ((with_reducible show wpAny _ _ (call (Value.ref 279) _) _ _ _); refine Stop.out ?_))
theorem st0 (hst : st = lapStmts.getD 0 default) {pa ca : Addr} {cvs : List Value} {cns : List Int} {k z : Int} {tk tz : Tok} {e n' : Nat} {oS : Obj} {vS : Option Value}
    (N : News h₀ L s.heap ((pa, listOf [.ref ca, .int k tk, .int z tz].toArray e) :: (L + 1 + 1, oS) :: rest)) (dS : oS.data = .cell vS) (ap : ApartN 2 ((pa, listOf [.ref ca, .int k tk, .int z tz].toArray e) :: (L + 1 + 1, oS) :: rest))
    (hm : m (Str.ofString "pen") = some (.ref pa)) (hca : (ca, listOf cvs.toArray n') ∈ rest) (hi : IntsAre cvs cns) (hlen : cns.length ≤ 63) (hk0 : 0 ≤ k) (hk1 : k ≤ 900) (hz0 : 0 ≤ z) (hz1 : z < 997)
    (hret : ∀ x1 x2 t1 t2 tk2 sl es oS' h' tk', Fr h₀ L h' m → News h₀ L h' ((sl, listOf [.int x1 t1, .int x2 t2].toArray es) :: (pa, listOf [.ref ca, .int (k + 1 + 1) tk2, .int z tz].toArray e) :: (L + 1 + 1, oS') :: rest) →
      oS'.data = .cell (some (.ref sl)) → (∀ p ∈ (pa, listOf [.ref ca, .int k tk, .int z tz].toArray e) :: (L + 1 + 1, oS) :: rest, p.1 ≠ sl) → Q .next { s with heap := h', toks := tk' }) :
    wpAny (model PySem.Challenge.rw_nz0296_01.row.prog w) (ktrTop dp un gd (Str.ofString "law") sc L a ccd (cellsFrom (L + 1) sc.names []) outer) (exec st (envOfC (Str.ofString "law") sc L a ccd)) Q E s := by
  conv at hsc => rhs; whnf
  conv at hst => rhs; whnf
  subst hsc; subst hst
  revert X; k_fill; intro X
  have c1 : NeA pa (L + 1 + 1) := fun q => ap.1 (L + 1 + 1, _) (.head _) q.symm
  have c2 : AllOff pa rest := allOff_of fun p hp => ap.1 p (.tail _ hp)
  have c3 : AllOff (L + 1 + 1) rest := allOff_of fun p hp => ap.2.1 p hp
  k_steps
  refine Stop.mk ?_
  k_dflt (refine' draw_call (i := k) (z := z) (many := 9) ?cB ?cF ?cX ?cT ?ck ?cd ?cu ?cN (fun p hp => ap.1 p hp) (.tail _ hca) hi hlen (by omega) (by omega) hz0 hz1 (by decide) (by decide) ?_; (case cB => k_asm); (case cF => k_asm); (case cN => k_asm); (case cX => k_asm); (case cT => k_asm); (case ck => first | exact rfl | assumption); (case cd => ktr_room); (case cu => k_units))
  intro r1 t1 k1 h1 tk1 F1 N1 b0 b1
  clear N F
  k_steps
  refine Stop.mk ?_
  k_dflt (refine' draw_call (i := k + 1) (z := z) (many := 9) ?cB ?cF ?cX ?cT ?ck ?cd ?cu ?cN (fun p hp => ap.1 p hp) (.tail _ hca) hi hlen (by omega) (by omega) hz0 hz1 (by decide) (by decide) ?_; (case cB => k_asm); (case cF => k_asm); (case cN => k_asm); (case cX => k_asm); (case cT => k_asm); (case ck => first | exact rfl | assumption); (case cd => ktr_room); (case cu => k_units))
  intro r2 t2 k2 h2 tk2 F2 N2 b2 b3
  clear N1 F1
  k_steps
  rename (_ < _ ∧ _) => l1
  exact hret _ _ _ _ _ _ _ _ _ _ (by assumption) (by assumption) (by assumption) fun p hp => Nat.ne_of_lt (of_allLt (l := (pa, listOf [.ref ca, .int k tk, .int z tz].toArray e) :: (L + 1 + 1, oS) :: rest) l1 p hp)
end
theorem zS1 {M : Model} {A : Around} {env : Env} {p : Pos} {Q : Flow → Shared → Prop} {E : Value → Shared → Prop} {s : Shared} (h : wpAny M A (exec (.Pass p) env) Q E s) : wpAny M A (exec (.Pass p) env) Q E s := by
  w_top off
  first | (walk1; fail "z") | exact h
section
variable {w : World} {mean : ExcName → Option Value} {mg mb : Str → Option Value} {dp un : Nat} {gd : Option (List Code)} {sc : Scope} {st : Stmt} {a : Addr} {ccd : Value} {outer : List Env} {A₀ : Around} {base h₀ : Heap} {L : Addr} {m : Str → Option Value} {s : Shared} {Q : Flow → Shared → Prop} {E : Value → Shared → Prop} {rest news : List (Addr × Obj)}
  (hsc : sc = lawScope) (B : Below A₀ base outer h₀) (F : Fr h₀ L s.heap m) (X : (hd.heap_1 w.params).In h₀) (T : Top Mine.lawView (looseW Mine.lawView [Str.ofString "PostError"]) mean mg mb h₀)
  (hdp : dp + 30 < recursionLimit) (hu : un + 300 < cLine)
include hsc B F X T hdp hu
local macro_rules | `(tactic| walk_at "call ref") => `(tactic| ((with_reducible show wpAny _ _ (call (Value.ref 272) _) _ _ _); refine Stop.out ?_))
theorem st1 (hst : st = lapStmts.getD 1 default) {bx bd la ga sl : Addr} {vs gs : List Value} {us : List Int} {nm vl nu fl : Value} {tp x1 x2 : Int} {tt t1 t2 k0 k1 k2 k3 k4 k5 k6 : Tok} {e eg es : Nat} {oS : Obj}
    (N : News h₀ L s.heap ((bd, dictOf (boxD w.params k0 k1 k2 k3 k4 k5 k6 nm vl nu (.int tp tt) fl la ga) 7) :: (la, listOf vs.toArray e) :: (ga, listOf gs.toArray eg) :: rest))
    (ap : ApartN 3 ((bd, dictOf (boxD w.params k0 k1 k2 k3 k4 k5 k6 nm vl nu (.int tp tt) fl la ga) 7) :: (la, listOf vs.toArray e) :: (ga, listOf gs.toArray eg) :: rest))
    (hm : m (Str.ofString "box") = some (.ref bx)) (hbx : (bx, instObj 242 bd) ∈ rest) (hcs : (L + 1 + 1, oS) ∈ rest) (dS : oS.data = .cell (some (.ref sl))) (hsl : (sl, listOf [.int x1 t1, .int x2 t2].toArray es) ∈ rest)
    {R : List (Addr × Obj)} (hR : ∀ p ∈ R, p ∈ rest) (hL : LettersIn w.params R vs us) (hlen : vs.length ≤ 500) (hglen : gs.length ≤ 500)
    (hret : ∀ la' ga' vs' gs' e' eg' tp' tt' h' tk', Fr h₀ L h' m →
      News h₀ L h' ((bd, dictOf (boxD w.params k0 k1 k2 k3 k4 k5 k6 nm vl nu (.int tp' tt') fl la' ga') 7) :: (la', listOf (List.toArray vs') e') :: (ga', listOf (List.toArray gs') eg') :: rest) →
      ApartN 3 ((bd, dictOf (boxD w.params k0 k1 k2 k3 k4 k5 k6 nm vl nu (.int tp' tt') fl la' ga') 7) :: (la', listOf (List.toArray vs') e') :: (ga', listOf (List.toArray gs') eg') :: rest) →
      LettersIn w.params R vs' (us.filter fun u => !(u == x1 || u == x2)) → gs'.length ≤ gs.length + us.length → Q .next { s with heap := h', toks := tk' }) :
    wpAny (model PySem.Challenge.rw_nz0296_01.row.prog w) (ktrTop dp un gd (Str.ofString "law") sc L a ccd (cellsFrom (L + 1) sc.names []) outer) (exec st (envOfC (Str.ofString "law") sc L a ccd)) Q E s := by
  conv at hsc => rhs; whnf
  conv at hst => rhs; whnf
  subst hsc; subst hst
  revert X; k_fill; intro X
  k_steps
  refine Stop.mk ?_
  k_dflt (refine' expunge_call ?cB ?cF ?cX ?cT ?ck ?cd ?cu N ap hbx hsl hR hL hlen hglen ?_; (case cB => k_asm); (case cF => k_asm); (case cX => k_asm); (case cT => k_asm); (case ck => first | exact rfl | assumption); (case cd => ktr_room); (case cu => k_units))
  intro r la' ga' vs' gs' e' eg' tp' tt' h' tk' F' N' ap' hL' hg'
  clear N F
  k_steps
  exact hret _ _ _ _ _ _ _ _ _ _ F' N' ap' hL' hg'
end
theorem zS2 {M : Model} {A : Around} {env : Env} {p : Pos} {Q : Flow → Shared → Prop} {E : Value → Shared → Prop} {s : Shared} (h : wpAny M A (exec (.Pass p) env) Q E s) : wpAny M A (exec (.Pass p) env) Q E s := by
  w_top off
  first | (walk1; fail "z") | exact h
section
variable {w : World} {mean : ExcName → Option Value} {mg mb : Str → Option Value} {dp un : Nat} {gd : Option (List Code)} {sc : Scope} {st : Stmt} {a : Addr} {ccd : Value} {outer : List Env} {A₀ : Around} {base h₀ : Heap} {L : Addr} {m : Str → Option Value} {s : Shared} {Q : Flow → Shared → Prop} {E : Value → Shared → Prop} {rest news : List (Addr × Obj)}
  (hsc : sc = lawScope) (B : Below A₀ base outer h₀) (F : Fr h₀ L s.heap m) (X : (hd.heap_1 w.params).In h₀) (T : Top Mine.lawView (looseW Mine.lawView [Str.ofString "PostError"]) mean mg mb h₀)
  (hdp : dp + 30 < recursionLimit) (hu : un + 300 < cLine)
include hsc B F X T hdp hu
local macro_rules | `(tactic| walk_at "call ref") => `(tactic| ((with_reducible show wpAny _ _ (call (Value.ref 279) _) _ _ _); refine Stop.out ?_))
local macro_rules | `(tactic| walk_at "call ref") => `(tactic| ((with_reducible show wpAny _ _ (call (Value.ref 267) _) _ _ _); refine Stop.out ?_))
theorem st2 (hst : st = lapStmts.getD 2 default) {pa ca bx bd la ga : Addr} {cvs vs : List Value} {cns us : List Int} {k z nu tp : Int} {tk0 tz tn tt k0 k1 k2 k3 k4 k5 k6 : Tok} {e n' el : Nat} {nm vl fl : Value}
    (N : News h₀ L s.heap ((pa, listOf [.ref ca, .int k tk0, .int z tz].toArray e) :: (bd, dictOf (boxD w.params k0 k1 k2 k3 k4 k5 k6 nm vl (.int nu tn) (.int tp tt) fl la ga) 7) :: (la, listOf vs.toArray el) :: rest))
    (ap : ApartN 3 ((pa, listOf [.ref ca, .int k tk0, .int z tz].toArray e) :: (bd, dictOf (boxD w.params k0 k1 k2 k3 k4 k5 k6 nm vl (.int nu tn) (.int tp tt) fl la ga) 7) :: (la, listOf vs.toArray el) :: rest))
    (hm : m (Str.ofString "pen") = some (.ref pa)) (hmb : m (Str.ofString "box") = some (.ref bx)) (hbx : (bx, instObj 242 bd) ∈ rest)
    (hca : (ca, listOf cvs.toArray n') ∈ rest) (hi : IntsAre cvs cns) (hlen : cns.length ≤ 63) (hk0 : 0 ≤ k) (hk1 : k ≤ 900) (hz0 : 0 ≤ z) (hz1 : z < 997)
    {R : List (Addr × Obj)} (hL : LettersIn w.params R vs us) (hvl : vs.length ≤ 500)
    (hret : ∀ vs' us' nu' tp' tn' tt' tk2 e' tl h' tk', Fr h₀ L h' m →
      News h₀ L h' ((pa, listOf [.ref ca, .int (k + 1) tk2, .int z tz].toArray e) :: (bd, dictOf (boxD w.params k0 k1 k2 k3 k4 k5 k6 nm vl (.int nu' tn') (.int tp' tt') fl la ga) 7) :: (la, listOf (List.toArray vs') e') :: (tl ++ rest)) →
      (∀ p ∈ tl, ∀ q ∈ (pa, listOf [.ref ca, .int k tk0, .int z tz].toArray e) :: (bd, dictOf (boxD w.params k0 k1 k2 k3 k4 k5 k6 nm vl (.int nu tn) (.int tp tt) fl la ga) 7) :: (la, listOf vs.toArray el) :: rest, p.1 ≠ q.1) →
      LettersIn w.params (tl ++ R) vs' us' → (us' = us ∧ nu' = nu) ∨ (us' = us ++ [nu] ∧ nu' = nu + 1) → Q .next { s with heap := h', toks := tk' }) :
    wpAny (model PySem.Challenge.rw_nz0296_01.row.prog w) (ktrTop dp un gd (Str.ofString "law") sc L a ccd (cellsFrom (L + 1) sc.names []) outer) (exec st (envOfC (Str.ofString "law") sc L a ccd)) Q E s := by
  conv at hsc => rhs; whnf
  conv at hst => rhs; whnf
  subst hsc; subst hst
  revert X; k_fill; intro X
  have c1 : NeA pa bd := fun q => ap.1 (bd, _) (.head _) q.symm
  have c2 : NeA pa la := fun q => ap.1 (la, _) (.tail _ (.head _)) q.symm
  have c3 : NeA bd la := fun q => ap.2.1 (la, _) (.head _) q.symm
  have c4 : AllOff pa rest := allOff_of fun p hp => ap.1 p (.tail _ (.tail _ hp))
  have c5 : AllOff bd rest := allOff_of fun p hp => ap.2.1 p (.tail _ hp)
  have c6 : AllOff la rest := allOff_of fun p hp => ap.2.2.1 p hp
  k_steps
  refine Stop.mk ?_
  k_dflt (refine' draw_call (i := k) (z := z) (many := 2) ?cB ?cF ?cX ?cT ?ck ?cd ?cu ?cN (fun p hp => ap.1 p hp) (.tail _ (.tail _ hca)) hi hlen (by omega) (by omega) hz0 hz1 (by decide) (by decide) ?_; (case cN => k_asm); (case cB => k_asm); (case cF => k_asm); (case cX => k_asm); (case cT => k_asm); (case ck => first | exact rfl | assumption); (case cd => ktr_room); (case cu => k_units))
  intro r1 t1 kk h1 tk1 F1 N1 b0 b1
  clear N F
  k_steps
  · refine Stop.mk ?_
    rename (_ < _ ∧ _) => l1
    rename Fr _ _ _ _ => lF
    rename News _ _ _ _ => lN
    rename_i D9 h9
    have M1 := news_sub (l' := (bd, dictOf (boxD w.params k0 k1 k2 k3 k4 k5 k6 nm vl (.int nu tn) (.int tp tt) fl la ga) 7) :: (la, listOf vs.toArray el) :: (D9, tupOf []) :: (pa, listOf [.ref ca, .int (k + 1) kk, .int z tz].toArray e) :: rest) lN (by walk_at "sub")
    k_dflt (refine' add_letter_call (its := []) ?cB lF ?cX ?cT ?ck ?cd ?cu M1 c3 ?o1 ?o2 (.tail _ (.tail _ hbx)) (.head _) (.inl rfl) (by omega) ?_; (case cB => k_asm); (case cX => k_asm); (case cT => k_asm); (case ck => first | exact rfl | assumption); (case cd => ktr_room); (case cu => k_units))
    case o1 =>
      refine AllOff.ne ?_
      have n1 : NeA bd D9 := Nat.ne_of_lt l1.2.1
      walk_at "offEnd"
    case o2 =>
      refine AllOff.ne ?_
      have n1 : NeA la D9 := Nat.ne_of_lt l1.2.2.1
      walk_at "offEnd"
    intro x dx fa tn' tt' tu tm q0 q1 q2 q3 q4 h' tk' F' N' e1 e2
    clear lN lF M1
    k_steps
    obtain ⟨oct, ins, N'⟩ : ∃ oct ins, News h₀ L h' ((x, instObj 204 dx) :: (dx, dictOf (letD w.params q0 q1 q2 q3 q4 (.int nu tu) oct (.ref fa) ins (.int (tp + 1) tm)) 5) :: _) := ⟨_, _, N'⟩
    refine hret (vs ++ [.ref x]) (us ++ [nu]) (nu + 1) (tp + 1) tn' tt' kk (el + 1) ((x, instObj 204 dx) :: (dx, dictOf (letD w.params q0 q1 q2 q3 q4 (.int nu tu) oct (.ref fa) ins (.int (tp + 1) tm)) 5) :: (D9, tupOf []) :: []) h' _ F' (news_sub N' ?hN) ?hf ?hLL (.inr ⟨rfl, rfl⟩)
    case hLL => exact LettersIn.snoc (u := nu) ⟨x, dx, q0, q1, q2, q3, q4, tu, tm, oct, fa, ins, tp + 1, rfl, .head _, .tail _ (.head _)⟩ (hL.more fun p hp => .tail _ (.tail _ (.tail _ hp)))
    case hN =>
      intro p hp
      simp only [List.mem_cons, List.cons_append, List.nil_append] at hp ⊢
      rcases hp with h | h | h | h | h | h | h <;> simp [h]
    case hf =>
      have zz : ∀ q ∈ (pa, listOf [.ref ca, .int k tk0, .int z tz].toArray e) :: (bd, dictOf (boxD w.params k0 k1 k2 k3 k4 k5 k6 nm vl (.int nu tn) (.int tp tt) fl la ga) 7) :: (la, listOf vs.toArray el) :: rest, q.1 < dx := by
        intro q hq
        rcases List.mem_cons.mp hq with rfl | hq
        · exact e2 (pa, listOf [.ref ca, .int (k + 1) kk, .int z tz].toArray e) (.tail _ (.tail _ (.tail _ (.head _))))
        rcases List.mem_cons.mp hq with rfl | hq
        · exact e2 (bd, _) (.head _)
        rcases List.mem_cons.mp hq with rfl | hq
        · exact e2 (la, _) (.tail _ (.head _))
        · exact e2 q (.tail _ (.tail _ (.tail _ (.tail _ hq))))
      have y := of_allLt (l := (pa, listOf [.ref ca, .int k tk0, .int z tz].toArray e) :: (bd, dictOf (boxD w.params k0 k1 k2 k3 k4 k5 k6 nm vl (.int nu tn) (.int tp tt) fl la ga) 7) :: (la, listOf vs.toArray el) :: rest) l1
      intro p hp q hq
      rcases List.mem_cons.mp hp with rfl | hp
      · exact Nat.ne_of_gt (Nat.lt_trans (zz q hq) e1)
      rcases List.mem_cons.mp hp with rfl | hp
      · exact Nat.ne_of_gt (zz q hq)
      · rw [List.mem_singleton.mp hp]; exact Nat.ne_of_gt (y q hq)
  · refine hret vs us nu tp tn tt kk el [] h1 _ F1 N1 (fun p hp => nomatch hp) hL (.inl ⟨rfl, rfl⟩)
end
theorem zS3 {M : Model} {A : Around} {env : Env} {p : Pos} {Q : Flow → Shared → Prop} {E : Value → Shared → Prop} {s : Shared} (h : wpAny M A (exec (.Pass p) env) Q E s) : wpAny M A (exec (.Pass p) env) Q E s := by
  w_top off
  first | (walk1; fail "z") | exact h
section
variable {w : World} {mean : ExcName → Option Value} {mg mb : Str → Option Value} {dp un : Nat} {gd : Option (List Code)} {sc : Scope} {st : Stmt} {a : Addr} {ccd : Value} {outer : List Env} {A₀ : Around} {base h₀ : Heap} {L : Addr} {m : Str → Option Value} {s : Shared} {Q : Flow → Shared → Prop} {E : Value → Shared → Prop} {rest news : List (Addr × Obj)}
  (hsc : sc = lawScope) (B : Below A₀ base outer h₀) (F : Fr h₀ L s.heap m) (X : (hd.heap_1 w.params).In h₀) (T : Top Mine.lawView (looseW Mine.lawView [Str.ofString "PostError"]) mean mg mb h₀)
  (hdp : dp + 30 < recursionLimit) (hu : un + 300 < cLine)
include hsc B F X T hdp hu
local macro_rules | `(tactic| walk_at "exec Assign cons ListComp") => `(tactic| ((with_reducible show wpAny _ _ (exec (Stmt.Assign [PySem.Expr.Name _ _] _ _) _) _ _ _); refine Stop.out ?_))
theorem st3 (hst : st = lapStmts.getD 3 default) {lf sl : Addr} {ls : List Value} {vu : List Int} {x1 x2 : Int} {t1 t2 : Tok} {n es : Nat} {oL oS : Obj}
    (N : News h₀ L s.heap news) (hcl : (L + 1, oL) ∈ news) (dL : oL.data = .cell (some (.ref lf))) (hcs : (L + 1 + 1, oS) ∈ news) (dS : oS.data = .cell (some (.ref sl)))
    (hlf : (lf, listOf ls.toArray n) ∈ news) (hi : IntsAre ls vu) (hlen : vu.length ≤ 500) (hsl : (sl, listOf [.int x1 t1, .int x2 t2].toArray es) ∈ news)
    (hret : ∀ D zs n' h' tk', Fr h₀ L h' (fun y => if y = Str.ofString "gone" then some (.ref D) else m y) → News h₀ L h' ((D, listOf (List.toArray zs) n') :: news) → (∀ p ∈ news, p.1 ≠ D) → IntsAre zs (vu.filter fun u => u == x1 || u == x2) → Q .next { s with heap := h', toks := tk' }) :
    wpAny (model PySem.Challenge.rw_nz0296_01.row.prog w) (ktrTop dp un gd (Str.ofString "law") sc L a ccd (cellsFrom (L + 1) sc.names []) outer) (exec st (envOfC (Str.ofString "law") sc L a ccd)) Q E s := by
  conv at hsc => rhs; whnf
  conv at hst => rhs; whnf
  subst hsc; subst hst
  revert X; k_fill; intro X
  k_steps
  refine Stop.mk ?_
  refine' comp_anyA (intP fun u => u == x1 || u == x2) (fun v y => y = v) ?_ ?_ ?_ ?_ ?_ ?_ ?_ ?_ ?_ ?_ ?_
  walk_at "sides"
  k_steps
  refine Stop.mk ?_
  have I2 : IntsAre [Value.int x1 t1, Value.int x2 t2] [x1, x2] := .cons _ _ (.cons _ _ .nil)
  have cS := fun (h : Heap) (st : s.heap.StaysIn h) => cell_stays (cell_of N hcs dS) st
  have lS := fun (h : Heap) (st : s.heap.StaysIn h) => (N.isList hsl).at fun o e => st _ _ e
  refine ⟨lf, ls, h₀, m, rfl, N.isList hlf, by rw [hi.length]; omega, F, fun C v s₂ m₂ E' hC hv hn hm hk => ?_, fun C v s₂ m₂ E' hC hv _ hn hm hk => wpAny_mono (ldVarK (C := C) hn hm ⟨rfl, keeps_refl _⟩) (fun _ _ q => q) fun _ _ e => e, fun D ys2 n2 h' tk hD hget hp F3 hkp => ?_⟩
  · obtain ⟨u, t, rfl, -⟩ := ints_mem hi v hv
    exact wpAny_mono (test_inL (lS _ hk) I2 (fun Q2 q => ldVarK (C := C) hn hm (q _ _)) fun Q2 tk q => ldCellK (C := C) rfl (cS _ hk) (q _)) (fun ok s₃ q => ⟨q.1.trans (two_any _ _ _), q.2⟩) fun _ _ e => e
  · have N3 := news_newL F N hkp hD hget
    exact hret D ys2 n2 h' tk F3 N3 (off_of_none N hD) (paired_eq hp ▸ ints_filter _ hi)
end
theorem zS4 {M : Model} {A : Around} {env : Env} {p : Pos} {Q : Flow → Shared → Prop} {E : Value → Shared → Prop} {s : Shared} (h : wpAny M A (exec (.Pass p) env) Q E s) : wpAny M A (exec (.Pass p) env) Q E s := by
  w_top off
  first | (walk1; fail "z") | exact h
section
variable {w : World} {mean : ExcName → Option Value} {mg mb : Str → Option Value} {dp un : Nat} {gd : Option (List Code)} {sc : Scope} {st : Stmt} {a : Addr} {ccd : Value} {outer : List Env} {A₀ : Around} {base h₀ : Heap} {L : Addr} {m : Str → Option Value} {s : Shared} {Q : Flow → Shared → Prop} {E : Value → Shared → Prop} {rest news : List (Addr × Obj)}
  (hsc : sc = lawScope) (B : Below A₀ base outer h₀) (F : Fr h₀ L s.heap m) (X : (hd.heap_1 w.params).In h₀) (T : Top Mine.lawView (looseW Mine.lawView [Str.ofString "PostError"]) mean mg mb h₀)
  (hdp : dp + 30 < recursionLimit) (hu : un + 300 < cLine)
include hsc B F X T hdp hu
local macro_rules | `(tactic| walk_at "exec Assign cons ListComp") => `(tactic| ((with_reducible show wpAny _ _ (exec (Stmt.Assign [PySem.Expr.Name _ _] _ _) _) _ _ _); refine Stop.out ?_))
theorem st4 (hst : st = lapStmts.getD 4 default) {lf sl : Addr} {ls : List Value} {vu : List Int} {x1 x2 : Int} {t1 t2 : Tok} {n es : Nat} {oL oS : Obj}
    (N : News h₀ L s.heap news) (hcl : (L + 1, oL) ∈ news) (dL : oL.data = .cell (some (.ref lf))) (hcs : (L + 1 + 1, oS) ∈ news) (dS : oS.data = .cell (some (.ref sl)))
    (hlf : (lf, listOf ls.toArray n) ∈ news) (hi : IntsAre ls vu) (hlen : vu.length ≤ 500) (hsl : (sl, listOf [.int x1 t1, .int x2 t2].toArray es) ∈ news)
    (hret : ∀ D zs n' h' tk', Fr h₀ L h' (fun y => if y = Str.ofString "rest" then some (.ref D) else m y) → News h₀ L h' ((D, listOf (List.toArray zs) n') :: news) → (∀ p ∈ news, p.1 ≠ D) → IntsAre zs (vu.filter fun u => !(u == x1 || u == x2)) → Q .next { s with heap := h', toks := tk' }) :
    wpAny (model PySem.Challenge.rw_nz0296_01.row.prog w) (ktrTop dp un gd (Str.ofString "law") sc L a ccd (cellsFrom (L + 1) sc.names []) outer) (exec st (envOfC (Str.ofString "law") sc L a ccd)) Q E s := by
  conv at hsc => rhs; whnf
  conv at hst => rhs; whnf
  subst hsc; subst hst
  revert X; k_fill; intro X
  k_steps
  refine Stop.mk ?_
  refine' comp_anyA (intP fun u => !(u == x1 || u == x2)) (fun v y => y = v) ?_ ?_ ?_ ?_ ?_ ?_ ?_ ?_ ?_ ?_ ?_
  walk_at "sides"
  k_steps
  refine Stop.mk ?_
  have I2 : IntsAre [Value.int x1 t1, Value.int x2 t2] [x1, x2] := .cons _ _ (.cons _ _ .nil)
  have cS := fun (h : Heap) (st : s.heap.StaysIn h) => cell_stays (cell_of N hcs dS) st
  have lS := fun (h : Heap) (st : s.heap.StaysIn h) => (N.isList hsl).at fun o e => st _ _ e
  refine ⟨lf, ls, h₀, m, rfl, N.isList hlf, by rw [hi.length]; omega, F, fun C v s₂ m₂ E' hC hv hn hm hk => ?_, fun C v s₂ m₂ E' hC hv _ hn hm hk => wpAny_mono (ldVarK (C := C) hn hm ⟨rfl, keeps_refl _⟩) (fun _ _ q => q) fun _ _ e => e, fun D ys2 n2 h' tk hD hget hp F3 hkp => ?_⟩
  · obtain ⟨u, t, rfl, -⟩ := ints_mem hi v hv
    exact wpAny_mono (test_notinL (lS _ hk) I2 (fun Q2 q => ldVarK (C := C) hn hm (q _ _)) fun Q2 tk q => ldCellK (C := C) rfl (cS _ hk) (q _)) (fun ok s₃ q => ⟨q.1.trans (by rw [two_any]; rfl), q.2⟩) fun _ _ e => e
  · have N3 := news_newL F N hkp hD hget
    exact hret D ys2 n2 h' tk F3 N3 (off_of_none N hD) (paired_eq hp ▸ ints_filter _ hi)
end
theorem zS5 {M : Model} {A : Around} {env : Env} {p : Pos} {Q : Flow → Shared → Prop} {E : Value → Shared → Prop} {s : Shared} (h : wpAny M A (exec (.Pass p) env) Q E s) : wpAny M A (exec (.Pass p) env) Q E s := by
  w_top off
  first | (walk1; fail "z") | exact h
section
variable {w : World} {mean : ExcName → Option Value} {mg mb : Str → Option Value} {dp un : Nat} {gd : Option (List Code)} {sc : Scope} {st : Stmt} {a : Addr} {ccd : Value} {outer : List Env} {A₀ : Around} {base h₀ : Heap} {L : Addr} {m : Str → Option Value} {s : Shared} {Q : Flow → Shared → Prop} {E : Value → Shared → Prop} {rest news : List (Addr × Obj)}
  (hsc : sc = lawScope) (B : Below A₀ base outer h₀) (F : Fr h₀ L s.heap m) (X : (hd.heap_1 w.params).In h₀) (T : Top Mine.lawView (looseW Mine.lawView [Str.ofString "PostError"]) mean mg mb h₀)
  (hdp : dp + 30 < recursionLimit) (hu : un + 300 < cLine)
include hsc B F X T hdp hu
local macro_rules | `(tactic| walk_at "call ref") => `(tactic| ((with_reducible show wpAny _ _ (call (Value.ref 93) _) _ _ _); refine Stop.out ?_))
local macro_rules | `(tactic| walk_at "eval ListComp") => `(tactic| ((with_reducible show wpAny _ _ (eval (Expr.ListComp _ _ _ _) _) _ _ _); refine Stop.out ?_))
local macro_rules | `(tactic| walk_at "compareOp NotEq ref ref") => `(tactic| ((with_reducible show wpAny _ _ (compareOp CmpOp.NotEq (Value.ref _) (Value.ref _)) _ _ _); refine Stop.out ?_))
omit hsc B F X T hdp hu in
/-- a list of ints of its own -/
noncomputable def IntsG (vu : List Int) : Heap → List Addr → Value → Value → Prop := fun h fp _ y => ∃ D zs n, fp = [D] ∧ y = .ref D ∧ h.get? D = some (listOf (List.toArray zs) n) ∧ IntsAre zs vu
omit hsc B F X T hdp hu in
theorem intsG_lasts {vu : List Int} : Lasts (IntsG vu) := by
  rintro h h' fp v y ⟨D, zs, n, rfl, e, hD, hi⟩ hk
  exact ⟨D, zs, n, rfl, e, hk D (.head _) _ hD, hi⟩
theorem st5 (hst : st = lapStmts.getD 5 default) {bx bd la ga gl vl v1 d1 ul1 f1 m1 v2 d2 ul2 f2 m2 : Addr} {vs gs ys1 ys2 : List Value} {us vu : List Int} {nm vd nu tp fl : Value} {k0 k1 k2 k3 k4 k5 k6 q0 q1 q2 q3 q4 q5 q6 p0 p1 p2 p3 p4 p5 p6 : Tok} {e n1 n2 ng nv : Nat} {ro1 um1 uv1 ro2 um2 uv2 : Bool}
    (N : News h₀ L s.heap news) (hmv : m (Str.ofString "views") = some (.ref vl)) (hmg : m (Str.ofString "gone") = some (.ref gl)) (hvl : (vl, listOf [.ref v1, .ref v2].toArray nv) ∈ news)
    (hbx : (bx, instObj 242 bd) ∈ news) (hbd : (bd, dictOf (boxD w.params k0 k1 k2 k3 k4 k5 k6 nm vd nu tp fl la ga) 7) ∈ news) (hla : (la, listOf vs.toArray e) ∈ news) (hL : LettersIn w.params news vs us) (hnd : us.Nodup) (hlen : vs.length ≤ 1000) (hlen2 : vu.length ≤ 500)
    (hv1 : (v1, instObj 77 d1) ∈ news) (hd1 : (d1, dictOf (viewD w.params q0 q1 q2 q3 q4 q5 q6 bx ro1 um1 uv1 ul1 f1 m1) 7) ∈ news) (hu1 : (ul1, listOf ys1.toArray n1) ∈ news) (hi1 : IntsAre ys1 vu)
    (hv2 : (v2, instObj 77 d2) ∈ news) (hd2 : (d2, dictOf (viewD w.params p0 p1 p2 p3 p4 p5 p6 bx ro2 um2 uv2 ul2 f2 m2) 7) ∈ news) (hu2 : (ul2, listOf ys2.toArray n2) ∈ news) (hi2 : IntsAre ys2 vu)
    (hgl : (gl, listOf gs.toArray ng) ∈ news) (hgi : IntsAre gs (vu.filter fun u => !us.contains u))
    (hret : ∀ h' tk', Fr h₀ L h' m → News h₀ L h' news → Q .next { s with heap := h', toks := tk' }) :
    wpAny (model PySem.Challenge.rw_nz0296_01.row.prog w) (ktrTop dp un gd (Str.ofString "law") sc L a ccd (cellsFrom (L + 1) sc.names []) outer) (exec st (envOfC (Str.ofString "law") sc L a ccd)) Q E s := by
  conv at hsc => rhs; whnf
  conv at hst => rhs; whnf
  subst hsc; subst hst
  revert X; k_fill; intro X
  k_steps
  refine Stop.mk ?_
  refine' comp_gen (fun _ => true) (IntsG (vu.filter fun u => !us.contains u)) intsG_lasts ?_ ?_ ?_ ?_ ?_ ?_ ?_ ?_
  walk_at "sides"
  k_steps
  refine Stop.mk ⟨vl, [.ref v1, .ref v2], rfl, N.isList hvl, by simp, fun C v s₂ m₂ E' _ _ _ _ _ => wpAny_pure ⟨rfl, keeps_refl _⟩, fun C v s₂ m₂ E' hC hv _ hn hm hk => ?_, fun D ys2 n2 h' tk hD hget hp st => ?_⟩
  · have Fs := Fr.keeps F hk
    have Ns := News.grown N hk
    k_steps
    refine Stop.mk ?_
    have b1 := Ns.get hbx; have b2 := Ns.get hbd; have b3 := Ns.get hla; have b4 := LettersIn.at Ns hL
    have fin : ∀ D zs n h' tk', s₂.heap.StaysIn h' → s₂.heap.get? D = none → News h₀ L h' [(D, listOf (List.toArray zs) n)] → IntsAre zs (vu.filter fun u => !us.contains u) → qk (.ref D) { s₂ with heap := h', toks := tk' } :=
      fun D zs n h' tk' st fr nn hz => ⟨⟨[D], fun b hb => by rw [List.mem_singleton.mp hb]; exact fr, D, zs, n, rfl, rfl, nn.get (.head _), hz⟩, ⟨h', tk', rfl, st⟩⟩
    have hv' : v = .ref v1 ∨ v = .ref v2 := by simpa using hv
    rcases hv' with rfl | rfl
    · k_dflt (refine' gone_call ?cB Fs ?cX ?cT ?ck ?cd ?cu (Ns.get hv1) (Ns.get hd1) b1 b2 b3 (Ns.get hu1) b4 hi1 hnd hlen (by rw [hi1.length]; omega) ?_; (case cB => k_asm); (case cX => k_asm); (case cT => k_asm); (case ck => first | exact rfl | assumption); (case cd => ktr_room); (case cu => k_units))
      intro D zs n h' tk' F' st fr nn hz
      exact fin D zs n h' tk' st fr nn hz
    · k_dflt (refine' gone_call ?cB Fs ?cX ?cT ?ck ?cd ?cu (Ns.get hv2) (Ns.get hd2) b1 b2 b3 (Ns.get hu2) b4 hi2 hnd hlen (by rw [hi2.length]; omega) ?_; (case cB => k_asm); (case cX => k_asm); (case cT => k_asm); (case ck => first | exact rfl | assumption); (case cd => ktr_room); (case cu => k_units))
      intro D zs n h' tk' F' st fr nn hz
      exact fin D zs n h' tk' st fr nn hz
  · have F1 := Fr.keeps F st
    rw [filter_tt] at hp
    cases hp with
    | cons a r =>
    cases r with
    | cons b r =>
    cases r
    obtain ⟨fp1, x1, D1, zs1, z1, rfl, rfl, g1, i1⟩ := a
    obtain ⟨fp2, x2, D2, zs2, z2, rfl, rfl, g2, i2⟩ := b
    have N1 := news_cons (news_new F N st (x1 D1 (.head _)).2 g1 _ (.head _)) (news_cons (news_new F N st (x2 D2 (.head _)).2 g2 _ (.head _)) (news_new F N st hD hget))
    k_steps
    refine Stop.mk ?_
    rename Fr _ _ _ _ => lF
    rename News _ _ _ _ => lN
    k_dflt (refine' ne_same lN (by k_mem) rfl rfl (.cons (.list (a := D1) (by k_mem) (ints_dat i1)) (.cons (.list (a := D2) (by k_mem) (ints_dat i2)) .nil)) (fun _ h => h) (by k_mem) rfl rfl (.cons (.list (a := gl) (by k_mem) (ints_dat hgi)) (.cons (.list (a := gl) (by k_mem) (ints_dat hgi)) .nil)) (fun _ h => h) ?ha ?hu ?_; (case hu => k_units))
    case ha =>
      intro d hd
      have : d = .list ((vu.filter fun u => !us.contains u).map Dat.int) := by simpa using hd
      rw [this]; exact intsD_ok _ _
    k_steps
    exact hret _ _ lF (news_sub lN fun p hp => by k_mem)
end
theorem zS6 {M : Model} {A : Around} {env : Env} {p : Pos} {Q : Flow → Shared → Prop} {E : Value → Shared → Prop} {s : Shared} (h : wpAny M A (exec (.Pass p) env) Q E s) : wpAny M A (exec (.Pass p) env) Q E s := by
  w_top off
  first | (walk1; fail "z") | exact h
section
variable {w : World} {mean : ExcName → Option Value} {mg mb : Str → Option Value} {dp un : Nat} {gd : Option (List Code)} {sc : Scope} {st : Stmt} {a : Addr} {ccd : Value} {outer : List Env} {A₀ : Around} {base h₀ : Heap} {L : Addr} {m : Str → Option Value} {s : Shared} {Q : Flow → Shared → Prop} {E : Value → Shared → Prop} {rest news : List (Addr × Obj)}
  (hsc : sc = lawScope) (B : Below A₀ base outer h₀) (F : Fr h₀ L s.heap m) (X : (hd.heap_1 w.params).In h₀) (T : Top Mine.lawView (looseW Mine.lawView [Str.ofString "PostError"]) mean mg mb h₀)
  (hdp : dp + 30 < recursionLimit) (hu : un + 300 < cLine)
include hsc B F X T hdp hu
local macro_rules | `(tactic| walk_at "call ref") => `(tactic| ((with_reducible show wpAny _ _ (call (Value.ref 105) _) _ _ _); refine Stop.out ?_))
theorem st6 (hst : st = lapStmts.getD 6 default) {bx bd la ga vl v1 d1 ul1 f1 m1 v2 d2 ul2 f2 m2 : Addr} {vs ys1 ys2 : List Value} {us vu : List Int} {kf1 km1 kf2 km2 : List (Int × Value)} {o1 o2 o3 o4 : Obj} {nm vd nu tp fl : Value} {k0 k1 k2 k3 k4 k5 k6 q0 q1 q2 q3 q4 q5 q6 p0 p1 p2 p3 p4 p5 p6 : Tok} {e n1 n2 nv : Nat} {ro1 um1 ro2 um2 : Bool}
    (N : News h₀ L s.heap ((d1, dictOf (viewD w.params q0 q1 q2 q3 q4 q5 q6 bx ro1 um1 false ul1 f1 m1) 7) :: (f1, o1) :: (m1, o2) :: (d2, dictOf (viewD w.params p0 p1 p2 p3 p4 p5 p6 bx ro2 um2 true ul2 f2 m2) 7) :: (f2, o3) :: (m2, o4) :: rest)) (ap : ApartN 6 ((d1, dictOf (viewD w.params q0 q1 q2 q3 q4 q5 q6 bx ro1 um1 false ul1 f1 m1) 7) :: (f1, o1) :: (m1, o2) :: (d2, dictOf (viewD w.params p0 p1 p2 p3 p4 p5 p6 bx ro2 um2 true ul2 f2 m2) 7) :: (f2, o3) :: (m2, o4) :: rest))
    (hmv : m (Str.ofString "views") = some (.ref vl)) (hvl : (vl, listOf [.ref v1, .ref v2].toArray nv) ∈ rest)
    (hbx : (bx, instObj 242 bd) ∈ rest) (hbd : (bd, dictOf (boxD w.params k0 k1 k2 k3 k4 k5 k6 nm vd nu tp fl la ga) 7) ∈ rest) (hla : (la, listOf vs.toArray e) ∈ rest) (hL : LettersIn w.params rest vs us) (hnd : us.Nodup) (hlen : vs.length ≤ 500) (hlen2 : vu.length ≤ 500) (hs : vu.Pairwise (· < ·))
    (hv1 : (v1, instObj 77 d1) ∈ rest) (hu1 : (ul1, listOf ys1.toArray n1) ∈ rest) (hi1 : IntsAre ys1 vu)
    (hv2 : (v2, instObj 77 d2) ∈ rest) (hu2 : (ul2, listOf ys2.toArray n2) ∈ rest) (hi2 : IntsAre ys2 vu)
    (D1 : o1.IsDictOf (intKind PySem.Challenge.rw_nz0296_01.row.prog w) kf1) (D2 : o2.IsDictOf (intKind PySem.Challenge.rw_nz0296_01.row.prog w) km1) (D3 : o3.IsDictOf (intKind PySem.Challenge.rw_nz0296_01.row.prog w) kf2) (D4 : o4.IsDictOf (intKind PySem.Challenge.rw_nz0296_01.row.prog w) km2) (E1 : kf1.map (·.1) = vu) (E2 : km1.map (·.1) = vu) (E3 : kf2.map (·.1) = vu) (E4 : km2.map (·.1) = vu)
    (hret : ∀ T1 T2 as1 as2 ea1 ea2 ks ul1' ul2' zs1 zs2 z1 z2 o1' o2' o3' o4' kf1' km1' kf2' km2' tl h' tk', Fr h₀ L h' (fun y => if y = Str.ofString "told_one" then some (.ref T1) else if y = Str.ofString "told_other" then some (.ref T2) else m y) →
      News h₀ L h' ((d1, dictOf (viewD w.params q0 q1 q2 q3 q4 q5 q6 bx ro1 um1 false ul1' f1 m1) 7) :: (f1, o1') :: (m1, o2') :: (d2, dictOf (viewD w.params p0 p1 p2 p3 p4 p5 p6 bx ro2 um2 true ul2' f2 m2) 7) :: (f2, o3') :: (m2, o4') :: (tl ++ rest)) → (∀ p ∈ tl, ∀ q ∈ (d1, dictOf (viewD w.params q0 q1 q2 q3 q4 q5 q6 bx ro1 um1 false ul1 f1 m1) 7) :: (f1, o1) :: (m1, o2) :: (d2, dictOf (viewD w.params p0 p1 p2 p3 p4 p5 p6 bx ro2 um2 true ul2 f2 m2) 7) :: (f2, o3) :: (m2, o4) :: rest, p.1 ≠ q.1) →
      (ul1', listOf (List.toArray zs1) z1) ∈ (ul1, listOf ys1.toArray n1) :: tl → (ul2', listOf (List.toArray zs2) z2) ∈ (ul2, listOf ys2.toArray n2) :: tl → IntsAre zs1 (vu.filter fun x => us.contains x) → IntsAre zs2 (vu.filter fun x => us.contains x) →
      o1'.IsDictOf (intKind PySem.Challenge.rw_nz0296_01.row.prog w) kf1' → o2'.IsDictOf (intKind PySem.Challenge.rw_nz0296_01.row.prog w) km1' → o3'.IsDictOf (intKind PySem.Challenge.rw_nz0296_01.row.prog w) kf2' → o4'.IsDictOf (intKind PySem.Challenge.rw_nz0296_01.row.prog w) km2' →
      kf1'.map (·.1) = (vu.filter fun x => us.contains x) → km1'.map (·.1) = (vu.filter fun x => us.contains x) → kf2'.map (·.1) = (vu.filter fun x => us.contains x) → km2'.map (·.1) = (vu.filter fun x => us.contains x) →
      (T1, listOf (List.toArray as1) ea1) ∈ tl → (T2, listOf (List.toArray as2) ea2) ∈ tl → ToldNum vu (vu.filter fun u => !us.contains u) ks → DatAll tl as1 (ks.map numDat) → DatAll tl as2 (vanDats (vu.filter fun u => !us.contains u)) →
      Q .next { s with heap := h', toks := tk' }) :
    wpAny (model PySem.Challenge.rw_nz0296_01.row.prog w) (ktrTop dp un gd (Str.ofString "law") sc L a ccd (cellsFrom (L + 1) sc.names []) outer) (exec st (envOfC (Str.ofString "law") sc L a ccd)) Q E s := by
  conv at hsc => rhs; whnf
  conv at hst => rhs; whnf
  subst hsc; subst hst
  revert X; k_fill; intro X
  have a1 := ap.1; have a2 := ap.2.1; have a3 := ap.2.2.1; have a4 := ap.2.2.2.1; have a5 := ap.2.2.2.2.1; have a6 := ap.2.2.2.2.2.1
  k_steps
  refine Stop.mk ?_
  k_dflt (refine' news_call_f (n := n1) ?cB ?cF ?cX ?cT ?ck ?cd ?cu ?cN ?ap ?m1 ?m2 ?m3 ?m4 ?m5 ?mL hi1 hnd hlen hlen2 hs D1 D2 E1 E2 ?_; (case cB => k_asm); (case cF => exact F); (case cN => exact N); (case ap => exact ⟨a1, a2, a3, trivial⟩); (case cX => k_asm); (case cT => k_asm); (case ck => first | exact rfl | assumption); (case cd => ktr_room); (case cu => k_units))
  case m1 => k_mem
  case m2 => k_mem
  case m3 => k_mem
  case m4 => k_mem
  case m5 => k_mem
  case mL => exact hL.more fun p hp => by k_mem
  intro T1 as1 ea1 ul1' zs1 z1 o1' o2' kf1' km1' tl1 h1 tk1 F1 N1 fr1 mT1 mu1 iz1 D1' D2' E1' E2' ⟨ks, tn, td⟩
  clear N F
  have N2 := news_sub (l' := (d2, dictOf (viewD w.params p0 p1 p2 p3 p4 p5 p6 bx ro2 um2 true ul2 f2 m2) 7) :: (f2, o3) :: (m2, o4) :: ((d1, dictOf (viewD w.params q0 q1 q2 q3 q4 q5 q6 bx ro1 um1 false ul1' f1 m1) 7) :: (f1, o1') :: (m1, o2') :: (tl1 ++ rest))) N1 (by walk_at "sub")
  clear N1
  obtain ⟨r2, hr2⟩ : ∃ r2, r2 = (d1, dictOf (viewD w.params q0 q1 q2 q3 q4 q5 q6 bx ro1 um1 false ul1' f1 m1) 7) :: (f1, o1') :: (m1, o2') :: (tl1 ++ rest) := ⟨_, rfl⟩
  have sub : ∀ p ∈ rest, p ∈ r2 := fun p hp => hr2 ▸ .tail _ (.tail _ (.tail _ (List.mem_append_right _ hp)))
  have b1 := sub _ hvl; have b2 := sub _ hv2; have b3 := sub _ hbx; have b4 := sub _ hbd; have b5 := sub _ hla; have b6 := sub _ hu2
  have ap2 : ApartN 3 ((d2, dictOf (viewD w.params p0 p1 p2 p3 p4 p5 p6 bx ro2 um2 true ul2 f2 m2) 7) :: (f2, o3) :: (m2, o4) :: r2) := by
    rw [hr2]
    have e1 : NeA d2 d1 := a1 (d2, _) (.tail _ (.tail _ (.head _)))
    have e2 : NeA f2 d1 := a1 (f2, _) (.tail _ (.tail _ (.tail _ (.head _))))
    have e3 : NeA m2 d1 := a1 (m2, _) (.tail _ (.tail _ (.tail _ (.tail _ (.head _)))))
    have e4 : NeA d2 f1 := a2 (d2, _) (.tail _ (.head _))
    have e5 : NeA f2 f1 := a2 (f2, _) (.tail _ (.tail _ (.head _)))
    have e6 : NeA m2 f1 := a2 (m2, _) (.tail _ (.tail _ (.tail _ (.head _))))
    have e7 : NeA d2 m1 := a3 (d2, _) (.head _)
    have e8 : NeA f2 m1 := a3 (f2, _) (.tail _ (.head _))
    have e9 : NeA m2 m1 := a3 (m2, _) (.tail _ (.tail _ (.head _)))
    have e10 : NeA f2 d2 := a4 (f2, _) (.head _)
    have e11 : NeA m2 d2 := a4 (m2, _) (.tail _ (.head _))
    have e12 : NeA m2 f2 := a5 (m2, _) (.head _)
    have s4 : AllOff d2 (tl1 ++ rest) := AllOff.app (allOff_of fun p hp => fr1 p hp (d2, _) (.tail _ (.tail _ (.tail _ (.head _))))) (allOff_of fun p hp => a4 p (.tail _ (.tail _ hp)))
    have s5 : AllOff f2 (tl1 ++ rest) := AllOff.app (allOff_of fun p hp => fr1 p hp (f2, _) (.tail _ (.tail _ (.tail _ (.tail _ (.head _)))))) (allOff_of fun p hp => a5 p (.tail _ hp))
    have s6 : AllOff m2 (tl1 ++ rest) := AllOff.app (allOff_of fun p hp => fr1 p hp (m2, _) (.tail _ (.tail _ (.tail _ (.tail _ (.tail _ (.head _))))))) (allOff_of fun p hp => a6 p hp)
    exact ⟨AllOff.ne ⟨e10, e11, e1.r, e4.r, e7.r, s4⟩, AllOff.ne ⟨e12, e2.r, e5.r, e8.r, s5⟩, AllOff.ne ⟨e3.r, e6.r, e9.r, s6⟩, trivial⟩
  rw [← hr2] at N2
  k_steps
  refine Stop.mk ?_
  k_dflt (refine' news_call_t (n := n2) ?cB F1 ?cX ?cT ?ck ?cd ?cu ?cN ap2 b2 b3 b4 b5 b6 (hL.more sub) hi2 hnd hlen hlen2 hs D3 D4 E3 E4 ?_; (case cB => k_asm); (case cN => exact N2); (case cX => k_asm); (case cT => k_asm); (case ck => first | exact rfl | assumption); (case cd => ktr_room); (case cu => k_units))
  intro T2 as2 ea2 ul2' zs2 z2 o3' o4' kf2' km2' tl2 h2 tk2 F2 N3 fr2 mT2 mu2 iz2 D3' D4' E3' E4' td2
  clear N2 F1
  k_steps
  rename News _ _ _ _ => lN
  rename Fr _ _ _ _ => lF
  rw [hr2] at lN
  refine hret T1 T2 as1 as2 ea1 ea2 ks ul1' ul2' zs1 zs2 z1 z2 o1' o2' o3' o4' kf1' km1' kf2' km2' (tl2 ++ tl1) _ _ lF (news_sub lN ?hN) ?hf ?hu1 ?hu2 iz1 iz2 D1' D2' D3' D4' E1' E2' E3' E4' (List.mem_append_right _ mT1) (List.mem_append_left _ mT2) tn (td.mono fun p hp => List.mem_append_right _ hp) (td2.mono fun p hp => List.mem_append_left _ hp)
  case hN =>
    intro p hp
    simp only [List.mem_cons, List.mem_append] at hp ⊢
    rcases hp with h | h | h | h | h | h | (h | h) | h <;> simp [h]
  case hf =>
    intro p hp q hq
    rcases List.mem_append.mp hp with hp | hp
    · have f2 := fr2 p hp
      rw [hr2] at f2
      rcases List.mem_cons.mp hq with rfl | hq
      · exact f2 (d1, dictOf (viewD w.params q0 q1 q2 q3 q4 q5 q6 bx ro1 um1 false ul1' f1 m1) 7) (.tail _ (.tail _ (.tail _ (.head _))))
      rcases List.mem_cons.mp hq with rfl | hq
      · exact f2 (f1, o1') (.tail _ (.tail _ (.tail _ (.tail _ (.head _)))))
      rcases List.mem_cons.mp hq with rfl | hq
      · exact f2 (m1, o2') (.tail _ (.tail _ (.tail _ (.tail _ (.tail _ (.head _))))))
      rcases List.mem_cons.mp hq with rfl | hq
      · exact f2 (d2, _) (.head _)
      rcases List.mem_cons.mp hq with rfl | hq
      · exact f2 (_, _) (.tail _ (.head _))
      rcases List.mem_cons.mp hq with rfl | hq
      · exact f2 (m2, _) (.tail _ (.tail _ (.head _)))
      · exact f2 q (.tail _ (.tail _ (.tail _ (.tail _ (.tail _ (.tail _ (List.mem_append_right _ hq)))))))
    · exact fr1 p hp q hq
  case hu1 =>
    rcases List.mem_cons.mp mu1 with h | h
    · rw [h]; exact .head _
    · exact .tail _ (List.mem_append_right _ h)
  case hu2 =>
    rcases List.mem_cons.mp mu2 with h | h
    · rw [h]; exact .head _
    · exact .tail _ (List.mem_append_left _ h)
end
theorem zS7 {M : Model} {A : Around} {env : Env} {p : Pos} {Q : Flow → Shared → Prop} {E : Value → Shared → Prop} {s : Shared} (h : wpAny M A (exec (.Pass p) env) Q E s) : wpAny M A (exec (.Pass p) env) Q E s := by
  w_top off
  first | (walk1; fail "z") | exact h
section
variable {w : World} {mean : ExcName → Option Value} {mg mb : Str → Option Value} {dp un : Nat} {gd : Option (List Code)} {sc : Scope} {st : Stmt} {a : Addr} {ccd : Value} {outer : List Env} {A₀ : Around} {base h₀ : Heap} {L : Addr} {m : Str → Option Value} {s : Shared} {Q : Flow → Shared → Prop} {E : Value → Shared → Prop} {rest news : List (Addr × Obj)}
  (hsc : sc = lawScope) (B : Below A₀ base outer h₀) (F : Fr h₀ L s.heap m) (X : (hd.heap_1 w.params).In h₀) (T : Top Mine.lawView (looseW Mine.lawView [Str.ofString "PostError"]) mean mg mb h₀)
  (hdp : dp + 30 < recursionLimit) (hu : un + 300 < cLine)
include hsc B F X T hdp hu
theorem st7 (hst : st = lapStmts.getD 7 default) {lf : Addr} {ls : List Value} {vu : List Int} {n : Nat} {oL : Obj}
    (N : News h₀ L s.heap news) (hcl : (L + 1, oL) ∈ news) (dL : oL.data = .cell (some (.ref lf))) (hlf : (lf, listOf ls.toArray n) ∈ news) (hi : IntsAre ls vu) (hlen : vu.length ≤ 500)
    (hret : ∀ D zs n' h' tk', Fr h₀ L h' (fun y => if y = Str.ofString "plain" then some (.ref D) else m y) → News h₀ L h' ((D, listOf (List.toArray zs) n') :: news) → (∀ p ∈ news, p.1 ≠ D) → IntsAre zs vu → Q .next { s with heap := h', toks := tk' }) :
    wpAny (model PySem.Challenge.rw_nz0296_01.row.prog w) (ktrTop dp un gd (Str.ofString "law") sc L a ccd (cellsFrom (L + 1) sc.names []) outer) (exec st (envOfC (Str.ofString "law") sc L a ccd)) Q E s := by
  conv at hsc => rhs; whnf
  conv at hst => rhs; whnf
  subst hsc; subst hst
  revert X; k_fill; intro X
  k_steps
  rename Fr _ _ _ _ => lF
  rename News _ _ _ _ => lN
  rename (∀ q ∈ news, _ < _) => l1
  exact hret _ ls _ _ _ lF lN (fun p hp => Nat.ne_of_lt (l1 p hp)) hi
end
theorem zS8 {M : Model} {A : Around} {env : Env} {p : Pos} {Q : Flow → Shared → Prop} {E : Value → Shared → Prop} {s : Shared} (h : wpAny M A (exec (.Pass p) env) Q E s) : wpAny M A (exec (.Pass p) env) Q E s := by
  w_top off
  first | (walk1; fail "z") | exact h
section
variable {w : World} {mean : ExcName → Option Value} {mg mb : Str → Option Value} {dp un : Nat} {gd : Option (List Code)} {sc : Scope} {st : Stmt} {a : Addr} {ccd : Value} {outer : List Env} {A₀ : Around} {base h₀ : Heap} {L : Addr} {m : Str → Option Value} {s : Shared} {Q : Flow → Shared → Prop} {E : Value → Shared → Prop} {rest news : List (Addr × Obj)}
  (hsc : sc = lawScope) (B : Below A₀ base outer h₀) (F : Fr h₀ L s.heap m) (X : (hd.heap_1 w.params).In h₀) (T : Top Mine.lawView (looseW Mine.lawView [Str.ofString "PostError"]) mean mg mb h₀)
  (hdp : dp + 30 < recursionLimit) (hu : un + 300 < cLine)
include hsc B F X T hdp hu
local macro_rules | `(tactic| walk_at "subscriptTail Name Slice ref ref") => `(tactic| (k_here; k_dflt (refine' kmk_slice_ints ?F ?N ?l ?p ?q ?i ?m ?c ?_ ?s ?t ?z; (case F => k_asm); (case N => k_asm); (case l => exact News.isList (by k_asm) (by k_mem)); (case p => kmk_part); (case q => kmk_part); (case i => assumption); (case m => first | exact kmk_from (by assumption) (by omega) | exact kmk_upto (by assumption) (by omega)); (case c => kmk_len); (case s => with_unfolding_all rfl); (case t => kmk_pure); (case z => (rw [List.size_toArray, IntsAre.length (by assumption), sizeLine_eq]; omega))); intro D' ws' h' F' N' l1 hI' hC' hL'; (try k_lt l1); (try k_sweep)))
theorem st8 (hst : st = lapStmts.getD 8 default) {T1 pl : Addr} {ps as1 : List Value} {vu gone ks : List Int} {n ea : Nat}
    (N : News h₀ L s.heap news) (hm1 : m (Str.ofString "told_one") = some (.ref T1)) (hm2 : m (Str.ofString "plain") = some (.ref pl)) (hT1 : (T1, listOf as1.toArray ea) ∈ news) (hD : DatAll news as1 (ks.map numDat)) (hT : ToldNum vu gone ks)
    (hpl : (pl, listOf ps.toArray n) ∈ news) (hi : IntsAre ps vu) (hlen : vu.length ≤ 500) (hs : vu.Pairwise (· < ·))
    (hE : PassesOwn (model PySem.Challenge.rw_nz0296_01.row.prog w) (ktrTop dp un gd (Str.ofString "law") sc L a ccd (cellsFrom (L + 1) sc.names []) outer) (envOfC (Str.ofString "law") sc L a ccd) E)
    (hret : ∀ D zs n' tl h' tk' m', Fr h₀ L h' m' → m' (Str.ofString "plain") = some (.ref D) → (∀ x, x ≠ Str.ofString "word" → x ≠ Str.ofString "number" → x ≠ Str.ofString "plain" → m' x = m x) → News h₀ L h' tl → (∀ p ∈ news, p ∈ tl) → (D, listOf (List.toArray zs) n') ∈ tl → IntsAre zs (vu.filter fun x => !gone.contains x) → Q .next { s with heap := h', toks := tk' }) :
    wpAny (model PySem.Challenge.rw_nz0296_01.row.prog w) (ktrTop dp un gd (Str.ofString "law") sc L a ccd (cellsFrom (L + 1) sc.names []) outer) (exec st (envOfC (Str.ofString "law") sc L a ccd)) Q E s := by
  conv at hsc => rhs; whnf
  conv at hst => rhs; whnf
  subst hsc; subst hst
  revert X; k_fill; intro X
  refine for_listT (h₀ := h₀) rfl ?_ ?hsx hE
  case hsx => intro _; with_unfolding_all rfl
  k_steps
  refine Stop.mk ⟨T1, as1, ea, m, news, fun i m₁ n₁ => (∀ p ∈ news, p ∈ n₁) ∧ (∀ x, x ≠ Str.ofString "word" → x ≠ Str.ofString "number" → x ≠ Str.ofString "plain" → m₁ x = m x) ∧ ∃ D zs n', m₁ (Str.ofString "plain") = some (.ref D) ∧ (D, listOf (List.toArray zs) n') ∈ n₁ ∧ IntsAre zs (vu.filter fun x => !(gone.take i).contains x), rfl, hT1, F, N,
    ⟨fun _ h => h, fun _ _ _ _ => rfl, pl, ps, n, hm2, hpl, by rw [List.take_zero, without_none]; exact hi⟩, fun i m₁ n₁ j => j.1 _ hT1, ?_, ?_⟩
  · rintro i v m₁ n₁ h1 tk1 I oI hv ⟨hsub, hmx, D, zs, n', hmp, hDm, hz⟩ off F1 N1
    obtain ⟨k, T9, t1, t2, nT, hk, rfl, hT9⟩ := num_at hD hv
    obtain ⟨g, j, hg, rfl, hj⟩ := hT.at hk
    have hT8 := hsub _ hT9
    have hzl : (vu.filter fun x => !(gone.take i).contains x).length ≤ 500 := Nat.le_trans (List.length_filter_le _ _) hlen
    have hsz := asc_filter (fun x => !(gone.take i).contains x) hs
    have hnx := without_next (vu := vu) hg
    have hjl := (List.getElem?_eq_some_iff.mp hj).1
    generalize hV : (vu.filter fun x => !(gone.take i).contains x) = V at hz hj hzl hsz hnx hjl
    k_steps
    rename Fr _ _ _ _ => lF
    rename News _ _ _ _ => lN
    rename IntsAre _ (_ ++ _) => iF
    have e1 : ((j : Int) + 1 - 1).toNat = j := by omega
    have e2 : ((j : Int) + 1).toNat = j + 1 := by omega
    rw [e1, e2, take_out hsz hj, hnx] at iF
    refine TurnOut.intro _ lF (news_mvI lN) ?offI ⟨fun p hp => .tail _ (.tail _ (.tail _ (hsub p hp))), fun x n1 n2 n3 => ?_, _, _, _, setM_eq, .head _, iF⟩
    case offI =>
      have offA := allOff_of off
      refine AllOff.ne ?_
      walk_at "offEnd"
    · show (if x = Str.ofString "plain" then _ else if x = Str.ofString "number" then _ else if x = Str.ofString "word" then _ else m₁ x) = m x
      rw [if_neg n3, if_neg n2, if_neg n1]
      exact hmx x n1 n2 n3
  · rintro m₁ n₁ h1 tk1 ⟨hsub, hmx, D, zs, n', hmp, hDm, hz⟩ F1 N1
    have hl : as1.length = gone.length := by rw [hD.length, List.length_map, hT.length]
    rw [hl, List.take_length] at hz
    exact hret D zs n' n₁ h1 tk1 m₁ F1 hmp hmx N1 hsub hDm hz
end
theorem zS9 {M : Model} {A : Around} {env : Env} {p : Pos} {Q : Flow → Shared → Prop} {E : Value → Shared → Prop} {s : Shared} (h : wpAny M A (exec (.Pass p) env) Q E s) : wpAny M A (exec (.Pass p) env) Q E s := by
  w_top off
  first | (walk1; fail "z") | exact h
section
variable {w : World} {mean : ExcName → Option Value} {mg mb : Str → Option Value} {dp un : Nat} {gd : Option (List Code)} {sc : Scope} {st : Stmt} {a : Addr} {ccd : Value} {outer : List Env} {A₀ : Around} {base h₀ : Heap} {L : Addr} {m : Str → Option Value} {s : Shared} {Q : Flow → Shared → Prop} {E : Value → Shared → Prop} {rest news : List (Addr × Obj)}
  (hsc : sc = lawScope) (B : Below A₀ base outer h₀) (F : Fr h₀ L s.heap m) (X : (hd.heap_1 w.params).In h₀) (T : Top Mine.lawView (looseW Mine.lawView [Str.ofString "PostError"]) mean mg mb h₀)
  (hdp : dp + 30 < recursionLimit) (hu : un + 300 < cLine)
include hsc B F X T hdp hu
local macro_rules | `(tactic| walk_at "call ref") => `(tactic| ((with_reducible show wpAny _ _ (call (Value.ref 286) _) _ _ _); refine Stop.out ?_))
local macro_rules | `(tactic| walk_at "eval ListComp") => `(tactic| ((with_reducible show wpAny _ _ (eval (Expr.ListComp _ _ _ _) _) _ _ _); refine Stop.out ?_))
theorem st9 (hst : st = lapStmts.getD 9 default) {gl : Addr} {gs : List Value} {gone : List Int} {ng : Nat}
    (N : News h₀ L s.heap news) (hmg : m (Str.ofString "gone") = some (.ref gl)) (hgl : (gl, listOf gs.toArray ng) ∈ news) (hi : IntsAre gs gone) (hlen : gone.length ≤ 500) (hs : gone.Pairwise (· < ·))
    (hret : ∀ D as e tl h' tk', Fr h₀ L h' (fun y => if y = Str.ofString "wanted" then some (.ref D) else m y) → News h₀ L h' tl → (∀ p ∈ news, p ∈ tl) → (D, listOf (List.toArray as) e) ∈ tl → DatAll tl as (vanDats gone) → Q .next { s with heap := h', toks := tk' }) :
    wpAny (model PySem.Challenge.rw_nz0296_01.row.prog w) (ktrTop dp un gd (Str.ofString "law") sc L a ccd (cellsFrom (L + 1) sc.names []) outer) (exec st (envOfC (Str.ofString "law") sc L a ccd)) Q E s := by
  conv at hsc => rhs; whnf
  conv at hst => rhs; whnf
  subst hsc; subst hst
  revert X; k_fill; intro X
  k_steps
  · rename (decide _ = true) => c0
    rename Fr _ _ _ _ => lF
    rename News _ _ _ _ => lN
    exact hret _ [] _ _ _ _ lF lN (fun p hp => by k_mem) (by k_mem) (by rw [of_decide_eq_true c0]; exact .nil)
  rename (decide _ = false) => c0
  refine Stop.mk ?_
  rename Fr _ _ _ _ => lF
  rename News _ _ _ _ => lN
  rename_i l9 h8 l8
  refine' comp_any (fun _ => true) (fun v y => y = v) ?_ ?_ ?_ ?_ ?_ ?_ ?_ ?_
  walk_at "sides"
  k_steps
  k_dflt (refine' law_ranges_call ?cB ?cF ?cX ?cT ?ck ?cd ?cu (lN.get (by k_mem : (gl, _) ∈ _)) hi (by omega) hs ?_; (case cF => exact lF); (case cB => k_asm); (case cX => k_asm); (case cT => k_asm); (case ck => first | exact rfl | assumption); (case cd => ktr_room); (case cu => k_units))
  intro T5 vs5 e5 led5 h7 tk7 F7 st7 n7 pp7 fr7
  have hl5 : vs5.length ≤ 500 := by rw [pp7.length]; exact Nat.le_trans (runs_length _) hlen
  refine Stop.mk ⟨T5, vs5, rfl, n7.isList (.head _), by omega, fun C v s₂ m₂ E' _ _ _ _ _ => wpAny_pure ⟨rfl, keeps_refl _⟩, fun C v s₂ m₂ E' hC hv _ hn hm hk => wpAny_mono (ldVarK (C := C) hn hm ⟨rfl, keeps_refl _⟩) (fun _ _ q => q) fun _ _ e => e, fun D ys n9 h9 tk9 hD hget hp st9 => ?_⟩
  rw [filter_tt] at hp
  have e := paired_eq hp
  subst e
  have N8 := News.append n7 (News.grown lN st7)
  have F9 := Fr.keeps F7 st9
  have N9 := news_new F7 N8 st9 hD hget
  obtain ⟨r9, hr9⟩ : ∃ r9, r9 = ((T5, listOf ys.toArray e5) :: led5) ++ ((l9, listOf [].toArray 0) :: news) := ⟨_, rfl⟩
  replace N9 : News h₀ L h9 ((D, listOf ys.toArray n9) :: r9) := hr9 ▸ N9
  clear lF lN N8 F7 n7
  k_steps
  rename Fr _ _ _ _ => lF
  rename News _ _ _ _ => lN
  refine hret _ _ _ _ _ _ lF lN (fun p hp => ?_) (by k_mem) ?_
  · refine .tail _ (.tail _ (.tail _ (.tail _ ?_)))
    rw [hr9]; exact List.mem_append_right _ (.tail _ hp)
  · unfold vanDats
    rw [if_neg (of_decide_eq_false c0)]
    exact .cons (.tuple (.tail _ (.head _)) (.cons (.str _ _) (.cons (.tuple (.tail _ (.tail _ (.head _))) (pp7.dat.mono fun p hp => .tail _ (.tail _ (.tail _ (.tail _ (hr9 ▸ List.mem_append_left _ (.tail _ hp))))))) (.cons (.bool _) .nil)))) .nil
end
theorem zS10 {M : Model} {A : Around} {env : Env} {p : Pos} {Q : Flow → Shared → Prop} {E : Value → Shared → Prop} {s : Shared} (h : wpAny M A (exec (.Pass p) env) Q E s) : wpAny M A (exec (.Pass p) env) Q E s := by
  w_top off
  first | (walk1; fail "z") | exact h
section
variable {w : World} {mean : ExcName → Option Value} {mg mb : Str → Option Value} {dp un : Nat} {gd : Option (List Code)} {sc : Scope} {st : Stmt} {a : Addr} {ccd : Value} {outer : List Env} {A₀ : Around} {base h₀ : Heap} {L : Addr} {m : Str → Option Value} {s : Shared} {Q : Flow → Shared → Prop} {E : Value → Shared → Prop} {rest news : List (Addr × Obj)}
  (hsc : sc = lawScope) (B : Below A₀ base outer h₀) (F : Fr h₀ L s.heap m) (X : (hd.heap_1 w.params).In h₀) (T : Top Mine.lawView (looseW Mine.lawView [Str.ofString "PostError"]) mean mg mb h₀)
  (hdp : dp + 30 < recursionLimit) (hu : un + 300 < cLine)
include hsc B F X T hdp hu
local macro_rules | `(tactic| walk_at "call type:list") => `(tactic| (k_here; (with_reducible show wpAny _ _ (call (Value.type "list") [Value.ref _]) _ _ _); refine Stop.out ?_))
local macro_rules | `(tactic| walk_at "call builtin:len") => `(tactic| (k_here; (with_reducible show wpAny _ _ (call (Value.builtin "len") [Value.ref _]) _ _ _); k_dflt (refine' len_any ?l ?z ?_; (case l => exact News.isList (by k_asm) (by k_mem)); (case z => assumption)); intro _ _))
local macro_rules | `(tactic| walk_at "compareOp NotEq ref ref") => `(tactic| (k_here; (with_reducible show wpAny _ _ (compareOp CmpOp.NotEq (Value.ref _) (Value.ref _)) _ _ _); refine Stop.out ?_))
theorem st10 (hst : st = lapStmts.getD 10 default) {pl rl T1 T2 wl gl : Addr} {ps rs gs as1 as2 aw : List Value} {vn gone : List Int} {np nr n1 n2 nw ng : Nat} {led1 led2 : List (Addr × Obj)}
    (N : News h₀ L s.heap news) (hm1 : m (Str.ofString "plain") = some (.ref pl)) (hm2 : m (Str.ofString "rest") = some (.ref rl)) (hm3 : m (Str.ofString "told_other") = some (.ref T2)) (hm4 : m (Str.ofString "wanted") = some (.ref wl)) (hm5 : m (Str.ofString "told_one") = some (.ref T1)) (hm6 : m (Str.ofString "gone") = some (.ref gl))
    (hpl : (pl, listOf ps.toArray np) ∈ news) (ip : IntsAre ps vn) (hrl : (rl, listOf rs.toArray nr) ∈ news) (ir : IntsAre rs vn) (hgl : (gl, listOf gs.toArray ng) ∈ news) (ig : IntsAre gs gone)
    (hT1 : (T1, listOf as1.toArray n1) ∈ news) (hl1 : as1.length = gone.length) (hT2 : (T2, listOf as2.toArray n2) ∈ news) (D2 : DatAll led1 as2 (vanDats gone)) (hs1 : ∀ p ∈ led1, p ∈ news) (hwl : (wl, listOf aw.toArray nw) ∈ news) (Dw : DatAll led2 aw (vanDats gone)) (hs2 : ∀ p ∈ led2, p ∈ news) (hvl : vn.length ≤ 500) (hgo : gone.length ≤ 500)
    (hret : ∀ h' tk', Fr h₀ L h' m → News h₀ L h' news → Q .next { s with heap := h', toks := tk' }) :
    wpAny (model PySem.Challenge.rw_nz0296_01.row.prog w) (ktrTop dp un gd (Str.ofString "law") sc L a ccd (cellsFrom (L + 1) sc.names []) outer) (exec st (envOfC (Str.ofString "law") sc L a ccd)) Q E s := by
  conv at hsc => rhs; whnf
  conv at hst => rhs; whnf
  subst hsc; subst hst
  revert X; k_fill; intro X
  have z1 : as1.length ≤ 1000 := by omega
  have z2 : gs.length ≤ 1000 := by rw [ig.length]; omega
  have z3 : as2.length ≤ 1000 := by
    rw [D2.length]; unfold vanDats
    split <;> simp
  k_steps
  refine Stop.mk ?_
  refine ne_same N hpl rfl rfl (ints_dat ip) (fun _ h => h) hrl rfl rfl (ints_dat ir) (fun _ h => h) (intD_ok _) (by k_units) ?_
  k_steps
  refine Stop.mk ?_
  refine list_copyK F N (N.isList hT2) (fun D c h1 F1 N1 l1 => ?_) (by rw [List.size_toArray, sizeLine_eq]; omega)
  clear N F
  k_steps
  refine Stop.mk ?_
  refine ne_van N1 (.head _) D2 (fun p hp => .tail _ (hs1 p hp)) (.tail _ hwl) Dw (fun p hp => .tail _ (hs2 p hp)) (by k_units) ?_
  k_steps
  · rename ((_ : Int) ≠ _) => ne
    exact absurd (by rw [hl1, ig.length]) ne
  · exact hret _ _ F1 (news_drop0 N1)
end
theorem zS11 {M : Model} {A : Around} {env : Env} {p : Pos} {Q : Flow → Shared → Prop} {E : Value → Shared → Prop} {s : Shared} (h : wpAny M A (exec (.Pass p) env) Q E s) : wpAny M A (exec (.Pass p) env) Q E s := by
  w_top off
  first | (walk1; fail "z") | exact h
section
variable {w : World} {mean : ExcName → Option Value} {mg mb : Str → Option Value} {dp un : Nat} {gd : Option (List Code)} {sc : Scope} {st : Stmt} {a : Addr} {ccd : Value} {outer : List Env} {A₀ : Around} {base h₀ : Heap} {L : Addr} {m : Str → Option Value} {s : Shared} {Q : Flow → Shared → Prop} {E : Value → Shared → Prop} {rest news : List (Addr × Obj)}
  (hsc : sc = lawScope) (B : Below A₀ base outer h₀) (F : Fr h₀ L s.heap m) (X : (hd.heap_1 w.params).In h₀) (T : Top Mine.lawView (looseW Mine.lawView [Str.ofString "PostError"]) mean mg mb h₀)
  (hdp : dp + 30 < recursionLimit) (hu : un + 300 < cLine)
include hsc B F X T hdp hu
theorem st11 (hst : st = lapStmts.getD 11 default) {rl : Addr} {oL : Obj} {vL : Option Value}
    (N : News h₀ L s.heap ((L + 1, oL) :: rest)) (dL : oL.data = .cell vL) (o1 : ∀ p ∈ rest, p.1 ≠ L + 1) (hm : m (Str.ofString "rest") = some (.ref rl))
    (hret : ∀ oL' h' tk', Fr h₀ L h' m → News h₀ L h' ((L + 1, oL') :: rest) → oL'.data = .cell (some (.ref rl)) → Q .next { s with heap := h', toks := tk' }) :
    wpAny (model PySem.Challenge.rw_nz0296_01.row.prog w) (ktrTop dp un gd (Str.ofString "law") sc L a ccd (cellsFrom (L + 1) sc.names []) outer) (exec st (envOfC (Str.ofString "law") sc L a ccd)) Q E s := by
  conv at hsc => rhs; whnf
  conv at hst => rhs; whnf
  subst hsc; subst hst
  revert X; k_fill; intro X
  have c1 : AllOff (L + 1) rest := allOff_of o1
  k_steps
  exact hret _ _ _ (by assumption) (by assumption) (by assumption)
end
theorem zS12 {M : Model} {A : Around} {env : Env} {p : Pos} {Q : Flow → Shared → Prop} {E : Value → Shared → Prop} {s : Shared} (h : wpAny M A (exec (.Pass p) env) Q E s) : wpAny M A (exec (.Pass p) env) Q E s := by
  w_top off
  first | (walk1; fail "z") | exact h
section
variable {w : World} {mean : ExcName → Option Value} {mg mb : Str → Option Value} {dp un : Nat} {gd : Option (List Code)} {sc : Scope} {st : Stmt} {a : Addr} {ccd : Value} {outer : List Env} {A₀ : Around} {base h₀ : Heap} {L : Addr} {m : Str → Option Value} {s : Shared} {Q : Flow → Shared → Prop} {E : Value → Shared → Prop} {rest news : List (Addr × Obj)}
  (hsc : sc = lawScope) (B : Below A₀ base outer h₀) (F : Fr h₀ L s.heap m) (X : (hd.heap_1 w.params).In h₀) (T : Top Mine.lawView (looseW Mine.lawView [Str.ofString "PostError"]) mean mg mb h₀)
  (hdp : dp + 30 < recursionLimit) (hu : un + 300 < cLine)
include hsc B F X T hdp hu
local macro_rules | `(tactic| walk_at "call ref") => `(tactic| ((with_reducible show wpAny _ _ (call (Value.ref 105) _) _ _ _); refine Stop.out ?_))
local macro_rules | `(tactic| walk_at "call ref") => `(tactic| ((with_reducible show wpAny _ _ (call (Value.ref 55) _) _ _ _); refine Stop.out ?_))
local macro_rules | `(tactic| walk_at "call ref") => `(tactic| ((with_reducible show wpAny _ _ (call (Value.ref 48) _) _ _ _); refine Stop.out ?_))
local macro_rules | `(tactic| walk_at "eval ListComp") => `(tactic| ((with_reducible show wpAny _ _ (eval (Expr.ListComp _ _ _ _) _) _ _ _); refine Stop.out ?_))
local macro_rules | `(tactic| walk_at "compareOp NotEq ref ref") => `(tactic| ((with_reducible show wpAny _ _ (compareOp CmpOp.NotEq (Value.ref _) (Value.ref _)) _ _ _); refine Stop.out ?_))
local macro_rules | `(tactic| walk_at "call builtin:list.index") => `(tactic| ((with_reducible show wpAny _ _ (call (Value.builtin "list.index") _) _ _ _); refine Stop.out ?_))
theorem st12b {bs : List Stmt} (hst : bs = forBody (lapStmts.getD 12 default)) {bx bd la ga lf v d ul f mm : Addr} {vs ys ls : List Value} {us vu : List Int} {kf km : List (Int × Value)} {o1 o2 oV oL : Obj} {nm vd nu tp fl : Value} {k0 k1 k2 k3 k4 k5 k6 q0 q1 q2 q3 q4 q5 q6 : Tok} {e n nl : Nat} {ro um uv : Bool}
    (N : News h₀ L s.heap ((d, dictOf (viewD w.params q0 q1 q2 q3 q4 q5 q6 bx ro um uv ul f mm) 7) :: (f, o1) :: (mm, o2) :: rest)) (ap : ApartN 3 ((d, dictOf (viewD w.params q0 q1 q2 q3 q4 q5 q6 bx ro um uv ul f mm) 7) :: (f, o1) :: (mm, o2) :: rest))
    (hcv : (L + 1 + 1 + 1 + 1, oV) ∈ rest) (dV : oV.data = .cell (some (.ref v))) (hcl : (L + 1, oL) ∈ rest) (dL : oL.data = .cell (some (.ref lf))) (hlf : (lf, listOf ls.toArray nl) ∈ rest) (il : IntsAre ls vu)
    (hbx : (bx, instObj 242 bd) ∈ rest) (hbd : (bd, dictOf (boxD w.params k0 k1 k2 k3 k4 k5 k6 nm vd nu tp fl la ga) 7) ∈ rest) (hla : (la, listOf vs.toArray e) ∈ rest) (hL : LettersIn w.params rest vs us) (hnd : us.Nodup) (hlen : vs.length ≤ 500) (hlen2 : vu.length ≤ 500) (hs : vu.Pairwise (· < ·)) (hsub : ∀ u ∈ vu, u ∈ us) (hbd2 : ∀ u ∈ vu, 0 ≤ u ∧ u ≤ 1000)
    (hv1 : (v, instObj 77 d) ∈ rest) (hu1 : (ul, listOf ys.toArray n) ∈ rest) (hi1 : IntsAre ys vu)
    (D1 : o1.IsDictOf (intKind PySem.Challenge.rw_nz0296_01.row.prog w) kf) (D2 : o2.IsDictOf (intKind PySem.Challenge.rw_nz0296_01.row.prog w) km) (E1 : kf.map (·.1) = vu) (E2 : km.map (·.1) = vu)
    (hret : ∀ ul' zs n' o1' o2' kf' km' tl h' tk', Fr h₀ L h' m → News h₀ L h' ((d, dictOf (viewD w.params q0 q1 q2 q3 q4 q5 q6 bx ro um uv ul' f mm) 7) :: (f, o1') :: (mm, o2') :: (tl ++ rest)) → (∀ p ∈ tl, ∀ q ∈ (d, dictOf (viewD w.params q0 q1 q2 q3 q4 q5 q6 bx ro um uv ul f mm) 7) :: (f, o1) :: (mm, o2) :: rest, p.1 ≠ q.1) →
      (ul', listOf (List.toArray zs) n') ∈ (ul, listOf ys.toArray n) :: tl → IntsAre zs vu → o1'.IsDictOf (intKind PySem.Challenge.rw_nz0296_01.row.prog w) kf' → o2'.IsDictOf (intKind PySem.Challenge.rw_nz0296_01.row.prog w) km' → kf'.map (·.1) = vu → km'.map (·.1) = vu → Q .next { s with heap := h', toks := tk' }) :
    wpAny (model PySem.Challenge.rw_nz0296_01.row.prog w) (ktrTop dp un gd (Str.ofString "law") sc L a ccd (cellsFrom (L + 1) sc.names []) outer) (execs bs (envOfC (Str.ofString "law") sc L a ccd)) Q E s := by
  conv at hsc => rhs; whnf
  conv at hst => rhs; whnf
  subst hsc; subst hst
  revert X; k_fill; intro X
  k_steps
  refine Stop.mk ?_
  k_dflt (refine' ne_ints ?N ?ma hi1 ?mb il ?u ?_; (case N => exact N); (case ma => k_mem); (case mb => k_mem); (case u => k_units))
  k_steps
  refine Stop.mk ?_
  k_dflt (refine' news_none ?cB ?cF ?cX ?cT ?ck ?cd ?cu ?cN ap hv1 hbx hbd hla hu1 hL hi1 hnd hlen hlen2 hs hsub D1 D2 E1 E2 ?_; (case cF => exact F); (case cN => exact N); (case cB => k_asm); (case cX => k_asm); (case cT => k_asm); (case ck => first | exact rfl | assumption); (case cd => ktr_room); (case cu => k_units))
  intro D ea ul' zs n' o1' o2' kf' km' tl h1 tk1 F1 N1 fr mD mu iz D1' D2' E1' E2'
  clear N F
  obtain ⟨r2, hr2⟩ : ∃ r2, r2 = tl ++ rest := ⟨_, rfl⟩
  have mu0 := mu
  replace mu : (ul', listOf (List.toArray zs) n') ∈ r2 := by
    rcases List.mem_cons.mp mu with h | h
    · rw [h, hr2]; exact List.mem_append_right _ hu1
    · rw [hr2]; exact List.mem_append_left _ h
  rw [← hr2] at N1
  have sub : ∀ p ∈ rest, p ∈ r2 := fun p hp => hr2 ▸ List.mem_append_right _ hp
  have mD2 : (D, listOf [].toArray ea) ∈ r2 := hr2 ▸ List.mem_append_left _ mD
  have b1 := sub _ hcv; have b2 := sub _ hcl; have b3 := sub _ hlf; have b4 := sub _ hv1
  k_steps
  refine Stop.mk ?_
  rename Fr _ _ _ _ => lF
  rename News _ _ _ _ => lN
  k_dflt (refine' ne_ints ?N ?ma .nil ?mb .nil ?u ?_; (case N => exact lN); (case ma => k_mem); (case mb => k_mem); (case u => k_units))
  have lN2 := news_drop0 lN
  clear lN
  k_steps
  refine Stop.mk ?_
  refine' comp_rng (fun u => vu.getD u.toNat 0) ?_ ?_ ?_ ?_ ?_ ?_ ?_ ?_
  walk_at "sides"
  k_steps
  rename IsRange _ _ _ _ _ _ _ _ => hR
  rename Fr _ _ _ _ => lF
  rename News _ _ _ _ => lN
  refine Stop.mk ⟨_, 0, (vu.length : Int), _, _, _, vu.length, rfl, hR, small_one (by decide) (by decide) (by omega) (by omega), by rw [rangeSize_nat]; omega, by omega, fun C u t s₂ m₂ E' hC u0 u1 hn hm hk => ?_, fun D3 ys3 n3 h3 tk3 hD hget hp st3 => ?_⟩
  · have Fs := Fr.keeps lF hk
    have Ns := News.grown lN hk
    k_steps
    refine Stop.mk ?_
    k_dflt (refine' uid_at_p (vu := vu) ?cB ?cF ?cX ?cT ?ck ?cd ?cu ?h1 ?h2 ?h3 iz (by omega) (by omega) (by omega) ?_; (case cF => exact Fs); (case h1 => exact Ns.get (by k_mem : (v, instObj 77 d) ∈ _)); (case h2 => exact Ns.get (by k_mem : (d, _) ∈ _)); (case h3 => exact Ns.get (by k_mem : (ul', _) ∈ _)); (case cB => k_asm); (case cX => k_asm); (case cT => k_asm); (case ck => first | exact rfl | assumption); (case cd => ktr_room); (case cu => k_units))
    intro t9 h9 tk9 F9 st9
    exact ⟨⟨t9, by rw [show u + 1 - 1 = u by omega]⟩, ⟨h9, tk9, rfl, st9⟩⟩
  rw [range_getD] at hp
  have N4 := news_new lF lN st3 hD hget
  have F4 := Fr.keeps lF st3
  clear lN lF
  k_steps
  refine Stop.mk ?_
  rename Fr _ _ _ _ => lF
  rename News _ _ _ _ => lN
  k_dflt (refine' ne_ints ?N ?ma hp ?mb il ?u ?_; (case N => exact lN); (case ma => k_mem); (case mb => k_mem); (case u => k_units))
  have lN3 := news_drop0 lN
  clear lN
  k_steps
  refine Stop.mk ?_
  refine' comp_rng (posOf vu) ?_ ?_ ?_ ?_ ?_ ?_ ?_ ?_
  walk_at "sides"
  k_steps
  rename IsRange _ _ _ _ _ _ _ _ => hR2
  rename Fr _ _ _ _ => lF
  rename News _ _ _ _ => lN
  refine Stop.mk ⟨_, 1, 12, _, _, _, 11, rfl, hR2, by decide, by decide, by decide, fun C u t s₂ m₂ E' hC u0 u1 hn hm hk => ?_, fun D4 ys4 n4 h4 tk4 hD4 hget4 hp4 st4 => ?_⟩
  · have Fs := Fr.keeps lF hk
    have Ns := News.grown lN hk
    k_steps
    refine Stop.mk ?_
    k_dflt (refine' number_p (vu := vu) ?cB ?cF ?cX ?cT ?ck ?cd ?cu ?h1 ?h2 ?h3 iz (by omega) hs ?_; (case cF => exact Fs); (case h1 => exact Ns.get (by k_mem : (v, instObj 77 d) ∈ _)); (case h2 => exact Ns.get (by k_mem : (d, _) ∈ _)); (case h3 => exact Ns.get (by k_mem : (ul', _) ∈ _)); (case cB => k_asm); (case cX => k_asm); (case cT => k_asm); (case ck => first | exact rfl | assumption); (case cd => ktr_room); (case cu => k_units))
    intro r9 t9 h9 tk9 F9 st9 w1 w2
    have e9 : r9 = posOf vu u := by
      by_cases hu9 : u ∈ vu
      · obtain ⟨j, rfl, hj⟩ := w1 hu9
        exact posOf_in hs hj
      · rw [w2 hu9, posOf_out hu9]
    exact ⟨⟨t9, by rw [e9]⟩, ⟨h9, tk9, rfl, st9⟩⟩
  have N5 := news_new lF lN st4 hD4 hget4
  have F5 := Fr.keeps lF st4
  clear lN lF
  k_steps
  refine Stop.mk ?_
  refine' comp_rng (posOf vu) ?_ ?_ ?_ ?_ ?_ ?_ ?_ ?_
  walk_at "sides"
  k_steps
  rename IsRange _ _ _ _ _ _ _ _ => hR3
  rename Fr _ _ _ _ => lF
  rename News _ _ _ _ => lN
  refine Stop.mk ⟨_, 1, 12, _, _, _, 11, rfl, hR3, by decide, by decide, by decide, fun C u t s₂ m₂ E' hC u0 u1 hn hm hk => ?_, fun D5 ys5 n5 h5 tk5 hD5 hget5 hp5 st5 => ?_⟩
  · have Fs := Fr.keeps lF hk
    have Ns := News.grown lN hk
    k_steps
    refine in_list_ints (vs := ls) (ns := vu) (Ns.isList (by k_mem : (lf, _) ∈ _)) il ?_
    k_steps
    · refine Stop.mk ?_
      rename (List.any _ _ = true) => ha
      have hm9 : u ∈ vu := by
        obtain ⟨x, hx, e⟩ := List.any_eq_true.mp ha
        exact (by simpa using e : x = u) ▸ hx
      refine index_list_ints (vs := ls) (ns := vu) (Ns.isList (by k_mem : (lf, _) ∈ _)) il (lay_small hbd2 hlen2) hm9 ?_
      k_steps
      · show Value.int _ _ = Value.int (if u ∈ vu then _ else 0) _
        rw [if_pos hm9]
      · exact ⟨s₂.heap, _, rfl, fun _ _ e => e⟩
    · rename (List.any _ _ = false) => ha
      have hm9 : u ∉ vu := fun hm => by
        exact absurd (by simp : (u == u) = true) (List.any_eq_false.mp ha u hm)
      show Value.int _ _ = Value.int (if u ∈ vu then _ else 0) _
      rw [if_neg hm9]
    · exact ⟨s₂.heap, _, rfl, fun _ _ e => e⟩
  have N6 := news_new lF lN st5 hD5 hget5
  have F6 := Fr.keeps lF st5
  clear lN lF
  k_steps
  refine Stop.mk ?_
  rename Fr _ _ _ _ => lF
  rename News _ _ _ _ => lN
  k_dflt (refine' ne_ints ?N ?ma hp4 ?mb hp5 ?u ?_; (case N => exact lN); (case ma => k_mem); (case mb => k_mem); (case u => k_units))
  k_steps
  subst hr2
  exact hret ul' zs n' o1' o2' kf' km' tl _ _ lF (news_sub lN fun p hp => by k_mem) fr mu0 iz D1' D2' E1' E2'
end
theorem zT12 {M : Model} {A : Around} {env : Env} {p : Pos} {Q : Flow → Shared → Prop} {E : Value → Shared → Prop} {s : Shared} (h : wpAny M A (exec (.Pass p) env) Q E s) : wpAny M A (exec (.Pass p) env) Q E s := by
  w_top off
  first | (walk1; fail "z") | exact h
section
variable {w : World} {mean : ExcName → Option Value} {mg mb : Str → Option Value} {dp un : Nat} {gd : Option (List Code)} {sc : Scope} {st : Stmt} {a : Addr} {ccd : Value} {outer : List Env} {A₀ : Around} {base h₀ : Heap} {L : Addr} {m : Str → Option Value} {s : Shared} {Q : Flow → Shared → Prop} {E : Value → Shared → Prop} {rest news : List (Addr × Obj)}
  (hsc : sc = lawScope) (B : Below A₀ base outer h₀) (F : Fr h₀ L s.heap m) (X : (hd.heap_1 w.params).In h₀) (T : Top Mine.lawView (looseW Mine.lawView [Str.ofString "PostError"]) mean mg mb h₀)
  (hdp : dp + 30 < recursionLimit) (hu : un + 300 < cLine)
include hsc B F X T hdp hu
local macro_rules | `(tactic| walk_at "execs cons") => `(tactic| ((with_reducible show wpAny _ _ (execs (List.cons _ _) _) _ _ _); refine Stop.out ?_))
theorem st12 (hst : st = lapStmts.getD 12 default) {bx bd la ga lf vl v1 d1 ul1 f1 m1 v2 d2 ul2 f2 m2 : Addr} {vs ys1 ys2 ls : List Value} {us vu : List Int} {kf1 km1 kf2 km2 : List (Int × Value)} {o1 o2 o3 o4 oV oL : Obj} {nm vd nu tp fl : Value} {vV : Option Value} {k0 k1 k2 k3 k4 k5 k6 q0 q1 q2 q3 q4 q5 q6 p0 p1 p2 p3 p4 p5 p6 : Tok} {e n1 n2 nv nl : Nat} {ro1 um1 uv1 ro2 um2 uv2 : Bool}
    (hE : PassesOwn (model PySem.Challenge.rw_nz0296_01.row.prog w) (ktrTop dp un gd (Str.ofString "law") sc L a ccd (cellsFrom (L + 1) sc.names []) outer) (envOfC (Str.ofString "law") sc L a ccd) E)
    (N : News h₀ L s.heap ((L + 1 + 1 + 1 + 1, oV) :: (d1, dictOf (viewD w.params q0 q1 q2 q3 q4 q5 q6 bx ro1 um1 uv1 ul1 f1 m1) 7) :: (f1, o1) :: (m1, o2) :: (d2, dictOf (viewD w.params p0 p1 p2 p3 p4 p5 p6 bx ro2 um2 uv2 ul2 f2 m2) 7) :: (f2, o3) :: (m2, o4) :: rest)) (ap : ApartN 7 ((L + 1 + 1 + 1 + 1, oV) :: (d1, dictOf (viewD w.params q0 q1 q2 q3 q4 q5 q6 bx ro1 um1 uv1 ul1 f1 m1) 7) :: (f1, o1) :: (m1, o2) :: (d2, dictOf (viewD w.params p0 p1 p2 p3 p4 p5 p6 bx ro2 um2 uv2 ul2 f2 m2) 7) :: (f2, o3) :: (m2, o4) :: rest)) (dV : oV.data = .cell vV)
    (hmv : m (Str.ofString "views") = some (.ref vl)) (hvl : (vl, listOf [.ref v1, .ref v2].toArray nv) ∈ rest)
    (hcl : (L + 1, oL) ∈ rest) (dL : oL.data = .cell (some (.ref lf))) (hlf : (lf, listOf ls.toArray nl) ∈ rest) (il : IntsAre ls vu)
    (hbx : (bx, instObj 242 bd) ∈ rest) (hbd : (bd, dictOf (boxD w.params k0 k1 k2 k3 k4 k5 k6 nm vd nu tp fl la ga) 7) ∈ rest) (hla : (la, listOf vs.toArray e) ∈ rest) (hL : LettersIn w.params rest vs us) (hnd : us.Nodup) (hlen : vs.length ≤ 500) (hlen2 : vu.length ≤ 500) (hs : vu.Pairwise (· < ·)) (hsub : ∀ u ∈ vu, u ∈ us) (hbd2 : ∀ u ∈ vu, 0 ≤ u ∧ u ≤ 1000)
    (hv1 : (v1, instObj 77 d1) ∈ rest) (hu1 : (ul1, listOf ys1.toArray n1) ∈ rest) (hi1 : IntsAre ys1 vu) (hv2 : (v2, instObj 77 d2) ∈ rest) (hu2 : (ul2, listOf ys2.toArray n2) ∈ rest) (hi2 : IntsAre ys2 vu)
    (D1 : o1.IsDictOf (intKind PySem.Challenge.rw_nz0296_01.row.prog w) kf1) (D2 : o2.IsDictOf (intKind PySem.Challenge.rw_nz0296_01.row.prog w) km1) (D3 : o3.IsDictOf (intKind PySem.Challenge.rw_nz0296_01.row.prog w) kf2) (D4 : o4.IsDictOf (intKind PySem.Challenge.rw_nz0296_01.row.prog w) km2) (E1 : kf1.map (·.1) = vu) (E2 : km1.map (·.1) = vu) (E3 : kf2.map (·.1) = vu) (E4 : km2.map (·.1) = vu)
    (hret : ∀ oV' vV' ul1' ul2' zs1 zs2 z1 z2 o1' o2' o3' o4' kf1' km1' kf2' km2' tl h' tk', Fr h₀ L h' m → News h₀ L h' ((L + 1 + 1 + 1 + 1, oV') :: (d1, dictOf (viewD w.params q0 q1 q2 q3 q4 q5 q6 bx ro1 um1 uv1 ul1' f1 m1) 7) :: (f1, o1') :: (m1, o2') :: (d2, dictOf (viewD w.params p0 p1 p2 p3 p4 p5 p6 bx ro2 um2 uv2 ul2' f2 m2) 7) :: (f2, o3') :: (m2, o4') :: (tl ++ rest)) → oV'.data = .cell vV' → (∀ p ∈ tl, ∀ q ∈ (L + 1 + 1 + 1 + 1, oV) :: (d1, dictOf (viewD w.params q0 q1 q2 q3 q4 q5 q6 bx ro1 um1 uv1 ul1 f1 m1) 7) :: (f1, o1) :: (m1, o2) :: (d2, dictOf (viewD w.params p0 p1 p2 p3 p4 p5 p6 bx ro2 um2 uv2 ul2 f2 m2) 7) :: (f2, o3) :: (m2, o4) :: rest, p.1 ≠ q.1) →
      (ul1', listOf (List.toArray zs1) z1) ∈ (ul1, listOf ys1.toArray n1) :: tl → (ul2', listOf (List.toArray zs2) z2) ∈ (ul2, listOf ys2.toArray n2) :: tl → IntsAre zs1 vu → IntsAre zs2 vu →
      o1'.IsDictOf (intKind PySem.Challenge.rw_nz0296_01.row.prog w) kf1' → o2'.IsDictOf (intKind PySem.Challenge.rw_nz0296_01.row.prog w) km1' → o3'.IsDictOf (intKind PySem.Challenge.rw_nz0296_01.row.prog w) kf2' → o4'.IsDictOf (intKind PySem.Challenge.rw_nz0296_01.row.prog w) km2' → kf1'.map (·.1) = vu → km1'.map (·.1) = vu → kf2'.map (·.1) = vu → km2'.map (·.1) = vu → Q .next { s with heap := h', toks := tk' }) :
    wpAny (model PySem.Challenge.rw_nz0296_01.row.prog w) (ktrTop dp un gd (Str.ofString "law") sc L a ccd (cellsFrom (L + 1) sc.names []) outer) (exec st (envOfC (Str.ofString "law") sc L a ccd)) Q E s := by
  conv at hsc => rhs; whnf
  conv at hst => rhs; whnf
  subst hsc; subst hst
  revert X; k_fill; intro X
  have a0 := ap.1; have a1 := ap.2.1; have a2 := ap.2.2.1; have a3 := ap.2.2.2.1; have a4 := ap.2.2.2.2.1; have a5 := ap.2.2.2.2.2.1; have a6 := ap.2.2.2.2.2.2.1
  refine for_unrT (h₀ := h₀) rfl ?_ ?hsx hE
  case hsx => intro _; with_unfolding_all rfl
  k_steps
  refine Stop.mk ⟨vl, [.ref v1, .ref v2], nv, m, _, rfl, .tail _ (.tail _ (.tail _ (.tail _ (.tail _ (.tail _ (.tail _ hvl)))))), F, N, ?_⟩
  have y1 := allOff_of a1; walk_at "offs"
  have y2 := allOff_of a2; walk_at "offs"
  have y3 := allOff_of a3; walk_at "offs"
  have y4 := allOff_of a4; walk_at "offs"
  have y5 := allOff_of a5; walk_at "offs"
  have y6 : AllOff m2 rest := allOff_of a6
  have offB : AllOff (L + 1 + 1 + 1 + 1) ((d1, dictOf (viewD w.params q0 q1 q2 q3 q4 q5 q6 bx ro1 um1 uv1 ul1 f1 m1) 7) :: (f1, o1) :: (m1, o2) :: (d2, dictOf (viewD w.params p0 p1 p2 p3 p4 p5 p6 bx ro2 um2 uv2 ul2 f2 m2) 7) :: (f2, o3) :: (m2, o4) :: rest) := allOff_of a0
  walk_at "offs"
  intro h1 tk1 I1 oI1 off1 F1 N1 no1
  have offA := allOff_of off1
  walk_at "offs"
  clear F N
  k_steps
  refine Stop.mk ?_
  rename Fr _ _ _ _ => lF
  rename News _ _ _ _ => lN
  rename (Obj.data _ = Data.cell (some (Value.ref v1))) => dC
  rename_i h2 oC
  have M1 := news_sub (l' := (d1, dictOf (viewD w.params q0 q1 q2 q3 q4 q5 q6 bx ro1 um1 uv1 ul1 f1 m1) 7) :: (f1, o1) :: (m1, o2) :: (L + 1 + 1 + 1 + 1, oC) :: (I1, oI1) :: (d2, dictOf (viewD w.params p0 p1 p2 p3 p4 p5 p6 bx ro2 um2 uv2 ul2 f2 m2) 7) :: (f2, o3) :: (m2, o4) :: rest) lN (by walk_at "sub")
  have ap1 : ApartN 3 ((d1, dictOf (viewD w.params q0 q1 q2 q3 q4 q5 q6 bx ro1 um1 uv1 ul1 f1 m1) 7) :: (f1, o1) :: (m1, o2) :: (L + 1 + 1 + 1 + 1, oC) :: (I1, oI1) :: (d2, dictOf (viewD w.params p0 p1 p2 p3 p4 p5 p6 bx ro2 um2 uv2 ul2 f2 m2) 7) :: (f2, o3) :: (m2, o4) :: rest) := by
    refine ⟨AllOff.ne ?_, AllOff.ne ?_, AllOff.ne ?_, trivial⟩ <;> walk_at "offEnd"
  have t5 : ∀ p ∈ rest, p ∈ (L + 1 + 1 + 1 + 1, oC) :: (I1, oI1) :: (d2, dictOf (viewD w.params p0 p1 p2 p3 p4 p5 p6 bx ro2 um2 uv2 ul2 f2 m2) 7) :: (f2, o3) :: (m2, o4) :: rest := fun p hp => .tail _ (.tail _ (.tail _ (.tail _ (.tail _ hp))))
  refine st12b (sc := _) rfl B lF X T hdp hu rfl M1 ap1 (.head _) dC (t5 _ hcl) dL (t5 _ hlf) il (t5 _ hbx) (t5 _ hbd) (t5 _ hla) (hL.more t5) hnd hlen hlen2 hs hsub hbd2 (t5 _ hv1) (t5 _ hu1) hi1 D1 D2 E1 E2 ?_
  intro ul1' zs1 z1 o1' o2' kf1' km1' tl1 h3 tk3 F3 N3 fr3 mu1 iz1 D1' D2' E1' E2'
  clear lF lN M1
  have s0 : AllOff I1 tl1 := allOff_of fun p hp => fr3 p hp (I1, oI1) (.tail _ (.tail _ (.tail _ (.tail _ (.head _)))))
  have s1 : AllOff (L + 1 + 1 + 1 + 1) tl1 := allOff_of fun p hp => fr3 p hp (L + 1 + 1 + 1 + 1, oC) (.tail _ (.tail _ (.tail _ (.head _))))
  have s2 : AllOff d2 tl1 := allOff_of fun p hp => fr3 p hp (d2, _) (.tail _ (.tail _ (.tail _ (.tail _ (.tail _ (.head _))))))
  have s3 : AllOff f2 tl1 := allOff_of fun p hp => fr3 p hp (f2, _) (.tail _ (.tail _ (.tail _ (.tail _ (.tail _ (.tail _ (.head _)))))))
  have s4 : AllOff m2 tl1 := allOff_of fun p hp => fr3 p hp (m2, _) (.tail _ (.tail _ (.tail _ (.tail _ (.tail _ (.tail _ (.tail _ (.head _))))))))
  have r0 : AllOff I1 (tl1 ++ rest) := s0.app (by assumption)
  refine TurnOut.intro ((L + 1 + 1 + 1 + 1, oC) :: (d1, dictOf (viewD w.params q0 q1 q2 q3 q4 q5 q6 bx ro1 um1 uv1 ul1' f1 m1) 7) :: (f1, o1') :: (m1, o2') :: (d2, dictOf (viewD w.params p0 p1 p2 p3 p4 p5 p6 bx ro2 um2 uv2 ul2 f2 m2) 7) :: (f2, o3) :: (m2, o4) :: (tl1 ++ rest)) F3 (news_sub N3 ?hN) (AllOff.ne ?off) ⟨?hm, ?_⟩
  case hN =>
    walk_at "sub"
  case off => walk_at "offEnd"
  case hm => exact .tail _ (.tail _ (.tail _ (.tail _ (.tail _ (.tail _ (.tail _ (List.mem_append_right _ hvl)))))))
  intro h4 tk4 I2 oI2 off2 F4 N4 no2
  clear F3 N3
  have offC := allOff_of off2
  walk_at "offs"
  have qq1 : AllOff (L + 1 + 1 + 1 + 1) (tl1 ++ rest) := s1.app (by assumption)
  have qq2 : AllOff d2 (tl1 ++ rest) := s2.app (by assumption)
  have qq3 : AllOff f2 (tl1 ++ rest) := s3.app (by assumption)
  have qq4 : AllOff m2 (tl1 ++ rest) := s4.app (by assumption)
  k_steps
  refine Stop.mk ?_
  rename Fr _ _ _ _ => lF
  rename News _ _ _ _ => lN
  rename (Obj.data _ = Data.cell (some (Value.ref v2))) => dC2
  rename_i h5 oC2
  have M2 := news_sub (l' := (d2, dictOf (viewD w.params p0 p1 p2 p3 p4 p5 p6 bx ro2 um2 uv2 ul2 f2 m2) 7) :: (f2, o3) :: (m2, o4) :: (L + 1 + 1 + 1 + 1, oC2) :: (I2, oI2) :: (d1, dictOf (viewD w.params q0 q1 q2 q3 q4 q5 q6 bx ro1 um1 uv1 ul1' f1 m1) 7) :: (f1, o1') :: (m1, o2') :: (tl1 ++ rest)) lN (by walk_at "sub")
  have ap2 : ApartN 3 ((d2, dictOf (viewD w.params p0 p1 p2 p3 p4 p5 p6 bx ro2 um2 uv2 ul2 f2 m2) 7) :: (f2, o3) :: (m2, o4) :: (L + 1 + 1 + 1 + 1, oC2) :: (I2, oI2) :: (d1, dictOf (viewD w.params q0 q1 q2 q3 q4 q5 q6 bx ro1 um1 uv1 ul1' f1 m1) 7) :: (f1, o1') :: (m1, o2') :: (tl1 ++ rest)) := by
    refine ⟨AllOff.ne ?_, AllOff.ne ?_, AllOff.ne ?_, trivial⟩ <;> walk_at "offEnd"
  have t6 : ∀ p ∈ rest, p ∈ (L + 1 + 1 + 1 + 1, oC2) :: (I2, oI2) :: (d1, dictOf (viewD w.params q0 q1 q2 q3 q4 q5 q6 bx ro1 um1 uv1 ul1' f1 m1) 7) :: (f1, o1') :: (m1, o2') :: (tl1 ++ rest) := fun p hp => .tail _ (.tail _ (.tail _ (.tail _ (.tail _ (List.mem_append_right _ hp)))))
  refine st12b (sc := _) rfl B lF X T hdp hu rfl M2 ap2 (.head _) dC2 (t6 _ hcl) dL (t6 _ hlf) il (t6 _ hbx) (t6 _ hbd) (t6 _ hla) (hL.more t6) hnd hlen hlen2 hs hsub hbd2 (t6 _ hv2) (t6 _ hu2) hi2 D3 D4 E3 E4 ?_
  intro ul2' zs2 z2 o3' o4' kf2' km2' tl2 h6 tk6 F6 N6 fr5 mu2 iz2 D3' D4' E3' E4'
  clear lF lN M2
  have s6 : AllOff I2 tl2 := allOff_of fun p hp => fr5 p hp (I2, oI2) (.tail _ (.tail _ (.tail _ (.tail _ (.head _)))))
  have r6 : AllOff I2 ((tl2 ++ tl1) ++ rest) := by
    rw [List.append_assoc]; exact s6.app (by assumption)
  refine TurnOut.intro ((L + 1 + 1 + 1 + 1, oC2) :: (d1, dictOf (viewD w.params q0 q1 q2 q3 q4 q5 q6 bx ro1 um1 uv1 ul1' f1 m1) 7) :: (f1, o1') :: (m1, o2') :: (d2, dictOf (viewD w.params p0 p1 p2 p3 p4 p5 p6 bx ro2 um2 uv2 ul2' f2 m2) 7) :: (f2, o3') :: (m2, o4') :: ((tl2 ++ tl1) ++ rest)) F6 (news_sub N6 ?hN2) (AllOff.ne ?off2) ⟨?hm2, ?_⟩
  case hN2 =>
    walk_at "sub"
  case off2 => walk_at "offEnd"
  case hm2 => exact .tail _ (.tail _ (.tail _ (.tail _ (.tail _ (.tail _ (.tail _ (List.mem_append_right _ hvl)))))))
  intro h7 tk7 F7 N7
  refine hret oC2 _ ul1' ul2' zs1 zs2 z1 z2 o1' o2' o3' o4' kf1' km1' kf2' km2' (tl2 ++ tl1) h7 tk7 F7 N7 dC2 ?fr ?mm1 ?mm2 iz1 iz2 D1' D2' D3' D4' E1' E2' E3' E4'
  case mm1 =>
    rcases List.mem_cons.mp mu1 with h | h
    · rw [h]; exact .head _
    · exact .tail _ (List.mem_append_right _ h)
  case mm2 =>
    rcases List.mem_cons.mp mu2 with h | h
    · rw [h]; exact .head _
    · exact .tail _ (List.mem_append_left _ h)
  case fr =>
    intro p hp q hq
    rcases List.mem_append.mp hp with hp | hp
    · have f5 := fr5 p hp
      rcases List.mem_cons.mp hq with rfl | hq
      · exact f5 (L + 1 + 1 + 1 + 1, oC2) (.tail _ (.tail _ (.tail _ (.head _))))
      rcases List.mem_cons.mp hq with rfl | hq
      · exact f5 (d1, dictOf (viewD w.params q0 q1 q2 q3 q4 q5 q6 bx ro1 um1 uv1 ul1' f1 m1) 7) (.tail _ (.tail _ (.tail _ (.tail _ (.tail _ (.head _))))))
      rcases List.mem_cons.mp hq with rfl | hq
      · exact f5 (f1, o1') (.tail _ (.tail _ (.tail _ (.tail _ (.tail _ (.tail _ (.head _)))))))
      rcases List.mem_cons.mp hq with rfl | hq
      · exact f5 (m1, o2') (.tail _ (.tail _ (.tail _ (.tail _ (.tail _ (.tail _ (.tail _ (.head _))))))))
      rcases List.mem_cons.mp hq with rfl | hq
      · exact f5 _ (.head _)
      rcases List.mem_cons.mp hq with rfl | hq
      · exact f5 _ (.tail _ (.head _))
      rcases List.mem_cons.mp hq with rfl | hq
      · exact f5 _ (.tail _ (.tail _ (.head _)))
      · exact f5 q (.tail _ (.tail _ (.tail _ (.tail _ (.tail _ (.tail _ (.tail _ (.tail _ (List.mem_append_right _ hq)))))))))
    · have f3 := fr3 p hp
      rcases List.mem_cons.mp hq with rfl | hq
      · exact f3 (L + 1 + 1 + 1 + 1, oC) (.tail _ (.tail _ (.tail _ (.head _))))
      rcases List.mem_cons.mp hq with rfl | hq
      · exact f3 _ (.head _)
      rcases List.mem_cons.mp hq with rfl | hq
      · exact f3 _ (.tail _ (.head _))
      rcases List.mem_cons.mp hq with rfl | hq
      · exact f3 _ (.tail _ (.tail _ (.head _)))
      · exact f3 q (.tail _ (.tail _ (.tail _ (.tail _ (.tail _ hq)))))
end
theorem zT13 {M : Model} {A : Around} {env : Env} {p : Pos} {Q : Flow → Shared → Prop} {E : Value → Shared → Prop} {s : Shared} (h : wpAny M A (exec (.Pass p) env) Q E s) : wpAny M A (exec (.Pass p) env) Q E s := by
  w_top off
  first | (walk1; fail "z") | exact h
section
variable {w : World} {mean : ExcName → Option Value} {mg mb : Str → Option Value} {dp un : Nat} {gd : Option (List Code)} {sc : Scope} {st : Stmt} {a : Addr} {ccd : Value} {outer : List Env} {A₀ : Around} {base h₀ : Heap} {L : Addr} {m : Str → Option Value} {s : Shared} {Q : Flow → Shared → Prop} {E : Value → Shared → Prop} {rest news : List (Addr × Obj)}
  (hsc : sc = lawScope) (B : Below A₀ base outer h₀) (F : Fr h₀ L s.heap m) (X : (hd.heap_1 w.params).In h₀) (T : Top Mine.lawView (looseW Mine.lawView [Str.ofString "PostError"]) mean mg mb h₀)
  (hdp : dp + 30 < recursionLimit) (hu : un + 300 < cLine)
include hsc B F X T hdp hu
theorem lap {bs : List Stmt} (hst : bs = lapStmts) (ad : Ad) (g : Gh) {i : Nat} {X0 R : List (Addr × Obj)} (hi3 : i < 3) (hcv : IntsAre ad.cvs ad.cns) (hcl : ad.cns.length ≤ 63)
    (hE : PassesOwn (model PySem.Challenge.rw_nz0296_01.row.prog w) (ktrTop dp un gd (Str.ofString "law") sc L a ccd (cellsFrom (L + 1) sc.names []) outer) (envOfC (Str.ofString "law") sc L a ccd) E)
    (S : LapSt w ad g i m R) (N : News h₀ L s.heap (headsOf w L ad g ++ (X0 ++ R))) (ap : ApartN 13 (headsOf w L ad g ++ (X0 ++ R)))
    (hret : ∀ g' tl m' h' tk', LapSt w ad g' (i + 1) m' (tl ++ R) → Fr h₀ L h' m' → News h₀ L h' (headsOf w L ad g' ++ (tl ++ (X0 ++ R))) → ApartN 13 (headsOf w L ad g' ++ (tl ++ (X0 ++ R))) → (∀ p ∈ tl, ∀ q ∈ X0, p.1 ≠ q.1) → Q .next { s with heap := h', toks := tk' }) :
    wpAny (model PySem.Challenge.rw_nz0296_01.row.prog w) (ktrTop dp un gd (Str.ofString "law") sc L a ccd (cellsFrom (L + 1) sc.names []) outer) (execs bs (envOfC (Str.ofString "law") sc L a ccd)) Q E s := by
  conv at hsc => rhs; whnf
  conv at hst => rhs; whnf
  subst hsc; subst hst
  obtain ⟨T0, hT0⟩ : ∃ T0 : List (Addr × Obj), T0 = [] := ⟨_, rfl⟩
  have hX0 : ∀ p ∈ T0, ∀ q ∈ X0, p.1 ≠ q.1 := by rw [hT0]; exact fun p hp => nomatch hp
  have N' : News h₀ L s.heap (penO ad g :: boxO w ad g :: (g.la, listOf g.vs.toArray g.el) :: (g.ga, listOf g.gs.toArray g.eg) :: (ad.d1, dictOf (viewD w.params g.q0 g.q1 g.q2 g.q3 g.q4 g.q5 g.q6 ad.bx false false false g.ul1 ad.f1 ad.m1) 7) :: (ad.f1, g.o1) :: (ad.m1, g.o2) :: (ad.d2, dictOf (viewD w.params g.p0 g.p1 g.p2 g.p3 g.p4 g.p5 g.p6 ad.bx false true true g.ul2 ad.f2 ad.m2) 7) :: (ad.f2, g.o3) :: (ad.m2, g.o4) :: (L + 1, g.oL) :: (L + 1 + 1, g.oS) :: (L + 1 + 1 + 1 + 1, g.oV) :: (T0 ++ (X0 ++ R))) := by rw [hT0]; exact N
  have ap' : ApartN 13 (penO ad g :: boxO w ad g :: (g.la, listOf g.vs.toArray g.el) :: (g.ga, listOf g.gs.toArray g.eg) :: (ad.d1, dictOf (viewD w.params g.q0 g.q1 g.q2 g.q3 g.q4 g.q5 g.q6 ad.bx false false false g.ul1 ad.f1 ad.m1) 7) :: (ad.f1, g.o1) :: (ad.m1, g.o2) :: (ad.d2, dictOf (viewD w.params g.p0 g.p1 g.p2 g.p3 g.p4 g.p5 g.p6 ad.bx false true true g.ul2 ad.f2 ad.m2) 7) :: (ad.f2, g.o3) :: (ad.m2, g.o4) :: (L + 1, g.oL) :: (L + 1 + 1, g.oS) :: (L + 1 + 1 + 1 + 1, g.oV) :: (T0 ++ (X0 ++ R))) := by rw [hT0]; exact ap
  clear N ap
  have up0 : ∀ p ∈ R, p ∈ T0 ++ R := fun p hp => List.mem_append_right _ hp
  have sm1 := S.mpen; have sm2 := S.mbox; have sm3 := S.mviews
  have Ma : News h₀ L s.heap (penO ad g :: (L + 1 + 1, g.oS) :: boxO w ad g :: (g.la, listOf g.vs.toArray g.el) :: (g.ga, listOf g.gs.toArray g.eg) :: (ad.d1, dictOf (viewD w.params g.q0 g.q1 g.q2 g.q3 g.q4 g.q5 g.q6 ad.bx false false false g.ul1 ad.f1 ad.m1) 7) :: (ad.f1, g.o1) :: (ad.m1, g.o2) :: (ad.d2, dictOf (viewD w.params g.p0 g.p1 g.p2 g.p3 g.p4 g.p5 g.p6 ad.bx false true true g.ul2 ad.f2 ad.m2) 7) :: (ad.f2, g.o3) :: (ad.m2, g.o4) :: (L + 1, g.oL) :: (L + 1 + 1 + 1 + 1, g.oV) :: (T0 ++ (X0 ++ R))) := news_pick 1 rfl (news_pick 11 rfl (N'))
  have Ba : ApartN 13 (penO ad g :: (L + 1 + 1, g.oS) :: boxO w ad g :: (g.la, listOf g.vs.toArray g.el) :: (g.ga, listOf g.gs.toArray g.eg) :: (ad.d1, dictOf (viewD w.params g.q0 g.q1 g.q2 g.q3 g.q4 g.q5 g.q6 ad.bx false false false g.ul1 ad.f1 ad.m1) 7) :: (ad.f1, g.o1) :: (ad.m1, g.o2) :: (ad.d2, dictOf (viewD w.params g.p0 g.p1 g.p2 g.p3 g.p4 g.p5 g.p6 ad.bx false true true g.ul2 ad.f2 ad.m2) 7) :: (ad.f2, g.o3) :: (ad.m2, g.o4) :: (L + 1, g.oL) :: (L + 1 + 1 + 1 + 1, g.oV) :: (T0 ++ (X0 ++ R))) := ((ap').pick 11 rfl (by decide)).pick 1 rfl (by decide)
  clear N' ap'
  refine wpAny_execs_cons (st0 (sc := _) (k := g.k) (z := g.z) rfl B F X T hdp hu rfl Ma S.dS (Ba.mono (by decide)) S.mpen (.tail _ (.tail _ (.tail _ (.tail _ (.tail _ (.tail _ (.tail _ (.tail _ (.tail _ (.tail _ (.tail _ (mid_mem _ (up0 _ S.hca))))))))))))) hcv hcl S.k0 (by have := S.k1; omega) S.z0 S.z1 ?_)
  intro x1 x2 t1 t2 tk2 sl es oS1 h1 w1 F1 N1 dS1 fr1
  have N1' : News h₀ L h1 ((ad.pa, listOf [.ref ad.ca, .int (g.k + 1 + 1) tk2, .int g.z g.tz].toArray g.ep) :: (L + 1 + 1, oS1) :: boxO w ad g :: (g.la, listOf g.vs.toArray g.el) :: (g.ga, listOf g.gs.toArray g.eg) :: (ad.d1, dictOf (viewD w.params g.q0 g.q1 g.q2 g.q3 g.q4 g.q5 g.q6 ad.bx false false false g.ul1 ad.f1 ad.m1) 7) :: (ad.f1, g.o1) :: (ad.m1, g.o2) :: (ad.d2, dictOf (viewD w.params g.p0 g.p1 g.p2 g.p3 g.p4 g.p5 g.p6 ad.bx false true true g.ul2 ad.f2 ad.m2) 7) :: (ad.f2, g.o3) :: (ad.m2, g.o4) :: (L + 1, g.oL) :: (L + 1 + 1 + 1 + 1, g.oV) :: ([(sl, listOf [.int x1 t1, .int x2 t2].toArray es)] ++ (T0 ++ (X0 ++ R)))) := news_back [(sl, listOf [.int x1 t1, .int x2 t2].toArray es)] [(ad.pa, listOf [.ref ad.ca, .int (g.k + 1 + 1) tk2, .int g.z g.tz].toArray g.ep), (L + 1 + 1, oS1), boxO w ad g, (g.la, listOf g.vs.toArray g.el), (g.ga, listOf g.gs.toArray g.eg), (ad.d1, dictOf (viewD w.params g.q0 g.q1 g.q2 g.q3 g.q4 g.q5 g.q6 ad.bx false false false g.ul1 ad.f1 ad.m1) 7), (ad.f1, g.o1), (ad.m1, g.o2), (ad.d2, dictOf (viewD w.params g.p0 g.p1 g.p2 g.p3 g.p4 g.p5 g.p6 ad.bx false true true g.ul2 ad.f2 ad.m2) 7), (ad.f2, g.o3), (ad.m2, g.o4), (L + 1, g.oL), (L + 1 + 1 + 1 + 1, g.oV)] (T0 ++ (X0 ++ R)) N1
  clear N1 Ma
  obtain ⟨T1, hT1⟩ : ∃ z : List (Addr × Obj), z = [(sl, listOf [.int x1 t1, .int x2 t2].toArray es)] ++ T0 := ⟨_, rfl⟩
  have NT1 : News h₀ L h1 ((ad.pa, listOf [.ref ad.ca, .int (g.k + 1 + 1) tk2, .int g.z g.tz].toArray g.ep) :: (L + 1 + 1, oS1) :: boxO w ad g :: (g.la, listOf g.vs.toArray g.el) :: (g.ga, listOf g.gs.toArray g.eg) :: (ad.d1, dictOf (viewD w.params g.q0 g.q1 g.q2 g.q3 g.q4 g.q5 g.q6 ad.bx false false false g.ul1 ad.f1 ad.m1) 7) :: (ad.f1, g.o1) :: (ad.m1, g.o2) :: (ad.d2, dictOf (viewD w.params g.p0 g.p1 g.p2 g.p3 g.p4 g.p5 g.p6 ad.bx false true true g.ul2 ad.f2 ad.m2) 7) :: (ad.f2, g.o3) :: (ad.m2, g.o4) :: (L + 1, g.oL) :: (L + 1 + 1 + 1 + 1, g.oV) :: (T1 ++ (X0 ++ R))) := by rw [hT1, List.append_assoc]; exact N1'
  have AT1 : ApartN 13 ((ad.pa, listOf [.ref ad.ca, .int (g.k + 1 + 1) tk2, .int g.z g.tz].toArray g.ep) :: (L + 1 + 1, oS1) :: boxO w ad g :: (g.la, listOf g.vs.toArray g.el) :: (g.ga, listOf g.gs.toArray g.eg) :: (ad.d1, dictOf (viewD w.params g.q0 g.q1 g.q2 g.q3 g.q4 g.q5 g.q6 ad.bx false false false g.ul1 ad.f1 ad.m1) 7) :: (ad.f1, g.o1) :: (ad.m1, g.o2) :: (ad.d2, dictOf (viewD w.params g.p0 g.p1 g.p2 g.p3 g.p4 g.p5 g.p6 ad.bx false true true g.ul2 ad.f2 ad.m2) 7) :: (ad.f2, g.o3) :: (ad.m2, g.o4) :: (L + 1, g.oL) :: (L + 1 + 1 + 1 + 1, g.oV) :: (T1 ++ (X0 ++ R))) := by rw [hT1, List.append_assoc]; exact ApartN.congr (n := 13) (l := [penO ad g, (L + 1 + 1, g.oS), boxO w ad g, (g.la, listOf g.vs.toArray g.el), (g.ga, listOf g.gs.toArray g.eg), (ad.d1, dictOf (viewD w.params g.q0 g.q1 g.q2 g.q3 g.q4 g.q5 g.q6 ad.bx false false false g.ul1 ad.f1 ad.m1) 7), (ad.f1, g.o1), (ad.m1, g.o2), (ad.d2, dictOf (viewD w.params g.p0 g.p1 g.p2 g.p3 g.p4 g.p5 g.p6 ad.bx false true true g.ul2 ad.f2 ad.m2) 7), (ad.f2, g.o3), (ad.m2, g.o4), (L + 1, g.oL), (L + 1 + 1 + 1 + 1, g.oV)] ++ ([(sl, listOf [.int x1 t1, .int x2 t2].toArray es)] ++ (T0 ++ (X0 ++ R)))) rfl (ApartN.grow (n := 13) (hd := [penO ad g, (L + 1 + 1, g.oS), boxO w ad g, (g.la, listOf g.vs.toArray g.el), (g.ga, listOf g.gs.toArray g.eg), (ad.d1, dictOf (viewD w.params g.q0 g.q1 g.q2 g.q3 g.q4 g.q5 g.q6 ad.bx false false false g.ul1 ad.f1 ad.m1) 7), (ad.f1, g.o1), (ad.m1, g.o2), (ad.d2, dictOf (viewD w.params g.p0 g.p1 g.p2 g.p3 g.p4 g.p5 g.p6 ad.bx false true true g.ul2 ad.f2 ad.m2) 7), (ad.f2, g.o3), (ad.m2, g.o4), (L + 1, g.oL), (L + 1 + 1 + 1 + 1, g.oV)]) (tl := [(sl, listOf [.int x1 t1, .int x2 t2].toArray es)]) (r := (T0 ++ (X0 ++ R))) rfl Ba (fun p hp q hq => by rw [List.mem_singleton.mp hp]; exact (fr1 q (List.mem_append_left _ hq)).symm))
  have hX1 : ∀ p ∈ T1, ∀ q ∈ X0, p.1 ≠ q.1 := by
    rw [hT1]
    intro p hp q hq
    rcases List.mem_append.mp hp with hp | hp
    · exact by rw [List.mem_singleton.mp hp]; exact (fr1 q (.tail _ (.tail _ (.tail _ (.tail _ (.tail _ (.tail _ (.tail _ (.tail _ (.tail _ (.tail _ (.tail _ (.tail _ (.tail _ (List.mem_append_right _ (List.mem_append_left _ hq)))))))))))))))).symm
    · exact hX0 p hp q hq
  have up1 : ∀ p ∈ R, p ∈ T1 ++ R := fun p hp => List.mem_append_right _ hp
  have ux1 : ∀ p ∈ T0 ++ R, p ∈ T1 ++ R := fun p hp => by rw [hT1, List.append_assoc]; exact List.mem_append_right _ hp
  clear N1' Ba
  have msl : (sl, listOf [.int x1 t1, .int x2 t2].toArray es) ∈ T1 ++ R := by rw [hT1]; exact .head _
  have Mb : News h₀ L h1 (boxO w ad g :: (g.la, listOf g.vs.toArray g.el) :: (g.ga, listOf g.gs.toArray g.eg) :: (ad.pa, listOf [.ref ad.ca, .int (g.k + 1 + 1) tk2, .int g.z g.tz].toArray g.ep) :: (L + 1 + 1, oS1) :: (ad.d1, dictOf (viewD w.params g.q0 g.q1 g.q2 g.q3 g.q4 g.q5 g.q6 ad.bx false false false g.ul1 ad.f1 ad.m1) 7) :: (ad.f1, g.o1) :: (ad.m1, g.o2) :: (ad.d2, dictOf (viewD w.params g.p0 g.p1 g.p2 g.p3 g.p4 g.p5 g.p6 ad.bx false true true g.ul2 ad.f2 ad.m2) 7) :: (ad.f2, g.o3) :: (ad.m2, g.o4) :: (L + 1, g.oL) :: (L + 1 + 1 + 1 + 1, g.oV) :: (T1 ++ (X0 ++ R))) := news_pick 4 rfl (news_pick 4 rfl (news_pick 4 rfl (NT1)))
  have Bb : ApartN 13 (boxO w ad g :: (g.la, listOf g.vs.toArray g.el) :: (g.ga, listOf g.gs.toArray g.eg) :: (ad.pa, listOf [.ref ad.ca, .int (g.k + 1 + 1) tk2, .int g.z g.tz].toArray g.ep) :: (L + 1 + 1, oS1) :: (ad.d1, dictOf (viewD w.params g.q0 g.q1 g.q2 g.q3 g.q4 g.q5 g.q6 ad.bx false false false g.ul1 ad.f1 ad.m1) 7) :: (ad.f1, g.o1) :: (ad.m1, g.o2) :: (ad.d2, dictOf (viewD w.params g.p0 g.p1 g.p2 g.p3 g.p4 g.p5 g.p6 ad.bx false true true g.ul2 ad.f2 ad.m2) 7) :: (ad.f2, g.o3) :: (ad.m2, g.o4) :: (L + 1, g.oL) :: (L + 1 + 1 + 1 + 1, g.oV) :: (T1 ++ (X0 ++ R))) := (((AT1).pick 4 rfl (by decide)).pick 4 rfl (by decide)).pick 4 rfl (by decide)
  clear NT1 AT1
  refine wpAny_execs_cons (st1 (sc := _) rfl B F1 X T hdp hu rfl Mb (Bb.mono (by decide)) S.mbox (.tail _ (.tail _ (.tail _ (.tail _ (.tail _ (.tail _ (.tail _ (.tail _ (.tail _ (.tail _ (mid_mem _ (up1 _ S.hbx)))))))))))) (.tail _ (.head _)) dS1 (.tail _ (.tail _ (.tail _ (.tail _ (.tail _ (.tail _ (.tail _ (.tail _ (.tail _ (.tail _ (mid_mem _ (msl)))))))))))) (fun p hp => .tail _ (.tail _ (.tail _ (.tail _ (.tail _ (.tail _ (.tail _ (.tail _ (.tail _ (.tail _ (mid_mem p hp))))))))))) (S.hL.more up1) (by have := S.hlen; omega) (by have := S.hglen; omega) ?_)
  intro la1 ga1 vs1 gs1 e1 eg1 tp1 tt1 h2 w2 F2 N2 ap2 hL1 hg1
  have A2 : ApartN 13 ((ad.bd, dictOf (boxD w.params g.k0 g.k1 g.k2 g.k3 g.k4 g.k5 g.k6 g.nm g.vd (.int g.nu g.tn) (.int tp1 tt1) g.fl la1 ga1) 7) :: (la1, listOf (List.toArray vs1) e1) :: (ga1, listOf (List.toArray gs1) eg1) :: (ad.pa, listOf [.ref ad.ca, .int (g.k + 1 + 1) tk2, .int g.z g.tz].toArray g.ep) :: (L + 1 + 1, oS1) :: (ad.d1, dictOf (viewD w.params g.q0 g.q1 g.q2 g.q3 g.q4 g.q5 g.q6 ad.bx false false false g.ul1 ad.f1 ad.m1) 7) :: (ad.f1, g.o1) :: (ad.m1, g.o2) :: (ad.d2, dictOf (viewD w.params g.p0 g.p1 g.p2 g.p3 g.p4 g.p5 g.p6 ad.bx false true true g.ul2 ad.f2 ad.m2) 7) :: (ad.f2, g.o3) :: (ad.m2, g.o4) :: (L + 1, g.oL) :: (L + 1 + 1 + 1 + 1, g.oV) :: (T1 ++ (X0 ++ R))) := ⟨ap2.1, ap2.2.1, ap2.2.2.1, Bb.2.2.2⟩
  clear Mb Bb ap2
  have Mc : News h₀ L h2 ((ad.pa, listOf [.ref ad.ca, .int (g.k + 1 + 1) tk2, .int g.z g.tz].toArray g.ep) :: (ad.bd, dictOf (boxD w.params g.k0 g.k1 g.k2 g.k3 g.k4 g.k5 g.k6 g.nm g.vd (.int g.nu g.tn) (.int tp1 tt1) g.fl la1 ga1) 7) :: (la1, listOf (List.toArray vs1) e1) :: (ga1, listOf (List.toArray gs1) eg1) :: (L + 1 + 1, oS1) :: (ad.d1, dictOf (viewD w.params g.q0 g.q1 g.q2 g.q3 g.q4 g.q5 g.q6 ad.bx false false false g.ul1 ad.f1 ad.m1) 7) :: (ad.f1, g.o1) :: (ad.m1, g.o2) :: (ad.d2, dictOf (viewD w.params g.p0 g.p1 g.p2 g.p3 g.p4 g.p5 g.p6 ad.bx false true true g.ul2 ad.f2 ad.m2) 7) :: (ad.f2, g.o3) :: (ad.m2, g.o4) :: (L + 1, g.oL) :: (L + 1 + 1 + 1 + 1, g.oV) :: (T1 ++ (X0 ++ R))) := news_pick 3 rfl (news_pick 1 rfl (news_pick 1 rfl (N2)))
  have Bc : ApartN 13 ((ad.pa, listOf [.ref ad.ca, .int (g.k + 1 + 1) tk2, .int g.z g.tz].toArray g.ep) :: (ad.bd, dictOf (boxD w.params g.k0 g.k1 g.k2 g.k3 g.k4 g.k5 g.k6 g.nm g.vd (.int g.nu g.tn) (.int tp1 tt1) g.fl la1 ga1) 7) :: (la1, listOf (List.toArray vs1) e1) :: (ga1, listOf (List.toArray gs1) eg1) :: (L + 1 + 1, oS1) :: (ad.d1, dictOf (viewD w.params g.q0 g.q1 g.q2 g.q3 g.q4 g.q5 g.q6 ad.bx false false false g.ul1 ad.f1 ad.m1) 7) :: (ad.f1, g.o1) :: (ad.m1, g.o2) :: (ad.d2, dictOf (viewD w.params g.p0 g.p1 g.p2 g.p3 g.p4 g.p5 g.p6 ad.bx false true true g.ul2 ad.f2 ad.m2) 7) :: (ad.f2, g.o3) :: (ad.m2, g.o4) :: (L + 1, g.oL) :: (L + 1 + 1 + 1 + 1, g.oV) :: (T1 ++ (X0 ++ R))) := (((A2).pick 1 rfl (by decide)).pick 1 rfl (by decide)).pick 3 rfl (by decide)
  clear N2 A2
  refine wpAny_execs_cons (st2 (sc := _) (k := g.k + 1 + 1) (z := g.z) rfl B F2 X T hdp hu rfl Mc (Bc.mono (by decide)) S.mpen S.mbox (.tail _ (.tail _ (.tail _ (.tail _ (.tail _ (.tail _ (.tail _ (.tail _ (.tail _ (.tail _ (mid_mem _ (up1 _ S.hbx)))))))))))) (.tail _ (.tail _ (.tail _ (.tail _ (.tail _ (.tail _ (.tail _ (.tail _ (.tail _ (.tail _ (mid_mem _ (up1 _ S.hca)))))))))))) hcv hcl (by have := S.k0; omega) (by have := S.k1; omega) S.z0 S.z1 hL1 (by have := S.hlen; have := hL1.length; have := S.hL.length; have := List.length_filter_le (fun u => !(u == x1 || u == x2)) g.us; omega) ?_)
  intro vs2 us2 nu2 tp2 tn2 tt2 tk3 e2 tl2 h3 w3 F3 N3 fr3 hL2 hd2
  have N3' : News h₀ L h3 ((ad.pa, listOf [.ref ad.ca, .int (g.k + 1 + 1 + 1) tk3, .int g.z g.tz].toArray g.ep) :: (ad.bd, dictOf (boxD w.params g.k0 g.k1 g.k2 g.k3 g.k4 g.k5 g.k6 g.nm g.vd (.int nu2 tn2) (.int tp2 tt2) g.fl la1 ga1) 7) :: (la1, listOf (List.toArray vs2) e2) :: (ga1, listOf (List.toArray gs1) eg1) :: (L + 1 + 1, oS1) :: (ad.d1, dictOf (viewD w.params g.q0 g.q1 g.q2 g.q3 g.q4 g.q5 g.q6 ad.bx false false false g.ul1 ad.f1 ad.m1) 7) :: (ad.f1, g.o1) :: (ad.m1, g.o2) :: (ad.d2, dictOf (viewD w.params g.p0 g.p1 g.p2 g.p3 g.p4 g.p5 g.p6 ad.bx false true true g.ul2 ad.f2 ad.m2) 7) :: (ad.f2, g.o3) :: (ad.m2, g.o4) :: (L + 1, g.oL) :: (L + 1 + 1 + 1 + 1, g.oV) :: (tl2 ++ (T1 ++ (X0 ++ R)))) := news_mid [(ad.pa, listOf [.ref ad.ca, .int (g.k + 1 + 1 + 1) tk3, .int g.z g.tz].toArray g.ep), (ad.bd, dictOf (boxD w.params g.k0 g.k1 g.k2 g.k3 g.k4 g.k5 g.k6 g.nm g.vd (.int nu2 tn2) (.int tp2 tt2) g.fl la1 ga1) 7), (la1, listOf (List.toArray vs2) e2)] tl2 [(ga1, listOf (List.toArray gs1) eg1), (L + 1 + 1, oS1), (ad.d1, dictOf (viewD w.params g.q0 g.q1 g.q2 g.q3 g.q4 g.q5 g.q6 ad.bx false false false g.ul1 ad.f1 ad.m1) 7), (ad.f1, g.o1), (ad.m1, g.o2), (ad.d2, dictOf (viewD w.params g.p0 g.p1 g.p2 g.p3 g.p4 g.p5 g.p6 ad.bx false true true g.ul2 ad.f2 ad.m2) 7), (ad.f2, g.o3), (ad.m2, g.o4), (L + 1, g.oL), (L + 1 + 1 + 1 + 1, g.oV)] (T1 ++ (X0 ++ R)) N3
  clear N3 Mc
  obtain ⟨T2, hT2⟩ : ∃ z : List (Addr × Obj), z = tl2 ++ T1 := ⟨_, rfl⟩
  have NT2 : News h₀ L h3 ((ad.pa, listOf [.ref ad.ca, .int (g.k + 1 + 1 + 1) tk3, .int g.z g.tz].toArray g.ep) :: (ad.bd, dictOf (boxD w.params g.k0 g.k1 g.k2 g.k3 g.k4 g.k5 g.k6 g.nm g.vd (.int nu2 tn2) (.int tp2 tt2) g.fl la1 ga1) 7) :: (la1, listOf (List.toArray vs2) e2) :: (ga1, listOf (List.toArray gs1) eg1) :: (L + 1 + 1, oS1) :: (ad.d1, dictOf (viewD w.params g.q0 g.q1 g.q2 g.q3 g.q4 g.q5 g.q6 ad.bx false false false g.ul1 ad.f1 ad.m1) 7) :: (ad.f1, g.o1) :: (ad.m1, g.o2) :: (ad.d2, dictOf (viewD w.params g.p0 g.p1 g.p2 g.p3 g.p4 g.p5 g.p6 ad.bx false true true g.ul2 ad.f2 ad.m2) 7) :: (ad.f2, g.o3) :: (ad.m2, g.o4) :: (L + 1, g.oL) :: (L + 1 + 1 + 1 + 1, g.oV) :: (T2 ++ (X0 ++ R))) := by rw [hT2, List.append_assoc]; exact N3'
  have AT2 : ApartN 13 ((ad.pa, listOf [.ref ad.ca, .int (g.k + 1 + 1 + 1) tk3, .int g.z g.tz].toArray g.ep) :: (ad.bd, dictOf (boxD w.params g.k0 g.k1 g.k2 g.k3 g.k4 g.k5 g.k6 g.nm g.vd (.int nu2 tn2) (.int tp2 tt2) g.fl la1 ga1) 7) :: (la1, listOf (List.toArray vs2) e2) :: (ga1, listOf (List.toArray gs1) eg1) :: (L + 1 + 1, oS1) :: (ad.d1, dictOf (viewD w.params g.q0 g.q1 g.q2 g.q3 g.q4 g.q5 g.q6 ad.bx false false false g.ul1 ad.f1 ad.m1) 7) :: (ad.f1, g.o1) :: (ad.m1, g.o2) :: (ad.d2, dictOf (viewD w.params g.p0 g.p1 g.p2 g.p3 g.p4 g.p5 g.p6 ad.bx false true true g.ul2 ad.f2 ad.m2) 7) :: (ad.f2, g.o3) :: (ad.m2, g.o4) :: (L + 1, g.oL) :: (L + 1 + 1 + 1 + 1, g.oV) :: (T2 ++ (X0 ++ R))) := by rw [hT2, List.append_assoc]; exact ApartN.congr (n := 13) (l := [(ad.pa, listOf [.ref ad.ca, .int (g.k + 1 + 1) tk2, .int g.z g.tz].toArray g.ep), (ad.bd, dictOf (boxD w.params g.k0 g.k1 g.k2 g.k3 g.k4 g.k5 g.k6 g.nm g.vd (.int g.nu g.tn) (.int tp1 tt1) g.fl la1 ga1) 7), (la1, listOf (List.toArray vs1) e1), (ga1, listOf (List.toArray gs1) eg1), (L + 1 + 1, oS1), (ad.d1, dictOf (viewD w.params g.q0 g.q1 g.q2 g.q3 g.q4 g.q5 g.q6 ad.bx false false false g.ul1 ad.f1 ad.m1) 7), (ad.f1, g.o1), (ad.m1, g.o2), (ad.d2, dictOf (viewD w.params g.p0 g.p1 g.p2 g.p3 g.p4 g.p5 g.p6 ad.bx false true true g.ul2 ad.f2 ad.m2) 7), (ad.f2, g.o3), (ad.m2, g.o4), (L + 1, g.oL), (L + 1 + 1 + 1 + 1, g.oV)] ++ (tl2 ++ (T1 ++ (X0 ++ R)))) rfl (ApartN.grow (n := 13) (hd := [(ad.pa, listOf [.ref ad.ca, .int (g.k + 1 + 1) tk2, .int g.z g.tz].toArray g.ep), (ad.bd, dictOf (boxD w.params g.k0 g.k1 g.k2 g.k3 g.k4 g.k5 g.k6 g.nm g.vd (.int g.nu g.tn) (.int tp1 tt1) g.fl la1 ga1) 7), (la1, listOf (List.toArray vs1) e1), (ga1, listOf (List.toArray gs1) eg1), (L + 1 + 1, oS1), (ad.d1, dictOf (viewD w.params g.q0 g.q1 g.q2 g.q3 g.q4 g.q5 g.q6 ad.bx false false false g.ul1 ad.f1 ad.m1) 7), (ad.f1, g.o1), (ad.m1, g.o2), (ad.d2, dictOf (viewD w.params g.p0 g.p1 g.p2 g.p3 g.p4 g.p5 g.p6 ad.bx false true true g.ul2 ad.f2 ad.m2) 7), (ad.f2, g.o3), (ad.m2, g.o4), (L + 1, g.oL), (L + 1 + 1 + 1 + 1, g.oV)]) (tl := tl2) (r := (T1 ++ (X0 ++ R))) rfl Bc (fun p hp q hq => fr3 p hp q (List.mem_append_left _ hq)))
  have hX2 : ∀ p ∈ T2, ∀ q ∈ X0, p.1 ≠ q.1 := by
    rw [hT2]
    intro p hp q hq
    rcases List.mem_append.mp hp with hp | hp
    · exact fr3 p hp q (.tail _ (.tail _ (.tail _ (.tail _ (.tail _ (.tail _ (.tail _ (.tail _ (.tail _ (.tail _ (.tail _ (.tail _ (.tail _ (List.mem_append_right _ (List.mem_append_left _ hq)))))))))))))))
    · exact hX1 p hp q hq
  have up2 : ∀ p ∈ R, p ∈ T2 ++ R := fun p hp => List.mem_append_right _ hp
  have ux2 : ∀ p ∈ T1 ++ R, p ∈ T2 ++ R := fun p hp => by rw [hT2, List.append_assoc]; exact List.mem_append_right _ hp
  clear N3' Bc
  have msl2 := ux2 _ msl
  have hL3 : LettersIn w.params (T2 ++ R) vs2 us2 := by rw [hT2, List.append_assoc]; exact hL2
  have eg := law_gone (vu := g.vu) S.sub S.low hd2
  have el := law_left (vu := g.vu) S.sub S.low hd2
  obtain ⟨asc2, low2, len2, nle, nge⟩ := law_asc S.low S.asc hd2 S.nu1
  have hvs2 : vs2.length ≤ 500 := by have := S.hlen; have := S.hL.length; have := hL3.length; omega
  have hv500 : g.vu.length ≤ 500 := by have := S.lenv; omega
  refine wpAny_execs_cons (st3 (sc := _) rfl B F3 X T hdp hu rfl NT2 (.tail _ (.tail _ (.tail _ (.tail _ (.tail _ (.tail _ (.tail _ (.tail _ (.tail _ (.tail _ (.tail _ (.head _)))))))))))) S.dL (.tail _ (.tail _ (.tail _ (.tail _ (.head _))))) dS1 (.tail _ (.tail _ (.tail _ (.tail _ (.tail _ (.tail _ (.tail _ (.tail _ (.tail _ (.tail _ (.tail _ (.tail _ (.tail _ (mid_mem _ (up2 _ S.hlf))))))))))))))) S.il hv500 (.tail _ (.tail _ (.tail _ (.tail _ (.tail _ (.tail _ (.tail _ (.tail _ (.tail _ (.tail _ (.tail _ (.tail _ (.tail _ (mid_mem _ (msl2))))))))))))))) ?_)
  intro gl gs0 ng h4 w4 F4 N4 fr4 ig
  have N4' : News h₀ L h4 ((ad.pa, listOf [.ref ad.ca, .int (g.k + 1 + 1 + 1) tk3, .int g.z g.tz].toArray g.ep) :: (ad.bd, dictOf (boxD w.params g.k0 g.k1 g.k2 g.k3 g.k4 g.k5 g.k6 g.nm g.vd (.int nu2 tn2) (.int tp2 tt2) g.fl la1 ga1) 7) :: (la1, listOf (List.toArray vs2) e2) :: (ga1, listOf (List.toArray gs1) eg1) :: (L + 1 + 1, oS1) :: (ad.d1, dictOf (viewD w.params g.q0 g.q1 g.q2 g.q3 g.q4 g.q5 g.q6 ad.bx false false false g.ul1 ad.f1 ad.m1) 7) :: (ad.f1, g.o1) :: (ad.m1, g.o2) :: (ad.d2, dictOf (viewD w.params g.p0 g.p1 g.p2 g.p3 g.p4 g.p5 g.p6 ad.bx false true true g.ul2 ad.f2 ad.m2) 7) :: (ad.f2, g.o3) :: (ad.m2, g.o4) :: (L + 1, g.oL) :: (L + 1 + 1 + 1 + 1, g.oV) :: ([(gl, listOf (List.toArray gs0) ng)] ++ (T2 ++ (X0 ++ R)))) := news_back [(gl, listOf (List.toArray gs0) ng)] [(ad.pa, listOf [.ref ad.ca, .int (g.k + 1 + 1 + 1) tk3, .int g.z g.tz].toArray g.ep), (ad.bd, dictOf (boxD w.params g.k0 g.k1 g.k2 g.k3 g.k4 g.k5 g.k6 g.nm g.vd (.int nu2 tn2) (.int tp2 tt2) g.fl la1 ga1) 7), (la1, listOf (List.toArray vs2) e2), (ga1, listOf (List.toArray gs1) eg1), (L + 1 + 1, oS1), (ad.d1, dictOf (viewD w.params g.q0 g.q1 g.q2 g.q3 g.q4 g.q5 g.q6 ad.bx false false false g.ul1 ad.f1 ad.m1) 7), (ad.f1, g.o1), (ad.m1, g.o2), (ad.d2, dictOf (viewD w.params g.p0 g.p1 g.p2 g.p3 g.p4 g.p5 g.p6 ad.bx false true true g.ul2 ad.f2 ad.m2) 7), (ad.f2, g.o3), (ad.m2, g.o4), (L + 1, g.oL), (L + 1 + 1 + 1 + 1, g.oV)] (T2 ++ (X0 ++ R)) N4
  clear N4 NT2
  obtain ⟨T3, hT3⟩ : ∃ z : List (Addr × Obj), z = [(gl, listOf (List.toArray gs0) ng)] ++ T2 := ⟨_, rfl⟩
  have NT3 : News h₀ L h4 ((ad.pa, listOf [.ref ad.ca, .int (g.k + 1 + 1 + 1) tk3, .int g.z g.tz].toArray g.ep) :: (ad.bd, dictOf (boxD w.params g.k0 g.k1 g.k2 g.k3 g.k4 g.k5 g.k6 g.nm g.vd (.int nu2 tn2) (.int tp2 tt2) g.fl la1 ga1) 7) :: (la1, listOf (List.toArray vs2) e2) :: (ga1, listOf (List.toArray gs1) eg1) :: (L + 1 + 1, oS1) :: (ad.d1, dictOf (viewD w.params g.q0 g.q1 g.q2 g.q3 g.q4 g.q5 g.q6 ad.bx false false false g.ul1 ad.f1 ad.m1) 7) :: (ad.f1, g.o1) :: (ad.m1, g.o2) :: (ad.d2, dictOf (viewD w.params g.p0 g.p1 g.p2 g.p3 g.p4 g.p5 g.p6 ad.bx false true true g.ul2 ad.f2 ad.m2) 7) :: (ad.f2, g.o3) :: (ad.m2, g.o4) :: (L + 1, g.oL) :: (L + 1 + 1 + 1 + 1, g.oV) :: (T3 ++ (X0 ++ R))) := by rw [hT3, List.append_assoc]; exact N4'
  have AT3 : ApartN 13 ((ad.pa, listOf [.ref ad.ca, .int (g.k + 1 + 1 + 1) tk3, .int g.z g.tz].toArray g.ep) :: (ad.bd, dictOf (boxD w.params g.k0 g.k1 g.k2 g.k3 g.k4 g.k5 g.k6 g.nm g.vd (.int nu2 tn2) (.int tp2 tt2) g.fl la1 ga1) 7) :: (la1, listOf (List.toArray vs2) e2) :: (ga1, listOf (List.toArray gs1) eg1) :: (L + 1 + 1, oS1) :: (ad.d1, dictOf (viewD w.params g.q0 g.q1 g.q2 g.q3 g.q4 g.q5 g.q6 ad.bx false false false g.ul1 ad.f1 ad.m1) 7) :: (ad.f1, g.o1) :: (ad.m1, g.o2) :: (ad.d2, dictOf (viewD w.params g.p0 g.p1 g.p2 g.p3 g.p4 g.p5 g.p6 ad.bx false true true g.ul2 ad.f2 ad.m2) 7) :: (ad.f2, g.o3) :: (ad.m2, g.o4) :: (L + 1, g.oL) :: (L + 1 + 1 + 1 + 1, g.oV) :: (T3 ++ (X0 ++ R))) := by rw [hT3, List.append_assoc]; exact ApartN.congr (n := 13) (l := [(ad.pa, listOf [.ref ad.ca, .int (g.k + 1 + 1 + 1) tk3, .int g.z g.tz].toArray g.ep), (ad.bd, dictOf (boxD w.params g.k0 g.k1 g.k2 g.k3 g.k4 g.k5 g.k6 g.nm g.vd (.int nu2 tn2) (.int tp2 tt2) g.fl la1 ga1) 7), (la1, listOf (List.toArray vs2) e2), (ga1, listOf (List.toArray gs1) eg1), (L + 1 + 1, oS1), (ad.d1, dictOf (viewD w.params g.q0 g.q1 g.q2 g.q3 g.q4 g.q5 g.q6 ad.bx false false false g.ul1 ad.f1 ad.m1) 7), (ad.f1, g.o1), (ad.m1, g.o2), (ad.d2, dictOf (viewD w.params g.p0 g.p1 g.p2 g.p3 g.p4 g.p5 g.p6 ad.bx false true true g.ul2 ad.f2 ad.m2) 7), (ad.f2, g.o3), (ad.m2, g.o4), (L + 1, g.oL), (L + 1 + 1 + 1 + 1, g.oV)] ++ ([(gl, listOf (List.toArray gs0) ng)] ++ (T2 ++ (X0 ++ R)))) rfl (ApartN.grow (n := 13) (hd := [(ad.pa, listOf [.ref ad.ca, .int (g.k + 1 + 1 + 1) tk3, .int g.z g.tz].toArray g.ep), (ad.bd, dictOf (boxD w.params g.k0 g.k1 g.k2 g.k3 g.k4 g.k5 g.k6 g.nm g.vd (.int nu2 tn2) (.int tp2 tt2) g.fl la1 ga1) 7), (la1, listOf (List.toArray vs2) e2), (ga1, listOf (List.toArray gs1) eg1), (L + 1 + 1, oS1), (ad.d1, dictOf (viewD w.params g.q0 g.q1 g.q2 g.q3 g.q4 g.q5 g.q6 ad.bx false false false g.ul1 ad.f1 ad.m1) 7), (ad.f1, g.o1), (ad.m1, g.o2), (ad.d2, dictOf (viewD w.params g.p0 g.p1 g.p2 g.p3 g.p4 g.p5 g.p6 ad.bx false true true g.ul2 ad.f2 ad.m2) 7), (ad.f2, g.o3), (ad.m2, g.o4), (L + 1, g.oL), (L + 1 + 1 + 1 + 1, g.oV)]) (tl := [(gl, listOf (List.toArray gs0) ng)]) (r := (T2 ++ (X0 ++ R))) rfl AT2 (fun p hp q hq => by rw [List.mem_singleton.mp hp]; exact (fr4 q (List.mem_append_left _ hq)).symm))
  have hX3 : ∀ p ∈ T3, ∀ q ∈ X0, p.1 ≠ q.1 := by
    rw [hT3]
    intro p hp q hq
    rcases List.mem_append.mp hp with hp | hp
    · exact by rw [List.mem_singleton.mp hp]; exact (fr4 q (.tail _ (.tail _ (.tail _ (.tail _ (.tail _ (.tail _ (.tail _ (.tail _ (.tail _ (.tail _ (.tail _ (.tail _ (.tail _ (List.mem_append_right _ (List.mem_append_left _ hq)))))))))))))))).symm
    · exact hX2 p hp q hq
  have up3 : ∀ p ∈ R, p ∈ T3 ++ R := fun p hp => List.mem_append_right _ hp
  have ux3 : ∀ p ∈ T2 ++ R, p ∈ T3 ++ R := fun p hp => by rw [hT3, List.append_assoc]; exact List.mem_append_right _ hp
  clear N4' AT2
  have mgl : (gl, listOf (List.toArray gs0) ng) ∈ T3 ++ R := by rw [hT3]; exact .head _
  have msl3 := ux3 _ msl2
  refine wpAny_execs_cons (st4 (sc := _) rfl B F4 X T hdp hu rfl NT3 (.tail _ (.tail _ (.tail _ (.tail _ (.tail _ (.tail _ (.tail _ (.tail _ (.tail _ (.tail _ (.tail _ (.head _)))))))))))) S.dL (.tail _ (.tail _ (.tail _ (.tail _ (.head _))))) dS1 (.tail _ (.tail _ (.tail _ (.tail _ (.tail _ (.tail _ (.tail _ (.tail _ (.tail _ (.tail _ (.tail _ (.tail _ (.tail _ (mid_mem _ (up3 _ S.hlf))))))))))))))) S.il hv500 (.tail _ (.tail _ (.tail _ (.tail _ (.tail _ (.tail _ (.tail _ (.tail _ (.tail _ (.tail _ (.tail _ (.tail _ (.tail _ (mid_mem _ (msl3))))))))))))))) ?_)
  intro rl rs nr h5 w5 F5 N5 fr5 ir
  have N5' : News h₀ L h5 ((ad.pa, listOf [.ref ad.ca, .int (g.k + 1 + 1 + 1) tk3, .int g.z g.tz].toArray g.ep) :: (ad.bd, dictOf (boxD w.params g.k0 g.k1 g.k2 g.k3 g.k4 g.k5 g.k6 g.nm g.vd (.int nu2 tn2) (.int tp2 tt2) g.fl la1 ga1) 7) :: (la1, listOf (List.toArray vs2) e2) :: (ga1, listOf (List.toArray gs1) eg1) :: (L + 1 + 1, oS1) :: (ad.d1, dictOf (viewD w.params g.q0 g.q1 g.q2 g.q3 g.q4 g.q5 g.q6 ad.bx false false false g.ul1 ad.f1 ad.m1) 7) :: (ad.f1, g.o1) :: (ad.m1, g.o2) :: (ad.d2, dictOf (viewD w.params g.p0 g.p1 g.p2 g.p3 g.p4 g.p5 g.p6 ad.bx false true true g.ul2 ad.f2 ad.m2) 7) :: (ad.f2, g.o3) :: (ad.m2, g.o4) :: (L + 1, g.oL) :: (L + 1 + 1 + 1 + 1, g.oV) :: ([(rl, listOf (List.toArray rs) nr)] ++ (T3 ++ (X0 ++ R)))) := news_back [(rl, listOf (List.toArray rs) nr)] [(ad.pa, listOf [.ref ad.ca, .int (g.k + 1 + 1 + 1) tk3, .int g.z g.tz].toArray g.ep), (ad.bd, dictOf (boxD w.params g.k0 g.k1 g.k2 g.k3 g.k4 g.k5 g.k6 g.nm g.vd (.int nu2 tn2) (.int tp2 tt2) g.fl la1 ga1) 7), (la1, listOf (List.toArray vs2) e2), (ga1, listOf (List.toArray gs1) eg1), (L + 1 + 1, oS1), (ad.d1, dictOf (viewD w.params g.q0 g.q1 g.q2 g.q3 g.q4 g.q5 g.q6 ad.bx false false false g.ul1 ad.f1 ad.m1) 7), (ad.f1, g.o1), (ad.m1, g.o2), (ad.d2, dictOf (viewD w.params g.p0 g.p1 g.p2 g.p3 g.p4 g.p5 g.p6 ad.bx false true true g.ul2 ad.f2 ad.m2) 7), (ad.f2, g.o3), (ad.m2, g.o4), (L + 1, g.oL), (L + 1 + 1 + 1 + 1, g.oV)] (T3 ++ (X0 ++ R)) N5
  clear N5 NT3
  obtain ⟨T4, hT4⟩ : ∃ z : List (Addr × Obj), z = [(rl, listOf (List.toArray rs) nr)] ++ T3 := ⟨_, rfl⟩
  have NT4 : News h₀ L h5 ((ad.pa, listOf [.ref ad.ca, .int (g.k + 1 + 1 + 1) tk3, .int g.z g.tz].toArray g.ep) :: (ad.bd, dictOf (boxD w.params g.k0 g.k1 g.k2 g.k3 g.k4 g.k5 g.k6 g.nm g.vd (.int nu2 tn2) (.int tp2 tt2) g.fl la1 ga1) 7) :: (la1, listOf (List.toArray vs2) e2) :: (ga1, listOf (List.toArray gs1) eg1) :: (L + 1 + 1, oS1) :: (ad.d1, dictOf (viewD w.params g.q0 g.q1 g.q2 g.q3 g.q4 g.q5 g.q6 ad.bx false false false g.ul1 ad.f1 ad.m1) 7) :: (ad.f1, g.o1) :: (ad.m1, g.o2) :: (ad.d2, dictOf (viewD w.params g.p0 g.p1 g.p2 g.p3 g.p4 g.p5 g.p6 ad.bx false true true g.ul2 ad.f2 ad.m2) 7) :: (ad.f2, g.o3) :: (ad.m2, g.o4) :: (L + 1, g.oL) :: (L + 1 + 1 + 1 + 1, g.oV) :: (T4 ++ (X0 ++ R))) := by rw [hT4, List.append_assoc]; exact N5'
  have AT4 : ApartN 13 ((ad.pa, listOf [.ref ad.ca, .int (g.k + 1 + 1 + 1) tk3, .int g.z g.tz].toArray g.ep) :: (ad.bd, dictOf (boxD w.params g.k0 g.k1 g.k2 g.k3 g.k4 g.k5 g.k6 g.nm g.vd (.int nu2 tn2) (.int tp2 tt2) g.fl la1 ga1) 7) :: (la1, listOf (List.toArray vs2) e2) :: (ga1, listOf (List.toArray gs1) eg1) :: (L + 1 + 1, oS1) :: (ad.d1, dictOf (viewD w.params g.q0 g.q1 g.q2 g.q3 g.q4 g.q5 g.q6 ad.bx false false false g.ul1 ad.f1 ad.m1) 7) :: (ad.f1, g.o1) :: (ad.m1, g.o2) :: (ad.d2, dictOf (viewD w.params g.p0 g.p1 g.p2 g.p3 g.p4 g.p5 g.p6 ad.bx false true true g.ul2 ad.f2 ad.m2) 7) :: (ad.f2, g.o3) :: (ad.m2, g.o4) :: (L + 1, g.oL) :: (L + 1 + 1 + 1 + 1, g.oV) :: (T4 ++ (X0 ++ R))) := by rw [hT4, List.append_assoc]; exact ApartN.congr (n := 13) (l := [(ad.pa, listOf [.ref ad.ca, .int (g.k + 1 + 1 + 1) tk3, .int g.z g.tz].toArray g.ep), (ad.bd, dictOf (boxD w.params g.k0 g.k1 g.k2 g.k3 g.k4 g.k5 g.k6 g.nm g.vd (.int nu2 tn2) (.int tp2 tt2) g.fl la1 ga1) 7), (la1, listOf (List.toArray vs2) e2), (ga1, listOf (List.toArray gs1) eg1), (L + 1 + 1, oS1), (ad.d1, dictOf (viewD w.params g.q0 g.q1 g.q2 g.q3 g.q4 g.q5 g.q6 ad.bx false false false g.ul1 ad.f1 ad.m1) 7), (ad.f1, g.o1), (ad.m1, g.o2), (ad.d2, dictOf (viewD w.params g.p0 g.p1 g.p2 g.p3 g.p4 g.p5 g.p6 ad.bx false true true g.ul2 ad.f2 ad.m2) 7), (ad.f2, g.o3), (ad.m2, g.o4), (L + 1, g.oL), (L + 1 + 1 + 1 + 1, g.oV)] ++ ([(rl, listOf (List.toArray rs) nr)] ++ (T3 ++ (X0 ++ R)))) rfl (ApartN.grow (n := 13) (hd := [(ad.pa, listOf [.ref ad.ca, .int (g.k + 1 + 1 + 1) tk3, .int g.z g.tz].toArray g.ep), (ad.bd, dictOf (boxD w.params g.k0 g.k1 g.k2 g.k3 g.k4 g.k5 g.k6 g.nm g.vd (.int nu2 tn2) (.int tp2 tt2) g.fl la1 ga1) 7), (la1, listOf (List.toArray vs2) e2), (ga1, listOf (List.toArray gs1) eg1), (L + 1 + 1, oS1), (ad.d1, dictOf (viewD w.params g.q0 g.q1 g.q2 g.q3 g.q4 g.q5 g.q6 ad.bx false false false g.ul1 ad.f1 ad.m1) 7), (ad.f1, g.o1), (ad.m1, g.o2), (ad.d2, dictOf (viewD w.params g.p0 g.p1 g.p2 g.p3 g.p4 g.p5 g.p6 ad.bx false true true g.ul2 ad.f2 ad.m2) 7), (ad.f2, g.o3), (ad.m2, g.o4), (L + 1, g.oL), (L + 1 + 1 + 1 + 1, g.oV)]) (tl := [(rl, listOf (List.toArray rs) nr)]) (r := (T3 ++ (X0 ++ R))) rfl AT3 (fun p hp q hq => by rw [List.mem_singleton.mp hp]; exact (fr5 q (List.mem_append_left _ hq)).symm))
  have hX4 : ∀ p ∈ T4, ∀ q ∈ X0, p.1 ≠ q.1 := by
    rw [hT4]
    intro p hp q hq
    rcases List.mem_append.mp hp with hp | hp
    · exact by rw [List.mem_singleton.mp hp]; exact (fr5 q (.tail _ (.tail _ (.tail _ (.tail _ (.tail _ (.tail _ (.tail _ (.tail _ (.tail _ (.tail _ (.tail _ (.tail _ (.tail _ (List.mem_append_right _ (List.mem_append_left _ hq)))))))))))))))).symm
    · exact hX3 p hp q hq
  have up4 : ∀ p ∈ R, p ∈ T4 ++ R := fun p hp => List.mem_append_right _ hp
  have ux4 : ∀ p ∈ T3 ++ R, p ∈ T4 ++ R := fun p hp => by rw [hT4, List.append_assoc]; exact List.mem_append_right _ hp
  clear N5' AT3
  have mrl : (rl, listOf (List.toArray rs) nr) ∈ T4 ++ R := by rw [hT4]; exact .head _
  have mgl4 := ux4 _ mgl
  have hL4 := hL3.more fun p hp => ux4 p (ux3 p hp)
  refine wpAny_execs_cons (st5 (sc := _) rfl B F5 X T hdp hu rfl NT4 (by walk_at "look") (by walk_at "look") (.tail _ (.tail _ (.tail _ (.tail _ (.tail _ (.tail _ (.tail _ (.tail _ (.tail _ (.tail _ (.tail _ (.tail _ (.tail _ (mid_mem _ (up4 _ S.hvl))))))))))))))) (.tail _ (.tail _ (.tail _ (.tail _ (.tail _ (.tail _ (.tail _ (.tail _ (.tail _ (.tail _ (.tail _ (.tail _ (.tail _ (mid_mem _ (up4 _ S.hbx))))))))))))))) (.tail _ (.head _)) (.tail _ (.tail _ (.head _))) (hL4.more (fun p hp => .tail _ (.tail _ (.tail _ (.tail _ (.tail _ (.tail _ (.tail _ (.tail _ (.tail _ (.tail _ (.tail _ (.tail _ (.tail _ (mid_mem p hp))))))))))))))) (asc_nodup asc2) (by omega) hv500 (.tail _ (.tail _ (.tail _ (.tail _ (.tail _ (.tail _ (.tail _ (.tail _ (.tail _ (.tail _ (.tail _ (.tail _ (.tail _ (mid_mem _ (up4 _ S.hv1))))))))))))))) (.tail _ (.tail _ (.tail _ (.tail _ (.tail _ (.head _)))))) (.tail _ (.tail _ (.tail _ (.tail _ (.tail _ (.tail _ (.tail _ (.tail _ (.tail _ (.tail _ (.tail _ (.tail _ (.tail _ (mid_mem _ (up4 _ S.hu1))))))))))))))) S.i1 (.tail _ (.tail _ (.tail _ (.tail _ (.tail _ (.tail _ (.tail _ (.tail _ (.tail _ (.tail _ (.tail _ (.tail _ (.tail _ (mid_mem _ (up4 _ S.hv2))))))))))))))) (.tail _ (.tail _ (.tail _ (.tail _ (.tail _ (.tail _ (.tail _ (.tail _ (.head _))))))))) (.tail _ (.tail _ (.tail _ (.tail _ (.tail _ (.tail _ (.tail _ (.tail _ (.tail _ (.tail _ (.tail _ (.tail _ (.tail _ (mid_mem _ (up4 _ S.hu2))))))))))))))) S.i2 (.tail _ (.tail _ (.tail _ (.tail _ (.tail _ (.tail _ (.tail _ (.tail _ (.tail _ (.tail _ (.tail _ (.tail _ (.tail _ (mid_mem _ (mgl4))))))))))))))) (by rw [eg]; exact ig) ?_)
  intro h6 w6 F6 N6
  clear NT4
  have Mg : News h₀ L h6 ((ad.d1, dictOf (viewD w.params g.q0 g.q1 g.q2 g.q3 g.q4 g.q5 g.q6 ad.bx false false false g.ul1 ad.f1 ad.m1) 7) :: (ad.f1, g.o1) :: (ad.m1, g.o2) :: (ad.d2, dictOf (viewD w.params g.p0 g.p1 g.p2 g.p3 g.p4 g.p5 g.p6 ad.bx false true true g.ul2 ad.f2 ad.m2) 7) :: (ad.f2, g.o3) :: (ad.m2, g.o4) :: (ad.pa, listOf [.ref ad.ca, .int (g.k + 1 + 1 + 1) tk3, .int g.z g.tz].toArray g.ep) :: (ad.bd, dictOf (boxD w.params g.k0 g.k1 g.k2 g.k3 g.k4 g.k5 g.k6 g.nm g.vd (.int nu2 tn2) (.int tp2 tt2) g.fl la1 ga1) 7) :: (la1, listOf (List.toArray vs2) e2) :: (ga1, listOf (List.toArray gs1) eg1) :: (L + 1 + 1, oS1) :: (L + 1, g.oL) :: (L + 1 + 1 + 1 + 1, g.oV) :: (T4 ++ (X0 ++ R))) := news_pick 10 rfl (news_pick 10 rfl (news_pick 10 rfl (news_pick 10 rfl (news_pick 10 rfl (news_pick 10 rfl (N6))))))
  have Bg : ApartN 13 ((ad.d1, dictOf (viewD w.params g.q0 g.q1 g.q2 g.q3 g.q4 g.q5 g.q6 ad.bx false false false g.ul1 ad.f1 ad.m1) 7) :: (ad.f1, g.o1) :: (ad.m1, g.o2) :: (ad.d2, dictOf (viewD w.params g.p0 g.p1 g.p2 g.p3 g.p4 g.p5 g.p6 ad.bx false true true g.ul2 ad.f2 ad.m2) 7) :: (ad.f2, g.o3) :: (ad.m2, g.o4) :: (ad.pa, listOf [.ref ad.ca, .int (g.k + 1 + 1 + 1) tk3, .int g.z g.tz].toArray g.ep) :: (ad.bd, dictOf (boxD w.params g.k0 g.k1 g.k2 g.k3 g.k4 g.k5 g.k6 g.nm g.vd (.int nu2 tn2) (.int tp2 tt2) g.fl la1 ga1) 7) :: (la1, listOf (List.toArray vs2) e2) :: (ga1, listOf (List.toArray gs1) eg1) :: (L + 1 + 1, oS1) :: (L + 1, g.oL) :: (L + 1 + 1 + 1 + 1, g.oV) :: (T4 ++ (X0 ++ R))) := ((((((AT4).pick 10 rfl (by decide)).pick 10 rfl (by decide)).pick 10 rfl (by decide)).pick 10 rfl (by decide)).pick 10 rfl (by decide)).pick 10 rfl (by decide)
  clear N6 AT4
  refine wpAny_execs_cons (st6 (sc := _) rfl B F6 X T hdp hu rfl Mg (Bg.mono (by decide)) (by walk_at "look") (.tail _ (.tail _ (.tail _ (.tail _ (.tail _ (.tail _ (.tail _ (mid_mem _ (up4 _ S.hvl))))))))) (.tail _ (.tail _ (.tail _ (.tail _ (.tail _ (.tail _ (.tail _ (mid_mem _ (up4 _ S.hbx))))))))) (.tail _ (.head _)) (.tail _ (.tail _ (.head _))) (hL4.more (fun p hp => .tail _ (.tail _ (.tail _ (.tail _ (.tail _ (.tail _ (.tail _ (mid_mem p hp))))))))) (asc_nodup asc2) hvs2 hv500 S.ascv (.tail _ (.tail _ (.tail _ (.tail _ (.tail _ (.tail _ (.tail _ (mid_mem _ (up4 _ S.hv1))))))))) (.tail _ (.tail _ (.tail _ (.tail _ (.tail _ (.tail _ (.tail _ (mid_mem _ (up4 _ S.hu1))))))))) S.i1 (.tail _ (.tail _ (.tail _ (.tail _ (.tail _ (.tail _ (.tail _ (mid_mem _ (up4 _ S.hv2))))))))) (.tail _ (.tail _ (.tail _ (.tail _ (.tail _ (.tail _ (.tail _ (mid_mem _ (up4 _ S.hu2))))))))) S.i2 S.D1 S.D2 S.D3 S.D4 S.E1 S.E2 S.E3 S.E4 ?_)
  intro ta tb as1 as2 ea1 ea2 ks ul1a ul2a zs1 zs2 z1 z2 o1a o2a o3a o4a kf1a km1a kf2a km2a tl6 h7 w7 F7 N7 fr7 mu1 mu2 iz1 iz2 D1a D2a D3a D4a E1a E2a E3a E4a mta mtb tn td1 td2
  rw [eg] at tn td2
  rw [el] at iz1 iz2 E1a E2a E3a E4a
  have N7' : News h₀ L h7 ((ad.d1, dictOf (viewD w.params g.q0 g.q1 g.q2 g.q3 g.q4 g.q5 g.q6 ad.bx false false false ul1a ad.f1 ad.m1) 7) :: (ad.f1, o1a) :: (ad.m1, o2a) :: (ad.d2, dictOf (viewD w.params g.p0 g.p1 g.p2 g.p3 g.p4 g.p5 g.p6 ad.bx false true true ul2a ad.f2 ad.m2) 7) :: (ad.f2, o3a) :: (ad.m2, o4a) :: (ad.pa, listOf [.ref ad.ca, .int (g.k + 1 + 1 + 1) tk3, .int g.z g.tz].toArray g.ep) :: (ad.bd, dictOf (boxD w.params g.k0 g.k1 g.k2 g.k3 g.k4 g.k5 g.k6 g.nm g.vd (.int nu2 tn2) (.int tp2 tt2) g.fl la1 ga1) 7) :: (la1, listOf (List.toArray vs2) e2) :: (ga1, listOf (List.toArray gs1) eg1) :: (L + 1 + 1, oS1) :: (L + 1, g.oL) :: (L + 1 + 1 + 1 + 1, g.oV) :: (tl6 ++ (T4 ++ (X0 ++ R)))) := news_mid [(ad.d1, dictOf (viewD w.params g.q0 g.q1 g.q2 g.q3 g.q4 g.q5 g.q6 ad.bx false false false ul1a ad.f1 ad.m1) 7), (ad.f1, o1a), (ad.m1, o2a), (ad.d2, dictOf (viewD w.params g.p0 g.p1 g.p2 g.p3 g.p4 g.p5 g.p6 ad.bx false true true ul2a ad.f2 ad.m2) 7), (ad.f2, o3a), (ad.m2, o4a)] tl6 [(ad.pa, listOf [.ref ad.ca, .int (g.k + 1 + 1 + 1) tk3, .int g.z g.tz].toArray g.ep), (ad.bd, dictOf (boxD w.params g.k0 g.k1 g.k2 g.k3 g.k4 g.k5 g.k6 g.nm g.vd (.int nu2 tn2) (.int tp2 tt2) g.fl la1 ga1) 7), (la1, listOf (List.toArray vs2) e2), (ga1, listOf (List.toArray gs1) eg1), (L + 1 + 1, oS1), (L + 1, g.oL), (L + 1 + 1 + 1 + 1, g.oV)] (T4 ++ (X0 ++ R)) N7
  clear N7 Mg
  obtain ⟨T5, hT5⟩ : ∃ z : List (Addr × Obj), z = tl6 ++ T4 := ⟨_, rfl⟩
  have NT5 : News h₀ L h7 ((ad.d1, dictOf (viewD w.params g.q0 g.q1 g.q2 g.q3 g.q4 g.q5 g.q6 ad.bx false false false ul1a ad.f1 ad.m1) 7) :: (ad.f1, o1a) :: (ad.m1, o2a) :: (ad.d2, dictOf (viewD w.params g.p0 g.p1 g.p2 g.p3 g.p4 g.p5 g.p6 ad.bx false true true ul2a ad.f2 ad.m2) 7) :: (ad.f2, o3a) :: (ad.m2, o4a) :: (ad.pa, listOf [.ref ad.ca, .int (g.k + 1 + 1 + 1) tk3, .int g.z g.tz].toArray g.ep) :: (ad.bd, dictOf (boxD w.params g.k0 g.k1 g.k2 g.k3 g.k4 g.k5 g.k6 g.nm g.vd (.int nu2 tn2) (.int tp2 tt2) g.fl la1 ga1) 7) :: (la1, listOf (List.toArray vs2) e2) :: (ga1, listOf (List.toArray gs1) eg1) :: (L + 1 + 1, oS1) :: (L + 1, g.oL) :: (L + 1 + 1 + 1 + 1, g.oV) :: (T5 ++ (X0 ++ R))) := by rw [hT5, List.append_assoc]; exact N7'
  have AT5 : ApartN 13 ((ad.d1, dictOf (viewD w.params g.q0 g.q1 g.q2 g.q3 g.q4 g.q5 g.q6 ad.bx false false false ul1a ad.f1 ad.m1) 7) :: (ad.f1, o1a) :: (ad.m1, o2a) :: (ad.d2, dictOf (viewD w.params g.p0 g.p1 g.p2 g.p3 g.p4 g.p5 g.p6 ad.bx false true true ul2a ad.f2 ad.m2) 7) :: (ad.f2, o3a) :: (ad.m2, o4a) :: (ad.pa, listOf [.ref ad.ca, .int (g.k + 1 + 1 + 1) tk3, .int g.z g.tz].toArray g.ep) :: (ad.bd, dictOf (boxD w.params g.k0 g.k1 g.k2 g.k3 g.k4 g.k5 g.k6 g.nm g.vd (.int nu2 tn2) (.int tp2 tt2) g.fl la1 ga1) 7) :: (la1, listOf (List.toArray vs2) e2) :: (ga1, listOf (List.toArray gs1) eg1) :: (L + 1 + 1, oS1) :: (L + 1, g.oL) :: (L + 1 + 1 + 1 + 1, g.oV) :: (T5 ++ (X0 ++ R))) := by rw [hT5, List.append_assoc]; exact ApartN.congr (n := 13) (l := [(ad.d1, dictOf (viewD w.params g.q0 g.q1 g.q2 g.q3 g.q4 g.q5 g.q6 ad.bx false false false g.ul1 ad.f1 ad.m1) 7), (ad.f1, g.o1), (ad.m1, g.o2), (ad.d2, dictOf (viewD w.params g.p0 g.p1 g.p2 g.p3 g.p4 g.p5 g.p6 ad.bx false true true g.ul2 ad.f2 ad.m2) 7), (ad.f2, g.o3), (ad.m2, g.o4), (ad.pa, listOf [.ref ad.ca, .int (g.k + 1 + 1 + 1) tk3, .int g.z g.tz].toArray g.ep), (ad.bd, dictOf (boxD w.params g.k0 g.k1 g.k2 g.k3 g.k4 g.k5 g.k6 g.nm g.vd (.int nu2 tn2) (.int tp2 tt2) g.fl la1 ga1) 7), (la1, listOf (List.toArray vs2) e2), (ga1, listOf (List.toArray gs1) eg1), (L + 1 + 1, oS1), (L + 1, g.oL), (L + 1 + 1 + 1 + 1, g.oV)] ++ (tl6 ++ (T4 ++ (X0 ++ R)))) rfl (ApartN.grow (n := 13) (hd := [(ad.d1, dictOf (viewD w.params g.q0 g.q1 g.q2 g.q3 g.q4 g.q5 g.q6 ad.bx false false false g.ul1 ad.f1 ad.m1) 7), (ad.f1, g.o1), (ad.m1, g.o2), (ad.d2, dictOf (viewD w.params g.p0 g.p1 g.p2 g.p3 g.p4 g.p5 g.p6 ad.bx false true true g.ul2 ad.f2 ad.m2) 7), (ad.f2, g.o3), (ad.m2, g.o4), (ad.pa, listOf [.ref ad.ca, .int (g.k + 1 + 1 + 1) tk3, .int g.z g.tz].toArray g.ep), (ad.bd, dictOf (boxD w.params g.k0 g.k1 g.k2 g.k3 g.k4 g.k5 g.k6 g.nm g.vd (.int nu2 tn2) (.int tp2 tt2) g.fl la1 ga1) 7), (la1, listOf (List.toArray vs2) e2), (ga1, listOf (List.toArray gs1) eg1), (L + 1 + 1, oS1), (L + 1, g.oL), (L + 1 + 1 + 1 + 1, g.oV)]) (tl := tl6) (r := (T4 ++ (X0 ++ R))) rfl Bg (fun p hp q hq => fr7 p hp q (List.mem_append_left _ hq)))
  have hX5 : ∀ p ∈ T5, ∀ q ∈ X0, p.1 ≠ q.1 := by
    rw [hT5]
    intro p hp q hq
    rcases List.mem_append.mp hp with hp | hp
    · exact fr7 p hp q (.tail _ (.tail _ (.tail _ (.tail _ (.tail _ (.tail _ (.tail _ (.tail _ (.tail _ (.tail _ (.tail _ (.tail _ (.tail _ (List.mem_append_right _ (List.mem_append_left _ hq)))))))))))))))
    · exact hX4 p hp q hq
  have up5 : ∀ p ∈ R, p ∈ T5 ++ R := fun p hp => List.mem_append_right _ hp
  have ux5 : ∀ p ∈ T4 ++ R, p ∈ T5 ++ R := fun p hp => by rw [hT5, List.append_assoc]; exact List.mem_append_right _ hp
  clear N7' Bg
  have in5 : ∀ p ∈ tl6, p ∈ T5 ++ R := fun p hp => by rw [hT5]; exact List.mem_append_left _ (List.mem_append_left _ hp)
  have mu1' : (ul1a, listOf (List.toArray zs1) z1) ∈ T5 ++ R := by
    rcases List.mem_cons.mp mu1 with h | h
    · rw [h]; exact up5 _ S.hu1
    · exact in5 _ h
  have mu2' : (ul2a, listOf (List.toArray zs2) z2) ∈ T5 ++ R := by
    rcases List.mem_cons.mp mu2 with h | h
    · rw [h]; exact up5 _ S.hu2
    · exact in5 _ h
  have mgl5 := ux5 _ mgl4
  have mrl5 := ux5 _ mrl
  have hL5 := hL4.more ux5
  refine wpAny_execs_cons (st7 (sc := _) rfl B F7 X T hdp hu rfl NT5 (.tail _ (.tail _ (.tail _ (.tail _ (.tail _ (.tail _ (.tail _ (.tail _ (.tail _ (.tail _ (.tail _ (.head _)))))))))))) S.dL (.tail _ (.tail _ (.tail _ (.tail _ (.tail _ (.tail _ (.tail _ (.tail _ (.tail _ (.tail _ (.tail _ (.tail _ (.tail _ (mid_mem _ (up5 _ S.hlf))))))))))))))) S.il hv500 ?_)
  intro pl ps np2 h8 w8 F8 N8 _ ip
  clear NT5
  refine wpAny_execs_cons (st8 (sc := _) rfl B F8 X T hdp hu rfl N8 (by walk_at "look") (by walk_at "look") (.tail _ (.tail _ (.tail _ (.tail _ (.tail _ (.tail _ (.tail _ (.tail _ (.tail _ (.tail _ (.tail _ (.tail _ (.tail _ (.tail _ (mid_mem _ (in5 _ mta)))))))))))))))) (td1.mono (fun p hp => .tail _ (.tail _ (.tail _ (.tail _ (.tail _ (.tail _ (.tail _ (.tail _ (.tail _ (.tail _ (.tail _ (.tail _ (.tail _ (.tail _ (mid_mem p (in5 p hp))))))))))))))))) tn (.head _) ip hv500 S.ascv hE ?_)
  intro pD zs8 n8 tl8 h9 w9 m9 F9 hmp hmx N9 sb9 mpD iz8
  rw [law_plain] at iz8
  clear N8
  have x9 : ∀ {x : Str} {v : Value}, x ≠ Str.ofString "word" → x ≠ Str.ofString "number" → x ≠ Str.ofString "plain" → _ = some v → m9 x = some v := fun a b c e => (hmx _ a b c).trans e
  refine wpAny_execs_cons (st9 (sc := _) rfl B F9 X T hdp hu rfl N9 (x9 (by decide +kernel) (by decide +kernel) (by decide +kernel) (by walk_at "look")) (sb9 _ (.tail _ (.tail _ (.tail _ (.tail _ (.tail _ (.tail _ (.tail _ (.tail _ (.tail _ (.tail _ (.tail _ (.tail _ (.tail _ (.tail _ (mid_mem _ (mgl5))))))))))))))))) ig (by have := List.length_filter_le (fun u => u == x1 || u == x2) g.vu; omega) (asc_filter _ S.ascv) ?_)
  intro wl aw ew tl9 h10 w10 F10 N10 sb10 mwl dw
  clear N9
  have sc9 := fun p hp => sb10 p (sb9 p hp)
  refine wpAny_execs_cons (st10 (sc := _) rfl B F10 X T hdp hu rfl N10 (setM_ne (by decide +kernel) hmp) (setM_ne (by decide +kernel) (x9 (by decide +kernel) (by decide +kernel) (by decide +kernel) (by walk_at "look"))) (setM_ne (by decide +kernel) (x9 (by decide +kernel) (by decide +kernel) (by decide +kernel) (by walk_at "look"))) setM_eq (setM_ne (by decide +kernel) (x9 (by decide +kernel) (by decide +kernel) (by decide +kernel) (by walk_at "look"))) (setM_ne (by decide +kernel) (x9 (by decide +kernel) (by decide +kernel) (by decide +kernel) (by walk_at "look"))) (sb10 _ mpD) iz8 (sc9 _ (.tail _ (.tail _ (.tail _ (.tail _ (.tail _ (.tail _ (.tail _ (.tail _ (.tail _ (.tail _ (.tail _ (.tail _ (.tail _ (.tail _ (mid_mem _ (mrl5))))))))))))))))) ir (sc9 _ (.tail _ (.tail _ (.tail _ (.tail _ (.tail _ (.tail _ (.tail _ (.tail _ (.tail _ (.tail _ (.tail _ (.tail _ (.tail _ (.tail _ (mid_mem _ (mgl5))))))))))))))))) ig (sc9 _ (.tail _ (.tail _ (.tail _ (.tail _ (.tail _ (.tail _ (.tail _ (.tail _ (.tail _ (.tail _ (.tail _ (.tail _ (.tail _ (.tail _ (mid_mem _ (in5 _ mta))))))))))))))))) (by rw [td1.length, List.length_map, tn.length]) (sc9 _ (.tail _ (.tail _ (.tail _ (.tail _ (.tail _ (.tail _ (.tail _ (.tail _ (.tail _ (.tail _ (.tail _ (.tail _ (.tail _ (.tail _ (mid_mem _ (in5 _ mtb))))))))))))))))) td2 (fun p hp => sc9 p (.tail _ (.tail _ (.tail _ (.tail _ (.tail _ (.tail _ (.tail _ (.tail _ (.tail _ (.tail _ (.tail _ (.tail _ (.tail _ (.tail _ (mid_mem p (in5 p hp))))))))))))))))) mwl dw (fun _ h => h) (Nat.le_trans (List.length_filter_le _ _) hv500) (Nat.le_trans (List.length_filter_le _ _) hv500) ?_)
  intro h11 w11 F11 N11
  clear N10
  have N12 : News h₀ L h11 ((ad.d1, dictOf (viewD w.params g.q0 g.q1 g.q2 g.q3 g.q4 g.q5 g.q6 ad.bx false false false ul1a ad.f1 ad.m1) 7) :: (ad.f1, o1a) :: (ad.m1, o2a) :: (ad.d2, dictOf (viewD w.params g.p0 g.p1 g.p2 g.p3 g.p4 g.p5 g.p6 ad.bx false true true ul2a ad.f2 ad.m2) 7) :: (ad.f2, o3a) :: (ad.m2, o4a) :: (ad.pa, listOf [.ref ad.ca, .int (g.k + 1 + 1 + 1) tk3, .int g.z g.tz].toArray g.ep) :: (ad.bd, dictOf (boxD w.params g.k0 g.k1 g.k2 g.k3 g.k4 g.k5 g.k6 g.nm g.vd (.int nu2 tn2) (.int tp2 tt2) g.fl la1 ga1) 7) :: (la1, listOf (List.toArray vs2) e2) :: (ga1, listOf (List.toArray gs1) eg1) :: (L + 1 + 1, oS1) :: (L + 1, g.oL) :: (L + 1 + 1 + 1 + 1, g.oV) :: (T5 ++ (X0 ++ R))) := news_sub N11 fun p hp => sc9 p (.tail _ hp)
  clear N11
  have Mk : News h₀ L h11 ((L + 1, g.oL) :: (ad.d1, dictOf (viewD w.params g.q0 g.q1 g.q2 g.q3 g.q4 g.q5 g.q6 ad.bx false false false ul1a ad.f1 ad.m1) 7) :: (ad.f1, o1a) :: (ad.m1, o2a) :: (ad.d2, dictOf (viewD w.params g.p0 g.p1 g.p2 g.p3 g.p4 g.p5 g.p6 ad.bx false true true ul2a ad.f2 ad.m2) 7) :: (ad.f2, o3a) :: (ad.m2, o4a) :: (ad.pa, listOf [.ref ad.ca, .int (g.k + 1 + 1 + 1) tk3, .int g.z g.tz].toArray g.ep) :: (ad.bd, dictOf (boxD w.params g.k0 g.k1 g.k2 g.k3 g.k4 g.k5 g.k6 g.nm g.vd (.int nu2 tn2) (.int tp2 tt2) g.fl la1 ga1) 7) :: (la1, listOf (List.toArray vs2) e2) :: (ga1, listOf (List.toArray gs1) eg1) :: (L + 1 + 1, oS1) :: (L + 1 + 1 + 1 + 1, g.oV) :: (T5 ++ (X0 ++ R))) := news_pick 11 rfl (N12)
  have Bk : ApartN 13 ((L + 1, g.oL) :: (ad.d1, dictOf (viewD w.params g.q0 g.q1 g.q2 g.q3 g.q4 g.q5 g.q6 ad.bx false false false ul1a ad.f1 ad.m1) 7) :: (ad.f1, o1a) :: (ad.m1, o2a) :: (ad.d2, dictOf (viewD w.params g.p0 g.p1 g.p2 g.p3 g.p4 g.p5 g.p6 ad.bx false true true ul2a ad.f2 ad.m2) 7) :: (ad.f2, o3a) :: (ad.m2, o4a) :: (ad.pa, listOf [.ref ad.ca, .int (g.k + 1 + 1 + 1) tk3, .int g.z g.tz].toArray g.ep) :: (ad.bd, dictOf (boxD w.params g.k0 g.k1 g.k2 g.k3 g.k4 g.k5 g.k6 g.nm g.vd (.int nu2 tn2) (.int tp2 tt2) g.fl la1 ga1) 7) :: (la1, listOf (List.toArray vs2) e2) :: (ga1, listOf (List.toArray gs1) eg1) :: (L + 1 + 1, oS1) :: (L + 1 + 1 + 1 + 1, g.oV) :: (T5 ++ (X0 ++ R))) := (AT5).pick 11 rfl (by decide)
  clear N12 AT5
  refine wpAny_execs_cons (st11 (sc := _) rfl B F11 X T hdp hu rfl Mk S.dL Bk.1 (setM_ne (by decide +kernel) (x9 (by decide +kernel) (by decide +kernel) (by decide +kernel) (by walk_at "look"))) ?_)
  intro oL1 h12 w12 F12 N13 dL1
  have A13 : ApartN 13 ((L + 1, oL1) :: (ad.d1, dictOf (viewD w.params g.q0 g.q1 g.q2 g.q3 g.q4 g.q5 g.q6 ad.bx false false false ul1a ad.f1 ad.m1) 7) :: (ad.f1, o1a) :: (ad.m1, o2a) :: (ad.d2, dictOf (viewD w.params g.p0 g.p1 g.p2 g.p3 g.p4 g.p5 g.p6 ad.bx false true true ul2a ad.f2 ad.m2) 7) :: (ad.f2, o3a) :: (ad.m2, o4a) :: (ad.pa, listOf [.ref ad.ca, .int (g.k + 1 + 1 + 1) tk3, .int g.z g.tz].toArray g.ep) :: (ad.bd, dictOf (boxD w.params g.k0 g.k1 g.k2 g.k3 g.k4 g.k5 g.k6 g.nm g.vd (.int nu2 tn2) (.int tp2 tt2) g.fl la1 ga1) 7) :: (la1, listOf (List.toArray vs2) e2) :: (ga1, listOf (List.toArray gs1) eg1) :: (L + 1 + 1, oS1) :: (L + 1 + 1 + 1 + 1, g.oV) :: (T5 ++ (X0 ++ R))) := ApartN.congr (n := 13) rfl Bk
  clear Mk Bk
  have Mn : News h₀ L h12 ((L + 1 + 1 + 1 + 1, g.oV) :: (ad.d1, dictOf (viewD w.params g.q0 g.q1 g.q2 g.q3 g.q4 g.q5 g.q6 ad.bx false false false ul1a ad.f1 ad.m1) 7) :: (ad.f1, o1a) :: (ad.m1, o2a) :: (ad.d2, dictOf (viewD w.params g.p0 g.p1 g.p2 g.p3 g.p4 g.p5 g.p6 ad.bx false true true ul2a ad.f2 ad.m2) 7) :: (ad.f2, o3a) :: (ad.m2, o4a) :: (L + 1, oL1) :: (ad.pa, listOf [.ref ad.ca, .int (g.k + 1 + 1 + 1) tk3, .int g.z g.tz].toArray g.ep) :: (ad.bd, dictOf (boxD w.params g.k0 g.k1 g.k2 g.k3 g.k4 g.k5 g.k6 g.nm g.vd (.int nu2 tn2) (.int tp2 tt2) g.fl la1 ga1) 7) :: (la1, listOf (List.toArray vs2) e2) :: (ga1, listOf (List.toArray gs1) eg1) :: (L + 1 + 1, oS1) :: (T5 ++ (X0 ++ R))) := news_pick 12 rfl (news_pick 6 rfl (news_pick 6 rfl (news_pick 6 rfl (news_pick 6 rfl (news_pick 6 rfl (news_pick 6 rfl (N13)))))))
  have Bn : ApartN 13 ((L + 1 + 1 + 1 + 1, g.oV) :: (ad.d1, dictOf (viewD w.params g.q0 g.q1 g.q2 g.q3 g.q4 g.q5 g.q6 ad.bx false false false ul1a ad.f1 ad.m1) 7) :: (ad.f1, o1a) :: (ad.m1, o2a) :: (ad.d2, dictOf (viewD w.params g.p0 g.p1 g.p2 g.p3 g.p4 g.p5 g.p6 ad.bx false true true ul2a ad.f2 ad.m2) 7) :: (ad.f2, o3a) :: (ad.m2, o4a) :: (L + 1, oL1) :: (ad.pa, listOf [.ref ad.ca, .int (g.k + 1 + 1 + 1) tk3, .int g.z g.tz].toArray g.ep) :: (ad.bd, dictOf (boxD w.params g.k0 g.k1 g.k2 g.k3 g.k4 g.k5 g.k6 g.nm g.vd (.int nu2 tn2) (.int tp2 tt2) g.fl la1 ga1) 7) :: (la1, listOf (List.toArray vs2) e2) :: (ga1, listOf (List.toArray gs1) eg1) :: (L + 1 + 1, oS1) :: (T5 ++ (X0 ++ R))) := (((((((A13).pick 6 rfl (by decide)).pick 6 rfl (by decide)).pick 6 rfl (by decide)).pick 6 rfl (by decide)).pick 6 rfl (by decide)).pick 6 rfl (by decide)).pick 12 rfl (by decide)
  clear N13 A13
  have sv : ∀ u ∈ (g.vu.filter fun u => !(u == x1 || u == x2)), u ∈ us2 := fun u hu => by
    rw [← el] at hu
    exact List.contains_iff_mem.mp (List.mem_filter.mp hu).2
  refine wpAny_execs_cons (st12 (sc := _) rfl B F12 X T hdp hu rfl hE Mn (Bn.mono (by decide)) S.dV (setM_ne (by decide +kernel) (x9 (by decide +kernel) (by decide +kernel) (by decide +kernel) (by walk_at "look"))) (.tail _ (.tail _ (.tail _ (.tail _ (.tail _ (.tail _ (mid_mem _ (up5 _ S.hvl)))))))) (.head _) dL1 (.tail _ (.tail _ (.tail _ (.tail _ (.tail _ (.tail _ (mid_mem _ (mrl5)))))))) ir (.tail _ (.tail _ (.tail _ (.tail _ (.tail _ (.tail _ (mid_mem _ (up5 _ S.hbx)))))))) (.tail _ (.tail _ (.head _))) (.tail _ (.tail _ (.tail _ (.head _)))) (hL5.more (fun p hp => .tail _ (.tail _ (.tail _ (.tail _ (.tail _ (.tail _ (mid_mem p hp)))))))) (asc_nodup asc2) hvs2 (Nat.le_trans (List.length_filter_le _ _) hv500) (asc_filter _ S.ascv) sv (fun u hu => by have := low2 u (sv u hu); have := S.hnu; omega) (.tail _ (.tail _ (.tail _ (.tail _ (.tail _ (.tail _ (mid_mem _ (up5 _ S.hv1)))))))) (.tail _ (.tail _ (.tail _ (.tail _ (.tail _ (.tail _ (mid_mem _ (mu1')))))))) iz1 (.tail _ (.tail _ (.tail _ (.tail _ (.tail _ (.tail _ (mid_mem _ (up5 _ S.hv2)))))))) (.tail _ (.tail _ (.tail _ (.tail _ (.tail _ (.tail _ (mid_mem _ (mu2')))))))) iz2 D1a D2a D3a D4a E1a E2a E3a E4a ?_)
  intro oV1 vV1 ul1b ul2b zs1b zs2b z1b z2b o1b o2b o3b o4b kf1b km1b kf2b km2b tl12 h13 w13 F13 N14 dV1 fr14 mu1b mu2b iz1b iz2b D1b D2b D3b D4b E1b E2b E3b E4b
  have N14' : News h₀ L h13 ((L + 1 + 1 + 1 + 1, oV1) :: (ad.d1, dictOf (viewD w.params g.q0 g.q1 g.q2 g.q3 g.q4 g.q5 g.q6 ad.bx false false false ul1b ad.f1 ad.m1) 7) :: (ad.f1, o1b) :: (ad.m1, o2b) :: (ad.d2, dictOf (viewD w.params g.p0 g.p1 g.p2 g.p3 g.p4 g.p5 g.p6 ad.bx false true true ul2b ad.f2 ad.m2) 7) :: (ad.f2, o3b) :: (ad.m2, o4b) :: (L + 1, oL1) :: (ad.pa, listOf [.ref ad.ca, .int (g.k + 1 + 1 + 1) tk3, .int g.z g.tz].toArray g.ep) :: (ad.bd, dictOf (boxD w.params g.k0 g.k1 g.k2 g.k3 g.k4 g.k5 g.k6 g.nm g.vd (.int nu2 tn2) (.int tp2 tt2) g.fl la1 ga1) 7) :: (la1, listOf (List.toArray vs2) e2) :: (ga1, listOf (List.toArray gs1) eg1) :: (L + 1 + 1, oS1) :: (tl12 ++ (T5 ++ (X0 ++ R)))) := news_mid [(L + 1 + 1 + 1 + 1, oV1), (ad.d1, dictOf (viewD w.params g.q0 g.q1 g.q2 g.q3 g.q4 g.q5 g.q6 ad.bx false false false ul1b ad.f1 ad.m1) 7), (ad.f1, o1b), (ad.m1, o2b), (ad.d2, dictOf (viewD w.params g.p0 g.p1 g.p2 g.p3 g.p4 g.p5 g.p6 ad.bx false true true ul2b ad.f2 ad.m2) 7), (ad.f2, o3b), (ad.m2, o4b)] tl12 [(L + 1, oL1), (ad.pa, listOf [.ref ad.ca, .int (g.k + 1 + 1 + 1) tk3, .int g.z g.tz].toArray g.ep), (ad.bd, dictOf (boxD w.params g.k0 g.k1 g.k2 g.k3 g.k4 g.k5 g.k6 g.nm g.vd (.int nu2 tn2) (.int tp2 tt2) g.fl la1 ga1) 7), (la1, listOf (List.toArray vs2) e2), (ga1, listOf (List.toArray gs1) eg1), (L + 1 + 1, oS1)] (T5 ++ (X0 ++ R)) N14
  clear N14 Mn
  obtain ⟨T6, hT6⟩ : ∃ z : List (Addr × Obj), z = tl12 ++ T5 := ⟨_, rfl⟩
  have NT6 : News h₀ L h13 ((L + 1 + 1 + 1 + 1, oV1) :: (ad.d1, dictOf (viewD w.params g.q0 g.q1 g.q2 g.q3 g.q4 g.q5 g.q6 ad.bx false false false ul1b ad.f1 ad.m1) 7) :: (ad.f1, o1b) :: (ad.m1, o2b) :: (ad.d2, dictOf (viewD w.params g.p0 g.p1 g.p2 g.p3 g.p4 g.p5 g.p6 ad.bx false true true ul2b ad.f2 ad.m2) 7) :: (ad.f2, o3b) :: (ad.m2, o4b) :: (L + 1, oL1) :: (ad.pa, listOf [.ref ad.ca, .int (g.k + 1 + 1 + 1) tk3, .int g.z g.tz].toArray g.ep) :: (ad.bd, dictOf (boxD w.params g.k0 g.k1 g.k2 g.k3 g.k4 g.k5 g.k6 g.nm g.vd (.int nu2 tn2) (.int tp2 tt2) g.fl la1 ga1) 7) :: (la1, listOf (List.toArray vs2) e2) :: (ga1, listOf (List.toArray gs1) eg1) :: (L + 1 + 1, oS1) :: (T6 ++ (X0 ++ R))) := by rw [hT6, List.append_assoc]; exact N14'
  have AT6 : ApartN 13 ((L + 1 + 1 + 1 + 1, oV1) :: (ad.d1, dictOf (viewD w.params g.q0 g.q1 g.q2 g.q3 g.q4 g.q5 g.q6 ad.bx false false false ul1b ad.f1 ad.m1) 7) :: (ad.f1, o1b) :: (ad.m1, o2b) :: (ad.d2, dictOf (viewD w.params g.p0 g.p1 g.p2 g.p3 g.p4 g.p5 g.p6 ad.bx false true true ul2b ad.f2 ad.m2) 7) :: (ad.f2, o3b) :: (ad.m2, o4b) :: (L + 1, oL1) :: (ad.pa, listOf [.ref ad.ca, .int (g.k + 1 + 1 + 1) tk3, .int g.z g.tz].toArray g.ep) :: (ad.bd, dictOf (boxD w.params g.k0 g.k1 g.k2 g.k3 g.k4 g.k5 g.k6 g.nm g.vd (.int nu2 tn2) (.int tp2 tt2) g.fl la1 ga1) 7) :: (la1, listOf (List.toArray vs2) e2) :: (ga1, listOf (List.toArray gs1) eg1) :: (L + 1 + 1, oS1) :: (T6 ++ (X0 ++ R))) := by rw [hT6, List.append_assoc]; exact ApartN.congr (n := 13) (l := [(L + 1 + 1 + 1 + 1, g.oV), (ad.d1, dictOf (viewD w.params g.q0 g.q1 g.q2 g.q3 g.q4 g.q5 g.q6 ad.bx false false false ul1a ad.f1 ad.m1) 7), (ad.f1, o1a), (ad.m1, o2a), (ad.d2, dictOf (viewD w.params g.p0 g.p1 g.p2 g.p3 g.p4 g.p5 g.p6 ad.bx false true true ul2a ad.f2 ad.m2) 7), (ad.f2, o3a), (ad.m2, o4a), (L + 1, oL1), (ad.pa, listOf [.ref ad.ca, .int (g.k + 1 + 1 + 1) tk3, .int g.z g.tz].toArray g.ep), (ad.bd, dictOf (boxD w.params g.k0 g.k1 g.k2 g.k3 g.k4 g.k5 g.k6 g.nm g.vd (.int nu2 tn2) (.int tp2 tt2) g.fl la1 ga1) 7), (la1, listOf (List.toArray vs2) e2), (ga1, listOf (List.toArray gs1) eg1), (L + 1 + 1, oS1)] ++ (tl12 ++ (T5 ++ (X0 ++ R)))) rfl (ApartN.grow (n := 13) (hd := [(L + 1 + 1 + 1 + 1, g.oV), (ad.d1, dictOf (viewD w.params g.q0 g.q1 g.q2 g.q3 g.q4 g.q5 g.q6 ad.bx false false false ul1a ad.f1 ad.m1) 7), (ad.f1, o1a), (ad.m1, o2a), (ad.d2, dictOf (viewD w.params g.p0 g.p1 g.p2 g.p3 g.p4 g.p5 g.p6 ad.bx false true true ul2a ad.f2 ad.m2) 7), (ad.f2, o3a), (ad.m2, o4a), (L + 1, oL1), (ad.pa, listOf [.ref ad.ca, .int (g.k + 1 + 1 + 1) tk3, .int g.z g.tz].toArray g.ep), (ad.bd, dictOf (boxD w.params g.k0 g.k1 g.k2 g.k3 g.k4 g.k5 g.k6 g.nm g.vd (.int nu2 tn2) (.int tp2 tt2) g.fl la1 ga1) 7), (la1, listOf (List.toArray vs2) e2), (ga1, listOf (List.toArray gs1) eg1), (L + 1 + 1, oS1)]) (tl := tl12) (r := (T5 ++ (X0 ++ R))) rfl Bn (fun p hp q hq => fr14 p hp q (List.mem_append_left _ hq)))
  have hX6 : ∀ p ∈ T6, ∀ q ∈ X0, p.1 ≠ q.1 := by
    rw [hT6]
    intro p hp q hq
    rcases List.mem_append.mp hp with hp | hp
    · exact fr14 p hp q (.tail _ (.tail _ (.tail _ (.tail _ (.tail _ (.tail _ (.tail _ (.tail _ (.tail _ (.tail _ (.tail _ (.tail _ (.tail _ (List.mem_append_right _ (List.mem_append_left _ hq)))))))))))))))
    · exact hX5 p hp q hq
  have up6 : ∀ p ∈ R, p ∈ T6 ++ R := fun p hp => List.mem_append_right _ hp
  have ux6 : ∀ p ∈ T5 ++ R, p ∈ T6 ++ R := fun p hp => by rw [hT6, List.append_assoc]; exact List.mem_append_right _ hp
  clear N14' Bn
  have in6 : ∀ p ∈ tl12, p ∈ T6 ++ R := fun p hp => by rw [hT6]; exact List.mem_append_left _ (List.mem_append_left _ hp)
  have mw1 : (ul1b, listOf (List.toArray zs1b) z1b) ∈ T6 ++ R := by
    rcases List.mem_cons.mp mu1b with h | h
    · rw [h]; exact ux6 _ mu1'
    · exact in6 _ h
  have mw2 : (ul2b, listOf (List.toArray zs2b) z2b) ∈ T6 ++ R := by
    rcases List.mem_cons.mp mu2b with h | h
    · rw [h]; exact ux6 _ mu2'
    · exact in6 _ h
  have Mz : News h₀ L h13 ((ad.pa, listOf [.ref ad.ca, .int (g.k + 1 + 1 + 1) tk3, .int g.z g.tz].toArray g.ep) :: (ad.bd, dictOf (boxD w.params g.k0 g.k1 g.k2 g.k3 g.k4 g.k5 g.k6 g.nm g.vd (.int nu2 tn2) (.int tp2 tt2) g.fl la1 ga1) 7) :: (la1, listOf (List.toArray vs2) e2) :: (ga1, listOf (List.toArray gs1) eg1) :: (ad.d1, dictOf (viewD w.params g.q0 g.q1 g.q2 g.q3 g.q4 g.q5 g.q6 ad.bx false false false ul1b ad.f1 ad.m1) 7) :: (ad.f1, o1b) :: (ad.m1, o2b) :: (ad.d2, dictOf (viewD w.params g.p0 g.p1 g.p2 g.p3 g.p4 g.p5 g.p6 ad.bx false true true ul2b ad.f2 ad.m2) 7) :: (ad.f2, o3b) :: (ad.m2, o4b) :: (L + 1, oL1) :: (L + 1 + 1, oS1) :: (L + 1 + 1 + 1 + 1, oV1) :: (T6 ++ (X0 ++ R))) := news_pick 12 rfl (news_pick 12 rfl (news_pick 12 rfl (news_pick 12 rfl (news_pick 8 rfl (news_pick 8 rfl (news_pick 8 rfl (news_pick 8 rfl (news_pick 8 rfl (news_pick 8 rfl (news_pick 8 rfl (news_pick 12 rfl (news_pick 0 rfl (NT6)))))))))))))
  have Bz : ApartN 13 ((ad.pa, listOf [.ref ad.ca, .int (g.k + 1 + 1 + 1) tk3, .int g.z g.tz].toArray g.ep) :: (ad.bd, dictOf (boxD w.params g.k0 g.k1 g.k2 g.k3 g.k4 g.k5 g.k6 g.nm g.vd (.int nu2 tn2) (.int tp2 tt2) g.fl la1 ga1) 7) :: (la1, listOf (List.toArray vs2) e2) :: (ga1, listOf (List.toArray gs1) eg1) :: (ad.d1, dictOf (viewD w.params g.q0 g.q1 g.q2 g.q3 g.q4 g.q5 g.q6 ad.bx false false false ul1b ad.f1 ad.m1) 7) :: (ad.f1, o1b) :: (ad.m1, o2b) :: (ad.d2, dictOf (viewD w.params g.p0 g.p1 g.p2 g.p3 g.p4 g.p5 g.p6 ad.bx false true true ul2b ad.f2 ad.m2) 7) :: (ad.f2, o3b) :: (ad.m2, o4b) :: (L + 1, oL1) :: (L + 1 + 1, oS1) :: (L + 1 + 1 + 1 + 1, oV1) :: (T6 ++ (X0 ++ R))) := (((((((((((((AT6).pick 0 rfl (by decide)).pick 12 rfl (by decide)).pick 8 rfl (by decide)).pick 8 rfl (by decide)).pick 8 rfl (by decide)).pick 8 rfl (by decide)).pick 8 rfl (by decide)).pick 8 rfl (by decide)).pick 8 rfl (by decide)).pick 12 rfl (by decide)).pick 12 rfl (by decide)).pick 12 rfl (by decide)).pick 12 rfl (by decide)
  clear NT6 AT6
  refine wpAny_execs_nil (hret { g with k := g.k + 1 + 1 + 1, tk := tk3, nu := nu2, tn := tn2, tp := tp2, tt := tt2, la := la1, ga := ga1, vs := vs2, el := e2, gs := gs1, eg := eg1, us := us2, ul1 := ul1b, ul2 := ul2b, ys1 := zs1b, ys2 := zs2b, n1 := z1b, n2 := z2b, o1 := o1b, o2 := o2b, o3 := o3b, o4 := o4b, kf1 := kf1b, km1 := km1b, kf2 := kf2b, km2 := km2b, oL := oL1, oS := oS1, oV := oV1, vS := some (.ref sl), vV := vV1, lf := rl, ls := rs, nl := nr, vu := g.vu.filter fun u => !(u == x1 || u == x2) } T6 _ _ _ ?_ F13 Mz Bz hX6)
  have up := up6
  refine { mpen := (setM_ne (by decide +kernel) (x9 (by decide +kernel) (by decide +kernel) (by decide +kernel) (by walk_at "look"))), mbox := (setM_ne (by decide +kernel) (x9 (by decide +kernel) (by decide +kernel) (by decide +kernel) (by walk_at "look"))), mviews := (setM_ne (by decide +kernel) (x9 (by decide +kernel) (by decide +kernel) (by decide +kernel) (by walk_at "look"))), hca := up _ S.hca, k0 := ?_, k1 := ?_, z0 := S.z0, z1 := S.z1, hbx := up _ S.hbx, hL := hL5.more ux6, hlen := ?_, hglen := ?_, asc := asc2, low := low2, hnu := ?_, nu1 := ?_, hv1 := up _ S.hv1, hu1 := mw1, i1 := iz1b, hv2 := up _ S.hv2, hu2 := mw2, i2 := iz2b, D1 := D1b, D2 := D2b, D3 := D3b, D4 := D4b, E1 := E1b, E2 := E2b, E3 := E3b, E4 := E4b, hvl := up _ S.hvl, hlf := ux6 _ mrl5, il := ir, dL := dL1, dS := dS1, dV := dV1, ascv := asc_filter _ S.ascv, sub := sv, lenv := Nat.le_trans (List.length_filter_le _ _) S.lenv }
  · have := S.k0; show 0 ≤ g.k + 1 + 1 + 1; omega
  · have := S.k1; show g.k + 1 + 1 + 1 ≤ 100 + 3 * ((i + 1 : Nat) : Int); omega
  · have := S.hlen; have := S.hL.length; have := hL3.length; show vs2.length ≤ 10 + (i + 1); omega
  · have := S.hglen; have := S.hlen; have := S.hL.length; show gs1.length ≤ 40 * (i + 1); omega
  · have := S.hnu; show nu2 ≤ 20 + ((i + 1 : Nat) : Int); omega
  · have := S.nu1; show 1 ≤ nu2; omega
end
theorem zU3 {M : Model} {A : Around} {env : Env} {p : Pos} {Q : Flow → Shared → Prop} {E : Value → Shared → Prop} {s : Shared} (h : wpAny M A (exec (.Pass p) env) Q E s) : wpAny M A (exec (.Pass p) env) Q E s := by
  w_top off
  first | (walk1; fail "z") | exact h
section
variable {w : World} {mean : ExcName → Option Value} {mg mb : Str → Option Value} {dp un : Nat} {gd : Option (List Code)} {sc : Scope} {st : Stmt} {a : Addr} {ccd : Value} {outer : List Env} {A₀ : Around} {base h₀ : Heap} {L : Addr} {m : Str → Option Value} {s : Shared} {Q : Flow → Shared → Prop} {E : Value → Shared → Prop} {rest news : List (Addr × Obj)}
  (hsc : sc = lawScope) (B : Below A₀ base outer h₀) (F : Fr h₀ L s.heap m) (X : (hd.heap_1 w.params).In h₀) (T : Top Mine.lawView (looseW Mine.lawView [Str.ofString "PostError"]) mean mg mb h₀)
  (hdp : dp + 30 < recursionLimit) (hu : un + 300 < cLine)
include hsc B F X T hdp hu
local macro_rules | `(tactic| walk_at "pyIter ref") => `(tactic| ((with_reducible show wpAny _ _ (pyIter (Value.ref _)) _ _ _); refine Stop.out ?_))
local macro_rules | `(tactic| walk_at "call ref") => `(tactic| ((with_reducible show wpAny _ _ (call (Value.ref 279) _) _ _ _); refine Stop.out ?_))
local macro_rules | `(tactic| walk_at "call ref") => `(tactic| ((with_reducible show wpAny _ _ (call (Value.ref 267) _) _ _ _); refine Stop.out ?_))
theorem la3 (hst : st = lawStmts.getD 3 default) {pa ca bx bd la ga : Addr} {cvs : List Value} {cns : List Int} {z nu tp : Int} {tk0 tz tn tt k0 k1 k2 k3 k4 k5 k6 : Tok} {e n' el : Nat} {nm vd fl : Value}
    (hE : PassesOwn (model PySem.Challenge.rw_nz0296_01.row.prog w) (ktrTop dp un gd (Str.ofString "law") sc L a ccd (cellsFrom (L + 1) sc.names []) outer) (envOfC (Str.ofString "law") sc L a ccd) E)
    (N : News h₀ L s.heap ((pa, listOf [.ref ca, .int 0 tk0, .int z tz].toArray e) :: (bd, dictOf (boxD w.params k0 k1 k2 k3 k4 k5 k6 nm vd (.int 1 tn) (.int tp tt) fl la ga) 7) :: (la, listOf [].toArray el) :: rest)) (ap : ApartN 3 ((pa, listOf [.ref ca, .int 0 tk0, .int z tz].toArray e) :: (bd, dictOf (boxD w.params k0 k1 k2 k3 k4 k5 k6 nm vd (.int 1 tn) (.int tp tt) fl la ga) 7) :: (la, listOf [].toArray el) :: rest))
    (hm : m (Str.ofString "pen") = some (.ref pa)) (hmb : m (Str.ofString "box") = some (.ref bx)) (hbx : (bx, instObj 242 bd) ∈ rest) (hca : (ca, listOf cvs.toArray n') ∈ rest) (hi : IntsAre cvs cns) (hlen : cns.length ≤ 63) (hz0 : 0 ≤ z) (hz1 : z < 997)
    (hret : ∀ vs us nu' tp' tn' tt' tk2 e' tl h' tk' m', Fr h₀ L h' m' → m' (Str.ofString "pen") = some (.ref pa) → m' (Str.ofString "box") = some (.ref bx) →
      News h₀ L h' ((pa, listOf [.ref ca, .int 1 tk2, .int z tz].toArray e) :: (bd, dictOf (boxD w.params k0 k1 k2 k3 k4 k5 k6 nm vd (.int nu' tn') (.int tp' tt') fl la ga) 7) :: (la, listOf (List.toArray vs) e') :: (tl ++ rest)) → (∀ p ∈ tl, ∀ q ∈ (pa, listOf [.ref ca, .int 0 tk0, .int z tz].toArray e) :: (bd, dictOf (boxD w.params k0 k1 k2 k3 k4 k5 k6 nm vd (.int 1 tn) (.int tp tt) fl la ga) 7) :: (la, listOf [].toArray el) :: rest, p.1 ≠ q.1) →
      LettersIn w.params tl vs us → us.Pairwise (· < ·) → (∀ u ∈ us, 1 ≤ u ∧ u < nu') → us.length ≤ 7 → 1 ≤ nu' → nu' ≤ 8 → Q .next { s with heap := h', toks := tk' }) :
    wpAny (model PySem.Challenge.rw_nz0296_01.row.prog w) (ktrTop dp un gd (Str.ofString "law") sc L a ccd (cellsFrom (L + 1) sc.names []) outer) (exec st (envOfC (Str.ofString "law") sc L a ccd)) Q E s := by
  conv at hsc => rhs; whnf
  conv at hst => rhs; whnf
  subst hsc; subst hst
  revert X; k_fill; intro X
  have c1 : NeA pa bd := fun q => ap.1 (bd, _) (.head _) q.symm
  have c2 : NeA pa la := fun q => ap.1 (la, _) (.tail _ (.head _)) q.symm
  have c3 : NeA bd la := fun q => ap.2.1 (la, _) (.head _) q.symm
  have c4 : AllOff pa rest := allOff_of fun p hp => ap.1 p (.tail _ (.tail _ hp))
  have c5 : AllOff bd rest := allOff_of fun p hp => ap.2.1 p (.tail _ hp)
  have c6 : AllOff la rest := allOff_of fun p hp => ap.2.2.1 p hp
  refine For_invV h₀ rfl rfl ?_ ?hs hE
  case hs => intro _; with_unfolding_all rfl
  k_steps
  refine Stop.mk ?_
  k_dflt (refine' draw_call (i := 0) (z := z) (many := 8) ?cB ?cF ?cX ?cT ?ck ?cd ?cu ?cN (fun p hp => ap.1 p hp) (.tail _ (.tail _ hca)) hi hlen (by omega) (by omega) hz0 hz1 (by decide) (by decide) ?_; (case cF => exact F); (case cN => exact N); (case cB => k_asm); (case cX => k_asm); (case cT => k_asm); (case ck => first | exact rfl | assumption); (case cd => ktr_room); (case cu => k_units))
  intro r1 t1 kk h1 tk1 F1 N1 b0 b1
  clear N F
  have bb : Stop (r1 < 8) := b1
  clear b1
  k_steps
  refine Stop.mk ?_
  rename IsRange _ _ _ _ _ _ _ _ => hR
  rename Fr _ _ _ _ => lF
  rename News _ _ _ _ => lN
  have b1 : r1 < 8 := bb
  obtain ⟨n, rfl⟩ : ∃ n : Nat, r1 = n := ⟨r1.toNat, by omega⟩
  k_dflt (refine' iter_rangeJ (n := n) (fun i m₁ n₁ => ∃ vs us nu' tp' tn' tt' e' tl, n₁ = (pa, listOf [.ref ca, .int (0 + 1) kk, .int z tz].toArray e) :: (bd, dictOf (boxD w.params k0 k1 k2 k3 k4 k5 k6 nm vd (.int nu' tn') (.int tp' tt') fl la ga) 7) :: (la, listOf (List.toArray vs) e') :: (tl ++ rest) ∧ m₁ (Str.ofString "pen") = some (.ref pa) ∧ m₁ (Str.ofString "box") = some (.ref bx) ∧
    AllOff pa tl ∧ AllOff bd tl ∧ AllOff la tl ∧ (∀ p, p ∈ tl → ∀ q, q ∈ rest → p.1 ≠ q.1) ∧ LettersIn w.params tl vs us ∧ us.Pairwise (· < ·) ∧ (∀ u, u ∈ us → 1 ≤ u ∧ u < nu') ∧ us.length = i ∧ nu' = (i : Int) + 1) ?hh hR ?hsm ?hn lF lN ?hj ?turn ?done)
  case hh => rfl
  case hsm => exact PySem.small_one (by decide) (by decide) (by omega) (by omega)
  case hn => rw [rangeSize_nat]; omega
  case hj => exact ⟨[], [], 1, tp, tn, tt, el, [], rfl, hm, hmb, trivial, trivial, trivial, fun p hp => (nomatch hp), .nil, List.Pairwise.nil, fun u hu => (nomatch hu), rfl, rfl⟩
  case done =>
    rintro m₁ n₁ h2 tk2 ⟨vs, us, nu', tp', tn', tt', e', tl, rfl, hm1, hm2, oa, ob, oc, fr, hL, asc, low, hul, hnu⟩ F2 N2
    refine hret vs us nu' tp' tn' tt' kk e' tl h2 tk2 m₁ F2 hm1 hm2 N2 ?_ hL asc low (by omega) (by omega) (by omega)
    intro p hp q hq
    rcases List.mem_cons.mp hq with rfl | hq
    · exact AllOff.ne oa p hp
    rcases List.mem_cons.mp hq with rfl | hq
    · exact AllOff.ne ob p hp
    rcases List.mem_cons.mp hq with rfl | hq
    · exact AllOff.ne oc p hp
    · exact fr p hp q hq
  case turn =>
    rintro i t2 m₁ n₁ h2 tk2 I oI hin ⟨vs, us, nu', tp', tn', tt', e', tl, rfl, hm1, hm2, oa, ob, oc, fr, hL, asc, low, hul, hnu⟩ off2 F2 N2
    clear lF lN
    have hvl : vs.length ≤ 100 := by rw [hL.length]; omega
    have pa' : AllOff pa (tl ++ rest) := oa.app c4
    have pb' : AllOff bd (tl ++ rest) := ob.app c5
    have pc' : AllOff la (tl ++ rest) := oc.app c6
    obtain ⟨r3, hr3⟩ : ∃ r3, r3 = tl ++ rest := ⟨_, rfl⟩
    have hbx3 : (bx, instObj 242 bd) ∈ r3 := hr3 ▸ List.mem_append_right _ hbx
    rw [← hr3] at pa' pb' pc' N2 off2
    have offA := allOff_of off2
    walk_at "offs"
    k_steps
    refine Stop.mk ?_
    rename (_ < _ ∧ _) => l1
    rename Fr _ _ _ _ => lF
    rename News _ _ _ _ => lN
    rename_i D9 h9
    obtain ⟨tx, htx⟩ : ∃ tx : Tok, tx = tk2 + 1 := ⟨_, rfl⟩
    rw [← htx] at lN
    have M1 := news_sub (l' := (bd, dictOf (boxD w.params k0 k1 k2 k3 k4 k5 k6 nm vd (.int nu' tn') (.int tp' tt') fl la ga) 7) :: (la, listOf (List.toArray vs) e') :: (D9, tupOf [.str (Str.ofString "x") tx]) :: (I, oI) :: (pa, listOf [.ref ca, .int (0 + 1) kk, .int z tz].toArray e) :: r3) lN (by walk_at "sub")
    have g1 : NeA bd D9 := Nat.ne_of_lt l1.2.2.1
    have g2 : NeA la D9 := Nat.ne_of_lt l1.2.2.2.1
    k_dflt (refine' add_letter_call (its := [.str (Str.ofString "x") tx]) ?cB lF ?cX ?cT ?ck ?cd ?cu M1 c3 ?o1 ?o2 (.tail _ (.tail _ (.tail _ hbx3))) (.head _) (.inr ⟨_, rfl⟩) (by omega) ?_; (case cB => k_asm); (case cX => k_asm); (case cT => k_asm); (case ck => first | exact rfl | assumption); (case cd => ktr_room); (case cu => k_units))
    case o1 =>
      refine AllOff.ne ?_
      walk_at "offEnd"
    case o2 =>
      refine AllOff.ne ?_
      walk_at "offEnd"
    intro x dx fa tn2 tt2 tu tm x0 x1 x2 x3 x4 h' tk' F' N' e1 e2
    clear lN lF M1
    k_steps
    subst hr3
    obtain ⟨oct, ins, N'⟩ : ∃ oct ins, News h₀ L h' ((x, instObj 204 dx) :: (dx, dictOf (letD w.params x0 x1 x2 x3 x4 (.int nu' tu) oct (.ref fa) ins (.int (tp' + 1) tm)) 5) :: _) := ⟨_, _, N'⟩
    have lx : ∀ q ∈ tl ++ rest, q.1 < dx := fun q hq => e2 q (.tail _ (.tail _ (.tail _ (.tail _ (.tail _ hq)))))
    have l9 : ∀ q ∈ tl ++ rest, q.1 < D9 := of_allLt l1.2.2.2.2
    have bI : I < dx := e2 (I, oI) (.tail _ (.tail _ (.tail _ (.head _))))
    have bp : pa < dx := e2 (pa, listOf [.ref ca, .int (0 + 1) kk, .int z tz].toArray e) (.tail _ (.tail _ (.tail _ (.tail _ (.head _)))))
    have bb2 : bd < dx := e2 (bd, dictOf (boxD w.params k0 k1 k2 k3 k4 k5 k6 nm vd (.int nu' tn') (.int tp' tt') fl la ga) 7) (.head _)
    have bl : la < dx := e2 (la, listOf (List.toArray vs) e') (.tail _ (.head _))
    have o9 : ∀ {d : Nat}, d < dx → d < D9 → AllOff d tl → AllOff d ((x, instObj 204 dx) :: (dx, dictOf (letD w.params x0 x1 x2 x3 x4 (.int nu' tu) oct (.ref fa) ins (.int (tp' + 1) tm)) 5) :: (D9, tupOf [.str (Str.ofString "x") tx]) :: tl) := fun a b c => ⟨Nat.ne_of_gt (Nat.lt_trans a e1), Nat.ne_of_gt a, Nat.ne_of_gt b, c⟩
    refine TurnOut.intro ((pa, listOf [.ref ca, .int (0 + 1) kk, .int z tz].toArray e) :: (bd, dictOf (boxD w.params k0 k1 k2 k3 k4 k5 k6 nm vd (.int (nu' + 1) tn2) (.int (tp' + 1) tt2) fl la ga) 7) :: (la, listOf (List.toArray (vs ++ [Value.ref x])) (e' + 1)) :: (((x, instObj 204 dx) :: (dx, dictOf (letD w.params x0 x1 x2 x3 x4 (.int nu' tu) oct (.ref fa) ins (.int (tp' + 1) tm)) 5) :: (D9, tupOf [.str (Str.ofString "x") tx]) :: tl) ++ rest)) F' (news_sub N' ?hN) (AllOff.ne ?off) ⟨vs ++ [.ref x], us ++ [nu'], nu' + 1, tp' + 1, tn2, tt2, e' + 1, (x, instObj 204 dx) :: (dx, dictOf (letD w.params x0 x1 x2 x3 x4 (.int nu' tu) oct (.ref fa) ins (.int (tp' + 1) tm)) 5) :: (D9, tupOf [.str (Str.ofString "x") tx]) :: tl, rfl, ?z1, ?z2, o9 bp l1.2.1 oa, o9 bb2 l1.2.2.1 ob, o9 bl l1.2.2.2.1 oc, ?z3, ?z4, ?z5, ?z6, ?z7, ?z8⟩
    case hN =>
      intro p hp
      simp only [List.mem_cons, List.mem_append, List.cons_append] at hp ⊢
      rcases hp with h | h | h | h | h | h | h | h | h <;> simp [h]
    case off =>
      have zI := AllOff.app (o9 bI l1.1 (allOff_of fun p hp => AllOff.ne (by assumption : AllOff I (tl ++ rest)) p (List.mem_append_left _ hp))) (allOff_of fun p hp => AllOff.ne (by assumption : AllOff I (tl ++ rest)) p (List.mem_append_right _ hp))
      exact ⟨by assumption, by assumption, by assumption, zI⟩
    case z1 => walk_at "look"
    case z2 => walk_at "look"
    case z3 =>
      intro p hp q hq
      rcases List.mem_cons.mp hp with rfl | hp
      · exact Nat.ne_of_gt (Nat.lt_trans (lx q (List.mem_append_right _ hq)) e1)
      rcases List.mem_cons.mp hp with rfl | hp
      · exact Nat.ne_of_gt (lx q (List.mem_append_right _ hq))
      rcases List.mem_cons.mp hp with rfl | hp
      · exact Nat.ne_of_gt (l9 q (List.mem_append_right _ hq))
      · exact fr p hp q hq
    case z4 => exact LettersIn.snoc (u := nu') ⟨x, dx, x0, x1, x2, x3, x4, tu, tm, oct, fa, ins, tp' + 1, rfl, .head _, .tail _ (.head _)⟩ (hL.more fun p hp => .tail _ (.tail _ (.tail _ hp)))
    case z5 => exact List.pairwise_append.mpr ⟨asc, List.pairwise_singleton .., fun a ha b hb => by rw [List.mem_singleton.mp hb]; exact (low a ha).2⟩
    case z6 =>
      intro u hu
      rcases List.mem_append.mp hu with hu | hu
      · have := low u hu; omega
      · rw [List.mem_singleton.mp hu]; omega
    case z7 => rw [List.length_append, List.length_singleton]; omega
    case z8 => omega
end
theorem zU4 {M : Model} {A : Around} {env : Env} {p : Pos} {Q : Flow → Shared → Prop} {E : Value → Shared → Prop} {s : Shared} (h : wpAny M A (exec (.Pass p) env) Q E s) : wpAny M A (exec (.Pass p) env) Q E s := by
  w_top off
  first | (walk1; fail "z") | exact h
section
variable {w : World} {mean : ExcName → Option Value} {mg mb : Str → Option Value} {dp un : Nat} {gd : Option (List Code)} {sc : Scope} {st : Stmt} {a : Addr} {ccd : Value} {outer : List Env} {A₀ : Around} {base h₀ : Heap} {L : Addr} {m : Str → Option Value} {s : Shared} {Q : Flow → Shared → Prop} {E : Value → Shared → Prop} {rest news : List (Addr × Obj)}
  (hsc : sc = lawScope) (B : Below A₀ base outer h₀) (F : Fr h₀ L s.heap m) (X : (hd.heap_1 w.params).In h₀) (T : Top Mine.lawView (looseW Mine.lawView [Str.ofString "PostError"]) mean mg mb h₀)
  (hdp : dp + 30 < recursionLimit) (hu : un + 300 < cLine)
include hsc B F X T hdp hu
local macro_rules | `(tactic| walk_at "call ref") => `(tactic| ((with_reducible show wpAny _ _ (call (Value.ref 77) _) _ _ _); refine Stop.out ?_))
theorem la4 (hst : st = lawStmts.getD 4 default) {bx bd la ga : Addr} {vs : List Value} {us : List Int} {nm vd nu tp fl : Value} {k0 k1 k2 k3 k4 k5 k6 : Tok} {e : Nat}
    (N : News h₀ L s.heap news) (hmb : m (Str.ofString "box") = some (.ref bx)) (hbx : (bx, instObj 242 bd) ∈ news) (hbd : (bd, dictOf (boxD w.params k0 k1 k2 k3 k4 k5 k6 nm vd nu tp fl la ga) 7) ∈ news) (hla : (la, listOf vs.toArray e) ∈ news)
    (hL : LettersIn w.params news vs us) (hnd : us.Nodup) (hlen : vs.length ≤ 1000)
    (hret : ∀ x1 dx1 ul1 fd1 md1 ys1 n1 o11 o12 kf1 km1 q10 q11 q12 q13 q14 q15 q16 x2 dx2 ul2 fd2 md2 ys2 n2 o21 o22 kf2 km2 q20 q21 q22 q23 q24 q25 q26 vl nv h' tk', Fr h₀ L h' (fun y => if y = Str.ofString "views" then some (.ref vl) else m y) →
      News h₀ L h' ((vl, listOf [.ref x1, .ref x2].toArray nv) :: (md2, o22) :: (fd2, o21) :: (ul2, listOf (List.toArray ys2) n2) :: (x2, instObj 77 dx2) :: (dx2, dictOf (viewD w.params q20 q21 q22 q23 q24 q25 q26 bx false true true ul2 fd2 md2) 7) :: (md1, o12) :: (fd1, o11) :: (ul1, listOf (List.toArray ys1) n1) :: (x1, instObj 77 dx1) :: (dx1, dictOf (viewD w.params q10 q11 q12 q13 q14 q15 q16 bx false false false ul1 fd1 md1) 7) :: news) → ApartN 11 ((vl, listOf [.ref x1, .ref x2].toArray nv) :: (md2, o22) :: (fd2, o21) :: (ul2, listOf (List.toArray ys2) n2) :: (x2, instObj 77 dx2) :: (dx2, dictOf (viewD w.params q20 q21 q22 q23 q24 q25 q26 bx false true true ul2 fd2 md2) 7) :: (md1, o12) :: (fd1, o11) :: (ul1, listOf (List.toArray ys1) n1) :: (x1, instObj 77 dx1) :: (dx1, dictOf (viewD w.params q10 q11 q12 q13 q14 q15 q16 bx false false false ul1 fd1 md1) 7) :: news) →
      IntsAre ys1 us → IntsAre ys2 us → o11.IsDictOf (intKind PySem.Challenge.rw_nz0296_01.row.prog w) kf1 → o12.IsDictOf (intKind PySem.Challenge.rw_nz0296_01.row.prog w) km1 → o21.IsDictOf (intKind PySem.Challenge.rw_nz0296_01.row.prog w) kf2 → o22.IsDictOf (intKind PySem.Challenge.rw_nz0296_01.row.prog w) km2 → kf1.map (·.1) = us → km1.map (·.1) = us → kf2.map (·.1) = us → km2.map (·.1) = us →
      (fd1 == sysModules) = false → (md1 == sysModules) = false → (fd2 == sysModules) = false → Q .next { s with heap := h', toks := tk' }) :
    wpAny (model PySem.Challenge.rw_nz0296_01.row.prog w) (ktrTop dp un gd (Str.ofString "law") sc L a ccd (cellsFrom (L + 1) sc.names []) outer) (exec st (envOfC (Str.ofString "law") sc L a ccd)) Q E s := by
  conv at hsc => rhs; whnf
  conv at hst => rhs; whnf
  subst hsc; subst hst
  revert X; k_fill; intro X
  k_steps
  refine Stop.mk ?_
  k_dflt (refine' view_call ?cB F ?cX ?cT ?ck ?cd ?cu ?N hbx hbd hla hL hnd hlen ?_; (case N => exact N); (case cB => k_asm); (case cX => k_asm); (case cT => k_asm); (case ck => first | exact rfl | assumption); (case cd => ktr_room); (case cu => k_units))
  intro x1 dx1 ul1 fd1 md1 ys1 n1 o11 o12 kf1 km1 q10 q11 q12 q13 q14 q15 q16 h1 w1 F1 N1 i1 D1 E1 D2 E2 s1 s2 ap1
  clear N F
  have t1 : ∀ p ∈ news, p ∈ (md1, o12) :: (fd1, o11) :: (ul1, listOf (List.toArray ys1) n1) :: (x1, instObj 77 dx1) :: (dx1, dictOf (viewD w.params q10 q11 q12 q13 q14 q15 q16 bx false false false ul1 fd1 md1) 7) :: news := fun p hp => .tail _ (.tail _ (.tail _ (.tail _ (.tail _ hp))))
  k_steps
  refine Stop.mk ?_
  k_dflt (refine' view_call ?cB F1 ?cX ?cT ?ck ?cd ?cu ?N (t1 _ hbx) (t1 _ hbd) (t1 _ hla) (hL.more t1) hnd hlen ?_; (case N => exact N1); (case cB => k_asm); (case cX => k_asm); (case cT => k_asm); (case ck => first | exact rfl | assumption); (case cd => ktr_room); (case cu => k_units))
  intro x2 dx2 ul2 fd2 md2 ys2 n2 o21 o22 kf2 km2 q20 q21 q22 q23 q24 q25 q26 h2 w2 F2 N2 i2 D3 E3 D4 E4 s3 s4 ap2
  clear N1 F1
  k_steps
  rename (_ < _ ∧ _) => l1
  rename Fr _ _ _ _ => lF
  rename News _ _ _ _ => lN
  exact hret x1 dx1 ul1 fd1 md1 ys1 n1 o11 o12 kf1 km1 q10 q11 q12 q13 q14 q15 q16 x2 dx2 ul2 fd2 md2 ys2 n2 o21 o22 kf2 km2 q20 q21 q22 q23 q24 q25 q26 _ _ _ _ lF lN ⟨fun p hp => Nat.ne_of_lt (of_allLt (l := (md2, o22) :: (fd2, o21) :: (ul2, listOf (List.toArray ys2) n2) :: (x2, instObj 77 dx2) :: (dx2, dictOf (viewD w.params q20 q21 q22 q23 q24 q25 q26 bx false true true ul2 fd2 md2) 7) :: (md1, o12) :: (fd1, o11) :: (ul1, listOf (List.toArray ys1) n1) :: (x1, instObj 77 dx1) :: (dx1, dictOf (viewD w.params q10 q11 q12 q13 q14 q15 q16 bx false false false ul1 fd1 md1) 7) :: news) l1 p hp), ap2.1, ap2.2.1, ap2.2.2.1, ap2.2.2.2.1, ap2.2.2.2.2.1, ap1.1, ap1.2.1, ap1.2.2.1, ap1.2.2.2.1, ap1.2.2.2.2.1, trivial⟩ i1 i2 D1 D2 D3 D4 E1 E2 E3 E4 s1 s2 s3
end
theorem zU5 {M : Model} {A : Around} {env : Env} {p : Pos} {Q : Flow → Shared → Prop} {E : Value → Shared → Prop} {s : Shared} (h : wpAny M A (exec (.Pass p) env) Q E s) : wpAny M A (exec (.Pass p) env) Q E s := by
  w_top off
  first | (walk1; fail "z") | exact h
section
variable {w : World} {mean : ExcName → Option Value} {mg mb : Str → Option Value} {dp un : Nat} {gd : Option (List Code)} {sc : Scope} {st : Stmt} {a : Addr} {ccd : Value} {outer : List Env} {A₀ : Around} {base h₀ : Heap} {L : Addr} {m : Str → Option Value} {s : Shared} {Q : Flow → Shared → Prop} {E : Value → Shared → Prop} {rest news : List (Addr × Obj)}
  (hsc : sc = lawScope) (B : Below A₀ base outer h₀) (F : Fr h₀ L s.heap m) (X : (hd.heap_1 w.params).In h₀) (T : Top Mine.lawView (looseW Mine.lawView [Str.ofString "PostError"]) mean mg mb h₀)
  (hdp : dp + 30 < recursionLimit) (hu : un + 300 < cLine)
include hsc B F X T hdp hu
local macro_rules | `(tactic| walk_at "call ref") => `(tactic| ((with_reducible show wpAny _ _ (call (Value.ref 234) _) _ _ _); refine Stop.out ?_))
theorem la5 (hst : st = lawStmts.getD 5 default) {bx bd la ga : Addr} {vs : List Value} {us : List Int} {nm vd nu tp fl : Value} {k0 k1 k2 k3 k4 k5 k6 : Tok} {e : Nat} {oL : Obj} {vL : Option Value}
    (N : News h₀ L s.heap ((L + 1, oL) :: rest)) (dL : oL.data = .cell vL) (o1 : ∀ p ∈ rest, p.1 ≠ L + 1) (hmb : m (Str.ofString "box") = some (.ref bx)) (hbx : (bx, instObj 242 bd) ∈ rest) (hbd : (bd, dictOf (boxD w.params k0 k1 k2 k3 k4 k5 k6 nm vd nu tp fl la ga) 7) ∈ rest) (hla : (la, listOf vs.toArray e) ∈ rest)
    (hL : LettersIn w.params rest vs us) (hlen : vs.length ≤ 1000)
    (hret : ∀ D ys n oL' h' tk', Fr h₀ L h' m → News h₀ L h' ((D, listOf (List.toArray ys) n) :: (L + 1, oL') :: rest) → oL'.data = .cell (some (.ref D)) → IntsAre ys us → (∀ p ∈ (L + 1, oL) :: rest, p.1 ≠ D) → Q .next { s with heap := h', toks := tk' }) :
    wpAny (model PySem.Challenge.rw_nz0296_01.row.prog w) (ktrTop dp un gd (Str.ofString "law") sc L a ccd (cellsFrom (L + 1) sc.names []) outer) (exec st (envOfC (Str.ofString "law") sc L a ccd)) Q E s := by
  conv at hsc => rhs; whnf
  conv at hst => rhs; whnf
  subst hsc; subst hst
  revert X; k_fill; intro X
  have c1 : AllOff (L + 1) rest := allOff_of o1
  k_steps
  refine Stop.mk ?_
  k_dflt (refine' uids_call ?cB F ?cX ?cT ?ck ?cd ?cu (N.get (by k_mem : (bx, instObj 242 bd) ∈ _)) (N.get (by k_mem : (bd, dictOf (boxD w.params k0 k1 k2 k3 k4 k5 k6 nm vd nu tp fl la ga) 7) ∈ _)) (N.get (by k_mem : (la, listOf vs.toArray e) ∈ _)) (LettersIn.at N (hL.more fun p hp => .tail _ hp)) hlen ?_; (case cB => k_asm); (case cX => k_asm); (case cT => k_asm); (case ck => first | exact rfl | assumption); (case cd => ktr_room); (case cu => k_units))
  intro D ys n h2 tk2 F2 st2 fr2 n2 hys
  have ou := off_of_none N fr2
  have N2 := News.append n2 (News.grown N st2)
  simp only [List.cons_append, List.nil_append] at N2
  have oD : AllOff D ((L + 1, oL) :: rest) := allOff_of ou
  walk_at "offs"
  clear N F n2
  k_steps
  exact hret D ys n _ _ _ (by assumption) (by assumption) (by assumption) hys ou
end
theorem zU6 {M : Model} {A : Around} {env : Env} {p : Pos} {Q : Flow → Shared → Prop} {E : Value → Shared → Prop} {s : Shared} (h : wpAny M A (exec (.Pass p) env) Q E s) : wpAny M A (exec (.Pass p) env) Q E s := by
  w_top off
  first | (walk1; fail "z") | exact h
section
variable {w : World} {mean : ExcName → Option Value} {mg mb : Str → Option Value} {dp un : Nat} {gd : Option (List Code)} {sc : Scope} {st : Stmt} {a : Addr} {ccd : Value} {outer : List Env} {A₀ : Around} {base h₀ : Heap} {L : Addr} {m : Str → Option Value} {s : Shared} {Q : Flow → Shared → Prop} {E : Value → Shared → Prop} {rest news : List (Addr × Obj)}
  (hsc : sc = lawScope) (B : Below A₀ base outer h₀) (F : Fr h₀ L s.heap m) (X : (hd.heap_1 w.params).In h₀) (T : Top Mine.lawView (looseW Mine.lawView [Str.ofString "PostError"]) mean mg mb h₀)
  (hdp : dp + 30 < recursionLimit) (hu : un + 300 < cLine)
include hsc B F X T hdp hu
local macro_rules | `(tactic| walk_at "call ref") => `(tactic| ((with_reducible show wpAny _ _ (call (Value.ref 279) _) _ _ _); refine Stop.out ?_))
local macro_rules | `(tactic| walk_at "pyIter ref") => `(tactic| ((with_reducible show wpAny _ _ (pyIter (Value.ref _)) _ _ _); refine Stop.out ?_))
theorem la6 (hst : st = lawStmts.getD 6 default) (ad : Ad) (g : Gh) {R : List (Addr × Obj)} (hcv : IntsAre ad.cvs ad.cns) (hcl : ad.cns.length ≤ 63)
    (hE : PassesOwn (model PySem.Challenge.rw_nz0296_01.row.prog w) (ktrTop dp un gd (Str.ofString "law") sc L a ccd (cellsFrom (L + 1) sc.names []) outer) (envOfC (Str.ofString "law") sc L a ccd) E)
    (S : LapSt w ad g 0 m R) (hk9 : g.k ≤ 50) (N : News h₀ L s.heap (headsOf w L ad g ++ R)) (ap : ApartN 13 (headsOf w L ad g ++ R))
    (hret : ∀ g' i tl m' h' tk', LapSt w ad g' i m' (tl ++ R) → i ≤ 3 → Fr h₀ L h' m' → News h₀ L h' (headsOf w L ad g' ++ (tl ++ R)) → ApartN 13 (headsOf w L ad g' ++ (tl ++ R)) → Q .next { s with heap := h', toks := tk' }) :
    wpAny (model PySem.Challenge.rw_nz0296_01.row.prog w) (ktrTop dp un gd (Str.ofString "law") sc L a ccd (cellsFrom (L + 1) sc.names []) outer) (exec st (envOfC (Str.ofString "law") sc L a ccd)) Q E s := by
  conv at hsc => rhs; whnf
  conv at hst => rhs; whnf
  subst hsc; subst hst
  revert X; k_fill; intro X
  have sm1 := S.mpen
  refine For_invV h₀ rfl rfl ?_ ?hs hE
  case hs => intro _; with_unfolding_all rfl
  k_steps
  refine Stop.mk ?_
  have k0 := S.k0
  k_dflt (refine' draw_call (i := g.k) (z := g.z) (many := 3) ?cB ?cF ?cX ?cT ?ck ?cd ?cu ?cN (fun p hp => ap.1 p hp) ?hca hcv hcl k0 (by omega) S.z0 S.z1 (by decide) (by decide) ?_; (case cF => exact F); (case cN => exact N); (case hca => exact .tail _ (.tail _ (.tail _ (.tail _ (.tail _ (.tail _ (.tail _ (.tail _ (.tail _ (.tail _ (.tail _ (.tail _ (S.hca))))))))))))); (case cB => k_asm); (case cX => k_asm); (case cT => k_asm); (case ck => first | exact rfl | assumption); (case cd => ktr_room); (case cu => k_units))
  intro r1 t1 kk h1 tk1 F1 N1 b0 b1
  clear N F
  have bb : Stop (r1 < 3) := b1
  clear b1
  k_steps
  refine Stop.mk ?_
  rename IsRange _ _ _ _ _ _ _ _ => hR
  rename Fr _ _ _ _ => lF
  rename News _ _ _ _ => lN
  have b1 : r1 < 3 := bb
  obtain ⟨n, hn⟩ : ∃ n : Nat, r1 = n := ⟨r1.toNat, by omega⟩
  subst hn
  k_dflt (refine' iter_rangeJ (n := n + 1) (fun i m₁ n₁ => ∃ g' tl, n₁ = headsOf w L ad g' ++ (tl ++ R) ∧ ApartN 13 n₁ ∧ LapSt w ad g' i m₁ (tl ++ R)) ?hh hR ?hsm ?hn lF lN ?hj ?turn ?done)
  case hh => rfl
  case hsm => exact PySem.small_one (by decide) (by decide) (by omega) (by omega)
  case hn => rw [rangeSize_nat]; omega
  case hj =>
    refine ⟨{ g with k := g.k + 1, tk := kk }, [], rfl, ApartN.congr (n := 13) (l := headsOf w L ad g ++ R) rfl ap, { S with k0 := ?_, k1 := ?_ }⟩
    · show 0 ≤ g.k + 1; omega
    · show g.k + 1 ≤ 100 + 3 * ((0 : Nat) : Int); omega
  case done =>
    rintro m₁ n₁ h2 tk2 ⟨g', tl, rfl, ap2, S2⟩ F2 N2
    exact hret g' (n + 1) tl m₁ h2 tk2 S2 (by omega) F2 N2 ap2
  case turn =>
    rintro i t2 m₁ n₁ h2 tk2 I oI hin ⟨g', tl, rfl, ap2, S2⟩ off2 F2 N2
    clear lF lN
    have fr2 : ∀ p ∈ [(I, oI)], ∀ q ∈ headsOf w L ad g', p.1 ≠ q.1 := fun p hp q hq => by
      rw [List.mem_singleton.mp hp]; exact (off2 q (List.mem_append_left _ hq)).symm
    have N3 := news_back [(I, oI)] (headsOf w L ad g') (tl ++ R) N2
    have ap3 := ApartN.grow (n := 13) (hd := headsOf w L ad g') (tl := [(I, oI)]) (r := tl ++ R) rfl ap2 fr2
    have S3 : LapSt w ad g' i (fun y => if y = Str.ofString "lap" then some (.int (0 + (i : Int)) t2) else m₁ y) (tl ++ R) :=
      { S2 with mpen := setM_ne (by decide +kernel) S2.mpen, mbox := setM_ne (by decide +kernel) S2.mbox, mviews := setM_ne (by decide +kernel) S2.mviews }
    refine lap (sc := _) rfl B F2 X T hdp hu rfl ad g' (X0 := [(I, oI)]) (R := tl ++ R) (by omega) hcv hcl hE S3 N3 ap3 ?_
    intro g'' tl2 m' h' tk' S4 F4 N4 ap4 fx
    have hd4 := ApartN.heads (n := 13) (hd := headsOf w L ad g'') rfl ap4
    refine TurnOut.intro (headsOf w L ad g'' ++ (tl2 ++ (tl ++ R))) F4 (news_sub N4 ?hN) ?off ⟨g'', tl2 ++ tl, ?e1, ?e2, ?e3⟩
    case hN =>
      intro p hp
      rcases List.mem_cons.mp hp with h | hp
      · rw [h]; exact List.mem_append_right _ (List.mem_append_right _ (.head _))
      rcases List.mem_append.mp hp with hp | hp
      · exact List.mem_append_left _ hp
      · exact List.mem_append_right _ (mid_mem p hp)
    case off =>
      intro p hp
      rcases List.mem_append.mp hp with hp | hp
      · exact (hd4 (I, oI) (List.mem_append_right _ (.head _)) p hp).symm
      rcases List.mem_append.mp hp with hp | hp
      · exact fx p hp (I, oI) (.head _)
      · exact off2 p (List.mem_append_right _ hp)
    case e1 => rw [List.append_assoc]
    case e2 => exact ApartN.sub (n := 13) rfl ap4 fun p hp => mid_mem p hp
    case e3 => rw [List.append_assoc]; exact S4
end
theorem zU7 {M : Model} {A : Around} {env : Env} {p : Pos} {Q : Flow → Shared → Prop} {E : Value → Shared → Prop} {s : Shared} (h : wpAny M A (exec (.Pass p) env) Q E s) : wpAny M A (exec (.Pass p) env) Q E s := by
  w_top off
  first | (walk1; fail "z") | exact h
section
variable {w : World} {mean : ExcName → Option Value} {mg mb : Str → Option Value} {dp un : Nat} {gd : Option (List Code)} {sc : Scope} {st : Stmt} {a : Addr} {ccd : Value} {outer : List Env} {A₀ : Around} {base h₀ : Heap} {L : Addr} {m : Str → Option Value} {s : Shared} {Q : Flow → Shared → Prop} {E : Value → Shared → Prop} {rest news : List (Addr × Obj)}
  (hsc : sc = lawScope) (B : Below A₀ base outer h₀) (F : Fr h₀ L s.heap m) (X : (hd.heap_1 w.params).In h₀) (T : Top Mine.lawView (looseW Mine.lawView [Str.ofString "PostError"]) mean mg mb h₀)
  (hdp : dp + 30 < recursionLimit) (hu : un + 300 < cLine)
include hsc B F X T hdp hu
local macro_rules | `(tactic| walk_at "compareOp NotIn") => `(tactic| ((with_reducible show wpAny _ _ (compareOp CmpOp.NotIn (Value.int _ _) (Value.ref _)) _ _ _); refine Stop.out ?_))
local macro_rules | `(tactic| walk_at "compareOp In") => `(tactic| ((with_reducible show wpAny _ _ (compareOp CmpOp.In (Value.int _ _) (Value.ref _)) _ _ _); refine Stop.out ?_))
local macro_rules | `(tactic| walk_at "call ref") => `(tactic| ((with_reducible show wpAny _ _ (call (Value.ref 279) _) _ _ _); refine Stop.out ?_))
local macro_rules | `(tactic| walk_at "call ref") => `(tactic| ((with_reducible show wpAny _ _ (call (Value.ref 98) _) _ _ _); refine Stop.out ?_))
local macro_rules | `(tactic| walk_at "eval ListComp") => `(tactic| ((with_reducible show wpAny _ _ (eval (Expr.ListComp _ _ _ _) _) _ _ _); refine Stop.out ?_))
theorem la7 {bs : List Stmt} (hst : bs = lawStmts.drop 7) (ad : Ad) (g : Gh) {i : Nat} {R : List (Addr × Obj)} {oU : Obj} {vU : Option Value} (hcv : IntsAre ad.cvs ad.cns) (hcl : ad.cns.length ≤ 63) (hi3 : i ≤ 3)
    (S : LapSt w ad g i m R) (N : News h₀ L s.heap (headsOf w L ad g ++ R)) (ap : ApartN 13 (headsOf w L ad g ++ R)) (hcu : (L + 1 + 1 + 1, oU) ∈ R) (dU : oU.data = .cell vU)
    (n1 : (ad.f1 == sysModules) = false) (n2 : (ad.m1 == sysModules) = false) (n3 : (ad.f2 == sysModules) = false)
    (hret : ∀ h' tk' m', Fr h₀ L h' m' → Q (.ret (.bool true)) { s with heap := h', toks := tk' }) :
    wpAny (model PySem.Challenge.rw_nz0296_01.row.prog w) (ktrTop dp un gd (Str.ofString "law") sc L a ccd (cellsFrom (L + 1) sc.names []) outer) (execs bs (envOfC (Str.ofString "law") sc L a ccd)) Q E s := by
  conv at hsc => rhs; whnf
  conv at hst => rhs; whnf
  subst hsc; subst hst
  revert X; k_fill; intro X
  have sm1 := S.mpen; have sm3 := S.mviews
  have hdU := ApartN.heads (n := 13) (hd := headsOf w L ad g) rfl ap (L + 1 + 1 + 1, oU) hcu
  have inR : ∀ {a : Addr} {o : Obj}, (a, o) ∈ R → o.data ≠ oU.data → (a, o) ∈ dropA (L + 1 + 1 + 1) R := fun ha hne => mem_dropA ha (ne_of_data N (List.mem_append_right _ ha) (List.mem_append_right _ hcu) hne)
  have jca := inR S.hca (by rw [dU]; exact fun q => nomatch q)
  have jv1 := inR S.hv1 (by rw [dU]; exact fun q => nomatch q)
  have ju1 := inR S.hu1 (by rw [dU]; exact fun q => nomatch q)
  have jv2 := inR S.hv2 (by rw [dU]; exact fun q => nomatch q)
  have jvl := inR S.hvl (by rw [dU]; exact fun q => nomatch q)
  have jlf := inR S.hlf (by rw [dU]; exact fun q => nomatch q)
  obtain ⟨r7, hr7⟩ : ∃ r7, r7 = boxO w ad g :: (g.la, listOf g.vs.toArray g.el) :: (g.ga, listOf g.gs.toArray g.eg) :: view2 w ad g :: (ad.f2, g.o3) :: (ad.m2, g.o4) :: (L + 1, g.oL) :: (L + 1 + 1, g.oS) :: (L + 1 + 1 + 1 + 1, g.oV) :: dropA (L + 1 + 1 + 1) R := ⟨_, rfl⟩
  have M : News h₀ L s.heap ((L + 1 + 1 + 1, oU) :: (ad.pa, listOf [.ref ad.ca, .int g.k g.tk, .int g.z g.tz].toArray g.ep) :: (ad.d1, dictOf (viewD w.params g.q0 g.q1 g.q2 g.q3 g.q4 g.q5 g.q6 ad.bx false false false g.ul1 ad.f1 ad.m1) 7) :: (ad.f1, g.o1) :: (ad.m1, g.o2) :: r7) := by rw [hr7]; exact ordU hcu N
  have apE : ApartN 13 ([(ad.pa, listOf [.ref ad.ca, .int g.k g.tk, .int g.z g.tz].toArray g.ep), (ad.d1, dictOf (viewD w.params g.q0 g.q1 g.q2 g.q3 g.q4 g.q5 g.q6 ad.bx false false false g.ul1 ad.f1 ad.m1) 7), (ad.f1, g.o1), (ad.m1, g.o2)] ++ (boxO w ad g :: (g.la, listOf g.vs.toArray g.el) :: (g.ga, listOf g.gs.toArray g.eg) :: view2 w ad g :: (ad.f2, g.o3) :: (ad.m2, g.o4) :: (L + 1, g.oL) :: (L + 1 + 1, g.oS) :: (L + 1 + 1 + 1 + 1, g.oV) :: R)) := ((((ap.pick 6 rfl (by decide)).pick 6 rfl (by decide)).pick 6 rfl (by decide)).pick 3 rfl (by decide))
  have apF : ApartN 4 ([(ad.pa, listOf [.ref ad.ca, .int g.k g.tk, .int g.z g.tz].toArray g.ep), (ad.d1, dictOf (viewD w.params g.q0 g.q1 g.q2 g.q3 g.q4 g.q5 g.q6 ad.bx false false false g.ul1 ad.f1 ad.m1) 7), (ad.f1, g.o1), (ad.m1, g.o2)] ++ r7) := by rw [hr7]; exact ordV (apE.mono (by decide))
  have y1 := allOff_of apF.1; walk_at "offs"
  have y2 := allOff_of apF.2.1; walk_at "offs"
  have y3 := allOff_of apF.2.2.1; walk_at "offs"
  have y4 : AllOff ad.m1 r7 := allOff_of apF.2.2.2.1
  have g1 : NeA (L + 1 + 1 + 1) ad.pa := hdU (penO ad g) (by walk_at "subMem")
  have g2 : NeA (L + 1 + 1 + 1) ad.d1 := hdU (view1 w ad g) (by walk_at "subMem")
  have g3 : NeA (L + 1 + 1 + 1) ad.f1 := hdU (ad.f1, g.o1) (by walk_at "subMem")
  have g4 : NeA (L + 1 + 1 + 1) ad.m1 := hdU (ad.m1, g.o2) (by walk_at "subMem")
  have g5 : AllOff (L + 1 + 1 + 1) r7 := by
    rw [hr7]
    exact ⟨(hdU (boxO w ad g) (by walk_at "subMem")).symm, (hdU (g.la, listOf g.vs.toArray g.el) (by walk_at "subMem")).symm, (hdU (g.ga, listOf g.gs.toArray g.eg) (by walk_at "subMem")).symm, (hdU (view2 w ad g) (by walk_at "subMem")).symm, (hdU (ad.f2, g.o3) (by walk_at "subMem")).symm, (hdU (ad.m2, g.o4) (by walk_at "subMem")).symm, (hdU (L + 1, g.oL) (by walk_at "subMem")).symm, (hdU (L + 1 + 1, g.oS) (by walk_at "subMem")).symm, (hdU (L + 1 + 1 + 1 + 1, g.oV) (by walk_at "subMem")).symm, off_dropA⟩
  have kca : (ad.ca, listOf ad.cvs.toArray g.np) ∈ r7 := hr7 ▸ .tail _ (.tail _ (.tail _ (.tail _ (.tail _ (.tail _ (.tail _ (.tail _ (.tail _ (jca)))))))))
  have kv1 : (ad.v1, instObj 77 ad.d1) ∈ r7 := hr7 ▸ .tail _ (.tail _ (.tail _ (.tail _ (.tail _ (.tail _ (.tail _ (.tail _ (.tail _ (jv1)))))))))
  have ku1 : (g.ul1, listOf g.ys1.toArray g.n1) ∈ r7 := hr7 ▸ .tail _ (.tail _ (.tail _ (.tail _ (.tail _ (.tail _ (.tail _ (.tail _ (.tail _ (ju1)))))))))
  have kv2 : (ad.v2, instObj 77 ad.d2) ∈ r7 := hr7 ▸ .tail _ (.tail _ (.tail _ (.tail _ (.tail _ (.tail _ (.tail _ (.tail _ (.tail _ (jv2)))))))))
  have kvl : (ad.vl, listOf [.ref ad.v1, .ref ad.v2].toArray g.nv) ∈ r7 := hr7 ▸ .tail _ (.tail _ (.tail _ (.tail _ (.tail _ (.tail _ (.tail _ (.tail _ (.tail _ (jvl)))))))))
  have klf : (g.lf, listOf g.ls.toArray g.nl) ∈ r7 := hr7 ▸ .tail _ (.tail _ (.tail _ (.tail _ (.tail _ (.tail _ (.tail _ (.tail _ (.tail _ (jlf)))))))))
  have kd2 : view2 w ad g ∈ r7 := hr7 ▸ .tail _ (.tail _ (.tail _ (.head _)))
  have kf2 : (ad.f2, g.o3) ∈ r7 := hr7 ▸ .tail _ (.tail _ (.tail _ (.tail _ (.head _))))
  have kcl : (L + 1, g.oL) ∈ r7 := hr7 ▸ .tail _ (.tail _ (.tail _ (.tail _ (.tail _ (.tail _ (.head _))))))
  have dL := S.dL
  have il := S.il
  have lv := S.lenv
  clear hr7 inR jca jv1 ju1 jv2 jvl jlf N ap apE
  k_steps
  · exact hret _ _ _ (by assumption)
  rename (decide _ = false) => c0
  have c1 : g.vu ≠ [] := of_decide_eq_false c0
  have c2 : 0 < g.vu.length := List.length_pos_iff.mpr c1
  refine Stop.mk ?_
  rename Fr _ _ _ _ => lF
  rename News _ _ _ _ => lN
  have M1 : News h₀ L _ ((ad.pa, listOf [.ref ad.ca, .int g.k g.tk, .int g.z g.tz].toArray g.ep) :: (L + 1 + 1 + 1, oU) :: (ad.d1, dictOf (viewD w.params g.q0 g.q1 g.q2 g.q3 g.q4 g.q5 g.q6 ad.bx false false false g.ul1 ad.f1 ad.m1) 7) :: (ad.f1, g.o1) :: (ad.m1, g.o2) :: r7) := news_pick 1 rfl (l := (L + 1 + 1 + 1, oU) :: (ad.pa, listOf [.ref ad.ca, .int g.k g.tk, .int g.z g.tz].toArray g.ep) :: (ad.d1, dictOf (viewD w.params g.q0 g.q1 g.q2 g.q3 g.q4 g.q5 g.q6 ad.bx false false false g.ul1 ad.f1 ad.m1) 7) :: (ad.f1, g.o1) :: (ad.m1, g.o2) :: r7) (news_sub lN fun p hp => .tail _ hp)
  have kz := S.k0; have kz1 := S.k1
  k_dflt (refine' draw_call (i := g.k) (z := g.z) (many := (g.vu.length : Int)) ?cB ?cF ?cX ?cT ?ck ?cd ?cu ?cN ?off ?hca hcv hcl kz (by omega) S.z0 S.z1 (by omega) (by omega) ?_; (case cF => exact lF); (case cN => exact M1); (case hca => k_mem); (case cB => k_asm); (case cX => k_asm); (case cT => k_asm); (case ck => first | exact rfl | assumption); (case cd => ktr_room); (case cu => k_units))
  case off =>
    refine AllOff.ne ?_
    walk_at "offEnd"
  intro r1 t1 kk h1 tk1 F1 N1 b0 b1
  clear lF lN M1
  have M2 : News h₀ L _ ((L + 1 + 1 + 1, oU) :: (ad.pa, listOf [.ref ad.ca, .int (g.k + 1) kk, .int g.z g.tz].toArray g.ep) :: (ad.d1, dictOf (viewD w.params g.q0 g.q1 g.q2 g.q3 g.q4 g.q5 g.q6 ad.bx false false false g.ul1 ad.f1 ad.m1) 7) :: (ad.f1, g.o1) :: (ad.m1, g.o2) :: r7) := (news_pick 1 rfl N1)
  clear N1
  k_steps
  refine Stop.mk ?_
  rename Fr _ _ _ _ => lF
  rename News _ _ _ _ => lN
  rename (Obj.data _ = Data.cell (some (Value.int (g.vu.getD _ _) _))) => dU2
  rename_i tu h2 oU2
  have hum : g.vu.getD r1.toNat 0 ∈ g.vu := List.mem_of_getElem? (getD_some (vu := g.vu) (i := r1.toNat) (by omega))
  generalize hU : g.vu.getD r1.toNat 0 = u at hum dU2
  have M3 : News h₀ L _ ((ad.d1, dictOf (viewD w.params g.q0 g.q1 g.q2 g.q3 g.q4 g.q5 g.q6 ad.bx false false false g.ul1 ad.f1 ad.m1) 7) :: (ad.f1, g.o1) :: (ad.m1, g.o2) :: (L + 1 + 1 + 1, oU2) :: (ad.pa, listOf [.ref ad.ca, .int (g.k + 1) kk, .int g.z g.tz].toArray g.ep) :: r7) := (news_pick 4 rfl (news_pick 4 rfl (news_pick 4 rfl lN)))
  have lkf : g.kf1.length ≤ 1000 := by rw [← List.length_map (f := (·.1)), S.E1]; omega
  have lkm : g.km1.length ≤ 1000 := by rw [← List.length_map (f := (·.1)), S.E2]; omega
  k_dflt (refine' forget_call (vu := g.vu) (kf := g.kf1) (km := g.km1) ?cB ?cF ?cX ?cT ?ck ?cd ?cu ?cN ?ap ?hvw ?hul S.i1 (by rw [S.i1.length]; omega) S.D1 S.D2 (by rw [S.E1]; exact hum) (by rw [S.E2]; exact hum) lkf lkm ?_; (case cF => exact lF); (case cN => exact M3); (case hvw => k_mem); (case hul => k_mem); (case cB => k_asm); (case cX => k_asm); (case cT => k_asm); (case ck => first | exact rfl | assumption); (case cd => ktr_room); (case cu => k_units))
  case ap => refine ⟨AllOff.ne ?_, AllOff.ne ?_, AllOff.ne ?_, trivial⟩ <;> walk_at "offEnd"
  intro rv ul' zs n' o1' o2' h3 tk3 F3 N3 ap3 iz D1' D2'
  clear lF lN M3
  k_steps
  refine Stop.mk ?_
  refine' comp_any (intP fun x => x != u) (fun v y => y = v) ?_ ?_ ?_ ?_ ?_ ?_ ?_ ?_
  walk_at "sides"
  k_steps
  rename Fr _ _ _ _ => lF
  rename News _ _ _ _ => lN
  have cU := fun (h : Heap) st => cell_stays (h' := h) (cell_of lN (by k_mem : (L + 1 + 1 + 1, oU2) ∈ _) dU2) st
  refine Stop.mk ⟨g.lf, g.ls, rfl, lN.isList (by k_mem), by rw [il.length]; omega, fun C v s₂ m₂ E' hC hv hn hm hk => ?_, fun C v s₂ m₂ E' hC hv _ hn hm hk => wpAny_mono (ldVarK (C := C) hn hm ⟨rfl, keeps_refl _⟩) (fun _ _ q => q) fun _ _ e => e, fun D3 ys3 nq h5 tk5 hD hget hp st5 => ?_⟩
  · obtain ⟨x, t, rfl, -⟩ := ints_mem il v hv
    exact wpAny_mono (test_ne (fun Q2 q => ldVarK (C := C) hn hm (q _ _)) fun Q2 tk q => ldCellK (C := C) rfl (cU _ hk) (q _ _)) (fun ok s₃ q => q) fun _ _ e => e
  have N5 := news_new lF lN st5 hD hget
  have F5 := Fr.keeps lF st5
  have hys3 : IntsAre ys3 (g.vu.filter fun x => x != u) := paired_eq hp ▸ ints_filter _ il
  clear lN lF cU hD hget hp st5
  k_steps
  refine Stop.mk ?_
  refine wpAny_notIn_of (f := valueAt (without g.kf1 u)) (intKind_is _ w u _) n1 (dict_at N5 (by k_mem : (ad.f1, o1') ∈ _) D1').mapOf ?_
  rw [gone_key]
  k_steps
  refine Stop.mk ?_
  refine wpAny_notIn_of (f := valueAt (without g.km1 u)) (intKind_is _ w u _) n2 (dict_at N5 (by k_mem : (ad.m1, o2') ∈ _) D2').mapOf ?_
  rw [gone_key]
  k_steps
  refine Stop.mk ?_
  refine wpAny_in_of (f := valueAt g.kf2) (intKind_is _ w u _) n3 (dict_at N5 (by k_mem : (ad.f2, g.o3) ∈ _) S.D3).mapOf ?_
  rw [there_key S.E3 hum]
  k_steps
  exact hret _ _ _ F5
end
theorem zU8 {M : Model} {A : Around} {env : Env} {p : Pos} {Q : Flow → Shared → Prop} {E : Value → Shared → Prop} {s : Shared} (h : wpAny M A (exec (.Pass p) env) Q E s) : wpAny M A (exec (.Pass p) env) Q E s := by
  w_top off
  first | (walk1; fail "z") | exact h
section
variable {w : World} {mean : ExcName → Option Value} {mg mb : Str → Option Value} {dp un : Nat} {gd : Option (List Code)} {sc : Scope} {st : Stmt} {a : Addr} {ccd : Value} {outer : List Env} {A₀ : Around} {base h₀ : Heap} {L : Addr} {m : Str → Option Value} {s : Shared} {Q : Flow → Shared → Prop} {E : Value → Shared → Prop} {rest news : List (Addr × Obj)}
  (hsc : sc = lawScope) (B : Below A₀ base outer h₀) (F : Fr h₀ L s.heap m) (X : (hd.heap_1 w.params).In h₀) (T : Top Mine.lawView (looseW Mine.lawView [Str.ofString "PostError"]) mean mg mb h₀)
  (hdp : dp + 30 < recursionLimit) (hu : un + 300 < cLine)
include hsc B F X T hdp hu
theorem law_rest {bs : List Stmt} (hst : bs = lawStmts.drop 4) {pa ca bx bd la ga : Addr} {cvs vs : List Value} {cns us : List Int} {z nu tp : Int} {tk tz tn tt k0 k1 k2 k3 k4 k5 k6 : Tok} {e el eg np : Nat} {nm vd fl : Value} {oL oS oV oU : Obj} {vL vS vV vU : Option Value} {R : List (Addr × Obj)}
    (hE : PassesOwn (model PySem.Challenge.rw_nz0296_01.row.prog w) (ktrTop dp un gd (Str.ofString "law") sc L a ccd (cellsFrom (L + 1) sc.names []) outer) (envOfC (Str.ofString "law") sc L a ccd) E)
    (N : News h₀ L s.heap ([(pa, listOf [Value.ref ca, Value.int 1 tk, Value.int z tz].toArray e), (bd, dictOf (boxD w.params k0 k1 k2 k3 k4 k5 k6 nm vd (Value.int nu tn) (Value.int tp tt) fl la ga) 7), (la, listOf vs.toArray el), (L + 1, oL), (L + 1 + 1, oS), (L + 1 + 1 + 1 + 1, oV), (ga, listOf [].toArray eg)] ++ R)) (ap : ApartN 7 ([(pa, listOf [Value.ref ca, Value.int 1 tk, Value.int z tz].toArray e), (bd, dictOf (boxD w.params k0 k1 k2 k3 k4 k5 k6 nm vd (Value.int nu tn) (Value.int tp tt) fl la ga) 7), (la, listOf vs.toArray el), (L + 1, oL), (L + 1 + 1, oS), (L + 1 + 1 + 1 + 1, oV), (ga, listOf [].toArray eg)] ++ R)) (hmp : m (Str.ofString "pen") = some (.ref pa)) (hmb : m (Str.ofString "box") = some (.ref bx))
    (hbx : (bx, instObj 242 bd) ∈ R) (hca : (ca, listOf cvs.toArray np) ∈ R) (hcv : IntsAre cvs cns) (hcl : cns.length ≤ 63) (hz0 : 0 ≤ z) (hz1 : z < 997)
    (hcu : (L + 1 + 1 + 1, oU) ∈ R) (dU : oU.data = .cell vU) (dL : oL.data = .cell vL) (dS : oS.data = .cell vS) (dV : oV.data = .cell vV)
    (hL : LettersIn w.params R vs us) (asc : us.Pairwise (· < ·)) (low : ∀ u ∈ us, 1 ≤ u ∧ u < nu) (hul : us.length ≤ 7) (hn1 : 1 ≤ nu) (hn8 : nu ≤ 8)
    (hret : ∀ h' tk' m', Fr h₀ L h' m' → Q (.ret (.bool true)) { s with heap := h', toks := tk' }) :
    wpAny (model PySem.Challenge.rw_nz0296_01.row.prog w) (ktrTop dp un gd (Str.ofString "law") sc L a ccd (cellsFrom (L + 1) sc.names []) outer) (execs bs (envOfC (Str.ofString "law") sc L a ccd)) Q E s := by
  conv at hsc => rhs; whnf
  conv at hst => rhs; whnf
  subst hsc; subst hst
  have sub7 : ∀ p ∈ R, p ∈ [(pa, listOf [Value.ref ca, Value.int 1 tk, Value.int z tz].toArray e), (bd, dictOf (boxD w.params k0 k1 k2 k3 k4 k5 k6 nm vd (Value.int nu tn) (Value.int tp tt) fl la ga) 7), (la, listOf vs.toArray el), (L + 1, oL), (L + 1 + 1, oS), (L + 1 + 1 + 1 + 1, oV), (ga, listOf [].toArray eg)] ++ R := fun p hp => List.mem_append_right _ hp
  refine wpAny_execs_cons (la4 (sc := _) rfl B F X T hdp hu rfl N hmb (sub7 _ hbx) (.tail _ (.head _)) (.tail _ (.tail _ (.head _))) (hL.more sub7) (asc_nodup asc) (by rw [hL.length]; omega) ?_)
  intro x1 dx1 ul1 fd1 md1 ys1 n1 o11 o12 kf1 km1 q10 q11 q12 q13 q14 q15 q16 x2 dx2 ul2 fd2 md2 ys2 n2 o21 o22 kf2 km2 q20 q21 q22 q23 q24 q25 q26 vl nv h1 w1 F1 N1 ap1 i1 i2 D1 D2 D3 D4 E1 E2 E3 E4 s1 s2 s3
  have apA : ApartN 18 ([(vl, listOf [Value.ref x1, Value.ref x2].toArray nv), (md2, o22), (fd2, o21), (ul2, listOf (List.toArray ys2) n2), (x2, instObj 77 dx2), (dx2, dictOf (viewD w.params q20 q21 q22 q23 q24 q25 q26 bx false true true ul2 fd2 md2) 7), (md1, o12), (fd1, o11), (ul1, listOf (List.toArray ys1) n1), (x1, instObj 77 dx1), (dx1, dictOf (viewD w.params q10 q11 q12 q13 q14 q15 q16 bx false false false ul1 fd1 md1) 7)] ++ ([(pa, listOf [Value.ref ca, Value.int 1 tk, Value.int z tz].toArray e), (bd, dictOf (boxD w.params k0 k1 k2 k3 k4 k5 k6 nm vd (Value.int nu tn) (Value.int tp tt) fl la ga) 7), (la, listOf vs.toArray el), (L + 1, oL), (L + 1 + 1, oS), (L + 1 + 1 + 1 + 1, oV), (ga, listOf [].toArray eg)] ++ R)) := ApartN.join (n := 11) (k := 7) (hd := [(vl, listOf [Value.ref x1, Value.ref x2].toArray nv), (md2, o22), (fd2, o21), (ul2, listOf (List.toArray ys2) n2), (x2, instObj 77 dx2), (dx2, dictOf (viewD w.params q20 q21 q22 q23 q24 q25 q26 bx false true true ul2 fd2 md2) 7), (md1, o12), (fd1, o11), (ul1, listOf (List.toArray ys1) n1), (x1, instObj 77 dx1), (dx1, dictOf (viewD w.params q10 q11 q12 q13 q14 q15 q16 bx false false false ul1 fd1 md1) 7)]) (r := [(pa, listOf [Value.ref ca, Value.int 1 tk, Value.int z tz].toArray e), (bd, dictOf (boxD w.params k0 k1 k2 k3 k4 k5 k6 nm vd (Value.int nu tn) (Value.int tp tt) fl la ga) 7), (la, listOf vs.toArray el), (L + 1, oL), (L + 1 + 1, oS), (L + 1 + 1 + 1 + 1, oV), (ga, listOf [].toArray eg)] ++ R) rfl ap1 ap
  obtain ⟨N2, apB⟩ := ord1 N1 apA
  clear N N1 F ap ap1 apA
  have sub17 : ∀ p ∈ R, p ∈ (pa, listOf [Value.ref ca, Value.int 1 tk, Value.int z tz].toArray e) :: (bd, dictOf (boxD w.params k0 k1 k2 k3 k4 k5 k6 nm vd (Value.int nu tn) (Value.int tp tt) fl la ga) 7) :: (la, listOf vs.toArray el) :: (ga, listOf [].toArray eg) :: (dx1, dictOf (viewD w.params q10 q11 q12 q13 q14 q15 q16 bx false false false ul1 fd1 md1) 7) :: (fd1, o11) :: (md1, o12) :: (dx2, dictOf (viewD w.params q20 q21 q22 q23 q24 q25 q26 bx false true true ul2 fd2 md2) 7) :: (fd2, o21) :: (md2, o22) :: (L + 1 + 1, oS) :: (L + 1 + 1 + 1 + 1, oV) :: (vl, listOf [Value.ref x1, Value.ref x2].toArray nv) :: (ul2, listOf (List.toArray ys2) n2) :: (x2, instObj 77 dx2) :: (ul1, listOf (List.toArray ys1) n1) :: (x1, instObj 77 dx1) :: R := fun p hp => .tail _ (.tail _ (.tail _ (.tail _ (.tail _ (.tail _ (.tail _ (.tail _ (.tail _ (.tail _ (.tail _ (.tail _ (.tail _ (.tail _ (.tail _ (.tail _ (.tail _ (hp)))))))))))))))))
  refine wpAny_execs_cons (la5 (sc := _) rfl B F1 X T hdp hu rfl N2 dL apB.1 (by walk_at "look") (sub17 _ hbx) (.tail _ (.head _)) (.tail _ (.tail _ (.head _))) (hL.more sub17) (by rw [hL.length]; omega) ?_)
  intro lf ls nl oL1 h2 w2 F2 N3 dL1 il fr3
  have apC : ApartN 13 ([(L + 1, oL1), (pa, listOf [Value.ref ca, Value.int 1 tk, Value.int z tz].toArray e), (bd, dictOf (boxD w.params k0 k1 k2 k3 k4 k5 k6 nm vd (Value.int nu tn) (Value.int tp tt) fl la ga) 7), (la, listOf vs.toArray el), (ga, listOf [].toArray eg), (dx1, dictOf (viewD w.params q10 q11 q12 q13 q14 q15 q16 bx false false false ul1 fd1 md1) 7), (fd1, o11), (md1, o12), (dx2, dictOf (viewD w.params q20 q21 q22 q23 q24 q25 q26 bx false true true ul2 fd2 md2) 7), (fd2, o21), (md2, o22), (L + 1 + 1, oS), (L + 1 + 1 + 1 + 1, oV)] ++ ([(lf, listOf (List.toArray ls) nl)] ++ ((vl, listOf [Value.ref x1, Value.ref x2].toArray nv) :: (ul2, listOf (List.toArray ys2) n2) :: (x2, instObj 77 dx2) :: (ul1, listOf (List.toArray ys1) n1) :: (x1, instObj 77 dx1) :: R))) := ApartN.congr (n := 13) (l := [(L + 1, oL), (pa, listOf [Value.ref ca, Value.int 1 tk, Value.int z tz].toArray e), (bd, dictOf (boxD w.params k0 k1 k2 k3 k4 k5 k6 nm vd (Value.int nu tn) (Value.int tp tt) fl la ga) 7), (la, listOf vs.toArray el), (ga, listOf [].toArray eg), (dx1, dictOf (viewD w.params q10 q11 q12 q13 q14 q15 q16 bx false false false ul1 fd1 md1) 7), (fd1, o11), (md1, o12), (dx2, dictOf (viewD w.params q20 q21 q22 q23 q24 q25 q26 bx false true true ul2 fd2 md2) 7), (fd2, o21), (md2, o22), (L + 1 + 1, oS), (L + 1 + 1 + 1 + 1, oV)] ++ ([(lf, listOf (List.toArray ls) nl)] ++ ((vl, listOf [Value.ref x1, Value.ref x2].toArray nv) :: (ul2, listOf (List.toArray ys2) n2) :: (x2, instObj 77 dx2) :: (ul1, listOf (List.toArray ys1) n1) :: (x1, instObj 77 dx1) :: R))) rfl (ApartN.grow (n := 13) (hd := [(L + 1, oL), (pa, listOf [Value.ref ca, Value.int 1 tk, Value.int z tz].toArray e), (bd, dictOf (boxD w.params k0 k1 k2 k3 k4 k5 k6 nm vd (Value.int nu tn) (Value.int tp tt) fl la ga) 7), (la, listOf vs.toArray el), (ga, listOf [].toArray eg), (dx1, dictOf (viewD w.params q10 q11 q12 q13 q14 q15 q16 bx false false false ul1 fd1 md1) 7), (fd1, o11), (md1, o12), (dx2, dictOf (viewD w.params q20 q21 q22 q23 q24 q25 q26 bx false true true ul2 fd2 md2) 7), (fd2, o21), (md2, o22), (L + 1 + 1, oS), (L + 1 + 1 + 1 + 1, oV)]) (tl := [(lf, listOf (List.toArray ls) nl)]) (r := (vl, listOf [Value.ref x1, Value.ref x2].toArray nv) :: (ul2, listOf (List.toArray ys2) n2) :: (x2, instObj 77 dx2) :: (ul1, listOf (List.toArray ys1) n1) :: (x1, instObj 77 dx1) :: R) rfl apB fun p hp q hq => by rw [List.mem_singleton.mp hp]; exact (fr3 q (List.mem_append_left _ hq)).symm)
  have N3b : News h₀ L h2 ((L + 1, oL1) :: (pa, listOf [Value.ref ca, Value.int 1 tk, Value.int z tz].toArray e) :: (bd, dictOf (boxD w.params k0 k1 k2 k3 k4 k5 k6 nm vd (Value.int nu tn) (Value.int tp tt) fl la ga) 7) :: (la, listOf vs.toArray el) :: (ga, listOf [].toArray eg) :: (dx1, dictOf (viewD w.params q10 q11 q12 q13 q14 q15 q16 bx false false false ul1 fd1 md1) 7) :: (fd1, o11) :: (md1, o12) :: (dx2, dictOf (viewD w.params q20 q21 q22 q23 q24 q25 q26 bx false true true ul2 fd2 md2) 7) :: (fd2, o21) :: (md2, o22) :: (L + 1 + 1, oS) :: (L + 1 + 1 + 1 + 1, oV) :: (lf, listOf (List.toArray ls) nl) :: (vl, listOf [Value.ref x1, Value.ref x2].toArray nv) :: (ul2, listOf (List.toArray ys2) n2) :: (x2, instObj 77 dx2) :: (ul1, listOf (List.toArray ys1) n1) :: (x1, instObj 77 dx1) :: R) := news_mid [] [(lf, listOf (List.toArray ls) nl)] [(L + 1, oL1), (pa, listOf [Value.ref ca, Value.int 1 tk, Value.int z tz].toArray e), (bd, dictOf (boxD w.params k0 k1 k2 k3 k4 k5 k6 nm vd (Value.int nu tn) (Value.int tp tt) fl la ga) 7), (la, listOf vs.toArray el), (ga, listOf [].toArray eg), (dx1, dictOf (viewD w.params q10 q11 q12 q13 q14 q15 q16 bx false false false ul1 fd1 md1) 7), (fd1, o11), (md1, o12), (dx2, dictOf (viewD w.params q20 q21 q22 q23 q24 q25 q26 bx false true true ul2 fd2 md2) 7), (fd2, o21), (md2, o22), (L + 1 + 1, oS), (L + 1 + 1 + 1 + 1, oV)] ((vl, listOf [Value.ref x1, Value.ref x2].toArray nv) :: (ul2, listOf (List.toArray ys2) n2) :: (x2, instObj 77 dx2) :: (ul1, listOf (List.toArray ys1) n1) :: (x1, instObj 77 dx1) :: R) N3
  obtain ⟨N4, apD⟩ := ord2 N3b apC
  clear N2 N3 N3b apB apC F1
  have in6 : ∀ p ∈ R, p ∈ (lf, listOf (List.toArray ls) nl) :: (vl, listOf [Value.ref x1, Value.ref x2].toArray nv) :: (ul2, listOf (List.toArray ys2) n2) :: (x2, instObj 77 dx2) :: (ul1, listOf (List.toArray ys1) n1) :: (x1, instObj 77 dx1) :: R := fun p hp => .tail _ (.tail _ (.tail _ (.tail _ (.tail _ (.tail _ (hp))))))
  obtain ⟨ad, had⟩ : ∃ ad : Ad, ad = { pa := pa, ca := ca, bx := bx, bd := bd, v1 := x1, d1 := dx1, f1 := fd1, m1 := md1, v2 := x2, d2 := dx2, f2 := fd2, m2 := md2, vl := vl, cvs := cvs, cns := cns } := ⟨_, rfl⟩
  obtain ⟨g, hg⟩ : ∃ g : Gh, g = { k := 1, z := z, nu := nu, tp := tp, tk := tk, tz := tz, tn := tn, tt := tt, k0 := k0, k1 := k1, k2 := k2, k3 := k3, k4 := k4, k5 := k5, k6 := k6, q0 := q10, q1 := q11, q2 := q12, q3 := q13, q4 := q14, q5 := q15, q6 := q16, p0 := q20, p1 := q21, p2 := q22, p3 := q23, p4 := q24, p5 := q25, p6 := q26, ep := e, np := np, el := el, eg := eg, n1 := n1, n2 := n2, nv := nv, nl := nl, la := la, ga := ga, ul1 := ul1, ul2 := ul2, lf := lf, vs := vs, gs := [], ys1 := ys1, ys2 := ys2, ls := ls, us := us, vu := us, nm := nm, vd := vd, fl := fl, o1 := o11, o2 := o12, o3 := o21, o4 := o22, oL := oL1, oS := oS, oV := oV, vS := vS, vV := vV, kf1 := kf1, km1 := km1, kf2 := kf2, km2 := km2 } := ⟨_, rfl⟩
  have S0 : LapSt w ad g 0 (fun y => if y = Str.ofString "views" then some (.ref vl) else m y) ((lf, listOf (List.toArray ls) nl) :: (vl, listOf [Value.ref x1, Value.ref x2].toArray nv) :: (ul2, listOf (List.toArray ys2) n2) :: (x2, instObj 77 dx2) :: (ul1, listOf (List.toArray ys1) n1) :: (x1, instObj 77 dx1) :: R) := by
    subst had; subst hg
    exact { mpen := setM_ne (by decide +kernel) hmp, mbox := setM_ne (by decide +kernel) hmb, mviews := setM_eq, hca := in6 _ hca, k0 := (by show (0 : Int) ≤ 1; decide), k1 := (by show (1 : Int) ≤ 100 + 3 * ((0 : Nat) : Int); decide), z0 := hz0, z1 := hz1, hbx := in6 _ hbx, hL := hL.more in6, hlen := (by show vs.length ≤ 10 + 0; rw [hL.length]; omega), hglen := (by show ([] : List Value).length ≤ 40 * 0; decide), asc := asc, low := low, hnu := (by show nu ≤ 20 + ((0 : Nat) : Int); omega), nu1 := hn1, hv1 := .tail _ (.tail _ (.tail _ (.tail _ (.tail _ (.head _))))), hu1 := .tail _ (.tail _ (.tail _ (.tail _ (.head _)))), i1 := i1, hv2 := .tail _ (.tail _ (.tail _ (.head _))), hu2 := .tail _ (.tail _ (.head _)), i2 := i2, D1 := D1, D2 := D2, D3 := D3, D4 := D4, E1 := E1, E2 := E2, E3 := E3, E4 := E4, hvl := .tail _ (.head _), hlf := .head _, il := il, dL := dL1, dS := dS, dV := dV, ascv := asc, sub := fun u h => h, lenv := (by show us.length ≤ 20; omega) }
  have N5 : News h₀ L h2 (headsOf w L ad g ++ ((lf, listOf (List.toArray ls) nl) :: (vl, listOf [Value.ref x1, Value.ref x2].toArray nv) :: (ul2, listOf (List.toArray ys2) n2) :: (x2, instObj 77 dx2) :: (ul1, listOf (List.toArray ys1) n1) :: (x1, instObj 77 dx1) :: R)) := by subst had; subst hg; exact N4
  have apE : ApartN 13 (headsOf w L ad g ++ ((lf, listOf (List.toArray ls) nl) :: (vl, listOf [Value.ref x1, Value.ref x2].toArray nv) :: (ul2, listOf (List.toArray ys2) n2) :: (x2, instObj 77 dx2) :: (ul1, listOf (List.toArray ys1) n1) :: (x1, instObj 77 dx1) :: R)) := by subst had; subst hg; exact apD
  have hcv' : IntsAre ad.cvs ad.cns := by subst had; exact hcv
  have hcl' : ad.cns.length ≤ 63 := by subst had; exact hcl
  have hk9 : g.k ≤ 50 := by subst hg; exact (by decide : (1 : Int) ≤ 50)
  have t1 : (ad.f1 == sysModules) = false := by subst had; exact s1
  have t2 : (ad.m1 == sysModules) = false := by subst had; exact s2
  have t3 : (ad.f2 == sysModules) = false := by subst had; exact s3
  clear N4 apD had hg
  refine wpAny_execs_cons (la6 (sc := _) rfl B F2 X T hdp hu rfl ad g hcv' hcl' hE S0 hk9 N5 apE ?_)
  intro g' i tl m' h3 w3 S3 hi3 F3 N6 apF
  exact la7 (sc := _) rfl B F3 X T hdp hu rfl ad g' hcv' hcl' hi3 S3 N6 apF (List.mem_append_right _ (in6 _ hcu)) dU t1 t2 t3 fun h' tk' m' F' => hret h' tk' m' F'
end
theorem zU9 {M : Model} {A : Around} {env : Env} {p : Pos} {Q : Flow → Shared → Prop} {E : Value → Shared → Prop} {s : Shared} (h : wpAny M A (exec (.Pass p) env) Q E s) : wpAny M A (exec (.Pass p) env) Q E s := by
  w_top off
  first | (walk1; fail "z") | exact h
section
variable {w : World} {mean : ExcName → Option Value} {mg mb : Str → Option Value} {dp un : Nat} {gd : Option (List Code)} {sc : Scope} {st : Stmt} {a : Addr} {ccd : Value} {outer : List Env} {A₀ : Around} {base h₀ : Heap} {L : Addr} {m : Str → Option Value} {s : Shared} {Q : Flow → Shared → Prop} {E : Value → Shared → Prop} {rest news : List (Addr × Obj)}
  (hsc : sc = lawScope) (B : Below A₀ base outer h₀) (F : Fr h₀ L s.heap m) (X : (hd.heap_1 w.params).In h₀) (T : Top Mine.lawView (looseW Mine.lawView [Str.ofString "PostError"]) mean mg mb h₀)
  (hdp : dp + 30 < recursionLimit) (hu : un + 300 < cLine)
include hsc B F X T hdp hu
theorem law_tail (hst : st = lawStmts.getD 3 default) {pa ca bx bd la ga sl : Addr} {cvs : List Value} {cns : List Int} {z tp : Int} {tk0 tz tn tt k0 k1 k2 k3 k4 k5 k6 : Tok} {e np el eg : Nat} {nm vd fl : Value} {osl oL oS oV oU : Obj} {vL vS vV vU : Option Value} {Q' : Flow → Shared → Prop} {bs : List Stmt} (hbs : bs = lawStmts.drop 4)
    (hE : PassesOwn (model PySem.Challenge.rw_nz0296_01.row.prog w) (ktrTop dp un gd (Str.ofString "law") sc L a ccd (cellsFrom (L + 1) sc.names []) outer) (envOfC (Str.ofString "law") sc L a ccd) E)
    (N : News h₀ L s.heap [(ga, listOf [].toArray eg), (la, listOf [].toArray el), (bx, instObj 242 bd), (bd, dictOf (boxD w.params k0 k1 k2 k3 k4 k5 k6 nm vd (Value.int 1 tn) (Value.int tp tt) fl la ga) 7), (pa, listOf [Value.ref ca, Value.int 0 tk0, Value.int z tz].toArray e), (ca, listOf cvs.toArray np), (sl, osl), (L + 1 + 1 + 1 + 1, oV), (L + 1 + 1 + 1, oU), (L + 1 + 1, oS), (L + 1, oL)]) (a1 : @LT.lt Nat _ la ga) (a2 : @LT.lt Nat _ bx la) (a3 : @LT.lt Nat _ bd bx) (a4 : @LT.lt Nat _ pa bd) (a5 : @LT.lt Nat _ ca pa) (a6 : @LT.lt Nat _ sl pa) (a7 : @LT.lt Nat _ (L + 1 + 1 + 1 + 1) sl) (a8 : @Ne Nat ca (L + 1)) (a9 : @Ne Nat ca (L + 1 + 1)) (a10 : @Ne Nat ca (L + 1 + 1 + 1 + 1))
    (hmp : m (Str.ofString "pen") = some (.ref pa)) (hmb : m (Str.ofString "box") = some (.ref bx)) (hcv : IntsAre cvs cns) (hcl : cns.length ≤ 63) (hz0 : 0 ≤ z) (hz1 : z < 997)
    (dU : oU.data = .cell vU) (dL : oL.data = .cell vL) (dS : oS.data = .cell vS) (dV : oV.data = .cell vV)
    (hQ : ∀ s', wpAny (model PySem.Challenge.rw_nz0296_01.row.prog w) (ktrTop dp un gd (Str.ofString "law") sc L a ccd (cellsFrom (L + 1) sc.names []) outer) (execs bs (envOfC (Str.ofString "law") sc L a ccd)) Q' E s' → Q .next s')
    (hret : ∀ h' tk' m', Fr h₀ L h' m' → Q' (.ret (.bool true)) { s with heap := h', toks := tk' }) :
    wpAny (model PySem.Challenge.rw_nz0296_01.row.prog w) (ktrTop dp un gd (Str.ofString "law") sc L a ccd (cellsFrom (L + 1) sc.names []) outer) (exec st (envOfC (Str.ofString "law") sc L a ccd)) Q E s := by
  have ap : ApartN 7 ([(pa, listOf [Value.ref ca, Value.int 0 tk0, Value.int z tz].toArray e), (bd, dictOf (boxD w.params k0 k1 k2 k3 k4 k5 k6 nm vd (Value.int 1 tn) (Value.int tp tt) fl la ga) 7), (la, listOf [].toArray el)] ++ ([(L + 1, oL), (L + 1 + 1, oS), (L + 1 + 1 + 1 + 1, oV), (ga, listOf [].toArray eg)] ++ [(bx, instObj 242 bd), (ca, listOf cvs.toArray np), (sl, osl), (L + 1 + 1 + 1, oU)])) := by
    clear N hret hQ hE
    show ApartN 7 [(pa, listOf [Value.ref ca, Value.int 0 tk0, Value.int z tz].toArray e), (bd, dictOf (boxD w.params k0 k1 k2 k3 k4 k5 k6 nm vd (Value.int 1 tn) (Value.int tp tt) fl la ga) 7), (la, listOf [].toArray el), (L + 1, oL), (L + 1 + 1, oS), (L + 1 + 1 + 1 + 1, oV), (ga, listOf [].toArray eg), (bx, instObj 242 bd), (ca, listOf cvs.toArray np), (sl, osl), (L + 1 + 1 + 1, oU)]
    refine ⟨?_, ?_, ?_, ?_, ?_, ?_, ?_, trivial⟩ <;>
    (intro q hq; (repeat (rcases List.mem_cons.mp hq with rfl | hq; (· (show @Ne Nat _ _; (try dsimp only); omega)))); exact nomatch hq)
  have N2 : News h₀ L s.heap ((pa, listOf [Value.ref ca, Value.int 0 tk0, Value.int z tz].toArray e) :: (bd, dictOf (boxD w.params k0 k1 k2 k3 k4 k5 k6 nm vd (Value.int 1 tn) (Value.int tp tt) fl la ga) 7) :: (la, listOf [].toArray el) :: ([(L + 1, oL), (L + 1 + 1, oS), (L + 1 + 1 + 1 + 1, oV), (ga, listOf [].toArray eg)] ++ [(bx, instObj 242 bd), (ca, listOf cvs.toArray np), (sl, osl), (L + 1 + 1 + 1, oU)])) := ord3 N
  subst hst
  refine la3 (sc := sc) (nu := 0) hsc B F X T hdp hu rfl hE N2 (ApartN.mono (by decide) ap) hmp hmb (List.mem_append_right _ (.head _)) (List.mem_append_right _ (.tail _ (.head _))) hcv hcl hz0 hz1 ?_
  intro vs us nu' tp' tn' tt' tk2 e' tl h' tk' m' F3 hmp3 hmb3 N3 fr hL asc low hul hn1 hn8
  refine hQ _ ?_
  have N4 : News h₀ L h' ([(pa, listOf [Value.ref ca, Value.int 1 tk2, Value.int z tz].toArray e), (bd, dictOf (boxD w.params k0 k1 k2 k3 k4 k5 k6 nm vd (Value.int nu' tn') (Value.int tp' tt') fl la ga) 7), (la, listOf (List.toArray vs) e'), (L + 1, oL), (L + 1 + 1, oS), (L + 1 + 1 + 1 + 1, oV), (ga, listOf [].toArray eg)] ++ (tl ++ [(bx, instObj 242 bd), (ca, listOf cvs.toArray np), (sl, osl), (L + 1 + 1 + 1, oU)])) := news_mid [(pa, listOf [Value.ref ca, Value.int 1 tk2, Value.int z tz].toArray e), (bd, dictOf (boxD w.params k0 k1 k2 k3 k4 k5 k6 nm vd (Value.int nu' tn') (Value.int tp' tt') fl la ga) 7), (la, listOf (List.toArray vs) e')] tl [(L + 1, oL), (L + 1 + 1, oS), (L + 1 + 1 + 1 + 1, oV), (ga, listOf [].toArray eg)] [(bx, instObj 242 bd), (ca, listOf cvs.toArray np), (sl, osl), (L + 1 + 1 + 1, oU)] N3
  have ap4 : ApartN 7 ([(pa, listOf [Value.ref ca, Value.int 1 tk2, Value.int z tz].toArray e), (bd, dictOf (boxD w.params k0 k1 k2 k3 k4 k5 k6 nm vd (Value.int nu' tn') (Value.int tp' tt') fl la ga) 7), (la, listOf (List.toArray vs) e'), (L + 1, oL), (L + 1 + 1, oS), (L + 1 + 1 + 1 + 1, oV), (ga, listOf [].toArray eg)] ++ (tl ++ [(bx, instObj 242 bd), (ca, listOf cvs.toArray np), (sl, osl), (L + 1 + 1 + 1, oU)])) := ApartN.congr (n := 7) (l := [(pa, listOf [Value.ref ca, Value.int 0 tk0, Value.int z tz].toArray e), (bd, dictOf (boxD w.params k0 k1 k2 k3 k4 k5 k6 nm vd (Value.int 1 tn) (Value.int tp tt) fl la ga) 7), (la, listOf [].toArray el), (L + 1, oL), (L + 1 + 1, oS), (L + 1 + 1 + 1 + 1, oV), (ga, listOf [].toArray eg)] ++ (tl ++ [(bx, instObj 242 bd), (ca, listOf cvs.toArray np), (sl, osl), (L + 1 + 1 + 1, oU)])) rfl (ApartN.grow (n := 7) (hd := [(pa, listOf [Value.ref ca, Value.int 0 tk0, Value.int z tz].toArray e), (bd, dictOf (boxD w.params k0 k1 k2 k3 k4 k5 k6 nm vd (Value.int 1 tn) (Value.int tp tt) fl la ga) 7), (la, listOf [].toArray el), (L + 1, oL), (L + 1 + 1, oS), (L + 1 + 1 + 1 + 1, oV), (ga, listOf [].toArray eg)]) (tl := tl) (r := [(bx, instObj 242 bd), (ca, listOf cvs.toArray np), (sl, osl), (L + 1 + 1 + 1, oU)]) rfl ap fun p hp q hq => fr p hp q (List.mem_append_left [(bx, instObj 242 bd), (ca, listOf cvs.toArray np), (sl, osl), (L + 1 + 1 + 1, oU)] hq))
  exact law_rest (sc := sc) hsc B F3 X T hdp hu hbs hE N4 ap4 hmp3 hmb3 (List.mem_append_right _ (.head _)) (List.mem_append_right _ (.tail _ (.head _))) hcv hcl hz0 hz1 (List.mem_append_right _ (.tail _ (.tail _ (.tail _ (.head _))))) dU dL dS dV (hL.more fun p hp => List.mem_append_left _ hp) asc low hul hn1 hn8 fun h2 tk2 m2 F2 => hret h2 tk2 m2 F2
end
theorem zU10 {M : Model} {A : Around} {env : Env} {p : Pos} {Q : Flow → Shared → Prop} {E : Value → Shared → Prop} {s : Shared} (h : wpAny M A (exec (.Pass p) env) Q E s) : wpAny M A (exec (.Pass p) env) Q E s := by
  w_top off
  first | (walk1; fail "z") | exact h
section
variable {w : World} {mean : ExcName → Option Value} {mg mb : Str → Option Value} {dp un : Nat} {gd : Option (List Code)} {sc : Scope} {st : Stmt} {a : Addr} {ccd : Value} {outer : List Env} {A₀ : Around} {base h₀ : Heap} {L : Addr} {m : Str → Option Value} {s : Shared} {Q : Flow → Shared → Prop} {E : Value → Shared → Prop} {rest news : List (Addr × Obj)}
  (hsc : sc = lawScope) (B : Below A₀ base outer h₀) (F : Fr h₀ L s.heap m) (X : (hd.heap_1 w.params).In h₀) (T : Top Mine.lawView (looseW Mine.lawView [Str.ofString "PostError"]) mean mg mb h₀)
  (hdp : dp + 30 < recursionLimit) (hu : un + 300 < cLine)
include hsc B F X T hdp hu
local macro_rules | `(tactic| walk_at "exec For") => `(tactic| ((with_reducible show wpAny _ _ (exec (Stmt.For _ _ _ _ _) _) _ _ _); refine Stop.out ?_))
local macro_rules | `(tactic| walk_at "exec For Name Call cons nil") => `(tactic| ((with_reducible show wpAny _ _ (exec (Stmt.For _ _ _ _ _) _) _ _ _); refine Stop.out ?_))
theorem law_all {bs : List Stmt} (hst : bs = lawStmts) {sa : Addr} {ws : List Value} {ns : List Int} {oL oS oV oU : Obj} {vL vS vV vU : Option Value}
    (hE : PassesOwn (model PySem.Challenge.rw_nz0296_01.row.prog w) (ktrTop dp un gd (Str.ofString "law") sc L a ccd (cellsFrom (L + 1) sc.names []) outer) (envOfC (Str.ofString "law") sc L a ccd) E)
    (hl : h₀.IsList sa ws.toArray) (hi : IntsAre ws ns) (hn : ns.length ≤ 63) (hm : m (Str.ofString "script") = some (.ref sa))
    (N : News h₀ L s.heap [(L + 1 + 1 + 1 + 1, oV), (L + 1 + 1 + 1, oU), (L + 1 + 1, oS), (L + 1, oL)])
    (dU : oU.data = .cell vU) (dL : oL.data = .cell vL) (dS : oS.data = .cell vS) (dV : oV.data = .cell vV)
    (hret : ∀ h' tk' m', Fr h₀ L h' m' → Q (.ret (.bool true)) { s with heap := h', toks := tk' }) :
    wpAny (model PySem.Challenge.rw_nz0296_01.row.prog w) (ktrTop dp un gd (Str.ofString "law") sc L a ccd (cellsFrom (L + 1) sc.names []) outer) (execs bs (envOfC (Str.ofString "law") sc L a ccd)) Q E s := by
  conv at hsc => rhs; whnf
  conv at hst => rhs; whnf
  subst hsc; subst hst
  revert X; k_fill; intro X
  have hN : ws.length = ns.length := hi.length
  k_steps
  refine Stop.mk ?_
  rename Fr _ _ _ _ => F0
  rename News _ _ _ _ => N0
  rename IntsAre _ (List.map _ _) => I0
  refine' law_tail (sc := lawScope) (bs := lawStmts.drop 4) rfl B ?cF X T hdp hu rfl rfl hE ?cN ?a1 ?a2 ?a3 ?a4 ?a5 ?a6 ?a7 ?a8 ?a9 ?a10 ?hmp ?hmb ?cI ?hcl ?hz0 ?hz1 ?dU ?dL ?dS ?dV ?hQ ?hret
  case cF => exact F0
  case cN => exact N0
  case cI => exact I0
  case hQ => exact fun s' h => h
  case hmp => exact (if_neg (by decide +kernel)).trans (if_pos rfl)
  case hmb => exact if_pos rfl
  case hcl => simp only [List.length_map, List.length_take]; omega
  case hz0 => exact Int.fmod_nonneg_of_pos _ (by decide)
  case hz1 => exact Int.fmod_lt_of_pos _ (by decide)
  case dU => assumption
  case dL => assumption
  case dS => assumption
  case dV => assumption
  case hret => exact fun h' tk' m' F' => hret h' tk' m' F'
  all_goals omega
end
end
section
theorem zV3 {M : Model} {A : Around} {env : Env} {p : Pos} {Q : Flow → Shared → Prop} {E : Value → Shared → Prop} {s : Shared} (h : wpAny M A (exec (.Pass p) env) Q E s) : wpAny M A (exec (.Pass p) env) Q E s := by
  w_top off
  first | (walk1; fail "z") | exact h
theorem V3_holds : PySem.Challenge.rw_nz0296_01.Holds := by
  exact hd (by
  k_fill
  intro w s₀ s₁ mg mb G Y fa o pm cd doc dV kV ho hd hcd hD hmg hg args vals as hpre hlay hrd hwl hlo
  have KX := kIn_of Y
  have X := (Ground.X G).1
  refine Ground.open G ?_
  intro T B D TE TW
  (try (refine guard_noD D (by decide +kernel) ?_; clear D))
  obtain ⟨_, _, M⟩ := bmod_of_top T
  have TA := at_of_top T
  (try (obtain ⟨_, _, he, B0⟩ := based_of_top T rfl hmg ho hd; have he' : cd = _ := he; subst he'; clear he))
  clear hmg
  wrow_args hpre hlay hrd hwl hlo
  first | refine callC_kw (enter_call ?_) | refine enter_call ?_ | refine callC_kw (enter_callW ?_) | refine enter_callW ?_ | w_how
  w_top on
  (try refine codeAny_mono ?_ (fun _ _ g => GoodW.toG g))
  have K0 := below_caller (Top.heap T)
  w_call any ho hd hcd hD T F
  clear hd TA
  k_drop
  (try k_fold)
  rename Fr _ _ _ _ => F0
  rename News _ _ _ _ => N0
  rename Below callerA _ _ _ => B0
  rename Top _ _ _ _ _ (Shared.heap _) => T0
  rename IntsAre _ _ => I0
  rename Heap.IsList _ _ _ => L0
  refine' law_all (dp := 1 + claimMargin + 1) (un := 4 + 3) (gd := some []) (sc := lawScope) (outer := []) (bs := lawStmts) rfl B0 ?cF ?X T0 ?hdp ?hu rfl ?hE L0 I0 ?hn ?hm ?cN ?dU ?dL ?dS ?dV ?hret
  case cF => exact F0
  case cN => exact N0
  case X => k_asm
  case hdp => decide
  case hu => decide
  case hE => with_unfolding_all passes_own
  case hn => omega
  case hm => with_unfolding_all rfl
  case dU => assumption
  case dL => assumption
  case dS => assumption
  case dV => assumption
  case hret =>
    clear F0 N0
    intro h' tk' m' F'
    dsimp only
    first | wrow_close | wrow_closeG)
end
end Mine
end
theorem PySem.Challenge.cw_nz0296_01_holds : PySem.Challenge.rw_nz0296_01.Holds := by
  exact Mine.V3_holds
