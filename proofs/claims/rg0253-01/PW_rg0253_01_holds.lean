import PyProof.Rows.All
import Wide.All
import OpenK.AllK
import Wide.FinOn
import Lean
import PySem.Challenge.RW_rg0253_01
open PySem PySem.W PyProof.Rows
set_option Elab.async false
set_option linter.all false
set_option maxRecDepth 100000
set_option compiler.extract_closed false
namespace Mine
noncomputable abbrev pw : Program := Challenge.rw_rg0253_01.row.toRowW.1
noncomputable def headView : Program := view pw [0, 2, 3, 4, 5, 6, 7, 8, 9, 10, 12, 13, 14, 16, 18, 19, 20, 21]
noncomputable abbrev headLoose : List Str := [Str.ofString "FATES"]
noncomputable abbrev headXt : Shared → Bool := fun s => xlAt headView [] s && recOk (RowW.records Challenge.rw_rg0253_01.row.toRowW) s
noncomputable def topAt2 (i : Nat) : Stmt := pw.main.body.getD i (.Pass ⟨0, 0, 0, 0⟩)
noncomputable def metAt (i j : Nat) : Stmt := match topAt2 i with | .ClassDef _ _ _ b .. => b.getD j (.Pass ⟨0, 0, 0, 0⟩) | s => s
noncomputable def fnK (s : Stmt) (q : Str → Str) (pm code : Value) : Obj := match s with | .FunctionDef n ps b _ _ _ sc .. => { cls := .type "function", data := .func { name := n, qualname := q n, params := ps, body := .stmts b, scope := sc, globals := 3, closure := [], defaults := .none, kwdefaults := .none, doc := .none, pyModule := pm, code := code, builtins := 0 } } | _ => { cls := .none, data := .dict #[] }
noncomputable def fnP (s : Stmt) (q : Str → Str) : Obj := match s with | .FunctionDef n ps b _ _ _ sc .. => { cls := .none, data := .func { name := n, qualname := q n, params := ps, body := .stmts b, scope := sc, globals := 0, closure := [], defaults := .none, kwdefaults := .none, doc := .none, pyModule := .none, code := .none, builtins := 0 } } | _ => { cls := .none, data := .dict #[] }
noncomputable def kO3 (P : Params) : Obj := { cls := Value.type "dict", data := Data.dict #[{ hash := PyData.keyHash P (Str.ofString "__name__"), key := Value.str (Str.ofString "__name__") 165, val := Value.str (Str.ofString "law_rg0253_01") 587 }, { hash := PyData.keyHash P (Str.ofString "__doc__"), key := Value.str (Str.ofString "__doc__") 166, val := Value.none }, { hash := PyData.keyHash P (Str.ofString "__package__"), key := Value.str (Str.ofString "__package__") 167, val := Value.none }, { hash := PyData.keyHash P (Str.ofString "__loader__"), key := Value.str (Str.ofString "__loader__") 168, val := Value.builtin "__main__.__loader__#opaque" }, { hash := PyData.keyHash P (Str.ofString "__spec__"), key := Value.str (Str.ofString "__spec__") 169, val := Value.none }, { hash := PyData.keyHash P (Str.ofString "__annotations__"), key := Value.str (Str.ofString "__annotations__") 170, val := Value.ref 6 }, { hash := PyData.keyHash P (Str.ofString "__builtins__"), key := Value.str (Str.ofString "__builtins__") 171, val := Value.ref 4 }, { hash := PyData.keyHash P (Str.ofString "__file__"), key := Value.str (Str.ofString "__file__") 173, val := Value.str (Str.ofString "/claim/cut.py") 172 }, { hash := PyData.keyHash P (Str.ofString "__cached__"), key := Value.str (Str.ofString "__cached__") 174, val := Value.none }, { hash := PyData.keyHash P (Str.ofString "_wall"), key := Value.str (Str.ofString "_wall") 193, val := Value.ref 21 }, { hash := PyData.keyHash P (Str.ofString "PASSED"), key := Value.str (Str.ofString "PASSED") 197, val := Value.str (Str.ofString "passed") 196 }, { hash := PyData.keyHash P (Str.ofString "LOST"), key := Value.str (Str.ofString "LOST") 199, val := Value.str (Str.ofString "lost") 198 }, { hash := PyData.keyHash P (Str.ofString "DOUBLED"), key := Value.str (Str.ofString "DOUBLED") 201, val := Value.str (Str.ofString "doubled") 200 }, { hash := PyData.keyHash P (Str.ofString "DELAYED"), key := Value.str (Str.ofString "DELAYED") 203, val := Value.str (Str.ofString "delayed") 202 }, { hash := PyData.keyHash P (Str.ofString "CHANGED"), key := Value.str (Str.ofString "CHANGED") 205, val := Value.str (Str.ofString "changed") 204 }, { hash := PyData.keyHash P (Str.ofString "FATES"), key := Value.str (Str.ofString "FATES") 206, val := Value.ref 22 }, { hash := PyData.keyHash P (Str.ofString "fate_of"), key := Value.str (Str.ofString "fate_of") 213, val := Value.ref 29 }, { hash := PyData.keyHash P (Str.ofString "changed_at"), key := Value.str (Str.ofString "changed_at") 223, val := Value.ref 36 }, { hash := PyData.keyHash P (Str.ofString "Network"), key := Value.str (Str.ofString "Network") 306, val := Value.ref 84 }, { hash := PyData.keyHash P (Str.ofString "other_host"), key := Value.str (Str.ofString "other_host") 315, val := Value.ref 95 }, { hash := PyData.keyHash P (Str.ofString "least_time"), key := Value.str (Str.ofString "least_time") 321, val := Value.ref 100 }, { hash := PyData.keyHash P (Str.ofString "TwoHosts"), key := Value.str (Str.ofString "TwoHosts") 396, val := Value.ref 143 }, { hash := PyData.keyHash P (Str.ofString "Space"), key := Value.str (Str.ofString "Space") 586, val := Value.ref 290 }, { hash := PyData.keyHash P (Str.ofString "_law_take"), key := Value.str (Str.ofString "_law_take") 596, val := Value.ref 301 }, { hash := PyData.keyHash P (Str.ofString "_law_sent"), key := Value.str (Str.ofString "_law_sent") 602, val := Value.ref 306 }, { hash := PyData.keyHash P (Str.ofString "_law_host"), key := Value.str (Str.ofString "_law_host") 613, val := Value.ref 313 }, { hash := PyData.keyHash P (Str.ofString "law"), key := Value.str (Str.ofString "law") 619, val := Value.ref 318 }] 27 }
noncomputable def kO11 : Obj := { cls := Value.type "tuple", data := Data.seq #[] }
noncomputable def kO12 : Obj := { cls := Value.none, data := Data.fields #[Value.int 1 0, Value.int 0 0, Value.ref 20, Value.int 11 0, Value.int 0 0, Value.ref 28, Value.int 13 0, Value.int 0 0, Value.ref 35, Value.int 19 0, Value.int 0 0, Value.ref 42, Value.int 66 0, Value.int 0 0, Value.ref 94, Value.int 68 0, Value.int 0 0, Value.ref 99, Value.int 71 0, Value.int 0 0, Value.ref 106, Value.int 111 0, Value.int 0 0, Value.ref 153, Value.int 186 0, Value.int 0 0, Value.ref 300, Value.int 191 0, Value.int 0 0, Value.ref 305, Value.int 194 0, Value.int 0 0, Value.ref 312, Value.int 201 0, Value.int 0 0, Value.ref 317] }
noncomputable def kO13 : Obj := { cls := Value.type "code", data := Data.fields #[Value.str (Str.ofString "<module>") 182, Value.str (Str.ofString "<module>") 183, Value.str (Str.ofString "/claim/cut.py") 184, Value.int 1 0, Value.int 0 0, Value.int 0 0, Value.int 0 0, Value.int 0 0, Value.ref 11, Value.bool false, Value.int 181 0, Value.ref 12, Value.none, Value.none, Value.none, Value.none, Value.int 185 0, Value.int 1 0, Value.str (Str.ofString "/claim/cut.py") 186] }
noncomputable def kO14 : Obj := { cls := Value.type "frame", slots := #[some (Value.ref 13), some (Value.ref 3), some (Value.ref 3), none, some (Value.str (Str.ofString "__main__") 164), none, some (Value.ref 0)] }
noncomputable def kO16 : Obj := { cls := Value.none, data := Data.fields #[] }
noncomputable def kO17 : Obj := { cls := Value.type "tuple", data := Data.seq #[Value.str (Str.ofString "k") 190] }
noncomputable def kO20 : Obj := { cls := Value.type "code", data := Data.fields #[Value.str (Str.ofString "_wall") 187, Value.str (Str.ofString "_wall") 188, Value.str (Str.ofString "/claim/cut.py") 189, Value.int 1 0, Value.int 1 0, Value.int 0 0, Value.int 0 0, Value.int 3 0, Value.ref 15, Value.bool true, Value.int 181 0, Value.ref 16, Value.none, Value.ref 17, Value.ref 18, Value.ref 19, Value.int 191 0, Value.int 1 0, Value.str (Str.ofString "/claim/cut.py") 192] }
noncomputable def kF21 : Obj := by
  refine (?f : (K : Obj) → K = fnK (topAt2 0) id (Value.str (Str.ofString "__main__") 164) (.ref 20) → Obj) ?K ?h
  case f => exact fun K _ => K
  case h => conv => rhs; whnf
noncomputable def kO22 : Obj := { cls := Value.type "list", data := Data.seq #[Value.str (Str.ofString "passed") 196, Value.str (Str.ofString "passed") 196, Value.str (Str.ofString "lost") 198, Value.str (Str.ofString "doubled") 200, Value.str (Str.ofString "delayed") 202, Value.str (Str.ofString "changed") 204] }
noncomputable def kO25 : Obj := { cls := Value.type "tuple", data := Data.seq #[Value.str (Str.ofString "choice") 210] }
noncomputable def kO28 : Obj := { cls := Value.type "code", data := Data.fields #[Value.str (Str.ofString "fate_of") 207, Value.str (Str.ofString "fate_of") 208, Value.str (Str.ofString "/claim/cut.py") 209, Value.int 11 0, Value.int 1 0, Value.int 0 0, Value.int 0 0, Value.int 3 0, Value.ref 23, Value.bool true, Value.int 181 0, Value.ref 24, Value.none, Value.ref 25, Value.ref 26, Value.ref 27, Value.int 211 0, Value.int 11 0, Value.str (Str.ofString "/claim/cut.py") 212] }
noncomputable def kF29 : Obj := by
  refine (?f : (K : Obj) → K = fnK (topAt2 8) id (Value.str (Str.ofString "quic.network") 194) (.ref 28) → Obj) ?K ?h
  case f => exact fun K _ => K
  case h => conv => rhs; whnf
noncomputable def kO32 : Obj := { cls := Value.type "tuple", data := Data.seq #[Value.str (Str.ofString "datagram") 217, Value.str (Str.ofString "number") 218, Value.str (Str.ofString "at") 219, Value.str (Str.ofString "turned") 220] }
noncomputable def kO35 : Obj := { cls := Value.type "code", data := Data.fields #[Value.str (Str.ofString "changed_at") 214, Value.str (Str.ofString "changed_at") 215, Value.str (Str.ofString "/claim/cut.py") 216, Value.int 13 0, Value.int 2 0, Value.int 0 0, Value.int 0 0, Value.int 3 0, Value.ref 30, Value.bool true, Value.int 181 0, Value.ref 31, Value.none, Value.ref 32, Value.ref 33, Value.ref 34, Value.int 221 0, Value.int 13 0, Value.str (Str.ofString "/claim/cut.py") 222] }
noncomputable def kF36 : Obj := by
  refine (?f : (K : Obj) → K = fnK (topAt2 9) id (Value.str (Str.ofString "quic.network") 194) (.ref 35) → Obj) ?K ?h
  case f => exact fun K _ => K
  case h => conv => rhs; whnf
noncomputable def kO38 : Obj := { cls := Value.type "builtin_function_or_method", data := Data.fields #[Value.builtin "type.__prepare__", Value.type "type"] }
noncomputable def kO39 (P : Params) : Obj := { cls := Value.type "dict", data := Data.dict #[{ hash := PyData.keyHash P (Str.ofString "__module__"), key := Value.str (Str.ofString "__module__") 231, val := Value.str (Str.ofString "quic.network") 194 }, { hash := PyData.keyHash P (Str.ofString "__qualname__"), key := Value.str (Str.ofString "__qualname__") 233, val := Value.str (Str.ofString "Network") 232 }, { hash := PyData.keyHash P (Str.ofString "__firstlineno__"), key := Value.str (Str.ofString "__firstlineno__") 235, val := Value.int 19 234 }, { hash := PyData.keyHash P (Str.ofString "__init__"), key := Value.str (Str.ofString "__init__") 245, val := Value.ref 50 }, { hash := PyData.keyHash P (Str.ofString "next_fate"), key := Value.str (Str.ofString "next_fate") 254, val := Value.ref 57 }, { hash := PyData.keyHash P (Str.ofString "put"), key := Value.str (Str.ofString "put") 265, val := Value.ref 64 }, { hash := PyData.keyHash P (Str.ofString "carry"), key := Value.str (Str.ofString "carry") 279, val := Value.ref 71 }, { hash := PyData.keyHash P (Str.ofString "next_time"), key := Value.str (Str.ofString "next_time") 285, val := Value.ref 76 }, { hash := PyData.keyHash P (Str.ofString "arrived"), key := Value.str (Str.ofString "arrived") 291, val := Value.ref 81 }, { hash := PyData.keyHash P (Str.ofString "__static_attributes__"), key := Value.str (Str.ofString "__static_attributes__") 299, val := Value.ref 82 }] 10 }
noncomputable def kO41 : Obj := { cls := Value.none, data := Data.fields #[Value.int 21 0, Value.int 4 0, Value.ref 49, Value.int 30 0, Value.int 4 0, Value.ref 56, Value.int 42 0, Value.int 4 0, Value.ref 63, Value.int 46 0, Value.int 4 0, Value.ref 70, Value.int 58 0, Value.int 4 0, Value.ref 75, Value.int 61 0, Value.int 4 0, Value.ref 80] }
noncomputable def kO42 : Obj := { cls := Value.type "code", data := Data.fields #[Value.str (Str.ofString "Network") 226, Value.str (Str.ofString "Network") 227, Value.str (Str.ofString "/claim/cut.py") 228, Value.int 19 0, Value.int 0 0, Value.int 0 0, Value.int 0 0, Value.int 0 0, Value.ref 40, Value.bool false, Value.int 181 0, Value.ref 41, Value.none, Value.none, Value.none, Value.none, Value.int 229 0, Value.int 19 0, Value.str (Str.ofString "/claim/cut.py") 230] }
noncomputable def kO43 : Obj := { cls := Value.type "frame", slots := #[some (Value.ref 42), some (Value.ref 3), some (Value.ref 39), none, some (Value.str (Str.ofString "quic.network") 194), none, some (Value.ref 0)] }
noncomputable def kO46 : Obj := { cls := Value.type "tuple", data := Data.seq #[Value.str (Str.ofString "self") 239, Value.str (Str.ofString "choices") 240, Value.str (Str.ofString "unit") 241, Value.str (Str.ofString "most_harm") 242] }
noncomputable def kO49 : Obj := { cls := Value.type "code", data := Data.fields #[Value.str (Str.ofString "__init__") 236, Value.str (Str.ofString "Network.__init__") 237, Value.str (Str.ofString "/claim/cut.py") 238, Value.int 21 0, Value.int 4 0, Value.int 0 0, Value.int 0 0, Value.int 3 0, Value.ref 44, Value.bool true, Value.int 181 0, Value.ref 45, Value.none, Value.ref 46, Value.ref 47, Value.ref 48, Value.int 243 0, Value.int 21 0, Value.str (Str.ofString "/claim/cut.py") 244] }
noncomputable def kF50 : Obj := by
  refine (?f : (K : Obj) → K = fnK (metAt 10 0) (fun _ => Str.ofString "Network.__init__") (Value.str (Str.ofString "quic.network") 194) (.ref 49) → Obj) ?K ?h
  case f => exact fun K _ => K
  case h => conv => rhs; whnf
noncomputable def kO53 : Obj := { cls := Value.type "tuple", data := Data.seq #[Value.str (Str.ofString "self") 249, Value.str (Str.ofString "fate") 250, Value.str (Str.ofString "number") 251] }
noncomputable def kO56 : Obj := { cls := Value.type "code", data := Data.fields #[Value.str (Str.ofString "next_fate") 246, Value.str (Str.ofString "Network.next_fate") 247, Value.str (Str.ofString "/claim/cut.py") 248, Value.int 30 0, Value.int 1 0, Value.int 0 0, Value.int 0 0, Value.int 3 0, Value.ref 51, Value.bool true, Value.int 181 0, Value.ref 52, Value.none, Value.ref 53, Value.ref 54, Value.ref 55, Value.int 252 0, Value.int 30 0, Value.str (Str.ofString "/claim/cut.py") 253] }
noncomputable def kF57 : Obj := by
  refine (?f : (K : Obj) → K = fnK (metAt 10 1) (fun _ => Str.ofString "Network.next_fate") (Value.str (Str.ofString "quic.network") 194) (.ref 56) → Obj) ?K ?h
  case f => exact fun K _ => K
  case h => conv => rhs; whnf
noncomputable def kO60 : Obj := { cls := Value.type "tuple", data := Data.seq #[Value.str (Str.ofString "self") 258, Value.str (Str.ofString "time") 259, Value.str (Str.ofString "goal") 260, Value.str (Str.ofString "path") 261, Value.str (Str.ofString "datagram") 262] }
noncomputable def kO63 : Obj := { cls := Value.type "code", data := Data.fields #[Value.str (Str.ofString "put") 255, Value.str (Str.ofString "Network.put") 256, Value.str (Str.ofString "/claim/cut.py") 257, Value.int 42 0, Value.int 5 0, Value.int 0 0, Value.int 0 0, Value.int 3 0, Value.ref 58, Value.bool true, Value.int 181 0, Value.ref 59, Value.none, Value.ref 60, Value.ref 61, Value.ref 62, Value.int 263 0, Value.int 42 0, Value.str (Str.ofString "/claim/cut.py") 264] }
noncomputable def kF64 : Obj := by
  refine (?f : (K : Obj) → K = fnK (metAt 10 2) (fun _ => Str.ofString "Network.put") (Value.str (Str.ofString "quic.network") 194) (.ref 63) → Obj) ?K ?h
  case f => exact fun K _ => K
  case h => conv => rhs; whnf
noncomputable def kO67 : Obj := { cls := Value.type "tuple", data := Data.seq #[Value.str (Str.ofString "self") 269, Value.str (Str.ofString "now") 270, Value.str (Str.ofString "goal") 271, Value.str (Str.ofString "path") 272, Value.str (Str.ofString "datagram") 273, Value.str (Str.ofString "fate") 274, Value.str (Str.ofString "number") 275, Value.str (Str.ofString "arrival") 276] }
noncomputable def kO70 : Obj := { cls := Value.type "code", data := Data.fields #[Value.str (Str.ofString "carry") 266, Value.str (Str.ofString "Network.carry") 267, Value.str (Str.ofString "/claim/cut.py") 268, Value.int 46 0, Value.int 5 0, Value.int 0 0, Value.int 0 0, Value.int 3 0, Value.ref 65, Value.bool true, Value.int 181 0, Value.ref 66, Value.none, Value.ref 67, Value.ref 68, Value.ref 69, Value.int 277 0, Value.int 46 0, Value.str (Str.ofString "/claim/cut.py") 278] }
noncomputable def kF71 : Obj := by
  refine (?f : (K : Obj) → K = fnK (metAt 10 3) (fun _ => Str.ofString "Network.carry") (Value.str (Str.ofString "quic.network") 194) (.ref 70) → Obj) ?K ?h
  case f => exact fun K _ => K
  case h => conv => rhs; whnf
noncomputable def kO75 : Obj := { cls := Value.type "code", data := Data.fields #[Value.str (Str.ofString "next_time") 280, Value.str (Str.ofString "Network.next_time") 281, Value.str (Str.ofString "/claim/cut.py") 282, Value.int 58 0, Value.int 1 0, Value.int 0 0, Value.int 0 0, Value.int 3 0, Value.ref 72, Value.bool true, Value.int 181 0, Value.ref 73, Value.none, Value.none, Value.none, Value.ref 74, Value.int 283 0, Value.int 58 0, Value.str (Str.ofString "/claim/cut.py") 284] }
noncomputable def kF76 : Obj := by
  refine (?f : (K : Obj) → K = fnK (metAt 10 4) (fun _ => Str.ofString "Network.next_time") (Value.str (Str.ofString "quic.network") 194) (.ref 75) → Obj) ?K ?h
  case f => exact fun K _ => K
  case h => conv => rhs; whnf
noncomputable def kO80 : Obj := { cls := Value.type "code", data := Data.fields #[Value.str (Str.ofString "arrived") 286, Value.str (Str.ofString "Network.arrived") 287, Value.str (Str.ofString "/claim/cut.py") 288, Value.int 61 0, Value.int 2 0, Value.int 0 0, Value.int 0 0, Value.int 3 0, Value.ref 77, Value.bool true, Value.int 181 0, Value.ref 78, Value.none, Value.none, Value.none, Value.ref 79, Value.int 289 0, Value.int 61 0, Value.str (Str.ofString "/claim/cut.py") 290] }
noncomputable def kF81 : Obj := by
  refine (?f : (K : Obj) → K = fnK (metAt 10 5) (fun _ => Str.ofString "Network.arrived") (Value.str (Str.ofString "quic.network") 194) (.ref 80) → Obj) ?K ?h
  case f => exact fun K _ => K
  case h => conv => rhs; whnf
noncomputable def kO82 : Obj := { cls := Value.type "tuple", data := Data.seq #[Value.str (Str.ofString "choices") 292, Value.str (Str.ofString "count") 293, Value.str (Str.ofString "fates") 294, Value.str (Str.ofString "harmed") 295, Value.str (Str.ofString "most_harm") 296, Value.str (Str.ofString "unit") 297, Value.str (Str.ofString "waiting") 298] }
noncomputable def kO83 (P : Params) : Obj := { cls := Value.type "dict", data := Data.dict #[{ hash := PyData.keyHash P (Str.ofString "__module__"), key := Value.str (Str.ofString "__module__") 231, val := Value.str (Str.ofString "quic.network") 194 }, { hash := PyData.keyHash P (Str.ofString "__firstlineno__"), key := Value.str (Str.ofString "__firstlineno__") 235, val := Value.int 19 234 }, { hash := PyData.keyHash P (Str.ofString "__init__"), key := Value.str (Str.ofString "__init__") 245, val := Value.ref 50 }, { hash := PyData.keyHash P (Str.ofString "next_fate"), key := Value.str (Str.ofString "next_fate") 254, val := Value.ref 57 }, { hash := PyData.keyHash P (Str.ofString "put"), key := Value.str (Str.ofString "put") 265, val := Value.ref 64 }, { hash := PyData.keyHash P (Str.ofString "carry"), key := Value.str (Str.ofString "carry") 279, val := Value.ref 71 }, { hash := PyData.keyHash P (Str.ofString "next_time"), key := Value.str (Str.ofString "next_time") 285, val := Value.ref 76 }, { hash := PyData.keyHash P (Str.ofString "arrived"), key := Value.str (Str.ofString "arrived") 291, val := Value.ref 81 }, { hash := PyData.keyHash P (Str.ofString "__static_attributes__"), key := Value.str (Str.ofString "__static_attributes__") 299, val := Value.ref 82 }, { hash := PyData.keyHash P (Str.ofString "__dict__"), key := Value.str (Str.ofString "__dict__") 301, val := Value.ref 85 }, { hash := PyData.keyHash P (Str.ofString "__weakref__"), key := Value.str (Str.ofString "__weakref__") 303, val := Value.ref 86 }, { hash := PyData.keyHash P (Str.ofString "__doc__"), key := Value.str (Str.ofString "__doc__") 304, val := Value.none }] 4 }
noncomputable def kO84 : Obj := { cls := Value.type "type", data := Data.cls { name := Str.ofString "Network", bases := [Value.type "object"], mro := [Value.ref 84, Value.type "object"], ns := 83, qualname := Str.ofString "Network" }, slots := #[none, none, some (Value.str (Str.ofString "Network") 224), some (Value.str (Str.ofString "Network") 232), some (Value.builtin "object.__new__"), some (Value.bool true)] }
noncomputable def kO85 : Obj := { cls := Value.type "getset_descriptor", data := Data.fields #[Value.str (Str.ofString "__dict__") 300, Value.ref 84, Value.builtin "function.__dict__", Value.builtin "function.__dict__#set"] }
noncomputable def kO86 : Obj := { cls := Value.type "getset_descriptor", data := Data.fields #[Value.str (Str.ofString "__weakref__") 302, Value.ref 84, Value.builtin "ExceptionGroup.__weakref__", Value.none] }
noncomputable def kO87 : Obj := { cls := Value.type "super", data := Data.fields #[Value.ref 84, Value.ref 84, Value.ref 84] }
noncomputable def kO88 : Obj := { cls := Value.type "builtin_function_or_method", data := Data.fields #[Value.builtin "object.__init_subclass__", Value.ref 84] }
noncomputable def kO91 : Obj := { cls := Value.type "tuple", data := Data.seq #[Value.str (Str.ofString "host") 312] }
noncomputable def kO94 : Obj := { cls := Value.type "code", data := Data.fields #[Value.str (Str.ofString "other_host") 309, Value.str (Str.ofString "other_host") 310, Value.str (Str.ofString "/claim/cut.py") 311, Value.int 66 0, Value.int 1 0, Value.int 0 0, Value.int 0 0, Value.int 3 0, Value.ref 89, Value.bool true, Value.int 181 0, Value.ref 90, Value.none, Value.ref 91, Value.ref 92, Value.ref 93, Value.int 313 0, Value.int 66 0, Value.str (Str.ofString "/claim/cut.py") 314] }
noncomputable def kF95 : Obj := by
  refine (?f : (K : Obj) → K = fnK (topAt2 12) id (Value.str (Str.ofString "quic.twohosts") 307) (.ref 94) → Obj) ?K ?h
  case f => exact fun K _ => K
  case h => conv => rhs; whnf
noncomputable def kO99 : Obj := { cls := Value.type "code", data := Data.fields #[Value.str (Str.ofString "least_time") 316, Value.str (Str.ofString "least_time") 317, Value.str (Str.ofString "/claim/cut.py") 318, Value.int 68 0, Value.int 1 0, Value.int 0 0, Value.int 0 0, Value.int 3 0, Value.ref 96, Value.bool true, Value.int 181 0, Value.ref 97, Value.none, Value.none, Value.none, Value.ref 98, Value.int 319 0, Value.int 68 0, Value.str (Str.ofString "/claim/cut.py") 320] }
noncomputable def kF100 : Obj := by
  refine (?f : (K : Obj) → K = fnK (topAt2 13) id (Value.str (Str.ofString "quic.twohosts") 307) (.ref 99) → Obj) ?K ?h
  case f => exact fun K _ => K
  case h => conv => rhs; whnf
noncomputable def kO103 (P : Params) : Obj := { cls := Value.type "dict", data := Data.dict #[{ hash := PyData.keyHash P (Str.ofString "__module__"), key := Value.str (Str.ofString "__module__") 329, val := Value.str (Str.ofString "quic.twohosts") 307 }, { hash := PyData.keyHash P (Str.ofString "__qualname__"), key := Value.str (Str.ofString "__qualname__") 331, val := Value.str (Str.ofString "TwoHosts") 330 }, { hash := PyData.keyHash P (Str.ofString "__firstlineno__"), key := Value.str (Str.ofString "__firstlineno__") 333, val := Value.int 71 332 }, { hash := PyData.keyHash P (Str.ofString "__init__"), key := Value.str (Str.ofString "__init__") 345, val := Value.ref 114 }, { hash := PyData.keyHash P (Str.ofString "send_all"), key := Value.str (Str.ofString "send_all") 356, val := Value.ref 121 }, { hash := PyData.keyHash P (Str.ofString "next_time"), key := Value.str (Str.ofString "next_time") 362, val := Value.ref 126 }, { hash := PyData.keyHash P (Str.ofString "step"), key := Value.str (Str.ofString "step") 375, val := Value.ref 133 }, { hash := PyData.keyHash P (Str.ofString "run"), key := Value.str (Str.ofString "run") 384, val := Value.ref 140 }, { hash := PyData.keyHash P (Str.ofString "__static_attributes__"), key := Value.str (Str.ofString "__static_attributes__") 389, val := Value.ref 141 }] 9 }
noncomputable def kO105 : Obj := { cls := Value.none, data := Data.fields #[Value.int 73 0, Value.int 4 0, Value.ref 113, Value.int 79 0, Value.int 4 0, Value.ref 120, Value.int 87 0, Value.int 4 0, Value.ref 125, Value.int 90 0, Value.int 4 0, Value.ref 132, Value.int 105 0, Value.int 4 0, Value.ref 139] }
noncomputable def kO106 : Obj := { cls := Value.type "code", data := Data.fields #[Value.str (Str.ofString "TwoHosts") 324, Value.str (Str.ofString "TwoHosts") 325, Value.str (Str.ofString "/claim/cut.py") 326, Value.int 71 0, Value.int 0 0, Value.int 0 0, Value.int 0 0, Value.int 0 0, Value.ref 104, Value.bool false, Value.int 181 0, Value.ref 105, Value.none, Value.none, Value.none, Value.none, Value.int 327 0, Value.int 71 0, Value.str (Str.ofString "/claim/cut.py") 328] }
noncomputable def kO107 : Obj := { cls := Value.type "frame", slots := #[some (Value.ref 106), some (Value.ref 3), some (Value.ref 103), none, some (Value.str (Str.ofString "quic.twohosts") 307), none, some (Value.ref 0)] }
noncomputable def kO110 : Obj := { cls := Value.type "tuple", data := Data.seq #[Value.str (Str.ofString "self") 337, Value.str (Str.ofString "client") 338, Value.str (Str.ofString "server") 339, Value.str (Str.ofString "choices") 340, Value.str (Str.ofString "unit") 341, Value.str (Str.ofString "most_harm") 342] }
noncomputable def kO113 : Obj := { cls := Value.type "code", data := Data.fields #[Value.str (Str.ofString "__init__") 334, Value.str (Str.ofString "TwoHosts.__init__") 335, Value.str (Str.ofString "/claim/cut.py") 336, Value.int 73 0, Value.int 6 0, Value.int 0 0, Value.int 0 0, Value.int 3 0, Value.ref 108, Value.bool true, Value.int 181 0, Value.ref 109, Value.none, Value.ref 110, Value.ref 111, Value.ref 112, Value.int 343 0, Value.int 73 0, Value.str (Str.ofString "/claim/cut.py") 344] }
noncomputable def kF114 : Obj := by
  refine (?f : (K : Obj) → K = fnK (metAt 14 0) (fun _ => Str.ofString "TwoHosts.__init__") (Value.str (Str.ofString "quic.twohosts") 307) (.ref 113) → Obj) ?K ?h
  case f => exact fun K _ => K
  case h => conv => rhs; whnf
noncomputable def kO117 : Obj := { cls := Value.type "tuple", data := Data.seq #[Value.str (Str.ofString "self") 349, Value.str (Str.ofString "many") 350, Value.str (Str.ofString "host") 351, Value.str (Str.ofString "datagram") 352, Value.str (Str.ofString "path") 353] }
noncomputable def kO120 : Obj := { cls := Value.type "code", data := Data.fields #[Value.str (Str.ofString "send_all") 346, Value.str (Str.ofString "TwoHosts.send_all") 347, Value.str (Str.ofString "/claim/cut.py") 348, Value.int 79 0, Value.int 1 0, Value.int 0 0, Value.int 0 0, Value.int 3 0, Value.ref 115, Value.bool true, Value.int 181 0, Value.ref 116, Value.none, Value.ref 117, Value.ref 118, Value.ref 119, Value.int 354 0, Value.int 79 0, Value.str (Str.ofString "/claim/cut.py") 355] }
noncomputable def kF121 : Obj := by
  refine (?f : (K : Obj) → K = fnK (metAt 14 1) (fun _ => Str.ofString "TwoHosts.send_all") (Value.str (Str.ofString "quic.twohosts") 307) (.ref 120) → Obj) ?K ?h
  case f => exact fun K _ => K
  case h => conv => rhs; whnf
noncomputable def kO125 : Obj := { cls := Value.type "code", data := Data.fields #[Value.str (Str.ofString "next_time") 357, Value.str (Str.ofString "TwoHosts.next_time") 358, Value.str (Str.ofString "/claim/cut.py") 359, Value.int 87 0, Value.int 1 0, Value.int 0 0, Value.int 0 0, Value.int 3 0, Value.ref 122, Value.bool true, Value.int 181 0, Value.ref 123, Value.none, Value.none, Value.none, Value.ref 124, Value.int 360 0, Value.int 87 0, Value.str (Str.ofString "/claim/cut.py") 361] }
noncomputable def kF126 : Obj := by
  refine (?f : (K : Obj) → K = fnK (metAt 14 2) (fun _ => Str.ofString "TwoHosts.next_time") (Value.str (Str.ofString "quic.twohosts") 307) (.ref 125) → Obj) ?K ?h
  case f => exact fun K _ => K
  case h => conv => rhs; whnf
noncomputable def kO129 : Obj := { cls := Value.type "tuple", data := Data.seq #[Value.str (Str.ofString "self") 366, Value.str (Str.ofString "later") 367, Value.str (Str.ofString "goal") 368, Value.str (Str.ofString "path") 369, Value.str (Str.ofString "datagram") 370, Value.str (Str.ofString "host") 371, Value.str (Str.ofString "time") 372] }
noncomputable def kO132 : Obj := { cls := Value.type "code", data := Data.fields #[Value.str (Str.ofString "step") 363, Value.str (Str.ofString "TwoHosts.step") 364, Value.str (Str.ofString "/claim/cut.py") 365, Value.int 90 0, Value.int 1 0, Value.int 0 0, Value.int 0 0, Value.int 3 0, Value.ref 127, Value.bool true, Value.int 181 0, Value.ref 128, Value.none, Value.ref 129, Value.ref 130, Value.ref 131, Value.int 373 0, Value.int 90 0, Value.str (Str.ofString "/claim/cut.py") 374] }
noncomputable def kF133 : Obj := by
  refine (?f : (K : Obj) → K = fnK (metAt 14 3) (fun _ => Str.ofString "TwoHosts.step") (Value.str (Str.ofString "quic.twohosts") 307) (.ref 132) → Obj) ?K ?h
  case f => exact fun K _ => K
  case h => conv => rhs; whnf
noncomputable def kO136 : Obj := { cls := Value.type "tuple", data := Data.seq #[Value.str (Str.ofString "self") 379, Value.str (Str.ofString "most") 380, Value.str (Str.ofString "turn") 381] }
noncomputable def kO139 : Obj := { cls := Value.type "code", data := Data.fields #[Value.str (Str.ofString "run") 376, Value.str (Str.ofString "TwoHosts.run") 377, Value.str (Str.ofString "/claim/cut.py") 378, Value.int 105 0, Value.int 2 0, Value.int 0 0, Value.int 0 0, Value.int 3 0, Value.ref 134, Value.bool true, Value.int 181 0, Value.ref 135, Value.none, Value.ref 136, Value.ref 137, Value.ref 138, Value.int 382 0, Value.int 105 0, Value.str (Str.ofString "/claim/cut.py") 383] }
noncomputable def kF140 : Obj := by
  refine (?f : (K : Obj) → K = fnK (metAt 14 4) (fun _ => Str.ofString "TwoHosts.run") (Value.str (Str.ofString "quic.twohosts") 307) (.ref 139) → Obj) ?K ?h
  case f => exact fun K _ => K
  case h => conv => rhs; whnf
noncomputable def kO141 : Obj := { cls := Value.type "tuple", data := Data.seq #[Value.str (Str.ofString "hosts") 385, Value.str (Str.ofString "network") 386, Value.str (Str.ofString "now") 387, Value.str (Str.ofString "steps") 388] }
noncomputable def kO142 (P : Params) : Obj := { cls := Value.type "dict", data := Data.dict #[{ hash := PyData.keyHash P (Str.ofString "__module__"), key := Value.str (Str.ofString "__module__") 329, val := Value.str (Str.ofString "quic.twohosts") 307 }, { hash := PyData.keyHash P (Str.ofString "__firstlineno__"), key := Value.str (Str.ofString "__firstlineno__") 333, val := Value.int 71 332 }, { hash := PyData.keyHash P (Str.ofString "__init__"), key := Value.str (Str.ofString "__init__") 345, val := Value.ref 114 }, { hash := PyData.keyHash P (Str.ofString "send_all"), key := Value.str (Str.ofString "send_all") 356, val := Value.ref 121 }, { hash := PyData.keyHash P (Str.ofString "next_time"), key := Value.str (Str.ofString "next_time") 362, val := Value.ref 126 }, { hash := PyData.keyHash P (Str.ofString "step"), key := Value.str (Str.ofString "step") 375, val := Value.ref 133 }, { hash := PyData.keyHash P (Str.ofString "run"), key := Value.str (Str.ofString "run") 384, val := Value.ref 140 }, { hash := PyData.keyHash P (Str.ofString "__static_attributes__"), key := Value.str (Str.ofString "__static_attributes__") 389, val := Value.ref 141 }, { hash := PyData.keyHash P (Str.ofString "__dict__"), key := Value.str (Str.ofString "__dict__") 391, val := Value.ref 144 }, { hash := PyData.keyHash P (Str.ofString "__weakref__"), key := Value.str (Str.ofString "__weakref__") 393, val := Value.ref 145 }, { hash := PyData.keyHash P (Str.ofString "__doc__"), key := Value.str (Str.ofString "__doc__") 394, val := Value.none }] 4 }
noncomputable def kO143 : Obj := { cls := Value.type "type", data := Data.cls { name := Str.ofString "TwoHosts", bases := [Value.type "object"], mro := [Value.ref 143, Value.type "object"], ns := 142, qualname := Str.ofString "TwoHosts" }, slots := #[none, none, some (Value.str (Str.ofString "TwoHosts") 322), some (Value.str (Str.ofString "TwoHosts") 330), some (Value.builtin "object.__new__"), some (Value.bool true)] }
noncomputable def kO144 : Obj := { cls := Value.type "getset_descriptor", data := Data.fields #[Value.str (Str.ofString "__dict__") 390, Value.ref 143, Value.builtin "function.__dict__", Value.builtin "function.__dict__#set"] }
noncomputable def kO145 : Obj := { cls := Value.type "getset_descriptor", data := Data.fields #[Value.str (Str.ofString "__weakref__") 392, Value.ref 143, Value.builtin "ExceptionGroup.__weakref__", Value.none] }
noncomputable def kO146 : Obj := { cls := Value.type "super", data := Data.fields #[Value.ref 143, Value.ref 143, Value.ref 143] }
noncomputable def kO147 : Obj := { cls := Value.type "builtin_function_or_method", data := Data.fields #[Value.builtin "object.__init_subclass__", Value.ref 143] }
noncomputable def kO150 (P : Params) : Obj := { cls := Value.type "dict", data := Data.dict #[{ hash := PyData.keyHash P (Str.ofString "__module__"), key := Value.str (Str.ofString "__module__") 406, val := Value.str (Str.ofString "quic.spaces") 397 }, { hash := PyData.keyHash P (Str.ofString "__qualname__"), key := Value.str (Str.ofString "__qualname__") 408, val := Value.str (Str.ofString "Space") 407 }, { hash := PyData.keyHash P (Str.ofString "__firstlineno__"), key := Value.str (Str.ofString "__firstlineno__") 410, val := Value.int 111 409 }, { hash := PyData.keyHash P (Str.ofString "__init__"), key := Value.str (Str.ofString "__init__") 418, val := Value.ref 161 }, { hash := PyData.keyHash P (Str.ofString "is_known"), key := Value.str (Str.ofString "is_known") 426, val := Value.ref 168 }, { hash := PyData.keyHash P (Str.ofString "on_received"), key := Value.str (Str.ofString "on_received") 437, val := Value.ref 175 }, { hash := PyData.keyHash P (Str.ofString "ack_frame"), key := Value.str (Str.ofString "ack_frame") 446, val := Value.ref 182 }, { hash := PyData.keyHash P (Str.ofString "on_ack_sent"), key := Value.str (Str.ofString "on_ack_sent") 453, val := Value.ref 189 }, { hash := PyData.keyHash P (Str.ofString "owes_ack"), key := Value.str (Str.ofString "owes_ack") 460, val := Value.ref 196 }, { hash := PyData.keyHash P (Str.ofString "take_number"), key := Value.str (Str.ofString "take_number") 467, val := Value.ref 203 }, { hash := PyData.keyHash P (Str.ofString "on_sent"), key := Value.str (Str.ofString "on_sent") 478, val := Value.ref 210 }, { hash := PyData.keyHash P (Str.ofString "take"), key := Value.str (Str.ofString "take") 486, val := Value.ref 217 }, { hash := PyData.keyHash P (Str.ofString "acked_by"), key := Value.str (Str.ofString "acked_by") 494, val := Value.ref 224 }, { hash := PyData.keyHash P (Str.ofString "note_acked"), key := Value.str (Str.ofString "note_acked") 502, val := Value.ref 231 }, { hash := PyData.keyHash P (Str.ofString "note_ranges"), key := Value.str (Str.ofString "note_ranges") 510, val := Value.ref 238 }, { hash := PyData.keyHash P (Str.ofString "is_beyond"), key := Value.str (Str.ofString "is_beyond") 518, val := Value.ref 245 }, { hash := PyData.keyHash P (Str.ofString "note_largest"), key := Value.str (Str.ofString "note_largest") 526, val := Value.ref 252 }, { hash := PyData.keyHash P (Str.ofString "eliciting_left"), key := Value.str (Str.ofString "eliciting_left") 533, val := Value.ref 259 }, { hash := PyData.keyHash P (Str.ofString "bare_numbers"), key := Value.str (Str.ofString "bare_numbers") 540, val := Value.ref 266 }, { hash := PyData.keyHash P (Str.ofString "octets_out"), key := Value.str (Str.ofString "octets_out") 547, val := Value.ref 273 }, { hash := PyData.keyHash P (Str.ofString "sent_rows"), key := Value.str (Str.ofString "sent_rows") 554, val := Value.ref 280 }, { hash := PyData.keyHash P (Str.ofString "forget"), key := Value.str (Str.ofString "forget") 561, val := Value.ref 287 }, { hash := PyData.keyHash P (Str.ofString "__static_attributes__"), key := Value.str (Str.ofString "__static_attributes__") 579, val := Value.ref 288 }] 23 }
noncomputable def kO152 : Obj := { cls := Value.none, data := Data.fields #[Value.int 113 0, Value.int 4 0, Value.ref 160, Value.int 132 0, Value.int 4 0, Value.ref 167, Value.int 135 0, Value.int 4 0, Value.ref 174, Value.int 138 0, Value.int 4 0, Value.ref 181, Value.int 141 0, Value.int 4 0, Value.ref 188, Value.int 144 0, Value.int 4 0, Value.ref 195, Value.int 147 0, Value.int 4 0, Value.ref 202, Value.int 150 0, Value.int 4 0, Value.ref 209, Value.int 153 0, Value.int 4 0, Value.ref 216, Value.int 156 0, Value.int 4 0, Value.ref 223, Value.int 159 0, Value.int 4 0, Value.ref 230, Value.int 162 0, Value.int 4 0, Value.ref 237, Value.int 165 0, Value.int 4 0, Value.ref 244, Value.int 168 0, Value.int 4 0, Value.ref 251, Value.int 171 0, Value.int 4 0, Value.ref 258, Value.int 174 0, Value.int 4 0, Value.ref 265, Value.int 177 0, Value.int 4 0, Value.ref 272, Value.int 180 0, Value.int 4 0, Value.ref 279, Value.int 183 0, Value.int 4 0, Value.ref 286] }
noncomputable def kO153 : Obj := { cls := Value.type "code", data := Data.fields #[Value.str (Str.ofString "Space") 401, Value.str (Str.ofString "Space") 402, Value.str (Str.ofString "/claim/cut.py") 403, Value.int 111 0, Value.int 0 0, Value.int 0 0, Value.int 0 0, Value.int 0 0, Value.ref 151, Value.bool false, Value.int 181 0, Value.ref 152, Value.none, Value.none, Value.none, Value.none, Value.int 404 0, Value.int 111 0, Value.str (Str.ofString "/claim/cut.py") 405] }
noncomputable def kO154 : Obj := { cls := Value.type "frame", slots := #[some (Value.ref 153), some (Value.ref 3), some (Value.ref 150), none, some (Value.str (Str.ofString "quic.spaces") 397), none, some (Value.ref 0)] }
noncomputable def kO157 : Obj := { cls := Value.type "tuple", data := Data.seq #[Value.str (Str.ofString "self") 414, Value.str (Str.ofString "name") 415] }
noncomputable def kO160 : Obj := { cls := Value.type "code", data := Data.fields #[Value.str (Str.ofString "__init__") 411, Value.str (Str.ofString "Space.__init__") 412, Value.str (Str.ofString "/claim/cut.py") 413, Value.int 113 0, Value.int 2 0, Value.int 0 0, Value.int 0 0, Value.int 3 0, Value.ref 155, Value.bool true, Value.int 181 0, Value.ref 156, Value.none, Value.ref 157, Value.ref 158, Value.ref 159, Value.int 416 0, Value.int 113 0, Value.str (Str.ofString "/claim/cut.py") 417] }
noncomputable def kF161 : Obj := by
  refine (?f : (K : Obj) → K = fnK (metAt 16 0) (fun _ => Str.ofString "Space.__init__") (Value.str (Str.ofString "quic.spaces") 397) (.ref 160) → Obj) ?K ?h
  case f => exact fun K _ => K
  case h => conv => rhs; whnf
noncomputable def kO164 : Obj := { cls := Value.type "tuple", data := Data.seq #[Value.str (Str.ofString "self") 422, Value.str (Str.ofString "number") 423] }
noncomputable def kO167 : Obj := { cls := Value.type "code", data := Data.fields #[Value.str (Str.ofString "is_known") 419, Value.str (Str.ofString "Space.is_known") 420, Value.str (Str.ofString "/claim/cut.py") 421, Value.int 132 0, Value.int 2 0, Value.int 0 0, Value.int 0 0, Value.int 3 0, Value.ref 162, Value.bool true, Value.int 181 0, Value.ref 163, Value.none, Value.ref 164, Value.ref 165, Value.ref 166, Value.int 424 0, Value.int 132 0, Value.str (Str.ofString "/claim/cut.py") 425] }
noncomputable def kF168 : Obj := by
  refine (?f : (K : Obj) → K = fnK (metAt 16 1) (fun _ => Str.ofString "Space.is_known") (Value.str (Str.ofString "quic.spaces") 397) (.ref 167) → Obj) ?K ?h
  case f => exact fun K _ => K
  case h => conv => rhs; whnf
noncomputable def kO171 : Obj := { cls := Value.type "tuple", data := Data.seq #[Value.str (Str.ofString "self") 430, Value.str (Str.ofString "number") 431, Value.str (Str.ofString "now") 432, Value.str (Str.ofString "has_eliciting") 433, Value.str (Str.ofString "mark") 434] }
noncomputable def kO174 : Obj := { cls := Value.type "code", data := Data.fields #[Value.str (Str.ofString "on_received") 427, Value.str (Str.ofString "Space.on_received") 428, Value.str (Str.ofString "/claim/cut.py") 429, Value.int 135 0, Value.int 5 0, Value.int 0 0, Value.int 0 0, Value.int 3 0, Value.ref 169, Value.bool true, Value.int 181 0, Value.ref 170, Value.none, Value.ref 171, Value.ref 172, Value.ref 173, Value.int 435 0, Value.int 135 0, Value.str (Str.ofString "/claim/cut.py") 436] }
noncomputable def kF175 : Obj := by
  refine (?f : (K : Obj) → K = fnK (metAt 16 2) (fun _ => Str.ofString "Space.on_received") (Value.str (Str.ofString "quic.spaces") 397) (.ref 174) → Obj) ?K ?h
  case f => exact fun K _ => K
  case h => conv => rhs; whnf
noncomputable def kO178 : Obj := { cls := Value.type "tuple", data := Data.seq #[Value.str (Str.ofString "self") 441, Value.str (Str.ofString "now") 442, Value.str (Str.ofString "exponent") 443] }
noncomputable def kO181 : Obj := { cls := Value.type "code", data := Data.fields #[Value.str (Str.ofString "ack_frame") 438, Value.str (Str.ofString "Space.ack_frame") 439, Value.str (Str.ofString "/claim/cut.py") 440, Value.int 138 0, Value.int 3 0, Value.int 0 0, Value.int 0 0, Value.int 3 0, Value.ref 176, Value.bool true, Value.int 181 0, Value.ref 177, Value.none, Value.ref 178, Value.ref 179, Value.ref 180, Value.int 444 0, Value.int 138 0, Value.str (Str.ofString "/claim/cut.py") 445] }
noncomputable def kF182 : Obj := by
  refine (?f : (K : Obj) → K = fnK (metAt 16 3) (fun _ => Str.ofString "Space.ack_frame") (Value.str (Str.ofString "quic.spaces") 397) (.ref 181) → Obj) ?K ?h
  case f => exact fun K _ => K
  case h => conv => rhs; whnf
noncomputable def kO185 : Obj := { cls := Value.type "tuple", data := Data.seq #[Value.str (Str.ofString "self") 450] }
noncomputable def kO188 : Obj := { cls := Value.type "code", data := Data.fields #[Value.str (Str.ofString "on_ack_sent") 447, Value.str (Str.ofString "Space.on_ack_sent") 448, Value.str (Str.ofString "/claim/cut.py") 449, Value.int 141 0, Value.int 1 0, Value.int 0 0, Value.int 0 0, Value.int 3 0, Value.ref 183, Value.bool true, Value.int 181 0, Value.ref 184, Value.none, Value.ref 185, Value.ref 186, Value.ref 187, Value.int 451 0, Value.int 141 0, Value.str (Str.ofString "/claim/cut.py") 452] }
noncomputable def kF189 : Obj := by
  refine (?f : (K : Obj) → K = fnK (metAt 16 4) (fun _ => Str.ofString "Space.on_ack_sent") (Value.str (Str.ofString "quic.spaces") 397) (.ref 188) → Obj) ?K ?h
  case f => exact fun K _ => K
  case h => conv => rhs; whnf
noncomputable def kO192 : Obj := { cls := Value.type "tuple", data := Data.seq #[Value.str (Str.ofString "self") 457] }
noncomputable def kO195 : Obj := { cls := Value.type "code", data := Data.fields #[Value.str (Str.ofString "owes_ack") 454, Value.str (Str.ofString "Space.owes_ack") 455, Value.str (Str.ofString "/claim/cut.py") 456, Value.int 144 0, Value.int 1 0, Value.int 0 0, Value.int 0 0, Value.int 3 0, Value.ref 190, Value.bool true, Value.int 181 0, Value.ref 191, Value.none, Value.ref 192, Value.ref 193, Value.ref 194, Value.int 458 0, Value.int 144 0, Value.str (Str.ofString "/claim/cut.py") 459] }
noncomputable def kF196 : Obj := by
  refine (?f : (K : Obj) → K = fnK (metAt 16 5) (fun _ => Str.ofString "Space.owes_ack") (Value.str (Str.ofString "quic.spaces") 397) (.ref 195) → Obj) ?K ?h
  case f => exact fun K _ => K
  case h => conv => rhs; whnf
noncomputable def kO199 : Obj := { cls := Value.type "tuple", data := Data.seq #[Value.str (Str.ofString "self") 464] }
noncomputable def kO202 : Obj := { cls := Value.type "code", data := Data.fields #[Value.str (Str.ofString "take_number") 461, Value.str (Str.ofString "Space.take_number") 462, Value.str (Str.ofString "/claim/cut.py") 463, Value.int 147 0, Value.int 1 0, Value.int 0 0, Value.int 0 0, Value.int 3 0, Value.ref 197, Value.bool true, Value.int 181 0, Value.ref 198, Value.none, Value.ref 199, Value.ref 200, Value.ref 201, Value.int 465 0, Value.int 147 0, Value.str (Str.ofString "/claim/cut.py") 466] }
noncomputable def kF203 : Obj := by
  refine (?f : (K : Obj) → K = fnK (metAt 16 6) (fun _ => Str.ofString "Space.take_number") (Value.str (Str.ofString "quic.spaces") 397) (.ref 202) → Obj) ?K ?h
  case f => exact fun K _ => K
  case h => conv => rhs; whnf
noncomputable def kO206 : Obj := { cls := Value.type "tuple", data := Data.seq #[Value.str (Str.ofString "self") 471, Value.str (Str.ofString "number") 472, Value.str (Str.ofString "now") 473, Value.str (Str.ofString "size") 474, Value.str (Str.ofString "frames") 475] }
noncomputable def kO209 : Obj := { cls := Value.type "code", data := Data.fields #[Value.str (Str.ofString "on_sent") 468, Value.str (Str.ofString "Space.on_sent") 469, Value.str (Str.ofString "/claim/cut.py") 470, Value.int 150 0, Value.int 5 0, Value.int 0 0, Value.int 0 0, Value.int 3 0, Value.ref 204, Value.bool true, Value.int 181 0, Value.ref 205, Value.none, Value.ref 206, Value.ref 207, Value.ref 208, Value.int 476 0, Value.int 150 0, Value.str (Str.ofString "/claim/cut.py") 477] }
noncomputable def kF210 : Obj := by
  refine (?f : (K : Obj) → K = fnK (metAt 16 7) (fun _ => Str.ofString "Space.on_sent") (Value.str (Str.ofString "quic.spaces") 397) (.ref 209) → Obj) ?K ?h
  case f => exact fun K _ => K
  case h => conv => rhs; whnf
noncomputable def kO213 : Obj := { cls := Value.type "tuple", data := Data.seq #[Value.str (Str.ofString "self") 482, Value.str (Str.ofString "numbers") 483] }
noncomputable def kO216 : Obj := { cls := Value.type "code", data := Data.fields #[Value.str (Str.ofString "take") 479, Value.str (Str.ofString "Space.take") 480, Value.str (Str.ofString "/claim/cut.py") 481, Value.int 153 0, Value.int 2 0, Value.int 0 0, Value.int 0 0, Value.int 3 0, Value.ref 211, Value.bool true, Value.int 181 0, Value.ref 212, Value.none, Value.ref 213, Value.ref 214, Value.ref 215, Value.int 484 0, Value.int 153 0, Value.str (Str.ofString "/claim/cut.py") 485] }
noncomputable def kF217 : Obj := by
  refine (?f : (K : Obj) → K = fnK (metAt 16 8) (fun _ => Str.ofString "Space.take") (Value.str (Str.ofString "quic.spaces") 397) (.ref 216) → Obj) ?K ?h
  case f => exact fun K _ => K
  case h => conv => rhs; whnf
noncomputable def kO220 : Obj := { cls := Value.type "tuple", data := Data.seq #[Value.str (Str.ofString "self") 490, Value.str (Str.ofString "ranges") 491] }
noncomputable def kO223 : Obj := { cls := Value.type "code", data := Data.fields #[Value.str (Str.ofString "acked_by") 487, Value.str (Str.ofString "Space.acked_by") 488, Value.str (Str.ofString "/claim/cut.py") 489, Value.int 156 0, Value.int 2 0, Value.int 0 0, Value.int 0 0, Value.int 3 0, Value.ref 218, Value.bool true, Value.int 181 0, Value.ref 219, Value.none, Value.ref 220, Value.ref 221, Value.ref 222, Value.int 492 0, Value.int 156 0, Value.str (Str.ofString "/claim/cut.py") 493] }
noncomputable def kF224 : Obj := by
  refine (?f : (K : Obj) → K = fnK (metAt 16 9) (fun _ => Str.ofString "Space.acked_by") (Value.str (Str.ofString "quic.spaces") 397) (.ref 223) → Obj) ?K ?h
  case f => exact fun K _ => K
  case h => conv => rhs; whnf
noncomputable def kO227 : Obj := { cls := Value.type "tuple", data := Data.seq #[Value.str (Str.ofString "self") 498, Value.str (Str.ofString "numbers") 499] }
noncomputable def kO230 : Obj := { cls := Value.type "code", data := Data.fields #[Value.str (Str.ofString "note_acked") 495, Value.str (Str.ofString "Space.note_acked") 496, Value.str (Str.ofString "/claim/cut.py") 497, Value.int 159 0, Value.int 2 0, Value.int 0 0, Value.int 0 0, Value.int 3 0, Value.ref 225, Value.bool true, Value.int 181 0, Value.ref 226, Value.none, Value.ref 227, Value.ref 228, Value.ref 229, Value.int 500 0, Value.int 159 0, Value.str (Str.ofString "/claim/cut.py") 501] }
noncomputable def kF231 : Obj := by
  refine (?f : (K : Obj) → K = fnK (metAt 16 10) (fun _ => Str.ofString "Space.note_acked") (Value.str (Str.ofString "quic.spaces") 397) (.ref 230) → Obj) ?K ?h
  case f => exact fun K _ => K
  case h => conv => rhs; whnf
noncomputable def kO234 : Obj := { cls := Value.type "tuple", data := Data.seq #[Value.str (Str.ofString "self") 506, Value.str (Str.ofString "ranges") 507] }
noncomputable def kO237 : Obj := { cls := Value.type "code", data := Data.fields #[Value.str (Str.ofString "note_ranges") 503, Value.str (Str.ofString "Space.note_ranges") 504, Value.str (Str.ofString "/claim/cut.py") 505, Value.int 162 0, Value.int 2 0, Value.int 0 0, Value.int 0 0, Value.int 3 0, Value.ref 232, Value.bool true, Value.int 181 0, Value.ref 233, Value.none, Value.ref 234, Value.ref 235, Value.ref 236, Value.int 508 0, Value.int 162 0, Value.str (Str.ofString "/claim/cut.py") 509] }
noncomputable def kF238 : Obj := by
  refine (?f : (K : Obj) → K = fnK (metAt 16 11) (fun _ => Str.ofString "Space.note_ranges") (Value.str (Str.ofString "quic.spaces") 397) (.ref 237) → Obj) ?K ?h
  case f => exact fun K _ => K
  case h => conv => rhs; whnf
noncomputable def kO241 : Obj := { cls := Value.type "tuple", data := Data.seq #[Value.str (Str.ofString "self") 514, Value.str (Str.ofString "ranges") 515] }
noncomputable def kO244 : Obj := { cls := Value.type "code", data := Data.fields #[Value.str (Str.ofString "is_beyond") 511, Value.str (Str.ofString "Space.is_beyond") 512, Value.str (Str.ofString "/claim/cut.py") 513, Value.int 165 0, Value.int 2 0, Value.int 0 0, Value.int 0 0, Value.int 3 0, Value.ref 239, Value.bool true, Value.int 181 0, Value.ref 240, Value.none, Value.ref 241, Value.ref 242, Value.ref 243, Value.int 516 0, Value.int 165 0, Value.str (Str.ofString "/claim/cut.py") 517] }
noncomputable def kF245 : Obj := by
  refine (?f : (K : Obj) → K = fnK (metAt 16 12) (fun _ => Str.ofString "Space.is_beyond") (Value.str (Str.ofString "quic.spaces") 397) (.ref 244) → Obj) ?K ?h
  case f => exact fun K _ => K
  case h => conv => rhs; whnf
noncomputable def kO248 : Obj := { cls := Value.type "tuple", data := Data.seq #[Value.str (Str.ofString "self") 522, Value.str (Str.ofString "number") 523] }
noncomputable def kO251 : Obj := { cls := Value.type "code", data := Data.fields #[Value.str (Str.ofString "note_largest") 519, Value.str (Str.ofString "Space.note_largest") 520, Value.str (Str.ofString "/claim/cut.py") 521, Value.int 168 0, Value.int 2 0, Value.int 0 0, Value.int 0 0, Value.int 3 0, Value.ref 246, Value.bool true, Value.int 181 0, Value.ref 247, Value.none, Value.ref 248, Value.ref 249, Value.ref 250, Value.int 524 0, Value.int 168 0, Value.str (Str.ofString "/claim/cut.py") 525] }
noncomputable def kF252 : Obj := by
  refine (?f : (K : Obj) → K = fnK (metAt 16 13) (fun _ => Str.ofString "Space.note_largest") (Value.str (Str.ofString "quic.spaces") 397) (.ref 251) → Obj) ?K ?h
  case f => exact fun K _ => K
  case h => conv => rhs; whnf
noncomputable def kO255 : Obj := { cls := Value.type "tuple", data := Data.seq #[Value.str (Str.ofString "self") 530] }
noncomputable def kO258 : Obj := { cls := Value.type "code", data := Data.fields #[Value.str (Str.ofString "eliciting_left") 527, Value.str (Str.ofString "Space.eliciting_left") 528, Value.str (Str.ofString "/claim/cut.py") 529, Value.int 171 0, Value.int 1 0, Value.int 0 0, Value.int 0 0, Value.int 3 0, Value.ref 253, Value.bool true, Value.int 181 0, Value.ref 254, Value.none, Value.ref 255, Value.ref 256, Value.ref 257, Value.int 531 0, Value.int 171 0, Value.str (Str.ofString "/claim/cut.py") 532] }
noncomputable def kF259 : Obj := by
  refine (?f : (K : Obj) → K = fnK (metAt 16 14) (fun _ => Str.ofString "Space.eliciting_left") (Value.str (Str.ofString "quic.spaces") 397) (.ref 258) → Obj) ?K ?h
  case f => exact fun K _ => K
  case h => conv => rhs; whnf
noncomputable def kO262 : Obj := { cls := Value.type "tuple", data := Data.seq #[Value.str (Str.ofString "self") 537] }
noncomputable def kO265 : Obj := { cls := Value.type "code", data := Data.fields #[Value.str (Str.ofString "bare_numbers") 534, Value.str (Str.ofString "Space.bare_numbers") 535, Value.str (Str.ofString "/claim/cut.py") 536, Value.int 174 0, Value.int 1 0, Value.int 0 0, Value.int 0 0, Value.int 3 0, Value.ref 260, Value.bool true, Value.int 181 0, Value.ref 261, Value.none, Value.ref 262, Value.ref 263, Value.ref 264, Value.int 538 0, Value.int 174 0, Value.str (Str.ofString "/claim/cut.py") 539] }
noncomputable def kF266 : Obj := by
  refine (?f : (K : Obj) → K = fnK (metAt 16 15) (fun _ => Str.ofString "Space.bare_numbers") (Value.str (Str.ofString "quic.spaces") 397) (.ref 265) → Obj) ?K ?h
  case f => exact fun K _ => K
  case h => conv => rhs; whnf
noncomputable def kO269 : Obj := { cls := Value.type "tuple", data := Data.seq #[Value.str (Str.ofString "self") 544] }
noncomputable def kO272 : Obj := { cls := Value.type "code", data := Data.fields #[Value.str (Str.ofString "octets_out") 541, Value.str (Str.ofString "Space.octets_out") 542, Value.str (Str.ofString "/claim/cut.py") 543, Value.int 177 0, Value.int 1 0, Value.int 0 0, Value.int 0 0, Value.int 3 0, Value.ref 267, Value.bool true, Value.int 181 0, Value.ref 268, Value.none, Value.ref 269, Value.ref 270, Value.ref 271, Value.int 545 0, Value.int 177 0, Value.str (Str.ofString "/claim/cut.py") 546] }
noncomputable def kF273 : Obj := by
  refine (?f : (K : Obj) → K = fnK (metAt 16 16) (fun _ => Str.ofString "Space.octets_out") (Value.str (Str.ofString "quic.spaces") 397) (.ref 272) → Obj) ?K ?h
  case f => exact fun K _ => K
  case h => conv => rhs; whnf
noncomputable def kO276 : Obj := { cls := Value.type "tuple", data := Data.seq #[Value.str (Str.ofString "self") 551] }
noncomputable def kO279 : Obj := { cls := Value.type "code", data := Data.fields #[Value.str (Str.ofString "sent_rows") 548, Value.str (Str.ofString "Space.sent_rows") 549, Value.str (Str.ofString "/claim/cut.py") 550, Value.int 180 0, Value.int 1 0, Value.int 0 0, Value.int 0 0, Value.int 3 0, Value.ref 274, Value.bool true, Value.int 181 0, Value.ref 275, Value.none, Value.ref 276, Value.ref 277, Value.ref 278, Value.int 552 0, Value.int 180 0, Value.str (Str.ofString "/claim/cut.py") 553] }
noncomputable def kF280 : Obj := by
  refine (?f : (K : Obj) → K = fnK (metAt 16 17) (fun _ => Str.ofString "Space.sent_rows") (Value.str (Str.ofString "quic.spaces") 397) (.ref 279) → Obj) ?K ?h
  case f => exact fun K _ => K
  case h => conv => rhs; whnf
noncomputable def kO283 : Obj := { cls := Value.type "tuple", data := Data.seq #[Value.str (Str.ofString "self") 558] }
noncomputable def kO286 : Obj := { cls := Value.type "code", data := Data.fields #[Value.str (Str.ofString "forget") 555, Value.str (Str.ofString "Space.forget") 556, Value.str (Str.ofString "/claim/cut.py") 557, Value.int 183 0, Value.int 1 0, Value.int 0 0, Value.int 0 0, Value.int 3 0, Value.ref 281, Value.bool true, Value.int 181 0, Value.ref 282, Value.none, Value.ref 283, Value.ref 284, Value.ref 285, Value.int 559 0, Value.int 183 0, Value.str (Str.ofString "/claim/cut.py") 560] }
noncomputable def kF287 : Obj := by
  refine (?f : (K : Obj) → K = fnK (metAt 16 18) (fun _ => Str.ofString "Space.forget") (Value.str (Str.ofString "quic.spaces") 397) (.ref 286) → Obj) ?K ?h
  case f => exact fun K _ => K
  case h => conv => rhs; whnf
noncomputable def kO288 : Obj := { cls := Value.type "tuple", data := Data.seq #[Value.str (Str.ofString "acked") 562, Value.str (Str.ofString "ecn") 563, Value.str (Str.ofString "first_unacked") 564, Value.str (Str.ofString "floor") 565, Value.str (Str.ofString "has_new") 566, Value.str (Str.ofString "is_gone") 567, Value.str (Str.ofString "largest_acked") 568, Value.str (Str.ofString "largest_seen") 569, Value.str (Str.ofString "largest_time") 570, Value.str (Str.ofString "last_eliciting_time") 571, Value.str (Str.ofString "loss_time") 572, Value.str (Str.ofString "name") 573, Value.str (Str.ofString "next_number") 574, Value.str (Str.ofString "received") 575, Value.str (Str.ofString "sent") 576, Value.str (Str.ofString "unacked") 577, Value.str (Str.ofString "wants_now") 578] }
noncomputable def kO289 (P : Params) : Obj := { cls := Value.type "dict", data := Data.dict #[{ hash := PyData.keyHash P (Str.ofString "__module__"), key := Value.str (Str.ofString "__module__") 406, val := Value.str (Str.ofString "quic.spaces") 397 }, { hash := PyData.keyHash P (Str.ofString "__firstlineno__"), key := Value.str (Str.ofString "__firstlineno__") 410, val := Value.int 111 409 }, { hash := PyData.keyHash P (Str.ofString "__init__"), key := Value.str (Str.ofString "__init__") 418, val := Value.ref 161 }, { hash := PyData.keyHash P (Str.ofString "is_known"), key := Value.str (Str.ofString "is_known") 426, val := Value.ref 168 }, { hash := PyData.keyHash P (Str.ofString "on_received"), key := Value.str (Str.ofString "on_received") 437, val := Value.ref 175 }, { hash := PyData.keyHash P (Str.ofString "ack_frame"), key := Value.str (Str.ofString "ack_frame") 446, val := Value.ref 182 }, { hash := PyData.keyHash P (Str.ofString "on_ack_sent"), key := Value.str (Str.ofString "on_ack_sent") 453, val := Value.ref 189 }, { hash := PyData.keyHash P (Str.ofString "owes_ack"), key := Value.str (Str.ofString "owes_ack") 460, val := Value.ref 196 }, { hash := PyData.keyHash P (Str.ofString "take_number"), key := Value.str (Str.ofString "take_number") 467, val := Value.ref 203 }, { hash := PyData.keyHash P (Str.ofString "on_sent"), key := Value.str (Str.ofString "on_sent") 478, val := Value.ref 210 }, { hash := PyData.keyHash P (Str.ofString "take"), key := Value.str (Str.ofString "take") 486, val := Value.ref 217 }, { hash := PyData.keyHash P (Str.ofString "acked_by"), key := Value.str (Str.ofString "acked_by") 494, val := Value.ref 224 }, { hash := PyData.keyHash P (Str.ofString "note_acked"), key := Value.str (Str.ofString "note_acked") 502, val := Value.ref 231 }, { hash := PyData.keyHash P (Str.ofString "note_ranges"), key := Value.str (Str.ofString "note_ranges") 510, val := Value.ref 238 }, { hash := PyData.keyHash P (Str.ofString "is_beyond"), key := Value.str (Str.ofString "is_beyond") 518, val := Value.ref 245 }, { hash := PyData.keyHash P (Str.ofString "note_largest"), key := Value.str (Str.ofString "note_largest") 526, val := Value.ref 252 }, { hash := PyData.keyHash P (Str.ofString "eliciting_left"), key := Value.str (Str.ofString "eliciting_left") 533, val := Value.ref 259 }, { hash := PyData.keyHash P (Str.ofString "bare_numbers"), key := Value.str (Str.ofString "bare_numbers") 540, val := Value.ref 266 }, { hash := PyData.keyHash P (Str.ofString "octets_out"), key := Value.str (Str.ofString "octets_out") 547, val := Value.ref 273 }, { hash := PyData.keyHash P (Str.ofString "sent_rows"), key := Value.str (Str.ofString "sent_rows") 554, val := Value.ref 280 }, { hash := PyData.keyHash P (Str.ofString "forget"), key := Value.str (Str.ofString "forget") 561, val := Value.ref 287 }, { hash := PyData.keyHash P (Str.ofString "__static_attributes__"), key := Value.str (Str.ofString "__static_attributes__") 579, val := Value.ref 288 }, { hash := PyData.keyHash P (Str.ofString "__dict__"), key := Value.str (Str.ofString "__dict__") 581, val := Value.ref 291 }, { hash := PyData.keyHash P (Str.ofString "__weakref__"), key := Value.str (Str.ofString "__weakref__") 583, val := Value.ref 292 }, { hash := PyData.keyHash P (Str.ofString "__doc__"), key := Value.str (Str.ofString "__doc__") 584, val := Value.none }] 4 }
noncomputable def kO290 : Obj := { cls := Value.type "type", data := Data.cls { name := Str.ofString "Space", bases := [Value.type "object"], mro := [Value.ref 290, Value.type "object"], ns := 289, qualname := Str.ofString "Space" }, slots := #[none, none, some (Value.str (Str.ofString "Space") 399), some (Value.str (Str.ofString "Space") 407), some (Value.builtin "object.__new__"), some (Value.bool true)] }
noncomputable def kO291 : Obj := { cls := Value.type "getset_descriptor", data := Data.fields #[Value.str (Str.ofString "__dict__") 580, Value.ref 290, Value.builtin "function.__dict__", Value.builtin "function.__dict__#set"] }
noncomputable def kO292 : Obj := { cls := Value.type "getset_descriptor", data := Data.fields #[Value.str (Str.ofString "__weakref__") 582, Value.ref 290, Value.builtin "ExceptionGroup.__weakref__", Value.none] }
noncomputable def kO293 : Obj := { cls := Value.type "super", data := Data.fields #[Value.ref 290, Value.ref 290, Value.ref 290] }
noncomputable def kO294 : Obj := { cls := Value.type "builtin_function_or_method", data := Data.fields #[Value.builtin "object.__init_subclass__", Value.ref 290] }
noncomputable def kO297 : Obj := { cls := Value.type "tuple", data := Data.seq #[Value.str (Str.ofString "box") 592, Value.str (Str.ofString "many") 593] }
noncomputable def kO300 : Obj := { cls := Value.type "code", data := Data.fields #[Value.str (Str.ofString "_law_take") 589, Value.str (Str.ofString "_law_take") 590, Value.str (Str.ofString "/claim/cut.py") 591, Value.int 186 0, Value.int 2 0, Value.int 0 0, Value.int 0 0, Value.int 3 0, Value.ref 295, Value.bool true, Value.int 181 0, Value.ref 296, Value.none, Value.ref 297, Value.ref 298, Value.ref 299, Value.int 594 0, Value.int 186 0, Value.str (Str.ofString "/claim/cut.py") 595] }
noncomputable def kF301 : Obj := by
  refine (?f : (K : Obj) → K = fnK (topAt2 18) id (Value.str (Str.ofString "law_rg0253_01") 587) (.ref 300) → Obj) ?K ?h
  case f => exact fun K _ => K
  case h => conv => rhs; whnf
noncomputable def kO305 : Obj := { cls := Value.type "code", data := Data.fields #[Value.str (Str.ofString "_law_sent") 597, Value.str (Str.ofString "_law_sent") 598, Value.str (Str.ofString "/claim/cut.py") 599, Value.int 191 0, Value.int 2 0, Value.int 0 0, Value.int 0 0, Value.int 3 0, Value.ref 302, Value.bool true, Value.int 181 0, Value.ref 303, Value.none, Value.none, Value.none, Value.ref 304, Value.int 600 0, Value.int 191 0, Value.str (Str.ofString "/claim/cut.py") 601] }
noncomputable def kF306 : Obj := by
  refine (?f : (K : Obj) → K = fnK (topAt2 19) id (Value.str (Str.ofString "law_rg0253_01") 587) (.ref 305) → Obj) ?K ?h
  case f => exact fun K _ => K
  case h => conv => rhs; whnf
noncomputable def kO309 : Obj := { cls := Value.type "tuple", data := Data.seq #[Value.str (Str.ofString "name") 606, Value.str (Str.ofString "book") 607, Value.str (Str.ofString "host") 608] }
noncomputable def kO310 : Obj := { cls := Value.type "tuple", data := Data.seq #[Value.str (Str.ofString "name") 609, Value.str (Str.ofString "book") 610] }
noncomputable def kO312 : Obj := { cls := Value.type "code", data := Data.fields #[Value.str (Str.ofString "_law_host") 603, Value.str (Str.ofString "_law_host") 604, Value.str (Str.ofString "/claim/cut.py") 605, Value.int 194 0, Value.int 2 0, Value.int 0 0, Value.int 0 0, Value.int 3 0, Value.ref 307, Value.bool true, Value.int 181 0, Value.ref 308, Value.none, Value.ref 309, Value.ref 310, Value.ref 311, Value.int 611 0, Value.int 194 0, Value.str (Str.ofString "/claim/cut.py") 612] }
noncomputable def kF313 : Obj := by
  refine (?f : (K : Obj) → K = fnK (topAt2 20) id (Value.str (Str.ofString "law_rg0253_01") 587) (.ref 312) → Obj) ?K ?h
  case f => exact fun K _ => K
  case h => conv => rhs; whnf
noncomputable def kO317 : Obj := { cls := Value.type "code", data := Data.fields #[Value.str (Str.ofString "law") 614, Value.str (Str.ofString "law") 615, Value.str (Str.ofString "/claim/cut.py") 616, Value.int 201 0, Value.int 1 0, Value.int 0 0, Value.int 0 0, Value.int 3 0, Value.ref 314, Value.bool true, Value.int 181 0, Value.ref 315, Value.none, Value.none, Value.none, Value.ref 316, Value.int 617 0, Value.int 201 0, Value.str (Str.ofString "/claim/cut.py") 618] }
noncomputable def kF318 : Obj := by
  refine (?f : (K : Obj) → K = fnK (topAt2 21) id (Value.str (Str.ofString "law_rg0253_01") 587) (.ref 317) → Obj) ?K ?h
  case f => exact fun K _ => K
  case h => conv => rhs; whnf
noncomputable def kRaw (P : Params) : Frag := (nat_lit 2, boot_o_2 P) :: (nat_lit 3, kO3 P) :: (nat_lit 15, kO11) :: (nat_lit 17, kO17) :: (nat_lit 18, kO11) :: (nat_lit 20, kO20) :: (nat_lit 21, kF21) :: (nat_lit 22, kO22) :: (nat_lit 23, kO11) :: (nat_lit 25, kO25) :: (nat_lit 26, kO11) :: (nat_lit 28, kO28) :: (nat_lit 29, kF29) :: (nat_lit 30, kO11) :: (nat_lit 32, kO32) :: (nat_lit 33, kO11) :: (nat_lit 35, kO35) :: (nat_lit 36, kF36) :: (nat_lit 44, kO11) :: (nat_lit 46, kO46) :: (nat_lit 47, kO11) :: (nat_lit 49, kO49) :: (nat_lit 50, kF50) :: (nat_lit 51, kO11) :: (nat_lit 53, kO53) :: (nat_lit 54, kO11) :: (nat_lit 56, kO56) :: (nat_lit 57, kF57) :: (nat_lit 58, kO11) :: (nat_lit 60, kO60) :: (nat_lit 61, kO11) :: (nat_lit 63, kO63) :: (nat_lit 64, kF64) :: (nat_lit 65, kO11) :: (nat_lit 67, kO67) :: (nat_lit 68, kO11) :: (nat_lit 70, kO70) :: (nat_lit 71, kF71) :: (nat_lit 72, kO11) :: (nat_lit 75, kO75) :: (nat_lit 76, kF76) :: (nat_lit 77, kO11) :: (nat_lit 80, kO80) :: (nat_lit 81, kF81) :: (nat_lit 82, kO82) :: (nat_lit 83, kO83 P) :: (nat_lit 84, kO84) :: (nat_lit 85, kO85) :: (nat_lit 86, kO86) :: (nat_lit 89, kO11) :: (nat_lit 91, kO91) :: (nat_lit 92, kO11) :: (nat_lit 94, kO94) :: (nat_lit 95, kF95) :: (nat_lit 96, kO11) :: (nat_lit 99, kO99) :: (nat_lit 100, kF100) :: (nat_lit 108, kO11) :: (nat_lit 110, kO110) :: (nat_lit 111, kO11) :: (nat_lit 113, kO113) :: (nat_lit 114, kF114) :: (nat_lit 115, kO11) :: (nat_lit 117, kO117) :: (nat_lit 118, kO11) :: (nat_lit 120, kO120) :: (nat_lit 121, kF121) :: (nat_lit 122, kO11) :: (nat_lit 125, kO125) :: (nat_lit 126, kF126) :: (nat_lit 127, kO11) :: (nat_lit 129, kO129) :: (nat_lit 130, kO11) :: (nat_lit 132, kO132) :: (nat_lit 133, kF133) :: (nat_lit 134, kO11) :: (nat_lit 136, kO136) :: (nat_lit 137, kO11) :: (nat_lit 139, kO139) :: (nat_lit 140, kF140) :: (nat_lit 141, kO141) :: (nat_lit 142, kO142 P) :: (nat_lit 143, kO143) :: (nat_lit 144, kO144) :: (nat_lit 145, kO145) :: (nat_lit 155, kO11) :: (nat_lit 157, kO157) :: (nat_lit 158, kO11) :: (nat_lit 160, kO160) :: (nat_lit 161, kF161) :: (nat_lit 162, kO11) :: (nat_lit 164, kO164) :: (nat_lit 165, kO11) :: (nat_lit 167, kO167) :: (nat_lit 168, kF168) :: (nat_lit 169, kO11) :: (nat_lit 171, kO171) :: (nat_lit 172, kO11) :: (nat_lit 174, kO174) :: (nat_lit 175, kF175) :: (nat_lit 176, kO11) :: (nat_lit 178, kO178) :: (nat_lit 179, kO11) :: (nat_lit 181, kO181) :: (nat_lit 182, kF182) :: (nat_lit 183, kO11) :: (nat_lit 185, kO185) :: (nat_lit 186, kO11) :: (nat_lit 188, kO188) :: (nat_lit 189, kF189) :: (nat_lit 190, kO11) :: (nat_lit 192, kO192) :: (nat_lit 193, kO11) :: (nat_lit 195, kO195) :: (nat_lit 196, kF196) :: (nat_lit 197, kO11) :: (nat_lit 199, kO199) :: (nat_lit 200, kO11) :: (nat_lit 202, kO202) :: (nat_lit 203, kF203) :: (nat_lit 204, kO11) :: (nat_lit 206, kO206) :: (nat_lit 207, kO11) :: (nat_lit 209, kO209) :: (nat_lit 210, kF210) :: (nat_lit 211, kO11) :: (nat_lit 213, kO213) :: (nat_lit 214, kO11) :: (nat_lit 216, kO216) :: (nat_lit 217, kF217) :: (nat_lit 218, kO11) :: (nat_lit 220, kO220) :: (nat_lit 221, kO11) :: (nat_lit 223, kO223) :: (nat_lit 224, kF224) :: (nat_lit 225, kO11) :: (nat_lit 227, kO227) :: (nat_lit 228, kO11) :: (nat_lit 230, kO230) :: (nat_lit 231, kF231) :: (nat_lit 232, kO11) :: (nat_lit 234, kO234) :: (nat_lit 235, kO11) :: (nat_lit 237, kO237) :: (nat_lit 238, kF238) :: (nat_lit 239, kO11) :: (nat_lit 241, kO241) :: (nat_lit 242, kO11) :: (nat_lit 244, kO244) :: (nat_lit 245, kF245) :: (nat_lit 246, kO11) :: (nat_lit 248, kO248) :: (nat_lit 249, kO11) :: (nat_lit 251, kO251) :: (nat_lit 252, kF252) :: (nat_lit 253, kO11) :: (nat_lit 255, kO255) :: (nat_lit 256, kO11) :: (nat_lit 258, kO258) :: (nat_lit 259, kF259) :: (nat_lit 260, kO11) :: (nat_lit 262, kO262) :: (nat_lit 263, kO11) :: (nat_lit 265, kO265) :: (nat_lit 266, kF266) :: (nat_lit 267, kO11) :: (nat_lit 269, kO269) :: (nat_lit 270, kO11) :: (nat_lit 272, kO272) :: (nat_lit 273, kF273) :: (nat_lit 274, kO11) :: (nat_lit 276, kO276) :: (nat_lit 277, kO11) :: (nat_lit 279, kO279) :: (nat_lit 280, kF280) :: (nat_lit 281, kO11) :: (nat_lit 283, kO283) :: (nat_lit 284, kO11) :: (nat_lit 286, kO286) :: (nat_lit 287, kF287) :: (nat_lit 288, kO288) :: (nat_lit 289, kO289 P) :: (nat_lit 290, kO290) :: (nat_lit 291, kO291) :: (nat_lit 292, kO292) :: (nat_lit 295, kO11) :: (nat_lit 297, kO297) :: (nat_lit 298, kO11) :: (nat_lit 300, kO300) :: (nat_lit 301, kF301) :: (nat_lit 302, kO11) :: (nat_lit 305, kO305) :: (nat_lit 306, kF306) :: (nat_lit 307, kO11) :: (nat_lit 309, kO309) :: (nat_lit 310, kO310) :: (nat_lit 312, kO312) :: (nat_lit 313, kF313) :: (nat_lit 314, kO11) :: (nat_lit 317, kO317) :: (nat_lit 318, kF318) :: []
noncomputable def headK : Params → Frag := by
  refine (?f : (K : Params → Frag) → K = (fun P => kRaw P) → Params → Frag) ?K ?h
  case f => exact fun K _ => K
  case h => conv => rhs; delta kRaw boot_o_2 kF21 kF29 kF36 kF50 kF57 kF64 kF71 kF76 kF81 kF95 kF100 kF114 kF121 kF126 kF133 kF140 kF161 kF168 kF175 kF182 kF189 kF196 kF203 kF210 kF217 kF224 kF231 kF238 kF245 kF252 kF259 kF266 kF273 kF280 kF287 kF301 kF306 kF313 kF318 kO3 kO11 kO17 kO20 kO22 kO25 kO28 kO32 kO35 kO46 kO49 kO53 kO56 kO60 kO63 kO67 kO70 kO75 kO80 kO82 kO83 kO84 kO85 kO86 kO91 kO94 kO99 kO110 kO113 kO117 kO120 kO125 kO129 kO132 kO136 kO139 kO141 kO142 kO143 kO144 kO145 kO157 kO160 kO164 kO167 kO171 kO174 kO178 kO181 kO185 kO188 kO192 kO195 kO199 kO202 kO206 kO209 kO213 kO216 kO220 kO223 kO227 kO230 kO234 kO237 kO241 kO244 kO248 kO251 kO255 kO258 kO262 kO265 kO269 kO272 kO276 kO279 kO283 kO286 kO288 kO289 kO290 kO291 kO292 kO297 kO300 kO305 kO309 kO310 kO312 kO317
noncomputable def headAs : List Addr := nat_lit 2 :: nat_lit 3 :: nat_lit 15 :: nat_lit 17 :: nat_lit 18 :: nat_lit 20 :: nat_lit 21 :: nat_lit 22 :: nat_lit 23 :: nat_lit 25 :: nat_lit 26 :: nat_lit 28 :: nat_lit 29 :: nat_lit 30 :: nat_lit 32 :: nat_lit 33 :: nat_lit 35 :: nat_lit 36 :: nat_lit 44 :: nat_lit 46 :: nat_lit 47 :: nat_lit 49 :: nat_lit 50 :: nat_lit 51 :: nat_lit 53 :: nat_lit 54 :: nat_lit 56 :: nat_lit 57 :: nat_lit 58 :: nat_lit 60 :: nat_lit 61 :: nat_lit 63 :: nat_lit 64 :: nat_lit 65 :: nat_lit 67 :: nat_lit 68 :: nat_lit 70 :: nat_lit 71 :: nat_lit 72 :: nat_lit 75 :: nat_lit 76 :: nat_lit 77 :: nat_lit 80 :: nat_lit 81 :: nat_lit 82 :: nat_lit 83 :: nat_lit 84 :: nat_lit 85 :: nat_lit 86 :: nat_lit 89 :: nat_lit 91 :: nat_lit 92 :: nat_lit 94 :: nat_lit 95 :: nat_lit 96 :: nat_lit 99 :: nat_lit 100 :: nat_lit 108 :: nat_lit 110 :: nat_lit 111 :: nat_lit 113 :: nat_lit 114 :: nat_lit 115 :: nat_lit 117 :: nat_lit 118 :: nat_lit 120 :: nat_lit 121 :: nat_lit 122 :: nat_lit 125 :: nat_lit 126 :: nat_lit 127 :: nat_lit 129 :: nat_lit 130 :: nat_lit 132 :: nat_lit 133 :: nat_lit 134 :: nat_lit 136 :: nat_lit 137 :: nat_lit 139 :: nat_lit 140 :: nat_lit 141 :: nat_lit 142 :: nat_lit 143 :: nat_lit 144 :: nat_lit 145 :: nat_lit 155 :: nat_lit 157 :: nat_lit 158 :: nat_lit 160 :: nat_lit 161 :: nat_lit 162 :: nat_lit 164 :: nat_lit 165 :: nat_lit 167 :: nat_lit 168 :: nat_lit 169 :: nat_lit 171 :: nat_lit 172 :: nat_lit 174 :: nat_lit 175 :: nat_lit 176 :: nat_lit 178 :: nat_lit 179 :: nat_lit 181 :: nat_lit 182 :: nat_lit 183 :: nat_lit 185 :: nat_lit 186 :: nat_lit 188 :: nat_lit 189 :: nat_lit 190 :: nat_lit 192 :: nat_lit 193 :: nat_lit 195 :: nat_lit 196 :: nat_lit 197 :: nat_lit 199 :: nat_lit 200 :: nat_lit 202 :: nat_lit 203 :: nat_lit 204 :: nat_lit 206 :: nat_lit 207 :: nat_lit 209 :: nat_lit 210 :: nat_lit 211 :: nat_lit 213 :: nat_lit 214 :: nat_lit 216 :: nat_lit 217 :: nat_lit 218 :: nat_lit 220 :: nat_lit 221 :: nat_lit 223 :: nat_lit 224 :: nat_lit 225 :: nat_lit 227 :: nat_lit 228 :: nat_lit 230 :: nat_lit 231 :: nat_lit 232 :: nat_lit 234 :: nat_lit 235 :: nat_lit 237 :: nat_lit 238 :: nat_lit 239 :: nat_lit 241 :: nat_lit 242 :: nat_lit 244 :: nat_lit 245 :: nat_lit 246 :: nat_lit 248 :: nat_lit 249 :: nat_lit 251 :: nat_lit 252 :: nat_lit 253 :: nat_lit 255 :: nat_lit 256 :: nat_lit 258 :: nat_lit 259 :: nat_lit 260 :: nat_lit 262 :: nat_lit 263 :: nat_lit 265 :: nat_lit 266 :: nat_lit 267 :: nat_lit 269 :: nat_lit 270 :: nat_lit 272 :: nat_lit 273 :: nat_lit 274 :: nat_lit 276 :: nat_lit 277 :: nat_lit 279 :: nat_lit 280 :: nat_lit 281 :: nat_lit 283 :: nat_lit 284 :: nat_lit 286 :: nat_lit 287 :: nat_lit 288 :: nat_lit 289 :: nat_lit 290 :: nat_lit 291 :: nat_lit 292 :: nat_lit 295 :: nat_lit 297 :: nat_lit 298 :: nat_lit 300 :: nat_lit 301 :: nat_lit 302 :: nat_lit 305 :: nat_lit 306 :: nat_lit 307 :: nat_lit 309 :: nat_lit 310 :: nat_lit 312 :: nat_lit 313 :: nat_lit 314 :: nat_lit 317 :: nat_lit 318 :: []
noncomputable def heapF (P : Params) : Heap := { objs := Array.mk ((boot_o_0 P) :: (boot_o_1 P) :: (boot_o_2 P) :: (kO3 P) :: (boot_o_4 P) :: (boot_o_5 P) :: (boot_o_6 P) :: (boot_o_7 P) :: (boot_o_8 P) :: (boot_o_9 P) :: (boot_o_10 P) :: kO11 :: kO12 :: kO13 :: kO14 :: kO11 :: kO16 :: kO17 :: kO11 :: (fnP (topAt2 0) id) :: kO20 :: kF21 :: kO22 :: kO11 :: kO16 :: kO25 :: kO11 :: (fnP (topAt2 8) id) :: kO28 :: kF29 :: kO11 :: kO16 :: kO32 :: kO11 :: (fnP (topAt2 9) id) :: kO35 :: kF36 :: kO11 :: kO38 :: (kO39 P) :: kO11 :: kO41 :: kO42 :: kO43 :: kO11 :: kO16 :: kO46 :: kO11 :: (fnP (metAt 10 0) (fun _ => Str.ofString "Network.__init__")) :: kO49 :: kF50 :: kO11 :: kO16 :: kO53 :: kO11 :: (fnP (metAt 10 1) (fun _ => Str.ofString "Network.next_fate")) :: kO56 :: kF57 :: kO11 :: kO16 :: kO60 :: kO11 :: (fnP (metAt 10 2) (fun _ => Str.ofString "Network.put")) :: kO63 :: kF64 :: kO11 :: kO16 :: kO67 :: kO11 :: (fnP (metAt 10 3) (fun _ => Str.ofString "Network.carry")) :: kO70 :: kF71 :: kO11 :: kO16 :: (fnP (metAt 10 4) (fun _ => Str.ofString "Network.next_time")) :: kO75 :: kF76 :: kO11 :: kO16 :: (fnP (metAt 10 5) (fun _ => Str.ofString "Network.arrived")) :: kO80 :: kF81 :: kO82 :: (kO83 P) :: kO84 :: kO85 :: kO86 :: kO87 :: kO88 :: kO11 :: kO16 :: kO91 :: kO11 :: (fnP (topAt2 12) id) :: kO94 :: kF95 :: kO11 :: kO16 :: (fnP (topAt2 13) id) :: kO99 :: kF100 :: kO11 :: kO38 :: (kO103 P) :: kO11 :: kO105 :: kO106 :: kO107 :: kO11 :: kO16 :: kO110 :: kO11 :: (fnP (metAt 14 0) (fun _ => Str.ofString "TwoHosts.__init__")) :: kO113 :: kF114 :: kO11 :: kO16 :: kO117 :: kO11 :: (fnP (metAt 14 1) (fun _ => Str.ofString "TwoHosts.send_all")) :: kO120 :: kF121 :: kO11 :: kO16 :: (fnP (metAt 14 2) (fun _ => Str.ofString "TwoHosts.next_time")) :: kO125 :: kF126 :: kO11 :: kO16 :: kO129 :: kO11 :: (fnP (metAt 14 3) (fun _ => Str.ofString "TwoHosts.step")) :: kO132 :: kF133 :: kO11 :: kO16 :: kO136 :: kO11 :: (fnP (metAt 14 4) (fun _ => Str.ofString "TwoHosts.run")) :: kO139 :: kF140 :: kO141 :: (kO142 P) :: kO143 :: kO144 :: kO145 :: kO146 :: kO147 :: kO11 :: kO38 :: (kO150 P) :: kO11 :: kO152 :: kO153 :: kO154 :: kO11 :: kO16 :: kO157 :: kO11 :: (fnP (metAt 16 0) (fun _ => Str.ofString "Space.__init__")) :: kO160 :: kF161 :: kO11 :: kO16 :: kO164 :: kO11 :: (fnP (metAt 16 1) (fun _ => Str.ofString "Space.is_known")) :: kO167 :: kF168 :: kO11 :: kO16 :: kO171 :: kO11 :: (fnP (metAt 16 2) (fun _ => Str.ofString "Space.on_received")) :: kO174 :: kF175 :: kO11 :: kO16 :: kO178 :: kO11 :: (fnP (metAt 16 3) (fun _ => Str.ofString "Space.ack_frame")) :: kO181 :: kF182 :: kO11 :: kO16 :: kO185 :: kO11 :: (fnP (metAt 16 4) (fun _ => Str.ofString "Space.on_ack_sent")) :: kO188 :: kF189 :: kO11 :: kO16 :: kO192 :: kO11 :: (fnP (metAt 16 5) (fun _ => Str.ofString "Space.owes_ack")) :: kO195 :: kF196 :: kO11 :: kO16 :: kO199 :: kO11 :: (fnP (metAt 16 6) (fun _ => Str.ofString "Space.take_number")) :: kO202 :: kF203 :: kO11 :: kO16 :: kO206 :: kO11 :: (fnP (metAt 16 7) (fun _ => Str.ofString "Space.on_sent")) :: kO209 :: kF210 :: kO11 :: kO16 :: kO213 :: kO11 :: (fnP (metAt 16 8) (fun _ => Str.ofString "Space.take")) :: kO216 :: kF217 :: kO11 :: kO16 :: kO220 :: kO11 :: (fnP (metAt 16 9) (fun _ => Str.ofString "Space.acked_by")) :: kO223 :: kF224 :: kO11 :: kO16 :: kO227 :: kO11 :: (fnP (metAt 16 10) (fun _ => Str.ofString "Space.note_acked")) :: kO230 :: kF231 :: kO11 :: kO16 :: kO234 :: kO11 :: (fnP (metAt 16 11) (fun _ => Str.ofString "Space.note_ranges")) :: kO237 :: kF238 :: kO11 :: kO16 :: kO241 :: kO11 :: (fnP (metAt 16 12) (fun _ => Str.ofString "Space.is_beyond")) :: kO244 :: kF245 :: kO11 :: kO16 :: kO248 :: kO11 :: (fnP (metAt 16 13) (fun _ => Str.ofString "Space.note_largest")) :: kO251 :: kF252 :: kO11 :: kO16 :: kO255 :: kO11 :: (fnP (metAt 16 14) (fun _ => Str.ofString "Space.eliciting_left")) :: kO258 :: kF259 :: kO11 :: kO16 :: kO262 :: kO11 :: (fnP (metAt 16 15) (fun _ => Str.ofString "Space.bare_numbers")) :: kO265 :: kF266 :: kO11 :: kO16 :: kO269 :: kO11 :: (fnP (metAt 16 16) (fun _ => Str.ofString "Space.octets_out")) :: kO272 :: kF273 :: kO11 :: kO16 :: kO276 :: kO11 :: (fnP (metAt 16 17) (fun _ => Str.ofString "Space.sent_rows")) :: kO279 :: kF280 :: kO11 :: kO16 :: kO283 :: kO11 :: (fnP (metAt 16 18) (fun _ => Str.ofString "Space.forget")) :: kO286 :: kF287 :: kO288 :: (kO289 P) :: kO290 :: kO291 :: kO292 :: kO293 :: kO294 :: kO11 :: kO16 :: kO297 :: kO11 :: (fnP (topAt2 18) id) :: kO300 :: kF301 :: kO11 :: kO16 :: (fnP (topAt2 19) id) :: kO305 :: kF306 :: kO11 :: kO16 :: kO309 :: kO310 :: (fnP (topAt2 20) id) :: kO312 :: kF313 :: kO11 :: kO16 :: (fnP (topAt2 21) id) :: kO317 :: kF318 :: []) }
noncomputable def treeF (P : Params) : BT := .node (boot_o_0 P) (.node (boot_o_1 P) (.node (kO3 P) (.node (boot_o_7 P) (.node kO11 (.node kO16 (.node kO63 (.node kO11 (.node kO255 .nil .nil) .nil) (.node kO16 .nil .nil)) (.node kF95 (.node (fnP (metAt 16 0) (fun _ => Str.ofString "Space.__init__")) (.node kF287 .nil .nil) .nil) (.node kO223 .nil .nil))) (.node kO11 (.node (fnP (metAt 10 5) (fun _ => Str.ofString "Network.arrived")) (.node kO143 (.node (fnP (metAt 16 16) (fun _ => Str.ofString "Space.octets_out")) .nil .nil) .nil) (.node kO11 .nil .nil)) (.node kO11 (.node kF175 (.node kO16 .nil .nil) .nil) (.node kO11 .nil .nil)))) (.node kO11 (.node (kO39 P) (.node kF71 (.node kO16 (.node kO11 .nil .nil) .nil) (.node kO199 .nil .nil)) (.node (kO103 P) (.node kO167 (.node kO11 .nil .nil) .nil) (.node kF231 .nil .nil))) (.node (fnP (metAt 10 1) (fun _ => Str.ofString "Network.next_fate")) (.node kO87 (.node kO11 (.node kO279 .nil .nil) .nil) (.node (fnP (metAt 16 8) (fun _ => Str.ofString "Space.take")) .nil .nil)) (.node (fnP (metAt 14 1) (fun _ => Str.ofString "TwoHosts.send_all")) (.node kO11 (.node (fnP (topAt2 20) id) .nil .nil) .nil) (.node kO16 .nil .nil))))) (.node kO11 (.node (fnP (topAt2 0) id) (.node kO35 (.node kO67 (.node (fnP (metAt 14 3) (fun _ => Str.ofString "TwoHosts.step")) (.node kF259 .nil .nil) .nil) (.node kO195 .nil .nil)) (.node kO99 (.node kO16 (.node kO291 .nil .nil) .nil) (.node kO227 .nil .nil))) (.node kO11 (.node (kO83 P) (.node kO147 (.node kO16 .nil .nil) .nil) (.node kO11 .nil .nil)) (.node kO11 (.node kO11 (.node kO11 .nil .nil) .nil) (.node (fnP (metAt 16 12) (fun _ => Str.ofString "Space.is_beyond")) .nil .nil)))) (.node (fnP (topAt2 8) id) (.node kO43 (.node kO75 (.node kO139 (.node kO11 .nil .nil) .nil) (.node kF203 .nil .nil)) (.node kO107 (.node kO171 (.node (fnP (topAt2 18) id) .nil .nil) .nil) (.node kO11 .nil .nil))) (.node kO16 (.node kO91 (.node kO11 (.node kO283 .nil .nil) .nil) (.node kO16 .nil .nil)) (.node kO16 (.node (fnP (metAt 16 4) (fun _ => Str.ofString "Space.on_ack_sent")) (.node kO16 .nil .nil) .nil) (.node kO251 .nil .nil)))))) (.node (boot_o_5 P) (.node (boot_o_9 P) (.node kO17 (.node kO11 (.node kO11 (.node kO129 (.node (fnP (metAt 16 14) (fun _ => Str.ofString "Space.eliciting_left")) .nil .nil) .nil) (.node kO11 .nil .nil)) (.node kO16 (.node kF161 (.node (kO289 P) .nil .nil) .nil) (.node kO11 .nil .nil))) (.node kO49 (.node kF81 (.node kO145 (.node kF273 .nil .nil) .nil) (.node kO209 .nil .nil)) (.node kO113 (.node kO16 (.node kO305 .nil .nil) .nil) (.node kO241 .nil .nil)))) (.node kO25 (.node kO41 (.node kO16 (.node kO11 (.node kO265 .nil .nil) .nil) (.node (fnP (metAt 16 6) (fun _ => Str.ofString "Space.take_number")) .nil .nil)) (.node kO105 (.node kO11 (.node kO297 .nil .nil) .nil) (.node kO16 .nil .nil))) (.node kF57 (.node kO11 (.node kO153 (.node kO11 .nil .nil) .nil) (.node kF217 .nil .nil)) (.node kF121 (.node kO185 (.node kF313 .nil .nil) .nil) (.node kO11 .nil .nil))))) (.node kO13 (.node kF21 (.node kO11 (.node (fnP (metAt 10 3) (fun _ => Str.ofString "Network.carry")) (.node kF133 (.node kO16 .nil .nil) .nil) (.node kO11 .nil .nil)) (.node kO11 (.node kO11 (.node kO293 .nil .nil) .nil) (.node (fnP (metAt 16 10) (fun _ => Str.ofString "Space.note_acked")) .nil .nil))) (.node kO53 (.node kO85 (.node kO38 (.node kO11 .nil .nil) .nil) (.node kO213 .nil .nil)) (.node kO117 (.node kO181 (.node kO309 .nil .nil) .nil) (.node kF245 .nil .nil)))) (.node kF29 (.node kO16 (.node kO11 (.node kO141 (.node kO269 .nil .nil) .nil) (.node kO16 .nil .nil)) (.node kO16 (.node (fnP (metAt 16 2) (fun _ => Str.ofString "Space.on_received")) (.node kF301 .nil .nil) .nil) (.node kO237 .nil .nil))) (.node kO11 (.node (fnP (topAt2 12) id) (.node kO157 (.node (fnP (metAt 16 18) (fun _ => Str.ofString "Space.forget")) .nil .nil) .nil) (.node kO11 .nil .nil)) (.node kO125 (.node kF189 (.node kO317 .nil .nil) .nil) (.node kO11 .nil .nil))))))) (.node (boot_o_2 P) (.node (boot_o_4 P) (.node (boot_o_8 P) (.node kO16 (.node kO32 (.node kF64 (.node kO16 (.node kO11 .nil .nil) .nil) (.node kO192 .nil .nil)) (.node kO11 (.node kO160 (.node kO288 .nil .nil) .nil) (.node kF224 .nil .nil))) (.node (fnP (metAt 10 0) (fun _ => Str.ofString "Network.__init__")) (.node kO80 (.node kO144 (.node kO272 .nil .nil) .nil) (.node (fnP (metAt 16 7) (fun _ => Str.ofString "Space.on_sent")) .nil .nil)) (.node (fnP (metAt 14 0) (fun _ => Str.ofString "TwoHosts.__init__")) (.node kO11 (.node (fnP (topAt2 19) id) .nil .nil) .nil) (.node kO16 .nil .nil)))) (.node kO16 (.node kO11 (.node kO11 (.node kO136 (.node (fnP (metAt 16 15) (fun _ => Str.ofString "Space.bare_numbers")) .nil .nil) .nil) (.node kO11 .nil .nil)) (.node kO11 (.node kF168 (.node kO16 .nil .nil) .nil) (.node kO11 .nil .nil))) (.node kO56 (.node kO88 (.node kO152 (.node kF280 .nil .nil) .nil) (.node kO216 .nil .nil)) (.node kO120 (.node kO16 (.node kO312 .nil .nil) .nil) (.node kO248 .nil .nil))))) (.node kO12 (.node kO20 (.node kF36 (.node kO11 (.node kO132 (.node kO11 .nil .nil) .nil) (.node kF196 .nil .nil)) (.node kF100 (.node kO164 (.node kO292 .nil .nil) .nil) (.node kO11 .nil .nil))) (.node kO16 (.node kO84 (.node kO11 (.node kO276 .nil .nil) .nil) (.node kO16 .nil .nil)) (.node kO16 (.node (fnP (metAt 16 3) (fun _ => Str.ofString "Space.ack_frame")) (.node kO16 .nil .nil) .nil) (.node kO244 .nil .nil)))) (.node kO28 (.node kO11 (.node kF76 (.node kF140 (.node kO16 .nil .nil) .nil) (.node kO11 .nil .nil)) (.node kO11 (.node kO11 (.node kO300 .nil .nil) .nil) (.node (fnP (metAt 16 11) (fun _ => Str.ofString "Space.note_ranges")) .nil .nil))) (.node kO60 (.node kO11 (.node kO16 (.node kO11 .nil .nil) .nil) (.node kO220 .nil .nil)) (.node (fnP (metAt 14 2) (fun _ => Str.ofString "TwoHosts.next_time")) (.node kO188 (.node (fnP (topAt2 21) id) .nil .nil) .nil) (.node kF252 .nil .nil)))))) (.node (boot_o_6 P) (.node (boot_o_10 P) (.node kO11 (.node (fnP (topAt2 9) id) (.node kO16 (.node kO11 (.node kO258 .nil .nil) .nil) (.node (fnP (metAt 16 5) (fun _ => Str.ofString "Space.owes_ack")) .nil .nil)) (.node (fnP (topAt2 13) id) (.node kO11 (.node kO290 .nil .nil) .nil) (.node kO16 .nil .nil))) (.node kF50 (.node kO82 (.node kO146 (.node kO11 .nil .nil) .nil) (.node kF210 .nil .nil)) (.node kF114 (.node kO178 (.node kF306 .nil .nil) .nil) (.node kO11 .nil .nil)))) (.node kO11 (.node kO42 (.node (fnP (metAt 10 4) (fun _ => Str.ofString "Network.next_time")) (.node (fnP (metAt 14 4) (fun _ => Str.ofString "TwoHosts.run")) (.node kF266 .nil .nil) .nil) (.node kO202 .nil .nil)) (.node kO106 (.node kO16 (.node kO11 .nil .nil) .nil) (.node kO234 .nil .nil))) (.node kO11 (.node kO16 (.node kO154 (.node kO16 .nil .nil) .nil) (.node kO11 .nil .nil)) (.node kO11 (.node kO11 (.node kO11 .nil .nil) .nil) (.node (fnP (metAt 16 13) (fun _ => Str.ofString "Space.note_largest")) .nil .nil))))) (.node kO14 (.node kO22 (.node kO38 (.node kO70 (.node kO11 (.node kO262 .nil .nil) .nil) (.node kO16 .nil .nil)) (.node kO38 (.node (fnP (metAt 16 1) (fun _ => Str.ofString "Space.is_known")) (.node kO294 .nil .nil) .nil) (.node kO230 .nil .nil))) (.node kO11 (.node kO86 (.node (kO150 P) (.node (fnP (metAt 16 17) (fun _ => Str.ofString "Space.sent_rows")) .nil .nil) .nil) (.node kO11 .nil .nil)) (.node kO11 (.node kF182 (.node kO310 .nil .nil) .nil) (.node kO11 .nil .nil)))) (.node kO11 (.node kO46 (.node kO16 (.node (kO142 P) (.node kO11 .nil .nil) .nil) (.node kO206 .nil .nil)) (.node kO110 (.node kO174 (.node kO11 .nil .nil) .nil) (.node kF238 .nil .nil))) (.node (fnP (metAt 10 2) (fun _ => Str.ofString "Network.put")) (.node kO94 (.node kO11 (.node kO286 .nil .nil) .nil) (.node (fnP (metAt 16 9) (fun _ => Str.ofString "Space.acked_by")) .nil .nil)) (.node kF126 (.node kO11 (.node kF318 .nil .nil) .nil) (.node kO16 .nil .nil)))))))
theorem head_as (P : Params) : headAs = (headK P).map (·.1) := by kernel_rfl
noncomputable abbrev headH : Hook := kmHook headK headAs head_as [308]
theorem said : Challenge.rw_rg0253_01.wellSaid = true := by
  rw [PySem.W.Fast.te9446332074065402090]
  kernel_rfl
theorem head_open : opening pw = plainProg pw.main.scope.names := by kernel_rfl
theorem head_fence (s : Shared) : fenceModules? pw s = some s := by kernel_rfl
theorem head_size (w : World) : ((boot_heap w.params).isNs mainGlobals && (Array.mk [] : Array GenState).size == 0, (boot_heap w.params).objs.size, (boot_heap w.params).nsMap mainGlobals (Str.ofString "__annotations__")) = (true, 11, some (Value.ref 6)) := by kernel_rfl
noncomputable abbrev hPos : Pos := ⟨0, 0, 0, 0⟩
noncomputable abbrev hEnv : Env := { scope := pw.main.scope, locals := mainNs, globals := mainNs, cells := [], code := .ref 13, frame := some 14 }
noncomputable abbrev hBody : List Stmt := behindTheImports pw
noncomputable abbrev hCode : Code := .body hBody hEnv
noncomputable def hO11 : Obj := { cls := .type "tuple", data := .seq #[] }
noncomputable def hO12 : Obj := { cls := .none, data := .fields #[] }
noncomputable def hO13 : Obj := { cls := .type "code", data := .fields #[.str (Str.ofString "<module>") 182, .str (Str.ofString "<module>") 183, .str (Str.ofString "/claim/cut.py") 184, .int 1 0, .int 0 0, .int 0 0, .int 0 0, .int 0 0, .ref 11, .bool false, .int 181 0, .ref 12, .none, .none, .none, .none, .int 185 0, .int 1 0, .str (Str.ofString "/claim/cut.py") 186] }
noncomputable def hO14 : Obj := { cls := .type "frame", slots := #[some (.ref 13), some (.ref 3), some (.ref 3), none, some (.str (Str.ofString "__main__") 164), none, some (.ref 0)] }
noncomputable def heap15 (P : Params) : Heap := { objs := Array.mk [boot_o_0 P, boot_o_1 P, boot_o_2 P, boot_o_3 P, boot_o_4 P, boot_o_5 P, boot_o_6 P, boot_o_7 P, boot_o_8 P, boot_o_9 P, boot_o_10 P, hO11, hO12, hO13, hO14] }
noncomputable def tree15 (P : Params) : BT :=
  .node (boot_o_0 P) (.node (boot_o_1 P) (.node (boot_o_3 P) (.node (boot_o_7 P) .nil .nil) (.node hO11 .nil .nil)) (.node (boot_o_5 P) (.node (boot_o_9 P) .nil .nil) (.node hO13 .nil .nil)))
    (.node (boot_o_2 P) (.node (boot_o_4 P) (.node (boot_o_8 P) .nil .nil) (.node hO12 .nil .nil)) (.node (boot_o_6 P) (.node (boot_o_10 P) .nil .nil) (.node hO14 .nil .nil)))
theorem head_pre (w : World) (os : OsState) : topGo treeTable pw w 11 (some (.ref 6)) 12 ⟨boot_heap w.params, Array.mk [], boot_drawn, boot_toks, os⟩ (topStub pw) = some (⟨heap15 w.params, Array.mk [], {}, 187, os⟩, ⟨denote treeTable hCode, hCode, hPos, [topFrame hPos]⟩) := by
  kernel_rfl
theorem head_block (w : World) (os : OsState) : segRun treeTable pw w 11 (some (.ref 6)) 1 1 ⟨heap15 w.params, Array.mk [], {}, 187, os⟩ (blockOf hBody hEnv hCode hPos [topFrame hPos]) = some (.next, (⟨tree15 w.params, 15, {}, Array.mk [], {}, 187, os⟩ : SharedT).abs, hCode, hPos) := by
  kernel_rfl
theorem head_fin (w : World) (s : Shared) (p : Pos) : topRun treeTable pw w 11 (some (.ref 6)) 2 s ⟨doneF .next, hCode, p, [topFrame hPos]⟩ = some s := by kernel_rfl
theorem head_body (w : World) (os : OsState) : segRunT treeTable pw w 11 (some (.ref 6)) 1 1940 ⟨tree15 w.params, 15, {}, Array.mk [], {}, 187, os⟩ (piecesOf hBody hEnv hCode hPos [topFrame hPos]) = some (.next, ⟨treeF w.params, 319, {}, Array.mk [], {}, 620, os⟩, hCode, ⟨201, 0, 229, 96⟩) := by
  delta piecesOf
  rw [PySem.W.Fast.te10110043849684766642, PySem.W.Fast.te12563942051412417395, PySem.W.Fast.te14364793385576792824]
  kernel_rfl
theorem head_abs (w : World) (os : OsState) : (⟨treeF w.params, 319, {}, Array.mk [], {}, 620, os⟩ : SharedT).abs = ⟨heapF w.params, Array.mk [], {}, 620, os⟩ := by kernel_rfl
theorem head_go (w : World) (os : OsState) : topRun treeTable pw w 11 (some (.ref 6)) 3986 ⟨boot_heap w.params, Array.mk [], boot_drawn, boot_toks, os⟩ (topStub pw) = some ⟨heapF w.params, Array.mk [], {}, 620, os⟩ := by
  have h1 := piece_app (rest := []) (segRun_of (head_body w os)) (piece_nil (head_fin w _ _))
  rw [List.append_nil, head_abs] at h1
  exact topRun_mono 2031 _ _ _ _ (go_top (head_pre w os) (piece_block (head_block w os) h1))
theorem head_look1 (w : World) (os : OsState) : (staticsOk (importedModules pw.main.body) (boot_heap w.params) (heapF w.params) && namesBound pw (heapF w.params) && gensDone ⟨heapF w.params, Array.mk [], {}, 620, os⟩ && laidKept (boot_heap w.params) (heapF w.params)) = true := by kernel_rfl
theorem head_look2 (w : World) (os : OsState) : openSeen headView headLoose (importedModules pw.main.body) headXt true ⟨heapF w.params, Array.mk [], {}, 620, os⟩ = openGood headView headLoose := by
  rw [PySem.W.Fast.te4187177175401517315]
  kernel_rfl
theorem head_look3 (w : World) (os : OsState) : headH.obs ⟨heapF w.params, Array.mk [], {}, 620, os⟩ = headH.val w := by kernel_rfl
theorem left_t (w : World) (os : OsState) : topFrom treeTable pw w 3986 ⟨boot_heap w.params, Array.mk [], boot_drawn, boot_toks, os⟩ = some ⟨heapF w.params, Array.mk [], {}, 620, os⟩ := by
  have z1 := (Prod.mk.inj (head_size w)).1
  have z2 := (Prod.mk.inj (Prod.mk.inj (head_size w)).2).1
  have z3 := (Prod.mk.inj (Prod.mk.inj (head_size w)).2).2
  unfold topFrom
  dsimp only
  rw [z1, z2, z3, head_go]
  show (match staticsOk (importedModules pw.main.body) (boot_heap w.params) (heapF w.params) && namesBound pw (heapF w.params) && gensDone ⟨heapF w.params, Array.mk [], {}, 620, os⟩ && laidKept (boot_heap w.params) (heapF w.params) with | true => _ | false => _) = _
  rw [head_look1]
theorem left_e (w : World) : ∃ os, fencedOpening treeTable pw w 3986 = some ⟨boot_heap w.params, Array.mk [], boot_drawn, boot_toks, os⟩ := by
  obtain ⟨⟨h, gs, d, k, os⟩, e, e'⟩ := Option.map_eq_some_iff.mp (boot_open (N := 3986) head_open (by decide) head_fence w)
  have e1 := (Prod.mk.inj e').1
  have e2 := (Prod.mk.inj (Prod.mk.inj e').2).1
  have e3 := (Prod.mk.inj (Prod.mk.inj (Prod.mk.inj e').2).2).1
  have e4 := (Prod.mk.inj (Prod.mk.inj (Prod.mk.inj e').2).2).2
  subst e1 e2 e3 e4
  exact ⟨os, e⟩
theorem head_left : LeftO pw headView headLoose headXt headH.obs headH.val 3986 := fun w => by
  obtain ⟨os, e⟩ := left_e w
  unfold openEnds
  rw [e, Option.bind_some, left_t, Option.map_some]
  exact congrArg some (congr (congrArg Prod.mk (head_look2 w os)) (head_look3 w os))
section
/-! ## names for the text's parts; the frame's data as a record with its fields written -/
noncomputable def topAt (k : Nat) : Stmt := PySem.Challenge.pw_rg0253_01.main.body.getD k (.Pass ⟨0, 0, 0, 0⟩)
noncomputable def defScope : Stmt → Scope
  | .FunctionDef (scope := s) .. => s
  | _ => { kind := .module, names := [], isGenerator := false, isCoroutine := false, more := [] }
noncomputable def defBody : Stmt → List Stmt
  | .FunctionDef (body := b) .. => b
  | .While (body := b) .. => b
  | .For (body := b) .. => b
  | .ClassDef (body := b) .. => b
  | _ => []
noncomputable abbrev lawStmt : Stmt := topAt 21
noncomputable abbrev lawScope : Scope := defScope lawStmt
noncomputable abbrev lawBody : List Stmt := defBody lawStmt
noncomputable abbrev lawEnv (L fa : Addr) (cd : Value) : Env := envOfC (Str.ofString "law") lawScope L fa cd
/-- the surroundings of a call, every field written but the depth, the guards, the units -/
noncomputable abbrev mkA (env : Env) (outer : List Env) (d : Nat) (g : Option (List Code)) (u : Nat) : Around := { handled := none, depth := d, frames := some (env :: outer), guards := g, units := u }
noncomputable abbrev PR : Program := PySem.Challenge.rw_rg0253_01.row.prog

theorem lt_of_all {d a : Addr} {o : Obj} {l : List (Addr × Obj)} (h : ∀ p ∈ l, p.1 < d) (hm : (a, o) ∈ l) : @LT.lt Nat _ a d := h _ hm
theorem room_of {d : Nat} (h : d < 900) : d < recursionLimit := Nat.lt_of_lt_of_le h (by decide)
theorem mem_app_r {α : Type} {a : α} {l r : List α} (h : a ∈ r) : a ∈ l ++ r := List.mem_append.mpr (.inr h)
theorem mem_app_l {α : Type} {a : α} {l r : List α} (h : a ∈ l) : a ∈ l ++ r := List.mem_append.mpr (.inl h)
theorem tl_ne {d : Addr} {l tl : List (Addr × Obj)} (h : ∀ p ∈ l, p.1 < d) (hs : ∀ p ∈ tl, p ∈ l) : ∀ p ∈ tl, p.1 ≠ d := fun p hp => Nat.ne_of_lt (h p (hs p hp))
theorem News.of_sub {h₀ h : Heap} {L : Addr} {l l' : List (Addr × Obj)} (N : News h₀ L h l) (hs : ∀ p ∈ l', p ∈ l) : News h₀ L h l' := fun p hp => N p (hs p hp)
theorem lt_of_all2 {d x a : Addr} {o : Obj} {l : List (Addr × Obj)} (h2 : @LT.lt Nat _ d x) (h : ∀ p ∈ l, p.1 < d) (hm : (a, o) ∈ l) : @LT.lt Nat _ a x := Nat.lt_trans (h _ hm) h2
theorem tl_ne2 {d x : Addr} {l tl : List (Addr × Obj)} (h2 : @LT.lt Nat _ d x) (h : ∀ p ∈ l, p.1 < d) (hs : ∀ p ∈ tl, p ∈ l) : ∀ p ∈ tl, p.1 ≠ x := fun p hp => Nat.ne_of_lt (Nat.lt_trans (h p (hs p hp)) h2)
theorem all_lt_cons {d x : Addr} {o : Obj} {l : List (Addr × Obj)} (h : ∀ p ∈ l, p.1 < d) (h2 : @LT.lt Nat _ d x) : ∀ p ∈ (d, o) :: l, p.1 < x := fun p hp => by
  rcases List.mem_cons.mp hp with rfl | hp
  · exact h2
  · exact Nat.lt_trans (h p hp) h2
theorem all_lt_succ {d : Addr} {l : List (Addr × Obj)} (h : ∀ p ∈ l, p.1 < d) : ∀ p ∈ l, p.1 < d + 1 := fun p hp => Nat.lt_succ_of_lt (h p hp)
theorem tl_lt {d : Addr} {l tl : List (Addr × Obj)} (h : ∀ p ∈ l, p.1 < d) (hs : ∀ p ∈ tl, p ∈ l) : ∀ p ∈ tl, p.1 < d := fun p hp => h p (hs p hp)
theorem tl_lt2 {d x : Addr} {l tl : List (Addr × Obj)} (h2 : @LT.lt Nat _ d x) (h : ∀ p ∈ l, p.1 < d) (hs : ∀ p ∈ tl, p ∈ l) : ∀ p ∈ tl, p.1 < x := fun p hp => Nat.lt_trans (h p (hs p hp)) h2
theorem notMem_cons {α : Type} {a b : α} {l : List α} (h : a ≠ b) (h2 : a ∉ l) : a ∉ b :: l := fun q => by
  rcases List.mem_cons.mp q with e | e
  · exact h e
  · exact h2 e
theorem notMem_nil {α : Type} {a : α} : a ∉ ([] : List α) := fun q => nomatch q
theorem off1_all {D : Addr} : ∀ {l : List (Addr × Obj)}, LCg.Off1 D l → ∀ p ∈ l, p.1 ≠ D
  | [], _ => fun _ h => nomatch h
  | _ :: _, x => fun p hp => by
    rcases List.mem_cons.mp hp with rfl | hp
    · exact x.1
    · exact off1_all x.2 p hp
theorem ne_of_all {d a : Addr} {o : Obj} {l : List (Addr × Obj)} (h : ∀ p ∈ l, p.1 ≠ d) (hm : (a, o) ∈ l) : a ≠ d := h (a, o) hm
theorem tl_ne0 {d : Addr} {l tl : List (Addr × Obj)} (h : ∀ p ∈ l, p.1 ≠ d) (hs : ∀ p ∈ tl, p ∈ l) : ∀ p ∈ tl, p.1 ≠ d := fun p hp => h p (hs p hp)
/-- kept out of the walk's sight -/
noncomputable def Hid (P : Prop) : Prop := P
theorem stop_here {P : Prop} (h : Hid P) : P := h
theorem Hid.out {P : Prop} (h : P) : Hid P := h
noncomputable abbrev tupOf (vs : List Value) (n : Nat) : Obj := { cls := .type "tuple", data := .seq vs.toArray n }
/-! rows by their places in other rows: their proofs are small -/
noncomputable def Plc {α : Type} (I : List Nat) (M L : List α) : Prop := M.map some = I.map (fun i => L[i]?)
theorem mem_at {α : Type} {L : List α} {x : α} (i : Nat) (e : L[i]? = some x) : x ∈ L := List.mem_of_getElem? e
theorem Plc.sub {α : Type} {I : List Nat} {M L : List α} (e : Plc I M L) : ∀ p ∈ M, p ∈ L := fun p hp => by
  have h : some p ∈ I.map (fun i => L[i]?) := e ▸ List.mem_map.mpr ⟨p, hp, rfl⟩
  obtain ⟨i, _, h⟩ := List.mem_map.mp h
  exact List.mem_of_getElem? h
theorem Plc.nodup {α : Type} {L : List α} (h : L.Nodup) : ∀ {I : List Nat} {M : List α}, Plc I M L → I.Nodup → M.Nodup
  | [], [], _, _ => List.nodup_nil
  | [], _ :: _, e, _ => nomatch e
  | _ :: _, [], e, _ => nomatch e
  | i :: I, x :: M, e, hi => by
    have e1 : some x = L[i]? := (List.cons.inj e).1
    have e2 : Plc I M L := (List.cons.inj e).2
    have h2 := List.nodup_cons.mp hi
    refine List.nodup_cons.mpr ⟨fun hx => ?_, Plc.nodup h e2 h2.2⟩
    have h3 : some x ∈ I.map (fun i => L[i]?) := e2 ▸ List.mem_map.mpr ⟨x, hx, rfl⟩
    obtain ⟨j, hj, h4⟩ := List.mem_map.mp h3
    obtain ⟨l, _⟩ := List.getElem?_eq_some_iff.mp e1.symm
    have h5 : i = j := (List.getElem?_inj l h).mp (e1.symm.trans h4.symm)
    exact h2.1 (h5 ▸ hj)
theorem Plc.map {α β : Type} {I : List Nat} {M L : List α} (f : α → β) (e : Plc I M L) : Plc I (M.map f) (L.map f) := by
  have h := congrArg (List.map (Option.map f)) e
  simp only [Plc, List.map_map] at h ⊢
  simpa [Function.comp_def] using h
theorem Plc.app {α : Type} {I J : List Nat} {M N L : List α} (e1 : Plc I M L) (e2 : Plc J N L) : Plc (I ++ J) (M ++ N) L := by
  simp only [Plc, List.map_append] at e1 e2 ⊢
  rw [e1, e2]
theorem Plc.not {α : Type} {L as : List α} {x : α} (nd : L.Nodup) (i : Nat) (I : List Nat) (hi : (i :: I).Nodup) (e1 : Plc [i] [x] L) (e2 : Plc I as L) : x ∉ as := (List.nodup_cons.mp (Plc.nodup nd (Plc.app e1 e2) hi)).1
theorem Plc.ne {α : Type} {L : List α} {x y : α} (nd : L.Nodup) (i j : Nat) (hi : [i, j].Nodup) (e : Plc [i, j] [x, y] L) : x ≠ y := fun h => (List.nodup_cons.mp (Plc.nodup nd e hi)).1 (h ▸ .head _)
theorem Plc.nots {α : Type} {L as : List α} {x : α} (nd : L.Nodup) (i : Nat) (I : List Nat) (hi : (i :: I).Nodup) (e1 : Plc [i] [x] L) (e2 : Plc I as L) : ∀ y ∈ as, y ≠ x := fun _ hy e => Plc.not nd i I hi e1 e2 (e ▸ hy)
theorem Plc.apart {α : Type} {L as bs : List α} (nd : L.Nodup) (I J : List Nat) (hi : (I ++ J).Nodup) (e1 : Plc I as L) (e2 : Plc J bs L) : ∀ y ∈ as, y ∉ bs := fun y hy hz => (List.nodup_append.mp (Plc.nodup nd (Plc.app e1 e2) hi)).2.2 y hy y hz rfl
theorem fcons {α : Type} {P : α → Prop} {a : α} {l : List α} (h : P a) (t : ∀ x ∈ l, P x) : ∀ x ∈ a :: l, P x := List.forall_mem_cons.mpr ⟨h, t⟩
theorem Plc.inn {α : Type} {I J : List Nat} {X pre rest B tl : List α} (e1 : Plc I X B) (e2 : Plc J rest B) : ∀ p ∈ X ++ (pre ++ (rest ++ tl)), p ∈ pre ++ (B ++ tl) := fun p hp => by
  rcases List.mem_append.mp hp with h | h
  · exact List.mem_append.mpr (.inr (List.mem_append.mpr (.inl (e1.sub p h))))
  · rcases List.mem_append.mp h with h | h
    · exact List.mem_append.mpr (.inl h)
    · rcases List.mem_append.mp h with h | h
      · exact List.mem_append.mpr (.inr (List.mem_append.mpr (.inl (e2.sub p h))))
      · exact List.mem_append.mpr (.inr (List.mem_append.mpr (.inr h)))
theorem Plc.out {α : Type} {I : List Nat} {Y X own pre rest tl tl' : List α} (e : Plc I Y (X ++ rest)) (ht : ∀ p ∈ tl', p ∈ X ∨ p ∈ own ++ tl) : ∀ p ∈ pre ++ (Y ++ tl'), p ∈ X ++ (own ++ (pre ++ (rest ++ tl))) := fun p hp => by
  rcases List.mem_append.mp hp with h | h
  · exact List.mem_append.mpr (.inr (List.mem_append.mpr (.inr (List.mem_append.mpr (.inl h)))))
  · rcases List.mem_append.mp h with h | h
    · rcases List.mem_append.mp (e.sub p h) with h | h
      · exact List.mem_append.mpr (.inl h)
      · exact List.mem_append.mpr (.inr (List.mem_append.mpr (.inr (List.mem_append.mpr (.inr (List.mem_append.mpr (.inl h)))))))
    · rcases ht p h with h | h
      · exact List.mem_append.mpr (.inl h)
      · rcases List.mem_append.mp h with h | h
        · exact List.mem_append.mpr (.inr (List.mem_append.mpr (.inl h)))
        · exact List.mem_append.mpr (.inr (List.mem_append.mpr (.inr (List.mem_append.mpr (.inr (List.mem_append.mpr (.inr h)))))))
theorem sub_end {α : Type} {pre rest tl : List α} : ∀ p ∈ tl, p ∈ pre ++ (rest ++ tl) := fun _ h => List.mem_append.mpr (.inr (List.mem_append.mpr (.inr h)))
theorem mem_mid {α : Type} {pre rest tl : List α} {x : α} (i : Nat) (e : rest[i]? = some x) : x ∈ pre ++ (rest ++ tl) := List.mem_append.mpr (.inr (List.mem_append.mpr (.inl (mem_at i e))))
theorem perm_sub {α : Type} {A B tl : List α} (I : List Nat) (e : Plc I A B) : ∀ p ∈ A ++ tl, p ∈ B ++ tl := fun p hp => by
  rcases List.mem_append.mp hp with h | h
  · exact List.mem_append.mpr (.inl (e.sub p h))
  · exact List.mem_append.mpr (.inr h)

/-! ## an object's dict by what its names hold -/
theorem putL_len (nm : Str) (h : Int) (k v : Value) : ∀ es : List DictEntry, (putL nm h k v es).length ≤ es.length + 1
  | [] => Nat.le_refl _
  | e :: r => by
    unfold putL
    split
    · simp only [List.length_cons]; omega
    · simp only [List.length_cons]; have := putL_len nm h k v r; omega
theorem putL_find_self (nm : Str) (h : Int) (t : Tok) (v : Value) : ∀ es : List DictEntry, ((putL nm h (.str nm t) v es).find? fun e => e.key.isStr nm).map (·.val) = some v
  | [] => by
    have : (Value.str nm t).isStr nm = true := by simp [Value.isStr]
    simp [putL, this]
  | e :: r => by
    unfold putL
    split
    · rename_i q; simp [q]
    · rename_i q
      have q' : e.key.isStr nm = false := by simpa using q
      simp only [List.find?_cons, q']
      exact putL_find_self nm h t v r
theorem putL_find_ne {nm nm' : Str} (hn : nm ≠ nm') (h : Int) (t : Tok) (v : Value) : ∀ es : List DictEntry, ((putL nm' h (.str nm' t) v es).find? fun e => e.key.isStr nm).map (·.val) = (es.find? fun e => e.key.isStr nm).map (·.val)
  | [] => by
    have : (Value.str nm' t).isStr nm = false := by simp only [Value.isStr]; exact beq_eq_false_iff_ne.mpr (Ne.symm hn)
    simp [putL, this]
  | e :: r => by
    have ih := putL_find_ne hn h t v r
    unfold putL
    split
    · rename_i q
      have q' : e.key.isStr nm = false := by
        cases e with
        | mk hh k vv =>
          cases k with
          | str x u =>
            have e1 : x = nm' := eq_of_beq (by simpa only [Value.isStr] using q)
            subst e1
            exact beq_eq_false_iff_ne.mpr (Ne.symm hn)
          | _ => exact absurd q (by simp [Value.isStr])
      simp only [List.find?_cons, q']
    · cases hk : e.key.isStr nm with
      | true => simp only [List.find?_cons, hk]
      | false => simp only [List.find?_cons, hk]; exact ih
theorem putL_any (nm : Str) (h : Int) (t : Tok) (v : Value) : ∀ es : List DictEntry, (putL nm h (.str nm t) v es).any (·.refKey) = es.any (·.refKey)
  | [] => by rfl
  | e :: r => by
    unfold putL
    split
    · simp only [List.any_cons]; rfl
    · simp only [List.any_cons, putL_any nm h t v r]
theorem getL_eq (nm : Str) (es : List DictEntry) : getL nm es = match (es.find? fun e => e.key.isStr nm).map (·.val) with | some v => some (some v) | none => if es.any (·.refKey) then none else some none := by
  unfold getL
  cases es.find? fun e => e.key.isStr nm <;> rfl
theorem getL_put_self (nm : Str) (h : Int) (t : Tok) (v : Value) (es : List DictEntry) : getL nm (putL nm h (.str nm t) v es) = some (some v) := by
  rw [getL_eq, putL_find_self]
theorem getL_put_ne {nm nm' : Str} (hn : nm ≠ nm') (h : Int) (t : Tok) (v : Value) (es : List DictEntry) : getL nm (putL nm' h (.str nm' t) v es) = getL nm es := by
  rw [getL_eq, getL_eq, putL_find_ne hn, putL_any]
theorem getL_some {nm : Str} {es : List DictEntry} {x : Option Value} (h : getL nm es = some x) : (getL nm es).isSome = true := by rw [h]; rfl

theorem upd_parts {d : Addr} {o o' : Obj} {post : List (Addr × Obj)} : ∀ (pre : List (Addr × Obj)), (∀ p ∈ pre, p.1 ≠ d) → (∀ p ∈ post, p.1 ≠ d) → Upd d o o' (pre ++ (d, o) :: post) (pre ++ (d, o') :: post)
  | [], _, h => .head h
  | p :: r, h1, h => .tail (h1 p (.head _)) (upd_parts r (fun q hq => h1 q (.tail _ hq)) h)
noncomputable def grow : Option Value → Nat
  | none => 1
  | some _ => 0
theorem putL_len_some {nm : Str} {h : Int} {k v v' : Value} : ∀ {es : List DictEntry}, getL nm es = some (some v') → (putL nm h k v es).length = es.length
  | [], q => by rw [getL_eq] at q; simp at q
  | e :: r, q => by
    unfold putL
    split
    · rfl
    · rename_i z
      have z' : e.key.isStr nm = false := by simpa using z
      rw [getL_eq] at q
      simp only [List.find?_cons, z'] at q
      simp only [List.length_cons]
      refine congrArg (· + 1) (putL_len_some (v' := v') ?_)
      rw [getL_eq]
      cases hf : (r.find? fun e => e.key.isStr nm).map (·.val) with
      | some x => rw [hf] at q; exact q
      | none => rw [hf] at q; dsimp only at q; split at q <;> cases q
theorem putL_grow {nm : Str} {h : Int} {k v : Value} {es : List DictEntry} {y : Option Value} (q : getL nm es = some y) : (putL nm h k v es).length ≤ es.length + grow y := by
  cases y with
  | none => exact putL_len _ _ _ _ _
  | some v' => exact Nat.le_of_eq (putL_len_some q)
section
variable {prog : Program} {w : World} {A : Around} {E : Value → Shared → Prop} {s : Shared} {K : Frag} {C L : Addr} {h₀ : Heap} {m : Str → Option Value} {news : List (Addr × Obj)}
theorem set_attr {name : Str} {v : Value} {x dx : Addr} {ox : Obj} {es : List DictEntry} {n : Nat} {g : Obj → List (Addr × Obj)} {y : Option Value} {Q : Unit → Shared → Prop} (F : Fr h₀ L s.heap m) (X₀ : K.In h₀) (N : News h₀ L s.heap news) (I : InstAt s.heap x ox C (some (dictOf es n))) (hd : ox.dict = some dx)
    (hs : findIn K (.ref C) "__setattr__" = some (some (.builtin "object.__setattr__"))) (hp : plainOver K C = true) (ht : takerIn K C name = some none) (hh : hasDictIn K C = true) (hl : getL name es = some y)
    (hz : es.length ≤ 500) (U : UpdF dx (dictOf es n) news g)
    (h : ∀ es' n' h', Fr h₀ L h' m → News h₀ L h' (g (dictOf es' n')) → getL name es' = some (some v) → (∀ nm, nm ≠ name → getL nm es' = getL nm es) → es'.length ≤ es.length + grow y → Q () { s with heap := h', toks := s.toks + 2 }) :
    wpAny (model prog w) A (setAttr (.ref x) name v) Q E s := by
  obtain ⟨pre, post, e0, hg, x1, x2⟩ := U.split
  subst e0
  refine set_dict (news' := pre ++ (dx, dictOf (putL name (PyData.keyHash w.params name) (.str name (s.toks + 1)) v es) (putN name es n)) :: post) F X₀ N I hd hs hp ht hh (getL_some hl) rfl ?_ (Nat.le_trans (putL_len _ _ _ _ _) (by omega)) fun h' F' N' => ?_
  · exact upd_parts pre x1 x2
  · exact h _ _ h' F' (by rw [hg]; exact N') (getL_put_self _ _ _ _ _) (fun nm hn => getL_put_ne hn _ _ _ _) (putL_grow hl)
end

/-! ## from a contract over the objects that it changes to one over any ledger -/
noncomputable def offs (ms : List Addr) (l : List (Addr × Obj)) : List (Addr × Obj) := l.filter fun p => !(ms.any fun a => Nat.beq a p.1)
theorem mem_offs {ms : List Addr} {l : List (Addr × Obj)} {p : Addr × Obj} : p ∈ offs ms l ↔ p ∈ l ∧ p.1 ∉ ms := by
  unfold offs
  rw [List.mem_filter]
  refine and_congr_right fun _ => ?_
  rw [Bool.not_eq_true', List.any_eq_false]
  constructor
  · intro h q
    exact h _ q (Nat.beq_refl _)
  · intro h a ha q
    exact h (Nat.eq_of_beq_eq_true q ▸ ha)
theorem offs_ne {ms : List Addr} {l : List (Addr × Obj)} {a : Addr} (ha : a ∈ ms) : ∀ p ∈ offs ms l, p.1 ≠ a := fun _ hp q => (mem_offs.mp hp).2 (q ▸ ha)
theorem offs_sub {ms : List Addr} {l : List (Addr × Obj)} : ∀ p ∈ offs ms l, p ∈ l := fun _ hp => (mem_offs.mp hp).1
theorem Upd.back {d : Addr} {o o' : Obj} {l l' : List (Addr × Obj)} (U : Upd d o o' l l') {p : Addr × Obj} (hp : p ∈ l') : p = (d, o') ∨ (p ∈ l ∧ p.1 ≠ d) := by
  obtain ⟨pre, post, rfl, rfl, h1, h2⟩ := U.split
  rcases List.mem_append.mp hp with hp | hp
  · exact .inr ⟨List.mem_append.mpr (.inl hp), h1 p hp⟩
  · rcases List.mem_cons.mp hp with rfl | hp
    · exact .inl rfl
    · exact .inr ⟨List.mem_append.mpr (.inr (.tail _ hp)), h2 p hp⟩
theorem news_upd1 {h₀ h : Heap} {L d : Addr} {o o' : Obj} {own l l' : List (Addr × Obj)} (N : News h₀ L h ((d, o') :: (own ++ offs [d] l))) (U : Upd d o o' l l') : News h₀ L h (own ++ l') := fun p hp => by
  rcases List.mem_append.mp hp with hp | hp
  · exact N p (.tail _ (List.mem_append.mpr (.inl hp)))
  · rcases Upd.back U hp with rfl | ⟨h1, h2⟩
    · exact N _ (.head _)
    · exact N p (.tail _ (List.mem_append.mpr (.inr (mem_offs.mpr ⟨h1, fun q => h2 (List.mem_singleton.mp q)⟩))))
theorem news_upd3 {h₀ h : Heap} {L d e f : Addr} {o o' q q' r r' : Obj} {own l l1 l2 l3 : List (Addr × Obj)} (N : News h₀ L h ((d, o') :: (e, q') :: (f, r') :: (own ++ offs [d, e, f] l))) (U1 : Upd d o o' l l1) (U2 : Upd e q q' l1 l2) (U3 : Upd f r r' l2 l3) : News h₀ L h (own ++ l3) := fun p hp => by
  rcases List.mem_append.mp hp with hp | hp
  · exact N p (.tail _ (.tail _ (.tail _ (List.mem_append.mpr (.inl hp)))))
  · rcases Upd.back U3 hp with rfl | ⟨h1, h2⟩
    · exact N _ (.tail _ (.tail _ (.head _)))
    · rcases Upd.back U2 h1 with rfl | ⟨h3, h4⟩
      · exact N _ (.tail _ (.head _))
      · rcases Upd.back U1 h3 with rfl | ⟨h5, h6⟩
        · exact N _ (.head _)
        · refine N p (.tail _ (.tail _ (.tail _ (List.mem_append.mpr (.inr (mem_offs.mpr ⟨h5, fun z => ?_⟩))))))
          simp only [List.mem_cons, List.not_mem_nil, or_false] at z
          rcases z with z | z | z
          · exact h6 z
          · exact h4 z
          · exact h2 z
theorem nodup_ne {l : List Addr} (h : l.Nodup) {i j : Nat} {a b : Addr} (ha : l[i]? = some a) (hb : l[j]? = some b) (hij : i ≠ j) : a ≠ b := fun e => by
  subst e
  exact hij ((List.getElem?_inj (by obtain ⟨x, _⟩ := List.getElem?_eq_some_iff.mp ha; exact x) h).mp (ha.trans hb.symm))

end
section
/-! ## a for over a list that the call has made, its target any -/
noncomputable def TurnEnd (h₀ : Heap) (L I : Addr) (oI : Obj) (Jn : (Str → Option Value) → List (Addr × Obj) → Prop) (s₁ s₂ : Shared) : Prop :=
  ∃ h' tk m' news', s₂ = { s₁ with heap := h', toks := tk } ∧ Fr h₀ L h' m' ∧ News h₀ L h' ((I, oI) :: news') ∧ (∀ q ∈ news', q.1 ≠ I) ∧ Jn m' news'
noncomputable def TurnPost (h₀ : Heap) (L I : Addr) (oI : Obj) (Jn : (Str → Option Value) → List (Addr × Obj) → Prop) (s₁ : Shared) (Q : Flow → Shared → Prop) (f : Flow) (s₂ : Shared) : Prop :=
  match f with
  | .ret v => Q (.ret v) s₂
  | .brk => Q .next s₂
  | _ => TurnEnd h₀ L I oI Jn s₁ s₂
section
variable {prog : Program} {w : World} {A : Around} {E : Value → Shared → Prop} {s : Shared} {env : Env} {h₀ : Heap} {target : Expr} {body : List Stmt} {Q : Flow → Shared → Prop}
theorem turns_list {R : Addr} {vs : List Value} {n : Nat} {m₀ : Str → Option Value} {news : List (Addr × Obj)} (J : Nat → (Str → Option Value) → List (Addr × Obj) → Prop)
    (hh : A.handled = none) (F : Fr h₀ env.locals s.heap m₀) (N : News h₀ env.locals s.heap news) (hR : (R, listOf vs.toArray n) ∈ news) (j0 : J 0 m₀ news) (keepR : ∀ i m₁ news₁, J i m₁ news₁ → (R, listOf vs.toArray n) ∈ news₁)
    (step : ∀ I i v m₁ news₁ h tk oI, vs[i]? = some v → J i m₁ news₁ → Fr h₀ env.locals h m₁ → News h₀ env.locals h ((I, oI) :: news₁) → (∀ q ∈ news₁, q.1 ≠ I) →
      wpAny (model prog w) A (assign target env v) (fun _ s₃ => wpAny (model prog w) A (execs body env) (TurnPost h₀ env.locals I oI (J (i + 1)) { s with heap := h, toks := tk } Q) E s₃) E { s with heap := h, toks := tk })
    (done : ∀ m₁ news₁ h tk, J vs.length m₁ news₁ → Fr h₀ env.locals h m₁ → News h₀ env.locals h news₁ → Q .next { s with heap := h, toks := tk }) :
    wpAny (model prog w) A (pyIter (.ref R)) (fun it s₂ => TurnsAt prog w A h₀ env target body Q E it s₂) E s := by
  have hax := N _ hR
  have hl : s.heap.IsList R vs.toArray := ⟨_, hax.1, rfl, n, rfl⟩
  have hlt : R < s.heap.objs.size := Heap.lt_size hax.1
  have hne : R ≠ s.heap.objs.size := Nat.ne_of_lt hlt
  refine wpAny_pyIter_list hl ?_
  have W := KTurns.ofWalks (target := target) (Walks.list (prog := prog) (w := w) hh s.heap.objs.size R hne vs.toArray) fun i v s Q E st q => letGo_listiter st.1 q
  have hsz : vs.toArray.size = vs.length := by simp
  rw [hsz] at W
  refine ⟨_, _, _, vs.length, _, _, _, m₀, news, J, rfl, W, ?_, ?_, ?_, ?_, F.push _, fun p hp => ⟨Heap.get?_push_of_some _ (N p hp).1, (N p hp).2⟩, j0, ?_, ?_⟩
  · intro hI
    rcases List.mem_cons.mp hI with e | hI
    · exact absurd F.ns.lt (e ▸ Nat.lt_irrefl _)
    · exact hax.2.1 (List.mem_singleton.mp hI).symm
  · intro b hb
    rw [List.mem_singleton.mp hb]
    exact next_is_new F
  · intro p hp hI
    exact absurd (Heap.lt_size (N p hp).1) ((List.mem_singleton.mp hI) ▸ Nat.lt_irrefl _)
  · exact ⟨⟨_, Heap.get?_push_size _ rfl, rfl, rfl⟩, hl.at fun o e => Heap.get?_push_of_some _ e⟩
  · intro i v m₁ news₁ h₁ tk₁ own hi hP hJ hnw hown hget hmem hst F₁ N₁
    obtain ⟨oI, hIo, _⟩ := hst.1
    have hI₀ : h₀.get? s.heap.objs.size = none := next_is_new F
    have mI : (s.heap.objs.size, oI) ∈ own := hmem _ (by simp) hI₀ _ hIo
    have hv : vs[i]? = some v := by simpa using hP
    have hoff : ∀ q ∈ news₁, q.1 ≠ s.heap.objs.size := fun q hq e => hnw q hq (by rw [e]; simp)
    refine wpAny_mono (step s.heap.objs.size i v m₁ news₁ h₁ tk₁ oI hv hJ F₁ (fun p hp => ?_) hoff) (fun _ s₃ h₃ => wpAny_mono h₃ (fun f s₄ h₄ => ?_) fun _ _ e => e) fun _ _ e => e
    · rcases List.mem_cons.mp hp with rfl | hp
      · exact N₁ _ (List.mem_append.mpr (.inl mI))
      · exact N₁ _ (List.mem_append.mpr (.inr hp))
    · have fin : TurnEnd h₀ env.locals s.heap.objs.size oI (J (i + 1)) { s with heap := h₁, toks := tk₁ } s₄ → LoopStepU h₀ env.locals [s.heap.objs.size] own (J (i + 1)) { s with heap := h₁, toks := tk₁ } .next s₄ := by
        rintro ⟨h', tk, m', news', e, F', N', ho, hj⟩
        refine ⟨rfl, h', tk, m', news', e, F', fun p hp => ?_, fun p hp q => ho p hp (List.mem_singleton.mp q), hj⟩
        rcases List.mem_append.mp hp with hp | hp
        · have hf := hown p hp
          have hg := hget p hp
          rcases List.mem_cons.mp hf with e1 | hf
          · rw [e1, hIo] at hg
            have e2 : p = (s.heap.objs.size, oI) := Prod.ext e1 (Option.some.inj hg).symm
            rw [e2]; exact N' _ (.head _)
          · have e1 := List.mem_singleton.mp hf
            have hR1 : h₁.get? R = some (listOf vs.toArray n) := (N₁ _ (List.mem_append.mpr (.inr (keepR _ _ _ hJ)))).1
            rw [e1, hR1] at hg
            have e2 : p = (R, listOf vs.toArray n) := Prod.ext e1 (Option.some.inj hg).symm
            rw [e2]; exact N' _ (.tail _ (keepR _ _ _ hj))
        · exact N' p (.tail _ hp)
      cases f with
      | ret v => exact .ret h₄
      | brk => exact .brk h₄
      | next => exact .next (fin h₄)
      | cont => exact .cont (fin h₄)
  · intro h' tk m' news' F' N' _ hJ
    exact done m' news' h' tk hJ F' N'
end
/-- the ledger without the object at d -/
noncomputable def Del (d : Addr) (l l' : List (Addr × Obj)) : Prop := ∃ pre o post, l = pre ++ (d, o) :: post ∧ l' = pre ++ post ∧ (∀ p ∈ pre, p.1 ≠ d) ∧ ∀ p ∈ post, p.1 ≠ d
theorem Del.head {d : Addr} {o : Obj} {r : List (Addr × Obj)} (h : ∀ p ∈ r, p.1 ≠ d) : Del d ((d, o) :: r) r := ⟨[], o, r, rfl, rfl, fun _ h => (nomatch h), h⟩
theorem Del.tail {d : Addr} {p : Addr × Obj} {r r' : List (Addr × Obj)} (h : p.1 ≠ d) (x : Del d r r') : Del d (p :: r) (p :: r') := by
  obtain ⟨pre, o, post, rfl, rfl, h1, h2⟩ := x
  exact ⟨p :: pre, o, post, rfl, rfl, (fun q hq => by rcases List.mem_cons.mp hq with rfl | hq; exact h; exact h1 q hq), h2⟩
theorem Del.off {d : Addr} {l l' : List (Addr × Obj)} (x : Del d l l') : ∀ p ∈ l', p.1 ≠ d := by
  obtain ⟨pre, o, post, rfl, rfl, h1, h2⟩ := x
  intro p hp
  rcases List.mem_append.mp hp with hp | hp
  · exact h1 p hp
  · exact h2 p hp
theorem Del.sub {d : Addr} {l l' : List (Addr × Obj)} (x : Del d l l') : ∀ p ∈ l', p ∈ l := by
  obtain ⟨pre, o, post, rfl, rfl, h1, h2⟩ := x
  intro p hp
  rcases List.mem_append.mp hp with hp | hp
  · exact List.mem_append.mpr (.inl hp)
  · exact List.mem_append.mpr (.inr (.tail _ hp))
theorem Del.back {h₀ h : Heap} {L d : Addr} {o : Obj} {l l' : List (Addr × Obj)} (x : Del d l l') (N : News h₀ L h l) (hm : (d, o) ∈ l) : News h₀ L h ((d, o) :: l') := fun p hp => by
  rcases List.mem_cons.mp hp with rfl | hp
  · exact N _ hm
  · exact N p (x.sub p hp)
noncomputable def OneEnd (h₀ : Heap) (L I R : Addr) (oI oR : Obj) (s₁ : Shared) (Q : Flow → Shared → Prop) (s₂ : Shared) : Prop :=
  ∃ h' tk m' all rest, s₂ = { s₁ with heap := h', toks := tk } ∧ Fr h₀ L h' m' ∧ News h₀ L h' all ∧ (I, oI) ∈ all ∧ Del I all rest ∧ (R, oR) ∈ rest ∧ ∀ h'' tk'', Fr h₀ L h'' m' → News h₀ L h'' rest → Q .next { s₁ with heap := h'', toks := tk'' }
noncomputable def OnePost (h₀ : Heap) (L I R : Addr) (oI oR : Obj) (s₁ : Shared) (Q : Flow → Shared → Prop) (f : Flow) (s₂ : Shared) : Prop :=
  match f with
  | .ret v => Q (.ret v) s₂
  | .brk => Q .next s₂
  | _ => OneEnd h₀ L I R oI oR s₁ Q s₂
theorem OneEnd.intro {h₀ : Heap} {L I R : Addr} {oI oR : Obj} {s₁ : Shared} {Q : Flow → Shared → Prop} {h' : Heap} {tk : Nat} {m' : Str → Option Value} {all rest : List (Addr × Obj)} (F : Fr h₀ L h' m') (N : News h₀ L h' all) (D : Del I all rest) (hI : (I, oI) ∈ all) (hR : (R, oR) ∈ rest)
    (h : ∀ h'' tk'', Fr h₀ L h'' m' → News h₀ L h'' rest → Q .next { s₁ with heap := h'', toks := tk'' }) : OneEnd h₀ L I R oI oR s₁ Q { s₁ with heap := h', toks := tk } := ⟨h', tk, m', all, rest, rfl, F, N, hI, D, hR, h⟩
section
variable {prog : Program} {w : World} {A : Around} {E : Value → Shared → Prop} {s : Shared} {env : Env} {h₀ : Heap} {target : Expr} {body : List Stmt} {Q : Flow → Shared → Prop}
theorem turns_none {R : Addr} {n : Nat} {m₀ : Str → Option Value} {news : List (Addr × Obj)}
    (hh : A.handled = none) (F : Fr h₀ env.locals s.heap m₀) (N : News h₀ env.locals s.heap news) (hR : (R, listOf #[] n) ∈ news)
    (h : ∀ h' tk, Fr h₀ env.locals h' m₀ → News h₀ env.locals h' news → Q .next { s with heap := h', toks := tk }) :
    wpAny (model prog w) A (pyIter (.ref R)) (fun it s₂ => TurnsAt prog w A h₀ env target body Q E it s₂) E s :=
  turns_list (vs := []) (fun _ m₁ news₁ => m₁ = m₀ ∧ news₁ = news) hh F N hR ⟨rfl, rfl⟩ (fun _ _ _ j => j.2 ▸ hR) (fun I i v m₁ news₁ h tk oI hv => by simp at hv) fun m₁ news₁ h' tk j F' N' => by
    obtain ⟨rfl, rfl⟩ := j
    exact h h' tk F' N'
theorem turns_one {R : Addr} {v : Value} {n : Nat} {m₀ : Str → Option Value} {news : List (Addr × Obj)}
    (hh : A.handled = none) (F : Fr h₀ env.locals s.heap m₀) (N : News h₀ env.locals s.heap news) (hR : (R, listOf #[v] n) ∈ news)
    (h : ∀ I h' tk oI, Fr h₀ env.locals h' m₀ → News h₀ env.locals h' ((I, oI) :: news) → (∀ q ∈ news, q.1 ≠ I) →
      wpAny (model prog w) A (assign target env v) (fun _ s₃ => wpAny (model prog w) A (execs body env) (OnePost h₀ env.locals I R oI (listOf #[v] n) { s with heap := h', toks := tk } Q) E s₃) E { s with heap := h', toks := tk }) :
    wpAny (model prog w) A (pyIter (.ref R)) (fun it s₂ => TurnsAt prog w A h₀ env target body Q E it s₂) E s := by
  refine turns_list (vs := [v]) (fun i m₁ news₁ => (i = 0 ∧ m₁ = m₀ ∧ news₁ = news) ∨ (i ≠ 0 ∧ (R, listOf #[v] n) ∈ news₁ ∧ ∀ h'' tk'', Fr h₀ env.locals h'' m₁ → News h₀ env.locals h'' news₁ → Q .next { s with heap := h'', toks := tk'' })) hh F N hR (.inl ⟨rfl, rfl, rfl⟩) (fun i m₁ news₁ j => ?_) (fun I i u m₁ news₁ h' tk oI hv j F' N' ho => ?_) (fun m₁ news₁ h' tk j F' N' => ?_)
  · rcases j with ⟨_, _, rfl⟩ | ⟨_, j, _⟩
    · exact hR
    · exact j
  · rcases j with ⟨rfl, rfl, rfl⟩ | ⟨hi, _⟩
    · have hu : u = v := by simpa using hv.symm
      subst hu
      refine wpAny_mono (h I h' tk oI F' N' ho) (fun _ s₃ h₃ => wpAny_mono h₃ (fun f s₄ h₄ => ?_) fun _ _ e => e) fun _ _ e => e
      have fin : OneEnd h₀ env.locals I R oI (listOf #[u] n) { s with heap := h', toks := tk } Q s₄ → TurnEnd h₀ env.locals I oI (fun m₁ news₁ => (0 + 1 = 0 ∧ m₁ = m₁ ∧ news₁ = news₁) ∨ (0 + 1 ≠ 0 ∧ (R, listOf #[u] n) ∈ news₁ ∧ ∀ h'' tk'', Fr h₀ env.locals h'' m₁ → News h₀ env.locals h'' news₁ → Q .next { s with heap := h'', toks := tk'' })) { s with heap := h', toks := tk } s₄ := by
        rintro ⟨h2, tk2, m2, all, rest, e, F2, N2, hI, D, hR2, k⟩
        exact ⟨h2, tk2, m2, rest, e, F2, D.back N2 hI, D.off, .inr ⟨by decide, hR2, k⟩⟩
      cases f with
      | ret _ => exact h₄
      | brk => exact h₄
      | next =>
        obtain ⟨h2, tk2, m2, n2, e, F2, N2, o2, j2⟩ := fin h₄
        exact ⟨h2, tk2, m2, n2, e, F2, N2, o2, j2.elim (fun z => absurd z.1 (by decide)) .inr⟩
      | cont =>
        obtain ⟨h2, tk2, m2, n2, e, F2, N2, o2, j2⟩ := fin h₄
        exact ⟨h2, tk2, m2, n2, e, F2, N2, o2, j2.elim (fun z => absurd z.1 (by decide)) .inr⟩
    · have : i = 0 := by
        cases i with
        | zero => rfl
        | succ i => simp at hv
      exact absurd this hi
  · rcases j with ⟨hi, _⟩ | ⟨_, _, k⟩
    · simp at hi
    · exact k h' tk F' N'
end
theorem unr_del {h₀ : Heap} {L I : Addr} {it : Obj} {rest : (Str → Option Value) → List (Addr × Obj) → Prop} {s₁ : Shared} {h' : Heap} {tk : Nat} {m' : Str → Option Value} {all l' : List (Addr × Obj)} (F : Fr h₀ L h' m') (N : News h₀ L h' all) (D : Del I all l')
    (hI : (I, it) ∈ all) (r : rest m' l') : UnrEnd h₀ L s₁ I it rest { s₁ with heap := h', toks := tk } := ⟨h', tk, m', l', rfl, F, D.back N hI, D.off, r⟩
section
variable {prog : Program} {w : World} {A : Around} {E : Value → Shared → Prop} {s : Shared} {env : Env} {h₀ : Heap} {target : Expr} {body : List Stmt} {Q : Flow → Shared → Prop}
theorem turns_none0 {R : Addr} {n : Nat} {m₀ : Str → Option Value} {news : List (Addr × Obj)}
    (hh : A.handled = none) (F : Fr h₀ env.locals s.heap m₀) (N : News h₀ env.locals s.heap ((R, listOf #[] n) :: news))
    (h : ∀ h' tk, Fr h₀ env.locals h' m₀ → News h₀ env.locals h' ((R, listOf #[] n) :: news) → Q .next { s with heap := h', toks := tk }) :
    wpAny (model prog w) A (pyIter (.ref R)) (fun it s₂ => TurnsAt prog w A h₀ env target body Q E it s₂) E s := turns_none hh F N (.head _) h
theorem turns_one0 {R : Addr} {v : Value} {n : Nat} {m₀ : Str → Option Value} {news : List (Addr × Obj)}
    (hh : A.handled = none) (F : Fr h₀ env.locals s.heap m₀) (N : News h₀ env.locals s.heap ((R, listOf #[v] n) :: news))
    (h : ∀ I h' tk oI, Fr h₀ env.locals h' m₀ → News h₀ env.locals h' ((I, oI) :: (R, listOf #[v] n) :: news) → (∀ q ∈ (R, listOf #[v] n) :: news, q.1 ≠ I) →
      wpAny (model prog w) A (assign target env v) (fun _ s₃ => wpAny (model prog w) A (execs body env) (OnePost h₀ env.locals I R oI (listOf #[v] n) { s with heap := h', toks := tk } Q) E s₃) E { s with heap := h', toks := tk }) :
    wpAny (model prog w) A (pyIter (.ref R)) (fun it s₂ => TurnsAt prog w A h₀ env target body Q E it s₂) E s := turns_one hh F N (.head _) h
end

/-! ## an item of a list, of a tuple, that stands in the ledger -/
section
variable {prog : Program} {w : World} {A : Around} {E : Value → Shared → Prop} {s : Shared} {h₀ : Heap} {L l : Addr} {news : List (Addr × Obj)}
theorem item_list {value slice : PySem.Expr} {vs : List Value} {n : Nat} {k : Int} {u : Tok} {v : Value} {Q : Value → Shared → Prop} (N : News h₀ L s.heap news) (hm : (l, listOf vs.toArray n) ∈ news)
    (h0 : 0 ≤ k) (h1 : k < 2 ^ 63) (hx : vs[k.toNat]? = some v) (h : Q v s)
    (hs : subscripted slice false (.ref l) (.int k u) = operate [.ref l, .int k u] (getItem (.ref l) (.int k u)) := by with_unfolding_all rfl) :
    wpAny (model prog w) A (subscriptTail value slice (.ref l) (.int k u)) Q E s := by
  have hl : s.heap.IsList l vs.toArray := ⟨_, (N _ hm).1, rfl, n, rfl⟩
  exact tail_any hl.typeIs slot_list_getitem.lookup (wpAny_getItem_list hl h0 h1 (by simpa using hx) h) hs
end

end
/-! ## the walk's small steps, turned to ledgers with an open tail -/
local macro_rules | `(tactic| k_lt $h) => `(tactic| skip)
local macro_rules | `(tactic| k_mem) => `(tactic| first | with_reducible assumption | with_reducible exact List.mem_cons_self | (with_reducible refine' List.mem_cons_of_mem _ ?_; k_mem))
local macro_rules | `(tactic| k_memK) => `(tactic| first | with_reducible exact List.mem_cons_self | (with_reducible refine' List.mem_cons_of_mem _ ?_; k_memK))
/-! parts of the lines below (the names are the kit's, of lines that this text does not want) -/
local macro_rules | `(tactic| kctr_letter) => `(tactic| ((case h => with_reducible assumption); (case m => first | with_reducible assumption | k_memK)))
local macro_rules | `(tactic| kgr_truth) => `(tactic| ((case h => with_reducible assumption); (case s => (intro p hp; repeat (first | exact hp | refine List.mem_cons_of_mem _ ?_ | refine mem_app_r ?_)))))
local macro_rules | `(tactic| kbd_read) => `(tactic| try simp only [depth_under_make, depth_under_kw, depth_in1, depth_deeper, depth_caller])
local macro_rules | `(tactic| kbt_pows) => `(tactic| ((case kA => exact rfl); (case kF => first | exact rfl | assumption); (case kK => first | exact rfl | assumption); (case k1 => k_asm); (case k2 => k_asm); (case k3 => k_asm); (case k4 => k_asm); (case k5 => k_asm)))
local macro_rules | `(tactic| krs_num) => `(tactic| ((case k6 => k_is); (case k7 => k_is); (case k8 => k_room); (case k9 => first | exact BindsTo.of_eq rfl | exact binds_K (by k_in) rfl (by k_is) rfl rfl rfl)))
local macro_rules | `(tactic| kfm_signs) => `(tactic| ((case c2 => exact rfl); (case c3 => exact rfl); (case c4 => exact rfl)))
local macro_rules | `(tactic| ktm_count) => `(tactic| ((case B => k_asm); (case F => k_asm); (case X => k_asm); (case T => k_asm); (case N => k_asm); (case hf => exact rfl); (case hk => exact rfl); (case hd => first | assumption | (kbd_read; (try dsimp only [mkA]); omega))))
local macro_rules | `(tactic| kst_entry) => `(tactic| exact fun p hp => by repeat (first | exact hp | refine List.mem_cons_of_mem _ ?_))
local macro_rules | `(tactic| kpc_text) => `(tactic| ((case hh => exact rfl); (case F => k_asm); (case hx => exact rfl); (case hkind => exact rfl); (case hd => exact rfl)))
local macro_rules | `(tactic| kbm_accL) => `(tactic| ((case F => k_asm); (case N => k_asm); (case o => with_reducible assumption); (case S => exact Or.inr ⟨_, by k_mem, rfl, _, rfl⟩)))
local macro_rules | `(tactic| k_ne) => `(tactic| (refine neN ?_; (try dsimp only); first
  | with_reducible assumption
  | (refine Ne.symm ?_; with_reducible assumption)
  | (refine Nat.ne_of_lt ?_; refine' lt_of_all ?h ?m; kctr_letter)
  | (refine Nat.ne_of_gt ?_; refine' lt_of_all ?h ?m; kctr_letter)
  | (refine Nat.ne_of_lt ?_; refine' lt_of_all2 ?g ?h ?m; (case g => with_reducible assumption); kctr_letter)
  | (refine Nat.ne_of_gt ?_; refine' lt_of_all2 ?g ?h ?m; (case g => with_reducible assumption); kctr_letter)
  | (refine Nat.ne_of_lt ?_; with_reducible assumption)
  | (refine Nat.ne_of_gt ?_; with_reducible assumption)
  | (refine' ne_of_all ?h ?m; kctr_letter)
  | (refine Ne.symm ?_; refine' ne_of_all ?h ?m; kctr_letter)
  | omega))
local macro_rules | `(tactic| k_all) => `(tactic| first
  | with_reducible assumption
  | exact List.forall_mem_nil _
  | (refine' List.forall_mem_cons.mpr ⟨?a, ?b⟩; (case a => k_ne); (case b => k_all))
  | (refine' tl_ne ?h ?s; kgr_truth)
  | (refine' tl_ne0 ?h ?s; kgr_truth)
  | (refine' tl_ne2 ?g ?h ?s; (case g => with_reducible assumption); kgr_truth))
local macro_rules | `(tactic| k_room) => `(tactic| first | (refine room_of ?_; kbd_read; omega) | (kbd_read; decide))
local macro_rules | `(tactic| k_get) => `(tactic| with_reducible assumption)
local macro_rules | `(tactic| k_enter) => `(tactic| first
  | (refine' code_def ?k1 ?k2 ?k3 ?k4 ?k5 ?kA ?kF ?kK ?k6 ?k7 ?k8 ?k9 ?kB ?_ ?c2 ?c3 ?c4 ?c5; kbt_pows; krs_num
     (case c5 => decide)
     (case kB => exact locs rfl)
     kfm_signs
     (intro g' L' h' FG' F' N' B' X' T'; (try dsimp only); (try k_fold)))
  | (refine' code_defC ?k1 ?k2 ?k3 ?k4 ?k5 ?kA ?kF ?kK ?k6 ?k7 ?k8 ?k9 ?kB ?kD ?_ ?c2 ?c3 ?c4; kbt_pows; krs_num
     (case kB => exact rfl)
     (case kD => decide +kernel)
     kfm_signs
     (intro g' L' h' tk' cells' FG' F' N' Y' B' X' T' l1; (have l1a := all_lt_succ l1); (have l1b := all_lt_succ l1a); k_cells Y'; (try simp only [List.cons_append, List.nil_append] at N'); (try dsimp only); (try k_fold))))
/-- each of these addresses is above these, by the facts of the making -/
local macro_rules | `(tactic| k_allIn) => `(tactic| (
  (repeat' (first | exact List.forall_mem_nil _ | refine List.forall_mem_cons.mpr ⟨?_, ?_⟩));
  (all_goals ((try dsimp only); first
      | (refine' lt_of_all ?h ?m; kctr_letter)
      | (refine' lt_of_all2 ?g ?h ?m; (case g => with_reducible assumption); kctr_letter)
      | (refine' tl_lt ?h ?s; kgr_truth)
      | (refine' tl_lt2 ?g ?h ?s; (case g => with_reducible assumption); kgr_truth)))))
local macro_rules | `(tactic| k_keys) => `(tactic| (
  (repeat' (first | exact List.nodup_nil | exact notMem_nil | refine List.nodup_cons.mpr ⟨?_, ?_⟩ | refine notMem_cons ?_ ?_));
  (all_goals k_ne)))
local macro_rules | `(tactic| kla_enter) => `(tactic| (
  refine' kla_code ?k1 ?k2 ?k3 ?k4 ?k5 ?kA ?kF ?kK ?k6 ?k7 ?k8 ?k9 ?kB ?_ ?c2 ?c3 ?c4 ?c5; kbt_pows
  (case k6 => k_mem)
  (case k7 => exact codeRec_news (by k_asm) (by k_mem) (by assumption) (by assumption))
  (case k8 => k_room)
  (case k9 => exact rfl)
  (case c5 => decide)
  (case kB => exact locs rfl)
  kfm_signs
  (intro g' L' h' FG' F' N' B' X' T'; (try dsimp only); (try k_fold))))
local macro_rules | `(tactic| walk_at "FinE") => `(tactic| ((unfold LCg.FinE); intro D' h' tk' F' N' o1'; (have o2' := off1_all o1'); clear o1'; (try simp only [List.nil_append, List.cons_append] at N'); (try dsimp only)))
local macro_rules | `(tactic| walk_at "CompSrc") => `(tactic| (k_here; k_dflt (refine' LCg.CompSrc.ledger ?a ?b ?c ?d ?e ?_; (case a => exact rfl); (case b => k_asm); (case c => k_asm); (case d => k_mem); (case e => first | size_fits | exact Nat.le_of_ble_eq_true rfl); intro g'; lcg_lit)))
local macro_rules | `(tactic| walk_at "CompRest") => `(tactic| (with_unfolding_all first
  | (refine LCg.CompRest.succ ?_; intro v' I' oI' C' oC' D' m' h' tk' E' hv' hC' hx' F' N' off' ne'; (first | lcg_open hv' | (obtain ⟨t9', hv9'⟩ := hv'; subst hv9')))
  | refine LCg.CompRest.zero ?_))

/-! ## stores into an object's dict that is known by its names alone; ktr_units: what the other names hold is carried over -/
local macro_rules | `(tactic| walk_at "setAttr ref") => `(tactic| (k_here; k_dflt (refine' set_attr ?k1 ?k2 ?k3 ?k4 ?k5 ?k6 ?k7 ?k8 ?k9 ?k10 ?k11 ?k12 ?_; (case k1 => k_asm); (case k2 => k_asm); (case k3 => k_asm); (case k4 => k_inst); (case k5 => exact rfl); (case k6 => k_is); (case k7 => k_is); (case k8 => k_is); (case k9 => k_is); (case k10 => with_reducible assumption); (case k11 => omega); (case k12 => k_updF)); intro es' n' h' F' N' gs' gn' le'; (try dsimp only at N'); (try simp only [grow] at le'); ktr_units))
local macro_rules | `(tactic| f_twoF $x) => `(tactic| try (rename (∀ nm, nm ≠ _ → getL nm _ = getL nm _) => gn9; have q9 := (gn9 (Str.ofString $x) (by decide)).trans (by with_reducible assumption)))
local macro_rules | `(tactic| ktr_units) => `(tactic| (f_twoF "next_time"; f_twoF "on_time"; f_twoF "send"; f_twoF "receive"; f_twoF "next_fate"; f_twoF "put"; f_twoF "carry"; f_twoF "arrived"; f_twoF "choices"; f_twoF "unit"; f_twoF "most_harm"; f_twoF "harmed"; f_twoF "count"; f_twoF "waiting"; f_twoF "fates"; f_twoF "hosts"; f_twoF "network"; f_twoF "now"; f_twoF "steps"; f_twoF "send_all"; f_twoF "step"; f_twoF "run"; (rename (∀ nm, nm ≠ _ → getL nm _ = getL nm _) => gn9); clear gn9))

/-! ## the walk's lines for a for over a made list of no item or of one -/
local macro_rules | `(tactic| k_ownIn) => `(tactic| first | (refine' Del.head ?a; (case a => k_all)) | (refine' Del.tail ?a ?b; (case a => k_ne); (case b => k_ownIn)))
local macro_rules | `(tactic| walk_at "exec For Tuple") => `(tactic| (k_here; (rename Fr _ _ _ _ => lF'); (with_unfolding_all refine' For_turns lF' ?_); k_whole))
local macro_rules | `(tactic| walk_at "pyIter ref") => `(tactic| (
  (with_reducible show wpAny _ _ (pyIter (Value.ref _)) (fun it s₂ => TurnsAt _ _ _ _ _ _ _ _ _ it s₂) _ _)
  k_dflt (first
  | (refine' turns_none0 ?a ?F ?N ?_
     (case N => with_reducible assumption)
     (case a => exact rfl)
     (case F => k_asm)
     (intro h' tk' F' N'))
  | (refine' turns_one0 ?a ?F ?N ?_
     (case N => with_reducible assumption)
     (case a => exact rfl)
     (case F => k_asm)
     (intro I' h' tk' oI' F' N' o')))))
local macro_rules | `(tactic| walk_at "OnePost") => `(tactic| (dsimp only [OnePost]))
local macro_rules | `(tactic| walk_at "OneEnd") => `(tactic| k_dflt (
  refine' OneEnd.intro ?F ?N ?D ?I ?R ?_
  (case F => k_asm)
  (case N => k_asm)
  (case D => k_ownIn)
  (case I => k_mem)
  (case R => k_mem)
  (intro h' tk' F' N'; (try dsimp only))))
local macro_rules | `(tactic| kfy_look) => `(tactic| k_dflt (
  refine' item_list ?N ?m ?a ?b ?c ?_
  (case N => k_asm)
  (case m => k_mem)
  (case a => first | decide | omega)
  (case b => first | decide | omega)
  (case c => first | rfl | assumption)))
local macro_rules | `(tactic| walk_at "subscriptTail Attribute Name Name ref int") => `(tactic| kfy_look)
local macro_rules | `(tactic| walk_at "subscriptTail Name Name ref int") => `(tactic| kfy_look)
local macro_rules | `(tactic| walk_at "getMethod ref") => `(tactic| k_dflt (
  refine' kmu_own ?k1 ?k2 ?k3 ?k4 ?k5 ?_
  (case k1 => k_asm)
  (case k2 => k_asm)
  (case k3 => k_inst)
  (case k4 => k_is)
  (case k5 => k_is)))
local macro_rules | `(tactic| walk_at "UnrEnd") => `(tactic| k_dflt (
  refine' unr_del ?F ?N ?D ?I ?_
  (case F => k_asm)
  (case N => k_asm)
  (case D => k_ownIn)
  (case I => k_mem)))
local macro_rules | `(tactic| kctr_use) => `(tactic| (k_dflt (first
  | (refine' callWith_F ?k1 ?_; (case k1 => exact FnAt.of (by k_asm) (by k_mem)); k_whole)
  | (refine' callWith_F0 ?k1 ?_; (case k1 => exact FnAt.of (by k_asm) (by k_mem)); k_whole; try dsimp only [List.nil_append, List.cons_append]))))

section
theorem off2 : True := by
  w_top off
  trivial
set_option maxHeartbeats 8000000 in
theorem space_call : ∀ {w : World} {s : Shared} {L : Addr} {env : Env} {outer : List Env} {d u : Nat} {g : Option (List Code)} {A₀ : Around} {h₀ base : Heap} {m mg mb : Str → Option Value} {p : Program} {loose : List Str} {mean : ExcName → Option Value} {tl : List (Addr × Obj)} {v : Value} {Q : Value → Shared → Prop} {E : Value → Shared → Prop}
   (_B : Below A₀ base outer h₀) (_F : Fr h₀ L s.heap m) (_X : (headK w.params).In h₀) (_T : Top p loose mean mg mb h₀) (_N : News h₀ L s.heap tl)
   (_hf : env.frame = some L) (_hk : env.scope.kind = .function) (_hd : d < 850)
   (_k : ∀ x dx es n h' tk, Fr h₀ L h' m → News h₀ L h' ((x, instObj 290 dx) :: (dx, dictOf es n) :: tl) → (∀ p ∈ tl, p.1 < dx) → (∀ p ∈ (dx, dictOf es n) :: tl, p.1 < x) → es.length = 17 →
      getL (Str.ofString "next_time") es = some none → getL (Str.ofString "on_time") es = some none → getL (Str.ofString "send") es = some none → getL (Str.ofString "receive") es = some none →
      Q (.ref x) { s with heap := h', toks := tk }),
   wpAny (model PySem.Challenge.rw_rg0253_01.row.prog w) (mkA env outer d g u) (call (.ref 290) [v]) Q E s := by
  k_fill
  intro w s L env outer d u g A₀ h₀ base m mg mb p loose mean tl v Q E B F X T N hf hk hd k
  k_steps
  refine' k _ _ _ _ _ _ ?F ?N ?l1 ?l2 ?e1 ?e2 ?e3 ?e4 ?e5
  case F => k_asm
  case N =>
    refine' News.of_sub ?a ?b
    case a => k_asm
    case b =>
      refine' List.forall_mem_cons.mpr ⟨?a, ?b⟩
      case a => k_memK
      case b =>
        refine' List.forall_mem_cons.mpr ⟨?a, ?b⟩
        case a => k_memK
        case b => (intro p hp; repeat (first | exact hp | refine List.mem_cons_of_mem _ ?_))
  case l1 => assumption
  case l2 => exact all_lt_cons (by assumption) (by assumption)
  all_goals rfl

end
section
/-! ## the hosts of the law: their lambdas, their cells -/
noncomputable def lhStmt (k : Nat) : Stmt := (defBody (topAt 20)).getD k (.Pass ⟨0, 0, 0, 0⟩)
noncomputable def lamPos (k : Nat) : Pos := match lhStmt k with
  | .Assign _ (.Lambda _ _ _ pos) _ => pos
  | _ => ⟨0, 0, 0, 0⟩
noncomputable def lamQual : Str := Str.ofString "_law_host" ++ ".<locals>." ++ "<lambda>"
noncomputable def lamObj (k : Nat) (clos : List (Str × Addr)) (pm : Value) (c' : Addr) (ctv : Value) : Obj := match lhStmt k with
  | .Assign _ (.Lambda params body scope _) _ => kla_obj (Str.ofString "<lambda>") lamQual params body scope clos pm c' ctv
  | _ => { cls := .none }
noncomputable def CodeAt (news : List (Addr × Obj)) (c : Addr) : Prop := ∃ oc vs t, (c, oc) ∈ news ∧ oc.data = .fields vs ∧ vs[1]? = some (.str lamQual t)
noncomputable def LamAt (news : List (Addr × Obj)) (k : Nat) (clos : List (Str × Addr)) (f : Addr) : Prop := ∃ pm c' ctv, (f, lamObj k clos pm c' ctv) ∈ news ∧ CodeAt news c'
noncomputable def TabHas (ps : Array Value) (c1 c2 c3 c4 : Addr) : Prop :=
  TriplesOk ps.toList ∧ codeAmong (lamPos 1) ps.toList = some (.ref c1) ∧ codeAmong (lamPos 2) ps.toList = some (.ref c2) ∧ codeAmong (lamPos 3) ps.toList = some (.ref c3) ∧ codeAmong (lamPos 4) ps.toList = some (.ref c4)
noncomputable def HostAt (news : List (Addr × Obj)) (h b : Addr) (nm : Str) : Prop :=
  ∃ dh es n f1 f2 f3 f4 cb cn ob on tn, (h, instObj 290 dh) ∈ news ∧ (dh, dictOf es n) ∈ news ∧
    getL (Str.ofString "next_time") es = some (some (.ref f1)) ∧ getL (Str.ofString "on_time") es = some (some (.ref f2)) ∧ getL (Str.ofString "send") es = some (some (.ref f3)) ∧ getL (Str.ofString "receive") es = some (some (.ref f4)) ∧
    LamAt news 1 [(Str.ofString "book", cb)] f1 ∧ LamAt news 2 [(Str.ofString "book", cb)] f2 ∧ LamAt news 3 [(Str.ofString "name", cn), (Str.ofString "book", cb)] f3 ∧ LamAt news 4 [(Str.ofString "book", cb)] f4 ∧
    (cb, ob) ∈ news ∧ ob.data = .cell (some (.ref b)) ∧ (cn, on) ∈ news ∧ on.data = .cell (some (.str nm tn))
theorem CodeAt.mono {news news' : List (Addr × Obj)} {c : Addr} (hs : ∀ p ∈ news, p ∈ news') (h : CodeAt news c) : CodeAt news' c :=
  let ⟨oc, vs, t, a, b, c⟩ := h; ⟨oc, vs, t, hs _ a, b, c⟩
theorem LamAt.mono {news news' : List (Addr × Obj)} {k : Nat} {clos : List (Str × Addr)} {f : Addr} (hs : ∀ p ∈ news, p ∈ news') (h : LamAt news k clos f) : LamAt news' k clos f :=
  let ⟨pm, c', ctv, a, b⟩ := h; ⟨pm, c', ctv, hs _ a, b.mono hs⟩
theorem HostAt.elim {news : List (Addr × Obj)} {h b : Addr} {nm : Str} {C : Prop} (x : HostAt news h b nm)
   (k : ∀ (dh : Addr) (es : List DictEntry) (n : Nat) (f1 f2 f3 f4 cb cn : Addr) (ob on : Obj) (tn : Tok), (h, instObj 290 dh) ∈ news → (dh, dictOf es n) ∈ news →
    getL (Str.ofString "next_time") es = some (some (.ref f1)) → getL (Str.ofString "on_time") es = some (some (.ref f2)) → getL (Str.ofString "send") es = some (some (.ref f3)) → getL (Str.ofString "receive") es = some (some (.ref f4)) →
    LamAt news 1 [(Str.ofString "book", cb)] f1 → LamAt news 2 [(Str.ofString "book", cb)] f2 → LamAt news 3 [(Str.ofString "name", cn), (Str.ofString "book", cb)] f3 → LamAt news 4 [(Str.ofString "book", cb)] f4 →
    (cb, ob) ∈ news → ob.data = .cell (some (.ref b)) → (cn, on) ∈ news → on.data = .cell (some (.str nm tn)) → C) : C :=
  Exists.elim x fun _ x => Exists.elim x fun _ x => Exists.elim x fun _ x => Exists.elim x fun _ x => Exists.elim x fun _ x => Exists.elim x fun _ x => Exists.elim x fun _ x => Exists.elim x fun _ x => Exists.elim x fun _ x => Exists.elim x fun _ x => Exists.elim x fun _ x => Exists.elim x fun _ x =>
    k _ _ _ _ _ _ _ _ _ _ _ _ x.1 x.2.1 x.2.2.1 x.2.2.2.1 x.2.2.2.2.1 x.2.2.2.2.2.1 x.2.2.2.2.2.2.1 x.2.2.2.2.2.2.2.1 x.2.2.2.2.2.2.2.2.1 x.2.2.2.2.2.2.2.2.2.1 x.2.2.2.2.2.2.2.2.2.2.1 x.2.2.2.2.2.2.2.2.2.2.2.1 x.2.2.2.2.2.2.2.2.2.2.2.2.1 x.2.2.2.2.2.2.2.2.2.2.2.2.2
theorem HostAt.mono {news news' : List (Addr × Obj)} {h b : Addr} {nm : Str} (hs : ∀ p ∈ news, p ∈ news') (x : HostAt news h b nm) : HostAt news' h b nm :=
  x.elim fun dh es n f1 f2 f3 f4 cb cn ob on tn a1 a2 a3 a4 a5 a6 a7 a8 a9 a10 a11 a12 a13 a14 =>
  ⟨dh, es, n, f1, f2, f3, f4, cb, cn, ob, on, tn, hs _ a1, hs _ a2, a3, a4, a5, a6, a7.mono hs, a8.mono hs, a9.mono hs, a10.mono hs, hs _ a11, a12, hs _ a13, a14⟩
theorem all_lt_self {d : Addr} {l l' : List (Addr × Obj)} (h : ∀ p ∈ l, p.1 < d) (hs : ∀ p ∈ l', p.1 = 308 ∨ p ∈ l) (h8 : @LT.lt Nat _ 308 d) : ∀ p ∈ l', p.1 < d := fun p hp => by
  rcases hs p hp with e | e
  · rw [e]; exact h8
  · exact h p e
theorem news_rot {h₀ h : Heap} {L : Addr} {x : Addr × Obj} {own tl : List (Addr × Obj)} (N : News h₀ L h (own ++ x :: tl)) : News h₀ L h (x :: (own ++ tl)) := fun p hp => N p (by
  rcases List.mem_cons.mp hp with rfl | hp
  · exact List.mem_append.mpr (.inr (.head _))
  · rcases List.mem_append.mp hp with hp | hp
    · exact List.mem_append.mpr (.inl hp)
    · exact List.mem_append.mpr (.inr (.tail _ hp)))
/-! ## what the network's and the world's dicts hold -/
noncomputable def NetEs (es : List DictEntry) (ch wl fl : Addr) (n : Int) : Prop :=
  es.length ≤ 10 ∧ getL (Str.ofString "choices") es = some (some (.ref ch)) ∧ (∃ t, getL (Str.ofString "unit") es = some (some (.int 10 t))) ∧ (∃ t, getL (Str.ofString "most_harm") es = some (some (.int 3 t))) ∧
  (∃ t, getL (Str.ofString "harmed") es = some (some (.int 0 t))) ∧ (∃ t, getL (Str.ofString "count") es = some (some (.int n t))) ∧ getL (Str.ofString "waiting") es = some (some (.ref wl)) ∧ getL (Str.ofString "fates") es = some (some (.ref fl)) ∧
  getL (Str.ofString "next_fate") es = some none ∧ getL (Str.ofString "put") es = some none ∧ getL (Str.ofString "carry") es = some none ∧ getL (Str.ofString "next_time") es = some none ∧ getL (Str.ofString "arrived") es = some none
noncomputable def WorldEs (es : List DictEntry) (hl NW : Addr) (now steps : Int) : Prop :=
  es.length ≤ 10 ∧ getL (Str.ofString "hosts") es = some (some (.ref hl)) ∧ getL (Str.ofString "network") es = some (some (.ref NW)) ∧ (∃ t, getL (Str.ofString "now") es = some (some (.int now t))) ∧
  (∃ t, getL (Str.ofString "steps") es = some (some (.int steps t))) ∧
  getL (Str.ofString "send_all") es = some none ∧ getL (Str.ofString "next_time") es = some none ∧ getL (Str.ofString "step") es = some none ∧ getL (Str.ofString "run") es = some none
theorem WorldEs.elim {es : List DictEntry} {hl NW : Addr} {now steps : Int} {C : Prop} (x : WorldEs es hl NW now steps)
   (k : ∀ t1 t2, es.length ≤ 10 → getL (Str.ofString "hosts") es = some (some (.ref hl)) → getL (Str.ofString "network") es = some (some (.ref NW)) → getL (Str.ofString "now") es = some (some (.int now t1)) →
    getL (Str.ofString "steps") es = some (some (.int steps t2)) →
    getL (Str.ofString "send_all") es = some none → getL (Str.ofString "next_time") es = some none → getL (Str.ofString "step") es = some none → getL (Str.ofString "run") es = some none → C) : C :=
  x.2.2.2.1.elim fun t1 g3 => x.2.2.2.2.1.elim fun t2 g4 => k t1 t2 x.1 x.2.1 x.2.2.1 g3 g4 x.2.2.2.2.2.1 x.2.2.2.2.2.2.1 x.2.2.2.2.2.2.2.1 x.2.2.2.2.2.2.2.2
theorem NetEs.elim {es : List DictEntry} {ch wl fl : Addr} {n : Int} {C : Prop} (x : NetEs es ch wl fl n)
   (k : ∀ t1 t2 t3 t4, es.length ≤ 10 → getL (Str.ofString "choices") es = some (some (.ref ch)) → getL (Str.ofString "unit") es = some (some (.int 10 t1)) → getL (Str.ofString "most_harm") es = some (some (.int 3 t2)) →
    getL (Str.ofString "harmed") es = some (some (.int 0 t3)) → getL (Str.ofString "count") es = some (some (.int n t4)) → getL (Str.ofString "waiting") es = some (some (.ref wl)) → getL (Str.ofString "fates") es = some (some (.ref fl)) →
    getL (Str.ofString "next_fate") es = some none → getL (Str.ofString "put") es = some none → getL (Str.ofString "carry") es = some none → getL (Str.ofString "next_time") es = some none → getL (Str.ofString "arrived") es = some none → C) : C :=
  x.2.2.1.elim fun t1 g2 => x.2.2.2.1.elim fun t2 g3 => x.2.2.2.2.1.elim fun t3 g4 => x.2.2.2.2.2.1.elim fun t4 g5 =>
    k t1 t2 t3 t4 x.1 x.2.1 g2 g3 g4 g5 x.2.2.2.2.2.2.1 x.2.2.2.2.2.2.2.1 x.2.2.2.2.2.2.2.2.1 x.2.2.2.2.2.2.2.2.2.1 x.2.2.2.2.2.2.2.2.2.2.1 x.2.2.2.2.2.2.2.2.2.2.2.1 x.2.2.2.2.2.2.2.2.2.2.2.2
noncomputable def BookIs (w : World) (ob : Obj) (l dq c : Addr) : Prop := Obj.IsDictOf (PySem.strKind PySem.Challenge.rw_rg0253_01.row.prog w) ob (strPairs [(Value.str (Str.ofString "left") 0, Value.ref l), (Value.str (Str.ofString "due") 0, Value.ref dq), (Value.str (Str.ofString "came") 0, Value.ref c)])
/-- a list of no int or of one -/
noncomputable def DueIs (vs : List Value) (due : Option Int) : Prop := match due with
  | none => vs = []
  | some x => 0 ≤ x ∧ x < 256 ∧ ∃ t, vs = [Value.int x t]
noncomputable def octOf (x : Int) : Array UInt8 := #[x.toNat.toUInt8]
noncomputable def SentIs (own : List (Addr × Obj)) (nm : Str) (ys : List Value) (due : Option Int) : Prop := match due with
  | none => ys = []
  | some x => ∃ T t1 t2 n, ys = [Value.ref T] ∧ (T, tupOf [Value.bytes (octOf x) t1, Value.str nm t2] n) ∈ own
theorem comp_end2 {h₀ : Heap} {L I C D : Addr} {m : Str → Option Value} {s₁ : Shared} {oI oC oD : Obj} {S : List (Addr × Obj) → Prop} {rest : Value → List (Addr × Obj) → Prop} {y : Value} {h' : Heap} {tk : Nat} {a1 a2 : Addr} {o1 o2 : Obj} {tl : List (Addr × Obj)}
    (F : Fr h₀ L h' m) (N : News h₀ L h' ((a1, o1) :: (a2, o2) :: (I, oI) :: (C, oC) :: (D, oD) :: tl)) (x1 : (@Ne Nat a1 I) ∧ (@Ne Nat a1 C) ∧ (@Ne Nat a1 D)) (off : LCg.Off3 I C D tl) (hS : S ((a1, o1) :: tl)) (r : rest y ((a1, o1) :: tl)) :
    LCg.CompEnd h₀ L m s₁ I oI C oC D oD S rest y { s₁ with heap := h', toks := tk } := ⟨h', tk, (a1, o1) :: tl, rfl, F, News.of_sub N (perm_sub (A := [(I, oI), (C, oC), (D, oD), (a1, o1)]) (B := [(a1, o1), (a2, o2), (I, oI), (C, oC), (D, oD)]) [2, 3, 4, 0] rfl), And.intro x1 off, hS, r⟩
/-- what a step has made (own) lies off all that stood (l) and off a -/
noncomputable def Apart (own : List (Addr × Obj)) (a : Addr) (l : List (Addr × Obj)) : Prop := (∀ q ∈ l, q.1 ≠ a) ∧ ∀ p ∈ own, (∀ q ∈ l, q.1 ≠ p.1) ∧ p.1 ≠ a
theorem LamAt.obj {news : List (Addr × Obj)} {k : Nat} {clos : List (Str × Addr)} {f : Addr} (h : LamAt news k clos f) : ∃ pm c' ctv, (f, lamObj k clos pm c' ctv) ∈ news := let ⟨pm, c', ctv, a, _⟩ := h; ⟨pm, c', ctv, a⟩
theorem NetEs.carry {es : List DictEntry} {ch wl fl : Addr} {n : Int} (h : NetEs es ch wl fl n) : getL (Str.ofString "carry") es = some none := h.2.2.2.2.2.2.2.2.2.2.1
/-! ## what flies: one record an octet under way -/
structure Fly where
  arr : Int
  cnt : Int
  goal : Int
  due : Int
noncomputable def nameOf (goal : Int) : Str := if goal = 1 then Str.ofString "client" else Str.ofString "server"
noncomputable def FlyIs (news : List (Addr × Obj)) (v : Value) (f : Fly) : Prop :=
  ∃ T t1 t2 t3 t4 t5 nT, v = .ref T ∧ (T, tupOf [.int f.arr t1, .int f.cnt t2, .int f.goal t3, .str (nameOf f.goal) t4, .bytes (octOf f.due) t5] nT) ∈ news
noncomputable def FliesAre (news : List (Addr × Obj)) : List Value → List Fly → Prop
  | [], [] => True
  | v :: vs, f :: fs => FlyIs news v f ∧ FliesAre news vs fs
  | _, _ => False
theorem FlyIs.mono {news news' : List (Addr × Obj)} (hs : ∀ p ∈ news, p ∈ news') {v : Value} {f : Fly} (h : FlyIs news v f) : FlyIs news' v f :=
  let ⟨T, t1, t2, t3, t4, t5, nT, e, hm⟩ := h; ⟨T, t1, t2, t3, t4, t5, nT, e, hs _ hm⟩
theorem FliesAre.mono {news news' : List (Addr × Obj)} (hs : ∀ p ∈ news, p ∈ news') : ∀ {vs : List Value} {fs : List Fly}, FliesAre news vs fs → FliesAre news' vs fs
  | [], [], _ => trivial
  | _ :: _, _ :: _, h => ⟨h.1.mono hs, h.2.mono hs⟩
theorem FliesAre.append {news : List (Addr × Obj)} : ∀ {vs ws : List Value} {fs gs : List Fly}, FliesAre news vs fs → FliesAre news ws gs → FliesAre news (vs ++ ws) (fs ++ gs)
  | [], _, [], _, _, k => k
  | _ :: _, _, _ :: _, _, h, k => ⟨h.1, h.2.append k⟩
theorem FliesAre.length {news : List (Addr × Obj)} : ∀ {vs : List Value} {fs : List Fly}, FliesAre news vs fs → vs.length = fs.length
  | [], [], _ => rfl
  | _ :: _, _ :: _, h => congrArg (· + 1) h.2.length
/-- what a step's sending sets on its way -/
noncomputable def sentOf (now n : Int) : Option Int → Option Int → List Fly
  | none, none => []
  | some x, none => [⟨now + 10, n, 1, x⟩]
  | none, some y => [⟨now + 10, n, 0, y⟩]
  | some x, some y => [⟨now + 10, n, 1, x⟩, ⟨now + 10, n + 1, 0, y⟩]
noncomputable def cntOf (n : Int) : Option Int → Option Int → Int
  | none, none => n
  | some _, none => n + 1
  | none, some _ => n + 1
  | some _, some _ => n + 1 + 1

end
section
theorem off4 : True := by
  w_top off
  trivial
local macro_rules | `(tactic| walk_at "call ref") => `(tactic| ((with_reducible show wpAny _ _ (call (Value.ref 290) _) _ _ _); k_dflt (refine' space_call ?B ?F ?X ?T ?N ?hf ?hk ?hd ?_; ktm_count); intro x' dx' es' n' h' tk' F' N' l1 l2 le' g1' g2' g3' g4'; (try dsimp only)))

section
set_option maxHeartbeats 8000000 in
theorem host_call1 : ∀ {w : World} {s : Shared} {L : Addr} {env : Env} {outer : List Env} {d u : Nat} {g : Option (List Code)} {A₀ : Around} {h₀ base : Heap} {m mg mb : Str → Option Value} {p : Program} {loose : List Str} {mean : ExcName → Option Value} {tl : List (Addr × Obj)} {nm : Str} {t : Tok} {b : Addr} {Q : Value → Shared → Prop} {E : Value → Shared → Prop}
   (_B : Below A₀ base outer h₀) (_C : CodeHd base 312 308) (_F : Fr h₀ L s.heap m) (_X : (headK w.params).In h₀) (_T : Top p loose mean mg mb h₀) (_N : News h₀ L s.heap ((308, tabObj #[]) :: tl))
   (_off : ∀ p ∈ tl, p.1 ≠ 308)
   (_hf : env.frame = some L) (_hk : env.scope.kind = .function) (_hd : d < 800)
   (_k : ∀ h own ps c1 c2 c3 c4 h' tk, Fr h₀ L h' m → News h₀ L h' ((308, tabObj ps) :: (own ++ tl)) → (∀ p ∈ own, ∀ q ∈ (308, tabObj ps) :: tl, q.1 < p.1) → HostAt own h b nm → TabHas ps c1 c2 c3 c4 →
      CodeAt own c1 ∧ CodeAt own c2 ∧ CodeAt own c3 ∧ CodeAt own c4 → Q (.ref h) { s with heap := h', toks := tk }),
   wpAny (model PySem.Challenge.rw_rg0253_01.row.prog w) (mkA env outer d g u) (call (.ref 313) [.str nm t, .ref b]) Q E s := by
  k_fill
  intro w s L env outer d u g A₀ h₀ base m mg mb p loose mean tl nm t b Q E B C F X T N off hf hk hd k
  k_steps
  rename (Fr h₀ L _ m) => F9
  rename (News h₀ L _ _) => N9
  refine' k _ _ _ _ _ _ _ _ _ F9 (news_rot (own := [_, _, _, _, _, _, _, _, _, _, _, _]) N9) ?fr ?host ?tab ⟨?a, ?b, ?c, ?d⟩
  case fr =>
    repeat' (first | exact List.forall_mem_nil _ | refine List.forall_mem_cons.mpr ⟨?_, ?_⟩)
    all_goals ((try dsimp only); first
      | (refine' lt_of_all ?h ?m; (case h => with_reducible assumption); (case m => k_memK))
      | (refine' lt_of_all2 ?g ?h ?m; (case g => with_reducible assumption); (case h => with_reducible assumption); (case m => k_memK))
      | (refine' tl_lt ?h ?t; (case h => with_reducible assumption); (case t => (intro p hp; repeat (first | exact hp | refine List.mem_cons_of_mem _ ?_))))
      | (refine' tl_lt2 ?g ?h ?t; (case g => with_reducible assumption); (case h => with_reducible assumption); (case t => (intro p hp; repeat (first | exact hp | refine List.mem_cons_of_mem _ ?_)))))
  case host =>
    refine' ⟨_, _, _, _, _, _, _, _, _, _, _, _, ?a1, ?a2, ?a3, ?a4, ?a5, ?a6, ?a7, ?a8, ?a9, ?a10, ?a11, ?a12, ?a13, ?a14⟩
    case a1 => k_memK
    case a2 => k_memK
    case a3 => with_reducible assumption
    case a4 => with_reducible assumption
    case a5 => with_reducible assumption
    case a6 => with_reducible assumption
    case a7 => exact ⟨_, _, _, by k_memK, _, _, _, by k_memK, by assumption, by assumption⟩
    case a8 => exact ⟨_, _, _, by k_memK, _, _, _, by k_memK, by assumption, by assumption⟩
    case a9 => exact ⟨_, _, _, by k_memK, _, _, _, by k_memK, by assumption, by assumption⟩
    case a10 => exact ⟨_, _, _, by k_memK, _, _, _, by k_memK, by assumption, by assumption⟩
    case a11 => k_memK
    case a12 => assumption
    case a13 => k_memK
    case a14 => assumption
  case tab => exact ⟨by kn_triples, by rfl, by rfl, by rfl, by rfl⟩
  all_goals (exact ⟨_, _, _, by k_memK, by assumption, by assumption⟩)
end

section
local macro_rules | `(tactic| kn_triples) => `(tactic| assumption)
local macro_rules | `(tactic| kn_hit) => `(tactic| assumption)
local macro_rules | `(tactic| kn_among) => `(tactic| fail "the table is full")

set_option maxHeartbeats 8000000 in
theorem host_call2 : ∀ {w : World} {s : Shared} {L : Addr} {env : Env} {outer : List Env} {d u : Nat} {g : Option (List Code)} {A₀ : Around} {h₀ base : Heap} {m mg mb : Str → Option Value} {p : Program} {loose : List Str} {mean : ExcName → Option Value} {tl tc : List (Addr × Obj)} {nm : Str} {t : Tok} {b : Addr} {ps : Array Value} {c1 c2 c3 c4 : Addr} {Q : Value → Shared → Prop} {E : Value → Shared → Prop}
   (_B : Below A₀ base outer h₀) (_C : CodeHd base 312 308) (_F : Fr h₀ L s.heap m) (_X : (headK w.params).In h₀) (_T : Top p loose mean mg mb h₀) (_N : News h₀ L s.heap ((308, tabObj ps) :: tl))
   (_tab : TabHas ps c1 c2 c3 c4) (_hs : ∀ p ∈ tc, p ∈ tl) (_c1 : CodeAt tc c1) (_c2 : CodeAt tc c2) (_c3 : CodeAt tc c3) (_c4 : CodeAt tc c4)
   (_off : ∀ p ∈ tl, p.1 ≠ 308)
   (_hf : env.frame = some L) (_hk : env.scope.kind = .function) (_hd : d < 800)
   (_k : ∀ h own h' tk, Fr h₀ L h' m → News h₀ L h' ((308, tabObj ps) :: (own ++ tl)) → (∀ p ∈ own, ∀ q ∈ (308, tabObj ps) :: tl, q.1 < p.1) → HostAt (own ++ tc) h b nm → Q (.ref h) { s with heap := h', toks := tk }),
   wpAny (model PySem.Challenge.rw_rg0253_01.row.prog w) (mkA env outer d g u) (call (.ref 313) [.str nm t, .ref b]) Q E s := by
  k_fill
  intro w s L env outer d u g A₀ h₀ base m mg mb p loose mean tl tc nm t b ps c1 c2 c3 c4 Q E B C F X T N tab hs hc1 hc2 hc3 hc4 off hf hk hd k
  obtain ⟨t0, t1, t2, t3, t4⟩ := tab
  obtain ⟨oc1, vs1, tq1, x1, d1, e1⟩ := hc1
  have m1 := hs _ x1
  obtain ⟨oc2, vs2, tq2, x2, d2, e2⟩ := hc2
  have m2 := hs _ x2
  obtain ⟨oc3, vs3, tq3, x3, d3, e3⟩ := hc3
  have m3 := hs _ x3
  obtain ⟨oc4, vs4, tq4, x4, d4, e4⟩ := hc4
  have m4 := hs _ x4
  k_steps
  rename (Fr h₀ L _ m) => F9
  rename (News h₀ L _ _) => N9
  refine' k _ _ _ _ F9 (news_rot (own := [_, _, _, _, _, _, _, _]) N9) ?fr ?host
  case fr =>
    repeat' (first | exact List.forall_mem_nil _ | refine List.forall_mem_cons.mpr ⟨?_, ?_⟩)
    all_goals ((try dsimp only); first
      | (refine' lt_of_all ?h ?m; (case h => with_reducible assumption); (case m => k_memK))
      | (refine' lt_of_all2 ?g ?h ?m; (case g => with_reducible assumption); (case h => with_reducible assumption); (case m => k_memK))
      | (refine' tl_lt ?h ?t; (case h => with_reducible assumption); (case t => (intro p hp; repeat (first | exact hp | refine List.mem_cons_of_mem _ ?_))))
      | (refine' tl_lt2 ?g ?h ?t; (case g => with_reducible assumption); (case h => with_reducible assumption); (case t => (intro p hp; repeat (first | exact hp | refine List.mem_cons_of_mem _ ?_)))))
  case host =>
    simp only [List.cons_append, List.nil_append]
    refine' ⟨_, _, _, _, _, _, _, _, _, _, _, _, ?a1, ?a2, ?a3, ?a4, ?a5, ?a6, ?a7, ?a8, ?a9, ?a10, ?a11, ?a12, ?a13, ?a14⟩
    case a1 => k_memK
    case a2 => k_memK
    case a3 => with_reducible assumption
    case a4 => with_reducible assumption
    case a5 => with_reducible assumption
    case a6 => with_reducible assumption
    case a7 => exact ⟨_, _, _, by k_memK, _, _, _, by k_mem, by assumption, by assumption⟩
    case a8 => exact ⟨_, _, _, by k_memK, _, _, _, by k_mem, by assumption, by assumption⟩
    case a9 => exact ⟨_, _, _, by k_memK, _, _, _, by k_mem, by assumption, by assumption⟩
    case a10 => exact ⟨_, _, _, by k_memK, _, _, _, by k_mem, by assumption, by assumption⟩
    case a11 => k_memK
    case a12 => assumption
    case a13 => k_memK
    case a14 => assumption
end

end
section
theorem off5 : True := by
  w_top off
  trivial
theorem world_perm {h₀ h : Heap} {L : Addr} {a b c d e f g i j : Addr × Obj} {tl : List (Addr × Obj)} (N : News h₀ L h (a :: b :: c :: d :: e :: f :: g :: i :: j :: tl)) : News h₀ L h (i :: e :: b :: a :: g :: d :: f :: c :: tl) := fun p hp => N p (perm_sub (A := [i, e, b, a, g, d, f, c]) (B := [a, b, c, d, e, f, g, i, j]) [7, 4, 1, 0, 6, 3, 5, 2] rfl p hp)
set_option maxHeartbeats 8000000 in
theorem world_call : ∀ {w : World} {s : Shared} {L : Addr} {env : Env} {outer : List Env} {d u : Nat} {g : Option (List Code)} {A₀ : Around} {h₀ base : Heap} {m mg mb : Str → Option Value} {p : Program} {loose : List Str} {mean : ExcName → Option Value} {tl : List (Addr × Obj)} {x y ch : Addr} {t t' : Tok} {Q : Value → Shared → Prop} {E : Value → Shared → Prop}
   (_B : Below A₀ base outer h₀) (_F : Fr h₀ L s.heap m) (_X : (headK w.params).In h₀) (_T : Top p loose mean mg mb h₀) (_N : News h₀ L s.heap ((ch, listOf #[] 0) :: tl))
   (_hf : env.frame = some L) (_hk : env.scope.kind = .function) (_hd : d < 800)
   (_k : ∀ W dW esW nW hl nW' NW dN esN nN c' nC wl fl h' tk, Fr h₀ L h' m →
      News h₀ L h' ((dW, dictOf esW nW) :: (dN, dictOf esN nN) :: (wl, listOf #[] 0) :: (fl, listOf #[] 0) :: (W, instObj 143 dW) :: (NW, instObj 84 dN) :: (hl, listOf #[.ref x, .ref y] nW') :: (c', listOf #[] nC) :: tl) →
      WorldEs esW hl NW 0 0 → NetEs esN c' wl fl 0 →
      (∀ a ∈ [dW, dN, wl, fl, W, NW, hl, c'], ∀ q ∈ tl, q.1 < a) → [dW, dN, wl, fl, W, NW, hl, c'].Nodup →
      Q (.ref W) { s with heap := h', toks := tk }),
   wpAny (model PySem.Challenge.rw_rg0253_01.row.prog w) (mkA env outer d g u) (call (.ref 143) [.ref x, .ref y, .ref ch, .int 10 t, .int 3 t']) Q E s := by
  k_fill
  intro w s L env outer d u g A₀ h₀ base m mg mb p loose mean tl x y ch t t' Q E B F X T N hf hk hd k
  k_steps
  rename (Fr h₀ L _ m) => F9
  rename (News h₀ L _ _) => N9
  refine' k _ _ _ _ _ _ _ _ _ _ _ _ _ _ _ _ F9 (world_perm N9) ?b1 ?b2 ?fr ?nd
  case fr => k_allIn
  case nd => k_keys
  case b1 => exact ⟨Nat.le_of_ble_eq_true rfl, by rfl, by rfl, ⟨_, by rfl⟩, ⟨_, by rfl⟩, by rfl, by rfl, by rfl, by rfl⟩
  case b2 => exact ⟨Nat.le_of_ble_eq_true rfl, by rfl, ⟨_, by rfl⟩, ⟨_, by rfl⟩, ⟨_, by rfl⟩, ⟨_, by rfl⟩, by rfl, by rfl, by rfl, by rfl, by rfl, by rfl, by rfl⟩

end
section
theorem off6 : True := by
  w_top off
  trivial
theorem carry_perm {h₀ h : Heap} {L : Addr} {a b c d e f g i : Addr × Obj} {tl : List (Addr × Obj)} (N : News h₀ L h (a :: b :: c :: d :: e :: f :: g :: i :: tl)) : News h₀ L h (f :: g :: i :: a :: tl) := fun p hp => N p (perm_sub (A := [f, g, i, a]) (B := [a, b, c, d, e, f, g, i]) [5, 6, 7, 0] rfl p hp)
section
set_option maxHeartbeats 8000000 in
theorem carry_call : ∀ {w : World} {s : Shared} {L : Addr} {env : Env} {outer : List Env} {d u : Nat} {g : Option (List Code)} {A₀ : Around} {h₀ base : Heap} {m mg mb : Str → Option Value} {p : Program} {loose : List Str} {mean : ExcName → Option Value} {tl : List (Addr × Obj)}
   {NW dN wl fl ch : Addr} {esN : List DictEntry} {nN nC cw cf : Nat} {ws fs : List Value} {now n goal : Int} {t5 t6 t7 t8 : Tok} {path : Str} {data : Array UInt8} {Q : Value → Shared → Prop} {E : Value → Shared → Prop}
   (_B : Below A₀ base outer h₀) (_F : Fr h₀ L s.heap m) (_X : (headK w.params).In h₀) (_T : Top p loose mean mg mb h₀)
   (_N : News h₀ L s.heap ((dN, dictOf esN nN) :: (wl, listOf ws.toArray cw) :: (fl, listOf fs.toArray cf) :: tl))
   (_m1 : (NW, instObj 84 dN) ∈ tl) (_m2 : (ch, listOf #[] nC) ∈ tl) (_o1 : ∀ p ∈ tl, p.1 ≠ dN) (_o2 : ∀ p ∈ tl, p.1 ≠ wl) (_o3 : ∀ p ∈ tl, p.1 ≠ fl)
   (_n1 : dN ≠ wl) (_n2 : dN ≠ fl) (_n3 : wl ≠ fl) (_lw : ws.length ≤ 100) (_lf : fs.length ≤ 100) (_g : NetEs esN ch wl fl n)
   (_hf : env.frame = some L) (_hk : env.scope.kind = .function) (_hd : d < 800)
   (_k : ∀ T esN' nN' cw' cf' vf nT t9 t10 t11 h' tk, Fr h₀ L h' m → News h₀ L h' ((dN, dictOf esN' nN') :: (wl, listOf (ws ++ [Value.ref T]).toArray cw') :: (fl, listOf (fs ++ [vf]).toArray cf') :: (T, tupOf [.int (now + 10) t9, .int n t10, .int goal t11, .str path t7, .bytes data t8] nT) :: tl) →
      NetEs esN' ch wl fl (n + 1) → (dN ≠ T ∧ wl ≠ T ∧ fl ≠ T ∧ ∀ q ∈ tl, q.1 < T) → Q vf { s with heap := h', toks := tk }),
   wpAny (model PySem.Challenge.rw_rg0253_01.row.prog w) (mkA env outer d g u) (call (.ref 71) [.ref NW, .int now t5, .int goal t6, .str path t7, .bytes data t8]) Q E s := by
  k_fill
  intro w s L env outer d u g A₀ h₀ base m mg mb p loose mean tl NW dN wl fl ch esN nN nC cw cf ws fs now n goal t5 t6 t7 t8 path data Q E B F X T N m1 m2 o1 o2 o3 n1 n2 n3 lw lf gN hf hk hd k
  refine NetEs.elim gN fun t1 t2 t3 t4 le g1 g2 g3 g4 g5 g6 g7 g8 g9 g10 g11 g12 => ?_; clear gN
  k_steps
  rename (Fr h₀ L _ m) => F9
  rename (News h₀ L _ _) => N9
  simp only [List.push_toArray] at N9
  refine' k _ _ _ _ _ _ _ _ _ _ _ _ F9 (carry_perm N9) ?es ?fr
  case es => exact ⟨by omega, by with_reducible assumption, ⟨_, by with_reducible assumption⟩, ⟨_, by with_reducible assumption⟩, ⟨_, by with_reducible assumption⟩, ⟨_, by with_reducible assumption⟩, by with_reducible assumption, by with_reducible assumption, by with_reducible assumption, by with_reducible assumption, by with_reducible assumption, by with_reducible assumption, by with_reducible assumption⟩
  case fr => exact ⟨by k_ne, by k_ne, by k_ne, by k_allIn⟩
end

end
section
theorem off7 : True := by
  w_top off
  trivial
theorem send_perm0 {h₀ h : Heap} {L : Addr} {a b c d e : Addr × Obj} {tl : List (Addr × Obj)} (N : News h₀ L h (a :: b :: c :: d :: e :: tl)) : News h₀ L h (e :: c :: ([a] ++ tl)) := fun p hp => N p (perm_sub (A := [e, c, a]) (B := [a, b, c, d, e]) [4, 2, 0] rfl p hp)
theorem send_perm1 {h₀ h : Heap} {L : Addr} {a a2 b c d e : Addr × Obj} {tl : List (Addr × Obj)} (N : News h₀ L h (a :: a2 :: b :: c :: d :: e :: tl)) : News h₀ L h (e :: c :: ([a, a2] ++ tl)) := fun p hp => N p (perm_sub (A := [e, c, a, a2]) (B := [a, a2, b, c, d, e]) [5, 3, 0, 1] rfl p hp)
section
local macro_rules | `(tactic| walk_at "CompEnd") => `(tactic| (refine' comp_end2 ?F ?N ?x ?o ?S ?_; kbm_accL; (case x => exact ⟨by k_ne, by k_ne, by k_ne⟩)))
set_option maxHeartbeats 8000000 in
theorem send_call : ∀ {w : World} {s : Shared} {L : Addr} {env : Env} {outer : List Env} {d u : Nat} {g : Option (List Code)} {A₀ : Around} {h₀ base : Heap} {m mg mb : Str → Option Value} {p : Program} {loose : List Str} {mean : ExcName → Option Value} {tl : List (Addr × Obj)}
   {f b dq l c cb cn pm0 : Addr} {ob obc onc : Obj} {cq : Nat} {vs : List Value} {due : Option Int} {nm : Str} {t1 t2 : Tok} {v : Value} {Q : Value → Shared → Prop} {E : Value → Shared → Prop}
   (_B : Below A₀ base outer h₀) (_C : CodeHd base 312 308) (_F : Fr h₀ L s.heap m) (_X : (headK w.params).In h₀) (_T : Top p loose mean mg mb h₀)
   (_N : News h₀ L s.heap ((b, ob) :: tl)) (_m0 : (dq, listOf vs.toArray cq) ∈ tl)
   (_lam : LamAt tl 3 [(Str.ofString "name", cn), (Str.ofString "book", cb)] f) (_m1 : (cb, obc) ∈ tl) (_d1 : obc.data = .cell (some (.ref b))) (_m2 : (cn, onc) ∈ tl) (_d2 : onc.data = .cell (some (.str nm t1)))
   (_o1 : ∀ p ∈ tl, p.1 ≠ b) (_bk : BookIs w ob l dq c) (_du : DueIs vs due)
   (_hf : env.frame = some L) (_hk : env.scope.kind = .function) (_hd : d < 800)
   (_k : ∀ R ys nR dq' ob' own h' tk, Fr h₀ L h' m → News h₀ L h' ((b, ob') :: (dq', listOf #[] 0) :: (own ++ tl)) → BookIs w ob' l dq' c → (R, listOf ys.toArray nR) ∈ own → SentIs own nm ys due → Apart own dq' ((b, ob') :: tl) → Q (.ref R) { s with heap := h', toks := tk }),
   wpAny (model PySem.Challenge.rw_rg0253_01.row.prog w) (mkA env outer d g u) (call (.ref f) [v]) Q E s := by
  k_fill
  intro w s L env outer d u g A₀ h₀ base m mg mb p loose mean tl f b dq l c cb cn pm0 ob obc onc cq vs due nm t1 t2 v Q E B C F X T N m0 lam m1 d1 m2 d2 o1 bk du hf hk hd k
  obtain ⟨pm, c', ctv, hm0, oc, cvs, tq, hm, hd1, hd2⟩ := lam
  have hm' : (f, kla_obj _ _ _ _ _ _ _ _ _) ∈ tl := hm0
  clear hm0
  unfold BookIs at bk
  cases due with
  | none =>
    dsimp only [DueIs] at du
    subst du
    k_steps
    rename (Fr h₀ L _ m) => F9
    rename (News h₀ L _ _) => N9
    refine' k _ _ _ _ _ _ _ _ F9 (send_perm0 N9) ?bk ?m (by rfl) ?ap
    case bk => (unfold BookIs; assumption)
    case m => exact List.mem_cons_self
    case ap => exact ⟨by k_all, List.forall_mem_cons.mpr ⟨⟨by k_all, by k_ne⟩, List.forall_mem_nil _⟩⟩
  | some x =>
    obtain ⟨hx0, hx1, tx, du⟩ := du
    subst du
    k_steps
    rename (Fr h₀ L _ m) => F9
    rename (News h₀ L _ _) => N9
    refine' k _ _ _ _ _ _ _ _ F9 (send_perm1 N9) ?bk ?m ?st ?ap
    case bk => (unfold BookIs; assumption)
    case m => exact List.mem_cons_self
    case st =>
      unfold SentIs octOf
      dsimp only
      exact ⟨_, _, _, _, rfl, List.mem_cons_of_mem _ List.mem_cons_self⟩
    case ap => exact ⟨by k_all, List.forall_mem_cons.mpr ⟨⟨by k_all, by k_ne⟩, List.forall_mem_cons.mpr ⟨⟨by k_all, by k_ne⟩, List.forall_mem_nil _⟩⟩⟩
end

end
section
theorem nodup5 {a b c d e : Addr} (h : [a, b, c, d, e].Nodup) : a ≠ b ∧ a ≠ c ∧ b ≠ c ∧ d ∉ [a, b, c] ∧ e ∉ [a, b, c] := by
  simp only [List.nodup_cons, List.mem_cons, List.not_mem_nil, or_false, not_or] at h ⊢
  obtain ⟨⟨h1, h2, h3, h4⟩, ⟨h5, h6, h7⟩, ⟨h8, h9⟩, _⟩ := h
  exact ⟨h1, h2, h5, ⟨Ne.symm h3, Ne.symm h6, Ne.symm h8⟩, ⟨Ne.symm h4, Ne.symm h7, Ne.symm h9⟩⟩
theorem carryW {w : World} {s : Shared} {L : Addr} {env : Env} {outer : List Env} {d u : Nat} {g : Option (List Code)} {A₀ : Around} {h₀ base : Heap} {m mg mb : Str → Option Value} {p : Program} {loose : List Str} {mean : ExcName → Option Value} {news : List (Addr × Obj)}
   {NW dN wl fl ch : Addr} {esN : List DictEntry} {nN nC cw cf : Nat} {ws fs : List Value} {now n goal : Int} {t5 t6 t7 t8 : Tok} {path : Str} {data : Array UInt8} {Q : Value → Shared → Prop} {E : Value → Shared → Prop}
   (B : Below A₀ base outer h₀) (F : Fr h₀ L s.heap m) (X : (headK w.params).In h₀) (T : Top p loose mean mg mb h₀) (N : News h₀ L s.heap news)
   (m1 : (NW, instObj 84 dN) ∈ news) (m2 : (dN, dictOf esN nN) ∈ news) (gN : NetEs esN ch wl fl n) (m3 : (wl, listOf ws.toArray cw) ∈ news) (m4 : (fl, listOf fs.toArray cf) ∈ news) (m5 : (ch, listOf #[] nC) ∈ news)
   (nd : [dN, wl, fl, NW, ch].Nodup) (lw : ws.length ≤ 100) (lf : fs.length ≤ 100)
   (hf : env.frame = some L) (hk : env.scope.kind = .function) (hd : d < 800)
   (k : ∀ T esN' nN' cw' cf' vf nT t9 t10 t11 h' tk, Fr h₀ L h' m →
      (∀ n1 n2 n3, Upd dN (dictOf esN nN) (dictOf esN' nN') news n1 → Upd wl (listOf ws.toArray cw) (listOf (ws ++ [Value.ref T]).toArray cw') n1 n2 → Upd fl (listOf fs.toArray cf) (listOf (fs ++ [vf]).toArray cf') n2 n3 →
        News h₀ L h' ((T, tupOf [.int (now + 10) t9, .int n t10, .int goal t11, .str path t7, .bytes data t8] nT) :: n3)) →
      NetEs esN' ch wl fl (n + 1) → (∀ q ∈ news, q.1 ≠ T) → Q vf { s with heap := h', toks := tk }) :
   wpAny (model PySem.Challenge.rw_rg0253_01.row.prog w) (mkA env outer d g u) (call (.ref 71) [.ref NW, .int now t5, .int goal t6, .str path t7, .bytes data t8]) Q E s := by
  obtain ⟨n1, n2, n3, x1, x2⟩ := nodup5 nd
  refine carry_call (tl := offs [dN, wl, fl] news) (nN := nN) (cw := cw) (cf := cf) B F X T (News.of_sub N fun p hp => ?_) (mem_offs.mpr ⟨m1, x1⟩) (mem_offs.mpr ⟨m5, x2⟩) (offs_ne (by simp)) (offs_ne (by simp)) (offs_ne (by simp)) n1 n2 n3 lw lf gN hf hk hd ?_
  · rcases List.mem_cons.mp hp with rfl | hp
    · exact m2
    · rcases List.mem_cons.mp hp with rfl | hp
      · exact m3
      · rcases List.mem_cons.mp hp with rfl | hp
        · exact m4
        · exact offs_sub _ hp
  · intro T' esN' nN' cw' cf' vf nT t9 t10 t11 h' tk F' N' gN' fr
    refine k T' esN' nN' cw' cf' vf nT t9 t10 t11 h' tk F' (fun l1 l2 l3 U1 U2 U3 => news_upd3 (own := [_]) N' U1 U2 U3) gN' fun q hq => ?_
    obtain ⟨f1, f2, f3, f4⟩ := fr
    by_cases hm : q.1 ∈ [dN, wl, fl]
    · simp only [List.mem_cons, List.not_mem_nil, or_false] at hm
      rcases hm with e | e | e
      · rw [e]; exact f1
      · rw [e]; exact f2
      · rw [e]; exact f3
    · exact Nat.ne_of_lt (f4 q (mem_offs.mpr ⟨hq, hm⟩))
theorem sendW {w : World} {s : Shared} {L : Addr} {env : Env} {outer : List Env} {d u : Nat} {g : Option (List Code)} {A₀ : Around} {h₀ base : Heap} {m mg mb : Str → Option Value} {p : Program} {loose : List Str} {mean : ExcName → Option Value} {news tl : List (Addr × Obj)}
   {f b dq l c cb cn : Addr} {ob obc onc : Obj} {cq : Nat} {vs : List Value} {due : Option Int} {nm : Str} {t1 : Tok} {v : Value} {Q : Value → Shared → Prop} {E : Value → Shared → Prop}
   (B : Below A₀ base outer h₀) (C : CodeHd base 312 308) (F : Fr h₀ L s.heap m) (X : (headK w.params).In h₀) (T : Top p loose mean mg mb h₀) (N : News h₀ L s.heap news)
   (lam : LamAt tl 3 [(Str.ofString "name", cn), (Str.ofString "book", cb)] f) (m1 : (cb, obc) ∈ tl) (d1 : obc.data = .cell (some (.ref b))) (m2 : (cn, onc) ∈ tl) (d2 : onc.data = .cell (some (.str nm t1)))
   (htl : ∀ p ∈ tl, p ∈ news ∧ p.1 ≠ b) (m3 : (b, ob) ∈ news) (bk : BookIs w ob l dq c) (m0 : (dq, listOf vs.toArray cq) ∈ news) (n1 : dq ≠ b) (du : DueIs vs due)
   (hf : env.frame = some L) (hk : env.scope.kind = .function) (hd : d < 800)
   (k : ∀ R ys nR dq' ob' own h' tk, Fr h₀ L h' m → (∀ l1, Upd b ob ob' news l1 → News h₀ L h' ((R, listOf ys.toArray nR) :: (dq', listOf #[] 0) :: (own ++ l1))) → BookIs w ob' l dq' c → SentIs own nm ys due → (∀ q ∈ news, q.1 ≠ dq') → (∀ q ∈ news, q.1 ≠ R) → R ≠ dq' →
      (∀ p ∈ own, (∀ q ∈ news, q.1 ≠ p.1) ∧ p.1 ≠ dq') → Q (.ref R) { s with heap := h', toks := tk }) :
   wpAny (model PySem.Challenge.rw_rg0253_01.row.prog w) (mkA env outer d g u) (call (.ref f) [v]) Q E s := by
  have hs : ∀ p ∈ tl, p ∈ offs [b] news := fun p hp => mem_offs.mpr ⟨(htl p hp).1, fun z => (htl p hp).2 (List.mem_singleton.mp z)⟩
  refine send_call (tl := offs [b] news) (pm0 := 0) (t2 := 0) B C F X T (News.of_sub N fun p hp => ?_) (mem_offs.mpr ⟨m0, fun z => n1 (List.mem_singleton.mp z)⟩) (lam.mono hs) (hs _ m1) d1 (hs _ m2) d2 (offs_ne (by simp)) bk du hf hk hd ?_
  · rcases List.mem_cons.mp hp with rfl | hp
    · exact m3
    · exact offs_sub _ hp
  · intro R ys nR dq' ob' own h' tk F' N' bk' hR hS ap
    obtain ⟨a1, a2⟩ := ap
    have all : ∀ {x : Addr}, (∀ q ∈ (b, ob') :: offs [b] news, q.1 ≠ x) → ∀ q ∈ news, q.1 ≠ x := fun {x} h q hq => by
      by_cases hm : q.1 = b
      · rw [hm]; exact h (b, ob') (.head _)
      · exact h q (.tail _ (mem_offs.mpr ⟨hq, fun z => hm (List.mem_singleton.mp z)⟩))
    refine k R ys nR dq' ob' own h' tk F' (fun l1 U => ?_) bk' hS (all a1) (all (a2 _ hR).1) (a2 _ hR).2 fun p hp => ⟨all (a2 p hp).1, (a2 p hp).2⟩
    have N2 : News h₀ L h' ((b, ob') :: (((dq', listOf #[] 0) :: own) ++ offs [b] news)) := N'
    have N3 := news_upd1 N2 U
    intro p hp
    rcases List.mem_cons.mp hp with rfl | hp
    · exact N3 _ (.tail _ (List.mem_append.mpr (.inl hR)))
    · exact N3 p hp
section
variable {w : World} {s : Shared} {L : Addr} {env : Env} {outer : List Env} {d u : Nat} {g : Option (List Code)} {A₀ : Around} {h₀ base : Heap} {m mg mb : Str → Option Value} {p : Program} {loose : List Str} {mean : ExcName → Option Value} {news tl : List (Addr × Obj)}
   {f b dq l c cb cn : Addr} {ob obc onc : Obj} {cq : Nat} {nm : Str} {t1 tx : Tok} {v : Value} {x : Int} {Q : Value → Shared → Prop} {E : Value → Shared → Prop}
theorem sendW0 (B : Below A₀ base outer h₀) (C : CodeHd base 312 308) (F : Fr h₀ L s.heap m) (X : (headK w.params).In h₀) (T : Top p loose mean mg mb h₀) (N : News h₀ L s.heap news)
   (lam : LamAt tl 3 [(Str.ofString "name", cn), (Str.ofString "book", cb)] f) (m1 : (cb, obc) ∈ tl) (d1 : obc.data = .cell (some (.ref b))) (m2 : (cn, onc) ∈ tl) (d2 : onc.data = .cell (some (.str nm t1)))
   (htl : ∀ p ∈ tl, p ∈ news ∧ p.1 ≠ b) (m3 : (b, ob) ∈ news) (bk : BookIs w ob l dq c) (m0 : (dq, listOf #[] cq) ∈ tl)
   (hf : env.frame = some L) (hk : env.scope.kind = .function) (hd : d < 800)
   (k : ∀ R nR dq' ob' h' tk, Fr h₀ L h' m → (∀ l1, Upd b ob ob' news l1 → News h₀ L h' ((R, listOf #[] nR) :: (dq', listOf #[] 0) :: l1)) → BookIs w ob' l dq' c → (∀ q ∈ news, q.1 ≠ dq') → (∀ q ∈ news, q.1 ≠ R) → R ≠ dq' → Q (.ref R) { s with heap := h', toks := tk }) :
   wpAny (model PySem.Challenge.rw_rg0253_01.row.prog w) (mkA env outer d g u) (call (.ref f) [v]) Q E s := by
  refine sendW (due := none) (vs := []) B C F X T N lam m1 d1 m2 d2 htl m3 bk (htl _ m0).1 (htl _ m0).2 rfl hf hk hd ?_
  intro R ys nR dq' ob' own h' tk F' hN bk' hS a1 a2 a3 a4
  have e : ys = [] := hS
  subst e
  exact k R nR dq' ob' h' tk F' (fun l1 U => News.of_sub (hN l1 U) fun p hp => by
    rcases List.mem_cons.mp hp with rfl | hp
    · exact .head _
    · rcases List.mem_cons.mp hp with rfl | hp
      · exact .tail _ (.head _)
      · exact .tail _ (.tail _ (List.mem_append.mpr (.inr hp)))) bk' a1 a2 a3
theorem sendW1 (B : Below A₀ base outer h₀) (C : CodeHd base 312 308) (F : Fr h₀ L s.heap m) (X : (headK w.params).In h₀) (T : Top p loose mean mg mb h₀) (N : News h₀ L s.heap news)
   (lam : LamAt tl 3 [(Str.ofString "name", cn), (Str.ofString "book", cb)] f) (m1 : (cb, obc) ∈ tl) (d1 : obc.data = .cell (some (.ref b))) (m2 : (cn, onc) ∈ tl) (d2 : onc.data = .cell (some (.str nm t1)))
   (htl : ∀ p ∈ tl, p ∈ news ∧ p.1 ≠ b) (m3 : (b, ob) ∈ news) (bk : BookIs w ob l dq c) (m0 : (dq, listOf #[Value.int x tx] cq) ∈ tl) (hx0 : 0 ≤ x) (hx1 : x < 256)
   (hf : env.frame = some L) (hk : env.scope.kind = .function) (hd : d < 800)
   (k : ∀ R nR T nT t2 t3 dq' ob' h' tk, Fr h₀ L h' m → (∀ l1, Upd b ob ob' news l1 → News h₀ L h' ((R, listOf #[Value.ref T] nR) :: (T, tupOf [Value.bytes (octOf x) t2, Value.str nm t3] nT) :: (dq', listOf #[] 0) :: l1)) → BookIs w ob' l dq' c →
      (∀ q ∈ news, q.1 ≠ dq') → (∀ q ∈ news, q.1 ≠ R) → (∀ q ∈ news, q.1 ≠ T) → R ≠ dq' → T ≠ dq' → Q (.ref R) { s with heap := h', toks := tk }) :
   wpAny (model PySem.Challenge.rw_rg0253_01.row.prog w) (mkA env outer d g u) (call (.ref f) [v]) Q E s := by
  refine sendW (due := some x) (vs := [Value.int x tx]) B C F X T N lam m1 d1 m2 d2 htl m3 bk (htl _ m0).1 (htl _ m0).2 ⟨hx0, hx1, tx, rfl⟩ hf hk hd ?_
  intro R ys nR dq' ob' own h' tk F' hN bk' hS a1 a2 a3 a4
  obtain ⟨T', t2, t3, nT, e, hT⟩ := hS
  subst e
  exact k R nR T' nT t2 t3 dq' ob' h' tk F' (fun l1 U => News.of_sub (hN l1 U) fun p hp => by
    rcases List.mem_cons.mp hp with rfl | hp
    · exact .head _
    · rcases List.mem_cons.mp hp with rfl | hp
      · exact .tail _ (.tail _ (List.mem_append.mpr (.inl hT)))
      · rcases List.mem_cons.mp hp with rfl | hp
        · exact .tail _ (.head _)
        · exact .tail _ (.tail _ (List.mem_append.mpr (.inr hp)))) bk' a1 a2 (a4 _ hT).1 a3 (a4 _ hT).2
end

end
section
theorem off9 : True := by
  w_top off
  trivial
theorem sa_perm00 {h₀ h : Heap} {L : Addr} {a b c d e1 e2 e3 e4 e5 : Addr × Obj} {tl : List (Addr × Obj)} (N : News h₀ L h (a :: b :: c :: d :: e1 :: e2 :: e3 :: e4 :: e5 :: tl)) : News h₀ L h (e1 :: e2 :: e3 :: e4 :: e5 :: d :: b :: ([] ++ tl)) := fun p hp => N p (perm_sub (A := [e1, e2, e3, e4, e5, d, b]) (B := [a, b, c, d, e1, e2, e3, e4, e5]) [4, 5, 6, 7, 8, 3, 1] rfl p hp)
theorem sa_perm01 {h₀ h : Heap} {L : Addr} {t r r2 b c d e1 e2 e3 e4 e5 : Addr × Obj} {tl : List (Addr × Obj)} (N : News h₀ L h (t :: r :: r2 :: b :: c :: d :: e1 :: e2 :: e3 :: e4 :: e5 :: tl)) : News h₀ L h (e1 :: e2 :: e3 :: e4 :: e5 :: d :: b :: ([t] ++ tl)) := fun p hp => N p (perm_sub (A := [e1, e2, e3, e4, e5, d, b, t]) (B := [t, r, r2, b, c, d, e1, e2, e3, e4, e5]) [6, 7, 8, 9, 10, 5, 3, 0] rfl p hp)
theorem sa_perm10 {h₀ h : Heap} {L : Addr} {t r r2 b c d e1 e2 e3 e4 e5 : Addr × Obj} {tl : List (Addr × Obj)} (N : News h₀ L h (r :: b :: t :: r2 :: c :: d :: e1 :: e2 :: e3 :: e4 :: e5 :: tl)) : News h₀ L h (e1 :: e2 :: e3 :: e4 :: e5 :: d :: b :: ([t] ++ tl)) := fun p hp => N p (perm_sub (A := [e1, e2, e3, e4, e5, d, b, t]) (B := [r, b, t, r2, c, d, e1, e2, e3, e4, e5]) [6, 7, 8, 9, 10, 5, 1, 2] rfl p hp)
theorem sa_perm11 {h₀ h : Heap} {L : Addr} {t t2 r r2 b c d f e1 e2 e3 e4 e5 : Addr × Obj} {tl : List (Addr × Obj)} (N : News h₀ L h (t2 :: r :: r2 :: b :: t :: c :: f :: d :: e1 :: e2 :: e3 :: e4 :: e5 :: tl)) : News h₀ L h (e1 :: e2 :: e3 :: e4 :: e5 :: d :: b :: ([t, t2] ++ tl)) := fun p hp => N p (perm_sub (A := [e1, e2, e3, e4, e5, d, b, t, t2]) (B := [t2, r, r2, b, t, c, f, d, e1, e2, e3, e4, e5]) [8, 9, 10, 11, 12, 7, 3, 4, 0] rfl p hp)
/-- what stands apart behind a step's sending -/
noncomputable def SaFresh (own tl : List (Addr × Obj)) (dN wl fl b0 b1 q0 q1 : Addr) : Prop :=
  (∀ p ∈ own, ∀ q ∈ tl, q.1 ≠ p.1) ∧ (∀ a ∈ [q0, q1], ∀ q ∈ tl, q.1 ≠ a) ∧ (∀ p ∈ own, ∀ a ∈ [dN, wl, fl, b0, b1, q0, q1], a ≠ p.1) ∧ [dN, wl, fl, b0, b1, q0, q1].Nodup
section
local macro_rules | `(tactic| walk_at "call ref") => `(tactic| ((fail_if_success (with_reducible show wpAny _ _ (call (Value.ref 121) _) _ _ _)); (fail_if_success (with_reducible show wpAny _ _ (call (Value.ref 95) _) _ _ _)); refine stop_here ?_))
local macro_rules | `(tactic| walk_at "callWith ref") => `(tactic| kctr_use)
set_option maxHeartbeats 8000000 in
theorem sendall_call : ∀ {w : World} {s : Shared} {L : Addr} {env : Env} {outer : List Env} {d u : Nat} {g : Option (List Code)} {A₀ : Around} {h₀ base : Heap} {m mg mb : Str → Option Value} {p : Program} {loose : List Str} {mean : ExcName → Option Value} {tl : List (Addr × Obj)}
   {W dW NW dN wl fl ch hl h0 h1 b0 b1 l0 l1 q0 q1 c0 c1 : Addr} {esW esN : List DictEntry} {nW nN nC nH cw cf cq0 cq1 : Nat} {ws fs vs0 vs1 : List Value} {now steps n : Int} {ob0 ob1 : Obj} {due0 due1 : Option Int} {Q : Value → Shared → Prop} {E : Value → Shared → Prop}
   (_B : Below A₀ base outer h₀) (_C : Hid (CodeHd base 312 308)) (_F : Fr h₀ L s.heap m) (_X : (headK w.params).In h₀) (_T : Top p loose mean mg mb h₀)
   (_N : News h₀ L s.heap ((dN, dictOf esN nN) :: (wl, listOf ws.toArray cw) :: (fl, listOf fs.toArray cf) :: (b0, ob0) :: (b1, ob1) :: tl))
   (_mW : (W, instObj 143 dW) ∈ tl) (_mdW : (dW, dictOf esW nW) ∈ tl) (_gW : WorldEs esW hl NW now steps) (_mN : (NW, instObj 84 dN) ∈ tl) (_gN : NetEs esN ch wl fl n) (_mC : (ch, listOf #[] nC) ∈ tl) (_mH : (hl, listOf #[.ref h0, .ref h1] nH) ∈ tl)
   (_H0 : HostAt tl h0 b0 (Str.ofString "client")) (_H1 : HostAt tl h1 b1 (Str.ofString "server")) (_bk0 : BookIs w ob0 l0 q0 c0) (_bk1 : BookIs w ob1 l1 q1 c1) (_mq0 : (q0, listOf vs0.toArray cq0) ∈ tl) (_mq1 : (q1, listOf vs1.toArray cq1) ∈ tl) (_du0 : DueIs vs0 due0) (_du1 : DueIs vs1 due1)
   (_nd : [dN, wl, fl, b0, b1].Nodup) (_off : ∀ a ∈ [dN, wl, fl, b0, b1], ∀ p ∈ tl, p.1 ≠ a) (_nNC : NW ≠ ch) (_lw : ws.length ≤ 98) (_lf : fs.length ≤ 98)
   (_hf : env.frame = some L) (_hk : env.scope.kind = .function) (_hd : d < 700)
   (_k : ∀ esN' nN' cw' cf' ws' vs' fs' q0' q1' ob0' ob1' own v h' tk, Fr h₀ L h' m → News h₀ L h' ((dN, dictOf esN' nN') :: (wl, listOf (List.toArray ws') cw') :: (fl, listOf (List.toArray fs') cf') :: (b0, ob0') :: (b1, ob1') :: (q0', listOf #[] 0) :: (q1', listOf #[] 0) :: (own ++ tl)) →
      ws' = ws ++ vs' → fs'.length ≤ fs.length + 2 → NetEs esN' ch wl fl (cntOf n due0 due1) → BookIs w ob0' l0 q0' c0 → BookIs w ob1' l1 q1' c1 → FliesAre own vs' (sentOf now n due0 due1) → SaFresh own tl dN wl fl b0 b1 q0' q1' → Q v { s with heap := h', toks := tk }),
   wpAny (model PySem.Challenge.rw_rg0253_01.row.prog w) (mkA env outer d g u) (call (.ref 121) [.ref W]) Q E s := by
  k_fill
  intro w s L env outer d u g A₀ h₀ base m mg mb p loose mean tl W dW NW dN wl fl ch hl h0 h1 b0 b1 l0 l1 q0 q1 c0 c1 esW esN nW nN nC nH cw cf cq0 cq1 ws fs vs0 vs1 now steps n ob0 ob1 due0 due1 Q E B C F X T N mW mdW gW mN gN mC mH H0 H1 bk0 bk1 mq0 mq1 du0 du1 nd off nNC lw lf hf hk hd k
  refine WorldEs.elim gW fun wt1 wt2 wle wg1 wg2 wg3 wg4 wg5 wg6 wg7 wg8 => ?_; clear gW
  refine HostAt.elim H0 fun dh0 es0 n0 f01 f02 f03 f04 cb0 cn0 obc0 onc0 tn0 x1 x2 x3 x4 x5 x6 x7 x8 x9 x10 x11 x12 x13 x14 => ?_; clear H0
  refine HostAt.elim H1 fun dh1 es1 n1 f11 f12 f13 f14 cb1 cn1 obc1 onc1 tn1 y1 y2 y3 y4 y5 y6 y7 y8 y9 y10 y11 y12 y13 y14 => ?_; clear H1
  have off1 := off _ (by simp : dN ∈ [dN, wl, fl, b0, b1])
  have off2 := off _ (by simp : wl ∈ [dN, wl, fl, b0, b1])
  have off3 := off _ (by simp : fl ∈ [dN, wl, fl, b0, b1])
  have off4 := off _ (by simp : b0 ∈ [dN, wl, fl, b0, b1])
  have off5 := off _ (by simp : b1 ∈ [dN, wl, fl, b0, b1])
  simp only [List.nodup_cons, List.mem_cons, List.not_mem_nil, or_false, not_or, List.nodup_nil, not_false_eq_true, and_true] at nd
  obtain ⟨⟨nd1, nd2, nd3, nd4⟩, ⟨nd5, nd6, nd7⟩, ⟨nd8, nd9⟩, nd10⟩ := nd
  have c9 := NetEs.carry gN
  have e1 := off1 _ mN
  have e2 := off2 _ mN
  have e3 := off3 _ mN
  have e4 := off1 _ mC
  have e5 := off2 _ mC
  have e6 := off3 _ mC
  obtain ⟨pmA, cA, ctA, hA0⟩ := x9.obj
  have hA : (f03, kla_obj _ _ _ _ _ _ _ _ _) ∈ tl := hA0
  clear hA0
  obtain ⟨pmB, cB, ctB, hB0⟩ := y9.obj
  have hB : (f13, kla_obj _ _ _ _ _ _ _ _ _) ∈ tl := hB0
  clear hB0
  cases due0 with
  | none =>
    cases due1 with
    | none =>
      dsimp only [DueIs] at du0 du1
      subst du0 du1
      k_steps
      repeat (
        refine Hid.out ?_
        first
        | ((with_reducible show wpAny _ _ (call (Value.ref 71) _) _ _ _)
           k_dflt (
           refine' carryW ?B ?F ?X ?T ?N ?m1 ?m2 ?g ?m3 ?m4 ?m5 ?nd ?lw ?lf ?hf ?hk ?hd ?_
           ktm_count
           (case m1 => k_mem)
           (case m2 => k_mem)
           (case g => with_reducible assumption)
           (case m3 => k_mem)
           (case m4 => k_mem)
           (case m5 => k_mem)
           (case nd => k_keys)
           (case lw => (try simp only [List.length_append, List.length_cons, List.length_nil]); omega)
           (case lf => (try simp only [List.length_append, List.length_cons, List.length_nil]); omega)
           (intro T' esN' nN' cw' cf' vf nT t9 t10 t11 h' tk F' hN gN' fr'; (have N' := hN _ _ _ (by k_upd) (by k_upd) (by k_upd)); clear hN; (have c9 := NetEs.carry gN'); (try dsimp only))))
        | (k_dflt (
           refine' sendW0 ?B ?C ?F ?X ?T ?N ?lam ?m1 ?d1 ?m2 ?d2 ?htl ?m3 ?bk ?m0 ?hf ?hk ?hd ?_
           (case lam => with_reducible assumption)
           (case C => exact (by with_reducible assumption : Hid (CodeHd _ 312 308)))
           ktm_count
           (case m1 => with_reducible assumption)
           (case d1 => with_reducible assumption)
           (case m2 => with_reducible assumption)
           (case d2 => with_reducible assumption)
           (case htl => exact fun p hp => And.intro (by repeat (first | exact hp | refine List.mem_cons_of_mem _ ?_)) (by revert p; k_all))
           (case m3 => k_mem)
           (case bk => with_reducible assumption)
           (case m0 => with_reducible assumption)
           (intro R nR dq' ob' h' tk F' hN bk' a1 a2 a3; (have N' := hN _ (by k_upd)); clear hN; (try dsimp only))))
        | (k_dflt (
           refine' sendW1 ?B ?C ?F ?X ?T ?N ?lam ?m1 ?d1 ?m2 ?d2 ?htl ?m3 ?bk ?m0 ?x0 ?x1 ?hf ?hk ?hd ?_
           (case lam => with_reducible assumption)
           (case C => exact (by with_reducible assumption : Hid (CodeHd _ 312 308)))
           ktm_count
           (case m1 => with_reducible assumption)
           (case d1 => with_reducible assumption)
           (case m2 => with_reducible assumption)
           (case d2 => with_reducible assumption)
           (case htl => exact fun p hp => And.intro (by repeat (first | exact hp | refine List.mem_cons_of_mem _ ?_)) (by revert p; k_all))
           (case m3 => k_mem)
           (case bk => with_reducible assumption)
           (case m0 => with_reducible assumption)
           (case x0 => assumption)
           (case x1 => assumption)
           (intro R nR T nT t2 t3 dq' ob' h' tk F' hN bk' a1 a2 a3 a4 a5; (have N' := hN _ (by k_upd)); clear hN; (try dsimp only))))
        k_steps)
      rename (Fr h₀ L _ m) => F9
      rename (News h₀ L _ _) => N9
      refine' k _ _ _ _ _ _ _ _ _ _ _ _ _ _ _ F9 (sa_perm00 N9) ?ew ?ef ?gn ?bk0 ?bk1 ?fa ?fr
      case ew => first | exact (List.append_nil _).symm | exact List.append_assoc _ _ _ | rfl
      case ef => (try simp only [List.length_append, List.length_cons, List.length_nil]); omega
      case gn => (dsimp only [cntOf]; with_reducible assumption)
      case bk0 => with_reducible assumption
      case bk1 => with_reducible assumption
      case fa => exact trivial
      case fr =>
        refine' ⟨?p1, ?p2, ?p3, ?p4⟩
        case p4 => k_keys
        case p2 => exact List.forall_mem_cons.mpr ⟨by k_all, List.forall_mem_cons.mpr ⟨by k_all, List.forall_mem_nil _⟩⟩
        case p1 => (repeat' (first | exact List.forall_mem_nil _ | refine List.forall_mem_cons.mpr (And.intro (by k_all) ?_)))
        case p3 => (repeat' (first | exact List.forall_mem_nil _ | refine List.forall_mem_cons.mpr (And.intro ?_ ?_))); all_goals k_ne
    | some x1 =>
      obtain ⟨hx10, hx11, tx1, du1⟩ := du1
      dsimp only [DueIs] at du0
      subst du0 du1
      k_steps
      repeat (
        refine Hid.out ?_
        first
        | ((with_reducible show wpAny _ _ (call (Value.ref 71) _) _ _ _)
           k_dflt (
           refine' carryW ?B ?F ?X ?T ?N ?m1 ?m2 ?g ?m3 ?m4 ?m5 ?nd ?lw ?lf ?hf ?hk ?hd ?_
           ktm_count
           (case m1 => k_mem)
           (case m2 => k_mem)
           (case g => with_reducible assumption)
           (case m3 => k_mem)
           (case m4 => k_mem)
           (case m5 => k_mem)
           (case nd => k_keys)
           (case lw => (try simp only [List.length_append, List.length_cons, List.length_nil]); omega)
           (case lf => (try simp only [List.length_append, List.length_cons, List.length_nil]); omega)
           (intro T' esN' nN' cw' cf' vf nT t9 t10 t11 h' tk F' hN gN' fr'; (have N' := hN _ _ _ (by k_upd) (by k_upd) (by k_upd)); clear hN; (have c9 := NetEs.carry gN'); (try dsimp only))))
        | (k_dflt (
           refine' sendW0 ?B ?C ?F ?X ?T ?N ?lam ?m1 ?d1 ?m2 ?d2 ?htl ?m3 ?bk ?m0 ?hf ?hk ?hd ?_
           (case lam => with_reducible assumption)
           (case C => exact (by with_reducible assumption : Hid (CodeHd _ 312 308)))
           ktm_count
           (case m1 => with_reducible assumption)
           (case d1 => with_reducible assumption)
           (case m2 => with_reducible assumption)
           (case d2 => with_reducible assumption)
           (case htl => exact fun p hp => And.intro (by repeat (first | exact hp | refine List.mem_cons_of_mem _ ?_)) (by revert p; k_all))
           (case m3 => k_mem)
           (case bk => with_reducible assumption)
           (case m0 => with_reducible assumption)
           (intro R nR dq' ob' h' tk F' hN bk' a1 a2 a3; (have N' := hN _ (by k_upd)); clear hN; (try dsimp only))))
        | (k_dflt (
           refine' sendW1 ?B ?C ?F ?X ?T ?N ?lam ?m1 ?d1 ?m2 ?d2 ?htl ?m3 ?bk ?m0 ?x0 ?x1 ?hf ?hk ?hd ?_
           (case lam => with_reducible assumption)
           (case C => exact (by with_reducible assumption : Hid (CodeHd _ 312 308)))
           ktm_count
           (case m1 => with_reducible assumption)
           (case d1 => with_reducible assumption)
           (case m2 => with_reducible assumption)
           (case d2 => with_reducible assumption)
           (case htl => exact fun p hp => And.intro (by repeat (first | exact hp | refine List.mem_cons_of_mem _ ?_)) (by revert p; k_all))
           (case m3 => k_mem)
           (case bk => with_reducible assumption)
           (case m0 => with_reducible assumption)
           (case x0 => assumption)
           (case x1 => assumption)
           (intro R nR T nT t2 t3 dq' ob' h' tk F' hN bk' a1 a2 a3 a4 a5; (have N' := hN _ (by k_upd)); clear hN; (try dsimp only))))
        k_steps)
      rename (Fr h₀ L _ m) => F9
      rename (News h₀ L _ _) => N9
      refine' k _ _ _ _ _ _ _ _ _ _ _ _ _ _ _ F9 (sa_perm01 N9) ?ew ?ef ?gn ?bk0 ?bk1 ?fa ?fr
      case ew => first | exact (List.append_nil _).symm | exact List.append_assoc _ _ _ | rfl
      case ef => (try simp only [List.length_append, List.length_cons, List.length_nil]); omega
      case gn => (dsimp only [cntOf]; with_reducible assumption)
      case bk0 => with_reducible assumption
      case bk1 => with_reducible assumption
      case fa => exact ⟨⟨_, _, _, _, _, _, _, rfl, List.mem_cons_self⟩, trivial⟩
      case fr =>
        refine' ⟨?p1, ?p2, ?p3, ?p4⟩
        case p4 => k_keys
        case p2 => exact List.forall_mem_cons.mpr ⟨by k_all, List.forall_mem_cons.mpr ⟨by k_all, List.forall_mem_nil _⟩⟩
        case p1 => (repeat' (first | exact List.forall_mem_nil _ | refine List.forall_mem_cons.mpr (And.intro (by k_all) ?_)))
        case p3 => (repeat' (first | exact List.forall_mem_nil _ | refine List.forall_mem_cons.mpr (And.intro ?_ ?_))); all_goals k_ne
  | some x0 =>
    obtain ⟨hx00, hx01, tx0, du0⟩ := du0
    cases due1 with
    | none =>
      dsimp only [DueIs] at du1
      subst du0 du1
      k_steps
      repeat (
        refine Hid.out ?_
        first
        | ((with_reducible show wpAny _ _ (call (Value.ref 71) _) _ _ _)
           k_dflt (
           refine' carryW ?B ?F ?X ?T ?N ?m1 ?m2 ?g ?m3 ?m4 ?m5 ?nd ?lw ?lf ?hf ?hk ?hd ?_
           ktm_count
           (case m1 => k_mem)
           (case m2 => k_mem)
           (case g => with_reducible assumption)
           (case m3 => k_mem)
           (case m4 => k_mem)
           (case m5 => k_mem)
           (case nd => k_keys)
           (case lw => (try simp only [List.length_append, List.length_cons, List.length_nil]); omega)
           (case lf => (try simp only [List.length_append, List.length_cons, List.length_nil]); omega)
           (intro T' esN' nN' cw' cf' vf nT t9 t10 t11 h' tk F' hN gN' fr'; (have N' := hN _ _ _ (by k_upd) (by k_upd) (by k_upd)); clear hN; (have c9 := NetEs.carry gN'); (try dsimp only))))
        | (k_dflt (
           refine' sendW0 ?B ?C ?F ?X ?T ?N ?lam ?m1 ?d1 ?m2 ?d2 ?htl ?m3 ?bk ?m0 ?hf ?hk ?hd ?_
           (case lam => with_reducible assumption)
           (case C => exact (by with_reducible assumption : Hid (CodeHd _ 312 308)))
           ktm_count
           (case m1 => with_reducible assumption)
           (case d1 => with_reducible assumption)
           (case m2 => with_reducible assumption)
           (case d2 => with_reducible assumption)
           (case htl => exact fun p hp => And.intro (by repeat (first | exact hp | refine List.mem_cons_of_mem _ ?_)) (by revert p; k_all))
           (case m3 => k_mem)
           (case bk => with_reducible assumption)
           (case m0 => with_reducible assumption)
           (intro R nR dq' ob' h' tk F' hN bk' a1 a2 a3; (have N' := hN _ (by k_upd)); clear hN; (try dsimp only))))
        | (k_dflt (
           refine' sendW1 ?B ?C ?F ?X ?T ?N ?lam ?m1 ?d1 ?m2 ?d2 ?htl ?m3 ?bk ?m0 ?x0 ?x1 ?hf ?hk ?hd ?_
           (case lam => with_reducible assumption)
           (case C => exact (by with_reducible assumption : Hid (CodeHd _ 312 308)))
           ktm_count
           (case m1 => with_reducible assumption)
           (case d1 => with_reducible assumption)
           (case m2 => with_reducible assumption)
           (case d2 => with_reducible assumption)
           (case htl => exact fun p hp => And.intro (by repeat (first | exact hp | refine List.mem_cons_of_mem _ ?_)) (by revert p; k_all))
           (case m3 => k_mem)
           (case bk => with_reducible assumption)
           (case m0 => with_reducible assumption)
           (case x0 => assumption)
           (case x1 => assumption)
           (intro R nR T nT t2 t3 dq' ob' h' tk F' hN bk' a1 a2 a3 a4 a5; (have N' := hN _ (by k_upd)); clear hN; (try dsimp only))))
        k_steps)
      rename (Fr h₀ L _ m) => F9
      rename (News h₀ L _ _) => N9
      refine' k _ _ _ _ _ _ _ _ _ _ _ _ _ _ _ F9 (sa_perm10 N9) ?ew ?ef ?gn ?bk0 ?bk1 ?fa ?fr
      case ew => first | exact (List.append_nil _).symm | exact List.append_assoc _ _ _ | rfl
      case ef => (try simp only [List.length_append, List.length_cons, List.length_nil]); omega
      case gn => (dsimp only [cntOf]; with_reducible assumption)
      case bk0 => with_reducible assumption
      case bk1 => with_reducible assumption
      case fa => exact ⟨⟨_, _, _, _, _, _, _, rfl, List.mem_cons_self⟩, trivial⟩
      case fr =>
        refine' ⟨?p1, ?p2, ?p3, ?p4⟩
        case p4 => k_keys
        case p2 => exact List.forall_mem_cons.mpr ⟨by k_all, List.forall_mem_cons.mpr ⟨by k_all, List.forall_mem_nil _⟩⟩
        case p1 => (repeat' (first | exact List.forall_mem_nil _ | refine List.forall_mem_cons.mpr (And.intro (by k_all) ?_)))
        case p3 => (repeat' (first | exact List.forall_mem_nil _ | refine List.forall_mem_cons.mpr (And.intro ?_ ?_))); all_goals k_ne
    | some x1 =>
      obtain ⟨hx10, hx11, tx1, du1⟩ := du1
      subst du0 du1
      k_steps
      repeat (
        refine Hid.out ?_
        first
        | ((with_reducible show wpAny _ _ (call (Value.ref 71) _) _ _ _)
           k_dflt (
           refine' carryW ?B ?F ?X ?T ?N ?m1 ?m2 ?g ?m3 ?m4 ?m5 ?nd ?lw ?lf ?hf ?hk ?hd ?_
           ktm_count
           (case m1 => k_mem)
           (case m2 => k_mem)
           (case g => with_reducible assumption)
           (case m3 => k_mem)
           (case m4 => k_mem)
           (case m5 => k_mem)
           (case nd => k_keys)
           (case lw => (try simp only [List.length_append, List.length_cons, List.length_nil]); omega)
           (case lf => (try simp only [List.length_append, List.length_cons, List.length_nil]); omega)
           (intro T' esN' nN' cw' cf' vf nT t9 t10 t11 h' tk F' hN gN' fr'; (have N' := hN _ _ _ (by k_upd) (by k_upd) (by k_upd)); clear hN; (have c9 := NetEs.carry gN'); (try dsimp only))))
        | (k_dflt (
           refine' sendW0 ?B ?C ?F ?X ?T ?N ?lam ?m1 ?d1 ?m2 ?d2 ?htl ?m3 ?bk ?m0 ?hf ?hk ?hd ?_
           (case lam => with_reducible assumption)
           (case C => exact (by with_reducible assumption : Hid (CodeHd _ 312 308)))
           ktm_count
           (case m1 => with_reducible assumption)
           (case d1 => with_reducible assumption)
           (case m2 => with_reducible assumption)
           (case d2 => with_reducible assumption)
           (case htl => exact fun p hp => And.intro (by repeat (first | exact hp | refine List.mem_cons_of_mem _ ?_)) (by revert p; k_all))
           (case m3 => k_mem)
           (case bk => with_reducible assumption)
           (case m0 => with_reducible assumption)
           (intro R nR dq' ob' h' tk F' hN bk' a1 a2 a3; (have N' := hN _ (by k_upd)); clear hN; (try dsimp only))))
        | (k_dflt (
           refine' sendW1 ?B ?C ?F ?X ?T ?N ?lam ?m1 ?d1 ?m2 ?d2 ?htl ?m3 ?bk ?m0 ?x0 ?x1 ?hf ?hk ?hd ?_
           (case lam => with_reducible assumption)
           (case C => exact (by with_reducible assumption : Hid (CodeHd _ 312 308)))
           ktm_count
           (case m1 => with_reducible assumption)
           (case d1 => with_reducible assumption)
           (case m2 => with_reducible assumption)
           (case d2 => with_reducible assumption)
           (case htl => exact fun p hp => And.intro (by repeat (first | exact hp | refine List.mem_cons_of_mem _ ?_)) (by revert p; k_all))
           (case m3 => k_mem)
           (case bk => with_reducible assumption)
           (case m0 => with_reducible assumption)
           (case x0 => assumption)
           (case x1 => assumption)
           (intro R nR T nT t2 t3 dq' ob' h' tk F' hN bk' a1 a2 a3 a4 a5; (have N' := hN _ (by k_upd)); clear hN; (try dsimp only))))
        k_steps)
      rename (Fr h₀ L _ m) => F9
      rename (News h₀ L _ _) => N9
      refine' k _ _ _ _ _ _ _ _ _ _ _ _ _ _ _ F9 (sa_perm11 N9) ?ew ?ef ?gn ?bk0 ?bk1 ?fa ?fr
      case ew => first | exact (List.append_nil _).symm | exact List.append_assoc _ _ _ | rfl
      case ef => (try simp only [List.length_append, List.length_cons, List.length_nil]); omega
      case gn => (dsimp only [cntOf]; with_reducible assumption)
      case bk0 => with_reducible assumption
      case bk1 => with_reducible assumption
      case fa => exact ⟨⟨_, _, _, _, _, _, _, rfl, List.mem_cons_self⟩, ⟨_, _, _, _, _, _, _, rfl, List.mem_cons_of_mem _ List.mem_cons_self⟩, trivial⟩
      case fr =>
        refine' ⟨?p1, ?p2, ?p3, ?p4⟩
        case p4 => k_keys
        case p2 => exact List.forall_mem_cons.mpr ⟨by k_all, List.forall_mem_cons.mpr ⟨by k_all, List.forall_mem_nil _⟩⟩
        case p1 => (repeat' (first | exact List.forall_mem_nil _ | refine List.forall_mem_cons.mpr (And.intro (by k_all) ?_)))
        case p3 => (repeat' (first | exact List.forall_mem_nil _ | refine List.forall_mem_cons.mpr (And.intro ?_ ?_))); all_goals k_ne
end

end
section
/-! ## a list comprehension over a list that stands: its element reads and makes, and changes nothing -/
noncomputable def Picked (R : Nat → Value → Prop) (p : Nat → Bool) : Nat → List Value → Prop
  | 0, ys => ys = []
  | n + 1, ys => if p n = true then ∃ ys' y, ys = ys' ++ [y] ∧ Picked R p n ys' ∧ R n y else Picked R p n ys
theorem Picked.mono {R R' : Nat → Value → Prop} {p : Nat → Bool} (h : ∀ i y, R i y → R' i y) : ∀ {n : Nat} {ys : List Value}, Picked R p n ys → Picked R' p n ys
  | 0, _, x => x
  | n + 1, ys, x => by
    unfold Picked at x ⊢
    split
    · rename_i hp
      rw [if_pos hp] at x
      obtain ⟨ys', y, e, a, b⟩ := x
      exact ⟨ys', y, e, a.mono h, h _ _ b⟩
    · rename_i hp
      rw [if_neg hp] at x
      exact x.mono h
theorem Picked.length {R : Nat → Value → Prop} {p : Nat → Bool} : ∀ {n : Nat} {ys : List Value}, Picked R p n ys → ys.length ≤ n
  | 0, ys, x => by have e : ys = [] := x; subst e; exact Nat.le_refl _
  | n + 1, ys, x => by
    unfold Picked at x
    split at x
    · obtain ⟨ys', y, e, a, b⟩ := x
      subst e
      have := a.length
      simp only [List.length_append, List.length_cons, List.length_nil]
      omega
    · have := x.length
      omega
/-- the rest of an item: the frame of the comprehension alone has changed, new things stand beside -/
noncomputable def ItemEnd (C : Addr) (s₁ s₄ : Shared) : Prop := ∃ h' tk m', s₄ = { s₁ with heap := h', toks := tk } ∧ h'.Ns C m' ∧ ∀ b o, b ≠ C → s₁.heap.get? b = some o → h'.get? b = some o
noncomputable def TupKept (h h' : Heap) : Prop := ∀ b xs n, h.get? b = some (tupOf xs n) → h'.get? b = some (tupOf xs n)
theorem TupKept.of_iter {h h' : Heap} {I ax : Addr} {i : Nat} (hit : h.IsListIter I ax i) (hk : ∀ b o, b ≠ I → h.get? b = some o → h'.get? b = some o) : TupKept h h' := fun b xs n e => by
  by_cases hb : b = I
  · subst hb
    obtain ⟨oo, e2, hcl, _⟩ := hit
    rw [e] at e2
    cases e2
    exact absurd hcl (by simp)
  · exact hk b _ hb e
theorem TupKept.of_ns {h h' : Heap} {C : Addr} {m : Str → Option Value} (hn : h.Ns C m) (hk : ∀ b o, b ≠ C → h.get? b = some o → h'.get? b = some o) : TupKept h h' := fun b xs n e => by
  by_cases hb : b = C
  · subst hb
    obtain ⟨oo, es, ep, e2, hdd, _⟩ := hn
    rw [e] at e2
    cases e2
    exact absurd hdd (by simp)
  · exact hk b _ hb e
theorem TupKept.of_list {h h' : Heap} {D : Addr} {ys : List Value} (hd : h.get? D = some (LCg.lst ys)) (hk : ∀ b o, b ≠ D → h.get? b = some o → h'.get? b = some o) : TupKept h h' := fun b xs n e => by
  by_cases hb : b = D
  · subst hb
    rw [e] at hd
    have := congrArg Obj.cls (Option.some.inj hd)
    exact absurd this (by simp)
  · exact hk b _ hb e
theorem TupKept.trans {h h' h'' : Heap} (a : TupKept h h') (b : TupKept h' h'') : TupKept h h'' := fun x xs n e => b x xs n (a x xs n e)
section
variable {prog : Program} {w : World} {A : Around} {E : Value → Shared → Prop} {s : Shared}
theorem comp_loop {R : Result → Shared → Prop} {elt target iter : Expr} {ifs : List Expr} {scope : Scope} {pos : Pos} {it acc : Value} {env : Env} (I : Nat → Shared → Prop)
    (turn : ∀ n s, I n s → wpAny (model prog w) A (pyNext it) (fun r s₁ => match r with
      | none => R (.ok .next) s₁
      | some v => wpAny (model prog w) A (letOwnedTupleGo target it v) (fun _ s₀ => wpAny (model prog w) A (assign target env v) (fun _ s₂ =>
          wpAny (model prog w) A (forIn ifs true fun c r => if r = true then do let ok ← isTrue c env (eval c env); pure (ForInStep.yield ok) else pure (ForInStep.yield r)) (fun ok s₃ =>
            if ok = true then wpAny (model prog w) A (eval elt env) (fun x s₄ =>
              wpAny (model prog w) A (call (.builtin "list.append") [acc, x]) (fun _ s₅ => ∃ m, m < n ∧ I m s₅) (notedBy (model prog w) A env fun e s' => R (.error e) s') s₄) (notedBy (model prog w) A env fun e s' => R (.error e) s') s₃
            else ∃ m, m < n ∧ I m s₃) (notedBy (model prog w) A env fun e s' => R (.error e) s') s₂) (notedBy (model prog w) A env fun e s' => R (.error e) s') s₀) (notedBy (model prog w) A env fun e s' => R (.error e) s') s₁) (notedBy (model prog w) A env fun e s' => R (.error e) s') s)
    (n : Nat) (h : I n s) : codeAny (model prog w) A (.compLoop (.ListComp elt [⟨target, iter, ifs, 0⟩] scope pos) 0 it acc env) R s := by
  refine codeAny_loop rfl I (fun n s hI => ?_) n h
  show wpAny _ A ((compTurn (.ListComp elt [⟨target, iter, ifs, 0⟩] scope pos) 0 it acc env).onRaise (fun x => do noteFrame x env; theTreesLotGoes x)) _ _ s
  refine wpAny_noted ?_
  rw [compTurn_list]
  refine wpAny_bind (wpAny_standAt (wpAny_bind (wpAny_mono (turn n s hI) (fun r s₁ h₁ => ?_) fun _ _ h' => h')))
  cases r with
  | none => exact wpAny_pure h₁
  | some v =>
    refine wpAny_bind (wpAny_mono h₁ (fun _ s₀ h₀ => ?_) fun _ _ h' => h')
    refine wpAny_bind (wpAny_mono h₀ (fun _ s₂ h₂ => wpAny_bind (wpAny_mono h₂ (fun ok s₃ h₃ => ?_) fun _ _ h' => h')) fun _ _ h' => h')
    cases ok with
    | false => exact wpAny_pure ⟨rfl, h₃⟩
    | true =>
      exact wpAny_bind (wpAny_bind (wpAny_mono h₃ (fun x s₄ h₄ => wpAny_bind (wpAny_mono h₄ (fun _ s₅ h₅ => wpAny_pure (wpAny_pure ⟨rfl, h₅⟩)) fun _ _ h' => h')) fun _ _ h' => h'))

theorem comp_block {elt target iter : Expr} {ifs : List Expr} {scope : Scope} {cl : List (Str × Addr)} {pos : Pos} {env : Env} {s₂ : Shared} {I ax : Addr} {vs : List Value} (R : Heap → Nat → Value → Prop) (p : Nat → Bool) {RR : Value → Addr → Result → Shared → Prop}
    (hh : A.handled = none) (hax : ax ≠ I) (hit : s₂.heap.IsListIter I ax 0) (hl : s₂.heap.IsList ax vs.toArray) (hsz : vs.length ≤ sizeLine)
    (hcell : ∀ y ∈ scope.names, y.2 ≠ .cell) (hkind : scope.kind = .function)
    (hR : ∀ h h' i y, R h i y → TupKept h h' → R h' i y)
    (item : ∀ i v C (s₁ : Shared) m₁ E', vs[i]? = some v → s₁.heap.Ns C m₁ → (∃ h tk, s₁ = { s₂ with heap := h, toks := tk }) → (∀ b o, b ≠ I → s₂.heap.get? b = some o → s₁.heap.get? b = some o) → s₂.heap.get? C = none →
      wpAny (model prog w) A (assign target (compEnvC scope cl C env) v) (fun _ s₂' => wpAny (model prog w) A (forIn ifs true fun c r => if r = true then do let ok ← isTrue c (compEnvC scope cl C env) (eval c (compEnvC scope cl C env)); pure (ForInStep.yield ok) else pure (ForInStep.yield r))
        (fun ok s₃ => ok = p i ∧ (ok = true → wpAny (model prog w) A (eval elt (compEnvC scope cl C env)) (fun y s₄ => R s₄.heap i y ∧ ItemEnd C s₁ s₄) E' s₃) ∧ (ok = false → ItemEnd C s₁ s₃)) E' s₂') E' s₁)
    (hRR : ∀ D C h tk m' ys, s₂.heap.get? D = none → s₂.heap.get? C = none → D ≠ C → h.Ns C m' → h.get? D = some (LCg.lst ys) → (∀ b o, b ≠ I → s₂.heap.get? b = some o → h.get? b = some o) → Picked (R h) p vs.length ys → RR (.ref D) C (.ok .next) { s₂ with heap := h, toks := tk }) :
    wpAny (model prog w) A (newList []) (fun acc s₃ => wpAny (model prog w) A (newFunctionEnv scope env.globals cl [] env.qual none .none (some env)) (fun cenv s₄ =>
      codeAny (model prog w) A (.compStart (.ListComp elt [⟨target, iter, ifs, 0⟩] scope pos) 0 (.ref I) acc { cenv with scope := relabel scope env }) (RR acc cenv.locals) s₄) E s₃) E s₂ := by
  refine wpAny_newObj_type (wpAny_newFunctionEnv hcell (by intro y hy; simp at hy) (fun h₁ hns₁ hsb₁ => ?_) hkind)
  dsimp only at hns₁ hsb₁ ⊢
  generalize hH2 : s₂.heap.push { cls := .type "list", dict := none, data := .seq ([] : List Value).toArray } = H2 at hns₁ hsb₁ ⊢
  have hC : H2.objs.size = s₂.heap.objs.size + 1 := by rw [← hH2, Heap.size_push]
  have hDC : s₂.heap.objs.size ≠ H2.objs.size := by rw [hC]; exact Nat.ne_of_lt (Nat.lt_succ_self _)
  have below : ∀ b, b < s₂.heap.objs.size → b ≠ H2.objs.size ∧ b ≠ s₂.heap.objs.size := fun b hb => ⟨by rw [hC]; exact Nat.ne_of_lt (Nat.lt_succ_of_lt hb), Nat.ne_of_lt hb⟩
  have hIlt : I < s₂.heap.objs.size := by obtain ⟨_, e, _⟩ := hit; exact Heap.lt_size e
  have haxlt : ax < s₂.heap.objs.size := by obtain ⟨_, e, _⟩ := hl; exact Heap.lt_size e
  have old : ∀ b o, s₂.heap.get? b = some o → h₁.get? b = some o := fun b o e => hsb₁.extBut b o (below b (Heap.lt_size e)).1 (Heap.get?_push_of_some _ (hH2 ▸ Heap.get?_push_of_some _ e))
  have hacc : h₁.get? s₂.heap.objs.size = some (LCg.lst []) := hsb₁.extBut _ _ hDC (Heap.get?_push_of_some _ (hH2 ▸ Heap.get?_push_size _ rfl))
  have fresh : ∀ a, s₂.heap.objs.size ≤ a → s₂.heap.get? a = none := fun a ha => by
    cases e : s₂.heap.get? a with
    | none => rfl
    | some o' => exact absurd (Heap.lt_size e) (Nat.not_lt.mpr ha)
  have hD₀ := fresh _ (Nat.le_refl s₂.heap.objs.size)
  have hC₀ : s₂.heap.get? H2.objs.size = none := fresh _ (by rw [hC]; exact Nat.le_succ _)
  have hit₁ : h₁.IsListIter I ax 0 := hit.at fun o e => old _ _ e
  have W := Walks.list (prog := prog) (w := w) hh I ax hax vs.toArray
  have hn : vs.toArray.size = vs.length := by simp
  rw [hn] at W
  have loop : ∀ s₃ : Shared, s₃ = { s₂ with heap := h₁, toks := s₂.toks + ([] : List (Str × Value)).length } →
      codeAny (model prog w) A (.compLoop (.ListComp elt [⟨target, iter, ifs, 0⟩] scope pos) 0 (.ref I) (.ref s₂.heap.objs.size) (compEnvC scope cl H2.objs.size env))
        (RR (.ref s₂.heap.objs.size) H2.objs.size) s₃ := by
    rintro s₃ rfl
    refine comp_loop
      (fun k s' => ∃ h' tk i ys m', s' = { s₂ with heap := h', toks := tk } ∧ i ≤ vs.length ∧ k = vs.length + 1 - i ∧ h'.IsListIter I ax i ∧ h'.Ns H2.objs.size m' ∧ h'.get? s₂.heap.objs.size = some (LCg.lst ys) ∧
        (∀ b o, b ≠ I → s₂.heap.get? b = some o → h'.get? b = some o) ∧ Picked (R h') p i ys) ?_ (vs.length + 1)
      ⟨h₁, _, 0, [], _, rfl, Nat.zero_le _, rfl, hit₁, hns₁, hacc, fun b o _ e => old b o e, rfl⟩
    rintro k s' ⟨h', tk, i, ys, m', rfl, hi, rfl, hit', hn', hD', hk', hP⟩
    have hlist' : h'.IsList ax vs.toArray := hl.at fun o e => hk' _ _ hax e
    by_cases hlt : i < vs.length
    · refine W.item i _ _ _ hlt ⟨hit', hlist'⟩ fun v h₂ tk₂ hPv hst₂ hk₂ => ?_
      have hv : vs[i]? = some v := by simpa using hPv
      have hk₂' : ∀ b o, b ≠ I → h'.get? b = some o → h₂.get? b = some o := fun b o hb e => hk₂ b o (by simpa using hb) e
      refine letGo_listiter hst₂.1 ?_
      have hCI : H2.objs.size ≠ I := Ne.symm (below I hIlt).1
      have hDI : s₂.heap.objs.size ≠ I := Ne.symm (below I hIlt).2
      have hns₂ : h₂.Ns H2.objs.size m' := hn'.at' fun o e => hk₂' _ o hCI e
      refine wpAny_mono (item i v H2.objs.size { s₂ with heap := h₂, toks := tk₂ } m' _ hv hns₂ ⟨_, _, rfl⟩ (fun b o hb e => hk₂' b o hb (hk' b o hb e)) hC₀) (fun _ s₂' h2' => wpAny_mono h2' (fun ok s₃ h3 => ?_) fun _ _ e => e) fun _ _ e => e
      obtain ⟨rfl, ht, hf⟩ := h3
      have tk1 : TupKept h' h₂ := TupKept.of_iter hit' hk₂'
      have hD₂ : h₂.get? s₂.heap.objs.size = some (LCg.lst ys) := hk₂' _ _ hDI hD'
      have next : ∀ (h₄ : Heap), (∀ b o, b ≠ H2.objs.size → h₂.get? b = some o → h₄.get? b = some o) → h₄.IsListIter I ax (i + 1) ∧ h₄.get? s₂.heap.objs.size = some (LCg.lst ys) ∧ (∀ b o, b ≠ I → s₂.heap.get? b = some o → h₄.get? b = some o) ∧ Picked (R h₄) p i ys := fun h₄ hk₄ =>
        ⟨hst₂.1.at fun o e => hk₄ _ o (Ne.symm hCI) e, hk₄ _ _ hDC hD₂, fun b o hb e => hk₄ b o (below b (Heap.lt_size e)).1 (hk₂' b o hb (hk' b o hb e)), hP.mono fun i y r => hR _ _ _ _ r (tk1.trans (TupKept.of_ns hns₂ hk₄))⟩
      have hpk : ∀ h₄ ys', Picked (R h₄) p (i + 1) ys' ↔ (if p i = true then ∃ zs y, ys' = zs ++ [y] ∧ Picked (R h₄) p i zs ∧ R h₄ i y else Picked (R h₄) p i ys') := fun _ _ => Iff.rfl
      cases hpi : p i with
      | false =>
        rw [hpi] at hf ht
        simp only [Bool.false_eq_true, if_false]
        obtain ⟨h₄, tk₄, m₄, rfl, hn₄, hk₄⟩ := hf rfl
        obtain ⟨a1, a2, a3, a4⟩ := next h₄ hk₄
        exact ⟨vs.length + 1 - (i + 1), by omega, h₄, tk₄, i + 1, ys, m₄, rfl, hlt, rfl, a1, hn₄, a2, a3, by rw [hpk, hpi]; simpa using a4⟩
      | true =>
        rw [hpi] at hf ht
        simp only [if_true]
        refine wpAny_mono (ht rfl) (fun y s₄ h4 => ?_) fun _ _ e => e
        obtain ⟨hy, h₄, tk₄, m₄, rfl, hn₄, hk₄⟩ := h4
        obtain ⟨a1, a2, a3, a4⟩ := next h₄ hk₄
        have hle : ys.length ≤ sizeLine := Nat.le_trans (Nat.le_trans a4.length (Nat.le_of_lt hlt)) hsz
        refine append_at (hsz := by show ys.toArray.size ≤ sizeLine; rw [List.size_toArray]; exact hle) a2 fun h₅ hs₅ hD₅ => ?_
        have kD : ∀ b o, b ≠ s₂.heap.objs.size → h₄.get? b = some o → h₅.get? b = some o := fun b o hb e => hs₅.extBut b o hb e
        have tk2 : TupKept h₄ h₅ := TupKept.of_list a2 kD
        refine ⟨vs.length + 1 - (i + 1), by omega, h₅, tk₄, i + 1, ys ++ [y], m₄, rfl, hlt, rfl, a1.at fun o e => kD _ o (Ne.symm hDI) e, hn₄.at' fun o e => kD _ o (Ne.symm hDC) e, hD₅.trans (congrArg some (LCg.lst_snoc ys y)), fun b o hb e => kD b o (below b (Heap.lt_size e)).2 (a3 b o hb e), ?_⟩
        rw [hpk, hpi, if_pos rfl]
        exact ⟨ys, y, rfl, a4.mono fun i y r => hR _ _ _ _ r tk2, hR _ _ _ _ hy tk2⟩
    · have hin : i = vs.length := by omega
      subst hin
      refine W.done _ _ _ ⟨hit', hlist'⟩ fun h₂ tk₂ hk₂ => ?_
      have hk₂' : ∀ b o, b ≠ I → h'.get? b = some o → h₂.get? b = some o := fun b o hb e => hk₂ b o (by simpa using hb) e
      have hCI : H2.objs.size ≠ I := Ne.symm (below I hIlt).1
      have hDI : s₂.heap.objs.size ≠ I := Ne.symm (below I hIlt).2
      exact hRR _ _ h₂ tk₂ m' ys hD₀ hC₀ hDC (hn'.at' fun o e => hk₂' _ o hCI e) (hk₂' _ _ hDI hD') (fun b o hb e => hk₂' b o hb (hk' b o hb e)) (hP.mono fun i y r => hR _ _ _ _ r (TupKept.of_iter hit' hk₂'))
  exact codeAny_compStart_list (loop _ rfl) (W.self 0 _ _ _ ⟨hit₁, hl.at fun o e => old _ _ e⟩ (loop _ rfl))
end
section
variable {prog : Program} {w : World} {A : Around} {E : Value → Shared → Prop} {s : Shared} {h₀ : Heap} {L : Addr} {m : Str → Option Value} {env : Env}
/-- what is asked of an iterable: it is a list that stands in the ledger -/
noncomputable def SrcG (prog : Program) (w : World) (A : Around) (h₀ : Heap) (L : Addr) (m : Str → Option Value) (env : Env) (elt target : Expr) (ifs : List Expr) (scope : Scope) (cl : List (Str × Addr)) (Fin : Shared → List (Addr × Obj) → Nat → (Heap → Nat → Value → Prop) → (Nat → Bool) → Prop) (xv : Value) (s₁ : Shared) : Prop :=
  ∃ ax vs n news R p, xv = .ref ax ∧ A.handled = none ∧ Fr h₀ L s₁.heap m ∧ News h₀ L s₁.heap news ∧ (ax, listOf (List.toArray vs) n) ∈ news ∧ vs.length ≤ sizeLine ∧ (∀ h h' i y, R h i y → TupKept h h' → R h' i y) ∧
    (∀ i v C (s₂ : Shared) m₁ E', vs[i]? = some v → s₂.heap.Ns C m₁ → (∃ h tk, s₂ = { s₁ with heap := h, toks := tk }) → Fr h₀ L s₂.heap m → News h₀ L s₂.heap news → C ≠ L → h₀.get? C = none → (∀ q ∈ news, q.1 ≠ C) →
      wpAny (model prog w) A (assign target (compEnvC scope cl C env) v) (fun _ s₂' => wpAny (model prog w) A (forIn ifs true fun c r => if r = true then do let ok ← isTrue c (compEnvC scope cl C env) (eval c (compEnvC scope cl C env)); pure (ForInStep.yield ok) else pure (ForInStep.yield r))
        (fun ok s₃ => ok = p i ∧ (ok = true → wpAny (model prog w) A (eval elt (compEnvC scope cl C env)) (fun y s₄ => R s₄.heap i y ∧ ItemEnd C s₂ s₄) E' s₃) ∧ (ok = false → ItemEnd C s₂ s₃)) E' s₂') E' s₂) ∧
    Fin s₁ news vs.length R p
noncomputable def FinEG (h₀ : Heap) (L : Addr) (m : Str → Option Value) (Q : Value → Shared → Prop) (s₁ : Shared) (news : List (Addr × Obj)) (n : Nat) (R : Heap → Nat → Value → Prop) (p : Nat → Bool) : Prop :=
  ∀ D h tk ys, Fr h₀ L h m → News h₀ L h ((D, LCg.lst ys) :: news) → (∀ q ∈ news, q.1 ≠ D) → Picked (R h) p n ys → Q (.ref D) { s₁ with heap := h, toks := tk }
noncomputable def FinAG (h₀ : Heap) (L : Addr) (m : Str → Option Value) (y : Str) (Q : Flow → Shared → Prop) (s₁ : Shared) (news : List (Addr × Obj)) (n : Nat) (R : Heap → Nat → Value → Prop) (p : Nat → Bool) : Prop :=
  ∀ D h tk ys, Fr h₀ L h (fun z => if z = y then some (.ref D) else m z) → News h₀ L h ((D, LCg.lst ys) :: news) → (∀ q ∈ news, q.1 ≠ D) → Picked (R h) p n ys → Q .next { s₁ with heap := h, toks := tk }

theorem comp_any {elt target iter : Expr} {ifs : List Expr} {scope : Scope} {cl : List (Str × Addr)} {pos : Pos} {Q : Value → Shared → Prop}
    (hclos : closureFor scope env = pure cl) (hcell : ∀ y ∈ scope.names, y.2 ≠ .cell) (hkind : scope.kind = .function) (hnames : ∀ y ∈ scope.names, y.2 = .local → scope.names.lookup y.1 = some .local)
    (h : wpAny (model prog w) A (eval iter env) (SrcG prog w A h₀ L m env elt target ifs scope cl (FinEG h₀ L m Q)) E s)
    (hs : ∀ x, foldedSetIterable iter env x = pure x := by intro _; rfl) :
    wpAny (model prog w) A (eval (.ListComp elt [⟨target, iter, ifs, 0⟩] scope pos) env) Q E s := by
  rw [eval_ListComp]
  refine wpAny_comprehension_free (use := none) rfl hs hclos hkind hnames (wpAny_mono h (fun xv s₁ h₁ => ?_) fun _ _ e => e)
  obtain ⟨ax, vs, n, news, R, p, rfl, hh, F, N, hm, hsz, hR, item, fin⟩ := h₁
  have hax := N _ hm
  have hl : s₁.heap.IsList ax vs.toArray := ⟨_, hax.1, rfl, n, rfl⟩
  have hlt : ax < s₁.heap.objs.size := Heap.lt_size hax.1
  refine wpAny_pyIter_list hl ?_
  have up : ∀ b o, s₁.heap.get? b = some o → (s₁.heap.push { cls := .type "list_iterator", data := .fields #[.ref ax, .int 0 0] }).get? b = some o := fun b o e => Heap.get?_push_of_some _ e
  have keep : ∀ {h : Heap}, (∀ b o, b ≠ s₁.heap.objs.size → (s₁.heap.push { cls := .type "list_iterator", data := .fields #[.ref ax, .int 0 0] }).get? b = some o → h.get? b = some o) → ∀ b o, s₁.heap.get? b = some o → h.get? b = some o := fun {h} k b o e => k b o (Nat.ne_of_lt (Heap.lt_size e)) (up b o e)
  have low : ∀ {C : Addr}, (s₁.heap.push { cls := .type "list_iterator", data := .fields #[.ref ax, .int 0 0] }).get? C = none → (∀ q ∈ news, q.1 ≠ C) ∧ C ≠ L ∧ h₀.get? C = none := fun {C} hC => by
    refine ⟨fun q hq e => ?_, fun e => ?_, ?_⟩
    · have := up _ _ (N q hq).1; rw [e, hC] at this; cases this
    · obtain ⟨oL, _, _, hL, _⟩ := F.ns
      have := up _ _ hL; rw [← e, hC] at this; cases this
    · cases q : h₀.get? C with
      | none => rfl
      | some o => have := up _ _ (F.keep _ _ q); rw [hC] at this; cases this
  refine comp_block R p hh (Nat.ne_of_lt hlt) ⟨_, Heap.get?_push_size _ rfl, rfl, rfl⟩ (hl.at fun o e => up _ _ e) hsz hcell hkind hR ?_ ?_
  · intro i v C s₂ m₁ E' hv hns he hk hC
    obtain ⟨h2, tk2, rfl⟩ := he
    obtain ⟨l1, l2, l3⟩ := low hC
    exact item i v C _ m₁ E' hv hns ⟨h2, tk2, rfl⟩ (F.keeps (keep hk)) (N.grown (keep hk)) l2 l3 l1
  · intro D C h2 tk2 m' ys hD hC hDC hns hgD hk hP
    obtain ⟨l1, l2, l3⟩ := low hD
    obtain ⟨c1, c2, c3⟩ := low hC
    refine ⟨m', hns, fun h'' hs'' => fin D h'' tk2 ys ((F.keeps (keep hk)).change hs'' c2 c3) (fun q hq => ?_) l1 (hP.mono fun i y r => hR _ _ _ _ r (TupKept.of_ns hns fun b o hb e => hs''.extBut b o hb e))⟩
    rcases List.mem_cons.mp hq with rfl | hq
    · exact ⟨hs''.extBut _ _ hDC hgD, l2, l3⟩
    · exact ⟨hs''.extBut _ _ (c1 q hq) (keep hk _ _ (N q hq).1), (N q hq).2⟩
end
section
variable {prog : Program} {w : World} {A : Around} {E : Value → Shared → Prop} {s : Shared} {h₀ : Heap} {L : Addr} {m : Str → Option Value} {env : Env}
theorem comp_assign {elt target iter : Expr} {ifs : List Expr} {scope : Scope} {cl : List (Str × Addr)} {pos py spos : Pos} {y : Str} {Q : Flow → Shared → Prop} (hLe : env.locals = L)
    (hsw : swapsWith (.ListComp elt [⟨target, iter, ifs, 0⟩] scope pos) (some (.Name y py)) spos.line env = pure true)
    (hclos : closureFor scope env = pure cl) (hcell : ∀ y ∈ scope.names, y.2 ≠ .cell) (hkind : scope.kind = .function) (hnames : ∀ y ∈ scope.names, y.2 = .local → scope.names.lookup y.1 = some .local)
    (hy : env.kindOf y = some .local) (hp : (env.scope.kind == .class || (env.scope.kind == .module && env.locals != env.globals)) = false)
    (h : wpAny (model prog w) A (eval iter env) (SrcG prog w A h₀ L m env elt target ifs scope cl (FinAG h₀ L m y Q)) E s)
    (hs : ∀ x, foldedSetIterable iter env x = pure x := by intro _; rfl) :
    wpAny (model prog w) A (exec (.Assign [.Name y py] (.ListComp elt [⟨target, iter, ifs, 0⟩] scope pos) spos) env) Q E s := by
  subst hLe
  rw [exec_Assign_Name_used _ _ _ _ hsw]
  refine wpAny_bind (wpAny_standAt (wpAny_bind ?_))
  show wpAny _ A (do let _ ← comprehension (.ListComp elt [⟨target, iter, ifs, 0⟩] scope pos) scope env _ (newList []) false (eval iter env) (some (assign (.Name y py) env))) _ _ s
  refine wpAny_bind (wpAny_mono (wpAny_comprehension_free (use := some (assign (.Name y py) env)) (Q := fun _ s' => Q .next s') rfl hs hclos hkind hnames
    (wpAny_mono h (fun xv s₁ h₁ => ?_) fun _ _ e => e)) (fun _ s' hq => wpAny_pure (wpAny_pure hq)) fun _ _ e => e)
  obtain ⟨ax, vs, n, news, R, p, rfl, hh, F, N, hm, hsz, hR, item, fin⟩ := h₁
  have hax := N _ hm
  have hl : s₁.heap.IsList ax vs.toArray := ⟨_, hax.1, rfl, n, rfl⟩
  have hlt : ax < s₁.heap.objs.size := Heap.lt_size hax.1
  refine wpAny_pyIter_list hl ?_
  have up : ∀ b o, s₁.heap.get? b = some o → (s₁.heap.push { cls := .type "list_iterator", data := .fields #[.ref ax, .int 0 0] }).get? b = some o := fun b o e => Heap.get?_push_of_some _ e
  have keep : ∀ {h : Heap}, (∀ b o, b ≠ s₁.heap.objs.size → (s₁.heap.push { cls := .type "list_iterator", data := .fields #[.ref ax, .int 0 0] }).get? b = some o → h.get? b = some o) → ∀ b o, s₁.heap.get? b = some o → h.get? b = some o := fun {h} k b o e => k b o (Nat.ne_of_lt (Heap.lt_size e)) (up b o e)
  have low : ∀ {C : Addr}, (s₁.heap.push { cls := .type "list_iterator", data := .fields #[.ref ax, .int 0 0] }).get? C = none → (∀ q ∈ news, q.1 ≠ C) ∧ C ≠ env.locals ∧ h₀.get? C = none := fun {C} hC => by
    refine ⟨fun q hq e => ?_, fun e => ?_, ?_⟩
    · have := up _ _ (N q hq).1; rw [e, hC] at this; cases this
    · obtain ⟨oL, _, _, hL, _⟩ := F.ns
      have := up _ _ hL; rw [← e, hC] at this; cases this
    · cases q : h₀.get? C with
      | none => rfl
      | some o => have := up _ _ (F.keep _ _ q); rw [hC] at this; cases this
  refine comp_block R p hh (Nat.ne_of_lt hlt) ⟨_, Heap.get?_push_size _ rfl, rfl, rfl⟩ (hl.at fun o e => up _ _ e) hsz hcell hkind hR ?_ ?_
  · intro i v C s₂ m₁ E' hv hns he hk hC
    obtain ⟨h2, tk2, rfl⟩ := he
    obtain ⟨l1, l2, l3⟩ := low hC
    exact item i v C _ m₁ E' hv hns ⟨h2, tk2, rfl⟩ (F.keeps (keep hk)) (N.grown (keep hk)) l2 l3 l1
  · intro D C h2 tk2 m' ys hD hC hDC hns hgD hk hP
    obtain ⟨l1, l2, l3⟩ := low hD
    obtain ⟨c1, c2, c3⟩ := low hC
    have F' := F.keeps (keep hk)
    show wpAny _ A (assign (.Name y py) env (.ref D)) _ _ _
    refine wpAny_assign_Name (wpAny_storeName_local hy F'.ns (fun h₂ hn₂ hs₂ => ?_) hp)
    have hL₀ : h₀.get? env.locals = none := Heap.get?_none_of_le F'.above
    have F₂ : Fr h₀ env.locals h₂ (fun z => if z = y then some (.ref D) else m z) := ⟨hn₂, fun b o e => hs₂.extBut b o (fun q => by rw [q, hL₀] at e; cases e) (F'.keep b o e), F'.above⟩
    have hnsC : h₂.Ns C m' := hns.sameBut hs₂ c2
    refine ⟨m', hnsC, fun h'' hs'' => fin D h'' _ ys (F₂.change hs'' c2 c3) (fun q hq => ?_) l1 (hP.mono fun i y r => hR _ _ _ _ (hR _ _ _ _ r (TupKept.of_ns F'.ns fun b o hb e => hs₂.extBut b o hb e)) (TupKept.of_ns hnsC fun b o hb e => hs''.extBut b o hb e))⟩
    rcases List.mem_cons.mp hq with rfl | hq
    · exact ⟨hs''.extBut _ _ hDC (hs₂.extBut _ _ l2 hgD), l2, l3⟩
    · exact ⟨hs''.extBut _ _ (c1 q hq) (hs₂.extBut _ _ (N q hq).2.1 (keep hk _ _ (N q hq).1)), (N q hq).2⟩
end

end
section
/-! ## the comprehensions of the text, by their shapes -/
section
variable {prog : Program} {w : World} {A : Around} {E : Value → Shared → Prop} {s : Shared} {h₀ : Heap} {L : Addr} {m : Str → Option Value} {env : Env}
/-- each item is a tuple of the ledger whose first is an int -/
noncomputable def TupsAre (news : List (Addr × Obj)) (arr : Nat → Int) (vs : List Value) : Prop := ∀ i v, vs[i]? = some v → ∃ T t rest nT, v = .ref T ∧ (T, tupOf (Value.int (arr i) t :: rest) nT) ∈ news
theorem kind_local {scope : Scope} {cl : List (Str × Addr)} {C : Addr} {x : Str} (hx : scope.names.lookup x = some .local) : (compEnvC scope cl C env).kindOf x = some .local := lookup_relabel_local hx
theorem ns_x {h : Heap} {C : Addr} {m₁ : Str → Option Value} (hn : h.Ns C m₁) : True := trivial
theorem read_x {scope : Scope} {cl : List (Str × Addr)} {C : Addr} {x : Str} {px : Pos} {v : Value} {m₁ : Str → Option Value} {Q : Value → Shared → Prop} (hkind : scope.kind = .function) (hx : scope.names.lookup x = some .local) (hn : s.heap.Ns C m₁) (hv : m₁ x = some v) (hd : (x == ("__debug__" : Str)) = false) (h : Q v s) :
    wpAny (model prog w) A (eval (.Name x px) (compEnvC scope cl C env)) Q E s :=
  wpAny_Name (wpAny_loadName_local (env := compEnvC scope cl C env) hkind (kind_local hx) hn hv h) hd
theorem first_x {scope : Scope} {cl : List (Str × Addr)} {C T : Addr} {x : Str} {p1 p2 p3 : Pos} {kc nT : Nat} {v0 : Value} {rest : List Value} {m₁ : Str → Option Value} {Q : Value → Shared → Prop} (hkind : scope.kind = .function) (hx : scope.names.lookup x = some .local) (hn : s.heap.Ns C m₁) (hv : m₁ x = some (.ref T)) (hd : (x == ("__debug__" : Str)) = false)
    (hT : s.heap.get? T = some (tupOf (v0 :: rest) nT)) (h : Q v0 { s with toks := s.toks + 1 }) :
    wpAny (model prog w) A (eval (.Subscript (.Name x p1) (.Constant (.int 0) kc p2) p3) (compEnvC scope cl C env)) Q E s :=
  Subscript_ (read_x hkind hx hn hv hd (wpAny_Constant_int (item_tupleT (l := v0 :: rest) (j := 0) (s := { s with toks := s.toks + 1 }) ⟨_, hT, rfl, nT, rfl⟩ (by decide) (by decide) (by simp [seqIndex?]) rfl h)))
theorem store_x {scope : Scope} {cl : List (Str × Addr)} {C : Addr} {x : Str} {px : Pos} {v : Value} {m₁ : Str → Option Value} {Q : Unit → Shared → Prop} (hkind : scope.kind = .function) (hx : scope.names.lookup x = some .local) (hn : s.heap.Ns C m₁)
    (h : ∀ h', h'.Ns C (fun y => if y = x then some v else m₁ y) → Heap.SameBut C s.heap h' → Q () { s with heap := h', toks := s.toks + 1 }) :
    wpAny (model prog w) A (assign (.Name x px) (compEnvC scope cl C env) v) Q E s :=
  wpAny_assign_Name (wpAny_storeName_local (kind_local hx) hn h (by simp [compEnvC, relabel, hkind]))
theorem src_fst {x : Str} {px p1 p2 p3 : Pos} {kc n : Nat} {scope : Scope} {cl : List (Str × Addr)} {Fin : Shared → List (Addr × Obj) → Nat → (Heap → Nat → Value → Prop) → (Nat → Bool) → Prop} {ax : Addr} {vs : List Value} {news : List (Addr × Obj)} (arr : Nat → Int)
    (hh : A.handled = none) (F : Fr h₀ L s.heap m) (N : News h₀ L s.heap news) (hm : (ax, listOf (List.toArray vs) n) ∈ news) (ht : TupsAre news arr vs) (hx : scope.names.lookup x = some .local) (hkind : scope.kind = .function) (hd : (x == ("__debug__" : Str)) = false) (hsz : vs.length ≤ sizeLine)
    (fin : Fin s news vs.length (fun _ i y => ∃ t, y = Value.int (arr i) t) fun _ => true) :
    SrcG prog w A h₀ L m env (.Subscript (.Name x p1) (.Constant (.int 0) kc p2) p3) (.Name x px) [] scope cl Fin (.ref ax) s := by
  refine ⟨ax, vs, n, news, _, _, rfl, hh, F, N, hm, hsz, fun _ _ _ _ r _ => r, ?_, fin⟩
  intro i v C s₂ m₁ E' hv hns he F₂ N₂ hCL hC₀ hCn
  obtain ⟨T, t, rest, nT, rfl, hT⟩ := ht i v hv
  refine store_x hkind hx hns fun h' hn' hs' => ?_
  refine wpAny_tests_nil ⟨rfl, fun _ => ?_, fun q => by cases q⟩
  have hT' : h'.get? T = some (tupOf (Value.int (arr i) t :: rest) nT) := hs'.extBut _ _ (hCn _ hT) (N₂ _ hT).1
  refine first_x hkind hx hn' (by simp) hd hT' ⟨⟨t, rfl⟩, h', _, _, rfl, hn', fun b o hb e => hs'.extBut b o hb e⟩
theorem src_filter {x y : Str} {px p0 p1 p2 p3 p4 py : Pos} {kc n : Nat} {op : CmpOp} {scope : Scope} {cl : List (Str × Addr)} {Fin : Shared → List (Addr × Obj) → Nat → (Heap → Nat → Value → Prop) → (Nat → Bool) → Prop} {ax : Addr} {vs : List Value} {news : List (Addr × Obj)} (arr : Nat → Int) (b : Int) (tb : Tok) (dec : Int → Int → Bool)
    (hh : A.handled = none) (F : Fr h₀ L s.heap m) (N : News h₀ L s.heap news) (hm : (ax, listOf (List.toArray vs) n) ∈ news) (ht : TupsAre news arr vs) (hx : scope.names.lookup x = some .local) (hkind : scope.kind = .function) (hd : (x == ("__debug__" : Str)) = false) (hsz : vs.length ≤ sizeLine)
    (hop : ∀ (a : Int) (t : Tok) (s' : Shared) (E' : Value → Shared → Prop) (Q : Value → Shared → Prop), Q (.bool (dec a b)) s' → wpAny (model prog w) A (compareOp op (.int a t) (.int b tb)) Q E' s')
    (rd : ∀ (C : Addr) (s' : Shared) (E' : Value → Shared → Prop) (Q : Value → Shared → Prop), News h₀ L s'.heap news → Q (.int b tb) s' → wpAny (model prog w) A (eval (.Name y py) (compEnvC scope cl C env)) Q E' s')
    (fin : Fin s news vs.length (fun _ i y => vs[i]? = some y) fun i => dec (arr i) b)
    (hmk : behindInMarks op (.Name y py) = false := by with_unfolding_all rfl) :
    SrcG prog w A h₀ L m env (.Name x p0) (.Name x px) [.Compare (.Subscript (.Name x p1) (.Constant (.int 0) kc p2) p3) [op] [.Name y py] p4] scope cl Fin (.ref ax) s := by
  refine ⟨ax, vs, n, news, _, _, rfl, hh, F, N, hm, hsz, fun _ _ _ _ r _ => r, ?_, fin⟩
  intro i v C s₂ m₁ E' hv hns he F₂ N₂ hCL hC₀ hCn
  obtain ⟨T, t, rest, nT, rfl, hT⟩ := ht i v hv
  refine store_x hkind hx hns fun h' hn' hs' => ?_
  have hT' : h'.get? T = some (tupOf (Value.int (arr i) t :: rest) nT) := hs'.extBut _ _ (hCn _ hT) (N₂ _ hT).1
  have N' : News h₀ L h' news := fun q hq => ⟨hs'.extBut _ _ (hCn q hq) (N₂ q hq).1, (N₂ q hq).2⟩
  refine wpAny_tests_one (wpAny_isTrue_Compare1 (first_x hkind hx hn' (by simp) hd hT' ?_) hmk)
  refine rd C _ _ _ N' (hop _ _ _ _ _ (wpAny_truthy_bool ⟨rfl, fun _ => ?_, fun _ => ?_⟩))
  · exact read_x hkind hx hn' (by simp) hd ⟨hv, h', _, _, rfl, hn', fun b o hb e => hs'.extBut b o hb e⟩
  · exact ⟨h', _, _, rfl, hn', fun b o hb e => hs'.extBut b o hb e⟩
end
section
variable {prog : Program} {w : World} {A : Around} {E : Value → Shared → Prop} {s : Shared} {h₀ : Heap} {L : Addr} {m : Str → Option Value} {env : Env}
theorem comp_anyF {elt target iter : Expr} {ifs : List Expr} {scope : Scope} {cl : List (Str × Addr)} {pos : Pos} {Q : Value → Shared → Prop} (_F : Fr h₀ L s.heap m)
    (hclos : closureFor scope env = pure cl) (hcell : ∀ y ∈ scope.names, y.2 ≠ .cell) (hkind : scope.kind = .function) (hnames : ∀ y ∈ scope.names, y.2 = .local → scope.names.lookup y.1 = some .local)
    (h : wpAny (model prog w) A (eval iter env) (SrcG prog w A h₀ L m env elt target ifs scope cl (FinEG h₀ L m Q)) E s)
    (hs : ∀ x, foldedSetIterable iter env x = pure x := by intro _; rfl) :
    wpAny (model prog w) A (eval (.ListComp elt [⟨target, iter, ifs, 0⟩] scope pos) env) Q E s := comp_any hclos hcell hkind hnames h hs
end
section
variable {prog : Program} {w : World} {A : Around} {E : Value → Shared → Prop} {s : Shared} {h₀ : Heap} {L l : Addr} {m : Str → Option Value} {news : List (Addr × Obj)}
theorem len_led {vs : List Value} {n : Nat} {Q : Value → Shared → Prop} (N : News h₀ L s.heap news) (hm : (l, listOf vs.toArray n) ∈ news) (hb : vs.length ≤ 1000) (h : Q (.int (vs.length : Int) (s.toks + 1)) { s with toks := s.toks + 1 + 1 }) :
    wpAny (model prog w) A (call (.builtin "len") [.ref l]) Q E s := by
  have hl : s.heap.IsList l vs.toArray := ⟨_, (N _ hm).1, rfl, n, rfl⟩
  refine len_list hl (by rw [List.size_toArray]; omega) ?_
  rw [List.size_toArray]
  exact h
theorem min_led {vs : List Value} {ns : List Int} {n : Nat} {Q : Value → Shared → Prop} (hh : A.handled = none) (F : Fr h₀ L s.heap m) (N : News h₀ L s.heap news) (hm : (l, listOf vs.toArray n) ∈ news) (hi : IntsAre vs ns) (hne : 0 < ns.length)
    (h : ∀ h' M (t : Tok) tk, Fr h₀ L h' m → News h₀ L h' news → M ∈ ns → (∀ a, a ∈ ns → M ≤ a) → Q (.int M t) { s with heap := h', toks := tk }) :
    wpAny (model prog w) A (call (.builtin "min") [.ref l]) Q E s :=
  min_list_N hh F N ⟨_, (N _ hm).1, rfl, n, rfl⟩ hi hne h
end
section
variable {prog : Program} {w : World} {A : Around} {E : Value → Shared → Prop} {s : Shared} {h₀ : Heap} {L D : Addr} {m : Str → Option Value} {news news' : List (Addr × Obj)} {vs : List Value} {n : Nat}
theorem pop0_led {v : Value} {u : Tok} {Q : Value → Shared → Prop} (F : Fr h₀ L s.heap m) (N : News h₀ L s.heap news) (U : Upd D (listOf (v :: vs).toArray n) (listOf vs.toArray (n + 1)) news news')
    (hz : vs.length ≤ 1000) (h : ∀ h', Fr h₀ L h' m → News h₀ L h' news' → Q v { s with heap := h' }) : wpAny (model prog w) A (call (.builtin "list.pop") [.ref D, .int 0 u]) Q E s :=
  kl_popAt (k := 0) (p := []) (q := vs) F N rfl (by simp [seqIndex?]) (by simp [kl_cut]) U (by simp only [List.length_cons]; rw [sizeLine_eq]; omega) h
end

end
local macro_rules | `(tactic| kcp_assignC) => `(tactic| ((case a => first | exact rfl | with_unfolding_all rfl); (case b => decide); (case c => exact rfl); (case d => decide)))
local macro_rules | `(tactic| kf1_some) => `(tactic| (k_here; k_dflt (
  refine' comp_anyF ?F ?a ?b ?c ?d ?_
  (case F => k_asm)
  kcp_assignC
  k_whole)))
local macro_rules | `(tactic| kor_look) => `(tactic| (k_here; (with_reducible show wpAny _ _ (call (Value.builtin "len") [Value.ref _]) _ _ _); k_dflt (
  refine' len_led ?N ?m ?b ?_
  (case N => k_asm)
  (case m => k_mem)
  (case b => omega)
  k_whole)))
local macro_rules | `(tactic| kor_lookL) => `(tactic| (k_here; (with_reducible show wpAny _ _ (call (Value.builtin "min") [Value.ref _]) _ _ _); k_dflt (
  refine' min_led ?h ?F ?N ?m ?i ?b ?_
  (case h => exact rfl)
  (case F => k_asm)
  (case N => k_asm)
  (case m => k_mem)
  (case i => with_reducible assumption)
  (case b => first | assumption | omega | (simp only [List.length_map]; omega))
  k_whole; intro h' M' t' k' F' N' a' b')))
local macro_rules | `(tactic| kmj_rest) => `(tactic| (
  (case N => k_asm)
  (case m1 => k_mem)
  (case m2 => k_mem)
  (case i => first | exact IntsAre.nil | with_reducible assumption)
  (case j => exact IntsAre.nil)
  (case u => (simp only [units_deeper, units_in1, mkA, cLine]; omega))
  k_whole))
local macro_rules | `(tactic| kmj_call) => `(tactic| (k_here; (with_reducible show wpAny _ _ (call (Value.builtin _) [Value.ref _, Value.int 0 _]) _ _ _); k_dflt (refine' pop0_led ?F ?N ?U ?z ?_; (case F => k_asm); (case N => k_asm); (case U => k_upd); (case z => omega)); intro h' F' N'))

section
theorem off13 : True := by
  w_top off
  trivial
/-! ## the network's next time -/
noncomputable def OptVal (v : Value) : Option Int → Prop
  | none => v = .none
  | some x => ∃ t, v = .int x t
noncomputable def LeastIs (ns : List Int) : Option Int → Prop
  | none => ns = []
  | some x => x ∈ ns ∧ ∀ a ∈ ns, x ≤ a
theorem picked_ints (arr : Nat → Int) : ∀ {n : Nat} {ys : List Value}, Picked (fun i y => ∃ t, y = Value.int (arr i) t) (fun _ => true) n ys → IntsAre ys ((List.range n).map arr)
  | 0, ys, x => by have e : ys = [] := x; subst e; exact .nil
  | n + 1, ys, x => by
    unfold Picked at x
    rw [if_pos rfl] at x
    obtain ⟨ys', y, e, a, ⟨t, b⟩⟩ := x
    subst e b
    rw [List.range_succ, List.map_append]
    exact IntsAre.append (picked_ints arr a) (IntsAre.cons (arr n) t .nil)
theorem range_map_getD (fs : List Fly) (d : Fly) : (List.range fs.length).map (fun i => (fs.getD i d).arr) = fs.map (·.arr) := by
  refine List.ext_getElem (by simp) fun i h1 h2 => ?_
  simp only [List.getElem_map, List.getElem_range]
  have : i < fs.length := by simpa using h2
  simp [List.getD, List.getElem?_eq_getElem this]
noncomputable def noFly : Fly := ⟨0, 0, 0, 0⟩
theorem FliesAre.at {news : List (Addr × Obj)} : ∀ {vs : List Value} {fs : List Fly}, FliesAre news vs fs → ∀ i v, vs[i]? = some v → FlyIs news v (fs.getD i noFly)
  | [], [], _, i, v, h => by simp at h
  | v :: vs, f :: fs, x, 0, u, h => by
    simp at h
    subst h
    exact x.1
  | v :: vs, f :: fs, x, i + 1, u, h => by
    simp at h
    exact FliesAre.at x.2 i u h
theorem FliesAre.tups {news : List (Addr × Obj)} {vs : List Value} {fs : List Fly} (x : FliesAre news vs fs) : TupsAre news (fun i => (fs.getD i noFly).arr) vs := fun i v h => by
  obtain ⟨T, t1, t2, t3, t4, t5, nT, e, hm⟩ := x.at i v h
  exact ⟨T, t1, _, nT, e, hm⟩
section
local macro_rules | `(tactic| walk_at "call builtin:len") => `(tactic| kor_look)
local macro_rules | `(tactic| walk_at "call builtin:min") => `(tactic| kor_lookL)
local macro_rules | `(tactic| walk_at "eval ListComp") => `(tactic| kf1_some)
local macro_rules | `(tactic| walk_at "SrcG") => `(tactic| (k_here; k_dflt (
  refine' src_fst ?arr ?hh ?F ?N ?hm ?ht ?hx ?hkind ?hd ?hsz ?_
  (case ht => exact FliesAre.tups (by with_reducible assumption))
  (case N => k_asm)
  (case hm => k_mem)
  kpc_text
  (case hsz => exact Nat.le_trans (by assumption) (Nat.le_of_ble_eq_true rfl)))))
local macro_rules | `(tactic| walk_at "FinEG") => `(tactic| ((unfold FinEG); intro D' h' tk' ys' F' N' o1' P'; (have I' := picked_ints _ P'); (have el' := IntsAre.length I'); (try simp only [List.length_map, List.length_range] at el')))
set_option maxHeartbeats 8000000 in
theorem netnext_call : ∀ {w : World} {s : Shared} {L : Addr} {env : Env} {outer : List Env} {d u : Nat} {g : Option (List Code)} {A₀ : Around} {h₀ base : Heap} {m mg mb : Str → Option Value} {p : Program} {loose : List Str} {mean : ExcName → Option Value} {tl : List (Addr × Obj)}
   {NW dN wl fl ch : Addr} {esN : List DictEntry} {nN cw : Nat} {ws : List Value} {fs : List Fly} {n : Int} {Q : Value → Shared → Prop} {E : Value → Shared → Prop}
   (_B : Below A₀ base outer h₀) (_F : Fr h₀ L s.heap m) (_X : (headK w.params).In h₀) (_T : Top p loose mean mg mb h₀) (_N : News h₀ L s.heap tl)
   (_mN : (NW, instObj 84 dN) ∈ tl) (_mdN : (dN, dictOf esN nN) ∈ tl) (_gN : NetEs esN ch wl fl n) (_mw : (wl, listOf ws.toArray cw) ∈ tl) (_fa : FliesAre tl ws fs) (_lw : ws.length ≤ 100)
   (_hf : env.frame = some L) (_hk : env.scope.kind = .function) (_hd : d < 800)
   (_k : ∀ v o h' tk, Fr h₀ L h' m → News h₀ L h' tl → OptVal v o → LeastIs (fs.map (·.arr)) o → Q v { s with heap := h', toks := tk }),
   wpAny (model PySem.Challenge.rw_rg0253_01.row.prog w) (mkA env outer d g u) (call (.ref 76) [.ref NW]) Q E s := by
  k_fill
  intro w s L env outer d u g A₀ h₀ base m mg mb p loose mean tl NW dN wl fl ch esN nN cw ws fs n Q E B F X T N mN mdN gN mw fa lw hf hk hd k
  refine NetEs.elim gN fun t1 t2 t3 t4 le g1 g2 g3 g4 g5 g6 g7 g8 g9 g10 g11 g12 => ?_; clear gN
  cases fs with
  | nil =>
    cases ws with
    | cons _ _ => exact fa.elim
    | nil =>
      k_steps
      exact k _ none _ _ (by with_reducible assumption) (by with_reducible assumption) rfl rfl
  | cons f fs =>
    cases ws with
    | nil => exact fa.elim
    | cons v vs =>
      have e9 := range_map_getD (f :: fs) noFly
      rw [← FliesAre.length fa] at e9
      k_steps
      · rename (_ ∈ _) => q1
        rename (∀ a, a ∈ _ → _ ≤ a) => q2
        rename (Fr h₀ L _ m) => F9
        rename (News h₀ L _ _) => N9
        rw [e9] at q1 q2
        exact k _ (some _) _ _ F9 (News.of_sub N9 fun p hp => .tail _ hp) ⟨_, rfl⟩ ⟨q1, q2⟩
      · rename (¬ _) => q1
        simp only [List.length_cons] at q1
        omega
end

end
section
theorem off14 : True := by
  w_top off
  trivial
theorem news_dup {h₀ h : Heap} {L : Addr} {x : Addr × Obj} {tl : List (Addr × Obj)} (N : News h₀ L h tl) (hm : x ∈ tl) : News h₀ L h (x :: tl) := fun p hp => by
  rcases List.mem_cons.mp hp with rfl | hp
  · exact N _ hm
  · exact N p hp
section
variable {prog : Program} {w : World} {A : Around} {E : Value → Shared → Prop} {s : Shared} {h₀ : Heap} {L a b : Addr} {news : List (Addr × Obj)}
theorem ne_led {vs us : List Value} {ns ms : List Int} {n1 n2 : Nat} {Q : Value → Shared → Prop} (N : News h₀ L s.heap news) (m1 : (a, listOf vs.toArray n1) ∈ news) (m2 : (b, listOf us.toArray n2) ∈ news) (hi : IntsAre vs ns) (hi' : IntsAre us ms) (hu : A.units + 64 < cLine)
    (h : Q (.bool (!decide (ns = ms))) s) : wpAny (model prog w) A (compareOp .NotEq (.ref a) (.ref b)) Q E s :=
  ne_intsK ⟨_, (N _ m1).1, rfl, n1, rfl⟩ hi ⟨_, (N _ m2).1, rfl, n2, rfl⟩ hi' hu h
theorem eq_led {vs us : List Value} {ns ms : List Int} {n1 n2 : Nat} {Q : Value → Shared → Prop} (N : News h₀ L s.heap news) (m1 : (a, listOf vs.toArray n1) ∈ news) (m2 : (b, listOf us.toArray n2) ∈ news) (hi : IntsAre vs ns) (hi' : IntsAre us ms) (hu : A.units + 64 < cLine)
    (h : Q (.bool (decide (ns = ms))) s) : wpAny (model prog w) A (compareOp .Eq (.ref a) (.ref b)) Q E s :=
  eq_intsK ⟨_, (N _ m1).1, rfl, n1, rfl⟩ hi ⟨_, (N _ m2).1, rfl, n2, rfl⟩ hi' hu h
end
section
local macro_rules | `(tactic| walk_at "compareOp NotEq ref ref") => `(tactic| (k_here; k_dflt (refine' ne_led ?N ?m1 ?m2 ?i ?j ?u ?_; kmj_rest)))
set_option maxHeartbeats 8000000 in
theorem hostnext_call : ∀ {w : World} {s : Shared} {L : Addr} {env : Env} {outer : List Env} {d u : Nat} {g : Option (List Code)} {A₀ : Around} {h₀ base : Heap} {m mg mb : Str → Option Value} {p : Program} {loose : List Str} {mean : ExcName → Option Value} {tl : List (Addr × Obj)}
   {f b dq l c cb : Addr} {ob obc : Obj} {nl : Nat} {ls : List Value} {ns : List Int} {Q : Value → Shared → Prop} {E : Value → Shared → Prop}
   (_B : Below A₀ base outer h₀) (_C : CodeHd base 312 308) (_F : Fr h₀ L s.heap m) (_X : (headK w.params).In h₀) (_T : Top p loose mean mg mb h₀) (_N : News h₀ L s.heap tl)
   (_lam : LamAt tl 1 [(Str.ofString "book", cb)] f) (_m1 : (cb, obc) ∈ tl) (_d1 : obc.data = .cell (some (.ref b))) (_m3 : (b, ob) ∈ tl) (_bk : BookIs w ob l dq c) (_ml : (l, listOf ls.toArray nl) ∈ tl) (_il : IntsAre ls ns)
   (_hf : env.frame = some L) (_hk : env.scope.kind = .function) (_hd : d < 800) (_hu : u < 9000)
   (_k : ∀ v h' tk, Fr h₀ L h' m → News h₀ L h' tl → OptVal v ns.head? → Q v { s with heap := h', toks := tk }),
   wpAny (model PySem.Challenge.rw_rg0253_01.row.prog w) (mkA env outer d g u) (call (.ref f) []) Q E s := by
  k_fill
  intro w s L env outer d u g A₀ h₀ base m mg mb p loose mean tl f b dq l c cb ob obc nl ls ns Q E B C F X T N lam m1 d1 m3 bk ml il hf hk hd hu k
  obtain ⟨pm, c', ctv, hm0, oc, cvs, tq, hm, hd1, hd2⟩ := lam
  have hm' : (f, kla_obj _ _ _ _ _ _ _ _ _) ∈ tl := hm0
  clear hm0
  unfold BookIs at bk
  replace N := news_dup N m3
  have il0 := il
  cases il with
  | nil =>
    k_steps
    rename (Fr h₀ L _ m) => F9
    rename (News h₀ L _ _) => N9
    exact k _ _ _ F9 (News.of_sub N9 fun p hp => by repeat (first | exact hp | refine List.mem_cons_of_mem _ ?_)) rfl
  | cons n t il =>
    k_steps
    · rename (Fr h₀ L _ m) => F9
      rename (News h₀ L _ _) => N9
      simp at *
    · rename (Fr h₀ L _ m) => F9
      rename (News h₀ L _ _) => N9
      exact k _ _ _ F9 (News.of_sub N9 fun p hp => by repeat (first | exact hp | refine List.mem_cons_of_mem _ ?_)) ⟨_, rfl⟩
end

end
section
theorem off15 : True := by
  w_top off
  trivial
/-! ## the least of some times, some of them None -/
noncomputable def OptVals : List Value → List (Option Int) → Prop
  | [], [] => True
  | v :: vs, o :: os => OptVal v o ∧ OptVals vs os
  | _, _ => False
theorem OptVals.length : ∀ {vs : List Value} {os : List (Option Int)}, OptVals vs os → vs.length = os.length
  | [], [], _ => rfl
  | _ :: _, _ :: _, h => congrArg (· + 1) (OptVals.length h.2)
theorem OptVals.at : ∀ {vs : List Value} {os : List (Option Int)}, OptVals vs os → ∀ i v, vs[i]? = some v → OptVal v (os.getD i none)
  | [], [], _, i, v, h => by simp at h
  | v :: vs, o :: os, x, 0, u, h => by
    simp at h
    subst h
    exact x.1
  | v :: vs, o :: os, x, i + 1, u, h => by
    simp at h
    exact OptVals.at x.2 i u h
theorem picked_opts {os : List (Option Int)} : ∀ {n : Nat} {ys : List Value}, Picked (fun i y => OptVal y (os.getD i none)) (fun i => (os.getD i none).isSome) n ys → IntsAre ys ((List.range n).filterMap fun i => os.getD i none)
  | 0, ys, x => by have e : ys = [] := x; subst e; exact .nil
  | n + 1, ys, x => by
    unfold Picked at x
    rw [List.range_succ, List.filterMap_append]
    split at x
    · rename_i hp
      obtain ⟨ys', y, e, a, b⟩ := x
      subst e
      obtain ⟨z, hz⟩ := Option.isSome_iff_exists.mp hp
      rw [hz] at b
      obtain ⟨t, rfl⟩ := b
      simp only [List.filterMap_cons, List.filterMap_nil, hz]
      exact (picked_opts a).append (IntsAre.cons z t .nil)
    · rename_i hp
      have hz : os.getD n none = none := by simpa using hp
      simp only [List.filterMap_cons, List.filterMap_nil, hz, List.append_nil]
      exact picked_opts x
theorem range_filterMap_getD (os : List (Option Int)) : (List.range os.length).filterMap (fun i => os.getD i none) = os.filterMap id := by
  have e : os = (List.range os.length).map fun i => os.getD i none := by
    refine List.ext_getElem (by simp) fun i h1 h2 => ?_
    simp [List.getD, List.getElem?_eq_getElem h1]
  conv => rhs; rw [e, List.filterMap_map]
  rfl
section
variable {prog : Program} {w : World} {A : Around} {E : Value → Shared → Prop} {s : Shared} {h₀ : Heap} {L : Addr} {m : Str → Option Value} {env : Env}
theorem src_notnone {x : Str} {px p0 p1 p2 p4 : Pos} {kc n : Nat} {scope : Scope} {cl : List (Str × Addr)} {Fin : Shared → List (Addr × Obj) → Nat → (Heap → Nat → Value → Prop) → (Nat → Bool) → Prop} {ax : Addr} {vs : List Value} {news : List (Addr × Obj)} (os : List (Option Int))
    (hh : A.handled = none) (F : Fr h₀ L s.heap m) (N : News h₀ L s.heap news) (hm : (ax, listOf (List.toArray vs) n) ∈ news) (ho : OptVals vs os) (hx : scope.names.lookup x = some .local) (hkind : scope.kind = .function) (hd : (x == ("__debug__" : Str)) = false) (hsz : vs.length ≤ sizeLine)
    (fin : Fin s news vs.length (fun _ i y => OptVal y (os.getD i none)) fun i => (os.getD i none).isSome) :
    SrcG prog w A h₀ L m env (.Name x p0) (.Name x px) [.Compare (.Name x p1) [.IsNot] [.Constant .none kc p2] p4] scope cl Fin (.ref ax) s := by
  refine ⟨ax, vs, n, news, _, _, rfl, hh, F, N, hm, hsz, fun _ _ _ _ r _ => r, ?_, fin⟩
  intro i v C s₂ m₁ E' hv hns he F₂ N₂ hCL hC₀ hCn
  have hov := ho.at i v hv
  refine store_x hkind hx hns fun h' hn' hs' => ?_
  refine wpAny_tests_one (wpAny_isTrue_Compare1 (read_x (v := v) hkind hx hn' (by simp) hd (wpAny_Constant_none ?_)) rfl)
  cases hoi : os.getD i none with
  | none =>
    rw [hoi] at hov
    have e : v = .none := hov
    subst e
    refine wpAny_isNot_self rfl (wpAny_truthy_bool ⟨rfl, (fun q => nomatch q), fun _ => ⟨h', _, _, rfl, hn', fun b o hb e => hs'.extBut b o hb e⟩⟩)
  | some z =>
    rw [hoi] at hov
    obtain ⟨t, rfl⟩ := hov
    refine wpAny_isNot_other rfl (fun q => nomatch q) (wpAny_truthy_bool ⟨rfl, fun _ => ?_, fun q => nomatch q⟩)
    exact read_x hkind hx hn' (by simp) hd ⟨⟨t, rfl⟩, h', _, _, rfl, hn', fun b o hb e => hs'.extBut b o hb e⟩
theorem comp_assignF {elt target iter : Expr} {ifs : List Expr} {scope : Scope} {cl : List (Str × Addr)} {pos py spos : Pos} {y : Str} {Q : Flow → Shared → Prop} (_F : Fr h₀ L s.heap m) (hLe : env.locals = L)
    (hsw : swapsWith (.ListComp elt [⟨target, iter, ifs, 0⟩] scope pos) (some (.Name y py)) spos.line env = pure true)
    (hclos : closureFor scope env = pure cl) (hcell : ∀ y ∈ scope.names, y.2 ≠ .cell) (hkind : scope.kind = .function) (hnames : ∀ y ∈ scope.names, y.2 = .local → scope.names.lookup y.1 = some .local)
    (hy : env.kindOf y = some .local) (hp : (env.scope.kind == .class || (env.scope.kind == .module && env.locals != env.globals)) = false)
    (h : wpAny (model prog w) A (eval iter env) (SrcG prog w A h₀ L m env elt target ifs scope cl (FinAG h₀ L m y Q)) E s)
    (hs : ∀ x, foldedSetIterable iter env x = pure x := by intro _; rfl) :
    wpAny (model prog w) A (exec (.Assign [.Name y py] (.ListComp elt [⟨target, iter, ifs, 0⟩] scope pos) spos) env) Q E s := comp_assign hLe hsw hclos hcell hkind hnames hy hp h hs
end
section
local macro_rules | `(tactic| walk_at "exec Assign cons ListComp") => `(tactic| (k_here; k_dflt (refine' comp_assignF ?F ?e ?sw ?a ?b ?c ?d ?y ?p ?_; (case F => k_asm); (case e => exact rfl); (case sw => exact rfl); kcp_assignC; (case y => exact rfl); (case p => exact rfl); k_whole)))
local macro_rules | `(tactic| walk_at "SrcG") => `(tactic| (k_here; k_dflt (
  refine' src_notnone ?arr ?hh ?F ?N ?hm ?ht ?hx ?hkind ?hd ?hsz ?_
  (case ht => with_reducible assumption)
  (case N => k_asm)
  (case hm => k_mem)
  kpc_text
  (case hsz => exact Nat.le_trans (by assumption) (Nat.le_of_ble_eq_true rfl)))))
local macro_rules | `(tactic| walk_at "FinAG") => `(tactic| ((unfold FinAG); intro D' h' tk' ys' F' N' o1' P'; (have I' := picked_opts P'); (have el' := IntsAre.length I'); (have pl' := Picked.length P')))
local macro_rules | `(tactic| walk_at "call builtin:len") => `(tactic| kor_look)
local macro_rules | `(tactic| walk_at "call builtin:min") => `(tactic| kor_lookL)
set_option maxHeartbeats 8000000 in
theorem least_call : ∀ {w : World} {s : Shared} {L : Addr} {env : Env} {outer : List Env} {d u : Nat} {g : Option (List Code)} {A₀ : Around} {h₀ base : Heap} {m mg mb : Str → Option Value} {p : Program} {loose : List Str} {mean : ExcName → Option Value} {tl : List (Addr × Obj)}
   {l : Addr} {n : Nat} {vs : List Value} {os : List (Option Int)} {Q : Value → Shared → Prop} {E : Value → Shared → Prop}
   (_B : Below A₀ base outer h₀) (_F : Fr h₀ L s.heap m) (_X : (headK w.params).In h₀) (_T : Top p loose mean mg mb h₀) (_N : News h₀ L s.heap tl)
   (_ml : (l, listOf vs.toArray n) ∈ tl) (_ho : OptVals vs os) (_lw : vs.length ≤ 100)
   (_hf : env.frame = some L) (_hk : env.scope.kind = .function) (_hd : d < 800)
   (_k : ∀ v o h' tk, Fr h₀ L h' m → News h₀ L h' tl → OptVal v o → LeastIs (os.filterMap id) o → Q v { s with heap := h', toks := tk }),
   wpAny (model PySem.Challenge.rw_rg0253_01.row.prog w) (mkA env outer d g u) (call (.ref 100) [.ref l]) Q E s := by
  k_fill
  intro w s L env outer d u g A₀ h₀ base m mg mb p loose mean tl l n vs os Q E B F X T N ml ho lw hf hk hd k
  have e9 := range_filterMap_getD os
  rw [← OptVals.length ho] at e9
  k_steps
  · rename (_ ∈ List.filterMap _ _) => q1
    rename (∀ a, a ∈ _ → _ ≤ a) => q2
    rename (Fr h₀ L _ m) => F9
    rename (News h₀ L _ _) => N9
    rw [e9] at q1 q2
    exact k _ (some _) _ _ F9 (News.of_sub N9 fun p hp => .tail _ hp) ⟨_, rfl⟩ ⟨q1, q2⟩
  · rename (¬ _) => q1
    rename (_ = (List.filterMap _ _).length) => q2
    rename (Fr h₀ L _ m) => F9
    rename (News h₀ L _ _) => N9
    rw [e9] at q2
    exact k _ none _ _ F9 (News.of_sub N9 fun p hp => .tail _ hp) rfl (List.eq_nil_of_length_eq_zero (by omega))
end

end
section
theorem off16 : True := by
  w_top off
  trivial
/-! ## the world's next time -/
theorem hostnextW {w : World} {s : Shared} {L : Addr} {env : Env} {outer : List Env} {d u : Nat} {g : Option (List Code)} {A₀ : Around} {h₀ base : Heap} {m mg mb : Str → Option Value} {p : Program} {loose : List Str} {mean : ExcName → Option Value} {news tl : List (Addr × Obj)}
   {f b dq l c cb : Addr} {ob obc : Obj} {nl : Nat} {ls : List Value} {ns : List Int} {Q : Value → Shared → Prop} {E : Value → Shared → Prop}
   (B : Below A₀ base outer h₀) (C : CodeHd base 312 308) (F : Fr h₀ L s.heap m) (X : (headK w.params).In h₀) (T : Top p loose mean mg mb h₀) (N : News h₀ L s.heap news)
   (lam : LamAt tl 1 [(Str.ofString "book", cb)] f) (m1 : (cb, obc) ∈ tl) (d1 : obc.data = .cell (some (.ref b))) (m3 : (b, ob) ∈ tl) (bk : BookIs w ob l dq c) (ml : (l, listOf ls.toArray nl) ∈ tl) (il : IntsAre ls ns) (hs : ∀ p ∈ tl, p ∈ news)
   (hf : env.frame = some L) (hk : env.scope.kind = .function) (hd : d < 800) (hu : u < 9000)
   (k : ∀ v h' tk, Fr h₀ L h' m → News h₀ L h' news → OptVal v ns.head? → Q v { s with heap := h', toks := tk }) :
   wpAny (model PySem.Challenge.rw_rg0253_01.row.prog w) (mkA env outer d g u) (call (.ref f) []) Q E s :=
  hostnext_call B C F X T N (lam.mono hs) (hs _ m1) d1 (hs _ m3) bk (hs _ ml) il hf hk hd hu k
theorem netnextW {w : World} {s : Shared} {L : Addr} {env : Env} {outer : List Env} {d u : Nat} {g : Option (List Code)} {A₀ : Around} {h₀ base : Heap} {m mg mb : Str → Option Value} {p : Program} {loose : List Str} {mean : ExcName → Option Value} {news tl : List (Addr × Obj)}
   {NW dN wl fl ch : Addr} {esN : List DictEntry} {nN cw : Nat} {ws : List Value} {fs : List Fly} {n : Int} {Q : Value → Shared → Prop} {E : Value → Shared → Prop}
   (B : Below A₀ base outer h₀) (F : Fr h₀ L s.heap m) (X : (headK w.params).In h₀) (T : Top p loose mean mg mb h₀) (N : News h₀ L s.heap news)
   (mN : (NW, instObj 84 dN) ∈ tl) (mdN : (dN, dictOf esN nN) ∈ tl) (gN : NetEs esN ch wl fl n) (mw : (wl, listOf ws.toArray cw) ∈ tl) (fa : FliesAre tl ws fs) (lw : ws.length ≤ 100) (hs : ∀ p ∈ tl, p ∈ news)
   (hf : env.frame = some L) (hk : env.scope.kind = .function) (hd : d < 800)
   (k : ∀ v o h' tk, Fr h₀ L h' m → News h₀ L h' news → OptVal v o → LeastIs (fs.map (·.arr)) o → Q v { s with heap := h', toks := tk }) :
   wpAny (model PySem.Challenge.rw_rg0253_01.row.prog w) (mkA env outer d g u) (call (.ref 76) [.ref NW]) Q E s :=
  netnext_call B F X T N (hs _ mN) (hs _ mdN) gN (hs _ mw) (fa.mono hs) lw hf hk hd k
theorem comp_end0 {h₀ : Heap} {L I C D : Addr} {m : Str → Option Value} {s₁ : Shared} {oI oC oD : Obj} {S : List (Addr × Obj) → Prop} {rest : Value → List (Addr × Obj) → Prop} {y : Value} {h' : Heap} {tk : Nat} {tl : List (Addr × Obj)}
    (F : Fr h₀ L h' m) (N : News h₀ L h' ((I, oI) :: (C, oC) :: (D, oD) :: tl)) (off : LCg.Off3 I C D tl) (hS : S tl) (r : rest y tl) :
    LCg.CompEnd h₀ L m s₁ I oI C oC D oD S rest y { s₁ with heap := h', toks := tk } := ⟨h', tk, tl, rfl, F, N, off, hS, r⟩
theorem least_join {ns : List Int} {o0 o1 o2 o : Option Int} (h0 : LeastIs ns o0) (h : LeastIs ([o0, o1, o2].filterMap id) o) : LeastIs (ns ++ o1.toList ++ o2.toList) o := by
  cases o0 with
  | none =>
    have e : ns = [] := h0
    subst e
    cases o1 <;> cases o2 <;> exact h
  | some a =>
    obtain ⟨h1, h2⟩ := h0
    cases o with
    | none =>
      exfalso
      have e : [some a, o1, o2].filterMap id = [] := h
      simp at e
    | some x =>
      obtain ⟨h3, h4⟩ := h
      have e : [some a, o1, o2].filterMap id = a :: (o1.toList ++ o2.toList) := by cases o1 <;> cases o2 <;> rfl
      rw [e] at h3 h4
      rw [List.append_assoc]
      refine ⟨?_, fun b hb => ?_⟩
      · rcases List.mem_cons.mp h3 with rfl | h3
        · exact List.mem_append.mpr (.inl h1)
        · exact List.mem_append.mpr (.inr h3)
      · rcases List.mem_append.mp hb with hb | hb
        · exact Int.le_trans (h4 a (.head _)) (h2 b hb)
        · exact h4 b (.tail _ hb)
section
local macro_rules | `(tactic| walk_at "call ref") => `(tactic| ((fail_if_success (with_reducible show wpAny _ _ (call (Value.ref 126) _) _ _ _)); refine stop_here ?_))
local macro_rules | `(tactic| walk_at "callWith ref") => `(tactic| ((with_reducible show wpAny _ _ (callWith _ (Value.ref _) [] (backTo _ (starEach [] _)) []) _ _ _); kctr_use))
local macro_rules | `(tactic| walk_at "CompEnd") => `(tactic| (refine' comp_end0 ?F ?N ?o ?S ?_; kbm_accL))
set_option maxHeartbeats 8000000 in
theorem worldnext_call : ∀ {w : World} {s : Shared} {L : Addr} {env : Env} {outer : List Env} {d u : Nat} {g : Option (List Code)} {A₀ : Around} {h₀ base : Heap} {m mg mb : Str → Option Value} {p : Program} {loose : List Str} {mean : ExcName → Option Value} {tl : List (Addr × Obj)}
   {W dW NW dN wl fl ch hl h0 h1 b0 b1 l0 l1 q0 q1 c0 c1 : Addr} {esW esN : List DictEntry} {nW nN nH cw nl0 nl1 : Nat} {ws ls0 ls1 : List Value} {fs : List Fly} {ns0 ns1 : List Int} {now steps n : Int} {ob0 ob1 : Obj} {Q : Value → Shared → Prop} {E : Value → Shared → Prop}
   (_B : Below A₀ base outer h₀) (_C : Hid (CodeHd base 312 308)) (_F : Fr h₀ L s.heap m) (_X : (headK w.params).In h₀) (_T : Top p loose mean mg mb h₀)
   (_N : News h₀ L s.heap tl)
   (_mW : (W, instObj 143 dW) ∈ tl) (_mdW : (dW, dictOf esW nW) ∈ tl) (_gW : WorldEs esW hl NW now steps) (_mN : (NW, instObj 84 dN) ∈ tl) (_mdN : (dN, dictOf esN nN) ∈ tl) (_gN : NetEs esN ch wl fl n) (_mw : (wl, listOf ws.toArray cw) ∈ tl) (_fa : FliesAre tl ws fs) (_lw : ws.length ≤ 100)
   (_mH : (hl, listOf #[.ref h0, .ref h1] nH) ∈ tl)
   (_H0 : HostAt tl h0 b0 (Str.ofString "client")) (_H1 : HostAt tl h1 b1 (Str.ofString "server")) (_mb0 : (b0, ob0) ∈ tl) (_mb1 : (b1, ob1) ∈ tl) (_bk0 : BookIs w ob0 l0 q0 c0) (_bk1 : BookIs w ob1 l1 q1 c1)
   (_ml0 : (l0, listOf ls0.toArray nl0) ∈ tl) (_ml1 : (l1, listOf ls1.toArray nl1) ∈ tl) (_il0 : IntsAre ls0 ns0) (_il1 : IntsAre ls1 ns1)
   (_hf : env.frame = some L) (_hk : env.scope.kind = .function) (_hd : d < 700) (_hu : u < 8000)
   (_k : ∀ v o h' tk, Fr h₀ L h' m → News h₀ L h' tl → OptVal v o → LeastIs (fs.map (·.arr) ++ ns0.head?.toList ++ ns1.head?.toList) o → Q v { s with heap := h', toks := tk }),
   wpAny (model PySem.Challenge.rw_rg0253_01.row.prog w) (mkA env outer d g u) (call (.ref 126) [.ref W]) Q E s := by
  k_fill
  intro w s L env outer d u g A₀ h₀ base m mg mb p loose mean tl W dW NW dN wl fl ch hl h0 h1 b0 b1 l0 l1 q0 q1 c0 c1 esW esN nW nN nH cw nl0 nl1 ws ls0 ls1 fs ns0 ns1 now steps n ob0 ob1 Q E B C F X T N mW mdW gW mN mdN gN mw fa lw mH H0 H1 mb0 mb1 bk0 bk1 ml0 ml1 il0 il1 hf hk hd hu k
  refine WorldEs.elim gW fun wt1 wt2 wle wg1 wg2 wg3 wg4 wg5 wg6 wg7 wg8 => ?_; clear gW
  have gN0 := gN
  refine NetEs.elim gN fun t1 t2 t3 t4 le g1 g2 g3 g4 g5 g6 g7 g8 g9 g10 g11 g12 => ?_; clear gN
  refine HostAt.elim H0 fun dh0 es0 n0 f01 f02 f03 f04 cb0 cn0 obc0 onc0 tn0 x1 x2 x3 x4 x5 x6 x7 x8 x9 x10 x11 x12 x13 x14 => ?_; clear H0
  refine HostAt.elim H1 fun dh1 es1 n1 f11 f12 f13 f14 cb1 cn1 obc1 onc1 tn1 y1 y2 y3 y4 y5 y6 y7 y8 y9 y10 y11 y12 y13 y14 => ?_; clear H1
  obtain ⟨pmA, cA, ctA, hA0⟩ := x7.obj
  have hA : (f01, kla_obj _ _ _ _ _ _ _ _ _) ∈ tl := hA0
  clear hA0
  obtain ⟨pmB, cB, ctB, hB0⟩ := y7.obj
  have hB : (f11, kla_obj _ _ _ _ _ _ _ _ _) ∈ tl := hB0
  clear hB0
  k_steps
  refine Hid.out ?_
  k_dflt (
    refine' netnextW ?B ?F ?X ?T ?N ?m1 ?m2 ?g ?m3 ?fa ?lw ?hs ?hf ?hk ?hd ?_
    (case fa => with_reducible assumption)
    ktm_count
    (case m1 => with_reducible assumption)
    (case m2 => with_reducible assumption)
    (case g => with_reducible assumption)
    (case m3 => with_reducible assumption)
    (case lw => omega)
    (case hs => kst_entry)
    (intro v' o' h' tk F' N' ho' hl'; (try dsimp only)))
  k_steps
  refine Hid.out ?_
  k_dflt (
    refine' hostnextW ?B ?C ?F ?X ?T ?N ?lam ?m1 ?d1 ?m3 ?bk ?ml ?il ?hs ?hf ?hk ?hd ?hu ?_
    (case lam => with_reducible assumption)
    (case C => exact (by with_reducible assumption : Hid (CodeHd _ 312 308)))
    ktm_count
    (case m1 => with_reducible assumption)
    (case d1 => with_reducible assumption)
    (case m3 => with_reducible assumption)
    (case bk => with_reducible assumption)
    (case ml => with_reducible assumption)
    (case il => with_reducible assumption)
    (case hs => kst_entry)
    (case hu => (simp only [units_deeper, units_in1, mkA]; omega))
    (intro v' h' tk F' N' ho'; (try dsimp only)))
  k_steps
  refine Hid.out ?_
  k_dflt (
    refine' hostnextW ?B ?C ?F ?X ?T ?N ?lam ?m1 ?d1 ?m3 ?bk ?ml ?il ?hs ?hf ?hk ?hd ?hu ?_
    (case lam => with_reducible assumption)
    (case C => exact (by with_reducible assumption : Hid (CodeHd _ 312 308)))
    ktm_count
    (case m1 => with_reducible assumption)
    (case d1 => with_reducible assumption)
    (case m3 => with_reducible assumption)
    (case bk => with_reducible assumption)
    (case ml => with_reducible assumption)
    (case il => with_reducible assumption)
    (case hs => kst_entry)
    (case hu => (simp only [units_deeper, units_in1, mkA]; omega))
    (intro v' h' tk F' N' ho'; (try dsimp only)))
  k_steps
  refine Hid.out ?_
  k_dflt (
    refine' least_call (os := [_, _, _]) ?B ?F ?X ?T ?N ?m1 ?ho ?lw ?hf ?hk ?hd ?_
    ktm_count
    (case m1 => k_mem)
    (case ho => exact ⟨by with_reducible assumption, by with_reducible assumption, by with_reducible assumption, trivial⟩)
    (case lw => exact Nat.le_of_ble_eq_true rfl)
    (intro v' o' h' tk F' N' ho' hl'; (try dsimp only)))
  k_steps
  rename (Fr h₀ L _ m) => F9
  rename (News h₀ L _ _) => N9
  rename (LeastIs (List.filterMap _ _) _) => q1
  rename (LeastIs (List.map _ _) _) => q2
  exact k _ _ _ _ F9 (News.of_sub N9 fun p hp => by repeat (first | exact hp | refine List.mem_cons_of_mem _ ?_)) (by with_reducible assumption) (least_join q2 q1)
end

end
section
theorem off17 : True := by
  w_top off
  trivial
/-! ## sorted over flights that stand in order: the same list again -/
noncomputable def flyLt (f g : Fly) : Prop := f.arr < g.arr ∨ (f.arr = g.arr ∧ f.cnt < g.cnt)
noncomputable abbrev InOrder (fs : List Fly) : Prop := fs.Pairwise flyLt
theorem inOrder_at {fs : List Fly} (h : InOrder fs) (i : Nat) (hi : i + 1 < fs.length) : flyLt (fs.getD i noFly) (fs.getD (i + 1) noFly) := by
  have := List.pairwise_iff_getElem.mp h i (i + 1) (by omega) hi (by omega)
  simpa [List.getD, List.getElem?_eq_getElem hi, List.getElem?_eq_getElem (show i < fs.length by omega)] using this
section
variable {prog : Program} {w : World} {A : Around} {E : Value → Shared → Prop} {s : Shared} {h₀ : Heap} {L : Addr} {m : Str → Option Value} {news : List (Addr × Obj)} {vs : List Value}
theorem asc_all {cmp : Nat → Nat → (Bool → Shared → Prop) → Shared → Prop} {p : Array Nat} {s : Shared} : ∀ (f n : Nat) {G : Nat → Shared → Prop}, (∀ k C, n ≤ k → k < n + f → C false s → cmp (p.getD k 0) (p.getD (k - 1) 0) C s) → G (n + f) s → (kas_asc p f n).kasWp cmp G s
  | 0, n, G, _, h => h
  | f + 1, n, G, hc, h => by
    show cmp (p.getD n 0) (p.getD (n - 1) 0) (fun c s' => (if c = true then KasT.ret n else kas_asc p f (n + 1)).kasWp cmp G s') s
    refine hc n _ (Nat.le_refl _) (by omega) ?_
    simp only [Bool.false_eq_true, if_false]
    exact asc_all f (n + 1) (fun k C h1 h2 h3 => hc k C (by omega) (by omega) h3) (by rw [show n + 1 + f = n + (f + 1) by omega]; exact h)
theorem sort_all {cmp : Nat → Nat → (Bool → Shared → Prop) → Shared → Prop} {n : Nat} {s : Shared} {G : Array Nat → Shared → Prop} (h2 : 2 ≤ n) (hc : ∀ k C, k + 1 < n → C false s → cmp (k + 1) k C s) (h : G (List.toArray (List.range n)) s) : (kas_sort n).kasWp cmp G s := by
  have hp : ∀ k, k < n → (List.toArray (List.range n)).getD k 0 = k := fun k hk => by simp [Array.getD, hk]
  unfold kas_sort kas_count
  rw [KasT.kasWp_bind, KasT.kasWp_bind]
  refine asc_all (n - 1) 1 (fun k C h1 h3 h4 => ?_) ?_
  · rw [hp k (by omega), hp (k - 1) (by omega)]
    obtain ⟨j, rfl⟩ : ∃ j, k = j + 1 := ⟨k - 1, by omega⟩
    exact hc j C (by omega) h4
  · rw [show 1 + (n - 1) = n by omega]
    simp only [beq_self_eq_true, if_true]
    show (if n < n then _ else KasT.ret _).kasWp cmp G s
    rw [if_neg (Nat.lt_irrefl _)]
    exact h
theorem lt_lex {f g : Fly} {A : Around} {C : Bool → Shared → Prop} {fin : Bool} {r1 r2 r3 q1 q2 q3 : Value} {t1 t2 t3 t4 : Tok} (h : flyLt f g) (hq : C false s) :
    KatLex prog w A true fin C [(.int g.arr t1, .int f.arr t2), (.int g.cnt t3, .int f.cnt t4), (r1, q1), (r2, q2), (r3, q3)] 0 s := by
  refine kat_cons (wpAny_eqBool_int ?_)
  by_cases he : g.arr = f.arr
  · have e1 : (g.arr == f.arr) = true := beq_iff_eq.mpr he
    rw [e1]
    refine kat_yes (kat_cons (wpAny_eqBool_int ?_))
    have hc : f.cnt < g.cnt := by
      rcases h with h | h
      · omega
      · exact h.2
    have e2 : (g.cnt == f.cnt) = false := beq_eq_false_iff_ne.mpr (by omega)
    rw [e2]
    refine kat_no ?_
    show wpAny _ _ (oneLt' false _ _) _ _ _
    refine kat_one _ _ (lt_int ?_)
    rw [decide_eq_false (by omega)]
    exact hq
  · have e1 : (g.arr == f.arr) = false := beq_eq_false_iff_ne.mpr he
    rw [e1]
    refine kat_no ?_
    show wpAny _ _ (oneLt' true _ _) _ _ _
    refine oneLt_int ?_
    rw [decide_eq_false (by rcases h with h | h <;> omega)]
    exact hq
theorem flies_kat {h : Heap} (N : News h₀ L h news) : ∀ {vs : List Value} {fs : List Fly}, FliesAre news vs fs → ∃ ks, KatTups h vs ks ∧ ks.length = fs.length ∧ ∀ k ∈ ks, ∃ x t, k = Value.int x t
  | [], [], _ => ⟨[], trivial, rfl, fun _ h => nomatch h⟩
  | v :: vs, f :: fs, x => by
    obtain ⟨ks, k1, k2, k3⟩ := flies_kat N x.2
    obtain ⟨T, t1, t2, t3, t4, t5, nT, rfl, hm⟩ := x.1
    refine ⟨.int f.arr t1 :: ks, KatTups.cons (N _ hm).1 rfl rfl rfl k1, congrArg (· + 1) k2, fun k hk => ?_⟩
    rcases List.mem_cons.mp hk with rfl | hk
    · exact ⟨_, _, rfl⟩
    · exact k3 k hk
theorem range_getD_self (vs : List Value) : ((List.toArray (List.range vs.length)).toList.map fun i => vs.getD i Value.none) = vs := by
  refine List.ext_getElem (by simp) fun i h1 h2 => ?_
  simp [List.getD, List.getElem?_eq_getElem h2]
theorem sorted_flies {l : Addr} {n : Nat} {fs : List Fly} {Q : Value → Shared → Prop} (F : Fr h₀ L s.heap m) (N : News h₀ L s.heap news) (hm : (l, listOf vs.toArray n) ∈ news) (fa : FliesAre news vs fs) (ho : InOrder fs) (h2 : 2 ≤ vs.length) (h64 : vs.length < 64)
    (h : ∀ D c h', Fr h₀ L h' m → News h₀ L h' ((D, listOf vs.toArray c) :: news) → (∀ q ∈ news, q.1 ≠ D) → Q (.ref D) { s with heap := h' }) :
    wpAny (model prog w) A (call (.builtin "sorted") [.ref l]) Q E s := by
  refine kat_sorted F N ⟨_, (N _ hm).1, rfl, n, rfl⟩ h2 h64 fun D e1 h' F' N' l1 => ?_
  have N'' : News h₀ L h' news := fun p hp => N' p (.tail _ hp)
  obtain ⟨ks, k1, k2, k3⟩ := flies_kat N'' fa
  have hl := fa.length
  refine kat_kind k1 (by omega) (T := .type "int") (fun v hv => ?_) rfl ?_
  · obtain ⟨x, t, rfl⟩ := k3 v hv
    exact Looks.now
  · refine sort_all h2 (fun k C hk hq => ?_) ?_
    · have h1 : vs[k]? = some (vs.getD k Value.none) := by simp [List.getD, List.getElem?_eq_getElem (show k < vs.length by omega)]
      have h3 : vs[k + 1]? = some (vs.getD (k + 1) Value.none) := by simp [List.getD, List.getElem?_eq_getElem hk]
      obtain ⟨T, t1, t2, t3, t4, t5, nT, e, hT⟩ := fa.at k _ h1
      obtain ⟨T', u1, u2, u3, u4, u5, nT', e', hT'⟩ := fa.at (k + 1) _ h3
      unfold kas_ask
      rw [e, e']
      refine kat_lt (N'' _ hT').1 rfl (N'' _ hT).1 rfl ?_
      exact lt_lex (inOrder_at ho k (by omega)) hq
    · rw [range_getD_self]
      exact KasFin.intro F' N' (.head fun p hp => Nat.ne_of_lt (l1 p hp)) fun h'' c F'' N'' => h D c h'' F'' N'' fun p hp => Nat.ne_of_lt (l1 p hp)
theorem zip_snd_short : ∀ {vs : List Value}, vs.length < 2 → (vs.toArray.zip vs.toArray).map (·.2) = vs.toArray
  | [], _ => by simp
  | [v], _ => by simp
  | _ :: _ :: _, h => by simp at h; omega
set_option maxHeartbeats 4000000 in
theorem list_sort_short {a : Addr} {n : Nat} {P : PySem.Fin → Shared → Prop} (F : Fr h₀ L s.heap m) (N : News h₀ L s.heap news) (ho : s.heap.get? a = some (seqObj "list" vs.toArray n)) (haL : a ≠ L) (ha0 : h₀.get? a = none) (hna : ∀ p ∈ news, p.1 ≠ a)
    (h2 : vs.length < 2) (h : ∀ c h', Fr h₀ L h' m → News h₀ L h' ((a, listOf vs.toArray c) :: news) → P (.done (.ret .none)) { s with heap := h' }) :
    wpAny (model prog w) A (Builtin.«list.sort» ⟨[.ref a], []⟩) P E s := by
  have ha : a < s.heap.objs.size := Heap.lt_size ho
  have s1 := Heap.SameBut.update s.heap a (Obj.mapSeq fun _ => (#[] : Array Value))
  obtain ⟨e1, ho1⟩ : ∃ e1, (s.heap.update a (Obj.mapSeq fun _ => (#[] : Array Value))).get? a = some (seqObj "list" #[] e1) := ⟨_, get?_update_seq ho fun _ => #[]⟩
  have F3 : Fr h₀ L (((s.heap.update a (Obj.mapSeq fun _ => (#[] : Array Value))).push (seqObj "tuple" vs.toArray 0)).push (seqObj "list" #[] 0)) m := ((kas_fr F s1 haL ha0).push _).push _
  have N2 : News h₀ L (((s.heap.update a (Obj.mapSeq fun _ => (#[] : Array Value))).push (seqObj "tuple" vs.toArray 0)).push (seqObj "list" #[] 0)) news :=
    (kas_news N s1 hna).grown fun b x e => Heap.get?_push_of_some _ (Heap.get?_push_of_some _ e)
  have ho3 : (((s.heap.update a (Obj.mapSeq fun _ => (#[] : Array Value))).push (seqObj "tuple" vs.toArray 0)).push (seqObj "list" #[] 0)).get? a = some (seqObj "list" #[] e1) := Heap.get?_push_of_some _ (Heap.get?_push_of_some _ ho1)
  rw [list_sort_plain]
  refine wpAny_bind (listItems_at ho rfl ?_)
  refine wpAny_bind (listUpdate_at ho rfl ?_ (by rw [List.size_toArray, sizeLine_eq]; omega) (Nat.zero_le _))
  refine wpAny_bind (seqEpoch_at ho1 rfl ?_)
  refine wpAny_bind (wpAny_newTuple ?_ (by show vs.length ≤ _; rw [sizeLine_eq]; omega))
  refine wpAny_bind (wpAny_newList ?_ (Nat.zero_le _))
  refine wpAny_holding ?_
  show wpAny (model prog w) A _ P E { s with heap := ((s.heap.update a (Obj.mapSeq fun _ => (#[] : Array Value))).push (seqObj "tuple" vs.toArray 0)).push (seqObj "list" #[] 0) }
  dsimp only
  have hn2 : vs.toArray.size < 2 := by rw [List.size_toArray]; omega
  rw [if_pos hn2, if_pos hn2]
  refine wpAny_bind (wpAny_pure ?_)
  rw [StateT.run_pure]
  refine wpAny_bind (wpAny_pure ?_)
  dsimp only
  have hz : (arrOf (SortSt.mk' general' (vs.toArray.zip vs.toArray) #[] 7 none)).map (·.2) = vs.toArray := by
    show (vs.toArray.zip vs.toArray).map (·.2) = vs.toArray
    exact zip_snd_short h2
  rw [hz]
  have s2 := Heap.SameBut.update (((s.heap.update a (Obj.mapSeq fun _ => (#[] : Array Value))).push (seqObj "tuple" vs.toArray 0)).push (seqObj "list" #[] 0)) a (Obj.mapSeq fun _ => vs.toArray)
  obtain ⟨c2, hc2⟩ : ∃ c2, ((((s.heap.update a (Obj.mapSeq fun _ => (#[] : Array Value))).push (seqObj "tuple" vs.toArray 0)).push (seqObj "list" #[] 0)).update a (Obj.mapSeq fun _ => vs.toArray)).get? a = some (seqObj "list" vs.toArray c2) := ⟨_, get?_update_seq ho3 fun _ => vs.toArray⟩
  refine wpAny_bind (seqEpoch_at ho3 rfl ?_)
  refine wpAny_bind (listUpdate_at ho3 rfl ?_ (Nat.zero_le _) (by rw [List.size_toArray, sizeLine_eq]; omega))
  simp only [bne_self_eq_false, Bool.false_eq_true, if_false]
  refine wpAny_pure (h c2 _ (kas_fr F3 s2 haL ha0) fun p hp => ?_)
  rcases List.mem_cons.mp hp with rfl | hp
  · exact ⟨hc2, haL, ha0⟩
  · exact ⟨s2.extBut _ _ (hna p hp) (N2 p hp).1, (N2 p hp).2⟩
theorem sorted_short {l : Addr} {n : Nat} {Q : Value → Shared → Prop} (F : Fr h₀ L s.heap m) (N : News h₀ L s.heap news) (hm : (l, listOf vs.toArray n) ∈ news) (h2 : vs.length < 2)
    (h : ∀ D c h', Fr h₀ L h' m → News h₀ L h' ((D, listOf vs.toArray c) :: news) → (∀ q ∈ news, q.1 ≠ D) → Q (.ref D) { s with heap := h' }) :
    wpAny (model prog w) A (call (.builtin "sorted") [.ref l]) Q E s := by
  have hl : s.heap.IsList l vs.toArray := ⟨_, (N _ hm).1, rfl, n, rfl⟩
  refine Calls.call_function_entry kind_sorted plain_sorted entry_sorted (args_sorted1 _) ?_
  unfold Builtin.«sorted»
  refine wpAny_bind (m := checkCount "sorted" 1 1 _) (wpAny_pure ?_)
  refine wpAny_bind (collect_list hl ?_ (by rw [sizeLine_eq]; omega))
  refine wpAny_bind (wpAny_newList ?_ (by rw [sizeLine_eq]; omega))
  have hsz : ((s.heap.push (seqObj "list" #[] 0)).update s.heap.objs.size (Obj.mapSeq (· ++ vs.toArray))).objs.size = s.heap.objs.size + 1 := by
    rw [Heap.size_update, size_push']
  have hoL : (((s.heap.push (seqObj "list" #[] 0)).update s.heap.objs.size (Obj.mapSeq (· ++ vs.toArray))).push (seqObj "list" vs.toArray 0)).get? (s.heap.objs.size + 1) = some (seqObj "list" vs.toArray 0) := by
    rw [← hsz]; exact Heap.get?_push_size _ rfl
  have keep : ∀ b o, s.heap.get? b = some o → (((s.heap.push (seqObj "list" #[] 0)).update s.heap.objs.size (Obj.mapSeq (· ++ vs.toArray))).push (seqObj "list" vs.toArray 0)).get? b = some o := fun b o q => by
    have hlt : b < s.heap.objs.size := Heap.lt_size q
    rw [Heap.get?_push_ne _ _ _ (by rw [hsz]; exact Nat.ne_of_lt (Nat.lt_succ_of_lt hlt)), Heap.get?_update_ne _ _ _ _ (Nat.ne_of_lt hlt), Heap.get?_push_ne _ _ _ (Nat.ne_of_lt hlt)]
    exact q
  have hL : L < s.heap.objs.size := F.ns.lt
  show wpAny _ _ _ _ _ { s with heap := ((s.heap.push (seqObj "list" #[] 0)).update s.heap.objs.size (Obj.mapSeq (· ++ vs.toArray))).push (seqObj "list" vs.toArray 0) }
  rw [hsz]
  have off : ∀ p ∈ news, p.1 ≠ s.heap.objs.size + 1 := fun p hp => Nat.ne_of_lt (Nat.lt_succ_of_lt (Heap.lt_size (N p hp).1))
  refine wpAny_bind (wpAny_holding (wpAny_call_entry slot_list_sort ⟨_, hoL, rfl⟩ entry_list_sort ?body (args_list_sort _)))
  case body =>
    refine list_sort_short (s := { s with heap := ((s.heap.push (seqObj "list" #[] 0)).update s.heap.objs.size (Obj.mapSeq (· ++ vs.toArray))).push (seqObj "list" vs.toArray 0) })
      (F.kept keep) (N.grown keep) hoL (Nat.ne_of_gt (Nat.lt_succ_of_lt hL)) (Heap.get?_none_of_le (Nat.le_trans F.above (Nat.le_succ_of_le (Nat.le_of_lt hL)))) off h2 fun c h' F' N' => ?_
    exact ⟨_, rfl, wpAny_pure ⟨_, rfl, h _ c h' F' N' off⟩⟩
theorem sorted_any {l : Addr} {n : Nat} {fs : List Fly} {Q : Value → Shared → Prop} (F : Fr h₀ L s.heap m) (N : News h₀ L s.heap news) (hm : (l, listOf vs.toArray n) ∈ news) (fa : FliesAre news vs fs) (ho : InOrder fs) (h64 : vs.length < 64)
    (h : ∀ D c h', Fr h₀ L h' m → News h₀ L h' ((D, listOf vs.toArray c) :: news) → (∀ q ∈ news, q.1 ≠ D) → Q (.ref D) { s with heap := h' }) :
    wpAny (model prog w) A (call (.builtin "sorted") [.ref l]) Q E s := by
  by_cases h2 : 2 ≤ vs.length
  · exact sorted_flies F N hm fa ho h2 h64 h
  · exact sorted_short F N hm (by omega) h
end

end
section
theorem off18 : True := by
  w_top off
  trivial
/-! ## the rows that arrived: (goal, path, datagram) for time, order, goal, path, datagram in due -/
noncomputable def ArrIs (news : List (Addr × Obj)) (v : Value) (f : Fly) : Prop :=
  ∃ T t3 t4 t5 nT, v = .ref T ∧ (T, tupOf [.int f.goal t3, .str (nameOf f.goal) t4, .bytes (octOf f.due) t5] nT) ∈ news
noncomputable def ArrsAre (news : List (Addr × Obj)) : List Value → List Fly → Prop
  | [], [] => True
  | v :: vs, f :: fs => ArrIs news v f ∧ ArrsAre news vs fs
  | _, _ => False
theorem ArrIs.mono {news news' : List (Addr × Obj)} (hs : ∀ p ∈ news, p ∈ news') {v : Value} {f : Fly} (h : ArrIs news v f) : ArrIs news' v f :=
  let ⟨T, t3, t4, t5, nT, e, hm⟩ := h; ⟨T, t3, t4, t5, nT, e, hs _ hm⟩
theorem ArrsAre.mono {news news' : List (Addr × Obj)} (hs : ∀ p ∈ news, p ∈ news') : ∀ {vs : List Value} {fs : List Fly}, ArrsAre news vs fs → ArrsAre news' vs fs
  | [], [], _ => trivial
  | _ :: _, _ :: _, h => ⟨h.1.mono hs, h.2.mono hs⟩
theorem ArrsAre.append {news : List (Addr × Obj)} : ∀ {vs ws : List Value} {fs gs : List Fly}, ArrsAre news vs fs → ArrsAre news ws gs → ArrsAre news (vs ++ ws) (fs ++ gs)
  | [], _, [], _, _, k => k
  | _ :: _, _, _ :: _, _, h, k => ⟨h.1, h.2.append k⟩
theorem ArrsAre.length {news : List (Addr × Obj)} : ∀ {vs : List Value} {fs : List Fly}, ArrsAre news vs fs → vs.length = fs.length
  | [], [], _ => rfl
  | _ :: _, _ :: _, h => congrArg (· + 1) h.2.length
theorem ArrsAre.at {news : List (Addr × Obj)} : ∀ {vs : List Value} {fs : List Fly}, ArrsAre news vs fs → ∀ i v, vs[i]? = some v → ArrIs news v (fs.getD i noFly)
  | [], [], _, i, v, h => by simp at h
  | v :: vs, f :: fs, x, 0, u, h => by
    simp at h
    subst h
    exact x.1
  | v :: vs, f :: fs, x, i + 1, u, h => by
    simp at h
    exact ArrsAre.at x.2 i u h
/-- the tuple that a comprehension has made -/
noncomputable def Tup3R (h₀ : Heap) (L : Addr) (fs : List Fly) (h : Heap) (i : Nat) (y : Value) : Prop :=
  ∃ T t3 t4 t5, y = .ref T ∧ T ≠ L ∧ h₀.get? T = none ∧ h.get? T = some (tupOf [.int (fs.getD i noFly).goal t3, .str (nameOf (fs.getD i noFly).goal) t4, .bytes (octOf (fs.getD i noFly).due) t5] 0)
theorem picked_tups {h₀ h : Heap} {L : Addr} (fs : List Fly) : ∀ {n : Nat} {ys : List Value}, n ≤ fs.length → Picked (Tup3R h₀ L fs h) (fun _ => true) n ys → ∃ own, News h₀ L h own ∧ (∀ p ∈ own, ∃ xs n, p.2 = tupOf xs n) ∧ ArrsAre own ys (fs.take n)
  | 0, ys, _, x => by have e : ys = [] := x; subst e; exact ⟨[], (fun _ h => nomatch h), (fun _ h => nomatch h), trivial⟩
  | n + 1, ys, hn, x => by
    unfold Picked at x
    rw [if_pos rfl] at x
    obtain ⟨ys', y, e, a, T, t3, t4, t5, b, b1, b2, b3⟩ := x
    subst e b
    obtain ⟨own, o1, o2, o3⟩ := picked_tups fs (Nat.le_of_succ_le hn) a
    have hf : fs.take (n + 1) = fs.take n ++ [fs.getD n noFly] := by
      rw [List.take_succ_eq_append_getElem (by omega)]
      simp [List.getD, List.getElem?_eq_getElem (show n < fs.length by omega)]
    refine ⟨(T, tupOf [.int (fs.getD n noFly).goal t3, .str (nameOf (fs.getD n noFly).goal) t4, .bytes (octOf (fs.getD n noFly).due) t5] 0) :: own, fun p hp => ?_, fun p hp => ?_, ?_⟩
    · rcases List.mem_cons.mp hp with rfl | hp
      · exact ⟨b3, b1, b2⟩
      · exact o1 p hp
    · rcases List.mem_cons.mp hp with rfl | hp
      · exact ⟨_, _, rfl⟩
      · exact o2 p hp
    · rw [hf]
      exact (o3.mono fun p hp => .tail _ hp).append ⟨⟨T, t3, t4, t5, 0, rfl, .head _⟩, trivial⟩
section
variable {prog : Program} {w : World} {A : Around} {E : Value → Shared → Prop} {s : Shared} {h₀ : Heap} {L : Addr} {m : Str → Option Value} {env : Env}
theorem src_tup3 {x1 x2 x3 x4 x5 : Str} {p1 p2 p3 p4 p5 r3 r4 r5 q1 q2 : Pos} {k1 k2 n : Nat} {scope : Scope} {cl : List (Str × Addr)} {Fin : Shared → List (Addr × Obj) → Nat → (Heap → Nat → Value → Prop) → (Nat → Bool) → Prop} {ax : Addr} {vs : List Value} {fs : List Fly} {news : List (Addr × Obj)}
    (hh : A.handled = none) (F : Fr h₀ L s.heap m) (N : News h₀ L s.heap news) (hm : (ax, listOf (List.toArray vs) n) ∈ news) (fa : FliesAre news vs fs)
    (hx1 : scope.names.lookup x1 = some .local) (hx2 : scope.names.lookup x2 = some .local) (hx3 : scope.names.lookup x3 = some .local) (hx4 : scope.names.lookup x4 = some .local) (hx5 : scope.names.lookup x5 = some .local)
    (d34 : x3 ≠ x4) (d35 : x3 ≠ x5) (d45 : x4 ≠ x5) (hkind : scope.kind = .function) (hd3 : (x3 == ("__debug__" : Str)) = false) (hd4 : (x4 == ("__debug__" : Str)) = false) (hd5 : (x5 == ("__debug__" : Str)) = false) (hsz : vs.length ≤ sizeLine)
    (fin : Fin s news vs.length (Tup3R h₀ L fs) fun _ => true) :
    SrcG prog w A h₀ L m env (.Tuple [.Name x3 r3, .Name x4 r4, .Name x5 r5] k1 q1) (.Tuple [.Name x1 p1, .Name x2 p2, .Name x3 p3, .Name x4 p4, .Name x5 p5] k2 q2) [] scope cl Fin (.ref ax) s := by
  refine ⟨ax, vs, n, news, _, _, rfl, hh, F, N, hm, hsz, ?_, ?_, fin⟩
  · rintro h h' i y ⟨T, t3, t4, t5, a1, a2, a3, a4⟩ tk
    exact ⟨T, t3, t4, t5, a1, a2, a3, tk _ _ _ a4⟩
  intro i v C s₂ m₁ E' hv hns he F₂ N₂ hCL hC₀ hCn
  obtain ⟨T, t1, t2, t3, t4, t5, nT, rfl, hT⟩ := fa.at i v hv
  refine wpAny_assign_Tuple hh ⟨_, (N₂ _ hT).1, rfl, nT, rfl⟩ rfl rfl fun ha ea => ?_
  have hna : ha.Ns C m₁ := hns.at' fun o e => ea _ _ (Nat.ne_of_lt (Heap.lt_size e)) e
  refine assignInOrder_cons (store_x hkind hx1 hna fun hb nb sb => ?_)
  refine assignInOrder_cons (store_x hkind hx2 nb fun hc nc sc => ?_)
  refine assignInOrder_cons (store_x hkind hx3 nc fun hd nd sd => ?_)
  refine assignInOrder_cons (store_x hkind hx4 nd fun he ne se => ?_)
  refine assignInOrder_cons (store_x hkind hx5 ne fun hf nf sf => ?_)
  refine assignInOrder_nil ?_
  have keep : ∀ b o, b ≠ C → s₂.heap.get? b = some o → hf.get? b = some o := fun b o hb e =>
    sf.extBut b o hb (se.extBut b o hb (sd.extBut b o hb (sc.extBut b o hb (sb.extBut b o hb (ea b o (Nat.ne_of_lt (Heap.lt_size e)) e)))))
  refine wpAny_tests_nil ⟨rfl, fun _ => ?_, fun q => by cases q⟩
  refine Tuple_ (spliced_more (read_x hkind hx3 nf (v := .int (fs.getD i noFly).goal t3) (by simp [d34, d35]) hd3 ?_))
  refine spliced_more (read_x hkind hx4 nf (v := .str (nameOf (fs.getD i noFly).goal) t4) (by simp [d45]) hd4 ?_)
  refine spliced_more (read_x hkind hx5 nf (v := .bytes (octOf (fs.getD i noFly).due) t5) (by simp) hd5 ?_)
  refine spliced_none (wpAny_newTuple ?_)
  have FL : L < hf.objs.size := by
    obtain ⟨oL, _, _, hL, _⟩ := F₂.ns
    exact Heap.lt_size (keep _ _ (Ne.symm hCL) hL)
  refine ⟨⟨hf.objs.size, t3, t4, t5, rfl, Nat.ne_of_gt FL, ?_, Heap.get?_push_size _ rfl⟩, hf.push _, _, _, rfl, nf.push _, fun b o hb e => Heap.get?_push_of_some _ (keep b o hb e)⟩
  exact Heap.get?_none_of_le (Nat.le_trans F₂.above (Nat.le_of_lt FL))
end

end
section
theorem off19 : True := by
  w_top off
  trivial
/-! ## what has arrived at the network -/
theorem tups_sub {news news' : List (Addr × Obj)} {vs : List Value} {fs : List Fly} (hs : ∀ p ∈ news, p ∈ news') (x : FliesAre news vs fs) : TupsAre news' (fun i => (fs.getD i noFly).arr) vs := (x.mono hs).tups
theorem filter_take_succ {p : Fly → Bool} {fs : List Fly} {n : Nat} (h : n < fs.length) : (fs.take (n + 1)).filter p = (fs.take n).filter p ++ (if p (fs.getD n noFly) = true then [fs.getD n noFly] else []) := by
  rw [List.take_succ_eq_append_getElem h, List.filter_append]
  have e : fs[n] = fs.getD n noFly := by simp [List.getD, List.getElem?_eq_getElem h]
  rw [e]
  congr 1
  generalize fs.getD n noFly = x
  by_cases hp : p x = true
  · rw [if_pos hp, List.filter_cons_of_pos hp, List.filter_nil]
  · rw [if_neg hp, List.filter_cons_of_neg hp, List.filter_nil]
theorem picked_filter {news : List (Addr × Obj)} {vs : List Value} {fs : List Fly} (dec : Int → Bool) (fa : FliesAre news vs fs) : ∀ {n : Nat} {ys : List Value}, n ≤ fs.length → Picked (fun i y => vs[i]? = some y) (fun i => dec (fs.getD i noFly).arr) n ys → FliesAre news ys ((fs.take n).filter fun f => dec f.arr)
  | 0, ys, _, x => by have e : ys = [] := x; subst e; exact trivial
  | n + 1, ys, hn, x => by
    unfold Picked at x
    rw [filter_take_succ (by omega)]
    split at x
    · rename_i hp
      rw [if_pos hp]
      obtain ⟨ys', y, e, a, b⟩ := x
      subst e
      exact (picked_filter dec fa (Nat.le_of_succ_le hn) a).append ⟨fa.at n y b, trivial⟩
    · rename_i hp
      rw [if_neg hp, List.append_nil]
      exact picked_filter dec fa (Nat.le_of_succ_le hn) x
theorem picked_all {news : List (Addr × Obj)} {vs : List Value} {fs : List Fly} (dec : Int → Bool) (fa : FliesAre news vs fs) {ys : List Value} (x : Picked (fun i y => vs[i]? = some y) (fun i => dec (fs.getD i noFly).arr) vs.length ys) : FliesAre news ys (fs.filter fun f => dec f.arr) := by
  have h := picked_filter dec fa (n := vs.length) (Nat.le_of_eq fa.length) x
  rw [fa.length, List.take_length] at h
  exact h
theorem picked_le {news : List (Addr × Obj)} {vs : List Value} {fs : List Fly} {b : Int} (fa : FliesAre news vs fs) {ys : List Value} (x : Picked (fun i y => vs[i]? = some y) (fun i => decide ((fs.getD i noFly).arr ≤ b)) vs.length ys) : FliesAre news ys (fs.filter fun f => decide (f.arr ≤ b)) := picked_all (fun a => decide (a ≤ b)) fa x
theorem picked_gt {news : List (Addr × Obj)} {vs : List Value} {fs : List Fly} {b : Int} (fa : FliesAre news vs fs) {ys : List Value} (x : Picked (fun i y => vs[i]? = some y) (fun i => decide (b < (fs.getD i noFly).arr)) vs.length ys) : FliesAre news ys (fs.filter fun f => decide (b < f.arr)) := picked_all (fun a => decide (b < a)) fa x
theorem news_own {h₀ h : Heap} {L : Addr} {x : Addr × Obj} {own tl : List (Addr × Obj)} (O : News h₀ L h own) (N : News h₀ L h (x :: tl)) : News h₀ L h (x :: (own ++ tl)) := fun p hp => by
  rcases List.mem_cons.mp hp with rfl | hp
  · exact N _ (.head _)
  · rcases List.mem_append.mp hp with hp | hp
    · exact O p hp
    · exact N p (.tail _ hp)
theorem picked_tups0 {h₀ h : Heap} {L : Addr} {news : List (Addr × Obj)} {vs ys : List Value} {fs : List Fly} (fa : FliesAre news vs fs) (x : Picked (Tup3R h₀ L fs h) (fun _ => true) vs.length ys) : ∃ own, News h₀ L h own ∧ (∀ p ∈ own, ∃ xs n, p.2 = tupOf xs n) ∧ ArrsAre own ys fs := by
  obtain ⟨own, a, b, c⟩ := picked_tups fs (Nat.le_of_eq fa.length) x
  rw [fa.length, List.take_length] at c
  exact ⟨own, a, b, c⟩
theorem Sub.get {α : Type} {a b : List α} {p : α} (h : ∀ p ∈ a, p ∈ b) (hp : p ∈ a) : p ∈ b := h p hp
theorem arr_perm {h₀ h : Heap} {L : Addr} {a b c d e f : Addr × Obj} {own tl : List (Addr × Obj)} (N : News h₀ L h (a :: (own ++ b :: c :: d :: e :: f :: tl))) : News h₀ L h (f :: b :: a :: (own ++ tl)) := fun p hp => N p (by
  simp only [List.mem_cons, List.mem_append] at hp ⊢
  rcases hp with e | e | e | e | e <;> simp [e])
section
local macro_rules | `(tactic| walk_at "eval ListComp") => `(tactic| kf1_some)
local macro_rules | `(tactic| kbo_open) => `(tactic| exact fun p hp => by repeat (first | exact hp | (refine' Sub.get ?q hp; (case q => with_reducible assumption)) | refine List.mem_cons_of_mem _ ?_))
local macro_rules | `(tactic| kcp_comp) => `(tactic| (
  (case N => k_asm)
  (case ht => (refine' tups_sub ?s ?f; (case f => with_reducible assumption); (case s => kbo_open)))
  (case hm => k_mem)
  kpc_text
  (case hsz => exact Nat.le_trans (by assumption) (Nat.le_of_ble_eq_true rfl))
  (case rd => exact fun C s' E' Q N hq => lcf_cell N rfl (by k_mem) (by assumption) hq rfl rfl)))
local macro_rules | `(tactic| walk_at "SrcG") => `(tactic| (k_here; k_dflt (first
  | ((with_reducible show SrcG _ _ _ _ _ _ _ _ _ [Expr.Compare _ [CmpOp.LtE] _ _] _ _ _ _ _)
     refine' src_filter ?arr ?b ?tb (fun a b => decide (a ≤ b)) ?hh ?F ?N ?hm ?ht ?hx ?hkind ?hd ?hsz ?hop ?rd ?_
     (case hop => exact fun a t s' E' Q hq => le_int hq)
     kcp_comp)
  | ((with_reducible show SrcG _ _ _ _ _ _ _ _ _ [Expr.Compare _ [CmpOp.Gt] _ _] _ _ _ _ _)
     refine' src_filter ?arr ?b ?tb (fun a b => decide (b < a)) ?hh ?F ?N ?hm ?ht ?hx ?hkind ?hd ?hsz ?hop ?rd ?_
     (case hop => exact fun a t s' E' Q hq => gt_int hq)
     kcp_comp)
  | ((with_reducible show SrcG _ _ _ _ _ _ _ (Expr.Tuple _ _ _) _ _ _ _ _ _ _)
     refine' src_tup3 ?hh ?F ?N ?hm ?fa ?x1 ?x2 ?x3 ?x4 ?x5 ?d34 ?d35 ?d45 ?hkind ?hd3 ?hd4 ?hd5 ?hsz ?_
     (case N => k_asm)
     (case hm => k_mem)
     (case fa => (refine' FliesAre.mono ?s ?f; (case f => with_reducible assumption); (case s => kbo_open)))
     (case F => k_asm)
     (all_goals try exact rfl)
     (case d34 => decide)
     (case d35 => decide)
     (case d45 => decide)
     (case hsz => exact Nat.le_trans (by omega) (Nat.le_of_ble_eq_true rfl : 100 ≤ sizeLine))))))
local macro_rules | `(tactic| walk_at "FinEG") => `(tactic| ((unfold FinEG); intro D' h' tk' ys' F' N' o1' P'; (first | (have fl' := picked_le (by with_reducible assumption) P') | (have fl' := picked_gt (by with_reducible assumption) P') | (obtain ⟨own', oN', oT', oA'⟩ := picked_tups0 (by with_reducible assumption) P'; (replace N' := news_own oN' N')) | skip); (have pl' := Picked.length P')))
local macro_rules | `(tactic| walk_at "call builtin:sorted") => `(tactic| (k_here; (with_reducible show wpAny _ _ (call (Value.builtin "sorted") [Value.ref _]) _ _ _); k_dflt (
  refine' sorted_any ?F ?N ?m ?fa ?io ?b ?_
  (case F => k_asm)
  (case N => k_asm)
  (case m => k_mem)
  (case fa => (refine' FliesAre.mono ?s ?f; (case f => with_reducible assumption); (case s => kbo_open)))
  (case io => exact List.Pairwise.filter _ (by with_reducible assumption))
  (case b => omega)
  k_whole; intro D' c' h' F' N' o')))
set_option maxHeartbeats 8000000 in
theorem arrived_call : ∀ {w : World} {s : Shared} {L : Addr} {env : Env} {outer : List Env} {d u : Nat} {g : Option (List Code)} {A₀ : Around} {h₀ base : Heap} {m mg mb : Str → Option Value} {p : Program} {loose : List Str} {mean : ExcName → Option Value} {tl tf : List (Addr × Obj)}
   {NW dN wl fl ch : Addr} {esN : List DictEntry} {nN cw : Nat} {ws : List Value} {fs : List Fly} {n now : Int} {t : Tok} {Q : Value → Shared → Prop} {E : Value → Shared → Prop}
   (_B : Below A₀ base outer h₀) (_F : Fr h₀ L s.heap m) (_X : (headK w.params).In h₀) (_T : Top p loose mean mg mb h₀) (_N : News h₀ L s.heap ((dN, dictOf esN nN) :: tl)) (_off : ∀ p ∈ tl, p.1 ≠ dN)
   (_mN : (NW, instObj 84 dN) ∈ tl) (_gN : NetEs esN ch wl fl n) (_mw : (wl, listOf ws.toArray cw) ∈ tl) (_fa : FliesAre tf ws fs) (_hs : ∀ p ∈ tf, p ∈ tl) (_io : InOrder fs) (_lw : ws.length ≤ 60)
   (_hf : env.frame = some L) (_hk : env.scope.kind = .function) (_hd : d < 800)
   (_k : ∀ R nR rs wl' ws' cw' esN' nN' own h' tk, Fr h₀ L h' m → News h₀ L h' ((dN, dictOf esN' nN') :: (wl', listOf (List.toArray ws') cw') :: (R, listOf (List.toArray rs) nR) :: (own ++ tl)) → NetEs esN' ch wl' fl n →
      FliesAre tf ws' (fs.filter fun f => decide (now < f.arr)) → ArrsAre own rs (fs.filter fun f => decide (f.arr ≤ now)) → (∀ p ∈ own, ∃ xs n, p.2 = tupOf xs n) → (∀ q ∈ (dN, dictOf esN nN) :: tl, q.1 ≠ wl') → (∀ q ∈ (dN, dictOf esN nN) :: tl, q.1 ≠ R) → wl' ≠ R → Q (.ref R) { s with heap := h', toks := tk }),
   wpAny (model PySem.Challenge.rw_rg0253_01.row.prog w) (mkA env outer d g u) (call (.ref 81) [.ref NW, .int now t]) Q E s := by
  k_fill
  intro w s L env outer d u g A₀ h₀ base m mg mb p loose mean tl tf NW dN wl fl ch esN nN cw ws fs n now t Q E B F X T N off mN gN mw fa hs io lw hf hk hd k
  refine NetEs.elim gN fun t1 t2 t3 t4 le g1 g2 g3 g4 g5 g6 g7 g8 g9 g10 g11 g12 => ?_; clear gN
  k_steps
  rename (Fr h₀ L _ m) => F9
  rename (News h₀ L _ _) => N9
  rename (FliesAre tf _ (List.filter (fun f => decide (now < f.arr)) fs)) => f1
  rename (ArrsAre _ _ _) => f2
  refine' k _ _ _ _ _ _ _ _ _ _ _ F9 (arr_perm N9) ?es f1 f2 ?o ?a ?b ?c
  case es => exact ⟨by omega, by with_reducible assumption, ⟨_, by with_reducible assumption⟩, ⟨_, by with_reducible assumption⟩, ⟨_, by with_reducible assumption⟩, ⟨_, by with_reducible assumption⟩, by with_reducible assumption, by with_reducible assumption, by with_reducible assumption, by with_reducible assumption, by with_reducible assumption, by with_reducible assumption, by with_reducible assumption⟩
  case o => assumption
  case a => k_all
  case b => exact List.forall_mem_cons.mpr ⟨by k_ne, by k_all⟩
  case c => k_ne
end

end
section
theorem off20 : True := by
  w_top off
  trivial
/-! ## a host's on_time, a host's receive -/
theorem rc_perm {h₀ h : Heap} {L : Addr} {a b c : Addr × Obj} {tl : List (Addr × Obj)} (N : News h₀ L h (a :: b :: c :: tl)) : News h₀ L h (c :: a :: tl) := fun p hp => N p (perm_sub (A := [c, a]) (B := [a, b, c]) [2, 0] rfl p hp)
section
local macro_rules | `(tactic| walk_at "call builtin:list.pop") => `(tactic| kmj_call)
set_option maxHeartbeats 8000000 in
theorem ontime_call : ∀ {w : World} {s : Shared} {L : Addr} {env : Env} {outer : List Env} {d u : Nat} {g : Option (List Code)} {A₀ : Around} {h₀ base : Heap} {m mg mb : Str → Option Value} {p : Program} {loose : List Str} {mean : ExcName → Option Value} {tl : List (Addr × Obj)}
   {f b dq l c cb : Addr} {ob obc : Obj} {nl nq : Nat} {ls vs : List Value} {n0 : Int} {t0 : Tok} {v : Value} {Q : Value → Shared → Prop} {E : Value → Shared → Prop}
   (_B : Below A₀ base outer h₀) (_C : CodeHd base 312 308) (_F : Fr h₀ L s.heap m) (_X : (headK w.params).In h₀) (_T : Top p loose mean mg mb h₀)
   (_N : News h₀ L s.heap ((l, listOf (Value.int n0 t0 :: ls).toArray nl) :: (dq, listOf vs.toArray nq) :: tl)) (_o1 : ∀ p ∈ tl, p.1 ≠ l) (_o2 : ∀ p ∈ tl, p.1 ≠ dq) (_n1 : l ≠ dq)
   (_lam : LamAt tl 2 [(Str.ofString "book", cb)] f) (_m1 : (cb, obc) ∈ tl) (_d1 : obc.data = .cell (some (.ref b))) (_m3 : (b, ob) ∈ tl) (_bk : BookIs w ob l dq c) (_l1 : ls.length ≤ 100) (_l2 : vs.length ≤ 100)
   (_hf : env.frame = some L) (_hk : env.scope.kind = .function) (_hd : d < 800) (_hu : u < 9000)
   (_k : ∀ v nl' nq' h' tk, Fr h₀ L h' m → News h₀ L h' ((l, listOf ls.toArray nl') :: (dq, listOf (vs ++ [Value.int n0 t0]).toArray nq') :: tl) → Q v { s with heap := h', toks := tk }),
   wpAny (model PySem.Challenge.rw_rg0253_01.row.prog w) (mkA env outer d g u) (call (.ref f) [v]) Q E s := by
  k_fill
  intro w s L env outer d u g A₀ h₀ base m mg mb p loose mean tl f b dq l c cb ob obc nl nq ls vs n0 t0 v Q E B C F X T N o1 o2 n1 lam m1 d1 m3 bk l1 l2 hf hk hd hu k
  obtain ⟨pm, c', ctv, hm0, oc, cvs, tq, hm, hd1, hd2⟩ := lam
  have hm' : (f, kla_obj _ _ _ _ _ _ _ _ _) ∈ tl := hm0
  clear hm0
  unfold BookIs at bk
  replace N := news_dup N (List.mem_cons_of_mem _ (List.mem_cons_of_mem _ m3))
  have e1 := o1 _ m3
  have e2 := o2 _ m3
  k_steps
  rename (Fr h₀ L _ m) => F9
  rename (News h₀ L _ _) => N9
  simp only [List.push_toArray] at N9
  exact k _ _ _ _ _ F9 (News.of_sub N9 fun p hp => .tail _ hp)
set_option maxHeartbeats 8000000 in
theorem receive_call : ∀ {w : World} {s : Shared} {L : Addr} {env : Env} {outer : List Env} {d u : Nat} {g : Option (List Code)} {A₀ : Around} {h₀ base : Heap} {m mg mb : Str → Option Value} {p : Program} {loose : List Str} {mean : ExcName → Option Value} {tl : List (Addr × Obj)}
   {f b dq l c cb : Addr} {ob obc : Obj} {nc : Nat} {cs : List Value} {now : Int} {t1 t2 t3 : Tok} {path : Str} {data : Array UInt8} {Q : Value → Shared → Prop} {E : Value → Shared → Prop}
   (_B : Below A₀ base outer h₀) (_C : CodeHd base 312 308) (_F : Fr h₀ L s.heap m) (_X : (headK w.params).In h₀) (_T : Top p loose mean mg mb h₀)
   (_N : News h₀ L s.heap ((c, listOf cs.toArray nc) :: tl)) (_o1 : ∀ p ∈ tl, p.1 ≠ c)
   (_lam : LamAt tl 4 [(Str.ofString "book", cb)] f) (_m1 : (cb, obc) ∈ tl) (_d1 : obc.data = .cell (some (.ref b))) (_m3 : (b, ob) ∈ tl) (_bk : BookIs w ob l dq c) (_l1 : cs.length ≤ 100)
   (_hf : env.frame = some L) (_hk : env.scope.kind = .function) (_hd : d < 800) (_hu : u < 9000)
   (_k : ∀ v T nT t1 nc' h' tk, Fr h₀ L h' m → News h₀ L h' ((c, listOf (cs ++ [Value.ref T]).toArray nc') :: (T, tupOf [.int now t1, .str path t2, .bytes data t3] nT) :: tl) → c ≠ T → (∀ q ∈ tl, q.1 ≠ T) → Q v { s with heap := h', toks := tk }),
   wpAny (model PySem.Challenge.rw_rg0253_01.row.prog w) (mkA env outer d g u) (call (.ref f) [.bytes data t3, .str path t2, .int now t1]) Q E s := by
  k_fill
  intro w s L env outer d u g A₀ h₀ base m mg mb p loose mean tl f b dq l c cb ob obc nc cs now t1 t2 t3 path data Q E B C F X T N o1 lam m1 d1 m3 bk l1 hf hk hd hu k
  obtain ⟨pm, c', ctv, hm0, oc, cvs, tq, hm, hd1, hd2⟩ := lam
  have hm' : (f, kla_obj _ _ _ _ _ _ _ _ _) ∈ tl := hm0
  clear hm0
  unfold BookIs at bk
  replace N := news_dup N (List.mem_cons_of_mem _ m3)
  have e1 := o1 _ m3
  k_steps
  rename (Fr h₀ L _ m) => F9
  rename (News h₀ L _ _) => N9
  simp only [List.push_toArray] at N9
  refine' k _ _ _ _ _ _ _ F9 (rc_perm N9) ?a ?b
  case a => k_ne
  case b => k_all
end

end
section
/-! ## the plain machine that both the program and the law run; how a ledger bears its state -/
structure Cam where
  tm : Int
  due : Int
structure D where
  now : Int
  steps : Int
  n : Int
  fs : List Fly
  due0 : Option Int
  due1 : Option Int
  ns0 : List Int
  ns1 : List Int
  cm0 : List Cam
  cm1 : List Cam
noncomputable def sendD (d : D) : D := { d with fs := d.fs ++ sentOf d.now d.n d.due0 d.due1, n := cntOf d.n d.due0 d.due1, due0 := none, due1 := none }
noncomputable def nextsD (d : D) : List Int := d.fs.map (·.arr) ++ d.ns0.head?.toList ++ d.ns1.head?.toList
noncomputable def camsOf (t g : Int) (fs : List Fly) : List Cam := fs.flatMap fun f => if f.goal = g then [⟨t, f.due⟩] else []
noncomputable def wakeDue (t : Int) : List Int → Option Int
  | [] => none
  | a :: _ => if a ≤ t then some a else none
noncomputable def wakeRest (t : Int) : List Int → List Int
  | [] => []
  | a :: r => if a ≤ t then r else a :: r
noncomputable def advT (x : Int) (d : D) : Int := max d.now x
noncomputable def advD (x : Int) (d : D) : D :=
  { now := advT x d, steps := d.steps + 1, n := d.n, fs := d.fs.filter fun f => decide (advT x d < f.arr), due0 := wakeDue (advT x d) d.ns0, due1 := wakeDue (advT x d) d.ns1, ns0 := wakeRest (advT x d) d.ns0, ns1 := wakeRest (advT x d) d.ns1,
    cm0 := d.cm0 ++ camsOf (advT x d) 0 (d.fs.filter fun f => decide (f.arr ≤ advT x d)), cm1 := d.cm1 ++ camsOf (advT x d) 1 (d.fs.filter fun f => decide (f.arr ≤ advT x d)) }
noncomputable def leastOf : List Int → Option Int
  | [] => none
  | a :: r => match leastOf r with
    | none => some a
    | some b => some (min a b)
theorem leastOf_is : ∀ ns : List Int, LeastIs ns (leastOf ns)
  | [] => rfl
  | a :: r => by
    have ih := leastOf_is r
    unfold leastOf
    cases e : leastOf r with
    | none =>
      rw [e] at ih
      have e2 : r = [] := ih
      subst e2
      exact ⟨.head _, fun b hb => by rw [List.mem_singleton.mp hb]; exact Int.le_refl _⟩
    | some b =>
      rw [e] at ih
      obtain ⟨h1, h2⟩ := ih
      refine ⟨?_, fun c hc => ?_⟩
      · show min a b ∈ a :: r
        by_cases h : a ≤ b
        · rw [show min a b = a by omega]; exact .head _
        · rw [show min a b = b by omega]; exact .tail _ h1
      · show min a b ≤ c
        rcases List.mem_cons.mp hc with rfl | hc
        · omega
        · have := h2 c hc; omega
theorem least_uniq {ns : List Int} {o o' : Option Int} (h : LeastIs ns o) (h' : LeastIs ns o') : o = o' := by
  cases o with
  | none =>
    cases o' with
    | none => rfl
    | some y =>
      have e : ns = [] := h
      subst e
      exact absurd h'.1 (by simp)
  | some x =>
    cases o' with
    | none =>
      have e : ns = [] := h'
      subst e
      exact absurd h.1 (by simp)
    | some y =>
      have := h.2 _ h'.1
      have := h'.2 _ h.1
      exact congrArg some (by omega)
noncomputable def stepD (d : D) : D × Bool := match leastOf (nextsD (sendD d)) with
  | none => (sendD d, false)
  | some x => (advD x (sendD d), true)
/-- what holds of the state behind k steps -/
structure OkD (k : Nat) (d : D) : Prop where
  io : InOrder d.fs
  fl : ∀ f ∈ d.fs, f.arr ≤ d.now + 10 ∧ f.cnt < d.n ∧ (f.goal = 0 ∨ f.goal = 1) ∧ 0 ≤ f.due ∧ f.due < 256
  lf : d.fs.length + d.cm0.length + d.cm1.length ≤ 2 * k
  d0 : ∀ x ∈ d.due0, 0 ≤ x ∧ x < 256
  d1 : ∀ x ∈ d.due1, 0 ≤ x ∧ x < 256
  n0 : ∀ x ∈ d.ns0, 0 ≤ x ∧ x < 256
  n1 : ∀ x ∈ d.ns1, 0 ≤ x ∧ x < 256
  m0 : d.ns0.length ≤ 4
  m1 : d.ns1.length ≤ 4
theorem wakeDue_mem {t : Int} {ns : List Int} {x : Int} (h : x ∈ wakeDue t ns) : x ∈ ns := by
  cases ns with
  | nil => simp [wakeDue] at h
  | cons a r =>
    by_cases ha : a ≤ t
    · simp only [wakeDue, if_pos ha, Option.mem_def, Option.some.injEq] at h
      subst h
      exact .head _
    · simp [wakeDue, if_neg ha] at h
theorem wakeRest_mem {t : Int} {ns : List Int} {x : Int} (h : x ∈ wakeRest t ns) : x ∈ ns := by
  cases ns with
  | nil => exact h
  | cons a r =>
    by_cases ha : a ≤ t
    · simp only [wakeRest, if_pos ha] at h
      exact .tail _ h
    · simp only [wakeRest, if_neg ha] at h
      exact h
theorem wakeRest_len {t : Int} {ns : List Int} : (wakeRest t ns).length ≤ ns.length := by
  cases ns with
  | nil => exact Nat.le_refl _
  | cons a r =>
    by_cases ha : a ≤ t
    · simp only [wakeRest, if_pos ha, List.length_cons]; omega
    · simp only [wakeRest, if_neg ha]; omega
theorem camsOf_len {t : Int} : ∀ fs : List Fly, (camsOf t 0 fs).length + (camsOf t 1 fs).length ≤ fs.length
  | [] => Nat.le_refl _
  | f :: fs => by
    have := camsOf_len (t := t) fs
    unfold camsOf at this ⊢
    rw [List.flatMap_cons, List.flatMap_cons, List.length_append, List.length_append]
    by_cases h0 : f.goal = 0
    · have h1 : ¬ f.goal = 1 := by omega
      simp only [if_pos h0, if_neg h1, List.length_cons, List.length_nil]
      omega
    · by_cases h1 : f.goal = 1
      · simp only [if_neg h0, if_pos h1, List.length_cons, List.length_nil]
        omega
      · simp only [if_neg h0, if_neg h1, List.length_cons, List.length_nil]
        omega
theorem sent_mem {now n : Int} {a b : Option Int} {f : Fly} (h : f ∈ sentOf now n a b) : f.arr = now + 10 ∧ n ≤ f.cnt ∧ f.cnt < cntOf n a b ∧ (f.goal = 0 ∨ f.goal = 1) ∧ (some f.due = a ∨ some f.due = b) := by
  cases a <;> cases b <;> simp only [sentOf, cntOf, List.mem_cons, List.not_mem_nil, or_false] at h ⊢
  · subst h; exact ⟨rfl, Int.le_refl _, Int.lt_succ _, .inl rfl, .inr rfl⟩
  · subst h; exact ⟨rfl, Int.le_refl _, Int.lt_succ _, .inr rfl, .inl rfl⟩
  · rcases h with rfl | rfl
    · exact ⟨rfl, Int.le_refl _, by show n < n + 1 + 1; omega, .inr rfl, .inl rfl⟩
    · exact ⟨rfl, by show n ≤ n + 1; omega, Int.lt_succ _, .inl rfl, .inr rfl⟩
theorem sent_len {now n : Int} {a b : Option Int} : (sentOf now n a b).length ≤ 2 := by cases a <;> cases b <;> simp [sentOf]
theorem cnt_le {n : Int} {a b : Option Int} : n ≤ cntOf n a b := by cases a <;> cases b <;> simp only [cntOf] <;> omega
theorem sent_order {now n : Int} {a b : Option Int} : InOrder (sentOf now n a b) := by
  cases a <;> cases b <;> simp only [sentOf]
  · exact .nil
  · exact List.pairwise_singleton _ _
  · exact List.pairwise_singleton _ _
  · refine .cons (fun f hf => ?_) (List.pairwise_singleton _ _)
    rw [List.mem_singleton.mp hf]
    exact .inr ⟨rfl, Int.lt_succ _⟩
/-- behind the sending -/
structure OkS (k : Nat) (d : D) : Prop where
  io : InOrder d.fs
  fl : ∀ f ∈ d.fs, f.arr ≤ d.now + 10 ∧ f.cnt < d.n ∧ (f.goal = 0 ∨ f.goal = 1) ∧ 0 ≤ f.due ∧ f.due < 256
  lf : d.fs.length + d.cm0.length + d.cm1.length ≤ 2 * k + 2
theorem OkD.send {k : Nat} {d : D} (h : OkD k d) : OkS k (sendD d) := by
  refine ⟨?_, ?_, ?_⟩
  · refine List.pairwise_append.mpr ⟨h.io, sent_order, fun f hf g hg => ?_⟩
    obtain ⟨a1, a2, _⟩ := h.fl f hf
    obtain ⟨b1, b2, _⟩ := sent_mem hg
    unfold flyLt
    omega
  · intro f hf
    rcases List.mem_append.mp hf with hf | hf
    · obtain ⟨a1, a2, a3⟩ := h.fl f hf
      exact ⟨a1, Int.lt_of_lt_of_le a2 cnt_le, a3⟩
    · obtain ⟨b1, b2, b3, b4, b5⟩ := sent_mem hf
      refine ⟨Int.le_of_eq b1, b3, b4, ?_⟩
      rcases b5 with e | e
      · exact h.d0 _ e.symm
      · exact h.d1 _ e.symm
  · have := h.lf
    have := sent_len (now := d.now) (n := d.n) (a := d.due0) (b := d.due1)
    show (d.fs ++ _).length + d.cm0.length + d.cm1.length ≤ _
    rw [List.length_append]
    omega
theorem filter_split {t : Int} : ∀ fs : List Fly, (fs.filter fun f => decide (t < f.arr)).length + (fs.filter fun f => decide (f.arr ≤ t)).length = fs.length
  | [] => rfl
  | f :: fs => by
    have := filter_split (t := t) fs
    by_cases h : t < f.arr
    · have h2 : ¬ f.arr ≤ t := by omega
      rw [List.filter_cons_of_pos (by simpa using h), List.filter_cons_of_neg (by simpa using h2)]
      simp only [List.length_cons]; omega
    · have h2 : f.arr ≤ t := by omega
      rw [List.filter_cons_of_neg (by simpa using h), List.filter_cons_of_pos (by simpa using h2)]
      simp only [List.length_cons]; omega
theorem OkS.adv {k : Nat} {d : D} {x : Int} (h : OkS k (sendD d)) (h0 : OkD k d) : OkD (k + 1) (advD x (sendD d)) := by
  have hs := filter_split (t := advT x (sendD d)) (sendD d).fs
  have hc := camsOf_len (t := advT x (sendD d)) ((sendD d).fs.filter fun f => decide (f.arr ≤ advT x (sendD d)))
  have hl := h.lf
  refine ⟨List.Pairwise.filter _ h.io, fun f hf => ?_, ?_, fun y hy => h0.n0 y (wakeDue_mem hy), fun y hy => h0.n1 y (wakeDue_mem hy), fun y hy => h0.n0 y (wakeRest_mem hy), fun y hy => h0.n1 y (wakeRest_mem hy), Nat.le_trans wakeRest_len h0.m0, Nat.le_trans wakeRest_len h0.m1⟩
  · obtain ⟨a1, a2⟩ := h.fl f (List.mem_filter.mp hf).1
    refine ⟨?_, a2⟩
    show f.arr ≤ max (sendD d).now x + 10
    omega
  · simp only [advD, List.length_append]
    omega
theorem stepD_ok {k : Nat} {d : D} (h : OkD k d) (e : (stepD d).2 = true) : OkD (k + 1) (stepD d).1 := by
  unfold stepD at e ⊢
  split
  · rename_i q; rw [q] at e; cases e
  · exact h.send.adv h
/-- the run: up to that many steps, or to the first that says no -/
noncomputable def runD : Nat → D → Nat × D
  | 0, d => (0, d)
  | k + 1, d => if (stepD d).2 = true then ((runD k (stepD d).1).1 + 1, (runD k (stepD d).1).2) else (0, (stepD d).1)

end
section
/-! ## the world's ledger by its state; each call's contract over any ledger in front -/
noncomputable def CamIs (news : List (Addr × Obj)) (nm : Str) (v : Value) (c : Cam) : Prop := ∃ T t1 t2 t3 nT, v = .ref T ∧ (T, tupOf [.int c.tm t1, .str nm t2, .bytes (octOf c.due) t3] nT) ∈ news
noncomputable def CamsAre (news : List (Addr × Obj)) (nm : Str) : List Value → List Cam → Prop
  | [], [] => True
  | v :: vs, c :: cs => CamIs news nm v c ∧ CamsAre news nm vs cs
  | _, _ => False
theorem CamIs.mono {news news' : List (Addr × Obj)} (hs : ∀ p ∈ news, p ∈ news') {nm : Str} {v : Value} {c : Cam} (h : CamIs news nm v c) : CamIs news' nm v c :=
  let ⟨T, t1, t2, t3, nT, e, hm⟩ := h; ⟨T, t1, t2, t3, nT, e, hs _ hm⟩
theorem CamsAre.mono {news news' : List (Addr × Obj)} (hs : ∀ p ∈ news, p ∈ news') {nm : Str} : ∀ {vs : List Value} {cs : List Cam}, CamsAre news nm vs cs → CamsAre news' nm vs cs
  | [], [], _ => trivial
  | _ :: _, _ :: _, h => ⟨h.1.mono hs, h.2.mono hs⟩
theorem CamsAre.append {news : List (Addr × Obj)} {nm : Str} : ∀ {vs ws : List Value} {cs ds : List Cam}, CamsAre news nm vs cs → CamsAre news nm ws ds → CamsAre news nm (vs ++ ws) (cs ++ ds)
  | [], _, [], _, _, k => k
  | _ :: _, _, _ :: _, _, h, k => ⟨h.1, h.2.append k⟩
theorem CamsAre.length {news : List (Addr × Obj)} {nm : Str} : ∀ {vs : List Value} {cs : List Cam}, CamsAre news nm vs cs → vs.length = cs.length
  | [], [], _ => rfl
  | _ :: _, _ :: _, h => congrArg (· + 1) h.2.length
structure WAd where
  (W dW NW dN fl ch hl h0 h1 b0 b1 l0 l1 c0 c1 : Addr)
  nC : Nat
  nH : Nat
structure Stat (A : WAd) (tl : List (Addr × Obj)) : Prop where
  mW : (A.W, instObj 143 A.dW) ∈ tl
  mN : (A.NW, instObj 84 A.dN) ∈ tl
  mC : (A.ch, listOf #[] A.nC) ∈ tl
  mH : (A.hl, listOf #[.ref A.h0, .ref A.h1] A.nH) ∈ tl
  H0 : HostAt tl A.h0 A.b0 (Str.ofString "client")
  H1 : HostAt tl A.h1 A.b1 (Str.ofString "server")
  nNC : A.NW ≠ A.ch
theorem Stat.mono {A : WAd} {tl tl' : List (Addr × Obj)} (hs : ∀ p ∈ tl, p ∈ tl') (h : Stat A tl) : Stat A tl' := ⟨hs _ h.mW, hs _ h.mN, hs _ h.mC, hs _ h.mH, h.H0.mono hs, h.H1.mono hs, h.nNC⟩
structure WV where
  (esN : List DictEntry)
  (wl q0 q1 : Addr)
  (ws fvs ls0 ls1 cs0 cs1 vs0 vs1 : List Value)
  (nN cw cf nl0 nl1 nc0 nc1 nq0 nq1 : Nat)
  (ob0 ob1 : Obj)
noncomputable def WV.slots (A : WAd) (v : WV) : List Addr := [v.q0, v.q1, v.wl, A.dN, A.fl, A.b0, A.b1, A.l0, A.l1, A.c0, A.c1]
noncomputable def WV.led (A : WAd) (v : WV) (tl : List (Addr × Obj)) : List (Addr × Obj) :=
  (v.q0, listOf (List.toArray v.vs0) v.nq0) :: (v.q1, listOf (List.toArray v.vs1) v.nq1) :: (v.wl, listOf (List.toArray v.ws) v.cw) :: (A.dN, dictOf v.esN v.nN) :: (A.fl, listOf (List.toArray v.fvs) v.cf) :: (A.b0, v.ob0) :: (A.b1, v.ob1) ::
  (A.l0, listOf (List.toArray v.ls0) v.nl0) :: (A.l1, listOf (List.toArray v.ls1) v.nl1) :: (A.c0, listOf (List.toArray v.cs0) v.nc0) :: (A.c1, listOf (List.toArray v.cs1) v.nc1) :: tl
noncomputable def WV.own (A : WAd) (v : WV) : List (Addr × Obj) :=
  [(v.q0, listOf (List.toArray v.vs0) v.nq0), (v.q1, listOf (List.toArray v.vs1) v.nq1), (v.wl, listOf (List.toArray v.ws) v.cw), (A.dN, dictOf v.esN v.nN), (A.fl, listOf (List.toArray v.fvs) v.cf), (A.b0, v.ob0), (A.b1, v.ob1),
  (A.l0, listOf (List.toArray v.ls0) v.nl0), (A.l1, listOf (List.toArray v.ls1) v.nl1), (A.c0, listOf (List.toArray v.cs0) v.nc0), (A.c1, listOf (List.toArray v.cs1) v.nc1)]
structure WR (w : World) (A : WAd) (v : WV) (d : D) (k : Nat) (tl : List (Addr × Obj)) : Prop where
  gN : NetEs v.esN A.ch v.wl A.fl d.n
  bk0 : BookIs w v.ob0 A.l0 v.q0 A.c0
  bk1 : BookIs w v.ob1 A.l1 v.q1 A.c1
  du0 : DueIs v.vs0 d.due0
  du1 : DueIs v.vs1 d.due1
  fa : FliesAre tl v.ws d.fs
  i0 : IntsAre v.ls0 d.ns0
  i1 : IntsAre v.ls1 d.ns1
  ca0 : CamsAre tl (Str.ofString "server") v.cs0 d.cm0
  ca1 : CamsAre tl (Str.ofString "client") v.cs1 d.cm1
  lf : v.fvs.length ≤ k
  nd : (v.slots A).Nodup
  off : ∀ a ∈ v.slots A, ∀ p ∈ tl, p.1 ≠ a
theorem led_tl {A : WAd} {v : WV} {tl : List (Addr × Obj)} {p : Addr × Obj} (h : p ∈ tl) : p ∈ v.led A tl := by
  simp only [WV.led, List.mem_cons]; simp [h]
theorem led_q0 {A : WAd} {v : WV} {tl : List (Addr × Obj)} : (v.q0, listOf (List.toArray v.vs0) v.nq0) ∈ v.led A tl := .head _
theorem led_q1 {A : WAd} {v : WV} {tl : List (Addr × Obj)} : (v.q1, listOf (List.toArray v.vs1) v.nq1) ∈ v.led A tl := .tail _ (.head _)
theorem led_wl {A : WAd} {v : WV} {tl : List (Addr × Obj)} : (v.wl, listOf (List.toArray v.ws) v.cw) ∈ v.led A tl := .tail _ (.tail _ (.head _))
theorem led_dN {A : WAd} {v : WV} {tl : List (Addr × Obj)} : (A.dN, dictOf v.esN v.nN) ∈ v.led A tl := .tail _ (.tail _ (.tail _ (.head _)))
theorem led_fl {A : WAd} {v : WV} {tl : List (Addr × Obj)} : (A.fl, listOf (List.toArray v.fvs) v.cf) ∈ v.led A tl := .tail _ (.tail _ (.tail _ (.tail _ (.head _))))
theorem led_b0 {A : WAd} {v : WV} {tl : List (Addr × Obj)} : (A.b0, v.ob0) ∈ v.led A tl := .tail _ (.tail _ (.tail _ (.tail _ (.tail _ (.head _)))))
theorem led_b1 {A : WAd} {v : WV} {tl : List (Addr × Obj)} : (A.b1, v.ob1) ∈ v.led A tl := .tail _ (.tail _ (.tail _ (.tail _ (.tail _ (.tail _ (.head _))))))
theorem led_l0 {A : WAd} {v : WV} {tl : List (Addr × Obj)} : (A.l0, listOf (List.toArray v.ls0) v.nl0) ∈ v.led A tl := .tail _ (.tail _ (.tail _ (.tail _ (.tail _ (.tail _ (.tail _ (.head _)))))))
theorem led_l1 {A : WAd} {v : WV} {tl : List (Addr × Obj)} : (A.l1, listOf (List.toArray v.ls1) v.nl1) ∈ v.led A tl := .tail _ (.tail _ (.tail _ (.tail _ (.tail _ (.tail _ (.tail _ (.tail _ (.head _))))))))
theorem led_c0 {A : WAd} {v : WV} {tl : List (Addr × Obj)} : (A.c0, listOf (List.toArray v.cs0) v.nc0) ∈ v.led A tl := .tail _ (.tail _ (.tail _ (.tail _ (.tail _ (.tail _ (.tail _ (.tail _ (.tail _ (.head _)))))))))
theorem led_c1 {A : WAd} {v : WV} {tl : List (Addr × Obj)} : (A.c1, listOf (List.toArray v.cs1) v.nc1) ∈ v.led A tl := .tail _ (.tail _ (.tail _ (.tail _ (.tail _ (.tail _ (.tail _ (.tail _ (.tail _ (.tail _ (.head _))))))))))
theorem led_cases {A : WAd} {v : WV} {tl : List (Addr × Obj)} {p : Addr × Obj} (h : p ∈ v.led A tl) : p.1 ∈ v.slots A ∨ p ∈ tl := by
  rcases List.mem_append.mp (show p ∈ v.own A ++ tl from h) with h | h
  · exact .inl (List.mem_map.mpr ⟨p, h, rfl⟩ : p.1 ∈ (v.own A).map (·.1))
  · exact .inr h
/-- what stands in front lies off the world's -/
noncomputable def Front (pre R : List (Addr × Obj)) : Prop := ∀ p ∈ pre, ∀ q ∈ R, q.1 ≠ p.1
theorem Front.slot {A : WAd} {v : WV} {pre tl : List (Addr × Obj)} (h : Front pre (v.led A tl)) {a : Addr} (ha : a ∈ v.slots A) : ∀ p ∈ pre, p.1 ≠ a := fun p hp => by
  obtain ⟨q, hq, rfl⟩ := List.mem_map.mp (show a ∈ (v.own A).map (·.1) from ha)
  exact Ne.symm (h p hp q (List.mem_append.mpr (.inl hq) : q ∈ v.own A ++ tl))
theorem Front.of {A : WAd} {v : WV} {pre tl : List (Addr × Obj)} (h1 : ∀ p ∈ pre, p.1 ∉ v.slots A) (h2 : ∀ p ∈ pre, ∀ q ∈ tl, q.1 ≠ p.1) : Front pre (v.led A tl) := fun p hp q hq => by
  rcases led_cases hq with h | h
  · exact fun e => h1 p hp (e ▸ h)
  · exact h2 p hp q h
theorem Front.tl {A : WAd} {v : WV} {pre tl : List (Addr × Obj)} (h : Front pre (v.led A tl)) : ∀ p ∈ pre, ∀ q ∈ tl, q.1 ≠ p.1 := fun p hp q hq => h p hp q (led_tl hq)
/-- the places S of a row lie off all that the rest, the front and the tail hold -/
theorem off_ins {S : List Addr} {pre rest B tl : List (Addr × Obj)} {I J : List Nat} (hd : (I ++ J).Nodup) (e1 : Plc I S (B.map (·.1))) (e2 : Plc J rest B) (nd : (B.map (·.1)).Nodup)
   (off : ∀ a ∈ B.map (·.1), ∀ p ∈ tl, p.1 ≠ a) (fr : Front pre (B ++ tl)) : ∀ a ∈ S, ∀ p ∈ pre ++ (rest ++ tl), p.1 ≠ a := fun a ha p hp => by
  rcases List.mem_append.mp hp with h | h
  · obtain ⟨q, hq, e⟩ := List.mem_map.mp (e1.sub a ha)
    exact e ▸ Ne.symm (fr p h q (List.mem_append.mpr (.inl hq)))
  · rcases List.mem_append.mp h with h | h
    · have h1 := Plc.nodup nd (e1.app (e2.map (·.1))) hd
      exact Ne.symm ((List.nodup_append.mp h1).2.2 a ha p.1 (List.mem_map.mpr ⟨p, h, rfl⟩))
    · exact off a (e1.sub a ha) p h
theorem new_off {X pre rest tl : List (Addr × Obj)} {n : Addr} (h : ∀ q ∈ X ++ (pre ++ (rest ++ tl)), q.1 ≠ n) : ∀ a ∈ (X ++ rest).map (·.1), a ≠ n := fun a ha => by
  obtain ⟨q, hq, rfl⟩ := List.mem_map.mp ha
  rcases List.mem_append.mp hq with hq | hq
  · exact h q (List.mem_append.mpr (.inl hq))
  · exact h q (List.mem_append.mpr (.inr (List.mem_append.mpr (.inr (List.mem_append.mpr (.inl hq))))))
theorem Front.off {A : WAd} {v : WV} {pre tl : List (Addr × Obj)} (h : Front pre (v.led A tl)) : ∀ p ∈ pre, ∀ a ∈ v.slots A, p.1 ≠ a := fun p hp a ha => h.slot ha p hp
theorem off_app {own : List (Addr × Obj)} {N O : List Addr} (h1 : ∀ a ∈ N, ∀ p ∈ own, p.1 ≠ a) (h2 : ∀ a ∈ O, ∀ p ∈ own, p.1 ≠ a) : ∀ a ∈ N ++ O, ∀ p ∈ own, p.1 ≠ a := fun a ha p hp => by
  rcases List.mem_append.mp ha with h | h
  · exact h1 a h p hp
  · exact h2 a h p hp
theorem off_two {own tl : List (Addr × Obj)} {S : List Addr} (h1 : ∀ a ∈ S, ∀ p ∈ own, p.1 ≠ a) (h2 : ∀ a ∈ S, ∀ p ∈ tl, p.1 ≠ a) : ∀ a ∈ S, ∀ p ∈ own ++ tl, p.1 ≠ a := fun a ha p hp => by
  rcases List.mem_append.mp hp with h | h
  · exact h1 a ha p h
  · exact h2 a ha p h
section
variable {w : World} {s : Shared} {L : Addr} {env : Env} {outer : List Env} {dp u : Nat} {g : Option (List Code)} {A₀ : Around} {h₀ base : Heap} {m mg mb : Str → Option Value} {p : Program} {loose : List Str} {mean : ExcName → Option Value} {pre tl : List (Addr × Obj)}
   {A : WAd} {v : WV} {d : D} {k : Nat} {esW : List DictEntry} {nW : Nat} {Q : Value → Shared → Prop} {E : Value → Shared → Prop}
set_option maxHeartbeats 2000000 in
theorem sendallR (B : Below A₀ base outer h₀) (C : Hid (CodeHd base 312 308)) (F : Fr h₀ L s.heap m) (X : (headK w.params).In h₀) (T : Top p loose mean mg mb h₀)
   (N : News h₀ L s.heap (pre ++ v.led A tl)) (fr : Front pre (v.led A tl)) (R : WR w A v d k tl) (st : Stat A tl) (mdW : (A.dW, dictOf esW nW) ∈ pre) (gW : WorldEs esW A.hl A.NW d.now d.steps)
   (lw : d.fs.length ≤ 98) (lf : k ≤ 98)
   (hf : env.frame = some L) (hk : env.scope.kind = .function) (hd : dp < 700)
   (K : ∀ v' tl' r h' tk, (∀ p ∈ tl, p ∈ tl') → Fr h₀ L h' m → News h₀ L h' (pre ++ v'.led A tl') → Front pre (v'.led A tl') → WR w A v' (sendD d) (k + 2) tl' → Q r { s with heap := h', toks := tk }) :
   wpAny (model PySem.Challenge.rw_rg0253_01.row.prog w) (mkA env outer dp g u) (call (.ref 121) [.ref A.W]) Q E s := by
  refine sendall_call (tl := pre ++ ([(v.q0, listOf (List.toArray v.vs0) v.nq0), (v.q1, listOf (List.toArray v.vs1) v.nq1), (A.l0, listOf (List.toArray v.ls0) v.nl0), (A.l1, listOf (List.toArray v.ls1) v.nl1), (A.c0, listOf (List.toArray v.cs0) v.nc0), (A.c1, listOf (List.toArray v.cs1) v.nc1)] ++ tl))
    (nN := v.nN) (cw := v.cw) (cf := v.cf) B C F X T (News.of_sub N (Plc.inn (X := [(A.dN, dictOf v.esN v.nN), (v.wl, listOf (List.toArray v.ws) v.cw), (A.fl, listOf (List.toArray v.fvs) v.cf), (A.b0, v.ob0), (A.b1, v.ob1)]) (B := v.own A) (I := [3, 2, 4, 5, 6]) (J := [0, 1, 7, 8, 9, 10]) rfl rfl)) (sub_end _ st.mW) (List.mem_append.mpr (.inl mdW)) gW (sub_end _ st.mN) R.gN (sub_end _ st.mC) (sub_end _ st.mH) (st.H0.mono sub_end) (st.H1.mono sub_end) R.bk0 R.bk1 (mem_mid 0 rfl) (mem_mid 1 rfl) R.du0 R.du1 (Plc.nodup (I := [3, 2, 4, 5, 6]) R.nd rfl (by decide)) (off_ins (B := v.own A) (I := [3, 2, 4, 5, 6]) (J := [0, 1, 7, 8, 9, 10]) (by decide) rfl rfl R.nd R.off fr) st.nNC (by rw [R.fa.length]; exact lw) (Nat.le_trans R.lf lf) hf hk hd ?_
  intro esN' nN' cw' cf' ws' vs' fs' q0' q1' ob0' ob1' own r h' tk F' N' ew ef gN' bk0' bk1' fa' frs
  obtain ⟨f1, f2, f3, f4⟩ := frs
  have g : ∀ a ∈ [q0', q1'], ∀ b ∈ [v.q0, v.q1, A.l0, A.l1, A.c0, A.c1], b ≠ a := fun a ha => new_off (X := []) (f2 a ha)
  refine K { v with esN := esN', nN := nN', ws := ws', cw := cw', fvs := fs', cf := cf', ob0 := ob0', ob1 := ob1', q0 := q0', q1 := q1', vs0 := [], vs1 := [], nq0 := 0, nq1 := 0 } (own ++ tl) r h' tk (fun p hp => List.mem_append.mpr (.inr hp)) F'
    (News.of_sub N' (Plc.out (I := [5, 6, 1, 0, 2, 3, 4, 9, 10, 11, 12]) (Y := WV.own A { v with esN := esN', nN := nN', ws := ws', cw := cw', fvs := fs', cf := cf', ob0 := ob0', ob1 := ob1', q0 := q0', q1 := q1', vs0 := [], vs1 := [], nq0 := 0, nq1 := 0 })
      (X := [(A.dN, dictOf esN' nN'), (v.wl, listOf (List.toArray ws') cw'), (A.fl, listOf (List.toArray fs') cf'), (A.b0, ob0'), (A.b1, ob1'), (q0', listOf #[] 0), (q1', listOf #[] 0)]) rfl fun p hp => .inr hp))
    (Front.of (fun p hp ha => ?_) (fun p hp q hq => ?_)) ⟨gN', bk0', bk1', rfl, rfl, ?_, R.i0, R.i1, R.ca0.mono fun p hp => List.mem_append.mpr (.inr hp), R.ca1.mono fun p hp => List.mem_append.mpr (.inr hp), ?_, ?_, ?_⟩
  · rcases List.mem_append.mp (Plc.sub (I := [0, 1, 4, 5, 6, 7, 8, 9, 10, 11, 12]) (L := [q0', q1'] ++ v.slots A) (by exact rfl) _ ha) with h | h
    · exact f2 _ h p (List.mem_append.mpr (.inl hp)) rfl
    · exact fr.slot h p hp rfl
  · rcases List.mem_append.mp hq with hq | hq
    · exact Ne.symm (f1 q hq p (List.mem_append.mpr (.inl hp)))
    · exact fr.tl p hp q hq
  · rw [ew]
    exact (R.fa.mono fun p hp => List.mem_append.mpr (.inr hp)).append (fa'.mono fun p hp => List.mem_append.mpr (.inl hp))
  · exact Nat.le_trans ef (Nat.add_le_add_right R.lf 2)
  · refine Plc.nodup (I := [5, 6, 1, 0, 2, 3, 4, 7, 8, 9, 10]) (L := [A.dN, v.wl, A.fl, A.b0, A.b1, q0', q1'] ++ [A.l0, A.l1, A.c0, A.c1]) (List.nodup_append.mpr ⟨f4, Plc.nodup (I := [7, 8, 9, 10]) R.nd rfl (by decide), fun a ha b hb e => ?_⟩) rfl (by decide)
    rcases List.mem_append.mp (show a ∈ [A.dN, v.wl, A.fl, A.b0, A.b1] ++ [q0', q1'] from ha) with h | h
    · have h1 : ([A.dN, v.wl, A.fl, A.b0, A.b1] ++ [A.l0, A.l1, A.c0, A.c1]).Nodup := Plc.nodup (I := [3, 2, 4, 5, 6, 7, 8, 9, 10]) R.nd rfl (by decide)
      exact (List.nodup_append.mp h1).2.2 a h b hb e
    · exact g a h b (Plc.sub (I := [2, 3, 4, 5]) (by exact rfl) b hb) e.symm
  · intro a ha
    have ha' := List.mem_append.mp (Plc.sub (I := [5, 6, 1, 0, 2, 3, 4, 7, 8, 9, 10]) (L := [A.dN, v.wl, A.fl, A.b0, A.b1, q0', q1'] ++ [A.l0, A.l1, A.c0, A.c1]) (by exact rfl) a ha)
    intro p hp
    rcases List.mem_append.mp hp with hp | hp
    · rcases ha' with h | h
      · exact Ne.symm (f3 p hp a h)
      · obtain ⟨q, hq, rfl⟩ := List.mem_map.mp (show a ∈ List.map (·.1) [(A.l0, listOf (List.toArray v.ls0) v.nl0), (A.l1, listOf (List.toArray v.ls1) v.nl1), (A.c0, listOf (List.toArray v.cs0) v.nc0), (A.c1, listOf (List.toArray v.cs1) v.nc1)] from h)
        exact Ne.symm (f1 p hp q (List.mem_append.mpr (.inr (List.mem_append.mpr (.inl (Plc.sub (I := [2, 3, 4, 5]) (by exact rfl) q hq))))))
    · rcases ha' with h | h
      · rcases List.mem_append.mp (show a ∈ [A.dN, v.wl, A.fl, A.b0, A.b1] ++ [q0', q1'] from h) with h | h
        · exact R.off a (Plc.sub (I := [3, 2, 4, 5, 6]) (by exact rfl) a h) p hp
        · exact f2 a h p (sub_end p hp)
      · exact R.off a (Plc.sub (I := [7, 8, 9, 10]) (by exact rfl) a h) p hp
theorem worldnextR (B : Below A₀ base outer h₀) (C : Hid (CodeHd base 312 308)) (F : Fr h₀ L s.heap m) (X : (headK w.params).In h₀) (T : Top p loose mean mg mb h₀)
   (N : News h₀ L s.heap (pre ++ v.led A tl)) (R : WR w A v d k tl) (st : Stat A tl) (mdW : (A.dW, dictOf esW nW) ∈ pre) (gW : WorldEs esW A.hl A.NW d.now d.steps) (lw : d.fs.length ≤ 100)
   (hf : env.frame = some L) (hk : env.scope.kind = .function) (hd : dp < 700) (hu : u < 8000)
   (K : ∀ r o h' tk, Fr h₀ L h' m → News h₀ L h' (pre ++ v.led A tl) → OptVal r o → LeastIs (nextsD d) o → Q r { s with heap := h', toks := tk }) :
   wpAny (model PySem.Challenge.rw_rg0253_01.row.prog w) (mkA env outer dp g u) (call (.ref 126) [.ref A.W]) Q E s := by
  have sub : ∀ p ∈ tl, p ∈ pre ++ v.led A tl := fun p hp => List.mem_append.mpr (.inr (led_tl hp))
  exact worldnext_call B C F X T N (sub _ st.mW) (List.mem_append.mpr (.inl mdW)) gW (sub _ st.mN) (mem_app_r led_dN) R.gN (mem_app_r led_wl) (R.fa.mono sub) (by rw [R.fa.length]; exact lw) (sub _ st.mH) (st.H0.mono sub) (st.H1.mono sub) (mem_app_r led_b0) (mem_app_r led_b1) R.bk0 R.bk1
    (mem_app_r led_l0) (mem_app_r led_l1) R.i0 R.i1 hf hk hd hu K
end

end
section
/-! ## arrived, and the two hosts' calls, over the world's ledger -/
theorem off_kind {h₀ h : Heap} {L a : Addr} {o : Obj} {l l' : List (Addr × Obj)} {q : Addr × Obj} (N : News h₀ L h l) (N' : News h₀ L h l') (hm : (a, o) ∈ l) (hq : q ∈ l') (hn : o ≠ q.2) : q.1 ≠ a := fun e => by
  have h1 := (N _ hm).1
  have h2 := (N' _ hq).1
  rw [e] at h2
  exact hn (Option.some.inj (h1.symm.trans h2))
theorem list_no_tup {xs : Array Value} {n : Nat} {ys : List Value} {k : Nat} : listOf xs n ≠ tupOf ys k := fun e => absurd (congrArg Obj.cls e) (by simp [PySem.W.listOf])
theorem dict_no_tup {es : List DictEntry} {n : Nat} {ys : List Value} {k : Nat} : dictOf es n ≠ tupOf ys k := fun e => absurd (congrArg Obj.cls e) (by simp)
theorem book_no_tup {w : World} {ob : Obj} {l dq c : Addr} {ys : List Value} {k : Nat} (h : BookIs w ob l dq c) : ob ≠ tupOf ys k := fun e => by
  obtain ⟨es, ep, _, hd, _⟩ := h
  rw [e] at hd
  cases hd
theorem own_no_tup {w : World} {A : WAd} {v : WV} (h0 : BookIs w v.ob0 A.l0 v.q0 A.c0) (h1 : BookIs w v.ob1 A.l1 v.q1 A.c1) : ∀ p ∈ v.own A, ∀ (ys : List Value) (k : Nat), p.2 ≠ tupOf ys k :=
  List.forall_mem_cons.mpr ⟨fun _ _ => list_no_tup, List.forall_mem_cons.mpr ⟨fun _ _ => list_no_tup, List.forall_mem_cons.mpr ⟨fun _ _ => list_no_tup, List.forall_mem_cons.mpr ⟨fun _ _ => dict_no_tup, List.forall_mem_cons.mpr ⟨fun _ _ => list_no_tup, List.forall_mem_cons.mpr ⟨fun _ _ => book_no_tup h0, List.forall_mem_cons.mpr ⟨fun _ _ => book_no_tup h1,
    List.forall_mem_cons.mpr ⟨fun _ _ => list_no_tup, List.forall_mem_cons.mpr ⟨fun _ _ => list_no_tup, List.forall_mem_cons.mpr ⟨fun _ _ => list_no_tup, List.forall_mem_cons.mpr ⟨fun _ _ => list_no_tup, List.forall_mem_nil _⟩⟩⟩⟩⟩⟩⟩⟩⟩⟩⟩
section
variable {w : World} {s : Shared} {L : Addr} {env : Env} {outer : List Env} {dp u : Nat} {g : Option (List Code)} {A₀ : Around} {h₀ base : Heap} {m mg mb : Str → Option Value} {p : Program} {loose : List Str} {mean : ExcName → Option Value} {pre tl : List (Addr × Obj)}
   {A : WAd} {v : WV} {d : D} {k : Nat} {Q : Value → Shared → Prop} {E : Value → Shared → Prop}
set_option maxHeartbeats 2000000 in
theorem arrivedR {now : Int} {t : Tok} (B : Below A₀ base outer h₀) (F : Fr h₀ L s.heap m) (X : (headK w.params).In h₀) (T : Top p loose mean mg mb h₀)
   (N : News h₀ L s.heap (pre ++ v.led A tl)) (fr : Front pre (v.led A tl)) (R : WR w A v d k tl) (st : Stat A tl) (np : ∀ p ∈ pre, ∀ xs n, p.2 ≠ tupOf xs n) (io : InOrder d.fs) (lw : d.fs.length ≤ 60)
   (hf : env.frame = some L) (hk : env.scope.kind = .function) (hd : dp < 800)
   (K : ∀ v' tl' R0 nR rs h' tk, (∀ p ∈ tl, p ∈ tl') → Fr h₀ L h' m → News h₀ L h' (pre ++ v'.led A tl') → Front pre (v'.led A tl') → WR w A v' { d with fs := d.fs.filter fun f => decide (now < f.arr) } k tl' →
      (R0, listOf (List.toArray rs) nR) ∈ tl' → ArrsAre tl' rs (d.fs.filter fun f => decide (f.arr ≤ now)) → Q (.ref R0) { s with heap := h', toks := tk }) :
   wpAny (model PySem.Challenge.rw_rg0253_01.row.prog w) (mkA env outer dp g u) (call (.ref 81) [.ref A.NW, .int now t]) Q E s := by
  refine arrived_call (tl := pre ++ ([(v.q0, listOf (List.toArray v.vs0) v.nq0), (v.q1, listOf (List.toArray v.vs1) v.nq1), (v.wl, listOf (List.toArray v.ws) v.cw), (A.fl, listOf (List.toArray v.fvs) v.cf), (A.b0, v.ob0), (A.b1, v.ob1), (A.l0, listOf (List.toArray v.ls0) v.nl0), (A.l1, listOf (List.toArray v.ls1) v.nl1), (A.c0, listOf (List.toArray v.cs0) v.nc0), (A.c1, listOf (List.toArray v.cs1) v.nc1)] ++ tl)) (tf := tl) (nN := v.nN) (cw := v.cw)
    B F X T (News.of_sub N (Plc.inn (X := [(A.dN, dictOf v.esN v.nN)]) (B := v.own A) (I := [3]) (J := [0, 1, 2, 4, 5, 6, 7, 8, 9, 10]) rfl rfl)) (off_ins (S := [A.dN]) (B := v.own A) (I := [3]) (J := [0, 1, 2, 4, 5, 6, 7, 8, 9, 10]) (by decide) (by exact rfl) (by exact rfl) R.nd R.off fr _ (.head _)) (sub_end _ st.mN) R.gN (mem_mid 2 rfl) R.fa sub_end io (by rw [R.fa.length]; exact lw) hf hk hd ?_
  intro R0 nR rs wl' ws' cw' esN' nN' own h' tk F' N' gN' fa' ar' ot a1 a2 a3
  have NO : News h₀ L h' own := News.of_sub N' fun p hp => .tail _ (.tail _ (.tail _ (List.mem_append.mpr (.inl hp))))
  have NL : News h₀ L h' (pre ++ (WV.own A { v with esN := esN', nN := nN', wl := wl', ws := ws', cw := cw' } ++ (R0, listOf (List.toArray rs) nR) :: (own ++ tl))) := News.of_sub N' (Plc.out (I := [3, 4, 1, 0, 6, 7, 8, 9, 10, 11, 12]) (X := [(A.dN, dictOf esN' nN'), (wl', listOf (List.toArray ws') cw'), (R0, listOf (List.toArray rs) nR)]) rfl fun p hp => by
    rcases List.mem_cons.mp hp with h | h
    · exact .inl (h ▸ .tail _ (.tail _ (.head _)))
    · exact .inr h)
  have g1 : ∀ a ∈ [A.dN] ++ [v.q0, v.q1, v.wl, A.fl, A.b0, A.b1, A.l0, A.l1, A.c0, A.c1], a ≠ wl' := new_off (X := [(A.dN, dictOf v.esN v.nN)]) a1
  have g2 : ∀ a ∈ [A.dN] ++ [v.q0, v.q1, v.wl, A.fl, A.b0, A.b1, A.l0, A.l1, A.c0, A.c1], a ≠ R0 := new_off (X := [(A.dN, dictOf v.esN v.nN)]) a2
  have sl : ∀ a ∈ WV.slots A { v with esN := esN', nN := nN', wl := wl', ws := ws', cw := cw' }, a ∈ [wl'] ++ v.slots A := Plc.sub (I := [1, 2, 0, 4, 5, 6, 7, 8, 9, 10, 11]) (by exact rfl)
  have so : ∀ a ∈ v.slots A, a ∈ [A.dN] ++ [v.q0, v.q1, v.wl, A.fl, A.b0, A.b1, A.l0, A.l1, A.c0, A.c1] := Plc.sub (I := [1, 2, 3, 0, 4, 5, 6, 7, 8, 9, 10]) (by exact rfl)
  refine K { v with esN := esN', nN := nN', wl := wl', ws := ws', cw := cw' } ((R0, listOf (List.toArray rs) nR) :: (own ++ tl)) R0 nR rs h' tk (fun p hp => .tail _ (List.mem_append.mpr (.inr hp))) F' NL (Front.of (fun p hp ha => ?_) (fun p hp q hq => ?_))
    ⟨gN', R.bk0, R.bk1, R.du0, R.du1, fa'.mono fun p hp => .tail _ (List.mem_append.mpr (.inr hp)), R.i0, R.i1, R.ca0.mono fun p hp => .tail _ (List.mem_append.mpr (.inr hp)), R.ca1.mono fun p hp => .tail _ (List.mem_append.mpr (.inr hp)), R.lf, ?_, fun a ha p hp => ?_⟩ (.head _) (ar'.mono fun p hp => .tail _ (List.mem_append.mpr (.inl hp)))
  · rcases List.mem_append.mp (sl _ ha) with h | h
    · exact a1 p (.tail _ (List.mem_append.mpr (.inl hp))) (List.mem_singleton.mp h)
    · exact fr.slot h p hp rfl
  · rcases List.mem_cons.mp hq with rfl | hq
    · exact Ne.symm (a2 p (.tail _ (List.mem_append.mpr (.inl hp))))
    · rcases List.mem_append.mp hq with hq | hq
      · obtain ⟨xs, n, e⟩ := ot q hq
        exact off_kind NL NO (List.mem_append.mpr (.inl hp)) hq (fun z => np p hp xs n (z.trans e))
      · exact fr.tl p hp q hq
  · exact Plc.nodup (I := [1, 2, 0, 4, 5, 6, 7, 8, 9, 10, 11]) (L := [wl'] ++ v.slots A) (List.nodup_cons.mpr ⟨fun h => g1 _ (so _ h) rfl, R.nd⟩) rfl (by decide)
  · rcases List.mem_cons.mp hp with rfl | hp
    · rcases List.mem_append.mp (sl _ ha) with h | h
      · exact (List.mem_singleton.mp h).symm ▸ Ne.symm a3
      · exact Ne.symm (g2 a (so a h))
    · rcases List.mem_append.mp hp with hp | hp
      · obtain ⟨xs, n, e⟩ := ot p hp
        obtain ⟨q, hq, rfl⟩ := List.mem_map.mp (show a ∈ (WV.own A { v with esN := esN', nN := nN', wl := wl', ws := ws', cw := cw' }).map (·.1) from ha)
        exact off_kind NL NO (List.mem_append.mpr (.inr (List.mem_append.mpr (.inl hq)))) hp (fun z => own_no_tup (v := { v with esN := esN', nN := nN', wl := wl', ws := ws', cw := cw' }) R.bk0 R.bk1 q hq xs n (z.trans e))
      · rcases List.mem_append.mp (sl _ ha) with h | h
        · exact (List.mem_singleton.mp h).symm ▸ a1 p (.tail _ (sub_end p hp))
        · exact R.off a h p hp

theorem hostnextR0 {f cb : Addr} {obc : Obj} (B : Below A₀ base outer h₀) (C : Hid (CodeHd base 312 308)) (F : Fr h₀ L s.heap m) (X : (headK w.params).In h₀) (T : Top p loose mean mg mb h₀)
   (lam : LamAt tl 1 [(Str.ofString "book", cb)] f) (m1 : (cb, obc) ∈ tl) (d1 : obc.data = .cell (some (.ref A.b0)))
   (N : News h₀ L s.heap (pre ++ v.led A tl)) (R : WR w A v d k tl)
   (hf : env.frame = some L) (hk : env.scope.kind = .function) (hd : dp < 800) (hu : u < 9000)
   (K : ∀ r h' tk, Fr h₀ L h' m → News h₀ L h' (pre ++ v.led A tl) → OptVal r d.ns0.head? → Q r { s with heap := h', toks := tk }) :
   wpAny (model PySem.Challenge.rw_rg0253_01.row.prog w) (mkA env outer dp g u) (call (.ref f) []) Q E s :=
  have sub : ∀ p ∈ tl, p ∈ pre ++ v.led A tl := fun p hp => List.mem_append.mpr (.inr (led_tl hp))
  hostnext_call B C F X T N (lam.mono sub) (sub _ m1) d1 (mem_app_r led_b0) R.bk0 (mem_app_r led_l0) R.i0 hf hk hd hu K
set_option maxHeartbeats 2000000 in
theorem ontimeR0 {f cb : Addr} {obc : Obj} {a : Int} {r : List Int} {x9 : Value} (B : Below A₀ base outer h₀) (C : Hid (CodeHd base 312 308)) (F : Fr h₀ L s.heap m) (X : (headK w.params).In h₀) (T : Top p loose mean mg mb h₀)
   (lam : LamAt tl 2 [(Str.ofString "book", cb)] f) (m1 : (cb, obc) ∈ tl) (d1 : obc.data = .cell (some (.ref A.b0)))
   (N : News h₀ L s.heap (pre ++ v.led A tl)) (fr : Front pre (v.led A tl)) (R : WR w A v d k tl) (e1 : d.ns0 = a :: r) (e2 : d.due0 = none) (a0 : 0 ≤ a) (a1 : a < 256) (lr : r.length ≤ 100)
   (hf : env.frame = some L) (hk : env.scope.kind = .function) (hd : dp < 800) (hu : u < 9000)
   (K : ∀ v' r9 h' tk, Fr h₀ L h' m → News h₀ L h' (pre ++ v'.led A tl) → Front pre (v'.led A tl) → WR w A v' { d with due0 := some a, ns0 := r } k tl → Q r9 { s with heap := h', toks := tk }) :
   wpAny (model PySem.Challenge.rw_rg0253_01.row.prog w) (mkA env outer dp g u) (call (.ref f) [x9]) Q E s := by
  have hi := R.i0
  have hq := R.du0
  rw [e1] at hi
  rw [e2] at hq
  generalize hls : v.ls0 = ls at hi
  cases hi with
  | cons _ t9 il =>
  rename_i ls
  have o := off_ins (rest := [(v.q1, listOf (List.toArray v.vs1) v.nq1), (v.wl, listOf (List.toArray v.ws) v.cw), (A.dN, dictOf v.esN v.nN), (A.fl, listOf (List.toArray v.fvs) v.cf), (A.b0, v.ob0), (A.b1, v.ob1), (A.l1, listOf (List.toArray v.ls1) v.nl1), (A.c0, listOf (List.toArray v.cs0) v.nc0), (A.c1, listOf (List.toArray v.cs1) v.nc1)]) (S := [A.l0, v.q0]) (B := v.own A) (I := [7, 0]) (J := [1, 2, 3, 4, 5, 6, 8, 9, 10]) (by decide) (by exact rfl) (by exact rfl) R.nd R.off fr
  refine ontime_call (tl := pre ++ ([(v.q1, listOf (List.toArray v.vs1) v.nq1), (v.wl, listOf (List.toArray v.ws) v.cw), (A.dN, dictOf v.esN v.nN), (A.fl, listOf (List.toArray v.fvs) v.cf), (A.b0, v.ob0), (A.b1, v.ob1), (A.l1, listOf (List.toArray v.ls1) v.nl1), (A.c0, listOf (List.toArray v.cs0) v.nc0), (A.c1, listOf (List.toArray v.cs1) v.nc1)] ++ tl)) (nl := v.nl0) (nq := v.nq0) (vs := v.vs0) (n0 := a) (t0 := t9) B C F X T (News.of_sub N (by rw [← hls]; exact Plc.inn (X := [(A.l0, listOf (List.toArray v.ls0) v.nl0), (v.q0, listOf (List.toArray v.vs0) v.nq0)]) (B := v.own A) (I := [7, 0]) (J := [1, 2, 3, 4, 5, 6, 8, 9, 10]) rfl rfl)) (o _ (.head _)) (o _ (.tail _ (.head _)))
    (fun e => (List.nodup_cons.mp (Plc.nodup (I := [7, 0]) (M := [A.l0, v.q0]) R.nd rfl (by decide))).1 (e ▸ .head _)) (lam.mono sub_end) (sub_end _ m1) d1 (mem_mid 4 rfl) R.bk0 (by rw [IntsAre.length il]; exact lr) (by rw [show v.vs0 = [] from hq]; exact Nat.zero_le _) hf hk hd hu ?_
  · intro r9 nl' nq' h' tk F' N'
    refine K { v with ls0 := ls, nl0 := nl', vs0 := v.vs0 ++ [Value.int a t9], nq0 := nq' } r9 h' tk F' (News.of_sub N' (Plc.out (I := [1, 2, 3, 4, 5, 6, 7, 0, 8, 9, 10]) (Y := WV.own A { v with ls0 := ls, nl0 := nl', vs0 := v.vs0 ++ [Value.int a t9], nq0 := nq' }) (own := []) (X := [(A.l0, listOf (List.toArray ls) nl'), (v.q0, listOf (List.toArray (v.vs0 ++ [Value.int a t9])) nq')]) rfl fun p hp => .inr hp)) (Front.of (fun p hp ha => fr.slot ha p hp rfl) fr.tl) { R with i0 := il, du0 := ?_ }
    · rw [show v.vs0 = [] from hq]
      exact ⟨a0, a1, t9, rfl⟩
set_option maxHeartbeats 2000000 in
theorem receiveR0 {f cb : Addr} {obc : Obj} {now x : Int} {t1 t2 t3 : Tok} (B : Below A₀ base outer h₀) (C : Hid (CodeHd base 312 308)) (F : Fr h₀ L s.heap m) (X : (headK w.params).In h₀) (T : Top p loose mean mg mb h₀)
   (lam : LamAt tl 4 [(Str.ofString "book", cb)] f) (m1 : (cb, obc) ∈ tl) (d1 : obc.data = .cell (some (.ref A.b0)))
   (N : News h₀ L s.heap (pre ++ v.led A tl)) (fr : Front pre (v.led A tl)) (R : WR w A v d k tl) (lc : d.cm0.length ≤ 100)
   (hf : env.frame = some L) (hk : env.scope.kind = .function) (hd : dp < 800) (hu : u < 9000)
   (K : ∀ v' tl' r h' tk, (∀ p ∈ tl, p ∈ tl') → Fr h₀ L h' m → News h₀ L h' (pre ++ v'.led A tl') → Front pre (v'.led A tl') → WR w A v' { d with cm0 := d.cm0 ++ [⟨now, x⟩] } k tl' → Q r { s with heap := h', toks := tk }) :
   wpAny (model PySem.Challenge.rw_rg0253_01.row.prog w) (mkA env outer dp g u) (call (.ref f) [.bytes (octOf x) t3, .str (nameOf 0) t2, .int now t1]) Q E s := by
  refine receive_call (tl := pre ++ ([(v.q0, listOf (List.toArray v.vs0) v.nq0), (v.q1, listOf (List.toArray v.vs1) v.nq1), (v.wl, listOf (List.toArray v.ws) v.cw), (A.dN, dictOf v.esN v.nN), (A.fl, listOf (List.toArray v.fvs) v.cf), (A.b0, v.ob0), (A.b1, v.ob1), (A.l0, listOf (List.toArray v.ls0) v.nl0), (A.l1, listOf (List.toArray v.ls1) v.nl1), (A.c1, listOf (List.toArray v.cs1) v.nc1)] ++ tl)) (nc := v.nc0) (cs := v.cs0) (path := Str.ofString "server") B C F X T (News.of_sub N (Plc.inn (X := [(A.c0, listOf (List.toArray v.cs0) v.nc0)]) (B := v.own A) (I := [9]) (J := [0, 1, 2, 3, 4, 5, 6, 7, 8, 10]) rfl rfl)) (off_ins (S := [A.c0]) (B := v.own A) (I := [9]) (J := [0, 1, 2, 3, 4, 5, 6, 7, 8, 10]) (by decide) (by exact rfl) (by exact rfl) R.nd R.off fr _ (.head _)) (lam.mono sub_end) (sub_end _ m1) d1 (mem_mid 5 rfl) R.bk0 (by rw [R.ca0.length]; exact lc) hf hk hd hu ?_
  · intro r T' nT t1' nc' h' tk F' N' n1 n2
    have n3 : ∀ a ∈ v.slots A, a ≠ T' := fun a ha => by
      rcases List.mem_append.mp (Plc.sub (I := [1, 2, 3, 4, 5, 6, 7, 8, 9, 0, 10]) (L := [A.c0] ++ [v.q0, v.q1, v.wl, A.dN, A.fl, A.b0, A.b1, A.l0, A.l1, A.c1]) (by exact rfl) a ha) with h | h
      · exact (List.mem_singleton.mp h).symm ▸ n1
      · exact new_off (X := []) n2 a h
    refine K { v with cs0 := v.cs0 ++ [Value.ref T'], nc0 := nc' } ((T', tupOf [.int now t1', .str (Str.ofString "server") t2, .bytes (octOf x) t3] nT) :: tl) r h' tk (fun p hp => .tail _ hp) F' (News.of_sub N' (Plc.out (I := [2, 3, 4, 5, 6, 7, 8, 9, 10, 0, 11]) (Y := WV.own A { v with cs0 := v.cs0 ++ [Value.ref T'], nc0 := nc' }) (own := []) (X := [(A.c0, listOf (List.toArray (v.cs0 ++ [Value.ref T'])) nc'), (T', tupOf [.int now t1', .str (Str.ofString "server") t2, .bytes (octOf x) t3] nT)]) rfl fun p hp => by
      rcases List.mem_cons.mp hp with h | h
      · exact .inl (h ▸ .tail _ (.head _))
      · exact .inr h)) (Front.of (fun p hp ha => fr.slot ha p hp rfl) (fun p hp q hq => ?_))
      { R with fa := R.fa.mono fun p hp => .tail _ hp, ca0 := ?_, ca1 := ?_, off := ?_ }
    · rcases List.mem_cons.mp hq with rfl | hq
      · exact Ne.symm (n2 p (List.mem_append.mpr (.inl hp)))
      · exact fr.tl p hp q hq
    · exact (R.ca0.mono fun p hp => .tail _ hp).append ⟨⟨T', t1', t2, t3, nT, rfl, .head _⟩, trivial⟩
    · exact R.ca1.mono fun p hp => .tail _ hp
    · intro a ha p hp
      rcases List.mem_cons.mp hp with rfl | hp
      · exact Ne.symm (n3 a ha)
      · exact R.off a ha p hp

theorem hostnextR1 {f cb : Addr} {obc : Obj} (B : Below A₀ base outer h₀) (C : Hid (CodeHd base 312 308)) (F : Fr h₀ L s.heap m) (X : (headK w.params).In h₀) (T : Top p loose mean mg mb h₀)
   (lam : LamAt tl 1 [(Str.ofString "book", cb)] f) (m1 : (cb, obc) ∈ tl) (d1 : obc.data = .cell (some (.ref A.b1)))
   (N : News h₀ L s.heap (pre ++ v.led A tl)) (R : WR w A v d k tl)
   (hf : env.frame = some L) (hk : env.scope.kind = .function) (hd : dp < 800) (hu : u < 9000)
   (K : ∀ r h' tk, Fr h₀ L h' m → News h₀ L h' (pre ++ v.led A tl) → OptVal r d.ns1.head? → Q r { s with heap := h', toks := tk }) :
   wpAny (model PySem.Challenge.rw_rg0253_01.row.prog w) (mkA env outer dp g u) (call (.ref f) []) Q E s :=
  have sub : ∀ p ∈ tl, p ∈ pre ++ v.led A tl := fun p hp => List.mem_append.mpr (.inr (led_tl hp))
  hostnext_call B C F X T N (lam.mono sub) (sub _ m1) d1 (mem_app_r led_b1) R.bk1 (mem_app_r led_l1) R.i1 hf hk hd hu K
set_option maxHeartbeats 2000000 in
theorem ontimeR1 {f cb : Addr} {obc : Obj} {a : Int} {r : List Int} {x9 : Value} (B : Below A₀ base outer h₀) (C : Hid (CodeHd base 312 308)) (F : Fr h₀ L s.heap m) (X : (headK w.params).In h₀) (T : Top p loose mean mg mb h₀)
   (lam : LamAt tl 2 [(Str.ofString "book", cb)] f) (m1 : (cb, obc) ∈ tl) (d1 : obc.data = .cell (some (.ref A.b1)))
   (N : News h₀ L s.heap (pre ++ v.led A tl)) (fr : Front pre (v.led A tl)) (R : WR w A v d k tl) (e1 : d.ns1 = a :: r) (e2 : d.due1 = none) (a0 : 0 ≤ a) (a1 : a < 256) (lr : r.length ≤ 100)
   (hf : env.frame = some L) (hk : env.scope.kind = .function) (hd : dp < 800) (hu : u < 9000)
   (K : ∀ v' r9 h' tk, Fr h₀ L h' m → News h₀ L h' (pre ++ v'.led A tl) → Front pre (v'.led A tl) → WR w A v' { d with due1 := some a, ns1 := r } k tl → Q r9 { s with heap := h', toks := tk }) :
   wpAny (model PySem.Challenge.rw_rg0253_01.row.prog w) (mkA env outer dp g u) (call (.ref f) [x9]) Q E s := by
  have hi := R.i1
  have hq := R.du1
  rw [e1] at hi
  rw [e2] at hq
  generalize hls : v.ls1 = ls at hi
  cases hi with
  | cons _ t9 il =>
  rename_i ls
  have o := off_ins (rest := [(v.q0, listOf (List.toArray v.vs0) v.nq0), (v.wl, listOf (List.toArray v.ws) v.cw), (A.dN, dictOf v.esN v.nN), (A.fl, listOf (List.toArray v.fvs) v.cf), (A.b0, v.ob0), (A.b1, v.ob1), (A.l0, listOf (List.toArray v.ls0) v.nl0), (A.c0, listOf (List.toArray v.cs0) v.nc0), (A.c1, listOf (List.toArray v.cs1) v.nc1)]) (S := [A.l1, v.q1]) (B := v.own A) (I := [8, 1]) (J := [0, 2, 3, 4, 5, 6, 7, 9, 10]) (by decide) (by exact rfl) (by exact rfl) R.nd R.off fr
  refine ontime_call (tl := pre ++ ([(v.q0, listOf (List.toArray v.vs0) v.nq0), (v.wl, listOf (List.toArray v.ws) v.cw), (A.dN, dictOf v.esN v.nN), (A.fl, listOf (List.toArray v.fvs) v.cf), (A.b0, v.ob0), (A.b1, v.ob1), (A.l0, listOf (List.toArray v.ls0) v.nl0), (A.c0, listOf (List.toArray v.cs0) v.nc0), (A.c1, listOf (List.toArray v.cs1) v.nc1)] ++ tl)) (nl := v.nl1) (nq := v.nq1) (vs := v.vs1) (n0 := a) (t0 := t9) B C F X T (News.of_sub N (by rw [← hls]; exact Plc.inn (X := [(A.l1, listOf (List.toArray v.ls1) v.nl1), (v.q1, listOf (List.toArray v.vs1) v.nq1)]) (B := v.own A) (I := [8, 1]) (J := [0, 2, 3, 4, 5, 6, 7, 9, 10]) rfl rfl)) (o _ (.head _)) (o _ (.tail _ (.head _)))
    (fun e => (List.nodup_cons.mp (Plc.nodup (I := [8, 1]) (M := [A.l1, v.q1]) R.nd rfl (by decide))).1 (e ▸ .head _)) (lam.mono sub_end) (sub_end _ m1) d1 (mem_mid 5 rfl) R.bk1 (by rw [IntsAre.length il]; exact lr) (by rw [show v.vs1 = [] from hq]; exact Nat.zero_le _) hf hk hd hu ?_
  · intro r9 nl' nq' h' tk F' N'
    refine K { v with ls1 := ls, nl1 := nl', vs1 := v.vs1 ++ [Value.int a t9], nq1 := nq' } r9 h' tk F' (News.of_sub N' (Plc.out (I := [2, 1, 3, 4, 5, 6, 7, 8, 0, 9, 10]) (Y := WV.own A { v with ls1 := ls, nl1 := nl', vs1 := v.vs1 ++ [Value.int a t9], nq1 := nq' }) (own := []) (X := [(A.l1, listOf (List.toArray ls) nl'), (v.q1, listOf (List.toArray (v.vs1 ++ [Value.int a t9])) nq')]) rfl fun p hp => .inr hp)) (Front.of (fun p hp ha => fr.slot ha p hp rfl) fr.tl) { R with i1 := il, du1 := ?_ }
    · rw [show v.vs1 = [] from hq]
      exact ⟨a0, a1, t9, rfl⟩
set_option maxHeartbeats 2000000 in
theorem receiveR1 {f cb : Addr} {obc : Obj} {now x : Int} {t1 t2 t3 : Tok} (B : Below A₀ base outer h₀) (C : Hid (CodeHd base 312 308)) (F : Fr h₀ L s.heap m) (X : (headK w.params).In h₀) (T : Top p loose mean mg mb h₀)
   (lam : LamAt tl 4 [(Str.ofString "book", cb)] f) (m1 : (cb, obc) ∈ tl) (d1 : obc.data = .cell (some (.ref A.b1)))
   (N : News h₀ L s.heap (pre ++ v.led A tl)) (fr : Front pre (v.led A tl)) (R : WR w A v d k tl) (lc : d.cm1.length ≤ 100)
   (hf : env.frame = some L) (hk : env.scope.kind = .function) (hd : dp < 800) (hu : u < 9000)
   (K : ∀ v' tl' r h' tk, (∀ p ∈ tl, p ∈ tl') → Fr h₀ L h' m → News h₀ L h' (pre ++ v'.led A tl') → Front pre (v'.led A tl') → WR w A v' { d with cm1 := d.cm1 ++ [⟨now, x⟩] } k tl' → Q r { s with heap := h', toks := tk }) :
   wpAny (model PySem.Challenge.rw_rg0253_01.row.prog w) (mkA env outer dp g u) (call (.ref f) [.bytes (octOf x) t3, .str (nameOf 1) t2, .int now t1]) Q E s := by
  refine receive_call (tl := pre ++ ([(v.q0, listOf (List.toArray v.vs0) v.nq0), (v.q1, listOf (List.toArray v.vs1) v.nq1), (v.wl, listOf (List.toArray v.ws) v.cw), (A.dN, dictOf v.esN v.nN), (A.fl, listOf (List.toArray v.fvs) v.cf), (A.b0, v.ob0), (A.b1, v.ob1), (A.l0, listOf (List.toArray v.ls0) v.nl0), (A.l1, listOf (List.toArray v.ls1) v.nl1), (A.c0, listOf (List.toArray v.cs0) v.nc0)] ++ tl)) (nc := v.nc1) (cs := v.cs1) (path := Str.ofString "client") B C F X T (News.of_sub N (Plc.inn (X := [(A.c1, listOf (List.toArray v.cs1) v.nc1)]) (B := v.own A) (I := [10]) (J := [0, 1, 2, 3, 4, 5, 6, 7, 8, 9]) rfl rfl)) (off_ins (S := [A.c1]) (B := v.own A) (I := [10]) (J := [0, 1, 2, 3, 4, 5, 6, 7, 8, 9]) (by decide) (by exact rfl) (by exact rfl) R.nd R.off fr _ (.head _)) (lam.mono sub_end) (sub_end _ m1) d1 (mem_mid 6 rfl) R.bk1 (by rw [R.ca1.length]; exact lc) hf hk hd hu ?_
  · intro r T' nT t1' nc' h' tk F' N' n1 n2
    have n3 : ∀ a ∈ v.slots A, a ≠ T' := fun a ha => by
      rcases List.mem_append.mp (Plc.sub (I := [1, 2, 3, 4, 5, 6, 7, 8, 9, 10, 0]) (L := [A.c1] ++ [v.q0, v.q1, v.wl, A.dN, A.fl, A.b0, A.b1, A.l0, A.l1, A.c0]) (by exact rfl) a ha) with h | h
      · exact (List.mem_singleton.mp h).symm ▸ n1
      · exact new_off (X := []) n2 a h
    refine K { v with cs1 := v.cs1 ++ [Value.ref T'], nc1 := nc' } ((T', tupOf [.int now t1', .str (Str.ofString "client") t2, .bytes (octOf x) t3] nT) :: tl) r h' tk (fun p hp => .tail _ hp) F' (News.of_sub N' (Plc.out (I := [2, 3, 4, 5, 6, 7, 8, 9, 10, 11, 0]) (Y := WV.own A { v with cs1 := v.cs1 ++ [Value.ref T'], nc1 := nc' }) (own := []) (X := [(A.c1, listOf (List.toArray (v.cs1 ++ [Value.ref T'])) nc'), (T', tupOf [.int now t1', .str (Str.ofString "client") t2, .bytes (octOf x) t3] nT)]) rfl fun p hp => by
      rcases List.mem_cons.mp hp with h | h
      · exact .inl (h ▸ .tail _ (.head _))
      · exact .inr h)) (Front.of (fun p hp ha => fr.slot ha p hp rfl) (fun p hp q hq => ?_))
      { R with fa := R.fa.mono fun p hp => .tail _ hp, ca0 := ?_, ca1 := ?_, off := ?_ }
    · rcases List.mem_cons.mp hq with rfl | hq
      · exact Ne.symm (n2 p (List.mem_append.mpr (.inl hp)))
      · exact fr.tl p hp q hq
    · exact R.ca0.mono fun p hp => .tail _ hp
    · exact (R.ca1.mono fun p hp => .tail _ hp).append ⟨⟨T', t1', t2, t3, nT, rfl, .head _⟩, trivial⟩
    · intro a ha p hp
      rcases List.mem_cons.mp hp with rfl | hp
      · exact Ne.symm (n3 a ha)
      · exact R.off a ha p hp
end

end
local macro_rules | `(tactic| walk_at "TurnPost") => `(tactic| refine stop_here ?_)
local macro_rules | `(tactic| walk_at "pyIter ref") => `(tactic| refine stop_here ?_)
local macro_rules | `(tactic| walk_at "call type:range") => `(tactic| refine stop_here ?_)

section
theorem off25 : True := by
  w_top off
  trivial
/-! ## one step of the world -/
theorem Stat.memW {A : WAd} {tl : List (Addr × Obj)} (st : Stat A tl) (v : WV) (pre : List (Addr × Obj)) : (A.W, instObj 143 A.dW) ∈ pre ++ v.led A tl := mem_app_r (led_tl st.mW)
theorem Stat.memN {A : WAd} {tl : List (Addr × Obj)} (st : Stat A tl) (v : WV) (pre : List (Addr × Obj)) : (A.NW, instObj 84 A.dN) ∈ pre ++ v.led A tl := mem_app_r (led_tl st.mN)
theorem Stat.memH {A : WAd} {tl : List (Addr × Obj)} (st : Stat A tl) (v : WV) (pre : List (Addr × Obj)) : (A.hl, listOf #[.ref A.h0, .ref A.h1] A.nH) ∈ pre ++ v.led A tl := mem_app_r (led_tl st.mH)
theorem Stat.memdN {A : WAd} (v : WV) (pre tl : List (Addr × Obj)) : (A.dN, dictOf v.esN v.nN) ∈ pre ++ v.led A tl := mem_app_r led_dN
theorem Front.swap {a : Addr} {o o' : Obj} {pre R : List (Addr × Obj)} (h : Front ((a, o) :: pre) R) : Front ((a, o') :: pre) R := fun p hp q hq => by
  rcases List.mem_cons.mp hp with rfl | hp
  · exact h (a, o) (.head _) q hq
  · exact h p (.tail _ hp) q hq
theorem Front.cons {x : Addr × Obj} {pre R : List (Addr × Obj)} (h : Front pre R) (h2 : ∀ q ∈ R, q.1 ≠ x.1) : Front (x :: pre) R := fun p hp q hq => by
  rcases List.mem_cons.mp hp with rfl | hp
  · exact h2 q hq
  · exact h p hp q hq
theorem np_cons {a : Addr} {es : List DictEntry} {n : Nat} {pre : List (Addr × Obj)} (np : ∀ p ∈ pre, ∀ xs n, p.2 ≠ tupOf xs n) : ∀ p ∈ (a, dictOf es n) :: pre, ∀ xs n, p.2 ≠ tupOf xs n := fun p hp => by
  rcases List.mem_cons.mp hp with rfl | hp
  · exact fun _ _ => dict_no_tup
  · exact np p hp
/-- the ledger between the turns -/
noncomputable def WJ (w : World) (A : WAd) (x : Addr × Obj) (pre tl0 : List (Addr × Obj)) (k : Nat) (d : D) (news : List (Addr × Obj)) : Prop :=
  ∃ v tl, news = x :: (pre ++ v.led A tl) ∧ (∀ p ∈ tl0, p ∈ tl) ∧ Front (x :: pre) (v.led A tl) ∧ WR w A v d k tl
noncomputable def Map3 (s1 s2 s3 : Str) (m₀ m : Str → Option Value) : Prop := ∃ a b c, m = fun y => if y = s3 then c else if y = s2 then b else if y = s1 then a else m₀ y
noncomputable def Map2 (s1 s2 : Str) (m₀ m : Str → Option Value) : Prop := ∃ a b, m = fun y => if y = s2 then b else if y = s1 then a else m₀ y
theorem Map3.self {s1 s2 s3 : Str} {m : Str → Option Value} : Map3 s1 s2 s3 m m := ⟨m s1, m s2, m s3, funext fun y => by
  by_cases h3 : y = s3
  · rw [if_pos h3, h3]
  · rw [if_neg h3]
    by_cases h2 : y = s2
    · rw [if_pos h2, h2]
    · rw [if_neg h2]
      by_cases h1 : y = s1
      · rw [if_pos h1, h1]
      · rw [if_neg h1]⟩
theorem Map2.self {s1 s2 : Str} {m : Str → Option Value} : Map2 s1 s2 m m := ⟨m s1, m s2, funext fun y => by
  by_cases h2 : y = s2
  · rw [if_pos h2, h2]
  · rw [if_neg h2]
    by_cases h1 : y = s1
    · rw [if_pos h1, h1]
    · rw [if_neg h1]⟩
theorem Map3.again {s1 s2 s3 : Str} {m : Str → Option Value} {a b c a' b' c' : Option Value} : Map3 s1 s2 s3 m (fun y => if y = s3 then c' else if y = s2 then b' else if y = s1 then a' else if y = s3 then c else if y = s2 then b else if y = s1 then a else m y) := ⟨a', b', c', funext fun y => by
  by_cases h3 : y = s3
  · simp only [if_pos h3]
  · by_cases h2 : y = s2
    · simp only [if_neg h3, if_pos h2]
    · by_cases h1 : y = s1
      · simp only [if_neg h3, if_neg h2, if_pos h1]
      · simp only [if_neg h3, if_neg h2, if_neg h1]⟩
theorem Map2.again {s1 s2 : Str} {m : Str → Option Value} {a b a' b' : Option Value} : Map2 s1 s2 m (fun y => if y = s2 then b' else if y = s1 then a' else if y = s2 then b else if y = s1 then a else m y) := ⟨a', b', funext fun y => by
  by_cases h2 : y = s2
  · simp only [if_pos h2]
  · by_cases h1 : y = s1
    · simp only [if_neg h2, if_pos h1]
    · simp only [if_neg h2, if_neg h1]⟩
section
variable {prog : Program} {w w9 : World} {A : Around} {E : Value → Shared → Prop} {s : Shared} {env : Env} {h₀ : Heap} {target : Expr} {body : List Stmt} {Q : Flow → Shared → Prop}
noncomputable def JW (Mp : (Str → Option Value) → (Str → Option Value) → Prop) (w : World) (a : WAd) (x : Addr × Obj) (pre tl0 : List (Addr × Obj)) (k : Nat) (m₀ : Str → Option Value) (d : D) (m : Str → Option Value) (news : List (Addr × Obj)) : Prop := Mp m₀ m ∧ WJ w a x pre tl0 k d news
theorem turns_W (Mp : (Str → Option Value) → (Str → Option Value) → Prop) (hMp : ∀ m, Mp m m) (dd : Nat → D) {a : WAd} {x : Addr × Obj} {pre tl0 tl : List (Addr × Obj)} {k : Nat} {R : Addr} {vs : List Value} {n : Nat} {v0 : WV} {m₀ : Str → Option Value}
    (hh : A.handled = none) (F : Fr h₀ env.locals s.heap m₀) (N : News h₀ env.locals s.heap (x :: (pre ++ v0.led a tl))) (hR : (R, listOf vs.toArray n) ∈ tl0) (htl : ∀ p ∈ tl0, p ∈ tl) (fr : Front (x :: pre) (v0.led a tl)) (R0 : WR w9 a v0 (dd 0) k tl)
    (step : ∀ I i (v : Value) m₁ v1 tl1 h tk oI, vs[i]? = some v → Mp m₀ m₁ → (∀ p ∈ tl0, p ∈ tl1) → Fr h₀ env.locals h m₁ → News h₀ env.locals h ((I, oI) :: x :: (pre ++ v1.led a tl1)) → Front ((I, oI) :: x :: pre) (v1.led a tl1) → WR w9 a v1 (dd i) k tl1 → (∀ q ∈ x :: pre, q.1 ≠ I) →
      wpAny (model prog w) A (assign target env v) (fun _ s₃ => wpAny (model prog w) A (execs body env) (TurnPost h₀ env.locals I oI (JW Mp w9 a x pre tl0 k m₀ (dd (i + 1))) { s with heap := h, toks := tk } Q) E s₃) E { s with heap := h, toks := tk })
    (done : ∀ m₁ v1 tl1 h tk, Mp m₀ m₁ → (∀ p ∈ tl0, p ∈ tl1) → Fr h₀ env.locals h m₁ → News h₀ env.locals h (x :: (pre ++ v1.led a tl1)) → Front (x :: pre) (v1.led a tl1) → WR w9 a v1 (dd vs.length) k tl1 → Q .next { s with heap := h, toks := tk }) :
    wpAny (model prog w) A (pyIter (.ref R)) (fun it s₂ => TurnsAt prog w A h₀ env target body Q E it s₂) E s :=
  turns_list (news := x :: (pre ++ v0.led a tl)) (fun i m news => JW Mp w9 a x pre tl0 k m₀ (dd i) m news) hh F N (.tail _ (mem_app_r (led_tl (htl _ hR)))) ⟨hMp _, v0, tl, rfl, htl, fr, R0⟩
    (fun i m₁ news₁ j => by
      obtain ⟨_, v1, tl1, rfl, h1, _⟩ := j
      exact .tail _ (mem_app_r (led_tl (h1 _ hR))))
    (fun I i v m₁ news₁ h tk oI hv j F' N' o => by
      obtain ⟨j1, v1, tl1, rfl, h1, h2, h3⟩ := j
      exact step I i v m₁ v1 tl1 h tk oI hv j1 h1 F' N' (Front.cons h2 fun q hq => o q (.tail _ (mem_app_r hq))) h3 fun q hq => by
        rcases List.mem_cons.mp hq with rfl | hq
        · exact o _ (.head _)
        · exact o _ (.tail _ (mem_app_l hq)))
    fun m₁ news₁ h tk j F' N' => by
      obtain ⟨j1, v1, tl1, rfl, h1, h2, h3⟩ := j
      exact done m₁ v1 tl1 h tk j1 h1 F' N' h2 h3
theorem turn_end {Mp : (Str → Option Value) → (Str → Option Value) → Prop} {d : D} {a : WAd} {x : Addr × Obj} {pre tl0 tl : List (Addr × Obj)} {k : Nat} {v0 : WV} {m₀ m' : Str → Option Value} {L I : Addr} {oI : Obj} {h' : Heap} {tk : Nat} (F : Fr h₀ L h' m') (N : News h₀ L h' ((I, oI) :: x :: (pre ++ v0.led a tl))) (hM : Mp m₀ m') (htl : ∀ p ∈ tl0, p ∈ tl)
    (fr : Front ((I, oI) :: x :: pre) (v0.led a tl)) (R0 : WR w9 a v0 d k tl) (hx : ∀ q ∈ x :: pre, q.1 ≠ I) : Hid (TurnPost h₀ L I oI (JW Mp w9 a x pre tl0 k m₀ d) s Q .next { s with heap := h', toks := tk }) :=
  ⟨h', tk, m', x :: (pre ++ v0.led a tl), rfl, F, N, fun q hq => by
    rcases List.mem_cons.mp hq with rfl | hq
    · exact hx _ (.head _)
    · rcases List.mem_append.mp hq with hq | hq
      · exact hx _ (.tail _ hq)
      · exact fr _ (.head _) q hq, hM, v0, tl, rfl, htl, fun p hp => fr p (.tail _ hp), R0⟩
end
theorem ArrsAre.get {news : List (Addr × Obj)} : ∀ {vs : List Value} {fs : List Fly}, ArrsAre news vs fs → ∀ (i : Nat) (v : Value), vs[i]? = some v → ∃ f, fs[i]? = some f ∧ ArrIs news v f
  | [], [], _, i, v, h => by simp at h
  | v :: vs, f :: fs, x, 0, u, h => by
    simp at h
    subst h
    exact ⟨f, rfl, x.1⟩
  | v :: vs, f :: fs, x, i + 1, u, h => by
    simp only [List.getElem?_cons_succ] at h ⊢
    exact ArrsAre.get x.2 i u h
theorem camsOf_succ {t g : Int} {fs : List Fly} {i : Nat} {f : Fly} (h : fs[i]? = some f) : camsOf t g (fs.take (i + 1)) = camsOf t g (fs.take i) ++ (if f.goal = g then [⟨t, f.due⟩] else []) := by
  unfold camsOf
  rw [List.take_succ, h, List.flatMap_append]
  simp
/-- the state when i of the arrived are handed over -/
noncomputable def handD (t : Int) (fs : List Fly) (d : D) (i : Nat) : D := { d with cm0 := d.cm0 ++ camsOf t 0 (fs.take i), cm1 := d.cm1 ++ camsOf t 1 (fs.take i) }
theorem handD_0 {t : Int} {fs : List Fly} {d : D} {i : Nat} {f : Fly} (h : fs[i]? = some f) (g : f.goal = 0) : handD t fs d (i + 1) = { handD t fs d i with cm0 := (handD t fs d i).cm0 ++ [⟨t, f.due⟩] } := by
  unfold handD
  rw [camsOf_succ h, camsOf_succ h, if_pos g, if_neg (by omega), List.append_nil, List.append_assoc]
theorem handD_1 {t : Int} {fs : List Fly} {d : D} {i : Nat} {f : Fly} (h : fs[i]? = some f) (g : f.goal = 1) : handD t fs d (i + 1) = { handD t fs d i with cm1 := (handD t fs d i).cm1 ++ [⟨t, f.due⟩] } := by
  unfold handD
  rw [camsOf_succ h, camsOf_succ h, if_pos g, if_neg (by omega), List.append_nil, List.append_assoc]
theorem camsOf_one {t g : Int} {fs : List Fly} : (camsOf t g fs).length ≤ fs.length := by
  induction fs with
  | nil => exact Nat.le_refl _
  | cons f fs ih =>
    unfold camsOf at ih ⊢
    rw [List.flatMap_cons, List.length_append]
    by_cases h : f.goal = g
    · rw [if_pos h]; simp only [List.length_cons, List.length_nil]; omega
    · rw [if_neg h]; simp only [List.length_cons, List.length_nil]; omega
theorem in_led {w : World} {A : WAd} {v : WV} {d : D} {k : Nat} {tl : List (Addr × Obj)} {p : Addr × Obj} (_R : WR w A v d k tl) (pre : List (Addr × Obj)) (h : p ∈ tl) : p ∈ pre ++ v.led A tl := mem_app_r (led_tl h)
/-- the state when i of the hosts are asked -/
noncomputable def wakeD (t : Int) (e : D) : Nat → D
  | 0 => e
  | 1 => { e with due0 := wakeDue t e.ns0, ns0 := wakeRest t e.ns0 }
  | _ => { e with due0 := wakeDue t e.ns0, ns0 := wakeRest t e.ns0, due1 := wakeDue t e.ns1, ns1 := wakeRest t e.ns1 }
theorem WR.as {w : World} {A : WAd} {v : WV} {d d' : D} {k : Nat} {tl : List (Addr × Obj)} (R : WR w A v d k tl) (e1 : d'.n = d.n) (e2 : d'.fs = d.fs) (e3 : d'.due0 = d.due0) (e4 : d'.due1 = d.due1) (e5 : d'.ns0 = d.ns0) (e6 : d'.ns1 = d.ns1) (e7 : d'.cm0 = d.cm0) (e8 : d'.cm1 = d.cm1) : WR w A v d' k tl := by
  obtain ⟨now, steps, n, fs, due0, due1, ns0, ns1, cm0, cm1⟩ := d
  obtain ⟨now', steps', n', fs', due0', due1', ns0', ns1', cm0', cm1'⟩ := d'
  dsimp only at e1 e2 e3 e4 e5 e6 e7 e8
  subst e1 e2 e3 e4 e5 e6 e7 e8
  exact ⟨R.gN, R.bk0, R.bk1, R.du0, R.du1, R.fa, R.i0, R.i1, R.ca0, R.ca1, R.lf, R.nd, R.off⟩
theorem wakeDue_cons {t a : Int} {r : List Int} (h : a ≤ t) : wakeDue t (a :: r) = some a := if_pos h
theorem wakeDue_late {t a : Int} {r : List Int} (h : ¬ a ≤ t) : wakeDue t (a :: r) = none := if_neg h
theorem wakeRest_cons {t a : Int} {r : List Int} (h : a ≤ t) : wakeRest t (a :: r) = r := if_pos h
theorem wakeRest_late {t a : Int} {r : List Int} (h : ¬ a ≤ t) : wakeRest t (a :: r) = a :: r := if_neg h
theorem off_world {A : WAd} {v : WV} {pre tl : List (Addr × Obj)} {o : Obj} {dW : Addr} (fw : ∀ p ∈ pre, p.1 ≠ dW) (fr : Front ((dW, o) :: pre) (v.led A tl)) : ∀ p ∈ pre ++ v.led A tl, p.1 ≠ dW := fun p hp => by
  rcases List.mem_append.mp hp with h | h
  · exact fw p h
  · exact fr _ (.head _) p h
section
local macro_rules | `(tactic| walk_at "callWith ref") => `(tactic| kctr_use)
local macro_rules | `(tactic| walk_at "call ref") => `(tactic| ((fail_if_success (with_reducible show wpAny _ _ (call (Value.ref 133) _) _ _ _)); refine stop_here ?_))
local macro_rules | `(tactic| walk_at "exec For Name Attribute cons nil") => `(tactic| walk_at "exec For Tuple")
set_option maxHeartbeats 8000000 in
theorem step_call : ∀ {w : World} {s : Shared} {L : Addr} {env : Env} {outer : List Env} {dp u : Nat} {g : Option (List Code)} {A₀ : Around} {h₀ base : Heap} {m mg mb : Str → Option Value} {p : Program} {loose : List Str} {mean : ExcName → Option Value} {pre tl : List (Addr × Obj)}
   {W dW NW dN fl ch hl h0 h1 b0 b1 l0 l1 c0 c1 : Addr} {nC nH : Nat} {v : WV} {d : D} {k : Nat} {esW : List DictEntry} {nW : Nat} {A : WAd} {Q : Value → Shared → Prop} {E : Value → Shared → Prop} (_eA : A = ⟨W, dW, NW, dN, fl, ch, hl, h0, h1, b0, b1, l0, l1, c0, c1, nC, nH⟩)
   (_B : Below A₀ base outer h₀) (_C : Hid (CodeHd base 312 308)) (_F : Fr h₀ L s.heap m) (_X : (headK w.params).In h₀) (_T : Top p loose mean mg mb h₀)
   (_N : News h₀ L s.heap ((dW, dictOf esW nW) :: (pre ++ v.led A tl))) (_fr : Front ((dW, dictOf esW nW) :: pre) (v.led A tl)) (_fw : ∀ p ∈ pre, p.1 ≠ dW) (_np : ∀ p ∈ pre, ∀ xs n, p.2 ≠ tupOf xs n) (_R : WR w A v d (2 * k) tl) (_st : Stat A tl)
   (_gW : WorldEs esW hl NW d.now d.steps) (_ok : OkD k d) (_k15 : k ≤ 15)
   (_hf : env.frame = some L) (_hk : env.scope.kind = .function) (_hd : dp < 600) (_hu : u < 7000)
   (_K : ∀ v' tl' esW' nW' h' tk, (∀ p ∈ tl, p ∈ tl') → Fr h₀ L h' m → News h₀ L h' ((dW, dictOf esW' nW') :: (pre ++ v'.led A tl')) → Front ((dW, dictOf esW' nW') :: pre) (v'.led A tl') → WR w A v' (stepD d).1 (2 * (k + 1)) tl' →
      WorldEs esW' hl NW (stepD d).1.now (stepD d).1.steps → Q (.bool (stepD d).2) { s with heap := h', toks := tk }),
   wpAny (model PySem.Challenge.rw_rg0253_01.row.prog w) (mkA env outer dp g u) (call (.ref 133) [.ref W]) Q E s := by
  k_fill
  intro w s L env outer dp u g A₀ h₀ base m mg mb p loose mean pre tl W dW NW dN fl ch hl h0 h1 b0 b1 l0 l1 c0 c1 nC nH v d k esW nW A Q E eA B C F X T N fr fw np R st gW ok k15 hf hk hd hu K
  have gW0 := gW
  refine WorldEs.elim gW fun wt1 wt2 wle wg1 wg2 wg3 wg4 wg5 wg6 wg7 wg8 => ?_; clear gW
  have mW : (W, instObj 143 dW) ∈ pre ++ v.led A tl := by have := st.mW; rw [eA] at this; exact mem_app_r (led_tl this)
  subst eA
  k_steps
  refine Hid.out ?_
  k_dflt (refine' sendallR (pre := (dW, dictOf esW nW) :: pre) ?B C ?F ?X ?T ?N fr R st (.head _) gW0 ?lw ?lf ?hf ?hk ?hd ?_)
  case B => k_asm
  case F => k_asm
  case X => k_asm
  case T => k_asm
  case N => k_asm
  case lw => have := ok.lf; omega
  case lf => omega
  case hf => exact rfl
  case hk => exact rfl
  case hd => (try simp only [depth_under_make, depth_under_kw, depth_in1, depth_deeper, depth_caller]); (try dsimp only [mkA]); omega
  intro v1 tl1 r1 h1' tk1 sub1 F1 N1 fr1 R1
  have st1 := st.mono sub1
  have mW1 := st1.memW v1 pre
  dsimp only at mW1
  simp only [List.cons_append] at N1
  k_steps
  refine Hid.out ?_
  k_dflt (refine' worldnextR (pre := (dW, dictOf esW nW) :: pre) ?B C ?F ?X ?T ?N R1 st1 (.head _) gW0 ?lw ?hf ?hk ?hd ?hu ?_)
  case B => k_asm
  case F => k_asm
  case X => k_asm
  case T => k_asm
  case N => k_asm
  case lw => have := ok.send.lf; omega
  case hf => exact rfl
  case hk => exact rfl
  case hd => (try simp only [depth_under_make, depth_under_kw, depth_in1, depth_deeper, depth_caller]); (try dsimp only [mkA]); omega
  case hu => (simp only [units_deeper, units_in1, mkA]; omega)
  intro r2 o2 h2' tk2 F2 N2 ho2 hl2
  simp only [List.cons_append] at N2
  have hL2 := least_uniq (leastOf_is _) hl2
  cases o2 with
  | none =>
    have e2 : r2 = .none := ho2
    subst e2
    k_steps
    have es : stepD d = (sendD d, false) := by unfold stepD; rw [hL2]
    rename (Fr h₀ L _ m) => F9
    rename (News h₀ L _ _) => N9
    rw [es] at K
    exact K v1 tl1 _ _ _ _ sub1 F9 N9 fr1 R1 gW0
  | some x =>
    obtain ⟨tx, e2⟩ := ho2
    subst e2
    have fw1 := off_world fw fr1
    have mN1 := st1.memN v1 pre
    dsimp only at mN1
    have mD1 := Stat.memdN (A := ⟨W, dW, NW, dN, fl, ch, hl, h0, h1, b0, b1, l0, l1, c0, c1, nC, nH⟩) v1 pre tl1
    dsimp only at mD1
    obtain ⟨z1, z2, z3, z4, z5, z6, z7, z8, z9, z10, z11, z12, ga1⟩ := R1.gN
    have et : (if x > d.now then x else d.now) = advT x (sendD d) := by show _ = max d.now x; split <;> omega
    k_steps
    refine Hid.out ?_
    rename (getL _ _ = some (some (Value.int (ite _ _ _) (ite _ _ _)))) => gnow
    rw [et] at gnow ⊢
    k_dflt (refine' arrivedR (pre := _ :: pre) ?B ?F ?X ?T ?N fr1.swap R1 st1 (np_cons np) ok.send.io ?lw ?hf ?hk ?hd ?_)
    case B => k_asm
    case F => k_asm
    case X => k_asm
    case T => k_asm
    case N => k_asm
    case lw => have := ok.send.lf; omega
    case hf => exact rfl
    case hk => exact rfl
    case hd => (try simp only [depth_under_make, depth_under_kw, depth_in1, depth_deeper, depth_caller]); (try dsimp only [mkA]); omega
    intro v2 tl2 R0 nR rs h3' tk3 sub2 F3 N3 fr3 R3 hR0 ar3
    simp only [List.cons_append] at N3
    have hfs : ∀ f ∈ List.filter (fun f => decide (f.arr ≤ advT x (sendD d))) (sendD d).fs, f.goal = 0 ∨ f.goal = 1 := fun f hf => (ok.send.fl f (List.mem_filter.mp hf).1).2.2.1
    have hcl : (sendD d).cm0.length + (List.filter (fun f => decide (f.arr ≤ advT x (sendD d))) (sendD d).fs).length ≤ 100 ∧ (sendD d).cm1.length + (List.filter (fun f => decide (f.arr ≤ advT x (sendD d))) (sendD d).fs).length ≤ 100 := by
      have h1 := ok.send.lf
      have h2 := List.length_filter_le (fun f => decide (f.arr ≤ advT x (sendD d))) (sendD d).fs
      omega
    refine HostAt.elim st.H0 fun dh0 es0 n0 f01 f02 f03 f04 cb0 cn0 obc0 onc0 tn0 x1 x2 x3 x4 x5 x6 x7 x8 x9 x10 x11 x12 x13 x14 => ?_
    refine HostAt.elim st.H1 fun dh1 es1 n1 f11 f12 f13 f14 cb1 cn1 obc1 onc1 tn1 y1 y2 y3 y4 y5 y6 y7 y8 y9 y10 y11 y12 y13 y14 => ?_
    dsimp only at x1 y1 x12 y12
    have up2 : ∀ p ∈ tl, p ∈ tl2 := fun p hp => sub2 p (sub1 p hp)
    k_steps
    refine Hid.out ?_
    generalize hfa : List.filter (fun f => decide (f.arr ≤ advT x (sendD d))) (sendD d).fs = fa at *
    refine turns_W (w9 := w) (k := 2 * k + 2) (Map3 (Str.ofString "goal") (Str.ofString "path") (Str.ofString "datagram")) (fun _ => Map3.self) (handD (advT x (sendD d)) fa { sendD d with fs := (sendD d).fs.filter fun f => decide (advT x (sendD d) < f.arr) }) (by exact rfl) F3 N3 hR0 (fun _ h => h) fr3 ?r0 ?step ?done
    case r0 => (unfold handD; simp only [List.take_zero, camsOf, List.flatMap_nil, List.append_nil]; exact R3)
    case step =>
      intro I4 i4 v4 m4 v5 tl5 h4' tk4 oI4 hv4 hm4 sub4 F4 N4 fr4 R4 hx4
      obtain ⟨f4, hf4, T4, ta, tb, tc, nT4, e4, hT4⟩ := ar3.get i4 v4 hv4
      subst e4
      have hT4' := in_led R4 pre (sub4 _ hT4)
      have up4 : ∀ p ∈ tl, p ∈ tl5 := fun p hp => sub4 p (up2 p hp)
      have st5 := st.mono up4
      have mW5 := st5.memW v5 pre
      have mH5 := st5.memH v5 pre
      dsimp only at mW5 mH5
      obtain ⟨ma, mb', mc, e4⟩ := hm4
      subst e4
      rcases hfs f4 (List.mem_of_getElem? hf4) with g4 | g4
      · rw [g4] at hT4'
        have z1 := in_led R4 pre (up4 _ x1)
        have z2 := in_led R4 pre (up4 _ x2)
        obtain ⟨pmA, cA, ctA, hA0⟩ := x10.obj
        have z3 := in_led R4 pre (up4 _ hA0)
        have hA : (f04, kla_obj _ _ _ _ _ _ _ _ _) ∈ pre ++ _ := z3
        clear hA0 z3
        k_steps
        refine Hid.out ?_
        k_dflt (refine' receiveR0 (pre := (I4, oI4) :: _ :: pre) ?B C ?F ?X ?T (x10.mono up4) (up4 _ x11) x12 ?N fr4 R4 ?lc ?hf ?hk ?hd ?hu ?_)
        case B => k_asm
        case F => k_asm
        case X => k_asm
        case T => k_asm
        case N => k_asm
        case lc =>
          have h1 := camsOf_one (t := advT x (sendD d)) (g := 0) (fs := fa.take i4)
          have h2 : (fa.take i4).length ≤ fa.length := by rw [List.length_take]; omega
          show ((sendD d).cm0 ++ camsOf (advT x (sendD d)) 0 (fa.take i4)).length ≤ 100
          rw [List.length_append]
          omega
        case hf => exact rfl
        case hk => exact rfl
        case hd => (try simp only [depth_under_make, depth_under_kw, depth_in1, depth_deeper, depth_caller]); (try dsimp only [mkA]); omega
        case hu => (simp only [units_deeper, units_in1, mkA]; omega)
        intro v6 tl6 r6 h6' tk6 sub6 F6 N6 fr6 R6
        simp only [List.cons_append] at N6
        k_steps
        k_dflt (refine' turn_end ?F ?N Map3.again (fun p hp => sub6 p (sub4 p hp)) fr6 ?R hx4)
        case F => k_asm
        case N => k_asm
        case R => rw [handD_0 hf4 g4]; exact R6
      · rw [g4] at hT4'
        have z1 := in_led R4 pre (up4 _ y1)
        have z2 := in_led R4 pre (up4 _ y2)
        obtain ⟨pmA, cA, ctA, hA0⟩ := y10.obj
        have z3 := in_led R4 pre (up4 _ hA0)
        have hA : (f14, kla_obj _ _ _ _ _ _ _ _ _) ∈ pre ++ _ := z3
        clear hA0 z3
        k_steps
        refine Hid.out ?_
        k_dflt (refine' receiveR1 (pre := (I4, oI4) :: _ :: pre) ?B C ?F ?X ?T (y10.mono up4) (up4 _ y11) y12 ?N fr4 R4 ?lc ?hf ?hk ?hd ?hu ?_)
        case B => k_asm
        case F => k_asm
        case X => k_asm
        case T => k_asm
        case N => k_asm
        case lc =>
          have h1 := camsOf_one (t := advT x (sendD d)) (g := 1) (fs := fa.take i4)
          have h2 : (fa.take i4).length ≤ fa.length := by rw [List.length_take]; omega
          show ((sendD d).cm1 ++ camsOf (advT x (sendD d)) 1 (fa.take i4)).length ≤ 100
          rw [List.length_append]
          omega
        case hf => exact rfl
        case hk => exact rfl
        case hd => (try simp only [depth_under_make, depth_under_kw, depth_in1, depth_deeper, depth_caller]); (try dsimp only [mkA]); omega
        case hu => (simp only [units_deeper, units_in1, mkA]; omega)
        intro v6 tl6 r6 h6' tk6 sub6 F6 N6 fr6 R6
        simp only [List.cons_append] at N6
        k_steps
        k_dflt (refine' turn_end ?F ?N Map3.again (fun p hp => sub6 p (sub4 p hp)) fr6 ?R hx4)
        case F => k_asm
        case N => k_asm
        case R => rw [handD_1 hf4 g4]; exact R6
    case done =>
      intro m7 v7 tl7 h7' tk7 hm7 sub7 F7 N7 fr7 R7
      obtain ⟨ma, mb', mc, e7⟩ := hm7
      subst e7
      have up7 : ∀ p ∈ tl, p ∈ tl7 := fun p hp => sub7 p (up2 p hp)
      have st7 := st.mono up7
      have mW7 := st7.memW v7 pre
      have mH7 := st7.memH v7 pre
      dsimp only at mW7 mH7
      k_steps
      refine Hid.out ?_
      refine turns_W (w9 := w) (k := 2 * k + 2) (vs := [.ref h0, .ref h1]) (Map2 (Str.ofString "host") (Str.ofString "time")) (fun _ => Map2.self) (wakeD (advT x (sendD d)) (handD (advT x (sendD d)) fa { sendD d with fs := (sendD d).fs.filter fun f => decide (advT x (sendD d) < f.arr) } rs.length)) (by exact rfl) (by assumption) N7 st7.mH (fun _ h => h) fr7 R7 ?step2 ?done2
      case step2 =>
        intro I9 i9 v9 m9 v8 tl9 h9' tk9 oI9 hv9 hm9 sub9 F9 N9 fr9 R9 hx9
        obtain ⟨na, nb, e9⟩ := hm9
        subst e9
        have up9 : ∀ p ∈ tl, p ∈ tl9 := fun p hp => sub9 p (up7 p hp)
        have st9 := st.mono up9
        have mW9 := st9.memW v8 pre
        dsimp only at mW9
        obtain _ | _ | i9 := i9
        · -- host 0
          have e9 : v9 = .ref h0 := (Option.some.inj hv9).symm
          subst e9
          have z1 := in_led R9 pre (up9 _ x1)
          have z2 := in_led R9 pre (up9 _ x2)
          obtain ⟨pmA, cA, ctA, hA0⟩ := x7.obj
          have z3 := in_led R9 pre (up9 _ hA0)
          have hA : (f01, kla_obj _ _ _ _ _ _ _ _ _) ∈ pre ++ _ := z3
          clear hA0 z3
          obtain ⟨pmB, cB, ctB, hB0⟩ := x8.obj
          have z4 := in_led R9 pre (up9 _ hB0)
          have hB : (f02, kla_obj _ _ _ _ _ _ _ _ _) ∈ pre ++ _ := z4
          clear hB0 z4
          k_steps
          refine Hid.out ?_
          k_dflt (refine' hostnextR0 (pre := (I9, oI9) :: _ :: pre) ?B C ?F ?X ?T (x7.mono up9) (up9 _ x11) x12 ?N R9 ?hf ?hk ?hd ?hu ?_)
          case B => k_asm
          case F => k_asm
          case X => k_asm
          case T => k_asm
          case N => k_asm
          case hf => exact rfl
          case hk => exact rfl
          case hd => (try simp only [depth_under_make, depth_under_kw, depth_in1, depth_deeper, depth_caller]); (try dsimp only [mkA]); omega
          case hu => (simp only [units_deeper, units_in1, mkA]; omega)
          intro r10 h10' tk10 F10 N10 ho10
          simp only [List.cons_append] at N10
          have ho11 : OptVal r10 d.ns0.head? := ho10
          cases hn : d.ns0 with
          | nil =>
            rw [hn] at ho11
            have e10 : r10 = .none := ho11
            subst e10
            k_steps
            k_dflt (refine' turn_end ?F ?N Map2.again sub9 fr9 ?R hx9)
            case F => k_asm
            case N => k_asm
            case R => exact R9.as rfl rfl (by show wakeDue _ d.ns0 = none; rw [hn]; rfl) rfl (by show wakeRest _ d.ns0 = d.ns0; rw [hn]; rfl) rfl rfl rfl
          | cons a r =>
            rw [hn] at ho11
            obtain ⟨ta, e10⟩ := ho11
            subst e10
            by_cases ha : a ≤ advT x (sendD d)
            · k_steps
              refine Hid.out ?_
              k_dflt (refine' ontimeR0 (pre := (I9, oI9) :: _ :: pre) (a := a) (r := r) ?B C ?F ?X ?T (x8.mono up9) (up9 _ x11) x12 ?N fr9 R9 ?e1 ?e2 ?a0 ?a1 ?lr ?hf ?hk ?hd ?hu ?_)
              case B => k_asm
              case F => k_asm
              case X => k_asm
              case T => k_asm
              case N => k_asm
              case hf => exact rfl
              case hk => exact rfl
              case hd => (try simp only [depth_under_make, depth_under_kw, depth_in1, depth_deeper, depth_caller]); (try dsimp only [mkA]); omega
              case hu => (simp only [units_deeper, units_in1, mkA]; omega)
              case e1 => exact hn
              case e2 => rfl
              case a0 => exact (ok.n0 a (by rw [hn]; exact .head _)).1
              case a1 => exact (ok.n0 a (by rw [hn]; exact .head _)).2
              case lr => have h9 := ok.m0; rw [hn] at h9; simp only [List.length_cons] at h9; omega
              intro v11 r11 h11' tk11 F11 N11 fr11 R11
              simp only [List.cons_append] at N11
              k_steps
              k_dflt (refine' turn_end ?F ?N Map2.again sub9 fr11 ?R hx9)
              case F => k_asm
              case N => k_asm
              case R => exact R11.as rfl rfl (by show wakeDue _ d.ns0 = some a; rw [hn]; exact wakeDue_cons ha) rfl (by show wakeRest _ d.ns0 = r; rw [hn]; exact wakeRest_cons ha) rfl rfl rfl
            · k_steps
              k_dflt (refine' turn_end ?F ?N Map2.again sub9 fr9 ?R hx9)
              case F => k_asm
              case N => k_asm
              case R => exact R9.as rfl rfl (by show wakeDue _ d.ns0 = none; rw [hn]; exact wakeDue_late ha) rfl (by show wakeRest _ d.ns0 = d.ns0; rw [hn]; exact wakeRest_late ha) rfl rfl rfl
        · -- host 1
          have e9 : v9 = .ref h1 := (Option.some.inj hv9).symm
          subst e9
          have z1 := in_led R9 pre (up9 _ y1)
          have z2 := in_led R9 pre (up9 _ y2)
          obtain ⟨pmA, cA, ctA, hA0⟩ := y7.obj
          have z3 := in_led R9 pre (up9 _ hA0)
          have hA : (f11, kla_obj _ _ _ _ _ _ _ _ _) ∈ pre ++ _ := z3
          clear hA0 z3
          obtain ⟨pmB, cB, ctB, hB0⟩ := y8.obj
          have z4 := in_led R9 pre (up9 _ hB0)
          have hB : (f12, kla_obj _ _ _ _ _ _ _ _ _) ∈ pre ++ _ := z4
          clear hB0 z4
          k_steps
          refine Hid.out ?_
          k_dflt (refine' hostnextR1 (pre := (I9, oI9) :: _ :: pre) ?B C ?F ?X ?T (y7.mono up9) (up9 _ y11) y12 ?N R9 ?hf ?hk ?hd ?hu ?_)
          case B => k_asm
          case F => k_asm
          case X => k_asm
          case T => k_asm
          case N => k_asm
          case hf => exact rfl
          case hk => exact rfl
          case hd => (try simp only [depth_under_make, depth_under_kw, depth_in1, depth_deeper, depth_caller]); (try dsimp only [mkA]); omega
          case hu => (simp only [units_deeper, units_in1, mkA]; omega)
          intro r10 h10' tk10 F10 N10 ho10
          simp only [List.cons_append] at N10
          have ho11 : OptVal r10 d.ns1.head? := ho10
          cases hn : d.ns1 with
          | nil =>
            rw [hn] at ho11
            have e10 : r10 = .none := ho11
            subst e10
            k_steps
            k_dflt (refine' turn_end ?F ?N Map2.again sub9 fr9 ?R hx9)
            case F => k_asm
            case N => k_asm
            case R => exact R9.as rfl rfl rfl (by show wakeDue _ d.ns1 = none; rw [hn]; rfl) rfl (by show wakeRest _ d.ns1 = d.ns1; rw [hn]; rfl) rfl rfl
          | cons a r =>
            rw [hn] at ho11
            obtain ⟨ta, e10⟩ := ho11
            subst e10
            by_cases ha : a ≤ advT x (sendD d)
            · k_steps
              refine Hid.out ?_
              k_dflt (refine' ontimeR1 (pre := (I9, oI9) :: _ :: pre) (a := a) (r := r) ?B C ?F ?X ?T (y8.mono up9) (up9 _ y11) y12 ?N fr9 R9 ?e1 ?e2 ?a0 ?a1 ?lr ?hf ?hk ?hd ?hu ?_)
              case B => k_asm
              case F => k_asm
              case X => k_asm
              case T => k_asm
              case N => k_asm
              case hf => exact rfl
              case hk => exact rfl
              case hd => (try simp only [depth_under_make, depth_under_kw, depth_in1, depth_deeper, depth_caller]); (try dsimp only [mkA]); omega
              case hu => (simp only [units_deeper, units_in1, mkA]; omega)
              case e1 => exact hn
              case e2 => rfl
              case a0 => exact (ok.n1 a (by rw [hn]; exact .head _)).1
              case a1 => exact (ok.n1 a (by rw [hn]; exact .head _)).2
              case lr => have h9 := ok.m1; rw [hn] at h9; simp only [List.length_cons] at h9; omega
              intro v11 r11 h11' tk11 F11 N11 fr11 R11
              simp only [List.cons_append] at N11
              k_steps
              k_dflt (refine' turn_end ?F ?N Map2.again sub9 fr11 ?R hx9)
              case F => k_asm
              case N => k_asm
              case R => exact R11.as rfl rfl rfl (by show wakeDue _ d.ns1 = some a; rw [hn]; exact wakeDue_cons ha) rfl (by show wakeRest _ d.ns1 = r; rw [hn]; exact wakeRest_cons ha) rfl rfl
            · k_steps
              k_dflt (refine' turn_end ?F ?N Map2.again sub9 fr9 ?R hx9)
              case F => k_asm
              case N => k_asm
              case R => exact R9.as rfl rfl rfl (by show wakeDue _ d.ns1 = none; rw [hn]; exact wakeDue_late ha) rfl (by show wakeRest _ d.ns1 = d.ns1; rw [hn]; exact wakeRest_late ha) rfl rfl
        · exact absurd hv9 (by simp)
      case done2 =>
        intro m12 v12 tl12 h12' tk12 hm12 sub12 F12 N12 fr12 R12
        obtain ⟨na, nb, e12⟩ := hm12
        subst e12
        k_steps
        have es : stepD d = (advD x (sendD d), true) := by unfold stepD; rw [hL2]
        rw [es] at K
        have hlen : rs.length = fa.length := ar3.length
        refine K v12 tl12 _ _ _ _ (fun p hp => sub12 p (up7 p hp)) (by with_reducible assumption) (by with_reducible assumption) fr12 (R12.as rfl rfl rfl rfl rfl rfl ?_ ?_) ?_
        · show (sendD d).cm0 ++ camsOf _ 0 (List.filter (fun f => decide (f.arr ≤ advT x (sendD d))) (sendD d).fs) = (sendD d).cm0 ++ camsOf _ 0 (fa.take rs.length)
          rw [hfa, hlen, List.take_length]
        · show (sendD d).cm1 ++ camsOf _ 1 (List.filter (fun f => decide (f.arr ≤ advT x (sendD d))) (sendD d).fs) = (sendD d).cm1 ++ camsOf _ 1 (fa.take rs.length)
          rw [hfa, hlen, List.take_length]
        · show WorldEs _ hl NW (advT x (sendD d)) (d.steps + 1)
          exact ⟨by omega, by with_reducible assumption, by with_reducible assumption, ⟨_, gnow⟩, ⟨_, by with_reducible assumption⟩, by with_reducible assumption, by with_reducible assumption, by with_reducible assumption, by with_reducible assumption⟩
end

end
section
theorem off26 : True := by
  w_top off
  trivial
/-! ## the run: up to most steps -/
section
variable {prog : Program} {w : World} {A : Around} {E : Value → Shared → Prop} {s : Shared} {env : Env} {h₀ : Heap} {x : Str} {px : Pos} {body : List Stmt} {Q : Flow → Shared → Prop}
theorem letGo_name {it v : Value} {Q' : Unit → Shared → Prop} (h : Q' () s) : wpAny (model prog w) A (letOwnedTupleGo (.Name x px) it v) Q' E s := by
  unfold letOwnedTupleGo
  exact wpAny_pure h
theorem turns_range {r : Addr} {b : Int} {t₀ u₀ v₀ : Tok} {m₀ : Str → Option Value} {news : List (Addr × Obj)} (J : Nat → (Str → Option Value) → List (Addr × Obj) → Prop)
    (hh : A.handled = none) (hr : IsRange s.heap r 0 b 1 t₀ u₀ v₀) (hb : -1000 ≤ b) (hb' : b ≤ 1000) (F : Fr h₀ env.locals s.heap m₀) (N : News h₀ env.locals s.heap news) (j0 : J 0 m₀ news)
    (step : ∀ I (i : Nat) t m₁ news₁ h tk oI, i < b.toNat → J i m₁ news₁ → Fr h₀ env.locals h m₁ → News h₀ env.locals h ((I, oI) :: news₁) → (∀ q ∈ news₁, q.1 ≠ I) → (∀ xs n, oI ≠ tupOf xs n) →
      wpAny (model prog w) A (assign (.Name x px) env (.int (i : Int) t)) (fun _ s₃ => wpAny (model prog w) A (execs body env) (TurnPost h₀ env.locals I oI (J (i + 1)) { s with heap := h, toks := tk } Q) E s₃) E { s with heap := h, toks := tk })
    (done : ∀ m₁ news₁ h tk, J b.toNat m₁ news₁ → Fr h₀ env.locals h m₁ → News h₀ env.locals h news₁ → Q .next { s with heap := h, toks := tk }) :
    wpAny (model prog w) A (pyIter (.ref r)) (fun it s₂ => TurnsAt prog w A h₀ env (.Name x px) body Q E it s₂) E s := by
  have hn : Builtin.Range.rangeSize 0 b 1 = (b.toNat : Int) := by rw [rangeSize_nat]; simp
  refine wpAny_pyIter_range hr (small_one (by decide) (by decide) (by omega) (by omega)) ?_
  have W := KTurns.ofWalks (target := .Name x px) (Walks.range (prog := prog) (w := w) hh s.heap.objs.size 0 1 b.toNat) fun i v s Q E st q => letGo_name q
  refine ⟨_, _, _, b.toNat, _, _, _, m₀, news, J, rfl, W, ?_, ?_, ?_, ?_, F.push _, fun p hp => ⟨Heap.get?_push_of_some _ (N p hp).1, (N p hp).2⟩, j0, ?_, ?_⟩
  · intro hI
    exact absurd F.ns.lt ((List.mem_singleton.mp hI) ▸ Nat.lt_irrefl _)
  · intro b hb
    rw [List.mem_singleton.mp hb]
    exact next_is_new F
  · intro p hp hI
    exact absurd (Heap.lt_size (N p hp).1) ((List.mem_singleton.mp hI) ▸ Nat.lt_irrefl _)
  · show IsRangeIter _ _ _ _ _
    rw [hn]
    simpa using Heap.get?_push_size _ rfl
  · intro i v m₁ news₁ h₁ tk₁ own hi hP hJ hnw hown hget hmem hst F₁ N₁
    obtain ⟨t, rfl⟩ := hP
    have e1 : (0 : Int) + (i : Int) * 1 = (i : Int) := by omega
    rw [e1]
    have hI₀ : h₀.get? s.heap.objs.size = none := next_is_new F
    obtain ⟨oI, noI, mI⟩ : ∃ oI, (∀ xs n, oI ≠ tupOf xs n) ∧ (s.heap.objs.size, oI) ∈ own := ⟨_, fun xs n e => absurd (congrArg Obj.cls e) (by simp), hmem s.heap.objs.size (by simp) hI₀ _ hst⟩
    have hoff : ∀ q ∈ news₁, q.1 ≠ s.heap.objs.size := fun q hq e => hnw q hq (by rw [e]; simp)
    refine wpAny_mono (step s.heap.objs.size i t m₁ news₁ h₁ tk₁ oI hi hJ F₁ (fun p hp => ?_) hoff noI) (fun _ s₃ h₃ => wpAny_mono h₃ (fun f s₄ h₄ => ?_) fun _ _ e => e) fun _ _ e => e
    · rcases List.mem_cons.mp hp with rfl | hp
      · exact N₁ _ (List.mem_append.mpr (.inl mI))
      · exact N₁ _ (List.mem_append.mpr (.inr hp))
    · have fin : ∀ {oI : Obj}, (s.heap.objs.size, oI) ∈ own → TurnEnd h₀ env.locals s.heap.objs.size oI (J (i + 1)) { s with heap := h₁, toks := tk₁ } s₄ → LoopStepU h₀ env.locals [s.heap.objs.size] own (J (i + 1)) { s with heap := h₁, toks := tk₁ } .next s₄ := by
        rintro oI mI ⟨h', tk, m', news', e, F', N', ho, hj⟩
        refine ⟨rfl, h', tk, m', news', e, F', fun p hp => ?_, fun p hp q => ho p hp (List.mem_singleton.mp q), hj⟩
        rcases List.mem_append.mp hp with hp | hp
        · have e1 := List.mem_singleton.mp (hown p hp)
          have g1 := hget p hp
          have g2 := hget _ mI
          rw [e1] at g1
          have e2 : p = (s.heap.objs.size, oI) := Prod.ext e1 (Option.some.inj (g1.symm.trans g2))
          rw [e2]; exact N' _ (.head _)
        · exact N' p (.tail _ hp)
      cases f with
      | ret v => exact .ret h₄
      | brk => exact .brk h₄
      | next => exact .next (fin mI h₄)
      | cont => exact .cont (fin mI h₄)
  · intro h' tk m' news' F' N' _ hJ
    exact done m' news' h' tk hJ F' N'
theorem turns_rangeM {r : Addr} {b : Int} {t₀ u₀ v₀ : Tok} {m₀ : Str → Option Value} {news : List (Addr × Obj)} (J : (Str → Option Value) → Nat → (Str → Option Value) → List (Addr × Obj) → Prop)
    (hh : A.handled = none) (hr : IsRange s.heap r 0 b 1 t₀ u₀ v₀) (hb : -1000 ≤ b) (hb' : b ≤ 1000) (F : Fr h₀ env.locals s.heap m₀) (N : News h₀ env.locals s.heap news) (j0 : J m₀ 0 m₀ news)
    (step : ∀ I (i : Nat) t m₁ news₁ h tk oI, i < b.toNat → J m₀ i m₁ news₁ → Fr h₀ env.locals h m₁ → News h₀ env.locals h ((I, oI) :: news₁) → (∀ q ∈ news₁, q.1 ≠ I) → (∀ xs n, oI ≠ tupOf xs n) →
      wpAny (model prog w) A (assign (.Name x px) env (.int (i : Int) t)) (fun _ s₃ => wpAny (model prog w) A (execs body env) (TurnPost h₀ env.locals I oI (J m₀ (i + 1)) { s with heap := h, toks := tk } Q) E s₃) E { s with heap := h, toks := tk })
    (done : ∀ m₁ news₁ h tk, J m₀ b.toNat m₁ news₁ → Fr h₀ env.locals h m₁ → News h₀ env.locals h news₁ → Q .next { s with heap := h, toks := tk }) :
    wpAny (model prog w) A (pyIter (.ref r)) (fun it s₂ => TurnsAt prog w A h₀ env (.Name x px) body Q E it s₂) E s := turns_range (J m₀) hh hr hb hb' F N j0 step done
end
theorem swap_sub {a b : Addr × Obj} {l : List (Addr × Obj)} : ∀ p ∈ a :: ([b] ++ l), p ∈ b :: a :: l := fun p hp => by
  simp only [List.mem_cons, List.cons_append, List.nil_append] at hp ⊢
  rcases hp with h | h | h <;> simp [h]
theorem swap_back {a b : Addr × Obj} {l : List (Addr × Obj)} : ∀ p ∈ b :: a :: l, p ∈ a :: ([b] ++ l) := fun p hp => by
  simp only [List.mem_cons, List.cons_append, List.nil_append] at hp ⊢
  rcases hp with h | h | h <;> simp [h]
noncomputable def Map1 (s1 : Str) (m₀ m : Str → Option Value) : Prop := ∃ a, m = fun y => if y = s1 then a else m₀ y
theorem Map1.self {s1 : Str} {m : Str → Option Value} : Map1 s1 m m := ⟨m s1, funext fun y => by
  by_cases h1 : y = s1
  · rw [if_pos h1, h1]
  · rw [if_neg h1]⟩
theorem Map1.again {s1 : Str} {m : Str → Option Value} {a a' : Option Value} : Map1 s1 m (fun y => if y = s1 then a' else if y = s1 then a else m y) := ⟨a', funext fun y => by
  by_cases h1 : y = s1
  · simp only [if_pos h1]
  · simp only [if_neg h1]⟩
noncomputable def iterD : Nat → D → D
  | 0, d => d
  | i + 1, d => (stepD (iterD i d)).1
theorem iterD_succ (i : Nat) (d : D) : iterD (i + 1) d = iterD i (stepD d).1 := by
  induction i with
  | zero => rfl
  | succ i ih => show (stepD (iterD (i + 1) d)).1 = (stepD (iterD i (stepD d).1)).1; rw [ih]
theorem run_iter : ∀ (i r : Nat) (d : D), (∀ j < i, (stepD (iterD j d)).2 = true) → runD (i + r) d = ((runD r (iterD i d)).1 + i, (runD r (iterD i d)).2)
  | 0, r, d, _ => by rw [Nat.zero_add]; rfl
  | i + 1, r, d, h => by
    have h0 : (stepD d).2 = true := h 0 (by omega)
    have ih := run_iter i r (stepD d).1 fun j hj => by rw [← iterD_succ]; exact h (j + 1) (by omega)
    rw [show i + 1 + r = (i + r) + 1 by omega]
    show (if (stepD d).2 = true then _ else _) = _
    rw [if_pos h0, ih, iterD_succ]
    rfl
theorem run_stop {i n : Nat} {d : D} (hi : i < n) (h : ∀ j < i, (stepD (iterD j d)).2 = true) (e : (stepD (iterD i d)).2 = false) : runD n d = (i, (stepD (iterD i d)).1) := by
  obtain ⟨r, rfl⟩ : ∃ r, n = i + (r + 1) := ⟨n - i - 1, by omega⟩
  rw [run_iter i (r + 1) d h]
  show ((if (stepD (iterD i d)).2 = true then _ else _ : Nat × D).1 + i, (if (stepD (iterD i d)).2 = true then _ else _ : Nat × D).2) = _
  rw [e]
  simp
theorem run_full {n : Nat} {d : D} (h : ∀ j < n, (stepD (iterD j d)).2 = true) : runD n d = (n, iterD n d) := by
  have := run_iter n 0 d h
  rw [Nat.add_zero] at this
  rw [this]
  show (0 + n, _) = _
  rw [Nat.zero_add]
  rfl
theorem iterD_ok {d : D} (h : OkD 0 d) : ∀ i, (∀ j < i, (stepD (iterD j d)).2 = true) → OkD i (iterD i d)
  | 0, _ => h
  | i + 1, hj => stepD_ok (iterD_ok h i fun j hj' => hj j (by omega)) (hj i (by omega))
section
local macro_rules | `(tactic| walk_at "call ref") => `(tactic| ((fail_if_success (with_reducible show wpAny _ _ (call (Value.ref 140) _) _ _ _)); refine stop_here ?_))
local macro_rules | `(tactic| walk_at "exec For Name Call cons nil") => `(tactic| walk_at "exec For Tuple")
set_option maxHeartbeats 8000000 in
theorem run_call : ∀ {w : World} {s : Shared} {L : Addr} {env : Env} {outer : List Env} {dp u : Nat} {g : Option (List Code)} {A₀ : Around} {h₀ base : Heap} {m mg mb : Str → Option Value} {p : Program} {loose : List Str} {mean : ExcName → Option Value} {tl : List (Addr × Obj)}
   {W dW NW dN fl ch hl h0 h1 b0 b1 l0 l1 c0 c1 : Addr} {nC nH : Nat} {v : WV} {d : D} {most : Int} {tm : Tok} {esW : List DictEntry} {nW : Nat} {A : WAd} {Q : Value → Shared → Prop} {E : Value → Shared → Prop} (_eA : A = ⟨W, dW, NW, dN, fl, ch, hl, h0, h1, b0, b1, l0, l1, c0, c1, nC, nH⟩)
   (_B : Below A₀ base outer h₀) (_C : Hid (CodeHd base 312 308)) (_F : Fr h₀ L s.heap m) (_X : (headK w.params).In h₀) (_T : Top p loose mean mg mb h₀)
   (_N : News h₀ L s.heap ((dW, dictOf esW nW) :: v.led A tl)) (_fr : Front [(dW, dictOf esW nW)] (v.led A tl)) (_R : WR w A v d 0 tl) (_st : Stat A tl)
   (_gW : WorldEs esW hl NW d.now d.steps) (_ok : OkD 0 d) (_m0 : -10 ≤ most) (_m1 : most ≤ 12)
   (_hf : env.frame = some L) (_hk : env.scope.kind = .function) (_hd : dp < 500) (_hu : u < 6000)
   (_K : ∀ v' tl' k' esW' nW' t9 h' tk, (∀ p ∈ tl, p ∈ tl') → Fr h₀ L h' m → News h₀ L h' ((dW, dictOf esW' nW') :: v'.led A tl') → WR w A v' (runD most.toNat d).2 k' tl' → WorldEs esW' hl NW (runD most.toNat d).2.now (runD most.toNat d).2.steps →
      Q (.int ((runD most.toNat d).1 : Int) t9) { s with heap := h', toks := tk }),
   wpAny (model PySem.Challenge.rw_rg0253_01.row.prog w) (mkA env outer dp g u) (call (.ref 140) [.ref W, .int most tm]) Q E s := by
  k_fill
  intro w s L env outer dp u g A₀ h₀ base m mg mb p loose mean tl W dW NW dN fl ch hl h0 h1 b0 b1 l0 l1 c0 c1 nC nH v d most tm esW nW A Q E eA B C F X T N fr R st gW ok m0 m1 hf hk hd hu K
  subst eA
  k_steps
  refine Hid.out ?_
  k_dflt (refine' range1_rows ?F ?N ?_)
  case F => k_asm
  case N => k_asm
  intro h1' tk1 ta tb tc hr1 F1 N1 old1
  clear old1
  k_steps
  refine Hid.out ?_
  refine turns_rangeM (fun m₀ i m news => Map1 (Str.ofString "turn") m₀ m ∧ (∃ esW nW v tl1, news = (dW, dictOf esW nW) :: v.led ⟨W, dW, NW, dN, fl, ch, hl, h0, h1, b0, b1, l0, l1, c0, c1, nC, nH⟩ tl1 ∧ (∀ p ∈ tl, p ∈ tl1) ∧ Front [(dW, dictOf esW nW)] (v.led ⟨W, dW, NW, dN, fl, ch, hl, h0, h1, b0, b1, l0, l1, c0, c1, nC, nH⟩ tl1) ∧
    WR w ⟨W, dW, NW, dN, fl, ch, hl, h0, h1, b0, b1, l0, l1, c0, c1, nC, nH⟩ v (iterD i d) (2 * i) tl1 ∧ WorldEs esW hl NW (iterD i d).now (iterD i d).steps) ∧ ∀ j < i, (stepD (iterD j d)).2 = true) (by exact rfl) hr1 (by omega) (by omega) F1 N1 ?j0 ?step ?done
  case j0 => exact ⟨Map1.self, ⟨_, _, v, tl, rfl, fun _ h => h, fr, R, gW⟩, fun j hj => absurd hj (Nat.not_lt_zero _)⟩
  case step =>
    intro I2 i2 t2 m2 news2 h2' tk2 oI2 hi2 j2 F2 N2 o2 no2
    obtain ⟨⟨ma, e2⟩, ⟨esW2, nW2, v2, tl2, e3, sub2, fr2, R2, gW2⟩, ht2⟩ := j2
    subst e2 e3
    have st2 := st.mono sub2
    have mW2 := st2.memW v2 [(dW, dictOf esW2 nW2)]
    have gW3 := gW2
    refine WorldEs.elim gW2 fun wt1 wt2 wle wg1 wg2 wg3 wg4 wg5 wg6 wg7 wg8 => ?_; clear gW2
    simp only [List.cons_append, List.nil_append] at mW2
    k_steps
    refine Hid.out ?_
    k_dflt (refine' step_call (pre := [(I2, oI2)]) (k := i2) rfl ?B C ?F ?X ?T ?N ?fr ?fw ?np R2 st2 gW3 (iterD_ok ok i2 ht2) ?k15 ?hf ?hk ?hd ?hu ?_)
    case B => k_asm
    case F => k_asm
    case X => k_asm
    case T => k_asm
    case N => exact News.of_sub (by k_asm) swap_sub
    case fr =>
      intro p hp
      rcases List.mem_cons.mp hp with rfl | hp
      · exact fr2 _ (.head _)
      · rw [List.mem_singleton.mp hp]; exact fun q hq => o2 q (.tail _ hq)
    case fw => exact fun p hp => by rw [List.mem_singleton.mp hp]; exact Ne.symm (o2 _ (.head _))
    case np => exact fun p hp => by rw [List.mem_singleton.mp hp]; exact no2
    case k15 => omega
    case hf => exact rfl
    case hk => exact rfl
    case hd => (try simp only [depth_under_make, depth_under_kw, depth_in1, depth_deeper, depth_caller]); (try dsimp only [mkA]); omega
    case hu => (simp only [units_deeper, units_in1, mkA]; omega)
    intro v3 tl3 esW3 nW3 h3' tk3 sub3 F3 N3 fr3 R3 gW4
    have N4 := News.of_sub N3 (l' := (I2, oI2) :: (dW, dictOf esW3 nW3) :: v3.led ⟨W, dW, NW, dN, fl, ch, hl, h0, h1, b0, b1, l0, l1, c0, c1, nC, nH⟩ tl3) swap_back
    clear N3
    cases hb : (stepD (iterD i2 d)).2 with
    | false =>
      have er := run_stop hi2 ht2 hb
      k_steps
      refine Hid.out ?_
      dsimp only [TurnPost]
      k_steps
      rw [er] at K
      refine K v3 tl3 _ esW3 nW3 _ _ _ (fun p hp => sub3 p (sub2 p hp)) (by with_reducible assumption) (News.of_sub (by with_reducible assumption) fun p hp => .tail _ hp) R3 gW4
    | true =>
      k_steps
      refine Hid.out ?_
      refine ⟨_, _, _, _, rfl, by k_asm, by k_asm, fun q hq => ?_, Map1.again, ⟨esW3, nW3, v3, tl3, rfl, fun p hp => sub3 p (sub2 p hp), fun p hp => fr3 p (by rw [List.mem_singleton.mp hp]; exact .head _), R3, gW4⟩, fun j hj => ?_⟩
      · rcases List.mem_cons.mp hq with rfl | hq
        · exact o2 (dW, dictOf esW2 nW2) (.head _)
        · exact fr3 (I2, oI2) (.tail _ (.head _)) q hq
      · rcases Nat.lt_succ_iff_lt_or_eq.mp hj with h | h
        · exact ht2 j h
        · rw [h]; exact hb
  case done =>
    intro m5 news5 h5' tk5 j5 F5 N5
    obtain ⟨⟨ma, e2⟩, ⟨esW5, nW5, v5, tl5, e3, sub5, fr5, R5, gW5⟩, ht5⟩ := j5
    subst e2 e3
    k_steps
    have er := run_full ht5
    rw [er] at K
    have em : (if most > 0 then most else 0) = ((most.toNat : Nat) : Int) := by split <;> omega
    rw [em]
    exact K v5 tl5 _ esW5 nW5 _ _ _ sub5 (by with_reducible assumption) (by with_reducible assumption) R5 gW5
end

end
section
/-! ## the law's own loop: its frame's map, its rows -/
noncomputable def LMap (m₀ : Str → Option Value) (rw wk cm W bk : Addr) (most : Int) (tmost : Tok) (fl tm mn on : Option Value) : Str → Option Value := fun y =>
  if y = (Str.ofString "flying") then fl else if y = (Str.ofString "times") then tm else if y = (Str.ofString "many") then mn else if y = (Str.ofString "one") then on else if y = (Str.ofString "rows") then some (.ref rw) else if y = (Str.ofString "woken") then some (.ref wk) else
  if y = (Str.ofString "came") then some (.ref cm) else if y = (Str.ofString "most") then some (.int most tmost) else if y = (Str.ofString "world") then some (.ref W) else if y = (Str.ofString "books") then some (.ref bk) else m₀ y
section
variable {m₀ : Str → Option Value} {rw wk cm W bk : Addr} {most : Int} {tmost : Tok} {fl tm mn on v : Option Value}
theorem LMap_fl : (fun y => if y = (Str.ofString "flying") then v else LMap m₀ rw wk cm W bk most tmost fl tm mn on y) = LMap m₀ rw wk cm W bk most tmost v tm mn on := funext fun y => by
  unfold LMap
  by_cases h : y = Str.ofString "flying"
  · simp only [if_pos h]
  · simp only [if_neg h]
theorem LMap_tm : (fun y => if y = (Str.ofString "times") then v else LMap m₀ rw wk cm W bk most tmost fl tm mn on y) = LMap m₀ rw wk cm W bk most tmost fl v mn on := funext fun y => by
  unfold LMap
  by_cases h : y = Str.ofString "times"
  · subst h; simp only [if_pos, if_neg (show ¬ Str.ofString "times" = Str.ofString "flying" by decide)]
  · simp only [if_neg h]
theorem LMap_mn : (fun y => if y = (Str.ofString "many") then v else LMap m₀ rw wk cm W bk most tmost fl tm mn on y) = LMap m₀ rw wk cm W bk most tmost fl tm v on := funext fun y => by
  unfold LMap
  by_cases h : y = Str.ofString "many"
  · subst h; simp only [if_pos, if_neg (show ¬ Str.ofString "many" = Str.ofString "flying" by decide), if_neg (show ¬ Str.ofString "many" = Str.ofString "times" by decide)]
  · simp only [if_neg h]
theorem LMap_on : (fun y => if y = (Str.ofString "one") then v else LMap m₀ rw wk cm W bk most tmost fl tm mn on y) = LMap m₀ rw wk cm W bk most tmost fl tm mn v := funext fun y => by
  unfold LMap
  by_cases h : y = Str.ofString "one"
  · subst h; simp only [if_pos, if_neg (show ¬ Str.ofString "one" = Str.ofString "flying" by decide), if_neg (show ¬ Str.ofString "one" = Str.ofString "times" by decide), if_neg (show ¬ Str.ofString "one" = Str.ofString "many" by decide)]
  · simp only [if_neg h]
end
noncomputable def wBody : List Stmt := defBody (lawBody.getD 6 (.Pass ⟨0, 0, 0, 0⟩))
noncomputable def wStmt (k : Nat) : Stmt := wBody.getD k (.Pass ⟨0, 0, 0, 0⟩)
/-- a flight as the law keeps it -/
noncomputable def FlyL (news : List (Addr × Obj)) (v : Value) (f : Fly) : Prop := ∃ T t1 t2 t3 nT, v = .ref T ∧ (T, tupOf [.int f.arr t1, .int f.goal t2, .int f.due t3] nT) ∈ news
noncomputable def FlysL (news : List (Addr × Obj)) : List Value → List Fly → Prop
  | [], [] => True
  | v :: vs, f :: fs => FlyL news v f ∧ FlysL news vs fs
  | _, _ => False
theorem FlyL.mono {news news' : List (Addr × Obj)} (hs : ∀ p ∈ news, p ∈ news') {v : Value} {f : Fly} (h : FlyL news v f) : FlyL news' v f :=
  let ⟨T, t1, t2, t3, nT, e, hm⟩ := h; ⟨T, t1, t2, t3, nT, e, hs _ hm⟩
theorem FlysL.mono {news news' : List (Addr × Obj)} (hs : ∀ p ∈ news, p ∈ news') : ∀ {vs : List Value} {fs : List Fly}, FlysL news vs fs → FlysL news' vs fs
  | [], [], _ => trivial
  | _ :: _, _ :: _, h => ⟨h.1.mono hs, h.2.mono hs⟩
theorem FlysL.append {news : List (Addr × Obj)} : ∀ {vs ws : List Value} {fs gs : List Fly}, FlysL news vs fs → FlysL news ws gs → FlysL news (vs ++ ws) (fs ++ gs)
  | [], _, [], _, _, k => k
  | _ :: _, _, _ :: _, _, h, k => ⟨h.1, h.2.append k⟩
theorem FlysL.length {news : List (Addr × Obj)} : ∀ {vs : List Value} {fs : List Fly}, FlysL news vs fs → vs.length = fs.length
  | [], [], _ => rfl
  | _ :: _, _ :: _, h => congrArg (· + 1) h.2.length
theorem FlysL.get {news : List (Addr × Obj)} : ∀ {vs : List Value} {fs : List Fly}, FlysL news vs fs → ∀ (i : Nat) (v : Value), vs[i]? = some v → FlyL news v (fs.getD i noFly)
  | [], [], _, i, v, h => by simp at h
  | v :: vs, f :: fs, x, 0, u, h => by
    simp at h
    subst h
    exact x.1
  | v :: vs, f :: fs, x, i + 1, u, h => by
    simp at h
    exact FlysL.get x.2 i u h
theorem FlysL.tups {news : List (Addr × Obj)} {vs : List Value} {fs : List Fly} (x : FlysL news vs fs) : TupsAre news (fun i => (fs.getD i noFly).arr) vs := fun i v h => by
  obtain ⟨T, t1, t2, t3, nT, e, hm⟩ := x.get i v h
  exact ⟨T, t1, _, nT, e, hm⟩
noncomputable abbrev CellIs (o : Obj) (v : Value) : Prop := o.data = .cell (some v)
/-- an octet woken, or none -/
noncomputable def WokeIs (vs : List Value) (due : Option Int) : Prop := match due with
  | none => vs = []
  | some x => ∃ t, vs = [Value.int x t]

section
variable {prog : Program} {w : World} {A : Around} {E : Value → Shared → Prop} {s : Shared} {h₀ : Heap} {L a b : Addr} {m : Str → Option Value} {news : List (Addr × Obj)}
theorem add_led {vs ws : List Value} {n1 n2 : Nat} {Q : Value → Shared → Prop} (F : Fr h₀ L s.heap m) (N : News h₀ L s.heap news) (m1 : (a, listOf (List.toArray vs) n1) ∈ news) (m2 : (b, listOf (List.toArray ws) n2) ∈ news) (hz : vs.length + ws.length ≤ 1000)
    (h : ∀ D h', Fr h₀ L h' m → News h₀ L h' ((D, listOf (List.toArray (vs ++ ws)) 0) :: news) → (∀ q ∈ news, q.1 ≠ D) → Q (.ref D) { s with heap := h' }) : wpAny (model prog w) A (binaryOp .Add (.ref a) (.ref b)) Q E s :=
  add_lists F N ⟨_, (N _ m1).1, rfl, n1, rfl⟩ ⟨_, (N _ m2).1, rfl, n2, rfl⟩ (fun h' F' N' => h _ h' F' N' fun q hq => Nat.ne_of_lt (Heap.lt_size (N q hq).1)) (by rw [sizeLine_eq]; omega)
end

theorem comp_end1 {h₀ : Heap} {L I C D : Addr} {m : Str → Option Value} {s₁ : Shared} {oI oC oD : Obj} {S : List (Addr × Obj) → Prop} {rest : Value → List (Addr × Obj) → Prop} {y : Value} {h' : Heap} {tk : Nat} {a1 : Addr} {o1 : Obj} {tl : List (Addr × Obj)}
    (F : Fr h₀ L h' m) (N : News h₀ L h' ((a1, o1) :: (I, oI) :: (C, oC) :: (D, oD) :: tl)) (x1 : (@Ne Nat a1 I) ∧ (@Ne Nat a1 C) ∧ (@Ne Nat a1 D)) (off : LCg.Off3 I C D tl) (hS : S ((a1, o1) :: tl)) (r : rest y ((a1, o1) :: tl)) :
    LCg.CompEnd h₀ L m s₁ I oI C oC D oD S rest y { s₁ with heap := h', toks := tk } := ⟨h', tk, (a1, o1) :: tl, rfl, F, News.of_sub N (perm_sub (A := [(I, oI), (C, oC), (D, oD), (a1, o1)]) (B := [(a1, o1), (I, oI), (C, oC), (D, oD)]) [1, 2, 3, 0] rfl), And.intro x1 off, hS, r⟩

end
section
theorem off28 : True := by
  w_top off
  trivial
/-! ## the law's sending: for at in range(2): flying = flying + [..]; woken[at] = [] -/
noncomputable def partA (now g n : Int) (due : Option Int) : List Fly := due.toList.map fun x => ⟨now + 10, n, g, x⟩
noncomputable def cntA (n : Int) : Option Int → Int
  | none => n
  | some _ => n + 1
theorem sentOf_parts (now n : Int) (a b : Option Int) : sentOf now n a b = partA now 1 n a ++ partA now 0 (cntA n a) b := by cases a <;> cases b <;> rfl
noncomputable def fsA (d : D) : Nat → List Fly
  | 0 => d.fs
  | 1 => d.fs ++ partA d.now 1 d.n d.due0
  | _ => (d.fs ++ partA d.now 1 d.n d.due0) ++ partA d.now 0 (cntA d.n d.due0) d.due1
theorem partA_len {now g n : Int} {due : Option Int} : (partA now g n due).length ≤ 1 := by cases due <;> simp [partA]
theorem fsA_len {d : D} {i : Nat} : (fsA d i).length ≤ d.fs.length + 2 := by
  have h1 := partA_len (now := d.now) (g := 1) (n := d.n) (due := d.due0)
  have h2 := partA_len (now := d.now) (g := 0) (n := cntA d.n d.due0) (due := d.due1)
  obtain _ | _ | i := i
  · exact Nat.le_add_right _ _
  · show (d.fs ++ _).length ≤ _
    rw [List.length_append]; omega
  · show ((d.fs ++ _) ++ _).length ≤ _
    rw [List.length_append, List.length_append]; omega
noncomputable def dueA (due : Option Int) (k : Nat) (i : Nat) : Option Int := if i ≤ k then due else none
noncomputable def JA (L wk : Addr) (mk : Option Value → Str → Option Value) (tl : List (Addr × Obj)) (av : List Addr) (fs : List Fly) (due0 due1 : Option Int) (m : Str → Option Value) (news : List (Addr × Obj)) : Prop :=
  ∃ oa va fl fvs nf w0 vs0 n0 w1 vs1 n1 nw tl', m = mk (some (.ref fl)) ∧ news = (L + 1 + 1, oa) :: (wk, listOf #[.ref w0, .ref w1] nw) :: (w0, listOf (List.toArray vs0) n0) :: (w1, listOf (List.toArray vs1) n1) :: tl' ∧ oa.data = .cell va ∧
    (∀ p ∈ tl, p ∈ tl') ∧ (fl, listOf (List.toArray fvs) nf) ∈ tl' ∧ FlysL tl' fvs fs ∧ WokeIs vs0 due0 ∧ WokeIs vs1 due1 ∧ [L + 1 + 1, wk, w0, w1].Nodup ∧ (∀ a ∈ [L + 1 + 1, wk, w0, w1], ∀ p ∈ tl', p.1 ≠ a) ∧ fl ∉ av
theorem JA_end {h₀ h' : Heap} {L wk I : Addr} {oI : Obj} {mk : Option Value → Str → Option Value} {tl all own tl' : List (Addr × Obj)} {av : List Addr} {fs : List Fly} {due0 due1 : Option Int} {s₁ : Shared} {tk : Nat} {Q : Flow → Shared → Prop} {oa : Obj} {va : Option Value} {fl w0 w1 : Addr} {fvs vs0 vs1 : List Value} {nf n0 n1 nw : Nat}
    (F : Fr h₀ L h' (mk (some (.ref fl)))) (N : News h₀ L h' all) (hI : (I, oI) ∈ all) (hA : (L + 1 + 1, oa) ∈ all) (hc : oa.data = .cell va) (hW : (wk, listOf #[.ref w0, .ref w1] nw) ∈ all) (h0 : (w0, listOf (List.toArray vs0) n0) ∈ all) (h1 : (w1, listOf (List.toArray vs1) n1) ∈ all)
    (hf : (fl, listOf (List.toArray fvs) nf) ∈ all) (ho : ∀ p ∈ own, p ∈ all) (ht : ∀ p ∈ tl', p ∈ all) (sub : ∀ p ∈ tl, p ∈ tl') (fa : FlysL (own ++ tl') fvs fs) (k0 : WokeIs vs0 due0) (k1 : WokeIs vs1 due1) (nd : [L + 1 + 1, wk, w0, w1].Nodup)
    (o1 : ∀ p ∈ (fl, listOf (List.toArray fvs) nf) :: (own ++ tl'), p.1 ≠ L + 1 + 1) (o2 : ∀ p ∈ (fl, listOf (List.toArray fvs) nf) :: (own ++ tl'), p.1 ≠ wk) (o3 : ∀ p ∈ (fl, listOf (List.toArray fvs) nf) :: (own ++ tl'), p.1 ≠ w0) (o4 : ∀ p ∈ (fl, listOf (List.toArray fvs) nf) :: (own ++ tl'), p.1 ≠ w1)
    (hx : ∀ p ∈ (L + 1 + 1, oa) :: (wk, listOf #[.ref w0, .ref w1] nw) :: (w0, listOf (List.toArray vs0) n0) :: (w1, listOf (List.toArray vs1) n1) :: (fl, listOf (List.toArray fvs) nf) :: (own ++ tl'), p.1 ≠ I) (hav : ∀ a ∈ av, ∃ o, (a, o) ∈ tl) (hfr : ∀ p ∈ tl', p.1 ≠ fl) :
    Hid (TurnPost h₀ L I oI (fun m news => JA L wk mk tl av fs due0 due1 m news) s₁ Q .next { s₁ with heap := h', toks := tk }) := by
  refine ⟨h', tk, _, (L + 1 + 1, oa) :: (wk, listOf #[.ref w0, .ref w1] nw) :: (w0, listOf (List.toArray vs0) n0) :: (w1, listOf (List.toArray vs1) n1) :: (fl, listOf (List.toArray fvs) nf) :: (own ++ tl'), rfl, F, fun p hp => ?_, hx,
    oa, va, fl, fvs, nf, w0, vs0, n0, w1, vs1, n1, nw, (fl, listOf (List.toArray fvs) nf) :: (own ++ tl'), rfl, rfl, hc, fun p hp => .tail _ (List.mem_append.mpr (.inr (sub p hp))), .head _, fa.mono (fun p hp => .tail _ hp), k0, k1, nd, fun a ha => ?_, fun hf => let ⟨o, ho⟩ := hav _ hf; hfr _ (sub _ ho) rfl⟩
  · exact fcons (P := fun p => News h₀ L h' [p]) (News.of_sub N fun _ h => List.mem_singleton.mp h ▸ hI) (fcons (News.of_sub N fun _ h => List.mem_singleton.mp h ▸ hA) (fcons (News.of_sub N fun _ h => List.mem_singleton.mp h ▸ hW) (fcons (News.of_sub N fun _ h => List.mem_singleton.mp h ▸ h0) (fcons (News.of_sub N fun _ h => List.mem_singleton.mp h ▸ h1) (fcons (News.of_sub N fun _ h => List.mem_singleton.mp h ▸ hf) fun p hp => News.of_sub N fun _ h => List.mem_singleton.mp h ▸ (List.mem_append.mp hp).elim (ho p) (ht p)))))) p hp p (.head _)
  · simp only [List.mem_cons, List.not_mem_nil, or_false] at ha
    rcases ha with e | e | e | e <;> subst e
    · exact o1
    · exact o2
    · exact o3
    · exact o4
theorem JA_end1 {h₀ h' : Heap} {L wk I : Addr} {oI : Obj} {mk : Option Value → Str → Option Value} {tl all tl' : List (Addr × Obj)} {av : List Addr} {fs : List Fly} {due0 due1 : Option Int} {s₁ : Shared} {tk : Nat} {Q : Flow → Shared → Prop} {oa : Obj} {va : Option Value} {fl w0 w1 : Addr} {fvs vs0 vs1 : List Value} {nf n0 n1 nw : Nat} (f : Fly) {T : Addr} {t1 t2 t3 : Tok} {nT : Nat}
    (F : Fr h₀ L h' (mk (some (.ref fl)))) (N : News h₀ L h' all) (hI : (I, oI) ∈ all) (hA : (L + 1 + 1, oa) ∈ all) (hc : oa.data = .cell va) (hW : (wk, listOf #[.ref w0, .ref w1] nw) ∈ all) (h0 : (w0, listOf (List.toArray vs0) n0) ∈ all) (h1 : (w1, listOf (List.toArray vs1) n1) ∈ all)
    (hf : (fl, listOf (List.toArray (fvs ++ [.ref T])) nf) ∈ all) (hT : (T, tupOf [.int f.arr t1, .int f.goal t2, .int f.due t3] nT) ∈ all) (ht : ∀ p ∈ tl', p ∈ all) (sub : ∀ p ∈ tl, p ∈ tl') (fa : FlysL tl' fvs fs) (k0 : WokeIs vs0 due0) (k1 : WokeIs vs1 due1) (nd : [L + 1 + 1, wk, w0, w1].Nodup)
    (o1 : ∀ p ∈ (fl, listOf (List.toArray (fvs ++ [.ref T])) nf) :: (T, tupOf [.int f.arr t1, .int f.goal t2, .int f.due t3] nT) :: tl', p.1 ≠ L + 1 + 1) (o2 : ∀ p ∈ (fl, listOf (List.toArray (fvs ++ [.ref T])) nf) :: (T, tupOf [.int f.arr t1, .int f.goal t2, .int f.due t3] nT) :: tl', p.1 ≠ wk)
    (o3 : ∀ p ∈ (fl, listOf (List.toArray (fvs ++ [.ref T])) nf) :: (T, tupOf [.int f.arr t1, .int f.goal t2, .int f.due t3] nT) :: tl', p.1 ≠ w0) (o4 : ∀ p ∈ (fl, listOf (List.toArray (fvs ++ [.ref T])) nf) :: (T, tupOf [.int f.arr t1, .int f.goal t2, .int f.due t3] nT) :: tl', p.1 ≠ w1)
    (hx : ∀ p ∈ (L + 1 + 1, oa) :: (wk, listOf #[.ref w0, .ref w1] nw) :: (w0, listOf (List.toArray vs0) n0) :: (w1, listOf (List.toArray vs1) n1) :: (fl, listOf (List.toArray (fvs ++ [.ref T])) nf) :: (T, tupOf [.int f.arr t1, .int f.goal t2, .int f.due t3] nT) :: tl', p.1 ≠ I) (hav : ∀ a ∈ av, ∃ o, (a, o) ∈ tl) (hfr : ∀ p ∈ tl', p.1 ≠ fl) :
    Hid (TurnPost h₀ L I oI (fun m news => JA L wk mk tl av (fs ++ [f]) due0 due1 m news) s₁ Q .next { s₁ with heap := h', toks := tk }) :=
  JA_end (own := [_]) F N hI hA hc hW h0 h1 hf (List.forall_mem_cons.mpr ⟨hT, List.forall_mem_nil _⟩) ht sub ((fa.mono fun p hp => .tail _ hp).append ⟨⟨T, t1, t2, t3, nT, rfl, .head _⟩, trivial⟩) k0 k1 nd o1 o2 o3 o4 hx hav hfr
section
local macro_rules | `(tactic| walk_at "exec For Name Call cons nil") => `(tactic| (k_here; (rename Fr _ _ _ _ => lF'); (with_unfolding_all refine' For_turns lF' ?_ ?_ ?hE); (case hE => exact PassesOwn.never); (case _ => (intro _; rfl)); k_whole))
local macro_rules | `(tactic| walk_at "CompEnd") => `(tactic| (refine' comp_end1 ?F ?N ?x ?o ?S ?_; kbm_accL; (case x => exact ⟨by k_ne, by k_ne, by k_ne⟩)))
local macro_rules | `(tactic| walk_at "binaryOp Add ref ref") => `(tactic| (k_here; k_dflt (
  refine' add_led ?F ?N ?a ?b ?z ?_
  (case F => k_asm)
  (case N => k_asm)
  (case a => k_mem)
  (case b => k_mem)
  (case z => (simp only [List.length_cons, List.length_nil]; omega))
  (intro D' h' F' N' o1'))))
set_option maxHeartbeats 8000000 in
theorem chunkA : ∀ {w : World} {s : Shared} {L fa : Addr} {cd : Value} {outer : List Env} {dp u : Nat} {g : Option (List Code)} {A₀ : Around} {h₀ base : Heap} {m₀ mg mb : Str → Option Value} {p : Program} {loose : List Str} {mean : ExcName → Option Value} {tl news : List (Addr × Obj)} {av : List Addr}
   {rw wk cm W bk : Addr} {most : Int} {tmost tc : Tok} {m : Str → Option Value} {tm mn on : Option Value} {oc : Obj} {d : D} {Q : Flow → Shared → Prop}
   (_B : Below A₀ base outer h₀) (_F : Fr h₀ L s.heap m) (_X : (headK w.params).In h₀) (_T : Top p loose mean mg mb h₀)
   (_N : News h₀ L s.heap news) (_j : JA L wk (fun fl => LMap m₀ rw wk cm W bk most tmost fl tm mn on) tl av d.fs d.due0 d.due1 m news) (_hav : ∀ a ∈ av, ∃ o, (a, o) ∈ tl)
   (_mc : (L + 1, oc) ∈ tl) (_hc : CellIs oc (.int d.now tc)) (_lf : d.fs.length ≤ 60)
   (_hd : dp < 500) (_hu : u < 6000)
   (_K : ∀ m' news' h' tk, Fr h₀ L h' m' → News h₀ L h' news' → JA L wk (fun fl => LMap m₀ rw wk cm W bk most tmost fl tm mn on) tl av (sendD d).fs none none m' news' → Q .next { s with heap := h', toks := tk }),
   wpAny (model PySem.Challenge.rw_rg0253_01.row.prog w) (mkA (lawEnv L fa cd) outer dp g u) (exec (wStmt 0) (lawEnv L fa cd)) Q (fun _ _ => False) s := by
  k_fill
  intro w s L fa cd outer dp u g A₀ h₀ base m₀ mg mb p loose mean tl news av rw wk cm W bk most tmost tc m tm mn on oc d Q B F X T N j hav mc hc lf hd hu K
  simp only [wStmt, wBody, lawBody, lawEnv, lawScope, lawStmt, defScope, topAt, PySem.Challenge.pw_rg0253_01, defBody, List.drop, List.take, List.getD_cons_succ, List.getD_cons_zero]
  with_unfolding_all refine' For_turns F ?_ ?_ ?hE
  case hE => exact PassesOwn.never
  case refine'_2 => (intro _; rfl)
  k_steps
  refine Hid.out ?_
  k_dflt (refine' range1_rows ?F ?N ?_)
  case F => k_asm
  case N => k_asm
  intro h1' tk1 ta tb tc hr1 F1 N1 old1
  clear old1
  k_steps
  refine Hid.out ?_
  refine turns_rangeM (fun _ i m news => JA L wk (fun fl => LMap m₀ rw wk cm W bk most tmost fl tm mn on) tl av (fsA d i) (dueA d.due0 0 i) (dueA d.due1 1 i) m news) (by exact rfl) hr1 (by omega) (by omega) F1 N1 j ?step ?done
  case step =>
    intro I2 i2 t2 m2 news2 h2' tk2 oI2 hi2 j2 F2 N2 o2 no2
    obtain ⟨oa, va, fl, fvs, nf, w0, vs0, n0, w1, vs1, n1, nw, tl', e2, e3, ha, sub2, mf, fal, k0, k1, nd, off, fln⟩ := j2
    subst e2 e3
    have off1 := off _ (by simp : L + 1 + 1 ∈ [L + 1 + 1, wk, w0, w1])
    have off2 := off _ (by simp : wk ∈ [L + 1 + 1, wk, w0, w1])
    have off3 := off _ (by simp : w0 ∈ [L + 1 + 1, wk, w0, w1])
    have off4 := off _ (by simp : w1 ∈ [L + 1 + 1, wk, w0, w1])
    have mc2 := sub2 _ mc
    simp only [List.nodup_cons, List.mem_cons, List.not_mem_nil, or_false, not_or, List.nodup_nil, not_false_eq_true, and_true] at nd
    obtain ⟨⟨nd1, nd2, nd3⟩, ⟨nd4, nd5⟩, nd6⟩ := nd
    have lfv : fvs.length ≤ 100 := by
      rw [fal.length]
      exact Nat.le_trans fsA_len (by omega)
    obtain _ | _ | i2 := i2
    · cases e0 : d.due0 with
      | none =>
        rw [e0] at k0
        dsimp only [WokeIs, dueA] at k0
        simp only [Nat.le_refl, if_true] at k0
        subst k0
        have ef : fsA d (0 + 1) = d.fs ++ [] := by
          show (d.fs ++ partA d.now 1 d.n d.due0) = _
          rw [e0]; rfl
        change wpAny _ _ (assign _ _ (Value.int 0 t2)) _ _ _
        k_steps
        rename (News h₀ L _ _) => N9
        rename (Fr h₀ L _ _) => F9
        rw [LMap_fl] at F9
        skip
        rw [ef]
        refine' JA_end (L := L) (own := []) (tl' := tl') F9 N9 ?a1 ?a2 ?a3 ?a4 ?a5 ?a6 ?a7 ?a8 ?a9 sub2 (fal.append (ws := []) (gs := []) trivial) ?k0 ?k1 ?nd ?o1 ?o2 ?o3 ?o4 ?hx hav ?hfr
        case a1 => k_memK
        case a2 => k_memK
        case a3 => assumption
        case a4 => k_memK
        case a5 => k_memK
        case a6 => k_memK
        case a7 => k_memK
        case a8 => exact List.forall_mem_nil _
        case a9 => (intro p hp; repeat (first | exact hp | refine List.mem_cons_of_mem _ ?_))
        case k0 => exact rfl
        case k1 => exact k1
        case nd => k_keys
        case o1 => (simp only [List.nil_append, List.cons_append]; k_all)
        case o2 => (simp only [List.nil_append, List.cons_append]; k_all)
        case o3 => (simp only [List.nil_append, List.cons_append]; k_all)
        case o4 => (simp only [List.nil_append, List.cons_append]; k_all)
        case hfr => k_all
        case hx => (simp only [List.nil_append, List.cons_append]; k_all)

      | some x =>
        rw [e0] at k0
        dsimp only [WokeIs, dueA] at k0
        simp only [Nat.le_refl, if_true] at k0
        obtain ⟨tx, k0⟩ := k0
        subst k0
        have ef : fsA d (0 + 1) = d.fs ++ [⟨d.now + 10, d.n, 1, x⟩] := by
          show (d.fs ++ partA d.now 1 d.n d.due0) = _
          rw [e0]; rfl
        change wpAny _ _ (assign _ _ (Value.int 0 t2)) _ _ _
        k_steps
        rename (News h₀ L _ _) => N9
        rename (Fr h₀ L _ _) => F9
        rw [LMap_fl] at F9
        simp only [Int.sub_zero] at N9
        rw [ef]
        refine' JA_end1 (L := L) (tl' := tl') ⟨d.now + 10, d.n, 1, x⟩ F9 N9 ?a1 ?a2 ?a3 ?a4 ?a5 ?a6 ?a7 ?a8 ?a9 sub2 fal ?k0 ?k1 ?nd ?o1 ?o2 ?o3 ?o4 ?hx hav ?hfr
        case a1 => k_memK
        case a2 => k_memK
        case a3 => assumption
        case a4 => k_memK
        case a5 => k_memK
        case a6 => k_memK
        case a7 => k_memK
        case a8 => k_memK
        case a9 => (intro p hp; repeat (first | exact hp | refine List.mem_cons_of_mem _ ?_))
        case k0 => exact rfl
        case k1 => exact k1
        case nd => k_keys
        case o1 => (simp only [List.nil_append, List.cons_append]; k_all)
        case o2 => (simp only [List.nil_append, List.cons_append]; k_all)
        case o3 => (simp only [List.nil_append, List.cons_append]; k_all)
        case o4 => (simp only [List.nil_append, List.cons_append]; k_all)
        case hfr => k_all
        case hx => (simp only [List.nil_append, List.cons_append]; k_all)

    · cases e0 : d.due1 with
      | none =>
        rw [e0] at k1
        dsimp only [WokeIs, dueA] at k1
        simp only [Nat.le_refl, if_true] at k1
        subst k1
        have ef : fsA d (1 + 1) = (d.fs ++ partA d.now 1 d.n d.due0) ++ [] := by
          show ((d.fs ++ partA d.now 1 d.n d.due0) ++ partA d.now 0 (cntA d.n d.due0) d.due1) = _
          rw [e0]; rfl
        change wpAny _ _ (assign _ _ (Value.int 1 t2)) _ _ _
        k_steps
        rename (News h₀ L _ _) => N9
        rename (Fr h₀ L _ _) => F9
        rw [LMap_fl] at F9
        skip
        rw [ef]
        refine' JA_end (L := L) (own := []) (tl' := tl') F9 N9 ?a1 ?a2 ?a3 ?a4 ?a5 ?a6 ?a7 ?a8 ?a9 sub2 (fal.append (ws := []) (gs := []) trivial) ?k0 ?k1 ?nd ?o1 ?o2 ?o3 ?o4 ?hx hav ?hfr
        case a1 => k_memK
        case a2 => k_memK
        case a3 => assumption
        case a4 => k_memK
        case a5 => k_memK
        case a6 => k_memK
        case a7 => k_memK
        case a8 => exact List.forall_mem_nil _
        case a9 => (intro p hp; repeat (first | exact hp | refine List.mem_cons_of_mem _ ?_))
        case k1 => exact rfl
        case k0 => exact k0
        case nd => k_keys
        case o1 => (simp only [List.nil_append, List.cons_append]; k_all)
        case o2 => (simp only [List.nil_append, List.cons_append]; k_all)
        case o3 => (simp only [List.nil_append, List.cons_append]; k_all)
        case o4 => (simp only [List.nil_append, List.cons_append]; k_all)
        case hfr => k_all
        case hx => (simp only [List.nil_append, List.cons_append]; k_all)

      | some x =>
        rw [e0] at k1
        dsimp only [WokeIs, dueA] at k1
        simp only [Nat.le_refl, if_true] at k1
        obtain ⟨tx, k1⟩ := k1
        subst k1
        have ef : fsA d (1 + 1) = (d.fs ++ partA d.now 1 d.n d.due0) ++ [⟨d.now + 10, cntA d.n d.due0, 0, x⟩] := by
          show ((d.fs ++ partA d.now 1 d.n d.due0) ++ partA d.now 0 (cntA d.n d.due0) d.due1) = _
          rw [e0]; rfl
        change wpAny _ _ (assign _ _ (Value.int 1 t2)) _ _ _
        k_steps
        rename (News h₀ L _ _) => N9
        rename (Fr h₀ L _ _) => F9
        rw [LMap_fl] at F9
        simp only [Int.sub_self] at N9
        rw [ef]
        refine' JA_end1 (L := L) (tl' := tl') ⟨d.now + 10, cntA d.n d.due0, 0, x⟩ F9 N9 ?a1 ?a2 ?a3 ?a4 ?a5 ?a6 ?a7 ?a8 ?a9 sub2 fal ?k0 ?k1 ?nd ?o1 ?o2 ?o3 ?o4 ?hx hav ?hfr
        case a1 => k_memK
        case a2 => k_memK
        case a3 => assumption
        case a4 => k_memK
        case a5 => k_memK
        case a6 => k_memK
        case a7 => k_memK
        case a8 => k_memK
        case a9 => (intro p hp; repeat (first | exact hp | refine List.mem_cons_of_mem _ ?_))
        case k1 => exact rfl
        case k0 => exact k0
        case nd => k_keys
        case o1 => (simp only [List.nil_append, List.cons_append]; k_all)
        case o2 => (simp only [List.nil_append, List.cons_append]; k_all)
        case o3 => (simp only [List.nil_append, List.cons_append]; k_all)
        case o4 => (simp only [List.nil_append, List.cons_append]; k_all)
        case hfr => k_all
        case hx => (simp only [List.nil_append, List.cons_append]; k_all)

    · exact absurd hi2 (by simp)
  case done =>
    intro m5 news5 h5' tk5 j5 F5 N5
    refine K m5 news5 h5' tk5 F5 N5 ?_
    have e1 : (sendD d).fs = fsA d (Int.toNat 2) := by
      show d.fs ++ sentOf d.now d.n d.due0 d.due1 = (d.fs ++ partA d.now 1 d.n d.due0) ++ partA d.now 0 (cntA d.n d.due0) d.due1
      rw [sentOf_parts, List.append_assoc]
    rw [e1]
    exact j5
end

end
section
/-! ## [some[0] for some in rows if some != []] -/
section
variable {prog : Program} {w : World} {A : Around} {E : Value → Shared → Prop} {s : Shared} {h₀ : Heap} {L : Addr} {m : Str → Option Value} {env : Env}
/-- each item is a list of ints of the ledger -/
noncomputable def RowsAre (news : List (Addr × Obj)) (rs : Nat → List Int) (vs : List Value) : Prop := ∀ i v, vs[i]? = some v → ∃ r us n, v = .ref r ∧ (r, listOf (List.toArray us) n) ∈ news ∧ IntsAre us (rs i)
theorem src_rows {x : Str} {px p1 p2 p3 p4 p5 p6 : Pos} {kc n : Nat} {scope : Scope} {cl : List (Str × Addr)} {Fin : Shared → List (Addr × Obj) → Nat → (Heap → Nat → Value → Prop) → (Nat → Bool) → Prop} {ax : Addr} {vs : List Value} {news : List (Addr × Obj)} (rs : Nat → List Int)
    (hh : A.handled = none) (F : Fr h₀ L s.heap m) (N : News h₀ L s.heap news) (hm : (ax, listOf (List.toArray vs) n) ∈ news) (ht : RowsAre news rs vs) (hx : scope.names.lookup x = some .local) (hkind : scope.kind = .function) (hd : (x == ("__debug__" : Str)) = false) (hsz : vs.length ≤ sizeLine) (hu : A.units + 64 < cLine)
    (fin : Fin s news vs.length (fun _ i y => ∃ t, y = Value.int ((rs i).headD 0) t) fun i => !decide (rs i = [])) :
    SrcG prog w A h₀ L m env (.Subscript (.Name x p1) (.Constant (.int 0) kc p2) p3) (.Name x px) [.Compare (.Name x p4) [.NotEq] [.List [] p5] p6] scope cl Fin (.ref ax) s := by
  refine ⟨ax, vs, n, news, _, _, rfl, hh, F, N, hm, hsz, fun _ _ _ _ r _ => r, ?_, fin⟩
  intro i v C s₂ m₁ E' hv hns he F₂ N₂ hCL hC₀ hCn
  obtain ⟨r, us, nr, rfl, hr, hi⟩ := ht i v hv
  refine store_x hkind hx hns fun h' hn' hs' => ?_
  have hC2 : C < h'.objs.size := by
    obtain ⟨o, es, ep, e, _⟩ := hn'
    exact Heap.lt_size e
  have N' : News h₀ L h' news := fun q hq => ⟨hs'.extBut _ _ (hCn q hq) (N₂ q hq).1, (N₂ q hq).2⟩
  refine wpAny_tests_one (wpAny_isTrue_Compare1 (read_x (v := .ref r) hkind hx hn' (by simp) hd (List_ (spliced_none (wpAny_newList ?_ (Nat.zero_le _))))) rfl)
  have N3 : News h₀ L (h'.push { cls := .type "list", dict := none, data := .seq ([] : List Value).toArray }) news := N'.grown fun b o e => Heap.get?_push_of_some _ e
  refine ne_intsK ⟨_, (N3 _ hr).1, rfl, nr, rfl⟩ hi ⟨_, Heap.get?_push_size _ rfl, rfl, _, rfl⟩ .nil hu (wpAny_truthy_bool ⟨rfl, fun hp => ?_, fun _ => ?_⟩)
  · have hne : rs i ≠ [] := by simpa using hp
    generalize hri : rs i = ri at hi hne ⊢
    cases hi with
    | nil => exact absurd rfl hne
    | cons a t il =>
      refine Subscript_ (read_x (v := .ref r) hkind hx (hn'.push _) (by simp) hd (wpAny_Constant_int (item_list N3 hr (by decide) (by decide) rfl ?_)))
      exact ⟨⟨t, rfl⟩, _, _, _, rfl, hn'.push _, fun b o hb e => Heap.get?_push_of_some _ (hs'.extBut b o hb e)⟩
  · exact ⟨_, _, _, rfl, hn'.push _, fun b o hb e => Heap.get?_push_of_some _ (hs'.extBut b o hb e)⟩
end
theorem rows_two {news : List (Addr × Obj)} {r0 r1 : Addr} {us0 us1 : List Value} {n0 n1 : Nat} {ns0 ns1 : List Int} (m0 : (r0, listOf (List.toArray us0) n0) ∈ news) (i0 : IntsAre us0 ns0) (m1 : (r1, listOf (List.toArray us1) n1) ∈ news) (i1 : IntsAre us1 ns1) : RowsAre news (fun i => if i = 0 then ns0 else ns1) [.ref r0, .ref r1] := fun i v h => by
  obtain _ | _ | i := i
  · have e := (Option.some.inj h).symm; subst e; exact ⟨r0, us0, n0, rfl, m0, i0⟩
  · have e := (Option.some.inj h).symm; subst e; exact ⟨r1, us1, n1, rfl, m1, i1⟩
  · simp at h
theorem picked_rows {ns0 ns1 : List Int} {ys : List Value} (x : Picked (fun i y => ∃ t, y = Value.int ((if i = 0 then ns0 else ns1).headD 0) t) (fun i => !decide ((if i = 0 then ns0 else ns1) = [])) 2 ys) : IntsAre ys (ns0.head?.toList ++ ns1.head?.toList) := by
  unfold Picked Picked Picked at x
  cases ns0 with
  | nil =>
    cases ns1 with
    | nil =>
      simp at x
      subst x
      exact .nil
    | cons b r1 =>
      simp at x
      obtain ⟨_, _, rfl, rfl, t, rfl⟩ := x
      exact IntsAre.cons b t .nil
  | cons a r0 =>
    cases ns1 with
    | nil =>
      simp at x
      obtain ⟨_, _, rfl, rfl, t, rfl⟩ := x
      exact IntsAre.cons a t .nil
    | cons b r1 =>
      simp at x
      obtain ⟨ys', y, rfl, ⟨_, _, rfl, rfl, t, rfl⟩, t', rfl⟩ := x
      exact IntsAre.cons a t (IntsAre.cons b t' .nil)

end
section
theorem off30 : True := by
  w_top off
  trivial
/-! ## times = [one[0] for one in flying] + [some[0] for some in rows if some != []] -/
section
local macro_rules | `(tactic| walk_at "eval ListComp") => `(tactic| kf1_some)
local macro_rules | `(tactic| walk_at "SrcG") => `(tactic| refine stop_here ?_)
local macro_rules | `(tactic| walk_at "FinEG") => `(tactic| ((unfold FinEG); intro D' h' tk' ys' F' N' o1' P'; (first | (have I' := picked_rows P') | (have I' := picked_ints _ P'))))
local macro_rules | `(tactic| walk_at "binaryOp Add ref ref") => `(tactic| refine stop_here ?_)
set_option maxHeartbeats 8000000 in
theorem chunkB : ∀ {w : World} {s : Shared} {L fa : Addr} {cd : Value} {outer : List Env} {dp u : Nat} {g : Option (List Code)} {A₀ : Around} {h₀ base : Heap} {m₀ mg mb : Str → Option Value} {p : Program} {loose : List Str} {mean : ExcName → Option Value} {news : List (Addr × Obj)}
   {rw wk cm W bk fl r0 r1 : Addr} {most : Int} {tmost : Tok} {tm mn on : Option Value} {d : D} {nf nr n0 n1 : Nat} {fvs us0 us1 : List Value} {Q : Flow → Shared → Prop}
   (_B : Below A₀ base outer h₀) (_F : Fr h₀ L s.heap (LMap m₀ rw wk cm W bk most tmost (some (.ref fl)) tm mn on)) (_X : (headK w.params).In h₀) (_T : Top p loose mean mg mb h₀)
   (_N : News h₀ L s.heap news) (_mf : (fl, listOf (List.toArray fvs) nf) ∈ news) (_fa : FlysL news fvs d.fs) (_mr : (rw, listOf (List.toArray [.ref r0, .ref r1]) nr) ∈ news) (_m0 : (r0, listOf (List.toArray us0) n0) ∈ news) (_i0 : IntsAre us0 d.ns0) (_m1 : (r1, listOf (List.toArray us1) n1) ∈ news) (_i1 : IntsAre us1 d.ns1)
   (_lf : fvs.length ≤ 100)
   (_hd : dp < 500) (_hu : u < 6000)
   (_K : ∀ tml ts nt h' tk, Fr h₀ L h' (LMap m₀ rw wk cm W bk most tmost (some (.ref fl)) (some (.ref tml)) mn on) → News h₀ L h' ((tml, listOf (List.toArray ts) nt) :: news) → (∀ q ∈ news, q.1 ≠ tml) → IntsAre ts (nextsD d) → Q .next { s with heap := h', toks := tk }),
   wpAny (model PySem.Challenge.rw_rg0253_01.row.prog w) (mkA (lawEnv L fa cd) outer dp g u) (exec (wStmt 1) (lawEnv L fa cd)) Q (fun _ _ => False) s := by
  k_fill
  intro w s L fa cd outer dp u g A₀ h₀ base m₀ mg mb p loose mean news rw wk cm W bk fl r0 r1 most tmost tm mn on d nf nr n0 n1 fvs us0 us1 Q B F X T N mf fal mr m0 i0 m1 i1 lf hd hu K
  have lff := fal.length
  simp only [wStmt, wBody, lawBody, lawEnv, lawScope, lawStmt, defScope, topAt, PySem.Challenge.pw_rg0253_01, defBody, List.drop, List.take, List.getD_cons_succ, List.getD_cons_zero]
  k_steps
  refine Hid.out ?_
  first
  | k_dflt (
      refine' src_rows _ ?hh ?F ?N ?hm ?ht ?hx ?hkind ?hd ?hsz ?hu ?_
      (case N => k_asm)
      (case hm => k_mem)
      (case ht => (refine' rows_two ?m0 ?i0 ?m1 ?i1; (case m0 => k_mem); (case i0 => with_reducible assumption); (case m1 => k_mem); (case i1 => with_reducible assumption)))
      kpc_text
      (case hsz => exact Nat.le_of_ble_eq_true rfl)
      (case hu => (simp only [units_deeper, units_in1, mkA, cLine]; omega)))
  | k_dflt (
      refine' src_fst _ ?hh ?F ?N ?hm ?ht ?hx ?hkind ?hd ?hsz ?_
      (case ht => exact FlysL.tups (by with_reducible assumption))
      (case N => k_asm)
      (case hm => k_mem)
      kpc_text
      (case hsz => exact Nat.le_trans (by assumption) (Nat.le_of_ble_eq_true rfl : 100 ≤ sizeLine)))
  k_steps
  refine Hid.out ?_
  first
  | k_dflt (
      refine' src_rows _ ?hh ?F ?N ?hm ?ht ?hx ?hkind ?hd ?hsz ?hu ?_
      (case N => k_asm)
      (case hm => k_mem)
      (case ht => (refine' rows_two ?m0 ?i0 ?m1 ?i1; (case m0 => k_mem); (case i0 => with_reducible assumption); (case m1 => k_mem); (case i1 => with_reducible assumption)))
      kpc_text
      (case hsz => exact Nat.le_of_ble_eq_true rfl)
      (case hu => (simp only [units_deeper, units_in1, mkA, cLine]; omega)))
  | k_dflt (
      refine' src_fst _ ?hh ?F ?N ?hm ?ht ?hx ?hkind ?hd ?hsz ?_
      (case ht => exact FlysL.tups (by with_reducible assumption))
      (case N => k_asm)
      (case hm => k_mem)
      kpc_text
      (case hsz => exact Nat.le_trans (by assumption) (Nat.le_of_ble_eq_true rfl : 100 ≤ sizeLine)))
  k_steps
  refine Hid.out ?_
  rename (IntsAre _ (_ ++ _)) => I2
  rename (IntsAre _ (List.map _ _)) => I1
  have e9 := range_map_getD d.fs noFly
  rw [lff, e9] at I1
  have l1 := IntsAre.length I1
  have l2 := IntsAre.length I2
  have l3 : (d.ns0.head?.toList ++ d.ns1.head?.toList).length ≤ 2 := by cases d.ns0 <;> cases d.ns1 <;> simp
  have I3 := I1.append I2
  k_dflt (refine' add_led ?F ?N ?a ?b ?z ?_)
  case F => k_asm
  case N => k_asm
  case a => k_memK
  case b => k_memK
  case z => simp only [List.length_map] at l1; omega
  intro tml h9 F9 N9 o9
  k_steps
  rename (News h₀ L _ _) => N8
  rename (Fr h₀ L _ _) => F8
  rw [LMap_tm] at F8
  refine K tml _ 0 _ _ F8 (News.of_sub N8 fun p hp => ?_) (fun q hq => o9 q (.tail _ (.tail _ hq))) (by unfold nextsD; rw [List.append_assoc]; exact I3)
  rcases List.mem_cons.mp hp with e | hp
  · rw [e]; exact .head _
  · exact .tail _ (.tail _ (.tail _ hp))
end

end
section
theorem off31 : True := by
  w_top off
  trivial
/-! ## if times == []: break -/
section
local macro_rules | `(tactic| walk_at "compareOp Eq ref ref") => `(tactic| (k_here; k_dflt (refine' eq_led ?N ?m1 ?m2 ?i ?j ?u ?_; kmj_rest)))
set_option maxHeartbeats 8000000 in
theorem chunkC : ∀ {w : World} {s : Shared} {L fa : Addr} {cd : Value} {outer : List Env} {dp u : Nat} {g : Option (List Code)} {A₀ : Around} {h₀ base : Heap} {m₀ mg mb : Str → Option Value} {p : Program} {loose : List Str} {mean : ExcName → Option Value} {news : List (Addr × Obj)}
   {rw wk cm W bk tml : Addr} {most : Int} {tmost : Tok} {fl mn on : Option Value} {nt : Nat} {ts : List Value} {ns : List Int} {Q : Flow → Shared → Prop}
   (_B : Below A₀ base outer h₀) (_F : Fr h₀ L s.heap (LMap m₀ rw wk cm W bk most tmost fl (some (.ref tml)) mn on)) (_X : (headK w.params).In h₀) (_T : Top p loose mean mg mb h₀)
   (_N : News h₀ L s.heap news) (_mt : (tml, listOf (List.toArray ts) nt) ∈ news) (_it : IntsAre ts ns)
   (_hd : dp < 500) (_hu : u < 6000)
   (_K : ∀ h' tk, Fr h₀ L h' (LMap m₀ rw wk cm W bk most tmost fl (some (.ref tml)) mn on) → News h₀ L h' news → if ns = [] then Q .brk { s with heap := h', toks := tk } else Q .next { s with heap := h', toks := tk }),
   wpAny (model PySem.Challenge.rw_rg0253_01.row.prog w) (mkA (lawEnv L fa cd) outer dp g u) (exec (wStmt 2) (lawEnv L fa cd)) Q (fun _ _ => False) s := by
  k_fill
  intro w s L fa cd outer dp u g A₀ h₀ base m₀ mg mb p loose mean news rw wk cm W bk tml most tmost fl mn on nt ts ns Q B F X T N mt it hd hu K
  simp only [wStmt, wBody, lawBody, lawEnv, lawScope, lawStmt, defScope, topAt, PySem.Challenge.pw_rg0253_01, defBody, List.drop, List.take, List.getD_cons_succ, List.getD_cons_zero]
  by_cases hn : ns = []
  · simp only [if_pos hn] at K
    k_steps
    exact K _ _ (by k_asm) (News.of_sub (by k_asm) fun p hp => by repeat (first | exact hp | refine List.mem_cons_of_mem _ ?_))
  · simp only [if_neg hn] at K
    k_steps
    exact K _ _ (by k_asm) (News.of_sub (by k_asm) fun p hp => by repeat (first | exact hp | refine List.mem_cons_of_mem _ ?_))
end
/-! ## many, clock = (many + 1, max(clock, min(times))) -/
section
local macro_rules | `(tactic| walk_at "call builtin:min") => `(tactic| kor_lookL)
set_option maxHeartbeats 8000000 in
theorem chunkD : ∀ {w : World} {s : Shared} {L fa : Addr} {cd : Value} {outer : List Env} {dp u : Nat} {g : Option (List Code)} {A₀ : Around} {h₀ base : Heap} {m₀ mg mb : Str → Option Value} {p : Program} {loose : List Str} {mean : ExcName → Option Value} {tl : List (Addr × Obj)}
   {rw wk cm W bk tml : Addr} {most many now : Int} {tmost tmn tc : Tok} {fl on : Option Value} {oc : Obj} {nt : Nat} {ts : List Value} {ns : List Int} {Q : Flow → Shared → Prop}
   (_B : Below A₀ base outer h₀) (_F : Fr h₀ L s.heap (LMap m₀ rw wk cm W bk most tmost fl (some (.ref tml)) (some (.int many tmn)) on)) (_X : (headK w.params).In h₀) (_T : Top p loose mean mg mb h₀)
   (_N : News h₀ L s.heap ((L + 1, oc) :: tl)) (_o1 : ∀ p ∈ tl, p.1 ≠ L + 1) (_hc : CellIs oc (.int now tc)) (_mt : (tml, listOf (List.toArray ts) nt) ∈ tl) (_it : IntsAre ts ns) (_hn : ns ≠ [])
   (_hd : dp < 500) (_hu : u < 6000)
   (_K : ∀ x oc' tc' tmn' h' tk, LeastIs ns (some x) → CellIs oc' (.int (max now x) tc') → Fr h₀ L h' (LMap m₀ rw wk cm W bk most tmost fl (some (.ref tml)) (some (.int (many + 1) tmn')) on) → News h₀ L h' ((L + 1, oc') :: tl) → Q .next { s with heap := h', toks := tk }),
   wpAny (model PySem.Challenge.rw_rg0253_01.row.prog w) (mkA (lawEnv L fa cd) outer dp g u) (exec (wStmt 3) (lawEnv L fa cd)) Q (fun _ _ => False) s := by
  k_fill
  intro w s L fa cd outer dp u g A₀ h₀ base m₀ mg mb p loose mean tl rw wk cm W bk tml most many now tmost tmn tc fl on oc nt ts ns Q B F X T N o1 hc mt it hn hd hu K
  have hlen : 0 < ns.length := List.length_pos_iff.mpr hn
  simp only [wStmt, wBody, lawBody, lawEnv, lawScope, lawStmt, defScope, topAt, PySem.Challenge.pw_rg0253_01, defBody, List.drop, List.take, List.getD_cons_succ, List.getD_cons_zero]
  k_steps
  rename (News h₀ L _ _) => N9
  rename (Fr h₀ L _ _) => F9
  rename (_ ∈ ns) => q1
  rename (∀ a, a ∈ ns → _ ≤ a) => q2
  rename (_ = Data.cell (some (Value.int (ite _ _ _) (ite _ _ _)))) => hc9
  rw [LMap_mn] at F9
  have e : ∀ M : Int, (if M > now then M else now) = max now M := fun M => by split <;> omega
  rw [e] at hc9
  exact K _ _ _ _ _ _ ⟨q1, q2⟩ hc9 F9 (News.of_sub N9 fun p hp => .tail _ hp)
end

end
section
theorem off32 : True := by
  w_top off
  trivial
/-! ## for one in [one for one in flying if one[0] <= clock]: came[..].append(..); flying = [one for one in flying if one[0] > clock] -/
theorem flys_sub {news news' : List (Addr × Obj)} {vs : List Value} {fs : List Fly} (hs : ∀ p ∈ news, p ∈ news') (x : FlysL news vs fs) : TupsAre news' (fun i => (fs.getD i noFly).arr) vs := (x.mono hs).tups
theorem pickedL_filter {news : List (Addr × Obj)} {vs : List Value} {fs : List Fly} (dec : Int → Bool) (fa : FlysL news vs fs) : ∀ {n : Nat} {ys : List Value}, n ≤ fs.length → Picked (fun i y => vs[i]? = some y) (fun i => dec (fs.getD i noFly).arr) n ys → FlysL news ys ((fs.take n).filter fun f => dec f.arr)
  | 0, ys, _, x => by have e : ys = [] := x; subst e; exact trivial
  | n + 1, ys, hn, x => by
    unfold Picked at x
    rw [filter_take_succ (by omega)]
    split at x
    · rename_i hp
      rw [if_pos hp]
      obtain ⟨ys', y, e, a, b⟩ := x
      subst e
      exact (pickedL_filter dec fa (Nat.le_of_succ_le hn) a).append ⟨fa.get n y b, trivial⟩
    · rename_i hp
      rw [if_neg hp, List.append_nil]
      exact pickedL_filter dec fa (Nat.le_of_succ_le hn) x
theorem pickedL_all {news : List (Addr × Obj)} {vs : List Value} {fs : List Fly} (dec : Int → Bool) (fa : FlysL news vs fs) {ys : List Value} (x : Picked (fun i y => vs[i]? = some y) (fun i => dec (fs.getD i noFly).arr) vs.length ys) : FlysL news ys (fs.filter fun f => dec f.arr) := by
  have h := pickedL_filter dec fa (n := vs.length) (Nat.le_of_eq fa.length) x
  rw [fa.length, List.take_length] at h
  exact h
theorem pickedL_le {news : List (Addr × Obj)} {vs : List Value} {fs : List Fly} {b : Int} (fa : FlysL news vs fs) {ys : List Value} (x : Picked (fun i y => vs[i]? = some y) (fun i => decide ((fs.getD i noFly).arr ≤ b)) vs.length ys) : FlysL news ys (fs.filter fun f => decide (f.arr ≤ b)) := pickedL_all (fun a => decide (a ≤ b)) fa x
theorem pickedL_gt {news : List (Addr × Obj)} {vs : List Value} {fs : List Fly} {b : Int} (fa : FlysL news vs fs) {ys : List Value} (x : Picked (fun i y => vs[i]? = some y) (fun i => decide (b < (fs.getD i noFly).arr)) vs.length ys) : FlysL news ys (fs.filter fun f => decide (b < f.arr)) := pickedL_all (fun a => decide (b < a)) fa x
theorem FlysL.at {news : List (Addr × Obj)} : ∀ {vs : List Value} {fs : List Fly}, FlysL news vs fs → ∀ (i : Nat) (v : Value), vs[i]? = some v → ∃ f, fs[i]? = some f ∧ FlyL news v f
  | [], [], _, i, v, h => by simp at h
  | v :: vs, f :: fs, x, 0, u, h => by
    simp at h
    subst h
    exact ⟨f, rfl, x.1⟩
  | v :: vs, f :: fs, x, i + 1, u, h => by
    simp only [List.getElem?_cons_succ] at h ⊢
    exact FlysL.at x.2 i u h
section
variable {prog : Program} {w : World} {A : Around} {E : Value → Shared → Prop} {s : Shared} {h₀ : Heap} {L : Addr} {m : Str → Option Value} {env : Env}
theorem comp_assignL {elt target iter : Expr} {ifs : List Expr} {scope : Scope} {cl : List (Str × Addr)} {pos py spos : Pos} {y : Str} {Q : Flow → Shared → Prop} (_F : Fr h₀ L s.heap m) (hLe : env.locals = L)
    (hsw : swapsWith (.ListComp elt [⟨target, iter, ifs, 0⟩] scope pos) (some (.Name y py)) spos.line env = pure true)
    (hclos : closureFor scope env = pure cl) (hcell : ∀ y ∈ scope.names, y.2 ≠ .cell) (hkind : scope.kind = .function) (hnames : ∀ y ∈ scope.names, y.2 = .local → scope.names.lookup y.1 = some .local)
    (hy : env.kindOf y = some .local) (hp : (env.scope.kind == .class || (env.scope.kind == .module && env.locals != env.globals)) = false)
    (h : wpAny (model prog w) A (eval iter env) (SrcG prog w A h₀ L m env elt target ifs scope cl (FinAG h₀ L m y Q)) E s)
    (hs : ∀ x, foldedSetIterable iter env x = pure x := by intro _; rfl) :
    wpAny (model prog w) A (exec (.Assign [.Name y py] (.ListComp elt [⟨target, iter, ifs, 0⟩] scope pos) spos) env) Q E s := comp_assign hLe hsw hclos hcell hkind hnames hy hp h hs
end
section
local macro_rules | `(tactic| walk_at "eval ListComp") => `(tactic| kf1_some)
local macro_rules | `(tactic| walk_at "exec Assign cons ListComp") => `(tactic| (k_here; k_dflt (refine' comp_assignL ?F ?e ?sw ?a ?b ?c ?d ?y ?p ?_; (case F => k_asm); (case e => exact rfl); (case sw => exact rfl); kcp_assignC; (case y => exact rfl); (case p => exact rfl); k_whole)))
local macro_rules | `(tactic| walk_at "SrcG") => `(tactic| refine stop_here ?_)
local macro_rules | `(tactic| walk_at "subscriptTail") => `(tactic| ((with_reducible show wpAny _ _ (subscriptTail _ _ (Value.ref _) (Value.int _ _)) _ _ _); kfy_look))
local macro_rules | `(tactic| walk_at "FinEG") => `(tactic| refine stop_here ?_)
local macro_rules | `(tactic| walk_at "FinAG") => `(tactic| ((unfold FinAG); intro D' h' tk' ys' F' N' o1' P'; (have fl' := pickedL_gt (by with_reducible assumption) P'); (have pl' := Picked.length P')))
set_option maxHeartbeats 8000000 in
theorem chunkF : ∀ {w : World} {s : Shared} {L fa : Addr} {cd : Value} {outer : List Env} {dp u : Nat} {g : Option (List Code)} {A₀ : Around} {h₀ base : Heap} {m₀ mg mb : Str → Option Value} {p : Program} {loose : List Str} {mean : ExcName → Option Value} {news : List (Addr × Obj)}
   {rw wk cm W bk fl : Addr} {most now : Int} {tmost tc : Tok} {tm mn on : Option Value} {oc : Obj} {nf : Nat} {fvs : List Value} {fs : List Fly} {Q : Flow → Shared → Prop}
   (_B : Below A₀ base outer h₀) (_F : Fr h₀ L s.heap (LMap m₀ rw wk cm W bk most tmost (some (.ref fl)) tm mn on)) (_X : (headK w.params).In h₀) (_T : Top p loose mean mg mb h₀)
   (_N : News h₀ L s.heap news) (_mc : (L + 1, oc) ∈ news) (_hc : CellIs oc (.int now tc)) (_mf : (fl, listOf (List.toArray fvs) nf) ∈ news) (_fa : FlysL news fvs fs) (_lf : fvs.length ≤ 100)
   (_hd : dp < 500) (_hu : u < 6000)
   (_K : ∀ fl' fvs' nf' h' tk, Fr h₀ L h' (LMap m₀ rw wk cm W bk most tmost (some (.ref fl')) tm mn on) → News h₀ L h' ((fl', listOf (List.toArray fvs') nf') :: news) → (∀ q ∈ news, q.1 ≠ fl') → FlysL news fvs' (fs.filter fun f => decide (now < f.arr)) → Q .next { s with heap := h', toks := tk }),
   wpAny (model PySem.Challenge.rw_rg0253_01.row.prog w) (mkA (lawEnv L fa cd) outer dp g u) (exec (wStmt 5) (lawEnv L fa cd)) Q (fun _ _ => False) s := by
  k_fill
  intro w s L fa cd outer dp u g A₀ h₀ base m₀ mg mb p loose mean news rw wk cm W bk fl most now tmost tc tm mn on oc nf fvs fs Q B F X T N mc hc mf fal lf hd hu K
  have lff := fal.length
  simp only [wStmt, wBody, lawBody, lawEnv, lawScope, lawStmt, defScope, topAt, PySem.Challenge.pw_rg0253_01, defBody, List.drop, List.take, List.getD_cons_succ, List.getD_cons_zero]
  k_steps
  refine Hid.out ?_
  k_dflt (
     refine' src_filter _ _ _ (fun a b => decide (b < a)) ?hh ?F ?N ?hm ?ht ?hx ?hkind ?hd ?hsz ?hop ?rd ?_
     (case hop => exact fun a t s' E' Q hq => gt_int hq)
     (case N => k_asm)
     (case ht => (refine' flys_sub ?s ?f; (case f => with_reducible assumption); (case s => kst_entry)))
     (case hm => k_mem)
     kpc_text
     (case hsz => exact Nat.le_trans (by assumption) (Nat.le_of_ble_eq_true rfl : 100 ≤ sizeLine))
     (case rd => exact fun C s' E' Q N hq => lcf_cell N rfl (by k_mem) (by assumption) hq rfl rfl))
  k_steps
  rename (News h₀ L _ _) => N9
  rename (Fr h₀ L _ _) => F9
  rw [LMap_fl] at F9
  exact K _ _ _ _ _ F9 N9 (by assumption) (by assumption)
theorem e_sub {a b c : Addr × Obj} {l : List (Addr × Obj)} : ∀ p ∈ a :: b :: c :: l, p ∈ c :: a :: b :: l := fun p hp => by
  simp only [List.mem_cons] at hp ⊢
  rcases hp with h | h | h | h <;> simp [h]
noncomputable def JE (k0 k1 : Addr) (mk : Option Value → Str → Option Value) (tl : List (Addr × Obj)) (cm0 cm1 : List Cam) (m : Str → Option Value) (news : List (Addr × Obj)) : Prop :=
  ∃ on cs0 n0 cs1 n1 tl', m = mk on ∧ news = (k0, listOf (List.toArray cs0) n0) :: (k1, listOf (List.toArray cs1) n1) :: tl' ∧ (∀ p ∈ tl, p ∈ tl') ∧ CamsAre tl' (Str.ofString "server") cs0 cm0 ∧ CamsAre tl' (Str.ofString "client") cs1 cm1 ∧ (∀ p ∈ tl', p.1 ≠ k0) ∧ ∀ p ∈ tl', p.1 ≠ k1
theorem JE_end {h₀ h' : Heap} {L I k0 k1 : Addr} {oI : Obj} {mk : Option Value → Str → Option Value} {tl all tl' : List (Addr × Obj)} {cm0 cm1 : List Cam} {s₁ : Shared} {tk : Nat} {Q : Flow → Shared → Prop} {on : Option Value} {cs0 cs1 : List Value} {n0 n1 nT : Nat} {T : Addr} {xs : List Value}
    (F : Fr h₀ L h' (mk on)) (N : News h₀ L h' all) (hI : (I, oI) ∈ all) (h0 : (k0, listOf (List.toArray cs0) n0) ∈ all) (h1 : (k1, listOf (List.toArray cs1) n1) ∈ all) (hT : (T, tupOf xs nT) ∈ all) (ht : ∀ p ∈ tl', p ∈ all) (sub : ∀ p ∈ tl, p ∈ tl')
    (c0 : CamsAre ((T, tupOf xs nT) :: tl') (Str.ofString "server") cs0 cm0) (c1 : CamsAre ((T, tupOf xs nT) :: tl') (Str.ofString "client") cs1 cm1) (o0 : ∀ p ∈ (T, tupOf xs nT) :: tl', p.1 ≠ k0) (o1 : ∀ p ∈ (T, tupOf xs nT) :: tl', p.1 ≠ k1)
    (hx : ∀ p ∈ (k0, listOf (List.toArray cs0) n0) :: (k1, listOf (List.toArray cs1) n1) :: (T, tupOf xs nT) :: tl', p.1 ≠ I) :
    Hid (TurnPost h₀ L I oI (fun m news => JE k0 k1 mk tl cm0 cm1 m news) s₁ Q .next { s₁ with heap := h', toks := tk }) := by
  refine ⟨h', tk, _, (k0, listOf (List.toArray cs0) n0) :: (k1, listOf (List.toArray cs1) n1) :: (T, tupOf xs nT) :: tl', rfl, F, fun p hp => ?_, hx, on, cs0, n0, cs1, n1, (T, tupOf xs nT) :: tl', rfl, rfl, fun p hp => .tail _ (sub p hp), c0, c1, o0, o1⟩
  simp only [List.mem_cons] at hp
  rcases hp with e | e | e | e | e
  · rw [e]; exact N _ hI
  · rw [e]; exact N _ h0
  · rw [e]; exact N _ h1
  · rw [e]; exact N _ hT
  · exact N _ (ht p e)
set_option maxHeartbeats 8000000 in
theorem chunkE : ∀ {w : World} {s : Shared} {L fa : Addr} {cd : Value} {outer : List Env} {dp u : Nat} {g : Option (List Code)} {A₀ : Around} {h₀ base : Heap} {m₀ mg mb : Str → Option Value} {p : Program} {loose : List Str} {mean : ExcName → Option Value} {tl : List (Addr × Obj)}
   {rw wk cm W bk fl k0 k1 : Addr} {most now : Int} {tmost tc : Tok} {tm mn on : Option Value} {oc : Obj} {nf ncm n0 n1 : Nat} {fvs cs0 cs1 : List Value} {fs : List Fly} {cm0 cm1 : List Cam} {Q : Flow → Shared → Prop}
   (_B : Below A₀ base outer h₀) (_F : Fr h₀ L s.heap (LMap m₀ rw wk cm W bk most tmost (some (.ref fl)) tm mn on)) (_X : (headK w.params).In h₀) (_T : Top p loose mean mg mb h₀)
   (_N : News h₀ L s.heap ((k0, listOf (List.toArray cs0) n0) :: (k1, listOf (List.toArray cs1) n1) :: tl)) (_o0 : ∀ p ∈ tl, p.1 ≠ k0) (_o1 : ∀ p ∈ tl, p.1 ≠ k1) (_n01 : k0 ≠ k1)
   (_mc : (L + 1, oc) ∈ tl) (_hc : CellIs oc (.int now tc)) (_mf : (fl, listOf (List.toArray fvs) nf) ∈ tl) (_fa : FlysL tl fvs fs) (_mm : (cm, listOf #[.ref k0, .ref k1] ncm) ∈ tl)
   (_c0 : CamsAre tl (Str.ofString "server") cs0 cm0) (_c1 : CamsAre tl (Str.ofString "client") cs1 cm1) (_ok : ∀ f ∈ fs, (f.goal = 0 ∨ f.goal = 1) ∧ 0 ≤ f.due ∧ f.due < 256) (_lc : cm0.length + fs.length ≤ 100 ∧ cm1.length + fs.length ≤ 100)
   (_hd : dp < 500) (_hu : u < 6000)
   (_K : ∀ m' news' h' tk, Fr h₀ L h' m' → News h₀ L h' news' → JE k0 k1 (fun on => LMap m₀ rw wk cm W bk most tmost (some (.ref fl)) tm mn on) tl (cm0 ++ camsOf now 0 (fs.filter fun f => decide (f.arr ≤ now))) (cm1 ++ camsOf now 1 (fs.filter fun f => decide (f.arr ≤ now))) m' news' → Q .next { s with heap := h', toks := tk }),
   wpAny (model PySem.Challenge.rw_rg0253_01.row.prog w) (mkA (lawEnv L fa cd) outer dp g u) (exec (wStmt 4) (lawEnv L fa cd)) Q (fun _ _ => False) s := by
  k_fill
  intro w s L fa cd outer dp u g A₀ h₀ base m₀ mg mb p loose mean tl rw wk cm W bk fl k0 k1 most now tmost tc tm mn on oc nf ncm n0 n1 fvs cs0 cs1 fs cm0 cm1 Q B F X T N o0 o1 n01 mc hc mf fal mm c0 c1 ok lc hd hu K
  have lff := fal.length
  have lf : fvs.length ≤ 100 := by omega
  simp only [wStmt, wBody, lawBody, lawEnv, lawScope, lawStmt, defScope, topAt, PySem.Challenge.pw_rg0253_01, defBody, List.drop, List.take, List.getD_cons_succ, List.getD_cons_zero]
  with_unfolding_all refine' For_turns F ?_ ?_ ?hE
  case hE => exact PassesOwn.never
  case refine'_2 => (intro _; rfl)
  k_steps
  refine Hid.out ?_
  k_dflt (
     refine' src_filter _ _ _ (fun a b => decide (a ≤ b)) ?hh ?F ?N ?hm ?ht ?hx ?hkind ?hd ?hsz ?hop ?rd ?_
     (case hop => exact fun a t s' E' Q hq => le_int hq)
     (case N => k_asm)
     (case ht => (refine' flys_sub ?s ?f; (case f => with_reducible assumption); (case s => kst_entry)))
     (case hm => k_mem)
     kpc_text
     (case hsz => exact Nat.le_trans (by assumption) (Nat.le_of_ble_eq_true rfl : 100 ≤ sizeLine))
     (case rd => exact fun C s' E' Q N hq => lcf_cell N rfl (by k_mem) (by assumption) hq rfl rfl))
  k_steps
  refine Hid.out ?_
  unfold FinEG
  intro D2 h2' tk2 ys2 F2 N2 o2 P2
  have fa2 := pickedL_le fal P2
  have hfs : ∀ f ∈ fs.filter (fun f => decide (f.arr ≤ now)), (f.goal = 0 ∨ f.goal = 1) ∧ 0 ≤ f.due ∧ f.due < 256 := fun f hf => ok f (List.mem_filter.mp hf).1
  have hcl := List.length_filter_le (fun f => decide (f.arr ≤ now)) fs
  clear P2
  generalize hfe : (fs.filter fun f => decide (f.arr ≤ now)) = fe at *
  k_steps
  refine Hid.out ?_
  refine turns_list (vs := ys2) (n := ys2.length) (news := (k0, listOf (List.toArray cs0) n0) :: (k1, listOf (List.toArray cs1) n1) :: (D2, LCg.lst ys2) :: tl) (fun i m news => JE k0 k1 (fun on => LMap m₀ rw wk cm W bk most tmost (some (.ref fl)) tm mn on) ((D2, LCg.lst ys2) :: tl) (cm0 ++ camsOf now 0 (fe.take i)) (cm1 ++ camsOf now 1 (fe.take i)) m news) (by exact rfl) F2 (News.of_sub N2 e_sub) (.tail _ (.tail _ (.head _))) ?j0 ?keepR ?step ?done
  case j0 =>
    have ez : ∀ g, camsOf now g (fe.take 0) = [] := fun g => by rw [List.take_zero]; rfl
    rw [ez, ez, List.append_nil, List.append_nil]
    exact ⟨on, cs0, n0, cs1, n1, (D2, LCg.lst ys2) :: tl, rfl, rfl, fun p hp => hp, c0.mono fun p hp => .tail _ hp, c1.mono fun p hp => .tail _ hp, List.forall_mem_cons.mpr ⟨Ne.symm (o2 _ (.head _)), o0⟩, List.forall_mem_cons.mpr ⟨Ne.symm (o2 _ (.tail _ (.head _))), o1⟩⟩
  case keepR =>
    intro i m₁ news₁ j
    obtain ⟨on3, ds0, q0, ds1, q1, tl3, e1, e2, sub3, _⟩ := j
    subst e2
    exact .tail _ (.tail _ (sub3 _ (.head _)))
  case step =>
    intro I3 i3 v3 m3 news3 h3' tk3 oI3 hv3 j3 F3 N3 o3
    obtain ⟨on3, ds0, q0, ds1, q1, tl3, e1, e2, sub3, d0, d1, p0, p1⟩ := j3
    subst e1 e2
    obtain ⟨f3, hf3, T3, ta, tb, tc3, nT3, e3, hT3⟩ := fa2.at i3 v3 hv3
    subst e3
    replace hT3 := sub3 _ (.tail _ hT3)
    have mm3 := sub3 _ (.tail _ mm)
    have mc3 := sub3 _ (.tail _ mc)
    obtain ⟨g3, du0, du1⟩ := hfs f3 (List.mem_of_getElem? hf3)
    have ld0 : ds0.length ≤ 100 := by
      have h1 := camsOf_one (t := now) (g := 0) (fs := fe.take i3)
      have h2 : (fe.take i3).length ≤ fe.length := by rw [List.length_take]; omega
      rw [d0.length, List.length_append]; omega
    have ld1 : ds1.length ≤ 100 := by
      have h1 := camsOf_one (t := now) (g := 1) (fs := fe.take i3)
      have h2 : (fe.take i3).length ≤ fe.length := by rw [List.length_take]; omega
      rw [d1.length, List.length_append]; omega
    rcases g3 with g3 | g3
    · rw [g3] at hT3
      have ec0 : cm0 ++ camsOf now 0 (fe.take (i3 + 1)) = (cm0 ++ camsOf now 0 (fe.take i3)) ++ [⟨now, f3.due⟩] := by
        rw [camsOf_succ hf3, if_pos g3, List.append_assoc]
      have ec1 : cm1 ++ camsOf now 1 (fe.take (i3 + 1)) = cm1 ++ camsOf now 1 (fe.take i3) := by
        rw [camsOf_succ hf3, if_neg (by omega), List.append_nil]
      rw [ec0, ec1]
      k_steps
      rename (News h₀ L _ _) => N9
      rename (Fr h₀ L _ _) => F9
      rw [LMap_on] at F9
      simp only [List.push_toArray] at N9
      refine' JE_end (L := L) (tl' := tl3) F9 N9 ?hI ?h0 ?h1 ?hT ?ht (fun p hp => sub3 p hp) ?c0 ?c1 ?o0 ?o1 ?hx
      case hI => k_memK
      case h0 => k_memK
      case h1 => k_memK
      case hT => k_memK
      case ht => (intro p hp; repeat (first | exact hp | refine List.mem_cons_of_mem _ ?_))
      case c0 => exact (d0.mono fun p hp => .tail _ hp).append (ds := [⟨now, f3.due⟩]) ⟨⟨_, _, _, _, _, rfl, .head _⟩, trivial⟩
      case c1 => exact d1.mono fun p hp => .tail _ hp
      case o0 => k_all
      case o1 => k_all
      case hx => k_all
    · rw [g3] at hT3
      have ec0 : cm1 ++ camsOf now 1 (fe.take (i3 + 1)) = (cm1 ++ camsOf now 1 (fe.take i3)) ++ [⟨now, f3.due⟩] := by
        rw [camsOf_succ hf3, if_pos g3, List.append_assoc]
      have ec1 : cm0 ++ camsOf now 0 (fe.take (i3 + 1)) = cm0 ++ camsOf now 0 (fe.take i3) := by
        rw [camsOf_succ hf3, if_neg (by omega), List.append_nil]
      rw [ec0, ec1]
      k_steps
      rename (News h₀ L _ _) => N9
      rename (Fr h₀ L _ _) => F9
      rw [LMap_on] at F9
      simp only [List.push_toArray] at N9
      refine' JE_end (L := L) (tl' := tl3) F9 N9 ?hI ?h0 ?h1 ?hT ?ht (fun p hp => sub3 p hp) ?c0 ?c1 ?o0 ?o1 ?hx
      case hI => k_memK
      case h0 => k_memK
      case h1 => k_memK
      case hT => k_memK
      case ht => (intro p hp; repeat (first | exact hp | refine List.mem_cons_of_mem _ ?_))
      case c1 => exact (d1.mono fun p hp => .tail _ hp).append (ds := [⟨now, f3.due⟩]) ⟨⟨_, _, _, _, _, rfl, .head _⟩, trivial⟩
      case c0 => exact d0.mono fun p hp => .tail _ hp
      case o0 => k_all
      case o1 => k_all
      case hx => k_all
  case done =>
    intro m5 news5 h5' tk5 j5 F5 N5
    obtain ⟨on3, ds0, q0, ds1, q1, tl3, e1, e2, sub3, d0, d1, p0, p1⟩ := j5
    have el : ys2.length = fe.length := fa2.length
    rw [el, List.take_length] at d0 d1
    exact K m5 news5 _ _ F5 N5 ⟨on3, ds0, q0, ds1, q1, tl3, e1, e2, fun p hp => sub3 p (.tail _ hp), d0, d1, p0, p1⟩
end

end
section
theorem off33 : True := by
  w_top off
  trivial
/-! ## for at in range(2): if rows[at] != [] and rows[at][0] <= clock: woken[at].append(rows[at].pop(0)) -/
noncomputable def nsG (t : Int) (ns : List Int) (k i : Nat) : List Int := if k < i then wakeRest t ns else ns
noncomputable def dueG (t : Int) (ns : List Int) (k i : Nat) : Option Int := if k < i then wakeDue t ns else none
noncomputable def JG (L r0 r1 w0 w1 : Addr) (m₀ : Str → Option Value) (tl : List (Addr × Obj)) (ns0 ns1 : List Int) (due0 due1 : Option Int) (m : Str → Option Value) (news : List (Addr × Obj)) : Prop :=
  ∃ oa va us0 n0 us1 n1 vs0 q0 vs1 q1, m = m₀ ∧ news = (L + 1 + 1, oa) :: (r0, listOf (List.toArray us0) n0) :: (r1, listOf (List.toArray us1) n1) :: (w0, listOf (List.toArray vs0) q0) :: (w1, listOf (List.toArray vs1) q1) :: tl ∧
    oa.data = .cell va ∧ IntsAre us0 ns0 ∧ IntsAre us1 ns1 ∧ WokeIs vs0 due0 ∧ WokeIs vs1 due1
theorem JG_end {h₀ h' : Heap} {L I r0 r1 w0 w1 : Addr} {oI : Obj} {m₀ : Str → Option Value} {tl all : List (Addr × Obj)} {ns0 ns1 : List Int} {due0 due1 : Option Int} {s₁ : Shared} {tk : Nat} {Q : Flow → Shared → Prop} {oa : Obj} {va : Option Value} {us0 us1 vs0 vs1 : List Value} {n0 n1 q0 q1 : Nat}
    (F : Fr h₀ L h' m₀) (N : News h₀ L h' all) (hI : (I, oI) ∈ all) (hA : (L + 1 + 1, oa) ∈ all) (hc : oa.data = .cell va) (h0 : (r0, listOf (List.toArray us0) n0) ∈ all) (h1 : (r1, listOf (List.toArray us1) n1) ∈ all) (h2 : (w0, listOf (List.toArray vs0) q0) ∈ all) (h3 : (w1, listOf (List.toArray vs1) q1) ∈ all)
    (ht : ∀ p ∈ tl, p ∈ all) (i0 : IntsAre us0 ns0) (i1 : IntsAre us1 ns1) (k0 : WokeIs vs0 due0) (k1 : WokeIs vs1 due1)
    (hx : ∀ p ∈ (L + 1 + 1, oa) :: (r0, listOf (List.toArray us0) n0) :: (r1, listOf (List.toArray us1) n1) :: (w0, listOf (List.toArray vs0) q0) :: (w1, listOf (List.toArray vs1) q1) :: tl, p.1 ≠ I) :
    Hid (TurnPost h₀ L I oI (fun m news => JG L r0 r1 w0 w1 m₀ tl ns0 ns1 due0 due1 m news) s₁ Q .next { s₁ with heap := h', toks := tk }) := by
  refine ⟨h', tk, _, (L + 1 + 1, oa) :: (r0, listOf (List.toArray us0) n0) :: (r1, listOf (List.toArray us1) n1) :: (w0, listOf (List.toArray vs0) q0) :: (w1, listOf (List.toArray vs1) q1) :: tl, rfl, F, fun p hp => ?_, hx, oa, va, us0, n0, us1, n1, vs0, q0, vs1, q1, rfl, rfl, hc, i0, i1, k0, k1⟩
  simp only [List.mem_cons] at hp
  rcases hp with e | e | e | e | e | e | e
  · rw [e]; exact N _ hI
  · rw [e]; exact N _ hA
  · rw [e]; exact N _ h0
  · rw [e]; exact N _ h1
  · rw [e]; exact N _ h2
  · rw [e]; exact N _ h3
  · exact N _ (ht p e)
section
local macro_rules | `(tactic| walk_at "compareOp NotEq ref ref") => `(tactic| (k_here; k_dflt (refine' ne_led ?N ?m1 ?m2 ?i ?j ?u ?_; kmj_rest)))
local macro_rules | `(tactic| walk_at "subscriptTail") => `(tactic| ((with_reducible show wpAny _ _ (subscriptTail _ _ (Value.ref _) (Value.int _ _)) _ _ _); kfy_look))
local macro_rules | `(tactic| walk_at "call builtin:list.pop") => `(tactic| kmj_call)
set_option maxHeartbeats 8000000 in
theorem chunkG : ∀ {w : World} {s : Shared} {L fa : Addr} {cd : Value} {outer : List Env} {dp u : Nat} {g : Option (List Code)} {A₀ : Around} {h₀ base : Heap} {m₀ mg mb : Str → Option Value} {p : Program} {loose : List Str} {mean : ExcName → Option Value} {tl news : List (Addr × Obj)}
   {rw wk cm W bk r0 r1 w0 w1 : Addr} {most now : Int} {tmost tc : Tok} {fl tm mn on : Option Value} {oc : Obj} {nr nw : Nat} {m : Str → Option Value} {ns0 ns1 : List Int} {Q : Flow → Shared → Prop}
   (_B : Below A₀ base outer h₀) (_F : Fr h₀ L s.heap m) (_X : (headK w.params).In h₀) (_T : Top p loose mean mg mb h₀)
   (_N : News h₀ L s.heap news) (_j : JG L r0 r1 w0 w1 (LMap m₀ rw wk cm W bk most tmost fl tm mn on) tl ns0 ns1 none none m news)
   (_nd : [L + 1 + 1, r0, r1, w0, w1].Nodup) (_off : ∀ a ∈ [L + 1 + 1, r0, r1, w0, w1], ∀ p ∈ tl, p.1 ≠ a)
   (_mc : (L + 1, oc) ∈ tl) (_hc : CellIs oc (.int now tc)) (_mr : (rw, listOf #[.ref r0, .ref r1] nr) ∈ tl) (_mw : (wk, listOf #[.ref w0, .ref w1] nw) ∈ tl) (_l0 : ns0.length ≤ 4) (_l1 : ns1.length ≤ 4)
   (_hd : dp < 500) (_hu : u < 6000)
   (_K : ∀ m' news' h' tk, Fr h₀ L h' m' → News h₀ L h' news' → JG L r0 r1 w0 w1 (LMap m₀ rw wk cm W bk most tmost fl tm mn on) tl (wakeRest now ns0) (wakeRest now ns1) (wakeDue now ns0) (wakeDue now ns1) m' news' → Q .next { s with heap := h', toks := tk }),
   wpAny (model PySem.Challenge.rw_rg0253_01.row.prog w) (mkA (lawEnv L fa cd) outer dp g u) (exec (wStmt 6) (lawEnv L fa cd)) Q (fun _ _ => False) s := by
  k_fill
  intro w s L fa cd outer dp u g A₀ h₀ base m₀ mg mb p loose mean tl news rw wk cm W bk r0 r1 w0 w1 most now tmost tc fl tm mn on oc nr nw m ns0 ns1 Q B F X T N j nd off mc hc mr mw l0 l1 hd hu K
  have off1 := off _ (by simp : L + 1 + 1 ∈ [L + 1 + 1, r0, r1, w0, w1])
  have off2 := off _ (by simp : r0 ∈ [L + 1 + 1, r0, r1, w0, w1])
  have off3 := off _ (by simp : r1 ∈ [L + 1 + 1, r0, r1, w0, w1])
  have off4 := off _ (by simp : w0 ∈ [L + 1 + 1, r0, r1, w0, w1])
  have off5 := off _ (by simp : w1 ∈ [L + 1 + 1, r0, r1, w0, w1])
  clear off
  simp only [List.nodup_cons, List.mem_cons, List.not_mem_nil, or_false, not_or, List.nodup_nil, not_false_eq_true, and_true] at nd
  obtain ⟨⟨nd1, nd2, nd3, nd4⟩, ⟨nd5, nd6, nd7⟩, ⟨nd8, nd9⟩, nd10⟩ := nd
  simp only [wStmt, wBody, lawBody, lawEnv, lawScope, lawStmt, defScope, topAt, PySem.Challenge.pw_rg0253_01, defBody, List.drop, List.take, List.getD_cons_succ, List.getD_cons_zero]
  with_unfolding_all refine' For_turns F ?_ ?_ ?hE
  case hE => exact PassesOwn.never
  case refine'_2 => (intro _; rfl)
  k_steps
  refine Hid.out ?_
  k_dflt (refine' range1_rows ?F ?N ?_)
  case F => k_asm
  case N => k_asm
  intro h1' tk1 ta tb td hr1 F1 N1 old1
  clear old1
  k_steps
  refine Hid.out ?_
  refine turns_rangeM (fun _ i m news => JG L r0 r1 w0 w1 (LMap m₀ rw wk cm W bk most tmost fl tm mn on) tl (nsG now ns0 0 i) (nsG now ns1 1 i) (dueG now ns0 0 i) (dueG now ns1 1 i) m news) (by exact rfl) hr1 (by omega) (by omega) F1 N1 j ?step ?done
  case done =>
    intro m5 news5 h5' tk5 j5 F5 N5
    exact K m5 news5 h5' tk5 F5 N5 j5
  case step =>
    intro I2 i2 t2 m2 news2 h2' tk2 oI2 hi2 j2 F2 N2 o2 no2
    obtain ⟨oa, va, us0, n0, us1, n1, vs0, q0, vs1, q1, e2, e3, ha, i0, i1, k0, k1⟩ := j2
    subst e2 e3
    obtain _ | _ | i2 := i2
    · change wpAny _ _ (assign _ _ (Value.int 0 t2)) _ _ _
      replace i0 : IntsAre us0 ns0 := i0
      replace k0 : vs0 = [] := k0
      subst k0
      cases hn : ns0 with
      | nil =>
        rw [hn] at i0
        cases i0
        k_steps
        refine Hid.out ?_
        rename (News h₀ L _ _) => N9
        rename (Fr h₀ L _ _) => F9
        refine' JG_end (L := L) F9 N9 ?hI ?hA ?hc ?h0 ?h1 ?h2 ?h3 ?ht ?i0 ?i1 ?k0 ?k1 ?hx
        case hI => k_memK
        case hA => k_memK
        case hc => assumption
        case h0 => k_memK
        case h1 => k_memK
        case h2 => k_memK
        case h3 => k_memK
        case ht => (intro p hp; repeat (first | exact hp | refine List.mem_cons_of_mem _ ?_))
        case i0 => exact IntsAre.nil
        case i1 => exact i1
        case k0 => exact rfl
        case k1 => exact k1
        case hx => k_all
      | cons a r =>
        rw [hn] at i0
        cases i0
        rename_i ta us0 il
        have lr : us0.length ≤ 100 := by
          rw [IntsAre.length il]
          rw [hn] at l0
          simp only [List.length_cons] at l0
          omega
        have i0 := IntsAre.cons a ta il
        by_cases hle : a ≤ now
        · k_steps
          · exact absurd (by assumption : decide (a :: r = []) = true) (by simp)
          refine Hid.out ?_
          rename (News h₀ L _ _) => N9
          rename (Fr h₀ L _ _) => F9
          simp only [List.push_toArray, List.nil_append] at N9
          have eG1 : nsG now (a :: r) 0 (0 + 1) = r := wakeRest_cons hle
          have eG2 : dueG now (a :: r) 0 (0 + 1) = some a := wakeDue_cons (r := r) hle
          rw [eG1, eG2]
          refine' JG_end (L := L) F9 N9 ?hI ?hA ?hc ?h0 ?h1 ?h2 ?h3 ?ht ?i0 ?i1 ?k0 ?k1 ?hx
          case hI => k_memK
          case hA => k_memK
          case hc => assumption
          case h0 => k_memK
          case h1 => k_memK
          case h2 => k_memK
          case h3 => k_memK
          case ht => (intro p hp; repeat (first | exact hp | refine List.mem_cons_of_mem _ ?_))
          case i0 => exact il
          case i1 => exact i1
          case k0 => exact ⟨ta, rfl⟩
          case k1 => exact k1
          case hx => k_all
        · k_steps
          · exact absurd (by assumption : decide (a :: r = []) = true) (by simp)
          refine Hid.out ?_
          rename (News h₀ L _ _) => N9
          rename (Fr h₀ L _ _) => F9
          have eG1 : nsG now (a :: r) 0 (0 + 1) = a :: r := wakeRest_late (r := r) hle
          have eG2 : dueG now (a :: r) 0 (0 + 1) = none := wakeDue_late (r := r) hle
          rw [eG1, eG2]
          refine' JG_end (L := L) F9 N9 ?hI ?hA ?hc ?h0 ?h1 ?h2 ?h3 ?ht ?i0 ?i1 ?k0 ?k1 ?hx
          case hI => k_memK
          case hA => k_memK
          case hc => assumption
          case h0 => k_memK
          case h1 => k_memK
          case h2 => k_memK
          case h3 => k_memK
          case ht => (intro p hp; repeat (first | exact hp | refine List.mem_cons_of_mem _ ?_))
          case i0 => exact i0
          case i1 => exact i1
          case k0 => exact rfl
          case k1 => exact k1
          case hx => k_all
    · change wpAny _ _ (assign _ _ (Value.int 1 t2)) _ _ _
      replace i1 : IntsAre us1 ns1 := i1
      replace k1 : vs1 = [] := k1
      subst k1
      cases hn : ns1 with
      | nil =>
        rw [hn] at i1
        cases i1
        k_steps
        refine Hid.out ?_
        rename (News h₀ L _ _) => N9
        rename (Fr h₀ L _ _) => F9
        refine' JG_end (L := L) F9 N9 ?hI ?hA ?hc ?h0 ?h1 ?h2 ?h3 ?ht ?i0 ?i1 ?k0 ?k1 ?hx
        case hI => k_memK
        case hA => k_memK
        case hc => assumption
        case h0 => k_memK
        case h1 => k_memK
        case h2 => k_memK
        case h3 => k_memK
        case ht => (intro p hp; repeat (first | exact hp | refine List.mem_cons_of_mem _ ?_))
        case i1 => exact IntsAre.nil
        case i0 => exact i0
        case k1 => exact rfl
        case k0 => exact k0
        case hx => k_all
      | cons a r =>
        rw [hn] at i1
        cases i1
        rename_i ta us1 il
        have lr : us1.length ≤ 100 := by
          rw [IntsAre.length il]
          rw [hn] at l1
          simp only [List.length_cons] at l1
          omega
        have i1 := IntsAre.cons a ta il
        by_cases hle : a ≤ now
        · k_steps
          · exact absurd (by assumption : decide (a :: r = []) = true) (by simp)
          refine Hid.out ?_
          rename (News h₀ L _ _) => N9
          rename (Fr h₀ L _ _) => F9
          simp only [List.push_toArray, List.nil_append] at N9
          have eG1 : nsG now (a :: r) 1 (1 + 1) = r := wakeRest_cons hle
          have eG2 : dueG now (a :: r) 1 (1 + 1) = some a := wakeDue_cons (r := r) hle
          rw [eG1, eG2]
          refine' JG_end (L := L) F9 N9 ?hI ?hA ?hc ?h0 ?h1 ?h2 ?h3 ?ht ?i0 ?i1 ?k0 ?k1 ?hx
          case hI => k_memK
          case hA => k_memK
          case hc => assumption
          case h0 => k_memK
          case h1 => k_memK
          case h2 => k_memK
          case h3 => k_memK
          case ht => (intro p hp; repeat (first | exact hp | refine List.mem_cons_of_mem _ ?_))
          case i1 => exact il
          case i0 => exact i0
          case k1 => exact ⟨ta, rfl⟩
          case k0 => exact k0
          case hx => k_all
        · k_steps
          · exact absurd (by assumption : decide (a :: r = []) = true) (by simp)
          refine Hid.out ?_
          rename (News h₀ L _ _) => N9
          rename (Fr h₀ L _ _) => F9
          have eG1 : nsG now (a :: r) 1 (1 + 1) = a :: r := wakeRest_late (r := r) hle
          have eG2 : dueG now (a :: r) 1 (1 + 1) = none := wakeDue_late (r := r) hle
          rw [eG1, eG2]
          refine' JG_end (L := L) F9 N9 ?hI ?hA ?hc ?h0 ?h1 ?h2 ?h3 ?ht ?i0 ?i1 ?k0 ?k1 ?hx
          case hI => k_memK
          case hA => k_memK
          case hc => assumption
          case h0 => k_memK
          case h1 => k_memK
          case h2 => k_memK
          case h3 => k_memK
          case ht => (intro p hp; repeat (first | exact hp | refine List.mem_cons_of_mem _ ?_))
          case i1 => exact i1
          case i0 => exact i0
          case k1 => exact rfl
          case k0 => exact k0
          case hx => k_all
    · exact absurd hi2 (by simp)
end

end
section
/-! ## the law's loop -/
section
variable {prog : Program} {w : World} {A : Around} {E : Value → Shared → Prop} {Q : Flow → Shared → Prop} {s : Shared} {env : Env} {h₀ : Heap} {L : Addr}
noncomputable def WStep (h₀ : Heap) (L : Addr) (s : Shared) (J : Nat → (Str → Option Value) → List (Addr × Obj) → Prop) (Q : Flow → Shared → Prop) (n : Nat) (f : Flow) (s₃ : Shared) : Prop :=
  match f with
  | .next | .cont => ∃ h' tk m₂ news₂ n', s₃ = { s with heap := h', toks := tk } ∧ Fr h₀ L h' m₂ ∧ News h₀ L h' news₂ ∧ n' < n ∧ J n' m₂ news₂
  | .brk => Q .next s₃
  | .ret v => Q (.ret v) s₃
theorem While_brk {test : Expr} {body : List Stmt} {pos : Pos} {m : Str → Option Value} {news : List (Addr × Obj)} (J : Nat → (Str → Option Value) → List (Addr × Obj) → Prop) (n₀ : Nat)
    (F : Fr h₀ L s.heap m) (N : News h₀ L s.heap news) (hJ : J n₀ m news)
    (turn : ∀ n m₁ news₁ h₁ tk₁, Fr h₀ L h₁ m₁ → News h₀ L h₁ news₁ → J n m₁ news₁ →
      wpAny (model prog w) A (isTrue test env (eval test env)) (fun b s₂ =>
        if b = true then wpAny (model prog w) A (execs body env) (WStep h₀ L s J Q n) E s₂ else Q .next s₂) E { s with heap := h₁, toks := tk₁ })
    (hE : PassesOwn (model prog w) A env E := by passes_own) :
    wpAny (model prog w) A (exec (.While test body [] pos) env) Q E s := by
  refine wpAny_While (codeAny_whileLoop (fun n s' => ∃ h₁ tk₁ m₁ news₁, s' = { s with heap := h₁, toks := tk₁ } ∧ Fr h₀ L h₁ m₁ ∧ News h₀ L h₁ news₁ ∧ J n m₁ news₁) ?_ n₀ ⟨s.heap, s.toks, m, news, rfl, F, N, hJ⟩)
  rintro n s' ⟨h₁, tk₁, m₁, news₁, rfl, F₁, N₁, J₁⟩
  refine wpAny_mono (turn n m₁ news₁ h₁ tk₁ F₁ N₁ J₁) (fun b s₂ h₂ => ?_) hE
  cases b with
  | false =>
    simp only [Bool.false_eq_true, if_false] at h₂ ⊢
    exact wpAny_execs_nil h₂
  | true =>
    simp only [if_true] at h₂ ⊢
    refine wpAny_mono h₂ (fun f s₃ h₃ => ?_) hE
    cases f with
    | next =>
      obtain ⟨h', tk, m₂, news₂, n', rfl, F₂, N₂, hn, J₂⟩ := h₃
      exact ⟨n', hn, h', tk, m₂, news₂, rfl, F₂, N₂, J₂⟩
    | cont =>
      obtain ⟨h', tk, m₂, news₂, n', rfl, F₂, N₂, hn, J₂⟩ := h₃
      exact ⟨n', hn, h', tk, m₂, news₂, rfl, F₂, N₂, J₂⟩
    | brk => exact h₃
    | ret v => exact h₃
end

end
section
/-! ## the law's rows by their state; each of the loop's statements over them -/
section
variable {h₀ h : Heap} {L : Addr} {all : List (Addr × Obj)} {as : List Addr}
noncomputable def NoTup (as : List Addr) (all : List (Addr × Obj)) : Prop := ∀ x ∈ as, ∃ o, (x, o) ∈ all ∧ ∀ xs n, o ≠ tupOf xs n
theorem NoTup.off (hno : NoTup as all) (N : News h₀ L h all) {T : Addr} {xs : List Value} {n : Nat} (hm : (T, tupOf xs n) ∈ all) : (T, tupOf xs n) ∈ offs as all := mem_offs.mpr ⟨hm, fun ha => by
  obtain ⟨o, ho, hn⟩ := hno T ha
  exact hn xs n (Option.some.inj ((N _ ho).1.symm.trans (N _ hm).1))⟩
theorem FlysL.offs (hno : NoTup as all) (N : News h₀ L h all) : ∀ {vs : List Value} {fs : List Fly}, FlysL all vs fs → FlysL (offs as all) vs fs
  | [], [], _ => trivial
  | _ :: _, _ :: _, ⟨⟨T, t1, t2, t3, nT, e, hm⟩, r⟩ => ⟨⟨T, t1, t2, t3, nT, e, hno.off N hm⟩, FlysL.offs hno N r⟩
theorem CamsAre.offs (hno : NoTup as all) (N : News h₀ L h all) {nm : Str} : ∀ {vs : List Value} {cs : List Cam}, CamsAre all nm vs cs → CamsAre (offs as all) nm vs cs
  | [], [], _ => trivial
  | _ :: _, _ :: _, ⟨⟨T, t1, t2, t3, nT, e, hm⟩, r⟩ => ⟨⟨T, t1, t2, t3, nT, e, hno.off N hm⟩, CamsAre.offs hno N r⟩
end
structure LAd where
  (rw wk cm W bk r0 r1 k0 k1 : Addr)
  (most : Int)
  (tmost : Tok)
  (nr ncm : Nat)
structure LV where
  (oa oc : Obj)
  (tc tmn : Tok)
  (fl w0 w1 : Addr)
  (fvs vs0 vs1 us0 us1 cs0 cs1 : List Value)
  (nf q0 q1 nw n0 n1 p0 p1 : Nat)
  (tm on : Option Value)
noncomputable def LFix (L : Addr) (a : LAd) (v : LV) : List Addr := [L + 1 + 1, L + 1, a.wk, v.w0, v.w1, a.r0, a.r1, a.k0, a.k1]
noncomputable def LM (m₀ : Str → Option Value) (a : LAd) (v : LV) (steps : Int) : Str → Option Value := LMap m₀ a.rw a.wk a.cm a.W a.bk a.most a.tmost (some (.ref v.fl)) v.tm (some (.int steps v.tmn)) v.on
structure LS (L : Addr) (a : LAd) (tl : List (Addr × Obj)) (v : LV) (d : D) (all : List (Addr × Obj)) : Prop where
  mA : (L + 1 + 1, v.oa) ∈ all
  hA : ∃ va, v.oa.data = .cell va
  mC : (L + 1, v.oc) ∈ all
  hC : CellIs v.oc (.int d.now v.tc)
  mWk : (a.wk, listOf #[.ref v.w0, .ref v.w1] v.nw) ∈ all
  mw0 : (v.w0, listOf (List.toArray v.vs0) v.q0) ∈ all
  mw1 : (v.w1, listOf (List.toArray v.vs1) v.q1) ∈ all
  kw0 : WokeIs v.vs0 d.due0
  kw1 : WokeIs v.vs1 d.due1
  mr0 : (a.r0, listOf (List.toArray v.us0) v.n0) ∈ all
  mr1 : (a.r1, listOf (List.toArray v.us1) v.n1) ∈ all
  i0 : IntsAre v.us0 d.ns0
  i1 : IntsAre v.us1 d.ns1
  mk0 : (a.k0, listOf (List.toArray v.cs0) v.p0) ∈ all
  mk1 : (a.k1, listOf (List.toArray v.cs1) v.p1) ∈ all
  c0 : CamsAre all (Str.ofString "server") v.cs0 d.cm0
  c1 : CamsAre all (Str.ofString "client") v.cs1 d.cm1
  mfl : (v.fl, listOf (List.toArray v.fvs) v.nf) ∈ all
  fa : FlysL all v.fvs d.fs
  nd : (v.fl :: LFix L a v).Nodup
  sub : ∀ p ∈ tl, p ∈ all
  off : ∀ x ∈ LFix L a v, ∀ p ∈ tl, p.1 ≠ x
  mrw : (a.rw, listOf #[.ref a.r0, .ref a.r1] a.nr) ∈ tl
  mcm : (a.cm, listOf #[.ref a.k0, .ref a.k1] a.ncm) ∈ tl
theorem cell_no_tup {o : Obj} {v : Option Value} {ys : List Value} {k : Nat} (h : o.data = .cell v) : o ≠ tupOf ys k := fun e => by
  rw [e] at h
  cases h
section
variable {L : Addr} {a : LAd} {tl : List (Addr × Obj)} {v : LV} {d d' : D} {all all' : List (Addr × Obj)}
theorem LS.noTup (S : LS L a tl v d all) : NoTup (LFix L a v) all :=
  fcons (let ⟨_, h⟩ := S.hA; ⟨_, S.mA, fun _ _ => cell_no_tup h⟩) (fcons ⟨_, S.mC, fun _ _ => cell_no_tup S.hC⟩ (fcons ⟨_, S.mWk, fun _ _ => list_no_tup⟩ (fcons ⟨_, S.mw0, fun _ _ => list_no_tup⟩ (fcons ⟨_, S.mw1, fun _ _ => list_no_tup⟩
    (fcons ⟨_, S.mr0, fun _ _ => list_no_tup⟩ (fcons ⟨_, S.mr1, fun _ _ => list_no_tup⟩ (fcons ⟨_, S.mk0, fun _ _ => list_no_tup⟩ (fcons ⟨_, S.mk1, fun _ _ => list_no_tup⟩ (List.forall_mem_nil _)))))))))
theorem NoTup.part {as bs : List Addr} (h : NoTup as all) (hs : ∀ x ∈ bs, x ∈ as) : NoTup bs all := fun x hx => h x (hs x hx)
theorem LS.mono (S : LS L a tl v d all) (hs : ∀ p ∈ all, p ∈ all') : LS L a tl v d all' :=
  ⟨hs _ S.mA, S.hA, hs _ S.mC, S.hC, hs _ S.mWk, hs _ S.mw0, hs _ S.mw1, S.kw0, S.kw1, hs _ S.mr0, hs _ S.mr1, S.i0, S.i1, hs _ S.mk0, hs _ S.mk1, S.c0.mono hs, S.c1.mono hs, hs _ S.mfl, S.fa.mono hs, S.nd, fun p hp => hs _ (S.sub p hp), S.off, S.mrw, S.mcm⟩
theorem LS.as (S : LS L a tl v d all) (e1 : d'.now = d.now) (e2 : d'.fs = d.fs) (e3 : d'.due0 = d.due0) (e4 : d'.due1 = d.due1) (e5 : d'.ns0 = d.ns0) (e6 : d'.ns1 = d.ns1) (e7 : d'.cm0 = d.cm0) (e8 : d'.cm1 = d.cm1) : LS L a tl v d' all := by
  obtain ⟨now, steps, n, fs, due0, due1, ns0, ns1, cm0, cm1⟩ := d
  obtain ⟨now', steps', n', fs', due0', due1', ns0', ns1', cm0', cm1'⟩ := d'
  dsimp only at e1 e2 e3 e4 e5 e6 e7 e8
  subst e1 e2 e3 e4 e5 e6 e7 e8
  exact ⟨S.mA, S.hA, S.mC, S.hC, S.mWk, S.mw0, S.mw1, S.kw0, S.kw1, S.mr0, S.mr1, S.i0, S.i1, S.mk0, S.mk1, S.c0, S.c1, S.mfl, S.fa, S.nd, S.sub, S.off, S.mrw, S.mcm⟩
/-- an object of the fixed ones that is none of these -/
theorem keep_offs {as : List Addr} {x : Addr} {o : Obj} (hm : (x, o) ∈ all) (hn : x ∉ as) : (x, o) ∈ offs as all := mem_offs.mpr ⟨hm, hn⟩
/-- the same by the places (fl 0, the cells 1 2, wk 3, w0 4, w1 5, r0 6, r1 7, k0 8, k1 9) -/
theorem LS.keep {as : List Addr} {x : Addr} {o : Obj} (S : LS L a tl v d all) (i : Nat) (I : List Nat) (hi : (i :: I).Nodup) (e1 : Plc [i] [x] (v.fl :: LFix L a v)) (e2 : Plc I as (v.fl :: LFix L a v)) (hm : (x, o) ∈ all) : (x, o) ∈ offs as all :=
  keep_offs hm (Plc.not S.nd i I hi e1 e2)
theorem LS.keepT {as : List Addr} (S : LS L a tl v d all) (I : List Nat) (e : Plc I as (LFix L a v)) : ∀ p ∈ tl, p ∈ offs as all := fun p hp => mem_offs.mpr ⟨S.sub p hp, fun h => S.off _ (e.sub _ h) p hp rfl⟩
end
section
variable {w : World} {s : Shared} {L fa : Addr} {cd : Value} {outer : List Env} {dp u : Nat} {g : Option (List Code)} {A₀ : Around} {h₀ base : Heap} {m₀ mg mb : Str → Option Value} {p : Program} {loose : List Str} {mean : ExcName → Option Value} {tl all : List (Addr × Obj)} {a : LAd} {v : LV} {d : D} {Q : Flow → Shared → Prop}
theorem lsA (B : Below A₀ base outer h₀) (F : Fr h₀ L s.heap (LM m₀ a v d.steps)) (X : (headK w.params).In h₀) (T : Top p loose mean mg mb h₀) (N : News h₀ L s.heap all) (S : LS L a tl v d all) (lf : d.fs.length ≤ 60) (hd : dp < 500) (hu : u < 6000)
    (K : ∀ v' all' h' tk, Fr h₀ L h' (LM m₀ a v' d.steps) → News h₀ L h' all' → LS L a tl v' (sendD d) all' → Q .next { s with heap := h', toks := tk }) :
    wpAny (model PySem.Challenge.rw_rg0253_01.row.prog w) (mkA (lawEnv L fa cd) outer dp g u) (exec (wStmt 0) (lawEnv L fa cd)) Q (fun _ _ => False) s := by
  obtain ⟨va, hA⟩ := S.hA
  have hno : NoTup [L + 1 + 1, a.wk, v.w0, v.w1] all := S.noTup.part (Plc.sub (I := [0, 2, 3, 4]) (by exact rfl))
  have mC : (L + 1, v.oc) ∈ offs [L + 1 + 1, a.wk, v.w0, v.w1] all := S.keep 2 [1, 3, 4, 5] (by decide) rfl rfl S.mC
  have mr0 : (a.r0, listOf (List.toArray v.us0) v.n0) ∈ offs [L + 1 + 1, a.wk, v.w0, v.w1] all := S.keep 6 [1, 3, 4, 5] (by decide) rfl rfl S.mr0
  have mr1 : (a.r1, listOf (List.toArray v.us1) v.n1) ∈ offs [L + 1 + 1, a.wk, v.w0, v.w1] all := S.keep 7 [1, 3, 4, 5] (by decide) rfl rfl S.mr1
  have mk0 : (a.k0, listOf (List.toArray v.cs0) v.p0) ∈ offs [L + 1 + 1, a.wk, v.w0, v.w1] all := S.keep 8 [1, 3, 4, 5] (by decide) rfl rfl S.mk0
  have mk1 : (a.k1, listOf (List.toArray v.cs1) v.p1) ∈ offs [L + 1 + 1, a.wk, v.w0, v.w1] all := S.keep 9 [1, 3, 4, 5] (by decide) rfl rfl S.mk1
  have mfl : (v.fl, listOf (List.toArray v.fvs) v.nf) ∈ offs [L + 1 + 1, a.wk, v.w0, v.w1] all := S.keep 0 [1, 3, 4, 5] (by decide) rfl rfl S.mfl
  refine chunkA (m := LM m₀ a v d.steps) (m₀ := m₀) (rw := a.rw) (cm := a.cm) (W := a.W) (bk := a.bk) (most := a.most) (tmost := a.tmost) (tm := v.tm) (mn := some (.int d.steps v.tmn)) (on := v.on) (tl := offs [L + 1 + 1, a.wk, v.w0, v.w1] all) (av := [L + 1, a.r0, a.r1, a.k0, a.k1])
    (news := (L + 1 + 1, v.oa) :: (a.wk, listOf #[.ref v.w0, .ref v.w1] v.nw) :: (v.w0, listOf (List.toArray v.vs0) v.q0) :: (v.w1, listOf (List.toArray v.vs1) v.q1) :: offs [L + 1 + 1, a.wk, v.w0, v.w1] all)
    B F X T (News.of_sub N (fcons S.mA (fcons S.mWk (fcons S.mw0 (fcons S.mw1 fun p hp => offs_sub _ hp))))) ⟨v.oa, va, v.fl, v.fvs, v.nf, v.w0, v.vs0, v.q0, v.w1, v.vs1, v.q1, v.nw, _, rfl, rfl, hA, fun _ h => h, mfl, S.fa.offs hno N, S.kw0, S.kw1, Plc.nodup S.nd (I := [1, 3, 4, 5]) rfl (by decide), fun x hx => offs_ne hx, Plc.not S.nd 0 [2, 6, 7, 8, 9] (by decide) rfl rfl⟩
    (fcons ⟨_, mC⟩ (fcons ⟨_, mr0⟩ (fcons ⟨_, mr1⟩ (fcons ⟨_, mk0⟩ (fcons ⟨_, mk1⟩ (List.forall_mem_nil _)))))) mC S.hC lf hd hu ?_
  intro m' news' h' tk F' N' j'
  obtain ⟨oa', va', fl', fvs', nf', w0', vs0', q0', w1', vs1', q1', nw', tl', e1, e2, hA', sub', mf', fa', k0', k1', nd', off', fln⟩ := j'
  subst e1 e2
  have tsub : ∀ p ∈ tl, p ∈ tl' := fun p hp => sub' p (S.keepT [0, 2, 3, 4] (by exact rfl) p hp)
  have tup : ∀ p ∈ tl', p ∈ (L + 1 + 1, oa') :: (a.wk, listOf #[.ref w0', .ref w1'] nw') :: (w0', listOf (List.toArray vs0') q0') :: (w1', listOf (List.toArray vs1') q1') :: tl' := fun p hp => .tail _ (.tail _ (.tail _ (.tail _ hp)))
  refine K { v with oa := oa', fl := fl', fvs := fvs', nf := nf', w0 := w0', vs0 := vs0', q0 := q0', w1 := w1', vs1 := vs1', q1 := q1', nw := nw' } _ h' tk F' N'
      ⟨.head _, ⟨va', hA'⟩, tup _ (sub' _ mC), S.hC, .tail _ (.head _), .tail _ (.tail _ (.head _)), .tail _ (.tail _ (.tail _ (.head _))), k0', k1', tup _ (sub' _ mr0), tup _ (sub' _ mr1), S.i0, S.i1, tup _ (sub' _ mk0), tup _ (sub' _ mk1),
        (S.c0.offs hno N).mono fun p hp => tup _ (sub' p hp), (S.c1.offs hno N).mono fun p hp => tup _ (sub' p hp), tup _ mf', fa'.mono tup, ?_, fun p hp => tup _ (tsub p hp), fun x hx p hp => ?_, S.mrw, S.mcm⟩
  · have h5 : (fl' :: [L + 1, a.r0, a.r1, a.k0, a.k1]).Nodup := List.nodup_cons.mpr ⟨fln, Plc.nodup S.nd (I := [2, 6, 7, 8, 9]) rfl (by decide)⟩
    have hm : ∀ b ∈ fl' :: [L + 1, a.r0, a.r1, a.k0, a.k1], ∃ o, (b, o) ∈ tl' := fcons ⟨_, mf'⟩ (fcons ⟨_, sub' _ mC⟩ (fcons ⟨_, sub' _ mr0⟩ (fcons ⟨_, sub' _ mr1⟩ (fcons ⟨_, sub' _ mk0⟩ (fcons ⟨_, sub' _ mk1⟩ (List.forall_mem_nil _))))))
    exact Plc.nodup (I := [4, 0, 5, 1, 2, 3, 6, 7, 8, 9]) (L := [L + 1 + 1, a.wk, w0', w1'] ++ (fl' :: [L + 1, a.r0, a.r1, a.k0, a.k1])) (List.nodup_append.mpr ⟨nd', h5, fun x hx b hb e => let ⟨_, ho⟩ := hm b hb; off' x hx _ ho e.symm⟩) rfl (by decide)
  · rcases List.mem_append.mp (Plc.sub (I := [0, 4, 1, 2, 3, 5, 6, 7, 8]) (L := [L + 1 + 1, a.wk, w0', w1'] ++ [L + 1, a.r0, a.r1, a.k0, a.k1]) (by exact rfl) x hx) with h | h
    · exact off' x h p (tsub p hp)
    · exact S.off x (Plc.sub (I := [1, 5, 6, 7, 8]) (by exact rfl) x h) p hp
end

end
section
section
variable {w : World} {s : Shared} {L fa : Addr} {cd : Value} {outer : List Env} {dp u : Nat} {g : Option (List Code)} {A₀ : Around} {h₀ base : Heap} {m₀ mg mb : Str → Option Value} {p : Program} {loose : List Str} {mean : ExcName → Option Value} {tl all : List (Addr × Obj)} {a : LAd} {v : LV} {d : D} {Q : Flow → Shared → Prop}
theorem lsB (B : Below A₀ base outer h₀) (F : Fr h₀ L s.heap (LM m₀ a v d.steps)) (X : (headK w.params).In h₀) (T : Top p loose mean mg mb h₀) (N : News h₀ L s.heap all) (S : LS L a tl v d all) (lf : d.fs.length ≤ 100) (hd : dp < 500) (hu : u < 6000)
    (K : ∀ tml ts nt h' tk, Fr h₀ L h' (LM m₀ a { v with tm := some (.ref tml) } d.steps) → News h₀ L h' ((tml, listOf (List.toArray ts) nt) :: all) → LS L a tl { v with tm := some (.ref tml) } d ((tml, listOf (List.toArray ts) nt) :: all) → IntsAre ts (nextsD d) → Q .next { s with heap := h', toks := tk }) :
    wpAny (model PySem.Challenge.rw_rg0253_01.row.prog w) (mkA (lawEnv L fa cd) outer dp g u) (exec (wStmt 1) (lawEnv L fa cd)) Q (fun _ _ => False) s :=
  chunkB B F X T N S.mfl S.fa (S.sub _ S.mrw) S.mr0 S.i0 S.mr1 S.i1 (by rw [S.fa.length]; exact lf) hd hu fun tml ts nt h' tk F' N' fr it =>
    K tml ts nt h' tk F' N' (LS.mono (v := { v with tm := some (.ref tml) }) ⟨S.mA, S.hA, S.mC, S.hC, S.mWk, S.mw0, S.mw1, S.kw0, S.kw1, S.mr0, S.mr1, S.i0, S.i1, S.mk0, S.mk1, S.c0, S.c1, S.mfl, S.fa, S.nd, S.sub, S.off, S.mrw, S.mcm⟩ fun p hp => .tail _ hp) it
theorem lsC {tml : Addr} {ts : List Value} {nt : Nat} (B : Below A₀ base outer h₀) (F : Fr h₀ L s.heap (LM m₀ a { v with tm := some (.ref tml) } d.steps)) (X : (headK w.params).In h₀) (T : Top p loose mean mg mb h₀) (N : News h₀ L s.heap all) (mt : (tml, listOf (List.toArray ts) nt) ∈ all) (it : IntsAre ts (nextsD d)) (hd : dp < 500) (hu : u < 6000)
    (K : ∀ h' tk, Fr h₀ L h' (LM m₀ a { v with tm := some (.ref tml) } d.steps) → News h₀ L h' all → if nextsD d = [] then Q .brk { s with heap := h', toks := tk } else Q .next { s with heap := h', toks := tk }) :
    wpAny (model PySem.Challenge.rw_rg0253_01.row.prog w) (mkA (lawEnv L fa cd) outer dp g u) (exec (wStmt 2) (lawEnv L fa cd)) Q (fun _ _ => False) s :=
  chunkC B F X T N mt it hd hu K
theorem lsD {tml : Addr} {ts : List Value} {nt : Nat} (B : Below A₀ base outer h₀) (F : Fr h₀ L s.heap (LM m₀ a { v with tm := some (.ref tml) } d.steps)) (X : (headK w.params).In h₀) (T : Top p loose mean mg mb h₀) (N : News h₀ L s.heap all) (S : LS L a tl { v with tm := some (.ref tml) } d all) (mt : (tml, listOf (List.toArray ts) nt) ∈ all) (it : IntsAre ts (nextsD d)) (hn : nextsD d ≠ []) (hd : dp < 500) (hu : u < 6000)
    (K : ∀ x v' all' h' tk, LeastIs (nextsD d) (some x) → Fr h₀ L h' (LM m₀ a v' (d.steps + 1)) → News h₀ L h' all' → LS L a tl v' { d with now := max d.now x, steps := d.steps + 1 } all' → Q .next { s with heap := h', toks := tk }) :
    wpAny (model PySem.Challenge.rw_rg0253_01.row.prog w) (mkA (lawEnv L fa cd) outer dp g u) (exec (wStmt 3) (lawEnv L fa cd)) Q (fun _ _ => False) s := by
  have hno : NoTup [L + 1] all := S.noTup.part (Plc.sub (I := [1]) (by exact rfl))
  have hmt : (tml, listOf (List.toArray ts) nt) ∈ offs [L + 1] all := keep_offs mt fun h => by
    have e := List.mem_singleton.mp h
    have h1 := (N _ mt).1
    have h2 : s.heap.get? (L + 1) = some v.oc := (N _ S.mC).1
    have h3 : v.oc.data = .cell (some (.int d.now v.tc)) := S.hC
    dsimp only at h1
    rw [e, h2] at h1
    rw [Option.some.inj h1] at h3
    cases h3
  refine chunkD (tl := offs [L + 1] all) B F X T (News.of_sub N (fcons S.mC fun p hp => offs_sub _ hp)) (offs_ne (.head _)) S.hC hmt it hn hd hu fun x oc' tc' tmn' h' tk hx hc' F' N' => ?_
  have ko : ∀ p ∈ offs [L + 1] all, p ∈ (L + 1, oc') :: offs [L + 1] all := fun p hp => .tail _ hp
  exact K x { v with tm := some (.ref tml), oc := oc', tc := tc', tmn := tmn' } _ h' tk hx F' N'
      ⟨ko _ (S.keep 1 [2] (by decide) rfl rfl S.mA), S.hA, .head _, hc', ko _ (S.keep 3 [2] (by decide) rfl rfl S.mWk), ko _ (S.keep 4 [2] (by decide) rfl rfl S.mw0), ko _ (S.keep 5 [2] (by decide) rfl rfl S.mw1), S.kw0, S.kw1, ko _ (S.keep 6 [2] (by decide) rfl rfl S.mr0), ko _ (S.keep 7 [2] (by decide) rfl rfl S.mr1), S.i0, S.i1, ko _ (S.keep 8 [2] (by decide) rfl rfl S.mk0), ko _ (S.keep 9 [2] (by decide) rfl rfl S.mk1),
        (S.c0.offs hno N).mono ko, (S.c1.offs hno N).mono ko, ko _ (S.keep 0 [2] (by decide) rfl rfl S.mfl), (S.fa.offs hno N).mono ko, S.nd, fun p hp => ko _ (S.keepT [1] (by exact rfl) p hp), S.off, S.mrw, S.mcm⟩
theorem lsE (B : Below A₀ base outer h₀) (F : Fr h₀ L s.heap (LM m₀ a v d.steps)) (X : (headK w.params).In h₀) (T : Top p loose mean mg mb h₀) (N : News h₀ L s.heap all) (S : LS L a tl v d all)
    (ok : ∀ f ∈ d.fs, (f.goal = 0 ∨ f.goal = 1) ∧ 0 ≤ f.due ∧ f.due < 256) (lc : d.cm0.length + d.fs.length ≤ 100 ∧ d.cm1.length + d.fs.length ≤ 100) (hd : dp < 500) (hu : u < 6000)
    (K : ∀ v' all' h' tk, Fr h₀ L h' (LM m₀ a v' d.steps) → News h₀ L h' all' → LS L a tl v' { d with cm0 := d.cm0 ++ camsOf d.now 0 (d.fs.filter fun f => decide (f.arr ≤ d.now)), cm1 := d.cm1 ++ camsOf d.now 1 (d.fs.filter fun f => decide (f.arr ≤ d.now)) } all' → Q .next { s with heap := h', toks := tk }) :
    wpAny (model PySem.Challenge.rw_rg0253_01.row.prog w) (mkA (lawEnv L fa cd) outer dp g u) (exec (wStmt 4) (lawEnv L fa cd)) Q (fun _ _ => False) s := by
  have hno : NoTup [a.k0, a.k1] all := S.noTup.part (Plc.sub (I := [7, 8]) (by exact rfl))
  have tk0 : ∀ p ∈ tl, p ∈ offs [a.k0, a.k1] all := S.keepT [7, 8] rfl
  refine chunkE (tl := offs [a.k0, a.k1] all) (n0 := v.p0) (n1 := v.p1) B F X T (News.of_sub N (fcons S.mk0 (fcons S.mk1 fun p hp => offs_sub _ hp))) (offs_ne (.head _)) (offs_ne (.tail _ (.head _))) (Plc.ne S.nd 8 9 (by decide) rfl) (S.keep 2 [8, 9] (by decide) rfl rfl S.mC) S.hC (S.keep 0 [8, 9] (by decide) rfl rfl S.mfl) (S.fa.offs hno N) (tk0 _ S.mcm) (S.c0.offs hno N) (S.c1.offs hno N) ok lc hd hu fun m' news' h' tk F' N' j' => ?_
  obtain ⟨on', cs0', p0', cs1', p1', tl', e1, e2, sub', c0', c1', o0', o1'⟩ := j'
  subst e1 e2
  have up : ∀ p ∈ tl', p ∈ (a.k0, listOf (List.toArray cs0') p0') :: (a.k1, listOf (List.toArray cs1') p1') :: tl' := fun p hp => .tail _ (.tail _ hp)
  exact K { v with on := on', cs0 := cs0', p0 := p0', cs1 := cs1', p1 := p1' } _ h' tk F' N'
      ⟨up _ (sub' _ (S.keep 1 [8, 9] (by decide) rfl rfl S.mA)), S.hA, up _ (sub' _ (S.keep 2 [8, 9] (by decide) rfl rfl S.mC)), S.hC, up _ (sub' _ (S.keep 3 [8, 9] (by decide) rfl rfl S.mWk)), up _ (sub' _ (S.keep 4 [8, 9] (by decide) rfl rfl S.mw0)), up _ (sub' _ (S.keep 5 [8, 9] (by decide) rfl rfl S.mw1)), S.kw0, S.kw1, up _ (sub' _ (S.keep 6 [8, 9] (by decide) rfl rfl S.mr0)), up _ (sub' _ (S.keep 7 [8, 9] (by decide) rfl rfl S.mr1)), S.i0, S.i1, .head _, .tail _ (.head _),
        c0'.mono up, c1'.mono up, up _ (sub' _ (S.keep 0 [8, 9] (by decide) rfl rfl S.mfl)), ((S.fa.offs hno N).mono sub').mono up, S.nd, fun p hp => up _ (sub' _ (tk0 p hp)), S.off, S.mrw, S.mcm⟩
theorem lsF (B : Below A₀ base outer h₀) (F : Fr h₀ L s.heap (LM m₀ a v d.steps)) (X : (headK w.params).In h₀) (T : Top p loose mean mg mb h₀) (N : News h₀ L s.heap all) (S : LS L a tl v d all) (lf : d.fs.length ≤ 100) (hd : dp < 500) (hu : u < 6000)
    (K : ∀ v' all' h' tk, Fr h₀ L h' (LM m₀ a v' d.steps) → News h₀ L h' all' → LS L a tl v' { d with fs := d.fs.filter fun f => decide (d.now < f.arr) } all' → Q .next { s with heap := h', toks := tk }) :
    wpAny (model PySem.Challenge.rw_rg0253_01.row.prog w) (mkA (lawEnv L fa cd) outer dp g u) (exec (wStmt 5) (lawEnv L fa cd)) Q (fun _ _ => False) s := by
  have nd := S.nd
  refine chunkF B F X T N S.mC S.hC S.mfl S.fa (by rw [S.fa.length]; exact lf) hd hu fun fl' fvs' nf' h' tk F' N' fr fa' => ?_
  have up : ∀ p ∈ all, p ∈ (fl', listOf (List.toArray fvs') nf') :: all := fun p hp => .tail _ hp
  refine K { v with fl := fl', fvs := fvs', nf := nf' } _ h' tk F' N'
    ⟨up _ S.mA, S.hA, up _ S.mC, S.hC, up _ S.mWk, up _ S.mw0, up _ S.mw1, S.kw0, S.kw1, up _ S.mr0, up _ S.mr1, S.i0, S.i1, up _ S.mk0, up _ S.mk1, S.c0.mono up, S.c1.mono up, .head _, fa'.mono up, ?_, fun p hp => up _ (S.sub p hp), S.off, S.mrw, S.mcm⟩
  refine List.nodup_cons.mpr ⟨fun h => ?_, (List.nodup_cons.mp nd).2⟩
  obtain ⟨o, ho, _⟩ := S.noTup fl' h
  exact fr _ ho rfl
theorem lsG (B : Below A₀ base outer h₀) (F : Fr h₀ L s.heap (LM m₀ a v d.steps)) (X : (headK w.params).In h₀) (T : Top p loose mean mg mb h₀) (N : News h₀ L s.heap all) (S : LS L a tl v d all) (e0 : d.due0 = none) (e1 : d.due1 = none) (l0 : d.ns0.length ≤ 4) (l1 : d.ns1.length ≤ 4) (hd : dp < 500) (hu : u < 6000)
    (K : ∀ v' all' h' tk, Fr h₀ L h' (LM m₀ a v' d.steps) → News h₀ L h' all' → LS L a tl v' { d with ns0 := wakeRest d.now d.ns0, ns1 := wakeRest d.now d.ns1, due0 := wakeDue d.now d.ns0, due1 := wakeDue d.now d.ns1 } all' → Q .next { s with heap := h', toks := tk }) :
    wpAny (model PySem.Challenge.rw_rg0253_01.row.prog w) (mkA (lawEnv L fa cd) outer dp g u) (exec (wStmt 6) (lawEnv L fa cd)) Q (fun _ _ => False) s := by
  obtain ⟨va, hA⟩ := S.hA
  have hno : NoTup [L + 1 + 1, a.r0, a.r1, v.w0, v.w1] all := S.noTup.part (Plc.sub (I := [0, 5, 6, 3, 4]) (by exact rfl))
  have tk0 : ∀ p ∈ tl, p ∈ offs [L + 1 + 1, a.r0, a.r1, v.w0, v.w1] all := S.keepT [0, 5, 6, 3, 4] rfl
  have kw0 := S.kw0
  have kw1 := S.kw1
  rw [e0] at kw0
  rw [e1] at kw1
  refine chunkG (m := LM m₀ a v d.steps) (m₀ := m₀) (rw := a.rw) (cm := a.cm) (W := a.W) (bk := a.bk) (most := a.most) (tmost := a.tmost) (fl := some (.ref v.fl)) (tm := v.tm) (mn := some (.int d.steps v.tmn)) (on := v.on) (tl := offs [L + 1 + 1, a.r0, a.r1, v.w0, v.w1] all)
    (news := (L + 1 + 1, v.oa) :: (a.r0, listOf (List.toArray v.us0) v.n0) :: (a.r1, listOf (List.toArray v.us1) v.n1) :: (v.w0, listOf (List.toArray v.vs0) v.q0) :: (v.w1, listOf (List.toArray v.vs1) v.q1) :: offs [L + 1 + 1, a.r0, a.r1, v.w0, v.w1] all)
    B F X T (News.of_sub N (fcons S.mA (fcons S.mr0 (fcons S.mr1 (fcons S.mw0 (fcons S.mw1 fun p hp => offs_sub _ hp)))))) ⟨v.oa, va, v.us0, v.n0, v.us1, v.n1, v.vs0, v.q0, v.vs1, v.q1, rfl, rfl, hA, S.i0, S.i1, kw0, kw1⟩ (Plc.nodup S.nd (I := [1, 6, 7, 4, 5]) rfl (by decide)) (fun x hx => offs_ne hx) (S.keep 2 [1, 6, 7, 4, 5] (by decide) rfl rfl S.mC) S.hC (tk0 _ S.mrw) (S.keep 3 [1, 6, 7, 4, 5] (by decide) rfl rfl S.mWk) l0 l1 hd hu
    fun m' news' h' tk F' N' j' => ?_
  obtain ⟨oa', va', us0', n0', us1', n1', vs0', q0', vs1', q1', e1, e2, hA', i0', i1', k0', k1'⟩ := j'
  subst e1 e2
  have up : ∀ p ∈ offs [L + 1 + 1, a.r0, a.r1, v.w0, v.w1] all, p ∈ (L + 1 + 1, oa') :: (a.r0, listOf (List.toArray us0') n0') :: (a.r1, listOf (List.toArray us1') n1') :: (v.w0, listOf (List.toArray vs0') q0') :: (v.w1, listOf (List.toArray vs1') q1') :: offs [L + 1 + 1, a.r0, a.r1, v.w0, v.w1] all := fun p hp => .tail _ (.tail _ (.tail _ (.tail _ (.tail _ hp))))
  exact K { v with oa := oa', us0 := us0', n0 := n0', us1 := us1', n1 := n1', vs0 := vs0', q0 := q0', vs1 := vs1', q1 := q1' } _ h' tk F' N'
      ⟨.head _, ⟨va', hA'⟩, up _ (S.keep 2 [1, 6, 7, 4, 5] (by decide) rfl rfl S.mC), S.hC, up _ (S.keep 3 [1, 6, 7, 4, 5] (by decide) rfl rfl S.mWk), .tail _ (.tail _ (.tail _ (.head _))), .tail _ (.tail _ (.tail _ (.tail _ (.head _)))), k0', k1', .tail _ (.head _), .tail _ (.tail _ (.head _)), i0', i1',
        up _ (S.keep 8 [1, 6, 7, 4, 5] (by decide) rfl rfl S.mk0), up _ (S.keep 9 [1, 6, 7, 4, 5] (by decide) rfl rfl S.mk1), (S.c0.offs hno N).mono up, (S.c1.offs hno N).mono up, up _ (S.keep 0 [1, 6, 7, 4, 5] (by decide) rfl rfl S.mfl), (S.fa.offs hno N).mono up, S.nd, fun p hp => up _ (tk0 p hp), S.off, S.mrw, S.mcm⟩
end

end
section
theorem off37 : True := by
  w_top off
  trivial
noncomputable def whileTest : Stmt → Expr
  | .While (test := t) .. => t
  | _ => .Constant .none 0 ⟨0, 0, 0, 0⟩
noncomputable def wTest : Expr := whileTest (lawBody.getD 6 (.Pass ⟨0, 0, 0, 0⟩))
noncomputable def wPos : Pos := match lawBody.getD 6 (.Pass ⟨0, 0, 0, 0⟩) with
  | .While _ _ _ pos => pos
  | _ => ⟨0, 0, 0, 0⟩
theorem wBody_is : wBody = [wStmt 0, wStmt 1, wStmt 2, wStmt 3, wStmt 4, wStmt 5, wStmt 6] := rfl
section
set_option maxHeartbeats 4000000 in
theorem law_test : ∀ {w : World} {s : Shared} {L fa : Addr} {cd : Value} {outer : List Env} {dp u : Nat} {g : Option (List Code)} {A₀ : Around} {h₀ base : Heap} {m₀ mg mb : Str → Option Value} {p : Program} {loose : List Str} {mean : ExcName → Option Value} {news : List (Addr × Obj)}
   {rw wk cm W bk : Addr} {most many : Int} {tmost tmn : Tok} {fl tm on : Option Value} {Q : Bool → Shared → Prop}
   (_B : Below A₀ base outer h₀) (_F : Fr h₀ L s.heap (LMap m₀ rw wk cm W bk most tmost fl tm (some (.int many tmn)) on)) (_X : (headK w.params).In h₀) (_T : Top p loose mean mg mb h₀) (_N : News h₀ L s.heap news)
   (_K : ∀ h' tk, Fr h₀ L h' (LMap m₀ rw wk cm W bk most tmost fl tm (some (.int many tmn)) on) → News h₀ L h' news → Q (decide (many < most)) { s with heap := h', toks := tk }),
   wpAny (model PySem.Challenge.rw_rg0253_01.row.prog w) (mkA (lawEnv L fa cd) outer dp g u) (isTrue wTest (lawEnv L fa cd) (eval wTest (lawEnv L fa cd))) Q (fun _ _ => False) s := by
  k_fill
  intro w s L fa cd outer dp u g A₀ h₀ base m₀ mg mb p loose mean news rw wk cm W bk most many tmost tmn fl tm on Q B F X T N K
  simp only [wTest, whileTest, lawBody, lawEnv, lawScope, lawStmt, defScope, topAt, PySem.Challenge.pw_rg0253_01, defBody, List.getD_cons_succ, List.getD_cons_zero]
  k_steps
  exact K _ _ (by k_asm) (by k_asm)
end
section
variable {w : World} {s : Shared} {L fa : Addr} {cd : Value} {outer : List Env} {dp u : Nat} {g : Option (List Code)} {A₀ : Around} {h₀ base : Heap} {m₀ mg mb : Str → Option Value} {p : Program} {loose : List Str} {mean : ExcName → Option Value} {tl all : List (Addr × Obj)} {a : LAd} {v : LV} {d : D} {Q : Flow → Shared → Prop}
theorem turn_body {k : Nat} (B : Below A₀ base outer h₀) (F : Fr h₀ L s.heap (LM m₀ a v d.steps)) (X : (headK w.params).In h₀) (T : Top p loose mean mg mb h₀) (N : News h₀ L s.heap all) (S : LS L a tl v d all) (ok : OkD k d) (k15 : k ≤ 15) (hd : dp < 500) (hu : u < 6000)
    (K0 : (stepD d).2 = false → ∀ v' all' h' tk, Fr h₀ L h' (LM m₀ a v' (stepD d).1.steps) → News h₀ L h' all' → LS L a tl v' (stepD d).1 all' → Q .brk { s with heap := h', toks := tk })
    (K1 : (stepD d).2 = true → ∀ v' all' h' tk, Fr h₀ L h' (LM m₀ a v' (stepD d).1.steps) → News h₀ L h' all' → LS L a tl v' (stepD d).1 all' → Q .next { s with heap := h', toks := tk }) :
    wpAny (model PySem.Challenge.rw_rg0253_01.row.prog w) (mkA (lawEnv L fa cd) outer dp g u) (execs wBody (lawEnv L fa cd)) Q (fun _ _ => False) s := by
  rw [wBody_is]
  have lf := ok.lf
  have lf2 := ok.send.lf
  refine wpAny_execs_cons (lsA B F X T N S (by omega) hd hu fun v1 all1 h1 tk1 F1 N1 S1 => ?_)
  show wpAny _ _ (execs [wStmt 1, wStmt 2, wStmt 3, wStmt 4, wStmt 5, wStmt 6] _) _ _ _
  refine wpAny_execs_cons (lsB (d := sendD d) B F1 X T N1 S1 (by omega) hd hu fun tml ts nt h2 tk2 F2 N2 S2 it => ?_)
  show wpAny _ _ (execs [wStmt 2, wStmt 3, wStmt 4, wStmt 5, wStmt 6] _) _ _ _
  refine wpAny_execs_cons (lsC (d := sendD d) (v := v1) B F2 X T N2 (.head _) it hd hu fun h3 tk3 F3 N3 => ?_)
  by_cases hn : nextsD (sendD d) = []
  · rw [if_pos hn]
    have es : stepD d = (sendD d, false) := by unfold stepD; rw [hn]; rfl
    show Q .brk _
    rw [es] at K0
    exact K0 rfl _ _ h3 tk3 F3 N3 S2
  · rw [if_neg hn]
    show wpAny _ _ (execs [wStmt 3, wStmt 4, wStmt 5, wStmt 6] _) _ _ _
    refine wpAny_execs_cons (lsD (d := sendD d) (v := v1) B F3 X T N3 S2 (.head _) it hn hd hu fun x v4 all4 h4 tk4 hx F4 N4 S4 => ?_)
    have es : stepD d = (advD x (sendD d), true) := by unfold stepD; rw [least_uniq (leastOf_is _) hx]
    rw [es] at K1
    show wpAny _ _ (execs [wStmt 4, wStmt 5, wStmt 6] _) _ _ _
    refine wpAny_execs_cons (lsE (d := { sendD d with now := max (sendD d).now x, steps := (sendD d).steps + 1 }) B F4 X T N4 S4 (fun f hf => (ok.send.fl f hf).2.2) ?_ hd hu fun v5 all5 h5 tk5 F5 N5 S5 => ?_)
    · show (sendD d).cm0.length + (sendD d).fs.length ≤ 100 ∧ (sendD d).cm1.length + (sendD d).fs.length ≤ 100
      omega
    show wpAny _ _ (execs [wStmt 5, wStmt 6] _) _ _ _
    refine wpAny_execs_cons (lsF (d := { sendD d with now := max (sendD d).now x, steps := (sendD d).steps + 1, cm0 := (sendD d).cm0 ++ camsOf (max (sendD d).now x) 0 ((sendD d).fs.filter fun f => decide (f.arr ≤ max (sendD d).now x)), cm1 := (sendD d).cm1 ++ camsOf (max (sendD d).now x) 1 ((sendD d).fs.filter fun f => decide (f.arr ≤ max (sendD d).now x)) }) B F5 X T N5 S5 ?_ hd hu fun v6 all6 h6 tk6 F6 N6 S6 => ?_)
    · show (sendD d).fs.length ≤ 100
      omega
    show wpAny _ _ (execs [wStmt 6] _) _ _ _
    refine wpAny_execs_cons (lsG (d := { sendD d with now := max (sendD d).now x, steps := (sendD d).steps + 1, fs := (sendD d).fs.filter fun f => decide (max (sendD d).now x < f.arr), cm0 := (sendD d).cm0 ++ camsOf (max (sendD d).now x) 0 ((sendD d).fs.filter fun f => decide (f.arr ≤ max (sendD d).now x)), cm1 := (sendD d).cm1 ++ camsOf (max (sendD d).now x) 1 ((sendD d).fs.filter fun f => decide (f.arr ≤ max (sendD d).now x)) }) B F6 X T N6 S6 rfl rfl ok.m0 ok.m1 hd hu fun v7 all7 h7 tk7 F7 N7 S7 => ?_)
    show wpAny _ _ (execs [] _) _ _ _
    exact wpAny_execs_nil (K1 rfl v7 all7 h7 tk7 F7 N7 (S7.as rfl rfl rfl rfl rfl rfl rfl rfl))
theorem iterD_steps : ∀ {d : D} (i : Nat), (∀ j < i, (stepD (iterD j d)).2 = true) → (iterD i d).steps = d.steps + i
  | _, 0, _ => by simp [iterD]
  | d, i + 1, h => by
    have ih := iterD_steps (d := d) i fun j hj => h j (by omega)
    have ht := h i (by omega)
    show (stepD (iterD i d)).1.steps = _
    unfold stepD at ht ⊢
    split
    · rename_i q; rw [q] at ht; cases ht
    · show (iterD i d).steps + 1 = _
      rw [ih]; push_cast; omega
theorem send_steps {d : D} : (sendD d).steps = d.steps := rfl
theorem stop_steps {d : D} (h : (stepD d).2 = false) : (stepD d).1.steps = d.steps := by
  unfold stepD at h ⊢
  split
  · rfl
  · rename_i q; rw [q] at h; cases h
theorem law_loop (B : Below A₀ base outer h₀) (F : Fr h₀ L s.heap (LM m₀ a v 0)) (X : (headK w.params).In h₀) (T : Top p loose mean mg mb h₀) (N : News h₀ L s.heap all) (S : LS L a tl v d all) (ok : OkD 0 d) (s0 : d.steps = 0) (b0 : -10 ≤ a.most) (b1 : a.most ≤ 12) (hd : dp < 500) (hu : u < 6000)
    (K : ∀ v' all' h' tk, Fr h₀ L h' (LM m₀ a v' (runD a.most.toNat d).1) → News h₀ L h' all' → LS L a tl v' (runD a.most.toNat d).2 all' → (runD a.most.toNat d).2.steps = (runD a.most.toNat d).1 → Q .next { s with heap := h', toks := tk }) :
    wpAny (model PySem.Challenge.rw_rg0253_01.row.prog w) (mkA (lawEnv L fa cd) outer dp g u) (exec (lawBody.getD 6 (.Pass ⟨0, 0, 0, 0⟩)) (lawEnv L fa cd)) Q (fun _ _ => False) s := by
  show wpAny _ _ (exec (.While wTest wBody [] wPos) _) _ _ _
  refine While_brk (fun n m news => ∃ i v', i ≤ a.most.toNat ∧ n = a.most.toNat - i ∧ (∀ j < i, (stepD (iterD j d)).2 = true) ∧ m = LM m₀ a v' (iterD i d).steps ∧ LS L a tl v' (iterD i d) news) a.most.toNat F N ⟨0, v, Nat.zero_le _, rfl, fun j hj => absurd hj (Nat.not_lt_zero _), by rw [show (iterD 0 d).steps = 0 from s0], S⟩ ?_ PassesOwn.never
  rintro n m₁ news₁ h₁ tk₁ F₁ N₁ ⟨i, v1, hi, rfl, ht, rfl, S1⟩
  have es := iterD_steps i ht
  rw [s0] at es
  refine law_test B F₁ X T N₁ fun h2 tk2 F2 N2 => ?_
  by_cases hlt : i < a.most.toNat
  · rw [if_pos (by rw [es]; simp; omega)]
    refine turn_body (k := i) B F2 X T N2 S1 (iterD_ok ok i ht) (by omega) hd hu (fun hb v3 all3 h3 tk3 F3 N3 S3 => ?_) fun hb v3 all3 h3 tk3 F3 N3 S3 => ?_
    · have er := run_stop hlt ht hb
      have e2 := stop_steps hb
      rw [er] at K
      rw [e2, es] at F3
      exact K v3 all3 h3 tk3 (by simpa using F3) N3 S3 (by rw [e2, es]; simp)
    · refine ⟨h3, tk3, _, all3, a.most.toNat - (i + 1), rfl, F3, N3, by omega, i + 1, v3, hlt, rfl, fun j hj => ?_, rfl, S3⟩
      rcases Nat.lt_succ_iff_lt_or_eq.mp hj with h | h
      · exact ht j h
      · rw [h]; exact hb
  · have hin : i = a.most.toNat := by omega
    subst hin
    rw [if_neg (by rw [es]; simp; omega)]
    have er := run_full ht
    rw [er] at K
    rw [es] at F2
    rw [Int.zero_add] at F2
    exact K v1 news₁ h2 tk2 F2 N2 S1 (by rw [es]; simp)
end

end
section
theorem off38 : True := by
  w_top off
  trivial
/-! ## a draw -/
section
set_option maxHeartbeats 8000000 in
theorem take_call : ∀ {w : World} {s : Shared} {L : Addr} {env : Env} {outer : List Env} {dp u : Nat} {g : Option (List Code)} {A₀ : Around} {h₀ base : Heap} {m mg mb : Str → Option Value} {p : Program} {loose : List Str} {mean : ExcName → Option Value} {bx li : Addr} {vs : List Value} {ns : List Int} {i many : Int} {c : Nat} {ti tm : Tok} {tl : List (Addr × Obj)} {Q : Value → Shared → Prop} {E : Value → Shared → Prop}
   (_B : Below A₀ base outer h₀) (_F : Fr h₀ L s.heap m) (_X : (headK w.params).In h₀) (_T : Top p loose mean mg mb h₀)
   (_N : News h₀ L s.heap ((bx, listOf #[.ref li, .int i ti] 0) :: (li, listOf vs.toArray c) :: tl))
   (_off : ∀ p ∈ tl, p.1 ≠ bx) (_hne : li ≠ bx) (_hI : IntsAre vs ns) (_hl : ns.length ≤ 16) (_h0 : 0 ≤ i) (_h1 : i ≤ 100) (_hm : 1 ≤ many) (_hm' : many ≤ 40)
   (_hf : env.frame = some L) (_hk : env.scope.kind = .function) (_hd : dp < 800)
   (_k : ∀ h' tk v tv ti', Fr h₀ L h' m → News h₀ L h' ((bx, listOf #[.ref li, .int (i+1) ti'] 0) :: (li, listOf vs.toArray c) :: tl) → 0 ≤ v → v < many → Q (.int v tv) {s with heap := h', toks := tk}),
   wpAny (model PySem.Challenge.rw_rg0253_01.row.prog w) (mkA env outer dp g u) (call (.ref 301) [.ref bx, .int many tm]) Q E s := by
  k_fill
  intro w s L env outer dp u g A₀ h₀ base m mg mb p loose mean bx li vs ns i many c ti tm tl Q E B F X T N off hne hI hl h0 h1 hm hm' hf hk hd k
  k_steps
  all_goals exact k _ _ _ _ _ (by k_asm) (by k_asm) (Int.fmod_nonneg_of_pos _ (by omega)) (Int.fmod_lt_of_pos _ (by omega))
end

end
local macro_rules | `(tactic| walk_at "call ref") => `(tactic| refine stop_here ?_)

section
theorem off40 : True := by
  w_top off
  trivial
/-! ## the law's draws: the rows of times -/
noncomputable def PMap (m₀ : Str → Option Value) (bx rw : Addr) (most : Int) (tmost : Tok) (tu ti nw sp : Option Value) : Str → Option Value := fun y =>
  if y = (Str.ofString "turn") then tu else if y = (Str.ofString "times") then ti else if y = (Str.ofString "now") then nw else if y = (Str.ofString "spot") then sp else if y = (Str.ofString "box") then some (.ref bx) else if y = (Str.ofString "rows") then some (.ref rw) else
  if y = (Str.ofString "most") then some (.int most tmost) else m₀ y
section
variable {m₀ : Str → Option Value} {bx rw : Addr} {most : Int} {tmost : Tok} {tu ti nw sp v : Option Value}
theorem PMap_tu : (fun y => if y = (Str.ofString "turn") then v else PMap m₀ bx rw most tmost tu ti nw sp y) = PMap m₀ bx rw most tmost v ti nw sp := funext fun y => by
  unfold PMap
  by_cases h : y = Str.ofString "turn"
  · simp only [if_pos h]
  · simp only [if_neg h]
theorem PMap_ti : (fun y => if y = (Str.ofString "times") then v else PMap m₀ bx rw most tmost tu ti nw sp y) = PMap m₀ bx rw most tmost tu v nw sp := funext fun y => by
  unfold PMap
  by_cases h : y = Str.ofString "times"
  · subst h; simp only [if_pos, if_neg (show ¬ Str.ofString "times" = Str.ofString "turn" by decide)]
  · simp only [if_neg h]
theorem PMap_nw : (fun y => if y = (Str.ofString "now") then v else PMap m₀ bx rw most tmost tu ti nw sp y) = PMap m₀ bx rw most tmost tu ti v sp := funext fun y => by
  unfold PMap
  by_cases h : y = Str.ofString "now"
  · subst h; simp only [if_pos, if_neg (show ¬ Str.ofString "now" = Str.ofString "turn" by decide), if_neg (show ¬ Str.ofString "now" = Str.ofString "times" by decide)]
  · simp only [if_neg h]
theorem PMap_sp : (fun y => if y = (Str.ofString "spot") then v else PMap m₀ bx rw most tmost tu ti nw sp y) = PMap m₀ bx rw most tmost tu ti nw v := funext fun y => by
  unfold PMap
  by_cases h : y = Str.ofString "spot"
  · subst h; simp only [if_pos, if_neg (show ¬ Str.ofString "spot" = Str.ofString "turn" by decide), if_neg (show ¬ Str.ofString "spot" = Str.ofString "times" by decide), if_neg (show ¬ Str.ofString "spot" = Str.ofString "now" by decide)]
  · simp only [if_neg h]
theorem PMap_nwsp {v' : Option Value} : (fun y => if y = (Str.ofString "now") then v else if y = (Str.ofString "spot") then v' else PMap m₀ bx rw most tmost tu ti nw sp y) = PMap m₀ bx rw most tmost tu ti v v' := by
  show (fun y => if y = (Str.ofString "now") then v else (fun y => if y = (Str.ofString "spot") then v' else PMap m₀ bx rw most tmost tu ti nw sp y) y) = _
  rw [PMap_sp, PMap_nw]
end
noncomputable def pOuter : Stmt := lawBody.getD 2 (.Pass ⟨0, 0, 0, 0⟩)
noncomputable def pInner : Stmt := (defBody pOuter).getD 1 (.Pass ⟨0, 0, 0, 0⟩)
noncomputable def JI (m₀ : Str → Option Value) (bx rw li tml : Addr) (most : Int) (tmost : Tok) (tu : Option Value) (vs : List Value) (c : Nat) (tl : List (Addr × Obj)) (j : Int) (i : Nat) (m : Str → Option Value) (news : List (Addr × Obj)) : Prop :=
  ∃ now tn sp j' tj us nt ns, m = PMap m₀ bx rw most tmost tu (some (.ref tml)) (some (.int now tn)) sp ∧ news = (bx, listOf #[.ref li, .int j' tj] 0) :: (li, listOf (List.toArray vs) c) :: (tml, listOf (List.toArray us) nt) :: tl ∧
    IntsAre us ns ∧ ns.length = i ∧ (∀ x ∈ ns, 0 ≤ x ∧ x < 256) ∧ 0 ≤ now ∧ now ≤ 40 * i ∧ 0 ≤ j' ∧ j' ≤ j + i
section
set_option maxHeartbeats 8000000 in
theorem chunkP : ∀ {w : World} {s : Shared} {L fa : Addr} {cd : Value} {outer : List Env} {dp u : Nat} {g : Option (List Code)} {A₀ : Around} {h₀ base : Heap} {m₀ mg mb : Str → Option Value} {p : Program} {loose : List Str} {mean : ExcName → Option Value} {tl : List (Addr × Obj)}
   {bx rw li tml : Addr} {most j : Int} {tmost tj tn : Tok} {tu sp : Option Value} {vs : List Value} {is : List Int} {c nt : Nat} {Q : Flow → Shared → Prop}
   (_B : Below A₀ base outer h₀) (_F : Fr h₀ L s.heap (PMap m₀ bx rw most tmost tu (some (.ref tml)) (some (.int 0 tn)) sp)) (_X : (headK w.params).In h₀) (_T : Top p loose mean mg mb h₀)
   (_N : News h₀ L s.heap ((bx, listOf #[.ref li, .int j tj] 0) :: (li, listOf (List.toArray vs) c) :: (tml, listOf (List.toArray []) nt) :: tl)) (_o1 : ∀ p ∈ tl, p.1 ≠ bx) (_o2 : ∀ p ∈ tl, p.1 ≠ tml) (_n1 : li ≠ bx) (_n2 : tml ≠ bx) (_n3 : li ≠ tml)
   (_hI : IntsAre vs is) (_hl : is.length ≤ 16) (_h0 : 0 ≤ j) (_h1 : j ≤ 50)
   (_hd : dp < 500) (_hu : u < 6000)
   (_K : ∀ i m' news' h' tk, i ≤ 4 → Fr h₀ L h' m' → News h₀ L h' news' → JI m₀ bx rw li tml most tmost tu vs c tl (j + 1) i m' news' → Q .next { s with heap := h', toks := tk }),
   wpAny (model PySem.Challenge.rw_rg0253_01.row.prog w) (mkA (lawEnv L fa cd) outer dp g u) (exec pInner (lawEnv L fa cd)) Q (fun _ _ => False) s := by
  k_fill
  intro w s L fa cd outer dp u g A₀ h₀ base m₀ mg mb p loose mean tl bx rw li tml most j tmost tj tn tu sp vs is c nt Q B F X T N o1 o2 n1 n2 n3 hI hl h0 h1 hd hu K
  simp only [pInner, pOuter, lawBody, lawEnv, lawScope, lawStmt, defScope, topAt, PySem.Challenge.pw_rg0253_01, defBody, List.drop, List.take, List.getD_cons_succ, List.getD_cons_zero]
  with_unfolding_all refine' For_turns F ?_ ?_ ?hE
  case hE => exact PassesOwn.never
  case refine'_2 => (intro _; rfl)
  k_steps
  refine Hid.out ?_
  k_dflt (refine' take_call (tl := (tml, listOf (List.toArray []) nt) :: tl) ?B ?F ?X ?T ?N ?off n1 hI hl h0 (by omega) (by omega) (by omega) ?hf ?hk ?hd ?_)
  case B => k_asm
  case F => k_asm
  case X => k_asm
  case T => k_asm
  case N => k_asm
  case off => exact List.forall_mem_cons.mpr ⟨n2, o1⟩
  case hf => exact rfl
  case hk => exact rfl
  case hd => omega
  intro h1' tk1 b1 tb1 tj1 F1 N1 hb0 hb1
  k_steps
  refine Hid.out ?_
  k_dflt (refine' range1_rows ?F ?N ?_)
  case F => k_asm
  case N => k_asm
  intro h2' tk2 ta tb tc hr2 F2 N2 old2
  clear old2
  k_steps
  refine Hid.out ?_
  refine turns_rangeM (fun _ i m news => JI m₀ bx rw li tml most tmost tu vs c tl (j + 1) i m news) (by exact rfl) hr2 (by omega) (by omega) F2 N2 ?j0 ?step ?done
  case j0 => exact ⟨0, tn, sp, j + 1, tj1, [], nt, [], rfl, rfl, .nil, rfl, fun x hx => (nomatch hx), by omega, by omega, by omega, by omega⟩
  case done =>
    intro m5 news5 h5' tk5 j5 F5 N5
    exact K b1.toNat m5 news5 h5' tk5 (by omega) F5 N5 j5
  case step =>
    intro I3 i3 t3 m3 news3 h3' tk3 oI3 hi3 j3 F3 N3 o3 no3
    obtain ⟨now, tn3, sp3, j4, tj4, us, nt3, ns, e2, e3, il, hlen, hbs, hn0, hn1, hj0, hj1⟩ := j3
    subst e2 e3
    have lu := IntsAre.length il
    k_steps
    refine Hid.out ?_
    k_dflt (refine' take_call (tl := (I3, oI3) :: (tml, listOf (List.toArray us) nt3) :: tl) (ti := tj4) (c := c) ?B ?F ?X ?T ?N ?off n1 hI hl hj0 (by omega) (by omega) (by omega) ?hf ?hk ?hd ?_)
    case B => k_asm
    case F => k_asm
    case X => k_asm
    case T => k_asm
    case N => exact News.of_sub (by k_asm) fun p hp => by
                simp only [List.mem_cons] at hp ⊢
                rcases hp with h | h | h | h | h <;> simp [h]
    case off => exact List.forall_mem_cons.mpr ⟨Ne.symm (o3 _ (.head _)), List.forall_mem_cons.mpr ⟨n2, o1⟩⟩
    case hf => exact rfl
    case hk => exact rfl
    case hd => omega
    intro h4' tk4 v4 tv4 tj5 F4 N4 hv0 hv1
    have ln : us.length ≤ 100 := by omega
    k_steps
    refine Hid.out ?_
    rename (News h₀ L _ _) => N9
    rename (Fr h₀ L _ _) => F9
    rw [PMap_nwsp] at F9
    simp only [List.push_toArray] at N9
    refine ⟨_, _, _, (bx, listOf #[.ref li, .int (j4 + 1) tj5] 0) :: (li, listOf (List.toArray vs) c) :: (tml, listOf (List.toArray (us ++ [.int (now + 1 + v4) tk4])) (nt3 + 1)) :: tl, rfl, F9, News.of_sub N9 fun p hp => ?_, fun q hq => ?_, now + 1 + v4, _, _, j4 + 1, tj5, _, _, ns ++ [now + 1 + v4], rfl, rfl, il.append (IntsAre.cons _ _ .nil), by simp [hlen], fun x hx => ?_, by omega, by push_cast; omega, by omega, by push_cast; omega⟩
    · simp only [List.mem_cons] at hp
      rcases hp with h | h | h | h | h
      · rw [h]; exact .tail _ (.tail _ (.head _))
      · rw [h]; exact .head _
      · rw [h]; exact .tail _ (.head _)
      · rw [h]; exact .tail _ (.tail _ (.tail _ (.head _)))
      · exact .tail _ (.tail _ (.tail _ (.tail _ h)))
    · simp only [List.mem_cons] at hq
      rcases hq with h | h | h | h
      · rw [h]; exact o3 (bx, listOf #[.ref li, .int j4 tj4] 0) (.head _)
      · rw [h]; exact o3 _ (.tail _ (.head _))
      · rw [h]; exact o3 (tml, listOf (List.toArray us) nt3) (.tail _ (.tail _ (.head _)))
      · exact o3 _ (.tail _ (.tail _ (.tail _ h)))
    · rcases List.mem_append.mp hx with h | h
      · exact hbs x h
      · rw [List.mem_singleton.mp h]; omega
end

end
section
theorem off41 : True := by
  w_top off
  trivial
/-! ## for turn in range(2): times, now = [], 0; ..; rows.append(times) -/
theorem PMap_tin {m₀ : Str → Option Value} {bx rw : Addr} {most : Int} {tmost : Tok} {tu ti nw sp v v' v'' : Option Value} : (fun y => if y = (Str.ofString "times") then v else if y = (Str.ofString "now") then v' else if y = (Str.ofString "turn") then v'' else PMap m₀ bx rw most tmost tu ti nw sp y) = PMap m₀ bx rw most tmost v'' v v' sp := by
  show (fun y => if y = (Str.ofString "times") then v else (fun y => if y = (Str.ofString "now") then v' else (fun y => if y = (Str.ofString "turn") then v'' else PMap m₀ bx rw most tmost tu ti nw sp y) y) y) = _
  rw [PMap_tu, PMap_nw, PMap_ti]
noncomputable def RowOk (tl0 tl : List (Addr × Obj)) (ns : List Int) (r : Addr) : Prop := (∀ q ∈ tl0, q.1 ≠ r) ∧ ∃ us n, (r, listOf (List.toArray us) n) ∈ tl ∧ IntsAre us ns ∧ ns.length ≤ 4 ∧ ∀ x ∈ ns, 0 ≤ x ∧ x < 256
noncomputable def RowsOk (tl0 tl : List (Addr × Obj)) : List Addr → List (List Int) → Prop
  | [], [] => True
  | r :: rs, ns :: nss => RowOk tl0 tl ns r ∧ RowsOk tl0 tl rs nss
  | _, _ => False
theorem RowsOk.mono {tl0 tl tl' : List (Addr × Obj)} (hs : ∀ p ∈ tl, p ∈ tl') : ∀ {rs : List Addr} {nss : List (List Int)}, RowsOk tl0 tl rs nss → RowsOk tl0 tl' rs nss
  | [], [], _ => trivial
  | _ :: _, _ :: _, ⟨⟨h1, us, n, h2, h3⟩, r⟩ => ⟨⟨h1, us, n, hs _ h2, h3⟩, r.mono hs⟩
theorem RowsOk.snoc {tl0 tl : List (Addr × Obj)} {r : Addr} {ns : List Int} (h : RowOk tl0 tl ns r) : ∀ {rs : List Addr} {nss : List (List Int)}, RowsOk tl0 tl rs nss → RowsOk tl0 tl (rs ++ [r]) (nss ++ [ns])
  | [], [], _ => ⟨h, trivial⟩
  | _ :: _, _ :: _, ⟨a, b⟩ => ⟨a, b.snoc h⟩
theorem RowsOk.len {tl0 tl : List (Addr × Obj)} : ∀ {rs : List Addr} {nss : List (List Int)}, RowsOk tl0 tl rs nss → rs.length = nss.length
  | [], [], _ => rfl
  | _ :: _, _ :: _, ⟨_, b⟩ => congrArg (· + 1) b.len
theorem RowsOk.mem {tl0 tl : List (Addr × Obj)} {r : Addr} : ∀ {rs : List Addr} {nss : List (List Int)}, RowsOk tl0 tl rs nss → r ∈ rs → ∃ o, (r, o) ∈ tl
  | _ :: _, _ :: _, ⟨⟨_, _, _, h2, _⟩, b⟩, hr => by
    rcases List.mem_cons.mp hr with rfl | hr
    · exact ⟨_, h2⟩
    · exact b.mem hr
noncomputable def JO (m₀ : Str → Option Value) (bx rw li : Addr) (most : Int) (tmost : Tok) (vs : List Value) (c : Nat) (tl : List (Addr × Obj)) (j : Int) (i : Nat) (m : Str → Option Value) (news : List (Addr × Obj)) : Prop :=
  ∃ j' tj nr tu ti nw sp rs nss tl', m = PMap m₀ bx rw most tmost tu ti nw sp ∧ news = (bx, listOf #[.ref li, .int j' tj] 0) :: (li, listOf (List.toArray vs) c) :: (rw, listOf (List.toArray (rs.map Value.ref)) nr) :: tl' ∧
    (∀ p ∈ tl, p ∈ tl') ∧ 0 ≤ j' ∧ j' ≤ j + 6 * i ∧ rs.length = i ∧ rs.Nodup ∧ RowsOk tl tl' rs nss ∧ (∀ p ∈ tl', p.1 ≠ bx) ∧ ∀ p ∈ tl', p.1 ≠ rw
theorem JO_end {m₀ : Str → Option Value} {h₀ h' : Heap} {L I bx rw li tml : Addr} {oI ob oli orw : Obj} {most j j6 : Int} {tmost tj6 : Tok} {tu ti nw sp : Option Value} {vs us : List Value} {ns : List Int} {c nt nr i : Nat} {tl tl3 : List (Addr × Obj)} {rs : List Addr} {nss : List (List Int)} {s₁ : Shared} {tk : Nat} {Q : Flow → Shared → Prop}
    (F : Fr h₀ L h' (PMap m₀ bx rw most tmost tu ti nw sp)) (N : News h₀ L h' ((bx, listOf #[.ref li, .int j6 tj6] 0) :: (li, listOf (List.toArray vs) c) :: (tml, listOf (List.toArray us) nt) :: (I, oI) :: (rw, listOf (List.toArray (rs.map Value.ref ++ [.ref tml])) nr) :: tl3))
    (sub : ∀ p ∈ tl, p ∈ tl3) (hj0 : 0 ≤ j6) (hj1 : j6 ≤ j + 6 * ((i + 1 : Nat) : Int)) (hlen : rs.length = i) (hnd : rs.Nodup) (hok : RowsOk tl tl3 rs nss) (p1 : ∀ p ∈ tl3, p.1 ≠ bx) (p2 : ∀ p ∈ tl3, p.1 ≠ rw)
    (fT : ∀ p ∈ (I, oI) :: (bx, ob) :: (li, oli) :: (rw, orw) :: tl3, p.1 < tml) (il : IntsAre us ns) (hln : ns.length ≤ 4) (hbs : ∀ x ∈ ns, 0 ≤ x ∧ x < 256) (o3 : ∀ q ∈ (bx, ob) :: (li, oli) :: (rw, orw) :: tl3, q.1 ≠ I) :
    TurnPost h₀ L I oI (fun m news => JO m₀ bx rw li most tmost vs c tl j (i + 1) m news) s₁ Q .next { s₁ with heap := h', toks := tk } := by
  have em : rs.map Value.ref ++ [Value.ref tml] = (rs ++ [tml]).map Value.ref := by simp
  rw [em] at N
  refine ⟨h', tk, _, (bx, listOf #[.ref li, .int j6 tj6] 0) :: (li, listOf (List.toArray vs) c) :: (rw, listOf (List.toArray ((rs ++ [tml]).map Value.ref)) nr) :: (tml, listOf (List.toArray us) nt) :: tl3, rfl, F, News.of_sub N fun p hp => ?_, fun q hq => ?_,
    j6, tj6, nr, tu, ti, nw, sp, rs ++ [tml], nss ++ [ns], (tml, listOf (List.toArray us) nt) :: tl3, rfl, rfl, fun p hp => .tail _ (sub p hp), hj0, hj1, by simp [hlen], ?_, (hok.mono fun p hp => .tail _ hp).snoc ⟨fun q hq => Nat.ne_of_lt (fT q (.tail _ (.tail _ (.tail _ (.tail _ (sub q hq)))))), us, nt, .head _, il, hln, hbs⟩, ?_, ?_⟩
  · rcases List.mem_cons.mp hp with h | hp
    · rw [h]; exact .tail _ (.tail _ (.tail _ (.head _)))
    · rcases List.mem_cons.mp hp with h | hp
      · rw [h]; exact .head _
      · rcases List.mem_cons.mp hp with h | hp
        · rw [h]; exact .tail _ (.head _)
        · rcases List.mem_cons.mp hp with h | hp
          · rw [h]; exact .tail _ (.tail _ (.tail _ (.tail _ (.head _))))
          · rcases List.mem_cons.mp hp with h | hp
            · rw [h]; exact .tail _ (.tail _ (.head _))
            · exact .tail _ (.tail _ (.tail _ (.tail _ (.tail _ hp))))
  · exact fcons (P := fun q => q.1 ≠ I) (o3 (bx, ob) (.head _)) (fcons (o3 (li, oli) (.tail _ (.head _))) (fcons (o3 (rw, orw) (.tail _ (.tail _ (.head _)))) (fcons (Nat.ne_of_gt (fT (I, oI) (.head _))) fun q h => o3 q (.tail _ (.tail _ (.tail _ h)))))) q hq
  · refine List.nodup_append.mpr ⟨hnd, by simp, fun a ha b hb e => ?_⟩
    rw [List.mem_singleton.mp hb] at e
    rw [e] at ha
    obtain ⟨o, ho⟩ := hok.mem ha
    exact Nat.lt_irrefl _ (fT _ (.tail _ (.tail _ (.tail _ (.tail _ ho)))))
  · exact List.forall_mem_cons.mpr ⟨Nat.ne_of_gt (fT (bx, ob) (.tail _ (.head _))), p1⟩
  · exact List.forall_mem_cons.mpr ⟨Nat.ne_of_gt (fT (rw, orw) (.tail _ (.tail _ (.tail _ (.head _))))), p2⟩
section
local macro_rules | `(tactic| walk_at "exec For Name Call cons nil") => `(tactic| refine stop_here ?_)
set_option maxHeartbeats 8000000 in
theorem chunkO : ∀ {w : World} {s : Shared} {L fa : Addr} {cd : Value} {outer : List Env} {dp u : Nat} {g : Option (List Code)} {A₀ : Around} {h₀ base : Heap} {m₀ mg mb : Str → Option Value} {p : Program} {loose : List Str} {mean : ExcName → Option Value} {tl news : List (Addr × Obj)}
   {bx rw li : Addr} {most j : Int} {tmost : Tok} {m : Str → Option Value} {vs : List Value} {is : List Int} {c : Nat} {Q : Flow → Shared → Prop}
   (_B : Below A₀ base outer h₀) (_F : Fr h₀ L s.heap m) (_X : (headK w.params).In h₀) (_T : Top p loose mean mg mb h₀)
   (_N : News h₀ L s.heap news) (_j : JO m₀ bx rw li most tmost vs c tl j 0 m news) (_n1 : li ≠ bx) (_n2 : rw ≠ bx) (_n3 : li ≠ rw)
   (_hI : IntsAre vs is) (_hl : is.length ≤ 16) (_h1 : j ≤ 10)
   (_hd : dp < 500) (_hu : u < 6000)
   (_K : ∀ m' news' h' tk, Fr h₀ L h' m' → News h₀ L h' news' → JO m₀ bx rw li most tmost vs c tl j 2 m' news' → Q .next { s with heap := h', toks := tk }),
   wpAny (model PySem.Challenge.rw_rg0253_01.row.prog w) (mkA (lawEnv L fa cd) outer dp g u) (exec pOuter (lawEnv L fa cd)) Q (fun _ _ => False) s := by
  k_fill
  intro w s L fa cd outer dp u g A₀ h₀ base m₀ mg mb p loose mean tl news bx rw li most j tmost m vs is c Q B F X T N jj n1 n2 n3 hI hl h1 hd hu K
  simp only [pOuter, lawBody, lawEnv, lawScope, lawStmt, defScope, topAt, PySem.Challenge.pw_rg0253_01, defBody, List.drop, List.take, List.getD_cons_succ, List.getD_cons_zero]
  with_unfolding_all refine' For_turns F ?_ ?_ ?hE
  case hE => exact PassesOwn.never
  case refine'_2 => (intro _; rfl)
  k_steps
  refine Hid.out ?_
  k_dflt (refine' range1_rows ?F ?N ?_)
  case F => k_asm
  case N => k_asm
  intro h2' tk2 ta tb tc hr2 F2 N2 old2
  clear old2
  k_steps
  refine Hid.out ?_
  refine turns_rangeM (fun _ i m news => JO m₀ bx rw li most tmost vs c tl j i m news) (by exact rfl) hr2 (by omega) (by omega) F2 N2 jj ?step ?done
  case done =>
    intro m5 news5 h5' tk5 j5 F5 N5
    exact K m5 news5 h5' tk5 F5 N5 j5
  case step =>
    intro I3 i3 t3 m3 news3 h3' tk3 oI3 hi3 j3 F3 N3 o3 no3
    obtain ⟨j4, tj4, nr, tu, ti, nw, sp, rs, nss, tl3, e2, e3, sub3, hj0, hj1, hlen, hnd, hok, p1, p2⟩ := j3
    subst e2 e3
    have lm : (rs.map Value.ref).length ≤ 100 := by rw [List.length_map, hlen]; have : i3 < 2 := hi3; omega
    k_steps
    refine Hid.out ?_
    rename (Fr h₀ L _ _) => F9
    rename (News h₀ L _ _) => N9
    rename (∀ p, p ∈ (I3, oI3) :: _ → p.1 < _) => lT
    rw [PMap_tin] at F9
    k_dflt (refine' chunkP (tl := (I3, oI3) :: (rw, listOf (List.toArray (rs.map Value.ref)) nr) :: tl3) (j := j4) (tj := tj4) (c := c) (nt := 0) B F9 X T ?N ?o1 ?o2 n1 ?n2 ?n3 hI hl hj0 ?h1 hd hu ?_)
    case N => exact News.of_sub N9 fun p hp => by
                simp only [List.mem_cons] at hp ⊢
                rcases hp with h | h | h | h | h | h <;> simp [h]
    case o1 => exact List.forall_mem_cons.mpr ⟨Ne.symm (o3 _ (.head _)), List.forall_mem_cons.mpr ⟨n2, p1⟩⟩
    case o2 => exact fun p hp => Nat.ne_of_lt (lT p (by
                simp only [List.mem_cons] at hp ⊢
                rcases hp with h | h | h <;> simp [h]))
    case n2 => exact Nat.ne_of_gt (lT (bx, _) (.tail _ (.head _)))
    case n3 => exact Nat.ne_of_lt (lT (li, _) (.tail _ (.tail _ (.head _))))
    case h1 => have : i3 < 2 := hi3; omega
    intro i5 m5 news5 h5' tk5 hi5 F5 N5 j5
    obtain ⟨now5, tn5, sp5, j6, tj6, us, nt, ns, e5, e6, il, hln, hbs, hn0, hn1, hk0, hk1⟩ := j5
    subst e5 e6
    have g1 := Nat.ne_of_lt (lT (rw, _) (.tail _ (.tail _ (.tail _ (.head _)))))
    have g2 := Nat.ne_of_gt (lT (bx, _) (.tail _ (.head _)))
    dsimp only at g1 g2
    k_steps
    refine Hid.out ?_
    rename (News h₀ L _ _) => N8
    rename (Fr h₀ L _ _) => F8
    simp only [List.push_toArray] at N8
    exact JO_end (L := L) F8 N8 sub3 hk0 (by push_cast; omega) hlen hnd hok p1 p2 lT il (by omega) hbs o3
end

end
section
theorem off42 : True := by
  w_top off
  trivial
/-! ## books = [{'left': list(times), 'due': [], 'came': []} for times in rows] -/
noncomputable def lStmt (k : Nat) : Stmt := lawBody.getD k (.Pass ⟨0, 0, 0, 0⟩)
theorem comp_end4 {h₀ : Heap} {L I C D : Addr} {m : Str → Option Value} {s₁ : Shared} {oI oC oD : Obj} {S : List (Addr × Obj) → Prop} {rest : Value → List (Addr × Obj) → Prop} {y : Value} {h' : Heap} {tk : Nat} {a1 a2 a3 a4 : Addr} {o1 o2 o3 o4 : Obj} {tl : List (Addr × Obj)}
    (F : Fr h₀ L h' m) (N : News h₀ L h' ((a1, o1) :: (a2, o2) :: (a3, o3) :: (a4, o4) :: (I, oI) :: (C, oC) :: (D, oD) :: tl)) (x1 : (@Ne Nat a1 I) ∧ (@Ne Nat a1 C) ∧ (@Ne Nat a1 D)) (x2 : (@Ne Nat a2 I) ∧ (@Ne Nat a2 C) ∧ (@Ne Nat a2 D)) (x3 : (@Ne Nat a3 I) ∧ (@Ne Nat a3 C) ∧ (@Ne Nat a3 D)) (x4 : (@Ne Nat a4 I) ∧ (@Ne Nat a4 C) ∧ (@Ne Nat a4 D))
    (off : LCg.Off3 I C D tl) (hS : S ((a1, o1) :: (a2, o2) :: (a3, o3) :: (a4, o4) :: tl)) (r : rest y ((a1, o1) :: (a2, o2) :: (a3, o3) :: (a4, o4) :: tl)) :
    LCg.CompEnd h₀ L m s₁ I oI C oC D oD S rest y { s₁ with heap := h', toks := tk } := ⟨h', tk, (a1, o1) :: (a2, o2) :: (a3, o3) :: (a4, o4) :: tl, rfl, F, News.of_sub N (perm_sub (A := [(I, oI), (C, oC), (D, oD), (a1, o1), (a2, o2), (a3, o3), (a4, o4)]) (B := [(a1, o1), (a2, o2), (a3, o3), (a4, o4), (I, oI), (C, oC), (D, oD)]) [4, 5, 6, 0, 1, 2, 3] rfl), And.intro x1 (And.intro x2 (And.intro x3 (And.intro x4 off))), hS, r⟩
section
local macro_rules | `(tactic| walk_at "CompEnd") => `(tactic| (refine' comp_end4 ?F ?N ?x1 ?x2 ?x3 ?x4 ?o ?S ?_; kbm_accL; (case x1 => exact ⟨by k_ne, by k_ne, by k_ne⟩); (case x2 => exact ⟨by k_ne, by k_ne, by k_ne⟩); (case x3 => exact ⟨by k_ne, by k_ne, by k_ne⟩); (case x4 => exact ⟨by k_ne, by k_ne, by k_ne⟩)))
local macro_rules | `(tactic| walk_at "exec Assign cons ListComp") => `(tactic| (k_here; k_dflt (refine LCg.Assign_ListComp_U (F₀ := by k_asm) (by rfl) (by with_unfolding_all rfl) (by with_unfolding_all rfl) (by decide) (by rfl) (by decide) (by rfl) (by rfl) (by rfl) ?_); k_dflt lcg_toSrc))
set_option maxHeartbeats 8000000 in
theorem chunkBk : ∀ {w : World} {s : Shared} {L fa : Addr} {cd : Value} {outer : List Env} {dp u : Nat} {g : Option (List Code)} {A₀ : Around} {h₀ base : Heap} {m₀ mg mb : Str → Option Value} {p : Program} {loose : List Str} {mean : ExcName → Option Value} {tl : List (Addr × Obj)}
   {bx rw r0 r1 : Addr} {most : Int} {tmost : Tok} {tu ti nw sp : Option Value} {us0 us1 : List Value} {ns0 ns1 : List Int} {nr n0 n1 : Nat} {Q : Flow → Shared → Prop}
   (_B : Below A₀ base outer h₀) (_F : Fr h₀ L s.heap (PMap m₀ bx rw most tmost tu ti nw sp)) (_X : (headK w.params).In h₀) (_T : Top p loose mean mg mb h₀)
   (_N : News h₀ L s.heap ((rw, listOf #[.ref r0, .ref r1] nr) :: (r0, listOf (List.toArray us0) n0) :: (r1, listOf (List.toArray us1) n1) :: tl)) (_i0 : IntsAre us0 ns0) (_i1 : IntsAre us1 ns1) (_l0 : ns0.length ≤ 4) (_l1 : ns1.length ≤ 4)
   (_hd : dp < 500) (_hu : u < 6000)
   (_K : ∀ bk b0 b1 l0 l1 q0 q1 c0 c1 ob0 ob1 nl0 nl1 h' tk, Fr h₀ L h' (fun z => if z = (Str.ofString "books") then some (.ref bk) else PMap m₀ bx rw most tmost tu ti nw sp z) →
      News h₀ L h' ((bk, listOf #[.ref b0, .ref b1] 2) :: (c1, listOf #[] 0) :: (q1, listOf #[] 0) :: (l1, listOf (List.toArray us1) nl1) :: (b1, ob1) :: (c0, listOf #[] 0) :: (q0, listOf #[] 0) :: (l0, listOf (List.toArray us0) nl0) :: (b0, ob0) ::
        (rw, listOf #[.ref r0, .ref r1] nr) :: (r0, listOf (List.toArray us0) n0) :: (r1, listOf (List.toArray us1) n1) :: tl) →
      BookIs w ob0 l0 q0 c0 → BookIs w ob1 l1 q1 c1 → [bk, c1, q1, l1, b1, c0, q0, l0, b0].Nodup → (∀ a ∈ [bk, c1, q1, l1, b1, c0, q0, l0, b0], ∀ p ∈ (rw, listOf #[.ref r0, .ref r1] nr) :: (r0, listOf (List.toArray us0) n0) :: (r1, listOf (List.toArray us1) n1) :: tl, p.1 ≠ a) →
      Q .next { s with heap := h', toks := tk }),
   wpAny (model PySem.Challenge.rw_rg0253_01.row.prog w) (mkA (lawEnv L fa cd) outer dp g u) (exec (lStmt 3) (lawEnv L fa cd)) Q (fun _ _ => False) s := by
  k_fill
  intro w s L fa cd outer dp u g A₀ h₀ base m₀ mg mb p loose mean tl bx rw r0 r1 most tmost tu ti nw sp us0 us1 ns0 ns1 nr n0 n1 Q B F X T N i0 i1 l0 l1 hd hu K
  have lu0 := IntsAre.length i0
  have lu1 := IntsAre.length i1
  simp only [lStmt, lawBody, lawEnv, lawScope, lawStmt, defScope, topAt, PySem.Challenge.pw_rg0253_01, defBody, List.drop, List.take, List.getD_cons_succ, List.getD_cons_zero]
  k_steps
  rename (News h₀ L _ _) => N9
  rename (Fr h₀ L _ _) => F9
  rename (_ ∧ _) => oB
  obtain ⟨g1, g2, g3, g4, g5, g6, g7, g8, g9, g10, g11, g12⟩ := oB
  have g13 := off1_all g12
  refine' K _ _ _ _ _ _ _ _ _ _ _ _ _ _ _ F9 N9 ?k0 ?k1 ?nd ?off
  case k0 => (unfold BookIs; assumption)
  case k1 => (unfold BookIs; assumption)
  case nd => k_keys
  case off => (repeat' (first | exact List.forall_mem_nil _ | refine List.forall_mem_cons.mpr ⟨?_, ?_⟩)); (all_goals first | k_ne | k_all)
end

end
section
theorem off43 : True := by
  w_top off
  trivial
/-! ## world = TwoHosts(_law_host(..), _law_host(..), [], 10, 3) -/
section
local macro_rules | `(tactic| walk_at "subscriptTail") => `(tactic| ((with_reducible show wpAny _ _ (subscriptTail _ _ (Value.ref _) (Value.int _ _)) _ _ _); kfy_look))
set_option maxHeartbeats 8000000 in
theorem chunkW : ∀ {w : World} {s : Shared} {L fa : Addr} {cd : Value} {outer : List Env} {dp u : Nat} {g : Option (List Code)} {A₀ : Around} {h₀ base : Heap} {m₀ mg mb : Str → Option Value} {p : Program} {loose : List Str} {mean : ExcName → Option Value} {tl : List (Addr × Obj)}
   {bk b0 b1 : Addr} {nb : Nat} {Q : Flow → Shared → Prop}
   (_B : Below A₀ base outer h₀) (_C : Hid (CodeHd base 312 308)) (_F : Fr h₀ L s.heap (fun z => if z = (Str.ofString "books") then some (.ref bk) else m₀ z)) (_X : (headK w.params).In h₀) (_T : Top p loose mean mg mb h₀)
   (_N : News h₀ L s.heap ((308, tabObj #[]) :: tl)) (_off : ∀ p ∈ tl, p.1 ≠ 308) (_mb : (bk, listOf #[.ref b0, .ref b1] nb) ∈ tl)
   (_hd : dp < 500) (_hu : u < 6000)
   (_K : ∀ hA hB own ps W dW esW nW hl nH NW dN esN nN ch nC wl fl h' tk, Fr h₀ L h' (fun z => if z = (Str.ofString "world") then some (.ref W) else if z = (Str.ofString "books") then some (.ref bk) else m₀ z) →
      News h₀ L h' ((dW, dictOf esW nW) :: (dN, dictOf esN nN) :: (wl, listOf #[] 0) :: (fl, listOf #[] 0) :: (W, instObj 143 dW) :: (NW, instObj 84 dN) :: (hl, listOf #[.ref hA, .ref hB] nH) :: (ch, listOf #[] nC) :: (308, tabObj ps) :: (own ++ tl)) →
      TriplesOk ps.toList → HostAt own hA b0 (Str.ofString "client") → HostAt own hB b1 (Str.ofString "server") → WorldEs esW hl NW 0 0 → NetEs esN ch wl fl 0 →
      (∀ a ∈ [dW, dN, wl, fl, W, NW, hl, ch], ∀ q ∈ (308, tabObj ps) :: (own ++ tl), q.1 ≠ a) → [dW, dN, wl, fl, W, NW, hl, ch].Nodup → (∀ p ∈ own, ∀ q ∈ (308, tabObj ps) :: tl, q.1 ≠ p.1) → Q .next { s with heap := h', toks := tk }),
   wpAny (model PySem.Challenge.rw_rg0253_01.row.prog w) (mkA (lawEnv L fa cd) outer dp g u) (exec (lStmt 4) (lawEnv L fa cd)) Q (fun _ _ => False) s := by
  k_fill
  intro w s L fa cd outer dp u g A₀ h₀ base m₀ mg mb p loose mean tl bk b0 b1 nb Q B C F X T N off mbk hd hu K
  simp only [lStmt, lawBody, lawEnv, lawScope, lawStmt, defScope, topAt, PySem.Challenge.pw_rg0253_01, defBody, List.drop, List.take, List.getD_cons_succ, List.getD_cons_zero]
  k_steps
  refine Hid.out ?_
  k_dflt (refine' host_call1 (tl := tl) B C ?F X T ?N off ?hf ?hk ?hd ?_)
  case F => k_asm
  case N => k_asm
  case hf => exact rfl
  case hk => exact rfl
  case hd => omega
  intro hA own1 ps c1 c2 c3 c4 h1' tk1 F1 N1 fr1 H1 tb1 cc1
  obtain ⟨cc1, cc2, cc3, cc4⟩ := cc1
  have off1 : ∀ p ∈ own1 ++ tl, p.1 ≠ 308 := fun p hp => by
    rcases List.mem_append.mp hp with h | h
    · exact Nat.ne_of_gt (fr1 p h _ (.head _))
    · exact off p h
  k_steps
  refine Hid.out ?_
  k_dflt (refine' host_call2 (tl := own1 ++ tl) (tc := own1) B C ?F X T ?N tb1 (fun _ h => List.mem_append.mpr (.inl h)) cc1 cc2 cc3 cc4 off1 ?hf ?hk ?hd ?_)
  case F => k_asm
  case N => k_asm
  case hf => exact rfl
  case hk => exact rfl
  case hd => omega
  intro hB own2 h2' tk2 F2 N2 fr2 H2
  k_steps
  refine Hid.out ?_
  rename (News h₀ L _ _) => N8
  k_dflt (refine' world_call (tl := (308, tabObj ps) :: (own2 ++ (own1 ++ tl))) B ?F X T N8 ?hf ?hk ?hd ?_)
  case F => k_asm
  case hf => exact rfl
  case hk => exact rfl
  case hd => omega
  intro W dW esW nW hl nH NW dN esN nN ch nC wl fl h3' tk3 F3 N3 gW gN fr3 nd3
  k_steps
  rename (News h₀ L _ _) => N9
  rename (Fr h₀ L _ _) => F9
  rw [← List.append_assoc] at N9 fr3
  refine K hA hB (own2 ++ own1) ps W dW esW nW hl nH NW dN esN nN ch nC wl fl _ _ F9 N9 tb1.1 (H1.mono fun p hp => List.mem_append.mpr (.inr hp)) H2 gW gN (fun a ha q hq => Nat.ne_of_lt (fr3 a ha q hq)) nd3 fun p hp q hq => ?_
  · rcases List.mem_append.mp hp with h | h
    · exact Nat.ne_of_lt (fr2 p h q (by
        rcases List.mem_cons.mp hq with e | e
        · rw [e]; exact .head _
        · exact .tail _ (List.mem_append.mpr (.inr e))))
    · exact Nat.ne_of_lt (fr1 p h q hq)
end

end
section
theorem off44 : True := by
  w_top off
  trivial
/-! ## many, clock, flying, came, woken = (0, 0, [], [[], []], [[], []]) -/
section
set_option maxHeartbeats 8000000 in
theorem chunkN : ∀ {w : World} {s : Shared} {L fa : Addr} {cd : Value} {outer : List Env} {dp u : Nat} {g : Option (List Code)} {A₀ : Around} {h₀ base : Heap} {m mg mb : Str → Option Value} {p : Program} {loose : List Str} {mean : ExcName → Option Value} {tl : List (Addr × Obj)}
   {oc : Obj} {vc : Option Value} {Q : Flow → Shared → Prop}
   (_B : Below A₀ base outer h₀) (_F : Fr h₀ L s.heap m) (_X : (headK w.params).In h₀) (_T : Top p loose mean mg mb h₀)
   (_N : News h₀ L s.heap ((L + 1, oc) :: tl)) (_off : ∀ p ∈ tl, p.1 ≠ L + 1) (_hc : oc.data = .cell vc)
   (_hd : dp < 500) (_hu : u < 6000)
   (_K : ∀ wk w0 w1 cm k0 k1 fl oc' tc t1 h' tk, CellIs oc' (.int 0 tc) → Fr h₀ L h' (fun y => if y = (Str.ofString "woken") then some (.ref wk) else if y = (Str.ofString "came") then some (.ref cm) else if y = (Str.ofString "flying") then some (.ref fl) else if y = (Str.ofString "many") then some (.int 0 t1) else m y) →
      News h₀ L h' ((wk, listOf #[.ref w0, .ref w1] 0) :: (w1, listOf #[] 0) :: (w0, listOf #[] 0) :: (cm, listOf #[.ref k0, .ref k1] 0) :: (k1, listOf #[] 0) :: (k0, listOf #[] 0) :: (fl, listOf #[] 0) :: (L + 1, oc') :: tl) →
      [wk, w1, w0, cm, k1, k0, fl].Nodup → (∀ a ∈ [wk, w1, w0, cm, k1, k0, fl], ∀ p ∈ (L + 1, oc) :: tl, p.1 ≠ a) → Q .next { s with heap := h', toks := tk }),
   wpAny (model PySem.Challenge.rw_rg0253_01.row.prog w) (mkA (lawEnv L fa cd) outer dp g u) (exec (lStmt 5) (lawEnv L fa cd)) Q (fun _ _ => False) s := by
  k_fill
  intro w s L fa cd outer dp u g A₀ h₀ base m mg mb p loose mean tl oc vc Q B F X T N off hc hd hu K
  simp only [lStmt, lawBody, lawEnv, lawScope, lawStmt, defScope, topAt, PySem.Challenge.pw_rg0253_01, defBody, List.drop, List.take, List.getD_cons_succ, List.getD_cons_zero]
  k_steps
  rename (News h₀ L _ _) => N9
  rename (Fr h₀ L _ _) => F9
  refine' K _ _ _ _ _ _ _ _ _ _ _ _ ?c F9 (News.of_sub N9 fun p hp => .tail _ hp) ?nd ?off
  case c => assumption
  case nd => k_keys
  case off => (repeat' (first | exact List.forall_mem_nil _ | refine List.forall_mem_cons.mpr ⟨?_, ?_⟩)); (all_goals first | k_ne | k_all)
end

end
section
/-! ## the law's last comparisons: lists of lists, to their leaves -/
section
open PySem.SeqAt
variable {prog : Program} {w : World} {A : Around} {E : Value → Shared → Prop} {s : Shared} {h₀ : Heap} {L : Addr} {news news' : List (Addr × Obj)}
theorem eqAt_bytes {b : Array UInt8} {t u : Tok} : EqAt A s (.bytes b t) (.bytes b u) true := fun prog w E Q h => by
  unfold eqBool
  show wpAny _ _ (if (Value.bytes b t == Value.bytes b u) = true then _ else _) Q E s
  by_cases hab : (Value.bytes b t == Value.bytes b u) = true
  · rw [if_pos hab]
    exact wpAny_bind (wpAny_rule (wpAny_pure h))
  · rw [if_neg hab]
    exact wpAny_bind (eq_bytes (wpAny_truthy_bool (by simpa using h)))
theorem eqAt_int {x : Int} {t u : Tok} : EqAt A s (.int x t) (.int x u) true := fun prog w E Q h => wpAny_eqBool_int (by simpa using h)
theorem eqAt_str {x : Str} {t u : Tok} : EqAt A s (.str x t) (.str x u) true := fun prog w E Q h => wpAny_eqBool_str (by simpa using h)
theorem eqAt_refs {l b : Addr} (h : RcAt A s (.ref l) (.ref b) true) : EqAt A s (.ref l) (.ref b) true := by
  by_cases e : l = b
  · subst e; exact EqAt.same _
  · exact EqAt.of_refs e h
theorem units_in {n : Nat} (h : A.units + n + 1 < cLine) : A.in1.units + n < cLine := by
  show A.units + 1 + n < cLine
  omega
theorem all_true (n : Nat) : ((List.range n).all fun _ => true) = true := by simp
theorem rc_lists {l b : Addr} {xs ys : List Value} {n1 n2 : Nat} (hl : s.heap.get? l = some (listOf (List.toArray xs) n1)) (hb : s.heap.get? b = some (listOf (List.toArray ys) n2)) (hz : xs.length = ys.length) (hu : A.units < cLine)
    (he : ∀ j (h1 : j < xs.length) (h2 : j < ys.length), EqAt A.in1 s xs[j] ys[j] true) : RcAt A s (.ref l) (.ref b) true := by
  have h := RcAt.lists (A := A) (s := s) (l := l) (b := b) (items := xs.toArray) (items2 := ys.toArray) (e := fun _ => true) ⟨_, hl, rfl, n1, rfl⟩ ⟨_, hb, rfl, n2, rfl⟩ (by simpa using hz) hu fun j h1 h2 => by
    have := he j (by simpa using h1) (by simpa using h2)
    simpa using this
  rw [all_true] at h
  exact h
theorem cam_eq {nm : Str} {v v' : Value} {c : Cam} (N : News h₀ L s.heap news) (N' : News h₀ L s.heap news') (h : CamIs news nm v c) (h' : CamIs news' nm v' c) (hu : A.units + 2 < cLine) : EqAt A s v v' true := by
  obtain ⟨T, t1, t2, t3, nT, rfl, hT⟩ := h
  obtain ⟨U, u1, u2, u3, nU, rfl, hU⟩ := h'
  refine eqAt_refs ?_
  have h := RcAt.tuples (A := A) (s := s) (l := T) (b := U) (e := fun _ => true) ⟨_, (N _ hT).1, rfl, nT, rfl⟩ ⟨_, (N' _ hU).1, rfl, nU, rfl⟩ (by omega) fun j h1 h2 => by
    have h3 : j < 3 := by simpa using h1
    obtain _ | _ | _ | j := j
    · exact eqAt_int
    · exact eqAt_str
    · exact eqAt_bytes
    · omega
  exact h
theorem cams_at {nm : Str} (N : News h₀ L s.heap news) (N' : News h₀ L s.heap news') (hu : A.units + 2 < cLine) : ∀ {vs ws : List Value} {cs : List Cam}, CamsAre news nm vs cs → CamsAre news' nm ws cs → ∀ j (h1 : j < vs.length) (h2 : j < ws.length), EqAt A s vs[j] ws[j] true
  | v :: vs, w :: ws, c :: cs, h, k, 0, _, _ => cam_eq N N' h.1 k.1 hu
  | v :: vs, w :: ws, c :: cs, h, k, j + 1, h1, h2 => cams_at N N' hu h.2 k.2 j (Nat.lt_of_succ_lt_succ h1) (Nat.lt_of_succ_lt_succ h2)
theorem cams_rc {nm : Str} {l b : Addr} {vs ws : List Value} {cs : List Cam} {n1 n2 : Nat} (N : News h₀ L s.heap news) (N' : News h₀ L s.heap news') (hl : (l, listOf (List.toArray vs) n1) ∈ news) (hb : (b, listOf (List.toArray ws) n2) ∈ news') (h : CamsAre news nm vs cs) (k : CamsAre news' nm ws cs) (hu : A.units + 3 < cLine) : EqAt A s (.ref l) (.ref b) true :=
  eqAt_refs (rc_lists (N _ hl).1 (N' _ hb).1 (h.length.trans k.length.symm) (by omega) (cams_at N N' (units_in hu) h k))
theorem ints_at : ∀ {vs ws : List Value} {ns : List Int}, IntsAre vs ns → IntsAre ws ns → ∀ j (h1 : j < vs.length) (h2 : j < ws.length), EqAt A s vs[j] ws[j] true
  | _, _, _, .cons _ _ _, .cons _ _ _, 0, _, _ => eqAt_int
  | _, _, _, .cons _ _ h, .cons _ _ k, j + 1, h1, h2 => ints_at h k j (Nat.lt_of_succ_lt_succ h1) (Nat.lt_of_succ_lt_succ h2)
theorem ints_rc {l b : Addr} {vs ws : List Value} {ns : List Int} {n1 n2 : Nat} (N : News h₀ L s.heap news) (N' : News h₀ L s.heap news') (hl : (l, listOf (List.toArray vs) n1) ∈ news) (hb : (b, listOf (List.toArray ws) n2) ∈ news') (h : IntsAre vs ns) (k : IntsAre ws ns) (hu : A.units + 3 < cLine) : EqAt A s (.ref l) (.ref b) true :=
  eqAt_refs (rc_lists (N _ hl).1 (N' _ hb).1 (h.length.trans k.length.symm) (by omega) (ints_at h k))
theorem eq_pairs {a b x0 x1 y0 y1 : Addr} {n1 n2 : Nat} {Q : Value → Shared → Prop} (N : News h₀ L s.heap news) (ha : (a, listOf #[.ref x0, .ref x1] n1) ∈ news) (hb : (b, listOf #[.ref y0, .ref y1] n2) ∈ news) (hu : A.units < cLine) (e0 : EqAt A.in1 s (.ref x0) (.ref y0) true) (e1 : EqAt A.in1 s (.ref x1) (.ref y1) true)
    (h : Q (.bool true) s) : wpAny (model prog w) A (compareOp .Eq (.ref a) (.ref b)) Q E s :=
  rc_lists (xs := [.ref x0, .ref x1]) (ys := [.ref y0, .ref y1]) (N _ ha).1 (N _ hb).1 rfl hu (fun j h1 h2 => by
    obtain _ | _ | j := j
    · exact e0
    · exact e1
    · exact absurd h1 (by simp)) prog w E Q h
end

end
section
theorem off46 : True := by
  w_top off
  trivial
/-! ## the run, and what is returned -/
section
local macro_rules | `(tactic| walk_at "eval ListComp") => `(tactic| (k_here; k_dflt (refine LCg.ListComp_U (F₀ := by k_asm) (by with_unfolding_all rfl) (by decide) (by rfl) (by decide) (by rfl) ?_); k_dflt lcg_toSrc))
local macro_rules | `(tactic| walk_at "CompEnd") => `(tactic| (refine' comp_end0 ?F ?N ?o ?S ?_; kbm_accL))
local macro_rules | `(tactic| walk_at "compareOp Eq ref ref") => `(tactic| refine stop_here ?_)
set_option maxHeartbeats 8000000 in
theorem chunkZ : ∀ {w : World} {s : Shared} {L fa : Addr} {cd : Value} {outer : List Env} {dp u : Nat} {g : Option (List Code)} {A₀ : Around} {h₀ base : Heap} {m₀ mg mb : Str → Option Value} {p : Program} {loose : List Str} {mean : ExcName → Option Value} {tl : List (Addr × Obj)}
   {rw wk cm W bk b0 b1 r0 r1 k0 k1 l0 l1 c0 c1 q0 q1 : Addr} {most : Int} {tmost : Tok} {fl tm mn on : Option Value} {nb nr ncm m0 m1 p0 p1 e0 e1 f0 f1 : Nat} {ob0 ob1 : Obj} {us0 us1 ys0 ys1 ks0 ks1 cs0 cs1 : List Value} {ns0 ns1 : List Int} {cm0 cm1 : List Cam} {Q : Flow → Shared → Prop}
   (_B : Below A₀ base outer h₀) (_F : Fr h₀ L s.heap (LMap m₀ rw wk cm W bk most tmost fl tm mn on)) (_X : (headK w.params).In h₀) (_T : Top p loose mean mg mb h₀)
   (_N : News h₀ L s.heap ((bk, listOf #[.ref b0, .ref b1] nb) :: (b0, ob0) :: (b1, ob1) :: tl))
   (_k0 : BookIs w ob0 l0 q0 c0) (_k1 : BookIs w ob1 l1 q1 c1) (_mc : (cm, listOf #[.ref k0, .ref k1] ncm) ∈ tl) (_mr : (rw, listOf #[.ref r0, .ref r1] nr) ∈ tl)
   (_ml0 : (l0, listOf (List.toArray us0) m0) ∈ tl) (_ml1 : (l1, listOf (List.toArray us1) m1) ∈ tl) (_mr0 : (r0, listOf (List.toArray ys0) p0) ∈ tl) (_mr1 : (r1, listOf (List.toArray ys1) p1) ∈ tl) (_i0 : IntsAre us0 ns0) (_i1 : IntsAre us1 ns1) (_j0 : IntsAre ys0 ns0) (_j1 : IntsAre ys1 ns1)
   (_mc0 : (c0, listOf (List.toArray cs0) e0) ∈ tl) (_mc1 : (c1, listOf (List.toArray cs1) e1) ∈ tl) (_mk0 : (k0, listOf (List.toArray ks0) f0) ∈ tl) (_mk1 : (k1, listOf (List.toArray ks1) f1) ∈ tl)
   (_a0 : CamsAre tl (Str.ofString "server") cs0 cm0) (_a1 : CamsAre tl (Str.ofString "client") cs1 cm1) (_d0 : CamsAre tl (Str.ofString "server") ks0 cm0) (_d1 : CamsAre tl (Str.ofString "client") ks1 cm1)
   (_hd : dp < 500) (_hu : u < 6000)
   (_K : ∀ h' tk, Fr h₀ L h' (LMap m₀ rw wk cm W bk most tmost fl tm mn on) → News h₀ L h' tl → Q (.ret (.bool true)) { s with heap := h', toks := tk }),
   wpAny (model PySem.Challenge.rw_rg0253_01.row.prog w) (mkA (lawEnv L fa cd) outer dp g u) (exec (lStmt 8) (lawEnv L fa cd)) Q (fun _ _ => False) s := by
  k_fill
  intro w s L fa cd outer dp u g A₀ h₀ base m₀ mg mb p loose mean tl rw wk cm W bk b0 b1 r0 r1 k0 k1 l0 l1 c0 c1 q0 q1 most tmost fl tm mn on nb nr ncm m0 m1 p0 p1 e0 e1 f0 f1 ob0 ob1 us0 us1 ys0 ys1 ks0 ks1 cs0 cs1 ns0 ns1 cm0 cm1 Q B F X T N hk0 hk1 mc mr ml0 ml1 mr0 mr1 i0 i1 j0 j1 mc0 mc1 mk0 mk1 a0 a1 d0 d1 hd hu K
  unfold BookIs at hk0 hk1
  simp only [lStmt, lawBody, lawEnv, lawScope, lawStmt, defScope, topAt, PySem.Challenge.pw_rg0253_01, defBody, List.drop, List.take, List.getD_cons_succ, List.getD_cons_zero]
  k_steps
  refine Hid.out ?_
  k_dflt (refine' eq_pairs ?N ?a ?b ?hu ?e0 ?e1 ?_)
  case N => k_asm
  case a => k_memK
  case b => k_mem
  case hu => (simp only [mkA, cLine]; omega)
  case e0 =>
    refine' cams_rc (news := tl) (news' := tl) ?N ?N2 mc0 mk0 a0 d0 ?u
    case N => exact News.of_sub (by k_asm) fun p hp => .tail _ (.tail _ (.tail _ (.tail _ hp)))
    case N2 => exact News.of_sub (by k_asm) fun p hp => .tail _ (.tail _ (.tail _ (.tail _ hp)))
    case u => (simp only [mkA, Around.in1, cLine]; omega)
  case e1 =>
    refine' cams_rc (news := tl) (news' := tl) ?N ?N2 mc1 mk1 a1 d1 ?u
    case N => exact News.of_sub (by k_asm) fun p hp => .tail _ (.tail _ (.tail _ (.tail _ hp)))
    case N2 => exact News.of_sub (by k_asm) fun p hp => .tail _ (.tail _ (.tail _ (.tail _ hp)))
    case u => (simp only [mkA, Around.in1, cLine]; omega)
  k_steps
  refine Hid.out ?_
  k_dflt (refine' eq_pairs ?N ?a ?b ?hu ?e0 ?e1 ?_)
  case N => k_asm
  case a => k_memK
  case b => k_mem
  case hu => (simp only [mkA, cLine]; omega)
  case e0 =>
    refine' ints_rc (news := tl) (news' := tl) ?N ?N2 ml0 mr0 i0 j0 ?u
    case N => exact News.of_sub (by k_asm) fun p hp => .tail _ (.tail _ (.tail _ (.tail _ (.tail _ hp))))
    case N2 => exact News.of_sub (by k_asm) fun p hp => .tail _ (.tail _ (.tail _ (.tail _ (.tail _ hp))))
    case u => (simp only [mkA, Around.in1, cLine]; omega)
  case e1 =>
    refine' ints_rc (news := tl) (news' := tl) ?N ?N2 ml1 mr1 i1 j1 ?u
    case N => exact News.of_sub (by k_asm) fun p hp => .tail _ (.tail _ (.tail _ (.tail _ (.tail _ hp))))
    case N2 => exact News.of_sub (by k_asm) fun p hp => .tail _ (.tail _ (.tail _ (.tail _ (.tail _ hp))))
    case u => (simp only [mkA, Around.in1, cLine]; omega)
  k_steps
  exact K _ _ (by k_asm) (News.of_sub (by k_asm) fun p hp => .tail _ (.tail _ (.tail _ (.tail _ (.tail _ hp)))))
end

end
section
theorem off47 : True := by
  w_top off
  trivial
/-! ## if world.run(most) != many or world.steps != many or world.now != clock: return False -/
section
set_option maxHeartbeats 8000000 in
theorem chunkR : ∀ {w : World} {s : Shared} {L fa : Addr} {cd : Value} {outer : List Env} {dp u : Nat} {g : Option (List Code)} {A₀ : Around} {h₀ base : Heap} {m₀ mg mb : Str → Option Value} {p : Program} {loose : List Str} {mean : ExcName → Option Value} {tl : List (Addr × Obj)}
   {rw wk cm bk : Addr} {most cnt clk : Int} {tmost tc tmn : Tok} {fl tm on : Option Value} {oc : Obj}
   {W dW NW dN fl9 ch hl h0 h1 b0 b1 l0 l1 c0 c1 : Addr} {nC nH : Nat} {v : WV} {d : D} {esW : List DictEntry} {nW : Nat} {A : WAd} {Q : Flow → Shared → Prop} (_eA : A = ⟨W, dW, NW, dN, fl9, ch, hl, h0, h1, b0, b1, l0, l1, c0, c1, nC, nH⟩)
   (_B : Below A₀ base outer h₀) (_C : Hid (CodeHd base 312 308)) (_F : Fr h₀ L s.heap (LMap m₀ rw wk cm W bk most tmost fl tm (some (.int cnt tmn)) on)) (_X : (headK w.params).In h₀) (_T : Top p loose mean mg mb h₀)
   (_N : News h₀ L s.heap ((dW, dictOf esW nW) :: v.led A tl)) (_fr : Front [(dW, dictOf esW nW)] (v.led A tl)) (_R : WR w A v d 0 tl) (_st : Stat A tl)
   (_gW : WorldEs esW hl NW d.now d.steps) (_ok : OkD 0 d) (_m0 : -10 ≤ most) (_m1 : most ≤ 12) (_mc : (L + 1, oc) ∈ tl) (_hc : CellIs oc (.int clk tc))
   (_e1 : cnt = ((runD most.toNat d).1 : Int)) (_e2 : clk = (runD most.toNat d).2.now) (_e3 : (runD most.toNat d).2.steps = ((runD most.toNat d).1 : Int))
   (_hd : dp < 400) (_hu : u < 5000)
   (_K : ∀ v' tl' k' esW' nW' h' tk, (∀ p ∈ tl, p ∈ tl') → Fr h₀ L h' (LMap m₀ rw wk cm W bk most tmost fl tm (some (.int cnt tmn)) on) → News h₀ L h' ((dW, dictOf esW' nW') :: v'.led A tl') → WR w A v' (runD most.toNat d).2 k' tl' → Q .next { s with heap := h', toks := tk }),
   wpAny (model PySem.Challenge.rw_rg0253_01.row.prog w) (mkA (lawEnv L fa cd) outer dp g u) (exec (lStmt 7) (lawEnv L fa cd)) Q (fun _ _ => False) s := by
  k_fill
  intro w s L fa cd outer dp u g A₀ h₀ base m₀ mg mb p loose mean tl rw wk cm bk most cnt clk tmost tc tmn fl tm on oc W dW NW dN fl9 ch hl h0 h1 b0 b1 l0 l1 c0 c1 nC nH v d esW nW A Q eA B C F X T N fr R st gW ok hm0 hm1 mc hc e1 e2 e3 hd hu K
  subst eA
  have gW0 := gW
  refine WorldEs.elim gW fun wt1 wt2 wle wg1 wg2 wg3 wg4 wg5 wg6 wg7 wg8 => ?_; clear gW
  have mW := st.memW v [(dW, dictOf esW nW)]
  simp only [List.cons_append, List.nil_append] at mW
  simp only [lStmt, lawBody, lawEnv, lawScope, lawStmt, defScope, topAt, PySem.Challenge.pw_rg0253_01, defBody, List.drop, List.take, List.getD_cons_succ, List.getD_cons_zero]
  k_steps
  refine Hid.out ?_
  k_dflt (refine' run_call (d := d) rfl B C ?F X T ?N fr R st gW0 ok hm0 hm1 ?hf ?hk ?hd ?hu ?_)
  case F => k_asm
  case N => k_asm
  case hf => exact rfl
  case hk => exact rfl
  case hd => omega
  case hu => omega
  intro v1 tl1 k1 esW1 nW1 t9 h1' tk1 sub1 F1 N1 R1 gW1
  have st1 := st.mono sub1
  have mW1 := st1.memW v1 [(dW, dictOf esW1 nW1)]
  simp only [List.cons_append, List.nil_append] at mW1
  have mc1 := led_tl (A := ⟨W, dW, NW, dN, fl9, ch, hl, h0, h1, b0, b1, l0, l1, c0, c1, nC, nH⟩) (v := v1) (sub1 _ mc)
  refine WorldEs.elim gW1 fun xt1 xt2 wle1 xg1 xg2 xg3 xg4 xg5 xg6 xg7 xg8 => ?_; clear gW1
  rw [e3] at xg4
  rw [← e2] at xg3
  rw [← e1] at xg4 ⊢
  k_steps
  all_goals first
    | exact absurd rfl (by assumption : cnt ≠ cnt)
    | exact absurd rfl (by assumption : clk ≠ clk)
    | exact K v1 tl1 k1 esW1 nW1 _ _ sub1 (by k_asm) (by k_asm) R1
end

end
section
theorem off48 : True := by
  w_top off
  trivial
/-! ## box, rows = ([list(script[:16]), 0], []); most = _law_take(box, 15) - 3 -/
theorem f_perm {h₀ h : Heap} {L : Addr} {a b c d e : Addr × Obj} {tl : List (Addr × Obj)} (N : News h₀ L h (a :: b :: c :: d :: e :: tl)) : News h₀ L h (b :: c :: d :: tl) := fun p hp => N p (by
  simp only [List.mem_cons] at hp ⊢
  rcases hp with h | h | h | h <;> simp [h])
section
set_option maxHeartbeats 8000000 in
theorem chunk0 : ∀ {w : World} {s : Shared} {L fa : Addr} {cd : Value} {outer : List Env} {dp u : Nat} {g : Option (List Code)} {A₀ : Around} {h₀ base : Heap} {m₀ mg mb : Str → Option Value} {p : Program} {loose : List Str} {mean : ExcName → Option Value} {tl : List (Addr × Obj)}
   {sc : Addr} {vs : List Value} {is : List Int} {Q : Flow → Shared → Prop}
   (_B : Below A₀ base outer h₀) (_F : Fr h₀ L s.heap (fun y => if y = (Str.ofString "script") then some (.ref sc) else m₀ y)) (_X : (headK w.params).In h₀) (_T : Top p loose mean mg mb h₀)
   (_N : News h₀ L s.heap tl) (_hl : h₀.IsList sc vs.toArray) (_hI : IntsAre vs is) (_hlen : is.length ≤ 63)
   (_hd : dp < 500) (_hu : u < 6000)
   (_K : ∀ bx rw li ws c t h' tk, Fr h₀ L h' (fun y => if y = (Str.ofString "box") then some (.ref bx) else if y = (Str.ofString "rows") then some (.ref rw) else if y = (Str.ofString "script") then some (.ref sc) else m₀ y) →
      News h₀ L h' ((rw, listOf #[] 0) :: (bx, listOf #[.ref li, .int 0 t] 0) :: (li, listOf (List.toArray ws) c) :: tl) → IntsAre ws (is.take 16) → [rw, bx, li].Nodup → (∀ a ∈ [rw, bx, li], ∀ p ∈ tl, p.1 ≠ a) → Q .next { s with heap := h', toks := tk }),
   wpAny (model PySem.Challenge.rw_rg0253_01.row.prog w) (mkA (lawEnv L fa cd) outer dp g u) (exec (lStmt 0) (lawEnv L fa cd)) Q (fun _ _ => False) s := by
  k_fill
  intro w s L fa cd outer dp u g A₀ h₀ base m₀ mg mb p loose mean tl sc vs is Q B F X T N hl hI hlen hd hu K
  simp only [lStmt, lawBody, lawEnv, lawScope, lawStmt, defScope, topAt, PySem.Challenge.pw_rg0253_01, defBody, List.drop, List.take, List.getD_cons_succ, List.getD_cons_zero]
  k_steps
  rename (News h₀ L _ _) => N9
  rename (Fr h₀ L _ _) => F9
  refine' K _ _ _ _ _ _ _ _ F9 (f_perm N9) ?ii ?nd ?off
  case ii => assumption
  case nd => k_keys
  case off => (repeat' (first | exact List.forall_mem_nil _ | refine List.forall_mem_cons.mpr ⟨?_, ?_⟩)); (all_goals first | k_ne | k_all)
set_option maxHeartbeats 8000000 in
theorem chunk1 : ∀ {w : World} {s : Shared} {L fa : Addr} {cd : Value} {outer : List Env} {dp u : Nat} {g : Option (List Code)} {A₀ : Around} {h₀ base : Heap} {m₀ mg mb : Str → Option Value} {p : Program} {loose : List Str} {mean : ExcName → Option Value} {tl : List (Addr × Obj)}
   {bx li : Addr} {vs : List Value} {is : List Int} {c : Nat} {t : Tok} {Q : Flow → Shared → Prop}
   (_B : Below A₀ base outer h₀) (_F : Fr h₀ L s.heap (fun y => if y = (Str.ofString "box") then some (.ref bx) else m₀ y)) (_X : (headK w.params).In h₀) (_T : Top p loose mean mg mb h₀)
   (_N : News h₀ L s.heap ((bx, listOf #[.ref li, .int 0 t] 0) :: (li, listOf (List.toArray vs) c) :: tl)) (_off : ∀ p ∈ tl, p.1 ≠ bx) (_hne : li ≠ bx) (_hI : IntsAre vs is) (_hl : is.length ≤ 16)
   (_hd : dp < 500) (_hu : u < 6000)
   (_K : ∀ most tm t' h' tk, -3 ≤ most → most ≤ 11 → Fr h₀ L h' (fun y => if y = (Str.ofString "most") then some (.int most tm) else if y = (Str.ofString "box") then some (.ref bx) else m₀ y) →
      News h₀ L h' ((bx, listOf #[.ref li, .int 1 t'] 0) :: (li, listOf (List.toArray vs) c) :: tl) → Q .next { s with heap := h', toks := tk }),
   wpAny (model PySem.Challenge.rw_rg0253_01.row.prog w) (mkA (lawEnv L fa cd) outer dp g u) (exec (lStmt 1) (lawEnv L fa cd)) Q (fun _ _ => False) s := by
  k_fill
  intro w s L fa cd outer dp u g A₀ h₀ base m₀ mg mb p loose mean tl bx li vs is c t Q B F X T N off hne hI hl hd hu K
  simp only [lStmt, lawBody, lawEnv, lawScope, lawStmt, defScope, topAt, PySem.Challenge.pw_rg0253_01, defBody, List.drop, List.take, List.getD_cons_succ, List.getD_cons_zero]
  k_steps
  refine Hid.out ?_
  k_dflt (refine' take_call (tl := tl) (i := 0) (ti := t) (c := c) B ?F X T ?N off hne hI hl (by decide) (by decide) (by decide) (by decide) ?hf ?hk ?hd ?_)
  case F => k_asm
  case N => k_asm
  case hf => exact rfl
  case hk => exact rfl
  case hd => omega
  intro h1' tk1 b1 tb1 tj1 F1 N1 hb0 hb1
  k_steps
  rename (News h₀ L _ _) => N9
  rename (Fr h₀ L _ _) => F9
  exact K _ _ _ _ _ (by omega) (by omega) F9 N9
end

end
section
/-! ## the law's last three statements, over what stands when its rows are laid -/
theorem slots_no_tup {w : World} {A : WAd} {v : WV} {d : D} {k : Nat} {tl : List (Addr × Obj)} (R : WR w A v d k tl) : NoTup (v.slots A) (v.led A []) := fun x hx => by
  obtain ⟨q, hq, rfl⟩ := List.mem_map.mp (show x ∈ (v.own A).map (·.1) from hx)
  exact ⟨q.2, hq, fun ys k => own_no_tup R.bk0 R.bk1 q hq ys k⟩
theorem led_app {A : WAd} {v : WV} {tl : List (Addr × Obj)} : v.led A tl = v.led A [] ++ tl := rfl
theorem slot_in {A : WAd} {v : WV} {a : Addr} (ha : a ∈ v.slots A) : ∃ o, (a, o) ∈ v.led A [] := by
  obtain ⟨q, hq, rfl⟩ := List.mem_map.mp (show a ∈ (v.own A).map (·.1) from ha)
  exact ⟨q.2, hq⟩
section
variable {w : World} {s : Shared} {L fa : Addr} {cd : Value} {outer : List Env} {dp u : Nat} {g : Option (List Code)} {A₀ : Around} {h₀ base : Heap} {m₀ mg mb : Str → Option Value} {p : Program} {loose : List Str} {mean : ExcName → Option Value} {tl all stl : List (Addr × Obj)} {a : LAd} {v : LV} {d : D} {Q : Flow → Shared → Prop}
  {A : WAd} {v9 : WV} {esW : List DictEntry} {nW nb : Nat} {ps : Array Value}
theorem law_tail (B : Below A₀ base outer h₀) (C : Hid (CodeHd base 312 308)) (F : Fr h₀ L s.heap (LM m₀ a v 0)) (X : (headK w.params).In h₀) (T : Top p loose mean mg mb h₀) (N : News h₀ L s.heap all) (S : LS L a tl v d all) (ok : OkD 0 d) (s0 : d.steps = 0) (b0 : -10 ≤ a.most) (b1 : a.most ≤ 12) (hd : dp < 400) (hu : u < 5000)
    (eW : a.W = A.W) (mdW : (A.dW, dictOf esW nW) ∈ tl) (mled : ∀ p ∈ v9.led A [], p ∈ tl) (R : WR w A v9 d 0 []) (gW : WorldEs esW A.hl A.NW d.now d.steps) (nd : (A.dW :: v9.slots A).Nodup)
    (st : Stat A stl) (sst : ∀ p ∈ stl, p ∈ tl) (ost : ∀ p ∈ stl, p.1 ∉ A.dW :: v9.slots A) (mbk : (a.bk, listOf #[.ref A.b0, .ref A.b1] nb) ∈ stl) (mrw : (a.rw, listOf #[.ref a.r0, .ref a.r1] a.nr) ∈ stl) (mcm : (a.cm, listOf #[.ref a.k0, .ref a.k1] a.ncm) ∈ stl) (m308 : (308, tabObj ps) ∈ stl)
    (K : ∀ h' tk m' rest, Fr h₀ L h' m' → News h₀ L h' rest → (308, tabObj ps) ∈ rest → Q (.ret (.bool true)) { s with heap := h', toks := tk }) :
    wpAny (model PySem.Challenge.rw_rg0253_01.row.prog w) (mkA (lawEnv L fa cd) outer dp g u) (execs [lStmt 6, lStmt 7, lStmt 8] (lawEnv L fa cd)) Q (fun _ _ => False) s := by
  refine wpAny_execs_cons (law_loop B F X T N S ok s0 b0 b1 (by omega) (by omega) fun v' all' h1 tk1 F1 N1 S1 e1 => ?_)
  show wpAny _ _ (execs [lStmt 7, lStmt 8] _) _ _ _
  have hno : NoTup (A.dW :: v9.slots A) all' := fun x hx => by
    rcases List.mem_cons.mp hx with e | hx
    · subst e; exact ⟨_, S1.sub _ mdW, fun _ _ => dict_no_tup⟩
    · obtain ⟨o, ho, hn⟩ := slots_no_tup R x hx
      exact ⟨o, S1.sub _ (mled _ ho), hn⟩
  -- the law's own addresses are none of the world's
  have apart : ∀ x ∈ LFix L a v', x ∉ A.dW :: v9.slots A := fun x hx hm => by
    rcases List.mem_cons.mp hm with e | hm
    · subst e; exact S1.off _ hx _ mdW rfl
    · obtain ⟨o, ho⟩ := slot_in hm
      exact S1.off _ hx _ (mled _ ho) rfl
  have keep : ∀ p ∈ stl, p ∈ offs (A.dW :: v9.slots A) all' := fun p hp => mem_offs.mpr ⟨S1.sub p (sst p hp), ost p hp⟩
  have kfix : ∀ {x : Addr} {o : Obj}, (x, o) ∈ all' → x ∈ LFix L a v' → (x, o) ∈ offs (A.dW :: v9.slots A) all' := fun hm hx => mem_offs.mpr ⟨hm, apart _ hx⟩
  have R' : WR w A v9 d 0 (offs (A.dW :: v9.slots A) all') := ⟨R.gN, R.bk0, R.bk1, R.du0, R.du1, R.fa.mono (List.forall_mem_nil _), R.i0, R.i1, R.ca0.mono (List.forall_mem_nil _), R.ca1.mono (List.forall_mem_nil _), R.lf, R.nd, fun x hx => offs_ne (.tail _ hx)⟩
  have hfr : Front [(A.dW, dictOf esW nW)] (v9.led A (offs (A.dW :: v9.slots A) all')) := Front.of (fun p hp => by
      rw [List.mem_singleton.mp hp]; exact (List.nodup_cons.mp nd).1) fun p hp q hq => by
      rw [List.mem_singleton.mp hp]; exact offs_ne (.head _) q hq
  have F2 : Fr h₀ L h1 (LMap m₀ a.rw a.wk a.cm A.W a.bk a.most a.tmost (some (.ref v'.fl)) v'.tm (some (.int (runD a.most.toNat d).1 v'.tmn)) v'.on) := by
    rw [← eW]; exact F1
  obtain ⟨W, dW, NW, dN, fl9, ch, hl, h0, h1x, b0x, b1x, l0, l1, c0, c1, nC, nH⟩ := A
  refine wpAny_execs_cons (chunkR (v := v9) (d := d) (clk := (runD a.most.toNat d).2.now) (tl := offs (dW :: v9.slots ⟨W, dW, NW, dN, fl9, ch, hl, h0, h1x, b0x, b1x, l0, l1, c0, c1, nC, nH⟩) all') rfl B C F2 X T (News.of_sub N1 fun p hp => ?_) hfr R' (st.mono keep) gW ok b0 b1 (kfix S1.mC (by simp [LFix])) S1.hC rfl rfl e1 (by omega) (by omega) fun v2 tl2 k2 esW2 nW2 h2 tk2 sub2 F3 N3 R2 => ?_)
  · rcases List.mem_cons.mp hp with e | hp
    · rw [e]; exact S1.sub _ mdW
    · rw [led_app] at hp
      rcases List.mem_append.mp hp with hp | hp
      · exact S1.sub _ (mled _ hp)
      · exact offs_sub _ hp
  · show wpAny _ _ (execs [lStmt 8] _) _ _ _
    have up : ∀ {q : Addr × Obj}, q ∈ offs (dW :: v9.slots ⟨W, dW, NW, dN, fl9, ch, hl, h0, h1x, b0x, b1x, l0, l1, c0, c1, nC, nH⟩) all' → q ∈ v2.led ⟨W, dW, NW, dN, fl9, ch, hl, h0, h1x, b0x, b1x, l0, l1, c0, c1, nC, nH⟩ tl2 := fun h => led_tl (sub2 _ h)
    refine wpAny_execs_cons (chunkZ (tl := v2.led ⟨W, dW, NW, dN, fl9, ch, hl, h0, h1x, b0x, b1x, l0, l1, c0, c1, nC, nH⟩ tl2) (nb := nb) (b0 := b0x) (b1 := b1x) (ob0 := v2.ob0) (ob1 := v2.ob1) B F3 X T (News.of_sub N3 fun p hp => ?_) R2.bk0 R2.bk1 (up (keep _ mcm)) (up (keep _ mrw)) led_l0 led_l1 (up (kfix S1.mr0 (by simp [LFix]))) (up (kfix S1.mr1 (by simp [LFix]))) R2.i0 R2.i1 S1.i0 S1.i1
      led_c0 led_c1 (up (kfix S1.mk0 (by simp [LFix]))) (up (kfix S1.mk1 (by simp [LFix]))) (R2.ca0.mono fun _ h => led_tl h) (R2.ca1.mono fun _ h => led_tl h) ((S1.c0.offs hno N1).mono fun _ h => up h) ((S1.c1.offs hno N1).mono fun _ h => up h) (by omega) (by omega) fun h3 tk3 F4 N4 => ?_)
    · simp only [List.mem_cons] at hp
      rcases hp with e | e | e | e
      · rw [e]; exact .tail _ (up (keep _ mbk))
      · rw [e]; exact .tail _ (led_b0 (A := ⟨W, dW, NW, dN, fl9, ch, hl, h0, h1x, b0x, b1x, l0, l1, c0, c1, nC, nH⟩) (v := v2) (tl := tl2))
      · rw [e]; exact .tail _ (led_b1 (A := ⟨W, dW, NW, dN, fl9, ch, hl, h0, h1x, b0x, b1x, l0, l1, c0, c1, nC, nH⟩) (v := v2) (tl := tl2))
      · exact .tail _ e
    · exact K h3 tk3 _ _ F4 N4 (up (keep _ m308))
end

end
section
/-! ## the law's statements, one after the other -/
theorem LMap_self {M : Str → Option Value} {rw wk cm W bk : Addr} {most : Int} {tmost : Tok} {fl tm mn on : Option Value} (h1 : M (Str.ofString "flying") = fl) (h2 : M (Str.ofString "times") = tm) (h3 : M (Str.ofString "many") = mn) (h4 : M (Str.ofString "one") = on) (h5 : M (Str.ofString "rows") = some (.ref rw)) (h6 : M (Str.ofString "woken") = some (.ref wk))
    (h7 : M (Str.ofString "came") = some (.ref cm)) (h8 : M (Str.ofString "most") = some (.int most tmost)) (h9 : M (Str.ofString "world") = some (.ref W)) (h10 : M (Str.ofString "books") = some (.ref bk)) : LMap M rw wk cm W bk most tmost fl tm mn on = M := funext fun y => by
  unfold LMap
  split
  · rename_i h; rw [h, h1]
  · split
    · rename_i h; rw [h, h2]
    · split
      · rename_i h; rw [h, h3]
      · split
        · rename_i h; rw [h, h4]
        · split
          · rename_i h; rw [h, h5]
          · split
            · rename_i h; rw [h, h6]
            · split
              · rename_i h; rw [h, h7]
              · split
                · rename_i h; rw [h, h8]
                · split
                  · rename_i h; rw [h, h9]
                  · split
                    · rename_i h; rw [h, h10]
                    · rfl
theorem PMap_self {M : Str → Option Value} {bx rw : Addr} {most : Int} {tmost : Tok} (h1 : M (Str.ofString "box") = some (.ref bx)) (h2 : M (Str.ofString "rows") = some (.ref rw)) (h3 : M (Str.ofString "most") = some (.int most tmost)) :
    PMap M bx rw most tmost (M (Str.ofString "turn")) (M (Str.ofString "times")) (M (Str.ofString "now")) (M (Str.ofString "spot")) = M := funext fun y => by
  unfold PMap
  split
  · rename_i h; rw [h]
  · split
    · rename_i h; rw [h]
    · split
      · rename_i h; rw [h]
      · split
        · rename_i h; rw [h]
        · split
          · rename_i h; rw [h, h1]
          · split
            · rename_i h; rw [h, h2]
            · split
              · rename_i h; rw [h, h3]
              · rfl
noncomputable def HasAll (led : List (Addr × Obj)) (A : List Addr) : Prop := ∀ a ∈ A, ∃ o, (a, o) ∈ led
theorem nodup_layer {A B : List Addr} {led : List (Addr × Obj)} (hA : A.Nodup) (h : HasAll led A) (hB : B.Nodup) (fr : ∀ b ∈ B, ∀ p ∈ led, p.1 ≠ b) : (A ++ B).Nodup := List.nodup_append.mpr ⟨hA, hB, fun a ha b hb e => let ⟨_, ho⟩ := h a ha; fr b hb _ ho e⟩
theorem HasAll.mono {led led' : List (Addr × Obj)} {A : List Addr} (hs : ∀ p ∈ led, p ∈ led') (h : HasAll led A) : HasAll led' A := fun a ha => let ⟨o, ho⟩ := h a ha; ⟨o, hs _ ho⟩
theorem HasAll.re {led own : List (Addr × Obj)} {A : List Addr} (x : Addr) (o : Obj) (h : HasAll led A) : HasAll ((x, o) :: (own ++ offs [x] led)) A := fun a ha => by
  by_cases e : a = x
  · exact ⟨o, e ▸ .head _⟩
  · obtain ⟨o', ho⟩ := h a ha
    exact ⟨o', .tail _ (List.mem_append.mpr (.inr (mem_offs.mpr ⟨ho, fun z => e (List.mem_singleton.mp z)⟩)))⟩
theorem HasAll.app {led : List (Addr × Obj)} {A B : List Addr} (h : HasAll led A) (k : HasAll led B) : HasAll led (A ++ B) := fun a ha => by
  rcases List.mem_append.mp ha with ha | ha
  · exact h a ha
  · exact k a ha
theorem lawBody_is : lawBody = [lStmt 0, lStmt 1, lStmt 2, lStmt 3, lStmt 4, lStmt 5, lStmt 6, lStmt 7, lStmt 8] := rfl
theorem two_of {l : List Addr} (h : l.length = 2) : ∃ a b, l = [a, b] := by
  match l, h with
  | [a, b], _ => exact ⟨a, b, rfl⟩
theorem two_of' {l : List (List Int)} (h : l.length = 2) : ∃ a b, l = [a, b] := by
  match l, h with
  | [a, b], _ => exact ⟨a, b, rfl⟩
section
variable {x0 x1 x2 x3 x4 x5 x6 x7 x8 x9 x10 x11 x12 x13 x14 x15 x16 x17 x18 x19 x20 x21 x22 x23 x24 x25 x26 x27 x28 x29 : Addr}
theorem pickS (h : [x0, x1, x2, x3, x4, x5, x6, x7, x8, x9, x10, x11, x12, x13, x14, x15, x16, x17, x18, x19, x20, x21, x22, x23, x24, x25, x26, x27, x28, x29].Nodup) : [x15, x12, x8, x17, x16, x18, x14, x10, x13, x9, x11, x7].Nodup := Plc.nodup h (I := [15, 12, 8, 17, 16, 18, 14, 10, 13, 9, 11, 7]) rfl (by decide)
theorem pickF (h : [x0, x1, x2, x3, x4, x5, x6, x7, x8, x9, x10, x11, x12, x13, x14, x15, x16, x17, x18, x19, x20, x21, x22, x23, x24, x25, x26, x27, x28, x29].Nodup) : [x29, x0, x1, x23, x25, x24, x4, x5, x28, x27].Nodup := Plc.nodup h (I := [29, 0, 1, 23, 25, 24, 4, 5, 28, 27]) rfl (by decide)
theorem outF (h : [x0, x1, x2, x3, x4, x5, x6, x7, x8, x9, x10, x11, x12, x13, x14, x15, x16, x17, x18, x19, x20, x21, x22, x23, x24, x25, x26, x27, x28, x29].Nodup) : ∀ y ∈ [x2, x3, x6, x7, x8, x9, x10, x11, x12, x13, x14, x15, x16, x17, x18, x19, x20, x21, x22, x26], y ∉ [x0, x1, x23, x25, x24, x4, x5, x28, x27] := Plc.apart h [2, 3, 6, 7, 8, 9, 10, 11, 12, 13, 14, 15, 16, 17, 18, 19, 20, 21, 22, 26] [0, 1, 23, 25, 24, 4, 5, 28, 27] (by decide) rfl rfl
theorem outS (h : [x0, x1, x2, x3, x4, x5, x6, x7, x8, x9, x10, x11, x12, x13, x14, x15, x16, x17, x18, x19, x20, x21, x22, x23, x24, x25, x26, x27, x28, x29].Nodup) : ∀ y ∈ [x2, x3, x6, x19, x20, x21, x22, x26], y ∉ [x15, x12, x8, x17, x16, x18, x14, x10, x13, x9, x11, x7] := Plc.apart h [2, 3, 6, 19, 20, 21, 22, 26] [15, 12, 8, 17, 16, 18, 14, 10, 13, 9, 11, 7] (by decide) rfl rfl
end
theorem out308 {x0 x1 x2 x3 x4 x5 x6 x7 x8 x9 x10 x11 x12 x13 x14 : Addr} (h : [x0, x1, x2, x3, x4, x5, x6, x7, x8, x9, x10, x11, x12, x13, x14].Nodup) : ∀ y ∈ [x0, x1, x3, x4, x5, x6, x7, x8, x9, x10, x11, x12, x13, x14], y ≠ x2 := Plc.nots h 2 [0, 1, 3, 4, 5, 6, 7, 8, 9, 10, 11, 12, 13, 14] (by decide) rfl rfl

end
section
section
variable {w : World} {s : Shared} {L fa : Addr} {cd : Value} {outer : List Env} {dp u : Nat} {g : Option (List Code)} {A₀ : Around} {h₀ base : Heap} {m₀ mg mb : Str → Option Value} {p : Program} {loose : List Str} {mean : ExcName → Option Value} {Q : Flow → Shared → Prop}
  {oa oc : Obj} {va vc : Option Value} {sc : Addr} {vs : List Value} {is : List Int} {tl0 : List (Addr × Obj)}
set_option maxHeartbeats 1000000 in
theorem law_mid3 {led5 own : List (Addr × Obj)} {M6 : Str → Option Value} {bk rw r0 r1 b0 b1 l0 l1 q0 q1 c0 c1 dW dN wl fl W NW hl ch hA9 hB9 wk w0 w1 cm k0' k1' fl' : Addr} {most : Int} {tm tc t1 : Tok} {nb nr nn0 nn1 nl0 nl1 nW nN nH nC : Nat} {us0 us1 : List Value} {ns0 ns1 : List Int} {ob0 ob1 oc' : Obj} {esW esN : List DictEntry} {ps : Array Value} {tmv onv : Option Value}
    (B : Below A₀ base outer h₀) (C : Hid (CodeHd base 312 308)) (F : Fr h₀ L s.heap (LMap M6 rw wk cm W bk most tm (some (.ref fl')) tmv (some (.int 0 t1)) onv)) (X : (headK w.params).In h₀) (T : Top p loose mean mg mb h₀) (N : News h₀ L s.heap ((wk, listOf #[.ref w0, .ref w1] 0) :: (w1, listOf #[] 0) :: (w0, listOf #[] 0) :: (cm, listOf #[.ref k0', .ref k1'] 0) :: (k1', listOf #[] 0) :: (k0', listOf #[] 0) :: (fl', listOf #[] 0) :: (L + 1, oc') :: offs [L + 1] led5))
    (ndS : [dW, q0, q1, wl, dN, fl, b0, b1, l0, l1, c0, c1].Nodup) (ndF : (fl' :: [L + 1 + 1, L + 1, wk, w0, w1, r0, r1, k0', k1']).Nodup) (oF : ∀ y ∈ [308, rw, bk, c1, q1, l1, b1, c0, q0, l0, b0, dW, dN, wl, fl, W, NW, hl, ch, cm], y ∉ [L + 1 + 1, L + 1, wk, w0, w1, r0, r1, k0', k1']) (oS : ∀ y ∈ [308, rw, bk, W, NW, hl, ch, cm], y ∉ [dW, q0, q1, wl, dN, fl, b0, b1, l0, l1, c0, c1]) (nL : ∀ y ∈ [L + 1 + 1, 308, rw, r0, r1, bk, c1, q1, l1, b1, c0, q0, l0, b0, dW, dN, wl, fl, W, NW, hl, ch], y ≠ L + 1) (hc6 : CellIs oc' (.int 0 tc))
    (mA : (L + 1 + 1, oa) ∈ led5) (hA : oa.data = .cell va) (mrw : (rw, listOf #[.ref r0, .ref r1] nr) ∈ led5) (mr0 : (r0, listOf (List.toArray us0) nn0) ∈ led5) (mr1 : (r1, listOf (List.toArray us1) nn1) ∈ led5)
    (i0 : IntsAre us0 ns0) (i1 : IntsAre us1 ns1) (z0 : ns0.length ≤ 4) (z1 : ns1.length ≤ 4) (bd0 : ∀ x ∈ ns0, 0 ≤ x ∧ x < 256) (bd1 : ∀ x ∈ ns1, 0 ≤ x ∧ x < 256)
    (mbk : (bk, listOf #[.ref b0, .ref b1] nb) ∈ led5) (mc1 : (c1, listOf #[] 0) ∈ led5) (mq1 : (q1, listOf #[] 0) ∈ led5) (ml1 : (l1, listOf (List.toArray us1) nl1) ∈ led5) (mb1 : (b1, ob1) ∈ led5) (mc0 : (c0, listOf #[] 0) ∈ led5) (mq0 : (q0, listOf #[] 0) ∈ led5) (ml0 : (l0, listOf (List.toArray us0) nl0) ∈ led5) (mb0 : (b0, ob0) ∈ led5)
    (k0 : BookIs w ob0 l0 q0 c0) (k1 : BookIs w ob1 l1 q1 c1)
    (mdW : (dW, dictOf esW nW) ∈ led5) (mdN : (dN, dictOf esN nN) ∈ led5) (mwl : (wl, listOf #[] 0) ∈ led5) (mfl : (fl, listOf #[] 0) ∈ led5) (mWo : (W, instObj 143 dW) ∈ led5) (mNW : (NW, instObj 84 dN) ∈ led5) (mhl : (hl, listOf #[.ref hA9, .ref hB9] nH) ∈ led5) (mch : (ch, listOf #[] nC) ∈ led5) (m308 : (308, tabObj ps) ∈ led5)
    (gW : WorldEs esW hl NW 0 0) (gN : NetEs esN ch wl fl 0) (HA : HostAt own hA9 b0 (Str.ofString "client")) (HB : HostAt own hB9 b1 (Str.ofString "server")) (own5 : ∀ p ∈ own, p ∈ led5) (ownA3 : ∀ p ∈ own, p.1 ∉ [L + 1 + 1, L + 1, 308, rw, r0, r1, bk, c1, q1, l1, b1, c0, q0, l0, b0, dW, dN, wl, fl, W, NW, hl, ch])
    (fr6 : ∀ a ∈ [wk, w1, w0, cm, k1', k0', fl'], ∀ p ∈ (L + 1, oc) :: offs [L + 1] led5, p.1 ≠ a) (hm0 : -3 ≤ most) (hm1 : most ≤ 11) (hd : dp < 400) (hu : u < 5000)
    (K : ∀ h' tk m' ps rest, Fr h₀ L h' m' → News h₀ L h' rest → (308, tabObj ps) ∈ rest → Q (.ret (.bool true)) { s with heap := h', toks := tk }) :
    wpAny (model PySem.Challenge.rw_rg0253_01.row.prog w) (mkA (lawEnv L fa cd) outer dp g u) (execs [lStmt 6, lStmt 7, lStmt 8] (lawEnv L fa cd)) Q (fun _ _ => False) s := by
  have ownL : ∀ p ∈ own, p.1 ≠ L + 1 := fun p hp e => ownA3 p hp (by rw [e]; exact .tail _ (.head _))
  have up6 : ∀ {x : Addr} {o : Obj}, (x, o) ∈ led5 → x ≠ L + 1 → (x, o) ∈ (wk, listOf #[.ref w0, .ref w1] 0) :: (w1, listOf #[] 0) :: (w0, listOf #[] 0) :: (cm, listOf #[.ref k0', .ref k1'] 0) :: (k1', listOf #[] 0) :: (k0', listOf #[] 0) :: (fl', listOf #[] 0) :: (L + 1, oc') :: offs [L + 1] led5 := fun hm hn =>
    .tail _ (.tail _ (.tail _ (.tail _ (.tail _ (.tail _ (.tail _ (.tail _ (keep_offs hm fun h => hn (List.mem_singleton.mp h)))))))))
  have ownF : ∀ p ∈ own, p.1 ∉ [L + 1 + 1, L + 1, wk, w0, w1, r0, r1, k0', k1'] := fun p hp hm => by
    have h2 : p ∈ (L + 1, oc) :: offs [L + 1] led5 := .tail _ (keep_offs (own5 p hp) fun h => ownL p hp (List.mem_singleton.mp h))
    rcases List.mem_append.mp (Plc.sub (I := [0, 1, 4, 5, 6, 2, 3, 7, 8]) (L := [L + 1 + 1, L + 1, r0, r1] ++ [wk, w0, w1, k0', k1']) (by exact rfl) _ hm) with h | h
    · exact ownA3 p hp (Plc.sub (I := [0, 1, 4, 5]) (by exact rfl) _ h)
    · exact fr6 _ (Plc.sub (I := [0, 2, 1, 5, 4]) (by exact rfl) _ h) p h2 rfl
  have ownS : ∀ p ∈ own, p.1 ∉ [dW, q0, q1, wl, dN, fl, b0, b1, l0, l1, c0, c1] := fun p hp hm => ownA3 p hp (Plc.sub (I := [15, 12, 8, 17, 16, 18, 14, 10, 13, 9, 11, 7]) (by exact rfl) _ hm)
  have eA := up6 mA (nL _ (mem_at 0 rfl))
  have erw := up6 mrw (nL _ (mem_at 2 rfl))
  have er0 := up6 mr0 (nL _ (mem_at 3 rfl))
  have er1 := up6 mr1 (nL _ (mem_at 4 rfl))
  have ebk := up6 mbk (nL _ (mem_at 5 rfl))
  have ec1 := up6 mc1 (nL _ (mem_at 6 rfl))
  have eq1 := up6 mq1 (nL _ (mem_at 7 rfl))
  have el1 := up6 ml1 (nL _ (mem_at 8 rfl))
  have eb1 := up6 mb1 (nL _ (mem_at 9 rfl))
  have ec0 := up6 mc0 (nL _ (mem_at 10 rfl))
  have eq0 := up6 mq0 (nL _ (mem_at 11 rfl))
  have el0 := up6 ml0 (nL _ (mem_at 12 rfl))
  have eb0 := up6 mb0 (nL _ (mem_at 13 rfl))
  have edW := up6 mdW (nL _ (mem_at 14 rfl))
  have edN := up6 mdN (nL _ (mem_at 15 rfl))
  have ewl := up6 mwl (nL _ (mem_at 16 rfl))
  have efl := up6 mfl (nL _ (mem_at 17 rfl))
  have eWo := up6 mWo (nL _ (mem_at 18 rfl))
  have eNW := up6 mNW (nL _ (mem_at 19 rfl))
  have ehl := up6 mhl (nL _ (mem_at 20 rfl))
  have ech := up6 mch (nL _ (mem_at 21 rfl))
  have e308 := up6 m308 (nL _ (mem_at 1 rfl))
  have eown : ∀ p ∈ own, p ∈ (wk, listOf #[.ref w0, .ref w1] 0) :: (w1, listOf #[] 0) :: (w0, listOf #[] 0) :: (cm, listOf #[.ref k0', .ref k1'] 0) :: (k1', listOf #[] 0) :: (k0', listOf #[] 0) :: (fl', listOf #[] 0) :: (L + 1, oc') :: offs [L + 1] led5 := fun p hp => up6 (own5 p hp) (ownL p hp)
  have ewk : (wk, listOf #[.ref w0, .ref w1] 0) ∈ (wk, listOf #[.ref w0, .ref w1] 0) :: (w1, listOf #[] 0) :: (w0, listOf #[] 0) :: (cm, listOf #[.ref k0', .ref k1'] 0) :: (k1', listOf #[] 0) :: (k0', listOf #[] 0) :: (fl', listOf #[] 0) :: (L + 1, oc') :: offs [L + 1] led5 := .head _
  have ew1 : (w1, listOf #[] 0) ∈ (wk, listOf #[.ref w0, .ref w1] 0) :: (w1, listOf #[] 0) :: (w0, listOf #[] 0) :: (cm, listOf #[.ref k0', .ref k1'] 0) :: (k1', listOf #[] 0) :: (k0', listOf #[] 0) :: (fl', listOf #[] 0) :: (L + 1, oc') :: offs [L + 1] led5 := .tail _ (.head _)
  have ew0 : (w0, listOf #[] 0) ∈ (wk, listOf #[.ref w0, .ref w1] 0) :: (w1, listOf #[] 0) :: (w0, listOf #[] 0) :: (cm, listOf #[.ref k0', .ref k1'] 0) :: (k1', listOf #[] 0) :: (k0', listOf #[] 0) :: (fl', listOf #[] 0) :: (L + 1, oc') :: offs [L + 1] led5 := .tail _ (.tail _ (.head _))
  have ecm : (cm, listOf #[.ref k0', .ref k1'] 0) ∈ (wk, listOf #[.ref w0, .ref w1] 0) :: (w1, listOf #[] 0) :: (w0, listOf #[] 0) :: (cm, listOf #[.ref k0', .ref k1'] 0) :: (k1', listOf #[] 0) :: (k0', listOf #[] 0) :: (fl', listOf #[] 0) :: (L + 1, oc') :: offs [L + 1] led5 := .tail _ (.tail _ (.tail _ (.head _)))
  have ek1 : (k1', listOf #[] 0) ∈ (wk, listOf #[.ref w0, .ref w1] 0) :: (w1, listOf #[] 0) :: (w0, listOf #[] 0) :: (cm, listOf #[.ref k0', .ref k1'] 0) :: (k1', listOf #[] 0) :: (k0', listOf #[] 0) :: (fl', listOf #[] 0) :: (L + 1, oc') :: offs [L + 1] led5 := .tail _ (.tail _ (.tail _ (.tail _ (.head _))))
  have ek0 : (k0', listOf #[] 0) ∈ (wk, listOf #[.ref w0, .ref w1] 0) :: (w1, listOf #[] 0) :: (w0, listOf #[] 0) :: (cm, listOf #[.ref k0', .ref k1'] 0) :: (k1', listOf #[] 0) :: (k0', listOf #[] 0) :: (fl', listOf #[] 0) :: (L + 1, oc') :: offs [L + 1] led5 := .tail _ (.tail _ (.tail _ (.tail _ (.tail _ (.head _)))))
  have efl' : (fl', listOf #[] 0) ∈ (wk, listOf #[.ref w0, .ref w1] 0) :: (w1, listOf #[] 0) :: (w0, listOf #[] 0) :: (cm, listOf #[.ref k0', .ref k1'] 0) :: (k1', listOf #[] 0) :: (k0', listOf #[] 0) :: (fl', listOf #[] 0) :: (L + 1, oc') :: offs [L + 1] led5 := .tail _ (.tail _ (.tail _ (.tail _ (.tail _ (.tail _ (.head _))))))
  have eoc : (L + 1, oc') ∈ (wk, listOf #[.ref w0, .ref w1] 0) :: (w1, listOf #[] 0) :: (w0, listOf #[] 0) :: (cm, listOf #[.ref k0', .ref k1'] 0) :: (k1', listOf #[] 0) :: (k0', listOf #[] 0) :: (fl', listOf #[] 0) :: (L + 1, oc') :: offs [L + 1] led5 := .tail _ (.tail _ (.tail _ (.tail _ (.tail _ (.tail _ (.tail _ (.head _)))))))
  clear up6
  generalize (wk, listOf #[.ref w0, .ref w1] 0) :: (w1, listOf #[] 0) :: (w0, listOf #[] 0) :: (cm, listOf #[.ref k0', .ref k1'] 0) :: (k1', listOf #[] 0) :: (k0', listOf #[] 0) :: (fl', listOf #[] 0) :: (L + 1, oc') :: offs [L + 1] led5 = led6 at *
  have toT : ∀ {x : Addr} {o : Obj}, (x, o) ∈ led6 → x ∉ [L + 1 + 1, L + 1, wk, w0, w1, r0, r1, k0', k1'] → (x, o) ∈ offs [L + 1 + 1, L + 1, wk, w0, w1, r0, r1, k0', k1'] led6 := fun hm hn => keep_offs hm hn
  have S : LS L (⟨rw, wk, cm, W, bk, r0, r1, k0', k1', most, tm, nr, 0⟩ : LAd) (offs [L + 1 + 1, L + 1, wk, w0, w1, r0, r1, k0', k1'] led6) ({ oa := oa, oc := oc', tc := tc, tmn := t1, fl := fl', w0 := w0, w1 := w1, fvs := [], vs0 := [], vs1 := [], us0 := us0, us1 := us1, cs0 := [], cs1 := [], nf := 0, q0 := 0, q1 := 0, nw := 0, n0 := nn0, n1 := nn1, p0 := 0, p1 := 0, tm := tmv, on := onv } : LV) (⟨0, 0, 0, [], none, none, ns0, ns1, [], []⟩ : D) led6 :=
    ⟨eA, ⟨va, hA⟩, eoc, hc6, ewk, ew0, ew1, rfl, rfl, er0, er1, i0, i1, ek0, ek1, trivial, trivial, efl', trivial, ndF, fun p hp => offs_sub p hp, fun x hx => offs_ne hx, toT erw (oF _ (mem_at 1 rfl)), toT ecm (oF _ (mem_at 19 rfl))⟩
  have ok : OkD 0 (⟨0, 0, 0, [], none, none, ns0, ns1, [], []⟩ : D) := ⟨.nil, fun f hf => (by simp at hf), by simp, fun x hx => (by simp at hx), fun x hx => (by simp at hx), bd0, bd1, z0, z1⟩
  have R : WR w (⟨W, dW, NW, dN, fl, ch, hl, hA9, hB9, b0, b1, l0, l1, c0, c1, nC, nH⟩ : WAd) ({ esN := esN, wl := wl, q0 := q0, q1 := q1, ws := [], fvs := [], ls0 := us0, ls1 := us1, cs0 := [], cs1 := [], vs0 := [], vs1 := [], nN := nN, cw := 0, cf := 0, nl0 := nl0, nl1 := nl1, nc0 := 0, nc1 := 0, nq0 := 0, nq1 := 0, ob0 := ob0, ob1 := ob1 } : WV) (⟨0, 0, 0, [], none, none, ns0, ns1, [], []⟩ : D) 0 [] := ⟨gN, k0, k1, rfl, rfl, trivial, i0, i1, trivial, trivial, Nat.le_refl _, (List.nodup_cons.mp ndS).2, fun x hx p hp => (by simp at hp)⟩
  have st : Stat (⟨W, dW, NW, dN, fl, ch, hl, hA9, hB9, b0, b1, l0, l1, c0, c1, nC, nH⟩ : WAd) ((W, instObj 143 dW) :: (NW, instObj 84 dN) :: (ch, listOf #[] nC) :: (hl, listOf #[.ref hA9, .ref hB9] nH) :: (bk, listOf #[.ref b0, .ref b1] nb) :: (rw, listOf #[.ref r0, .ref r1] nr) :: (cm, listOf #[.ref k0', .ref k1'] 0) :: (308, tabObj ps) :: own) := ⟨.head _, .tail _ (.head _), .tail _ (.tail _ (.head _)), .tail _ (.tail _ (.tail _ (.head _))), HA.mono fun p hp => .tail _ (.tail _ (.tail _ (.tail _ (.tail _ (.tail _ (.tail _ (.tail _ (hp)))))))), HB.mono fun p hp => .tail _ (.tail _ (.tail _ (.tail _ (.tail _ (.tail _ (.tail _ (.tail _ (hp)))))))), fun e => by
    have h1 := (N _ eNW).1
    have h2 := (N _ ech).1
    have e' : NW = ch := e
    rw [e'] at h1
    have h3 := Option.some.inj (h1.symm.trans h2)
    exact absurd (congrArg Obj.cls h3) (by simp [instObj, PySem.W.listOf])⟩
  refine law_tail (a := (⟨rw, wk, cm, W, bk, r0, r1, k0', k1', most, tm, nr, 0⟩ : LAd)) (v := ({ oa := oa, oc := oc', tc := tc, tmn := t1, fl := fl', w0 := w0, w1 := w1, fvs := [], vs0 := [], vs1 := [], us0 := us0, us1 := us1, cs0 := [], cs1 := [], nf := 0, q0 := 0, q1 := 0, nw := 0, n0 := nn0, n1 := nn1, p0 := 0, p1 := 0, tm := tmv, on := onv } : LV)) (d := (⟨0, 0, 0, [], none, none, ns0, ns1, [], []⟩ : D)) (A := (⟨W, dW, NW, dN, fl, ch, hl, hA9, hB9, b0, b1, l0, l1, c0, c1, nC, nH⟩ : WAd)) (v9 := ({ esN := esN, wl := wl, q0 := q0, q1 := q1, ws := [], fvs := [], ls0 := us0, ls1 := us1, cs0 := [], cs1 := [], vs0 := [], vs1 := [], nN := nN, cw := 0, cf := 0, nl0 := nl0, nl1 := nl1, nc0 := 0, nc1 := 0, nq0 := 0, nq1 := 0, ob0 := ob0, ob1 := ob1 } : WV)) (esW := esW) (nW := nW) (nb := nb) (ps := ps) (tl := offs [L + 1 + 1, L + 1, wk, w0, w1, r0, r1, k0', k1'] led6) (all := led6) (stl := (W, instObj 143 dW) :: (NW, instObj 84 dN) :: (ch, listOf #[] nC) :: (hl, listOf #[.ref hA9, .ref hB9] nH) :: (bk, listOf #[.ref b0, .ref b1] nb) :: (rw, listOf #[.ref r0, .ref r1] nr) :: (cm, listOf #[.ref k0', .ref k1'] 0) :: (308, tabObj ps) :: own) B C F X T N S ok rfl ?b0 ?b1 hd hu rfl (toT edW (oF _ (mem_at 11 rfl))) ?mled R gW ndS st ?sst ?ost (.tail _ (.tail _ (.tail _ (.tail _ (.head _))))) (.tail _ (.tail _ (.tail _ (.tail _ (.tail _ (.head _)))))) (.tail _ (.tail _ (.tail _ (.tail _ (.tail _ (.tail _ (.head _))))))) (.tail _ (.tail _ (.tail _ (.tail _ (.tail _ (.tail _ (.tail _ (.head _)))))))) fun h' tk m' rest F' N' hm => K h' tk m' ps rest F' N' hm
  case b0 => show -10 ≤ most; omega
  case b1 => show most ≤ 12; omega
  case mled => exact fcons (toT eq0 (oF _ (mem_at 8 rfl))) (fcons (toT eq1 (oF _ (mem_at 4 rfl))) (fcons (toT ewl (oF _ (mem_at 13 rfl))) (fcons (toT edN (oF _ (mem_at 12 rfl))) (fcons (toT efl (oF _ (mem_at 14 rfl))) (fcons (toT eb0 (oF _ (mem_at 10 rfl))) (fcons (toT eb1 (oF _ (mem_at 6 rfl))) (fcons (toT el0 (oF _ (mem_at 9 rfl))) (fcons (toT el1 (oF _ (mem_at 5 rfl))) (fcons (toT ec0 (oF _ (mem_at 7 rfl))) (fcons (toT ec1 (oF _ (mem_at 3 rfl))) (List.forall_mem_nil _)))))))))))
  case sst => exact fcons (toT eWo (oF _ (mem_at 15 rfl))) (fcons (toT eNW (oF _ (mem_at 16 rfl))) (fcons (toT ech (oF _ (mem_at 18 rfl))) (fcons (toT ehl (oF _ (mem_at 17 rfl))) (fcons (toT ebk (oF _ (mem_at 2 rfl))) (fcons (toT erw (oF _ (mem_at 1 rfl))) (fcons (toT ecm (oF _ (mem_at 19 rfl))) (fcons (toT e308 (oF _ (mem_at 0 rfl))) (fun p hp => toT (eown p hp) (ownF p hp)))))))))
  case ost => exact fcons (oS _ (mem_at 3 rfl)) (fcons (oS _ (mem_at 4 rfl)) (fcons (oS _ (mem_at 6 rfl)) (fcons (oS _ (mem_at 5 rfl)) (fcons (oS _ (mem_at 2 rfl)) (fcons (oS _ (mem_at 1 rfl)) (fcons (oS _ (mem_at 7 rfl)) (fcons (oS _ (mem_at 0 rfl)) (ownS))))))))
end

end
section
section
variable {w : World} {s : Shared} {L fa : Addr} {cd : Value} {outer : List Env} {dp u : Nat} {g : Option (List Code)} {A₀ : Around} {h₀ base : Heap} {m₀ mg mb : Str → Option Value} {p : Program} {loose : List Str} {mean : ExcName → Option Value} {Q : Flow → Shared → Prop}
  {oa oc : Obj} {va vc : Option Value} {sc : Addr} {vs : List Value} {is : List Int} {tl0 : List (Addr × Obj)}
set_option maxHeartbeats 4000000 in
theorem law_mid2 {led5 own : List (Addr × Obj)} {M : Str → Option Value} {bk rw r0 r1 b0 b1 l0 l1 q0 q1 c0 c1 dW dN wl fl W NW hl ch hA9 hB9 : Addr} {most : Int} {tm : Tok} {nb nr nn0 nn1 nl0 nl1 nW nN nH nC : Nat} {us0 us1 : List Value} {ns0 ns1 : List Int} {ob0 ob1 : Obj} {esW esN : List DictEntry} {ps : Array Value}
    (B : Below A₀ base outer h₀) (C : Hid (CodeHd base 312 308)) (F : Fr h₀ L s.heap (fun z => if z = (Str.ofString "world") then some (.ref W) else if z = (Str.ofString "books") then some (.ref bk) else M z)) (X : (headK w.params).In h₀) (T : Top p loose mean mg mb h₀) (N : News h₀ L s.heap led5)
    (hM1 : M (Str.ofString "rows") = some (.ref rw)) (hM2 : M (Str.ofString "most") = some (.int most tm))
    (mA : (L + 1 + 1, oa) ∈ led5) (hA : oa.data = .cell va) (mC : (L + 1, oc) ∈ led5) (hC : oc.data = .cell vc) (mrw : (rw, listOf #[.ref r0, .ref r1] nr) ∈ led5) (mr0 : (r0, listOf (List.toArray us0) nn0) ∈ led5) (mr1 : (r1, listOf (List.toArray us1) nn1) ∈ led5)
    (i0 : IntsAre us0 ns0) (i1 : IntsAre us1 ns1) (z0 : ns0.length ≤ 4) (z1 : ns1.length ≤ 4) (bd0 : ∀ x ∈ ns0, 0 ≤ x ∧ x < 256) (bd1 : ∀ x ∈ ns1, 0 ≤ x ∧ x < 256)
    (mbk : (bk, listOf #[.ref b0, .ref b1] nb) ∈ led5) (mc1 : (c1, listOf #[] 0) ∈ led5) (mq1 : (q1, listOf #[] 0) ∈ led5) (ml1 : (l1, listOf (List.toArray us1) nl1) ∈ led5) (mb1 : (b1, ob1) ∈ led5) (mc0 : (c0, listOf #[] 0) ∈ led5) (mq0 : (q0, listOf #[] 0) ∈ led5) (ml0 : (l0, listOf (List.toArray us0) nl0) ∈ led5) (mb0 : (b0, ob0) ∈ led5)
    (k0 : BookIs w ob0 l0 q0 c0) (k1 : BookIs w ob1 l1 q1 c1)
    (mdW : (dW, dictOf esW nW) ∈ led5) (mdN : (dN, dictOf esN nN) ∈ led5) (mwl : (wl, listOf #[] 0) ∈ led5) (mfl : (fl, listOf #[] 0) ∈ led5) (mWo : (W, instObj 143 dW) ∈ led5) (mNW : (NW, instObj 84 dN) ∈ led5) (mhl : (hl, listOf #[.ref hA9, .ref hB9] nH) ∈ led5) (mch : (ch, listOf #[] nC) ∈ led5) (m308 : (308, tabObj ps) ∈ led5)
    (gW : WorldEs esW hl NW 0 0) (gN : NetEs esN ch wl fl 0) (HA : HostAt own hA9 b0 (Str.ofString "client")) (HB : HostAt own hB9 b1 (Str.ofString "server")) (own5 : ∀ p ∈ own, p ∈ led5) (ownA3 : ∀ p ∈ own, p.1 ∉ [L + 1 + 1, L + 1, 308, rw, r0, r1, bk, c1, q1, l1, b1, c0, q0, l0, b0, dW, dN, wl, fl, W, NW, hl, ch]) (A3 : ([L + 1 + 1, L + 1, 308, rw, r0, r1, bk, c1, q1, l1, b1, c0, q0, l0, b0, dW, dN, wl, fl, W, NW, hl, ch]).Nodup) (H3 : HasAll led5 [L + 1 + 1, L + 1, 308, rw, r0, r1, bk, c1, q1, l1, b1, c0, q0, l0, b0, dW, dN, wl, fl, W, NW, hl, ch])
    (hm0 : -3 ≤ most) (hm1 : most ≤ 11) (hd : dp < 400) (hu : u < 5000)
    (K : ∀ h' tk m' ps rest, Fr h₀ L h' m' → News h₀ L h' rest → (308, tabObj ps) ∈ rest → Q (.ret (.bool true)) { s with heap := h', toks := tk }) :
    wpAny (model PySem.Challenge.rw_rg0253_01.row.prog w) (mkA (lawEnv L fa cd) outer dp g u) (execs [lStmt 5, lStmt 6, lStmt 7, lStmt 8] (lawEnv L fa cd)) Q (fun _ _ => False) s := by
  refine wpAny_execs_cons ?_
  refine @chunkN w s L fa cd outer dp u g A₀ h₀ base _ mg mb p loose mean (offs [L + 1] led5) oc vc _ B F X T ?n1 ?n2 hC ?n3 ?n4 ?n5
  case n1 => exact News.of_sub N (fcons mC offs_sub)
  case n2 => exact offs_ne (.head _)
  case n3 => omega
  case n4 => omega
  intro wk w0 w1 cm k0' k1' fl' oc' tc t1 h6 tk6 hc6 F6 N6 nd6 fr6
  show wpAny _ _ (execs [lStmt 6, lStmt 7, lStmt 8] _) _ _ _
  have H4 : HasAll ((L + 1, oc) :: offs [L + 1] led5) _ := H3.re (own := []) (L + 1) oc
  have A4' := nodup_layer A3 H4 nd6 fr6
  have A4 : ([L + 1 + 1, L + 1, 308, rw, r0, r1, bk, c1, q1, l1, b1, c0, q0, l0, b0, dW, dN, wl, fl, W, NW, hl, ch, wk, w1, w0, cm, k1', k0', fl']).Nodup := A4'
  have ndS := pickS A4
  have ndF := pickF A4
  have oF := outF A4
  have oS := outS A4
  have nL : ∀ y ∈ [L + 1 + 1, 308, rw, r0, r1, bk, c1, q1, l1, b1, c0, q0, l0, b0, dW, dN, wl, fl, W, NW, hl, ch], y ≠ L + 1 := Plc.nots A3 1 [0, 2, 3, 4, 5, 6, 7, 8, 9, 10, 11, 12, 13, 14, 15, 16, 17, 18, 19, 20, 21, 22] (by decide) rfl rfl
  have hF := LMap_self (M := fun y => if y = (Str.ofString "woken") then some (.ref wk) else if y = (Str.ofString "came") then some (.ref cm) else if y = (Str.ofString "flying") then some (.ref fl') else if y = (Str.ofString "many") then some (.int 0 t1) else if y = (Str.ofString "world") then some (.ref W) else if y = (Str.ofString "books") then some (.ref bk) else M y)
    (rw := rw) (wk := wk) (cm := cm) (W := W) (bk := bk) (most := most) (tmost := tm) rfl rfl rfl rfl hM1 rfl rfl hM2 rfl rfl
  rw [← hF] at F6
  clear hF A3 A4 H3 A4' H4
  refine @law_mid3 w _ L fa cd outer dp u g A₀ h₀ base mg mb p loose mean Q oa oc va led5 own _ bk rw r0 r1 b0 b1 l0 l1 q0 q1 c0 c1 dW dN wl fl W NW hl ch hA9 hB9 wk w0 w1 cm k0' k1' fl' most tm tc t1 nb nr nn0 nn1 nl0 nl1 nW nN nH nC us0 us1 ns0 ns1 ob0 ob1 oc' esW esN ps _ _
    B C F6 X T N6 ndS ndF oF oS nL hc6 mA hA mrw mr0 mr1 i0 i1 z0 z1 bd0 bd1 mbk mc1 mq1 ml1 mb1 mc0 mq0 ml0 mb0 k0 k1 mdW mdN mwl mfl mWo mNW mhl mch m308 gW gN HA HB own5 ownA3 fr6 hm0 hm1 hd hu K
end

end
section
section
variable {w : World} {s : Shared} {L fa : Addr} {cd : Value} {outer : List Env} {dp u : Nat} {g : Option (List Code)} {A₀ : Around} {h₀ base : Heap} {m₀ mg mb : Str → Option Value} {p : Program} {loose : List Str} {mean : ExcName → Option Value} {Q : Flow → Shared → Prop}
  {oa oc : Obj} {va vc : Option Value} {sc : Addr} {vs : List Value} {is : List Int} {tl0 : List (Addr × Obj)}
set_option maxHeartbeats 1000000 in
theorem law_mid {led : List (Addr × Obj)} {M : Str → Option Value} {bk rw r0 r1 b0 b1 l0 l1 q0 q1 c0 c1 : Addr} {most : Int} {tm : Tok} {nb nr nn0 nn1 nl0 nl1 : Nat} {us0 us1 : List Value} {ns0 ns1 : List Int} {ob0 ob1 : Obj}
    (B : Below A₀ base outer h₀) (C : Hid (CodeHd base 312 308)) (F : Fr h₀ L s.heap (fun z => if z = (Str.ofString "books") then some (.ref bk) else M z)) (X : (headK w.params).In h₀) (T : Top p loose mean mg mb h₀) (N : News h₀ L s.heap led)
    (hM1 : M (Str.ofString "rows") = some (.ref rw)) (hM2 : M (Str.ofString "most") = some (.int most tm))
    (mA : (L + 1 + 1, oa) ∈ led) (hA : oa.data = .cell va) (mC : (L + 1, oc) ∈ led) (hC : oc.data = .cell vc) (m308 : (308, tabObj #[]) ∈ led) (mrw : (rw, listOf #[.ref r0, .ref r1] nr) ∈ led) (mr0 : (r0, listOf (List.toArray us0) nn0) ∈ led) (mr1 : (r1, listOf (List.toArray us1) nn1) ∈ led)
    (i0 : IntsAre us0 ns0) (i1 : IntsAre us1 ns1) (z0 : ns0.length ≤ 4) (z1 : ns1.length ≤ 4) (bd0 : ∀ x ∈ ns0, 0 ≤ x ∧ x < 256) (bd1 : ∀ x ∈ ns1, 0 ≤ x ∧ x < 256)
    (mbk : (bk, listOf #[.ref b0, .ref b1] nb) ∈ led) (mc1 : (c1, listOf #[] 0) ∈ led) (mq1 : (q1, listOf #[] 0) ∈ led) (ml1 : (l1, listOf (List.toArray us1) nl1) ∈ led) (mb1 : (b1, ob1) ∈ led) (mc0 : (c0, listOf #[] 0) ∈ led) (mq0 : (q0, listOf #[] 0) ∈ led) (ml0 : (l0, listOf (List.toArray us0) nl0) ∈ led) (mb0 : (b0, ob0) ∈ led)
    (k0 : BookIs w ob0 l0 q0 c0) (k1 : BookIs w ob1 l1 q1 c1) (A2 : ([L + 1 + 1, L + 1, 308, rw, r0, r1] ++ [bk, c1, q1, l1, b1, c0, q0, l0, b0]).Nodup) (hm0 : -3 ≤ most) (hm1 : most ≤ 11) (hd : dp < 400) (hu : u < 5000)
    (K : ∀ h' tk m' ps rest, Fr h₀ L h' m' → News h₀ L h' rest → (308, tabObj ps) ∈ rest → Q (.ret (.bool true)) { s with heap := h', toks := tk }) :
    wpAny (model PySem.Challenge.rw_rg0253_01.row.prog w) (mkA (lawEnv L fa cd) outer dp g u) (execs [lStmt 4, lStmt 5, lStmt 6, lStmt 7, lStmt 8] (lawEnv L fa cd)) Q (fun _ _ => False) s := by
  have H2 : HasAll led ([L + 1 + 1, L + 1, 308, rw, r0, r1] ++ [bk, c1, q1, l1, b1, c0, q0, l0, b0]) := fcons (⟨_, mA⟩) (fcons (⟨_, mC⟩) (fcons (⟨_, m308⟩) (fcons (⟨_, mrw⟩) (fcons (⟨_, mr0⟩) (fcons (⟨_, mr1⟩) (fcons (⟨_, mbk⟩) (fcons (⟨_, mc1⟩) (fcons (⟨_, mq1⟩) (fcons (⟨_, ml1⟩) (fcons (⟨_, mb1⟩) (fcons (⟨_, mc0⟩) (fcons (⟨_, mq0⟩) (fcons (⟨_, ml0⟩) (fcons (⟨_, mb0⟩) (List.forall_mem_nil _)))))))))))))))
  have A2' : [L + 1 + 1, L + 1, 308, rw, r0, r1, bk, c1, q1, l1, b1, c0, q0, l0, b0].Nodup := A2
  have n8 := out308 A2'
  have n9 : ∀ y ∈ [L + 1 + 1, L + 1, rw, r0, r1, bk, c1, q1, l1, b1, c0, q0, l0, b0], y ≠ 308 := n8
  refine wpAny_execs_cons (chunkW (m₀ := M) (tl := offs [308] led) (nb := nb) B C F X T (News.of_sub N (fcons m308 offs_sub)) (offs_ne (.head _)) (keep_offs mbk fun h => n9 bk (mem_at 5 rfl) (List.mem_singleton.mp h)) (by omega) (by omega)
    fun hA9 hB9 own ps W dW esW nW hl nH NW dN esN nN ch nC wl fl h5 tk5 F5 N5 tri HA HB gW gN fr5 nd5 own5 => ?_)
  show wpAny _ _ (execs [lStmt 5, lStmt 6, lStmt 7, lStmt 8] _) _ _ _
  have A3 := nodup_layer A2 (H2.re (own := own) 308 (tabObj ps)) nd5 fr5
  have H3 : HasAll ((dW, dictOf esW nW) :: (dN, dictOf esN nN) :: (wl, listOf #[] 0) :: (fl, listOf #[] 0) :: (W, instObj 143 dW) :: (NW, instObj 84 dN) :: (hl, listOf #[.ref hA9, .ref hB9] nH) :: (ch, listOf #[] nC) :: (308, tabObj ps) :: (own ++ offs [308] led))
      (([L + 1 + 1, L + 1, 308, rw, r0, r1] ++ [bk, c1, q1, l1, b1, c0, q0, l0, b0]) ++ [dW, dN, wl, fl, W, NW, hl, ch]) := HasAll.app ((H2.re (own := own) 308 (tabObj ps)).mono fun p hp => .tail _ (.tail _ (.tail _ (.tail _ (.tail _ (.tail _ (.tail _ (.tail _ hp)))))))) (fcons (⟨_, mem_at 0 rfl⟩) (fcons (⟨_, mem_at 1 rfl⟩) (fcons (⟨_, mem_at 2 rfl⟩) (fcons (⟨_, mem_at 3 rfl⟩) (fcons (⟨_, mem_at 4 rfl⟩) (fcons (⟨_, mem_at 5 rfl⟩) (fcons (⟨_, mem_at 6 rfl⟩) (fcons (⟨_, mem_at 7 rfl⟩) (List.forall_mem_nil _)))))))))
  have up5 : ∀ {x : Addr} {o : Obj}, (x, o) ∈ led → x ≠ 308 → (x, o) ∈ (dW, dictOf esW nW) :: (dN, dictOf esN nN) :: (wl, listOf #[] 0) :: (fl, listOf #[] 0) :: (W, instObj 143 dW) :: (NW, instObj 84 dN) :: (hl, listOf #[.ref hA9, .ref hB9] nH) :: (ch, listOf #[] nC) :: (308, tabObj ps) :: (own ++ offs [308] led) := fun hm hn =>
    .tail _ (.tail _ (.tail _ (.tail _ (.tail _ (.tail _ (.tail _ (.tail _ (.tail _ (List.mem_append.mpr (.inr (keep_offs hm fun h => hn (List.mem_singleton.mp h))))))))))))
  have own5' : ∀ p ∈ own, p ∈ (dW, dictOf esW nW) :: (dN, dictOf esN nN) :: (wl, listOf #[] 0) :: (fl, listOf #[] 0) :: (W, instObj 143 dW) :: (NW, instObj 84 dN) :: (hl, listOf #[.ref hA9, .ref hB9] nH) :: (ch, listOf #[] nC) :: (308, tabObj ps) :: (own ++ offs [308] led) := fun p hp =>
    .tail _ (.tail _ (.tail _ (.tail _ (.tail _ (.tail _ (.tail _ (.tail _ (.tail _ (List.mem_append.mpr (.inl hp))))))))))
  -- the hosts' own objects lie off all the others
  have ownA3 : ∀ p ∈ own, p.1 ∉ ([L + 1 + 1, L + 1, 308, rw, r0, r1] ++ [bk, c1, q1, l1, b1, c0, q0, l0, b0]) ++ [dW, dN, wl, fl, W, NW, hl, ch] := fun p hp hm => by
    rcases List.mem_append.mp hm with h | h
    · by_cases e : p.1 = 308
      · exact own5 p hp _ (.head _) e.symm
      · obtain ⟨o, ho⟩ := H2 _ h
        exact own5 p hp _ (.tail _ (keep_offs ho fun z => e (List.mem_singleton.mp z))) rfl
    · exact fr5 _ h p (.tail _ (List.mem_append.mpr (.inl hp))) rfl
  have A3' : [L + 1 + 1, L + 1, 308, rw, r0, r1, bk, c1, q1, l1, b1, c0, q0, l0, b0, dW, dN, wl, fl, W, NW, hl, ch].Nodup := A3
  have H3' : HasAll _ [L + 1 + 1, L + 1, 308, rw, r0, r1, bk, c1, q1, l1, b1, c0, q0, l0, b0, dW, dN, wl, fl, W, NW, hl, ch] := H3
  have own3' : ∀ p ∈ own, p.1 ∉ [L + 1 + 1, L + 1, 308, rw, r0, r1, bk, c1, q1, l1, b1, c0, q0, l0, b0, dW, dN, wl, fl, W, NW, hl, ch] := ownA3
  clear A3 H3 ownA3 H2 A2 A2' n8
  have u0 := up5 mA (n9 _ (mem_at 0 rfl))
  have u1 := up5 mC (n9 _ (mem_at 1 rfl))
  have u2 := up5 mrw (n9 _ (mem_at 2 rfl))
  have u3 := up5 mr0 (n9 _ (mem_at 3 rfl))
  have u4 := up5 mr1 (n9 _ (mem_at 4 rfl))
  have u5 := up5 mbk (n9 _ (mem_at 5 rfl))
  have u6 := up5 mc1 (n9 _ (mem_at 6 rfl))
  have u7 := up5 mq1 (n9 _ (mem_at 7 rfl))
  have u8 := up5 ml1 (n9 _ (mem_at 8 rfl))
  have u9 := up5 mb1 (n9 _ (mem_at 9 rfl))
  have u10 := up5 mc0 (n9 _ (mem_at 10 rfl))
  have u11 := up5 mq0 (n9 _ (mem_at 11 rfl))
  have u12 := up5 ml0 (n9 _ (mem_at 12 rfl))
  have u13 := up5 mb0 (n9 _ (mem_at 13 rfl))
  refine @law_mid2 w _ L fa cd outer dp u g A₀ h₀ base mg mb p loose mean Q oa oc va vc _ own M bk rw r0 r1 b0 b1 l0 l1 q0 q1 c0 c1 dW dN wl fl W NW hl ch hA9 hB9 most tm nb nr nn0 nn1 nl0 nl1 nW nN nH nC us0 us1 ns0 ns1 ob0 ob1 esW esN ps
    B C F5 X T N5 hM1 hM2 u0 hA u1 hC u2 u3 u4 i0 i1 z0 z1 bd0 bd1 u5 u6 u7 u8 u9 u10 u11 u12 u13 k0 k1
    (.head _) (.tail _ (.head _)) (.tail _ (.tail _ (.head _))) (.tail _ (.tail _ (.tail _ (.head _)))) (.tail _ (.tail _ (.tail _ (.tail _ (.head _))))) (.tail _ (.tail _ (.tail _ (.tail _ (.tail _ (.head _)))))) (.tail _ (.tail _ (.tail _ (.tail _ (.tail _ (.tail _ (.head _))))))) (.tail _ (.tail _ (.tail _ (.tail _ (.tail _ (.tail _ (.tail _ (.head _)))))))) (.tail _ (.tail _ (.tail _ (.tail _ (.tail _ (.tail _ (.tail _ (.tail _ (.head _))))))))) gW gN HA HB own5' own3' A3' H3' hm0 hm1 hd hu K
end

end
section
section
variable {w : World} {s : Shared} {L fa : Addr} {cd : Value} {outer : List Env} {dp u : Nat} {g : Option (List Code)} {A₀ : Around} {h₀ base : Heap} {m₀ mg mb : Str → Option Value} {p : Program} {loose : List Str} {mean : ExcName → Option Value} {Q : Flow → Shared → Prop}
  {oa oc : Obj} {va vc : Option Value} {sc : Addr} {vs : List Value} {is : List Int} {tl0 : List (Addr × Obj)}
set_option maxHeartbeats 4000000 in
theorem law_top (B : Below A₀ base outer h₀) (C : Hid (CodeHd base 312 308)) (F : Fr h₀ L s.heap (fun y => if y = (Str.ofString "script") then some (.ref sc) else m₀ y)) (X : (headK w.params).In h₀) (T : Top p loose mean mg mb h₀)
    (N : News h₀ L s.heap tl0) (mA0 : (L + 1 + 1, oa) ∈ tl0) (mC0 : (L + 1, oc) ∈ tl0) (m308 : (308, tabObj #[]) ∈ tl0) (hA : oa.data = .cell va) (hC : oc.data = .cell vc) (h308 : @LT.lt Nat _ 308 L) (hl : h₀.IsList sc vs.toArray) (hI : IntsAre vs is) (hlen : is.length ≤ 63) (hd : dp < 400) (hu : u < 5000)
    (K : ∀ h' tk m' ps rest, Fr h₀ L h' m' → News h₀ L h' rest → (308, tabObj ps) ∈ rest → Q (.ret (.bool true)) { s with heap := h', toks := tk }) :
    wpAny (model PySem.Challenge.rw_rg0253_01.row.prog w) (mkA (lawEnv L fa cd) outer dp g u) (execs lawBody (lawEnv L fa cd)) Q (fun _ _ => False) s := by
  rw [lawBody_is]
  refine wpAny_execs_cons (chunk0 B F X T N hl hI hlen (by omega) (by omega) fun bx rw li ws c t h1 tk1 F1 N1 iw nd1 fr1 => ?_)
  show wpAny _ _ (execs [lStmt 1, lStmt 2, lStmt 3, lStmt 4, lStmt 5, lStmt 6, lStmt 7, lStmt 8] _) _ _ _
  have n_rb : rw ≠ bx := Plc.ne nd1 0 1 (by decide) rfl
  have n_rl : rw ≠ li := Plc.ne nd1 0 2 (by decide) rfl
  have n_bl : bx ≠ li := Plc.ne nd1 1 2 (by decide) rfl
  have f_bx := fr1 bx (mem_at 1 rfl)
  have f_rw := fr1 rw (mem_at 0 rfl)
  refine wpAny_execs_cons (chunk1 (c := c) (t := t) (tl := (rw, listOf #[] 0) :: tl0) B F1 X T (News.of_sub N1 (fcons (.tail _ (.head _)) (fcons (.tail _ (.tail _ (.head _))) (fcons (.head _) fun p hp => .tail _ (.tail _ (.tail _ hp)))))) (List.forall_mem_cons.mpr ⟨n_rb, f_bx⟩) (Ne.symm n_bl) iw (by rw [List.length_take]; omega) (by omega) (by omega) fun most tm t' h2 tk2 hm0 hm1 F2 N2 => ?_)
  show wpAny _ _ (execs [lStmt 2, lStmt 3, lStmt 4, lStmt 5, lStmt 6, lStmt 7, lStmt 8] _) _ _ _
  refine wpAny_execs_cons (chunkO (m₀ := fun y => if y = (Str.ofString "most") then some (.int most tm) else if y = (Str.ofString "box") then some (.ref bx) else if y = (Str.ofString "rows") then some (.ref rw) else if y = (Str.ofString "script") then some (.ref sc) else m₀ y)
    (bx := bx) (rw := rw) (li := li) (most := most) (tmost := tm) (vs := ws) (is := is.take 16) (c := c) (j := 1) (tl := tl0)
    (news := (bx, listOf #[.ref li, .int 1 t'] 0) :: (li, listOf (List.toArray ws) c) :: (rw, listOf (List.toArray (([] : List Addr).map Value.ref)) 0) :: tl0) B F2 X T N2
    ⟨1, t', 0, _, _, _, _, [], [], _, (PMap_self rfl rfl rfl).symm, rfl, fun _ h => h, by omega, by simp, rfl, List.nodup_nil, trivial, f_bx, f_rw⟩ (Ne.symm n_bl) n_rb (Ne.symm n_rl) iw (by rw [List.length_take]; omega) (by omega) (by omega) (by omega) fun m3 news3 h3 tk3 F3 N3 j3 => ?_)
  show wpAny _ _ (execs [lStmt 3, lStmt 4, lStmt 5, lStmt 6, lStmt 7, lStmt 8] _) _ _ _
  obtain ⟨j', tj, nr, tu, ti, nw, sp, rs, nss, tl3, e1, e2, sub3, hj0, hj1, hlen3, hnd3, hok3, p1, p2⟩ := j3
  subst e1 e2
  obtain ⟨r0, r1, rfl⟩ := two_of hlen3
  obtain ⟨ns0, ns1, rfl⟩ := two_of' (hok3.len.symm.trans hlen3)
  obtain ⟨⟨fr_r0, us0, nn0, m_r0, i0, l0', bd0⟩, ⟨fr_r1, us1, nn1, m_r1, i1, l1', bd1⟩, _⟩ := hok3
  have n_r01 : r0 ≠ r1 := by simpa using hnd3
  refine wpAny_execs_cons (chunkBk (r0 := r0) (r1 := r1) (nr := nr) (n0 := nn0) (n1 := nn1) (tl := (bx, listOf #[.ref li, .int j' tj] 0) :: (li, listOf (List.toArray ws) c) :: tl3) B F3 X T (News.of_sub N3 (fcons (.tail _ (.tail _ (.head _))) (fcons (.tail _ (.tail _ (.tail _ m_r0))) (fcons (.tail _ (.tail _ (.tail _ m_r1))) (fcons (.head _) (fcons (.tail _ (.head _)) fun p hp => .tail _ (.tail _ (.tail _ hp)))))))) i0 i1 l0' l1' (by omega) (by omega) fun bk b0 b1 l0 l1 q0 q1 c0 c1 ob0 ob1 nl0 nl1 h4 tk4 F4 N4 k0 k1 nd4 off4 => ?_)
  show wpAny _ _ (execs [lStmt 4, lStmt 5, lStmt 6, lStmt 7, lStmt 8] _) _ _ _
  -- the addresses that stand so far
  have e1a : @Ne Nat (L + 1 + 1) (L + 1) := by omega
  have A1 : [L + 1 + 1, L + 1, 308, rw, r0, r1].Nodup := by
    have a1 := f_rw _ mA0; have a2 := f_rw _ mC0; have a3 := f_rw _ m308
    have b1 := fr_r0 _ mA0; have b2 := fr_r0 _ mC0; have b3 := fr_r0 _ m308
    have d1 := fr_r1 _ mA0; have d2 := fr_r1 _ mC0; have d3 := fr_r1 _ m308
    have g1 := p2 _ m_r0; have g2 := p2 _ m_r1
    have z1 : @Ne Nat (L + 1 + 1) 308 := by omega
    have z2 : @Ne Nat (L + 1) 308 := by omega
    exact List.nodup_cons.mpr ⟨notMem_cons (e1a) (notMem_cons (z1) (notMem_cons (a1) (notMem_cons (b1) (notMem_cons (d1) (notMem_nil))))), List.nodup_cons.mpr ⟨notMem_cons (z2) (notMem_cons (a2) (notMem_cons (b2) (notMem_cons (d2) (notMem_nil)))), List.nodup_cons.mpr ⟨notMem_cons (a3) (notMem_cons (b3) (notMem_cons (d3) (notMem_nil))), List.nodup_cons.mpr ⟨notMem_cons (Ne.symm g1) (notMem_cons (Ne.symm g2) (notMem_nil)), List.nodup_cons.mpr ⟨notMem_cons (n_r01) (notMem_nil), List.nodup_cons.mpr ⟨notMem_nil, List.nodup_nil⟩⟩⟩⟩⟩⟩
  have H1 : HasAll ((rw, listOf #[.ref r0, .ref r1] nr) :: (r0, listOf (List.toArray us0) nn0) :: (r1, listOf (List.toArray us1) nn1) :: (bx, listOf #[.ref li, .int j' tj] 0) :: (li, listOf (List.toArray ws) c) :: tl3) [L + 1 + 1, L + 1, 308, rw, r0, r1] := fcons (⟨_, .tail _ (.tail _ (.tail _ (.tail _ (.tail _ (sub3 _ mA0)))))⟩) (fcons (⟨_, .tail _ (.tail _ (.tail _ (.tail _ (.tail _ (sub3 _ mC0)))))⟩) (fcons (⟨_, .tail _ (.tail _ (.tail _ (.tail _ (.tail _ (sub3 _ m308)))))⟩) (fcons (⟨_, .head _⟩) (fcons (⟨_, .tail _ (.head _)⟩) (fcons (⟨_, .tail _ (.tail _ (.head _))⟩) (List.forall_mem_nil _))))))
  have A2 := nodup_layer A1 H1 nd4 off4
  have up : ∀ {q : Addr × Obj}, q ∈ tl0 → q ∈ (bk, listOf #[.ref b0, .ref b1] 2) :: (c1, listOf #[] 0) :: (q1, listOf #[] 0) :: (l1, listOf (List.toArray us1) nl1) :: (b1, ob1) :: (c0, listOf #[] 0) :: (q0, listOf #[] 0) :: (l0, listOf (List.toArray us0) nl0) :: (b0, ob0) :: (rw, listOf #[.ref r0, .ref r1] nr) :: (r0, listOf (List.toArray us0) nn0) :: (r1, listOf (List.toArray us1) nn1) :: (bx, listOf #[.ref li, .int j' tj] 0) :: (li, listOf (List.toArray ws) c) :: tl3 := fun h => .tail _ (.tail _ (.tail _ (.tail _ (.tail _ (.tail _ (.tail _ (.tail _ (.tail _ (.tail _ (.tail _ (.tail _ (.tail _ (.tail _ (sub3 _ h))))))))))))))
  exact law_mid (M := PMap _ bx rw most tm tu ti nw sp) B C F4 X T N4 rfl rfl (up mA0) hA (up mC0) hC (up m308) (.tail _ (.tail _ (.tail _ (.tail _ (.tail _ (.tail _ (.tail _ (.tail _ (.tail _ (.head _)))))))))) (.tail _ (.tail _ (.tail _ (.tail _ (.tail _ (.tail _ (.tail _ (.tail _ (.tail _ (.tail _ (.head _)))))))))))
    (.tail _ (.tail _ (.tail _ (.tail _ (.tail _ (.tail _ (.tail _ (.tail _ (.tail _ (.tail _ (.tail _ (.head _)))))))))))) i0 i1 l0' l1' bd0 bd1 (.head _) (.tail _ (.head _)) (.tail _ (.tail _ (.head _))) (.tail _ (.tail _ (.tail _ (.head _)))) (.tail _ (.tail _ (.tail _ (.tail _ (.head _))))) (.tail _ (.tail _ (.tail _ (.tail _ (.tail _ (.head _)))))) (.tail _ (.tail _ (.tail _ (.tail _ (.tail _ (.tail _ (.head _)))))))
    (.tail _ (.tail _ (.tail _ (.tail _ (.tail _ (.tail _ (.tail _ (.head _)))))))) (.tail _ (.tail _ (.tail _ (.tail _ (.tail _ (.tail _ (.tail _ (.tail _ (.head _))))))))) k0 k1 A2 (by omega) (by omega) hd hu K
end

end
section
theorem off55 : True := by
  w_top off
  trivial
section
theorem body_frame {M : Str → Option Value} {v : Option Value} (h : M (Str.ofString "script") = v) : (fun y => if y = (Str.ofString "script") then v else M y) = M := funext fun y => by
  split
  · rename_i e; rw [e, h]
  · rfl
theorem fr_script {h₀ h : Heap} {L sc : Addr} {M : Str → Option Value} (F : Fr h₀ L h M) (e : M (Str.ofString "script") = some (.ref sc)) : Fr h₀ L h (fun y => if y = (Str.ofString "script") then some (.ref sc) else M y) := by
  rw [body_frame e]
  exact F
set_option maxHeartbeats 8000000 in
theorem main1 : PySem.Challenge.rw_rg0253_01.Holds := by
  w_top off
  refine holds_law said fun said => ?_
  refine holds_open (q := headView) (loose := headLoose) (Xt := headXt) (XP := XL headView []) (Yf := Hook.obs (kmHook headK headAs head_as [308])) (Ya := Hook.val (kmHook headK headAs head_as [308])) (YP := Hook.says (kmHook headK headAs head_as [308])) (N := 3986) head_left (Hook.of (kmHook headK headAs head_as [308])) (Hook.keeps (kmHook headK headAs head_as [308])) (fun s e => xl_of s (Bool.and_eq_true_iff.mp e).1) XL.keeps (by rfl) (by rfl) (by rfl) (fun s e => recFacts_of (Bool.and_eq_true_iff.mp e).2) (by rfl) (by first | assumption | decide +kernel) (by decide +kernel) ⟨rfl, rfl, rfl, rfl, rfl, by decide +kernel⟩ ?hw ?hc
  case hw => w_on; w_witness2
  case hc => w_top off; w_strict (k_go0; (all_goals try k_fold); (all_goals (refine wpAny_noRaise ?_)); (all_goals (
    refine' law_top ?B ?C ?F ?X ?T ?N (.head _) (.tail _ (.head _)) (.tail _ (.tail _ (.head _))) ?hA ?hC ?h308 ?hl ?hI ?hlen ?hd ?hu ?K
    case N => k_asm
    case B => k_asm
    case C => exact (by assumption : CodeHd _ _ _)
    case F => exact fr_script (by k_asm) (by with_unfolding_all rfl)
    case X => k_asm
    case T => k_asm
    case hA => assumption
    case hC => assumption
    case h308 => first | assumption | omega | (rename (∀ p, p ∈ [(308, tabObj #[])] → p.1 < _) => q9; exact q9 _ (.head _)) | (rename (308 < _) => q9; exact q9)
    case hl => assumption
    case hI => assumption
    case hlen => omega
    case hd => decide
    case hu => decide
    case K => (intro h9 tk9 m9 ps9 rest9 F9 N9 hm9; refine ⟨?_, ⟨GrownAt.of N9 hm9, trivial⟩⟩; first | wrow_close | (k_end; wrow_close) | (w_end; wrow_close)))))
end

end
end Mine
theorem PySem.Challenge.cw_rg0253_01_holds : PySem.Challenge.rw_rg0253_01.Holds :=
  Mine.main1
