import PyProof.Rows.All
import Wide.All
import OpenK.AllK
import Wide.FinOn
import KE.KLam
import PySem.Challenge.RW_nu0384_01
open PySem PySem.W PyProof.Rows
set_option Elab.async false
set_option maxRecDepth 100000
set_option maxHeartbeats 8000000
set_option genSizeOf false
set_option genSizeOfSpec false
set_option genInjectivity false
namespace Mine
noncomputable abbrev pw : Program := PySem.Challenge.rw_nu0384_01.row.toRowW.1
noncomputable abbrev bE : List Stmt := behindTheImports pw
noncomputable def envM : Env := { scope := pw.main.scope, locals := mainNs, globals := mainNs, cells := [], code := .ref 13, frame := some 14 }
noncomputable abbrev cE : Code := .body bE envM
noncomputable abbrev p0 : Pos := ⟨0, 0, 0, 0⟩
noncomputable abbrev BF : List Frame := [topFrame p0]
noncomputable abbrev an6 : Option Value := some (.ref 6)
noncomputable def S0 (w : World) (os : OsState) : Shared := { heap := boot_heap w.params, gens := #[], drawn := boot_drawn, toks := boot_toks, os := os }
noncomputable abbrev qTab := PySem.W.Fast.tw14364793385576792824
noncomputable abbrev qGo := PySem.W.Fast.tw15667345088766844465
noncomputable abbrev qSeg := PySem.W.Fast.tw14374325043358763698
noncomputable abbrev qSegT := PySem.W.Fast.tw10110043849684766642
noncomputable abbrev qRun := PySem.W.Fast.tw14082659384304107361
noncomputable def Sa (w : World) (os : OsState) : Shared := ((qGo qTab pw w 11 an6 12 (S0 w os) (topStub pw)).map (·.1)).getD (S0 w os)
noncomputable def topS (i : Nat) : Stmt := (pw.main.body[i]?).getD (.Pass p0)
noncomputable def metS (i j : Nat) : Stmt := match topS i with | .ClassDef _ _ _ b _ _ _ _ _ _ _ => (b[j]?).getD (.Pass p0) | s => s
noncomputable def fo (s : Stmt) (q : Str) (dv kv pm cd : Value) : Obj := match s with
  | .FunctionDef n a b _ _ _ sc _ _ _ => { cls := .type "function", data := .func { name := n, qualname := q, params := a, body := .stmts b, scope := sc, globals := 3, closure := [], defaults := dv, kwdefaults := kv, pyModule := pm, code := cd } }
  | _ => default
noncomputable def en (P : Params) (k : Str) (t : Tok) (v : Value) : DictEntry := { hash := PyData.keyHash P k, key := .str k t, val := v }
noncomputable def s36 : { s : Stmt // s = metS 2 0 } := ⟨_, by
  conv => rhs; whnf; zeta⟩
noncomputable def s43 : { s : Stmt // s = metS 2 1 } := ⟨_, by
  conv => rhs; whnf; zeta⟩
noncomputable def s57 : { s : Stmt // s = metS 2 3 } := ⟨_, by
  conv => rhs; whnf; zeta⟩
noncomputable def s64 : { s : Stmt // s = metS 2 4 } := ⟨_, by
  conv => rhs; whnf; zeta⟩
noncomputable def s71 : { s : Stmt // s = metS 2 5 } := ⟨_, by
  conv => rhs; whnf; zeta⟩
noncomputable def s79 : { s : Stmt // s = metS 2 6 } := ⟨_, by
  conv => rhs; whnf; zeta⟩
noncomputable def s91 : { s : Stmt // s = topS 3 } := ⟨_, by
  conv => rhs; whnf; zeta⟩
noncomputable def s96 : { s : Stmt // s = topS 4 } := ⟨_, by
  conv => rhs; whnf; zeta⟩
noncomputable def s103 : { s : Stmt // s = topS 5 } := ⟨_, by
  conv => rhs; whnf; zeta⟩
noncomputable def s110 : { s : Stmt // s = topS 6 } := ⟨_, by
  conv => rhs; whnf; zeta⟩
noncomputable def s117 : { s : Stmt // s = topS 9 } := ⟨_, by
  conv => rhs; whnf; zeta⟩
noncomputable def s179 : { s : Stmt // s = topS 19 } := ⟨_, by
  conv => rhs; whnf; zeta⟩
noncomputable def s191 : { s : Stmt // s = metS 21 0 } := ⟨_, by
  conv => rhs; whnf; zeta⟩
noncomputable def s198 : { s : Stmt // s = metS 21 1 } := ⟨_, by
  conv => rhs; whnf; zeta⟩
noncomputable def s206 : { s : Stmt // s = metS 21 2 } := ⟨_, by
  conv => rhs; whnf; zeta⟩
noncomputable def s213 : { s : Stmt // s = metS 21 3 } := ⟨_, by
  conv => rhs; whnf; zeta⟩
noncomputable def s220 : { s : Stmt // s = metS 21 4 } := ⟨_, by
  conv => rhs; whnf; zeta⟩
noncomputable def s227 : { s : Stmt // s = metS 21 5 } := ⟨_, by
  conv => rhs; whnf; zeta⟩
noncomputable def s234 : { s : Stmt // s = metS 21 6 } := ⟨_, by
  conv => rhs; whnf; zeta⟩
noncomputable def s241 : { s : Stmt // s = metS 21 7 } := ⟨_, by
  conv => rhs; whnf; zeta⟩
noncomputable def s248 : { s : Stmt // s = metS 21 8 } := ⟨_, by
  conv => rhs; whnf; zeta⟩
noncomputable def s255 : { s : Stmt // s = metS 21 9 } := ⟨_, by
  conv => rhs; whnf; zeta⟩
noncomputable def s262 : { s : Stmt // s = metS 21 10 } := ⟨_, by
  conv => rhs; whnf; zeta⟩
noncomputable def s269 : { s : Stmt // s = metS 21 11 } := ⟨_, by
  conv => rhs; whnf; zeta⟩
noncomputable def s276 : { s : Stmt // s = metS 21 12 } := ⟨_, by
  conv => rhs; whnf; zeta⟩
noncomputable def s283 : { s : Stmt // s = metS 21 13 } := ⟨_, by
  conv => rhs; whnf; zeta⟩
noncomputable def s290 : { s : Stmt // s = metS 21 14 } := ⟨_, by
  conv => rhs; whnf; zeta⟩
noncomputable def s297 : { s : Stmt // s = metS 21 15 } := ⟨_, by
  conv => rhs; whnf; zeta⟩
noncomputable def s304 : { s : Stmt // s = metS 21 16 } := ⟨_, by
  conv => rhs; whnf; zeta⟩
noncomputable def s325 : { s : Stmt // s = metS 23 0 } := ⟨_, by
  conv => rhs; whnf; zeta⟩
noncomputable def s347 : { s : Stmt // s = metS 25 0 } := ⟨_, by
  conv => rhs; whnf; zeta⟩
noncomputable def s369 : { s : Stmt // s = topS 28 } := ⟨_, by
  conv => rhs; whnf; zeta⟩
noncomputable def s376 : { s : Stmt // s = topS 29 } := ⟨_, by
  conv => rhs; whnf; zeta⟩
noncomputable def s390 : { s : Stmt // s = topS 31 } := ⟨_, by
  conv => rhs; whnf; zeta⟩
noncomputable def s395 : { s : Stmt // s = topS 32 } := ⟨_, by
  conv => rhs; whnf; zeta⟩
noncomputable def s402 : { s : Stmt // s = topS 33 } := ⟨_, by
  conv => rhs; whnf; zeta⟩
noncomputable def s409 : { s : Stmt // s = topS 34 } := ⟨_, by
  conv => rhs; whnf; zeta⟩
noncomputable def s416 : { s : Stmt // s = topS 35 } := ⟨_, by
  conv => rhs; whnf; zeta⟩
noncomputable def s423 : { s : Stmt // s = topS 36 } := ⟨_, by
  conv => rhs; whnf; zeta⟩
noncomputable def s428 : { s : Stmt // s = topS 37 } := ⟨_, by
  conv => rhs; whnf; zeta⟩
noncomputable def KF0 (P : Params) : Frag := [
  (2, { cls := .none, data := .dict #[] }),
  (3, { cls := .type "dict", data := .dict #[en P "__name__" 165 (.str "law_nu0384_01" 664), en P "__doc__" 166 (.none), en P "__package__" 167 (.none), en P "__loader__" 168 (.builtin "__main__.__loader__#opaque"), en P "__spec__" 169 (.none), en P "__annotations__" 170 (.ref 6), en P "__builtins__" 171 (.ref 4), en P "__file__" 173 (.str "/claim/cut.py" 172), en P "__cached__" 174 (.none), en P "_wall" 193 (.ref 21), en P "Body" 281 (.ref 82), en P "successors" 287 (.ref 91), en P "retargeted" 293 (.ref 96), en P "reachable" 303 (.ref 103), en P "with_blocks" 318 (.ref 110), en P "DROP" 322 (.str "Drop" 321), en P "parts_of" 330 (.ref 117), en P "rebuilt" 339 (.ref 124), en P "substituted" 345 (.ref 129), en P "with_regions" 351 (.ref 134), en P "no_region" 358 (.ref 141), en P "erased" 365 (.ref 148), en P "matched" 378 (.ref 155), en P "field_rows" 387 (.ref 162), en P "fields_of" 393 (.ref 167), en P "has_drop" 402 (.ref 174), en P "needs_drop" 408 (.ref 179), en P "Scopes" 575 (.ref 307), en P "TypedFn" 614 (.ref 328), en P "World" 663 (.ref 357), en P "_law_int" 668 (.ref 362), en P "_law_pool" 677 (.ref 369), en P "_law_take" 686 (.ref 376), en P "_law_one" 694 (.ref 383), en P "_law_type" 704 (.ref 390), en P "_law_has_box" 710 (.ref 395), en P "_law_ended" 722 (.ref 402), en P "_law_declared" 736 (.ref 409), en P "_law_deed_right" 753 (.ref 416), en P "_law_way" 768 (.ref 423), en P "law" 774 (.ref 428)] 41 }),
  (15, { cls := .type "tuple", data := .seq #[] }),
  (17, { cls := .type "tuple", data := .seq #[.str "k" 190] }),
  (18, { cls := .type "tuple", data := .seq #[] }),
  (20, { cls := .type "code", data := .fields #[.str "_wall" 187, .str "_wall" 188, .str "/claim/cut.py" 189, .int 1 0, .int 1 0, .int 0 0, .int 0 0, .int 3 0, .ref 15, .bool true, .int 181 0, .ref 16, .none, .ref 17, .ref 18, .ref 19, .int 191 0, .int 1 0, .str "/claim/cut.py" 192] }),
  (21, fo (topS 0) "_wall" (.none) (.none) (.str "__main__" 164) (.ref 20)),
  (29, { cls := .type "tuple", data := .seq #[.none, .none] }),
  (30, { cls := .type "tuple", data := .seq #[] }),
  (32, { cls := .type "tuple", data := .seq #[.str "self" 211, .str "name" 212, .str "arg_count" 213, .str "locals_told" 214, .str "blocks" 215, .str "spots" 216] }),
  (33, { cls := .type "tuple", data := .seq #[] }),
  (35, { cls := .type "code", data := .fields #[.str "__init__" 208, .str "Body.__init__" 209, .str "/claim/cut.py" 210, .int 7 0, .int 6 0, .int 0 0, .int 0 0, .int 3 0, .ref 30, .bool true, .int 181 0, .ref 31, .none, .ref 32, .ref 33, .ref 34, .int 217 0, .int 7 0, .str "/claim/cut.py" 218] }),
  (36, fo s36.1 "Body.__init__" (.ref 29) (.none) (.str "lendcore.mir" 194) (.ref 35)),
  (37, { cls := .type "tuple", data := .seq #[] }),
  (39, { cls := .type "tuple", data := .seq #[.str "self" 223, .str "local" 224] }),
  (40, { cls := .type "tuple", data := .seq #[] }),
  (42, { cls := .type "code", data := .fields #[.str "type_of" 220, .str "Body.type_of" 221, .str "/claim/cut.py" 222, .int 14 0, .int 2 0, .int 0 0, .int 0 0, .int 3 0, .ref 37, .bool true, .int 181 0, .ref 38, .none, .ref 39, .ref 40, .ref 41, .int 225 0, .int 14 0, .str "/claim/cut.py" 226] }),
  (43, fo s43.1 "Body.type_of" (.none) (.none) (.str "lendcore.mir" 194) (.ref 42)),
  (44, { cls := .type "tuple", data := .seq #[] }),
  (46, { cls := .type "tuple", data := .seq #[.str "self" 231] }),
  (47, { cls := .type "tuple", data := .seq #[] }),
  (49, { cls := .type "code", data := .fields #[.str "args" 228, .str "Body.args" 229, .str "/claim/cut.py" 230, .int 17 0, .int 1 0, .int 0 0, .int 0 0, .int 3 0, .ref 44, .bool true, .int 181 0, .ref 45, .none, .ref 46, .ref 47, .ref 48, .int 232 0, .int 17 0, .str "/claim/cut.py" 233] }),
  (50, fo (metS 2 2) "Body.args" (.none) (.none) (.str "lendcore.mir" 194) (.ref 49)),
  (51, { cls := .type "tuple", data := .seq #[] }),
  (53, { cls := .type "tuple", data := .seq #[.str "self" 238, .str "block" 239] }),
  (54, { cls := .type "tuple", data := .seq #[] }),
  (56, { cls := .type "code", data := .fields #[.str "statements" 235, .str "Body.statements" 236, .str "/claim/cut.py" 237, .int 20 0, .int 2 0, .int 0 0, .int 0 0, .int 3 0, .ref 51, .bool true, .int 181 0, .ref 52, .none, .ref 53, .ref 54, .ref 55, .int 240 0, .int 20 0, .str "/claim/cut.py" 241] }),
  (57, fo s57.1 "Body.statements" (.none) (.none) (.str "lendcore.mir" 194) (.ref 56)),
  (58, { cls := .type "tuple", data := .seq #[] }),
  (60, { cls := .type "tuple", data := .seq #[.str "self" 246, .str "block" 247] }),
  (61, { cls := .type "tuple", data := .seq #[] }),
  (63, { cls := .type "code", data := .fields #[.str "terminator" 243, .str "Body.terminator" 244, .str "/claim/cut.py" 245, .int 23 0, .int 2 0, .int 0 0, .int 0 0, .int 3 0, .ref 58, .bool true, .int 181 0, .ref 59, .none, .ref 60, .ref 61, .ref 62, .int 248 0, .int 23 0, .str "/claim/cut.py" 249] }),
  (64, fo s64.1 "Body.terminator" (.none) (.none) (.str "lendcore.mir" 194) (.ref 63)),
  (65, { cls := .type "tuple", data := .seq #[] }),
  (67, { cls := .type "tuple", data := .seq #[.str "self" 254, .str "point" 255] }),
  (68, { cls := .type "tuple", data := .seq #[] }),
  (70, { cls := .type "code", data := .fields #[.str "spot" 251, .str "Body.spot" 252, .str "/claim/cut.py" 253, .int 26 0, .int 2 0, .int 0 0, .int 0 0, .int 3 0, .ref 65, .bool true, .int 181 0, .ref 66, .none, .ref 67, .ref 68, .ref 69, .int 256 0, .int 26 0, .str "/claim/cut.py" 257] }),
  (71, fo s71.1 "Body.spot" (.none) (.none) (.str "lendcore.mir" 194) (.ref 70)),
  (72, { cls := .type "tuple", data := .seq #[.bool true, .none] }),
  (73, { cls := .type "tuple", data := .seq #[] })]
noncomputable def KF1 (P : Params) : Frag := [
  (75, { cls := .type "tuple", data := .seq #[.str "self" 262, .str "told" 263, .str "is_mut" 264, .str "name" 265] }),
  (76, { cls := .type "tuple", data := .seq #[] }),
  (78, { cls := .type "code", data := .fields #[.str "new_local" 259, .str "Body.new_local" 260, .str "/claim/cut.py" 261, .int 29 0, .int 4 0, .int 0 0, .int 0 0, .int 3 0, .ref 73, .bool true, .int 181 0, .ref 74, .none, .ref 75, .ref 76, .ref 77, .int 266 0, .int 29 0, .str "/claim/cut.py" 267] }),
  (79, fo s79.1 "Body.new_local" (.ref 72) (.none) (.str "lendcore.mir" 194) (.ref 78)),
  (80, { cls := .type "tuple", data := .seq #[.str "arg_count" 269, .str "blocks" 270, .str "locals" 271, .str "name" 272, .str "spots" 273] }),
  (81, { cls := .type "dict", data := .dict #[en P "__module__" 203 (.str "lendcore.mir" 194), en P "__firstlineno__" 207 (.int 5 206), en P "__init__" 219 (.ref 36), en P "type_of" 227 (.ref 43), en P "args" 234 (.ref 50), en P "statements" 242 (.ref 57), en P "terminator" 250 (.ref 64), en P "spot" 258 (.ref 71), en P "new_local" 268 (.ref 79), en P "__static_attributes__" 274 (.ref 80), en P "__dict__" 276 (.ref 83), en P "__weakref__" 278 (.ref 84), en P "__doc__" 279 (.none)] 4 }),
  (82, { cls := .type "type", data := .cls { name := "Body", bases := [.type "object"], mro := [.ref 82, .type "object"], ns := 81, qualname := "Body" }, slots := #[none, none, some (.str "Body" 196), some (.str "Body" 204), some (.builtin "object.__new__"), some (.bool true)] }),
  (83, { cls := .type "getset_descriptor", data := .fields #[.str "__dict__" 275, .ref 82, .builtin "function.__dict__", .builtin "function.__dict__#set"] }),
  (84, { cls := .type "getset_descriptor", data := .fields #[.str "__weakref__" 277, .ref 82, .builtin "ExceptionGroup.__weakref__", .none] }),
  (87, { cls := .type "tuple", data := .seq #[] }),
  (90, { cls := .type "code", data := .fields #[.str "successors" 282, .str "successors" 283, .str "/claim/cut.py" 284, .int 32 0, .int 1 0, .int 0 0, .int 0 0, .int 3 0, .ref 87, .bool true, .int 181 0, .ref 88, .none, .none, .none, .ref 89, .int 285 0, .int 32 0, .str "/claim/cut.py" 286] }),
  (91, fo s91.1 "successors" (.none) (.none) (.str "lendcore.mir" 194) (.ref 90)),
  (92, { cls := .type "tuple", data := .seq #[] }),
  (95, { cls := .type "code", data := .fields #[.str "retargeted" 288, .str "retargeted" 289, .str "/claim/cut.py" 290, .int 51 0, .int 2 0, .int 0 0, .int 0 0, .int 3 0, .ref 92, .bool true, .int 181 0, .ref 93, .none, .none, .none, .ref 94, .int 291 0, .int 51 0, .str "/claim/cut.py" 292] }),
  (96, fo s96.1 "retargeted" (.none) (.none) (.str "lendcore.mir" 194) (.ref 95)),
  (97, { cls := .type "tuple", data := .seq #[] }),
  (99, { cls := .type "tuple", data := .seq #[.str "body" 297, .str "found" 298, .str "waiting" 299, .str "block" 300] }),
  (100, { cls := .type "tuple", data := .seq #[] }),
  (102, { cls := .type "code", data := .fields #[.str "reachable" 294, .str "reachable" 295, .str "/claim/cut.py" 296, .int 65 0, .int 1 0, .int 0 0, .int 0 0, .int 3 0, .ref 97, .bool true, .int 181 0, .ref 98, .none, .ref 99, .ref 100, .ref 101, .int 301 0, .int 65 0, .str "/claim/cut.py" 302] }),
  (103, fo s103.1 "reachable" (.none) (.none) (.str "lendcore.mir" 194) (.ref 102)),
  (104, { cls := .type "tuple", data := .seq #[] }),
  (106, { cls := .type "tuple", data := .seq #[.str "body" 307, .str "kept" 308, .str "block" 309, .str "blocks" 310, .str "spots" 311, .str "statements" 312, .str "terminator" 313, .str "index" 314] }),
  (107, { cls := .type "tuple", data := .seq #[.str "places" 315] }),
  (109, { cls := .type "code", data := .fields #[.str "with_blocks" 304, .str "with_blocks" 305, .str "/claim/cut.py" 306, .int 73 0, .int 2 0, .int 0 0, .int 0 0, .int 3 0, .ref 104, .bool true, .int 181 0, .ref 105, .none, .ref 106, .ref 107, .ref 108, .int 316 0, .int 73 0, .str "/claim/cut.py" 317] }),
  (110, fo s110.1 "with_blocks" (.none) (.none) (.str "lendcore.mir" 194) (.ref 109)),
  (111, { cls := .type "tuple", data := .seq #[] }),
  (113, { cls := .type "tuple", data := .seq #[.str "told" 326, .str "kind" 327] }),
  (114, { cls := .type "tuple", data := .seq #[] }),
  (116, { cls := .type "code", data := .fields #[.str "parts_of" 323, .str "parts_of" 324, .str "/claim/cut.py" 325, .int 87 0, .int 1 0, .int 0 0, .int 0 0, .int 3 0, .ref 111, .bool true, .int 181 0, .ref 112, .none, .ref 113, .ref 114, .ref 115, .int 328 0, .int 87 0, .str "/claim/cut.py" 329] }),
  (117, fo s117.1 "parts_of" (.none) (.none) (.str "lendcore.types" 319) (.ref 116)),
  (118, { cls := .type "tuple", data := .seq #[] }),
  (120, { cls := .type "tuple", data := .seq #[.str "told" 334, .str "parts" 335, .str "kind" 336] }),
  (121, { cls := .type "tuple", data := .seq #[] }),
  (123, { cls := .type "code", data := .fields #[.str "rebuilt" 331, .str "rebuilt" 332, .str "/claim/cut.py" 333, .int 96 0, .int 2 0, .int 0 0, .int 0 0, .int 3 0, .ref 118, .bool true, .int 181 0, .ref 119, .none, .ref 120, .ref 121, .ref 122, .int 337 0, .int 96 0, .str "/claim/cut.py" 338] }),
  (124, fo (topS 10) "rebuilt" (.none) (.none) (.str "lendcore.types" 319) (.ref 123)),
  (125, { cls := .type "tuple", data := .seq #[] }),
  (128, { cls := .type "code", data := .fields #[.str "substituted" 340, .str "substituted" 341, .str "/claim/cut.py" 342, .int 107 0, .int 2 0, .int 0 0, .int 0 0, .int 3 0, .ref 125, .bool true, .int 181 0, .ref 126, .none, .none, .none, .ref 127, .int 343 0, .int 107 0, .str "/claim/cut.py" 344] }),
  (129, fo (topS 11) "substituted" (.none) (.none) (.str "lendcore.types" 319) (.ref 128)),
  (130, { cls := .type "tuple", data := .seq #[] }),
  (133, { cls := .type "code", data := .fields #[.str "with_regions" 346, .str "with_regions" 347, .str "/claim/cut.py" 348, .int 111 0, .int 2 0, .int 0 0, .int 0 0, .int 3 0, .ref 130, .bool true, .int 181 0, .ref 131, .none, .none, .none, .ref 132, .int 349 0, .int 111 0, .str "/claim/cut.py" 350] })]
noncomputable def KF2 (P : Params) : Frag := [
  (134, fo (topS 12) "with_regions" (.none) (.none) (.str "lendcore.types" 319) (.ref 133)),
  (135, { cls := .type "tuple", data := .seq #[] }),
  (137, { cls := .type "tuple", data := .seq #[.str "region" 355] }),
  (138, { cls := .type "tuple", data := .seq #[] }),
  (140, { cls := .type "code", data := .fields #[.str "no_region" 352, .str "no_region" 353, .str "/claim/cut.py" 354, .int 117 0, .int 1 0, .int 0 0, .int 0 0, .int 3 0, .ref 135, .bool true, .int 181 0, .ref 136, .none, .ref 137, .ref 138, .ref 139, .int 356 0, .int 117 0, .str "/claim/cut.py" 357] }),
  (141, fo (topS 13) "no_region" (.none) (.none) (.str "lendcore.types" 319) (.ref 140)),
  (142, { cls := .type "tuple", data := .seq #[] }),
  (144, { cls := .type "tuple", data := .seq #[.str "told" 362] }),
  (145, { cls := .type "tuple", data := .seq #[] }),
  (147, { cls := .type "code", data := .fields #[.str "erased" 359, .str "erased" 360, .str "/claim/cut.py" 361, .int 119 0, .int 1 0, .int 0 0, .int 0 0, .int 3 0, .ref 142, .bool true, .int 181 0, .ref 143, .none, .ref 144, .ref 145, .ref 146, .int 363 0, .int 119 0, .str "/claim/cut.py" 364] }),
  (148, fo (topS 14) "erased" (.none) (.none) (.str "lendcore.types" 319) (.ref 147)),
  (149, { cls := .type "tuple", data := .seq #[] }),
  (151, { cls := .type "tuple", data := .seq #[.str "pattern" 369, .str "told" 370, .str "table" 371, .str "some" 372, .str "others" 373, .str "one" 374, .str "other" 375] }),
  (152, { cls := .type "tuple", data := .seq #[] }),
  (154, { cls := .type "code", data := .fields #[.str "matched" 366, .str "matched" 367, .str "/claim/cut.py" 368, .int 121 0, .int 3 0, .int 0 0, .int 0 0, .int 3 0, .ref 149, .bool true, .int 181 0, .ref 150, .none, .ref 151, .ref 152, .ref 153, .int 376 0, .int 121 0, .str "/claim/cut.py" 377] }),
  (155, fo (topS 15) "matched" (.none) (.none) (.str "lendcore.types" 319) (.ref 154)),
  (156, { cls := .type "tuple", data := .seq #[] }),
  (158, { cls := .type "tuple", data := .seq #[.str "told" 382, .str "variant" 383, .str "world" 384] }),
  (159, { cls := .type "tuple", data := .seq #[] }),
  (161, { cls := .type "code", data := .fields #[.str "field_rows" 379, .str "field_rows" 380, .str "/claim/cut.py" 381, .int 140 0, .int 3 0, .int 0 0, .int 0 0, .int 3 0, .ref 156, .bool true, .int 181 0, .ref 157, .none, .ref 158, .ref 159, .ref 160, .int 385 0, .int 140 0, .str "/claim/cut.py" 386] }),
  (162, fo (topS 16) "field_rows" (.none) (.none) (.str "lendcore.types" 319) (.ref 161)),
  (163, { cls := .type "tuple", data := .seq #[] }),
  (166, { cls := .type "code", data := .fields #[.str "fields_of" 388, .str "fields_of" 389, .str "/claim/cut.py" 390, .int 142 0, .int 3 0, .int 0 0, .int 0 0, .int 3 0, .ref 163, .bool true, .int 181 0, .ref 164, .none, .none, .none, .ref 165, .int 391 0, .int 142 0, .str "/claim/cut.py" 392] }),
  (167, fo (topS 17) "fields_of" (.none) (.none) (.str "lendcore.types" 319) (.ref 166)),
  (168, { cls := .type "tuple", data := .seq #[] }),
  (170, { cls := .type "tuple", data := .seq #[.str "told" 397, .str "world" 398, .str "row" 399] }),
  (171, { cls := .type "tuple", data := .seq #[] }),
  (173, { cls := .type "code", data := .fields #[.str "has_drop" 394, .str "has_drop" 395, .str "/claim/cut.py" 396, .int 154 0, .int 2 0, .int 0 0, .int 0 0, .int 3 0, .ref 168, .bool true, .int 181 0, .ref 169, .none, .ref 170, .ref 171, .ref 172, .int 400 0, .int 154 0, .str "/claim/cut.py" 401] }),
  (174, fo (topS 18) "has_drop" (.none) (.none) (.str "lendcore.types" 319) (.ref 173)),
  (175, { cls := .type "tuple", data := .seq #[] }),
  (178, { cls := .type "code", data := .fields #[.str "needs_drop" 403, .str "needs_drop" 404, .str "/claim/cut.py" 405, .int 159 0, .int 2 0, .int 0 0, .int 0 0, .int 3 0, .ref 175, .bool true, .int 181 0, .ref 176, .none, .none, .none, .ref 177, .int 406 0, .int 159 0, .str "/claim/cut.py" 407] }),
  (179, fo s179.1 "needs_drop" (.none) (.none) (.str "lendcore.types" 319) (.ref 178)),
  (187, { cls := .type "tuple", data := .seq #[] }),
  (190, { cls := .type "code", data := .fields #[.str "__init__" 423, .str "Scopes.__init__" 424, .str "/claim/cut.py" 425, .int 178 0, .int 3 0, .int 0 0, .int 0 0, .int 3 0, .ref 187, .bool true, .int 181 0, .ref 188, .none, .none, .none, .ref 189, .int 426 0, .int 178 0, .str "/claim/cut.py" 427] }),
  (191, fo s191.1 "Scopes.__init__" (.none) (.none) (.str "lendcore.scopes" 409) (.ref 190)),
  (192, { cls := .type "tuple", data := .seq #[] }),
  (194, { cls := .type "tuple", data := .seq #[.str "self" 432, .str "n" 433] }),
  (195, { cls := .type "tuple", data := .seq #[] }),
  (197, { cls := .type "code", data := .fields #[.str "user" 429, .str "Scopes.user" 430, .str "/claim/cut.py" 431, .int 191 0, .int 2 0, .int 0 0, .int 0 0, .int 3 0, .ref 192, .bool true, .int 181 0, .ref 193, .none, .ref 194, .ref 195, .ref 196, .int 434 0, .int 191 0, .str "/claim/cut.py" 435] }),
  (198, fo s198.1 "Scopes.user" (.none) (.none) (.str "lendcore.scopes" 409) (.ref 197))]
noncomputable def KF3 (P : Params) : Frag := [
  (199, { cls := .type "tuple", data := .seq #[.bool true, .none] }),
  (200, { cls := .type "tuple", data := .seq #[] }),
  (202, { cls := .type "tuple", data := .seq #[.str "self" 440, .str "told" 441, .str "is_mut" 442, .str "name" 443] }),
  (203, { cls := .type "tuple", data := .seq #[] }),
  (205, { cls := .type "code", data := .fields #[.str "new_local" 437, .str "Scopes.new_local" 438, .str "/claim/cut.py" 439, .int 194 0, .int 4 0, .int 0 0, .int 0 0, .int 3 0, .ref 200, .bool true, .int 181 0, .ref 201, .none, .ref 202, .ref 203, .ref 204, .int 444 0, .int 194 0, .str "/claim/cut.py" 445] }),
  (206, fo s206.1 "Scopes.new_local" (.ref 199) (.none) (.str "lendcore.scopes" 409) (.ref 205)),
  (207, { cls := .type "tuple", data := .seq #[] }),
  (209, { cls := .type "tuple", data := .seq #[.str "self" 450, .str "local" 451] }),
  (210, { cls := .type "tuple", data := .seq #[] }),
  (212, { cls := .type "code", data := .fields #[.str "type_of" 447, .str "Scopes.type_of" 448, .str "/claim/cut.py" 449, .int 197 0, .int 2 0, .int 0 0, .int 0 0, .int 3 0, .ref 207, .bool true, .int 181 0, .ref 208, .none, .ref 209, .ref 210, .ref 211, .int 452 0, .int 197 0, .str "/claim/cut.py" 453] }),
  (213, fo s213.1 "Scopes.type_of" (.none) (.none) (.str "lendcore.scopes" 409) (.ref 212)),
  (214, { cls := .type "tuple", data := .seq #[] }),
  (216, { cls := .type "tuple", data := .seq #[.str "self" 458] }),
  (217, { cls := .type "tuple", data := .seq #[] }),
  (219, { cls := .type "code", data := .fields #[.str "new_block" 455, .str "Scopes.new_block" 456, .str "/claim/cut.py" 457, .int 200 0, .int 1 0, .int 0 0, .int 0 0, .int 3 0, .ref 214, .bool true, .int 181 0, .ref 215, .none, .ref 216, .ref 217, .ref 218, .int 459 0, .int 200 0, .str "/claim/cut.py" 460] }),
  (220, fo s220.1 "Scopes.new_block" (.none) (.none) (.str "lendcore.scopes" 409) (.ref 219)),
  (221, { cls := .type "tuple", data := .seq #[] }),
  (223, { cls := .type "tuple", data := .seq #[.str "self" 465] }),
  (224, { cls := .type "tuple", data := .seq #[] }),
  (226, { cls := .type "code", data := .fields #[.str "note" 462, .str "Scopes.note" 463, .str "/claim/cut.py" 464, .int 204 0, .int 1 0, .int 0 0, .int 0 0, .int 3 0, .ref 221, .bool true, .int 181 0, .ref 222, .none, .ref 223, .ref 224, .ref 225, .int 466 0, .int 204 0, .str "/claim/cut.py" 467] }),
  (227, fo s227.1 "Scopes.note" (.none) (.none) (.str "lendcore.scopes" 409) (.ref 226)),
  (228, { cls := .type "tuple", data := .seq #[] }),
  (230, { cls := .type "tuple", data := .seq #[.str "self" 472, .str "statement" 473] }),
  (231, { cls := .type "tuple", data := .seq #[] }),
  (233, { cls := .type "code", data := .fields #[.str "put" 469, .str "Scopes.put" 470, .str "/claim/cut.py" 471, .int 207 0, .int 2 0, .int 0 0, .int 0 0, .int 3 0, .ref 228, .bool true, .int 181 0, .ref 229, .none, .ref 230, .ref 231, .ref 232, .int 474 0, .int 207 0, .str "/claim/cut.py" 475] }),
  (234, fo s234.1 "Scopes.put" (.none) (.none) (.str "lendcore.scopes" 409) (.ref 233)),
  (235, { cls := .type "tuple", data := .seq #[] }),
  (237, { cls := .type "tuple", data := .seq #[.str "self" 480, .str "terminator" 481] }),
  (238, { cls := .type "tuple", data := .seq #[] }),
  (240, { cls := .type "code", data := .fields #[.str "close" 477, .str "Scopes.close" 478, .str "/claim/cut.py" 479, .int 211 0, .int 2 0, .int 0 0, .int 0 0, .int 3 0, .ref 235, .bool true, .int 181 0, .ref 236, .none, .ref 237, .ref 238, .ref 239, .int 482 0, .int 211 0, .str "/claim/cut.py" 483] }),
  (241, fo s241.1 "Scopes.close" (.none) (.none) (.str "lendcore.scopes" 409) (.ref 240)),
  (242, { cls := .type "tuple", data := .seq #[] }),
  (244, { cls := .type "tuple", data := .seq #[.str "self" 488, .str "terminator" 489] }),
  (245, { cls := .type "tuple", data := .seq #[] }),
  (247, { cls := .type "code", data := .fields #[.str "end" 485, .str "Scopes.end" 486, .str "/claim/cut.py" 487, .int 215 0, .int 2 0, .int 0 0, .int 0 0, .int 3 0, .ref 242, .bool true, .int 181 0, .ref 243, .none, .ref 244, .ref 245, .ref 246, .int 490 0, .int 215 0, .str "/claim/cut.py" 491] }),
  (248, fo s248.1 "Scopes.end" (.none) (.none) (.str "lendcore.scopes" 409) (.ref 247)),
  (249, { cls := .type "tuple", data := .seq #[] }),
  (251, { cls := .type "tuple", data := .seq #[.str "self" 496, .str "block" 497] }),
  (252, { cls := .type "tuple", data := .seq #[] }),
  (254, { cls := .type "code", data := .fields #[.str "go" 493, .str "Scopes.go" 494, .str "/claim/cut.py" 495, .int 219 0, .int 2 0, .int 0 0, .int 0 0, .int 3 0, .ref 249, .bool true, .int 181 0, .ref 250, .none, .ref 251, .ref 252, .ref 253, .int 498 0, .int 219 0, .str "/claim/cut.py" 499] })]
noncomputable def KF4 (P : Params) : Frag := [
  (255, fo s255.1 "Scopes.go" (.none) (.none) (.str "lendcore.scopes" 409) (.ref 254)),
  (256, { cls := .type "tuple", data := .seq #[] }),
  (258, { cls := .type "tuple", data := .seq #[.str "self" 504] }),
  (259, { cls := .type "tuple", data := .seq #[] }),
  (261, { cls := .type "code", data := .fields #[.str "push" 501, .str "Scopes.push" 502, .str "/claim/cut.py" 503, .int 223 0, .int 1 0, .int 0 0, .int 0 0, .int 3 0, .ref 256, .bool true, .int 181 0, .ref 257, .none, .ref 258, .ref 259, .ref 260, .int 505 0, .int 223 0, .str "/claim/cut.py" 506] }),
  (262, fo s262.1 "Scopes.push" (.none) (.none) (.str "lendcore.scopes" 409) (.ref 261)),
  (263, { cls := .type "tuple", data := .seq #[] }),
  (265, { cls := .type "tuple", data := .seq #[.str "self" 511, .str "local" 512] }),
  (266, { cls := .type "tuple", data := .seq #[] }),
  (268, { cls := .type "code", data := .fields #[.str "declare" 508, .str "Scopes.declare" 509, .str "/claim/cut.py" 510, .int 227 0, .int 2 0, .int 0 0, .int 0 0, .int 3 0, .ref 263, .bool true, .int 181 0, .ref 264, .none, .ref 265, .ref 266, .ref 267, .int 513 0, .int 227 0, .str "/claim/cut.py" 514] }),
  (269, fo s269.1 "Scopes.declare" (.none) (.none) (.str "lendcore.scopes" 409) (.ref 268)),
  (270, { cls := .type "tuple", data := .seq #[] }),
  (272, { cls := .type "tuple", data := .seq #[.str "self" 519, .str "local" 520] }),
  (273, { cls := .type "tuple", data := .seq #[] }),
  (275, { cls := .type "code", data := .fields #[.str "hold" 516, .str "Scopes.hold" 517, .str "/claim/cut.py" 518, .int 231 0, .int 2 0, .int 0 0, .int 0 0, .int 3 0, .ref 270, .bool true, .int 181 0, .ref 271, .none, .ref 272, .ref 273, .ref 274, .int 521 0, .int 231 0, .str "/claim/cut.py" 522] }),
  (276, fo s276.1 "Scopes.hold" (.none) (.none) (.str "lendcore.scopes" 409) (.ref 275)),
  (277, { cls := .type "tuple", data := .seq #[] }),
  (279, { cls := .type "tuple", data := .seq #[.str "self" 527, .str "frame" 528, .str "local" 529, .str "is_living" 530, .str "following" 531] }),
  (280, { cls := .type "tuple", data := .seq #[] }),
  (282, { cls := .type "code", data := .fields #[.str "finish" 524, .str "Scopes.finish" 525, .str "/claim/cut.py" 526, .int 234 0, .int 2 0, .int 0 0, .int 0 0, .int 3 0, .ref 277, .bool true, .int 181 0, .ref 278, .none, .ref 279, .ref 280, .ref 281, .int 532 0, .int 234 0, .str "/claim/cut.py" 533] }),
  (283, fo s283.1 "Scopes.finish" (.none) (.none) (.str "lendcore.scopes" 409) (.ref 282)),
  (284, { cls := .type "tuple", data := .seq #[] }),
  (286, { cls := .type "tuple", data := .seq #[.str "self" 538] }),
  (287, { cls := .type "tuple", data := .seq #[] }),
  (289, { cls := .type "code", data := .fields #[.str "pop" 535, .str "Scopes.pop" 536, .str "/claim/cut.py" 537, .int 243 0, .int 1 0, .int 0 0, .int 0 0, .int 3 0, .ref 284, .bool true, .int 181 0, .ref 285, .none, .ref 286, .ref 287, .ref 288, .int 539 0, .int 243 0, .str "/claim/cut.py" 540] }),
  (290, fo s290.1 "Scopes.pop" (.none) (.none) (.str "lendcore.scopes" 409) (.ref 289)),
  (291, { cls := .type "tuple", data := .seq #[] }),
  (293, { cls := .type "tuple", data := .seq #[.str "self" 545, .str "depth" 546, .str "frame" 547] }),
  (294, { cls := .type "tuple", data := .seq #[] }),
  (296, { cls := .type "code", data := .fields #[.str "leave" 542, .str "Scopes.leave" 543, .str "/claim/cut.py" 544, .int 247 0, .int 2 0, .int 0 0, .int 0 0, .int 3 0, .ref 291, .bool true, .int 181 0, .ref 292, .none, .ref 293, .ref 294, .ref 295, .int 548 0, .int 247 0, .str "/claim/cut.py" 549] }),
  (297, fo s297.1 "Scopes.leave" (.none) (.none) (.str "lendcore.scopes" 409) (.ref 296)),
  (298, { cls := .type "tuple", data := .seq #[] }),
  (300, { cls := .type "tuple", data := .seq #[.str "self" 554, .str "block" 555] }),
  (301, { cls := .type "tuple", data := .seq #[] }),
  (303, { cls := .type "code", data := .fields #[.str "finished" 551, .str "Scopes.finished" 552, .str "/claim/cut.py" 553, .int 251 0, .int 1 0, .int 0 0, .int 0 0, .int 3 0, .ref 298, .bool true, .int 181 0, .ref 299, .none, .ref 300, .ref 301, .ref 302, .int 556 0, .int 251 0, .str "/claim/cut.py" 557] }),
  (304, fo s304.1 "Scopes.finished" (.none) (.none) (.str "lendcore.scopes" 409) (.ref 303)),
  (305, { cls := .type "tuple", data := .seq #[.str "alias" 559, .str "args" 560, .str "body" 561, .str "bounds" 562, .str "first_user" 563, .str "frames" 564, .str "here" 565, .str "spot" 566, .str "world" 567] }),
  (306, { cls := .type "dict", data := .dict #[en P "__module__" 418 (.str "lendcore.scopes" 409), en P "__firstlineno__" 422 (.int 176 421), en P "__init__" 428 (.ref 191), en P "user" 436 (.ref 198), en P "new_local" 446 (.ref 206), en P "type_of" 454 (.ref 213), en P "new_block" 461 (.ref 220), en P "note" 468 (.ref 227), en P "put" 476 (.ref 234), en P "close" 484 (.ref 241), en P "end" 492 (.ref 248), en P "go" 500 (.ref 255), en P "push" 507 (.ref 262), en P "declare" 515 (.ref 269), en P "hold" 523 (.ref 276), en P "finish" 534 (.ref 283), en P "pop" 541 (.ref 290), en P "leave" 550 (.ref 297), en P "finished" 558 (.ref 304), en P "__static_attributes__" 568 (.ref 305), en P "__dict__" 570 (.ref 308), en P "__weakref__" 572 (.ref 309), en P "__doc__" 573 (.none)] 4 }),
  (307, { cls := .type "type", data := .cls { name := "Scopes", bases := [.type "object"], mro := [.ref 307, .type "object"], ns := 306, qualname := "Scopes" }, slots := #[none, none, some (.str "Scopes" 411), some (.str "Scopes" 419), some (.builtin "object.__new__"), some (.bool true)] }),
  (308, { cls := .type "getset_descriptor", data := .fields #[.str "__dict__" 569, .ref 307, .builtin "function.__dict__", .builtin "function.__dict__#set"] })]
noncomputable def KF5 (P : Params) : Frag := [
  (309, { cls := .type "getset_descriptor", data := .fields #[.str "__weakref__" 571, .ref 307, .builtin "ExceptionGroup.__weakref__", .none] }),
  (319, { cls := .type "tuple", data := .seq #[] }),
  (321, { cls := .type "tuple", data := .seq #[.str "self" 593, .str "path" 594, .str "rows" 595, .str "params" 596, .str "result" 597, .str "body" 598] }),
  (322, { cls := .type "tuple", data := .seq #[] }),
  (324, { cls := .type "code", data := .fields #[.str "__init__" 590, .str "TypedFn.__init__" 591, .str "/claim/cut.py" 592, .int 259 0, .int 6 0, .int 0 0, .int 0 0, .int 3 0, .ref 319, .bool true, .int 181 0, .ref 320, .none, .ref 321, .ref 322, .ref 323, .int 599 0, .int 259 0, .str "/claim/cut.py" 600] }),
  (325, fo s325.1 "TypedFn.__init__" (.none) (.none) (.str "lendcore.check_exprs" 576) (.ref 324)),
  (326, { cls := .type "tuple", data := .seq #[.str "body" 602, .str "locals" 603, .str "params" 604, .str "path" 605, .str "result" 606] }),
  (327, { cls := .type "dict", data := .dict #[en P "__module__" 585 (.str "lendcore.check_exprs" 576), en P "__firstlineno__" 589 (.int 257 588), en P "__init__" 601 (.ref 325), en P "__static_attributes__" 607 (.ref 326), en P "__dict__" 609 (.ref 329), en P "__weakref__" 611 (.ref 330), en P "__doc__" 612 (.none)] 4 }),
  (328, { cls := .type "type", data := .cls { name := "TypedFn", bases := [.type "object"], mro := [.ref 328, .type "object"], ns := 327, qualname := "TypedFn" }, slots := #[none, none, some (.str "TypedFn" 578), some (.str "TypedFn" 586), some (.builtin "object.__new__"), some (.bool true)] }),
  (329, { cls := .type "getset_descriptor", data := .fields #[.str "__dict__" 608, .ref 328, .builtin "function.__dict__", .builtin "function.__dict__#set"] }),
  (330, { cls := .type "getset_descriptor", data := .fields #[.str "__weakref__" 610, .ref 328, .builtin "ExceptionGroup.__weakref__", .none] }),
  (340, { cls := .type "tuple", data := .seq #[.none] }),
  (341, { cls := .type "tuple", data := .seq #[] }),
  (343, { cls := .type "tuple", data := .seq #[.str "self" 632, .str "modules" 633] }),
  (344, { cls := .type "tuple", data := .seq #[] }),
  (346, { cls := .type "code", data := .fields #[.str "__init__" 629, .str "World.__init__" 630, .str "/claim/cut.py" 631, .int 268 0, .int 2 0, .int 0 0, .int 0 0, .int 3 0, .ref 341, .bool true, .int 181 0, .ref 342, .none, .ref 343, .ref 344, .ref 345, .int 634 0, .int 268 0, .str "/claim/cut.py" 635] }),
  (347, fo s347.1 "World.__init__" (.ref 340) (.none) (.str "lendcore.world" 615) (.ref 346)),
  (348, { cls := .type "tuple", data := .seq #[] }),
  (350, { cls := .type "tuple", data := .seq #[.str "self" 640, .str "path" 641, .str "number" 642, .str "k" 643, .str "module" 644] }),
  (351, { cls := .type "tuple", data := .seq #[] }),
  (353, { cls := .type "code", data := .fields #[.str "is_field_seen" 637, .str "World.is_field_seen" 638, .str "/claim/cut.py" 639, .int 278 0, .int 5 0, .int 0 0, .int 0 0, .int 3 0, .ref 348, .bool true, .int 181 0, .ref 349, .none, .ref 350, .ref 351, .ref 352, .int 645 0, .int 278 0, .str "/claim/cut.py" 646] }),
  (354, fo (metS 25 1) "World.is_field_seen" (.none) (.none) (.str "lendcore.world" 615) (.ref 353)),
  (355, { cls := .type "tuple", data := .seq #[.str "adts" 648, .str "bodies" 649, .str "consts" 650, .str "impls" 651, .str "modules" 652, .str "sigs" 653, .str "traits" 654, .str "variants" 655] }),
  (356, { cls := .type "dict", data := .dict #[en P "__module__" 624 (.str "lendcore.world" 615), en P "__firstlineno__" 628 (.int 266 627), en P "__init__" 636 (.ref 347), en P "is_field_seen" 647 (.ref 354), en P "__static_attributes__" 656 (.ref 355), en P "__dict__" 658 (.ref 358), en P "__weakref__" 660 (.ref 359), en P "__doc__" 661 (.none)] 4 }),
  (357, { cls := .type "type", data := .cls { name := "World", bases := [.type "object"], mro := [.ref 357, .type "object"], ns := 356, qualname := "World" }, slots := #[none, none, some (.str "World" 617), some (.str "World" 625), some (.builtin "object.__new__"), some (.bool true)] }),
  (358, { cls := .type "getset_descriptor", data := .fields #[.str "__dict__" 657, .ref 357, .builtin "function.__dict__", .builtin "function.__dict__#set"] }),
  (359, { cls := .type "getset_descriptor", data := .fields #[.str "__weakref__" 659, .ref 357, .builtin "ExceptionGroup.__weakref__", .none] }),
  (362, { cls := .type "tuple", data := .seq #[.str "int" 666, .str "i32" 667] }),
  (363, { cls := .type "tuple", data := .seq #[] }),
  (365, { cls := .type "tuple", data := .seq #[.str "script" 672, .str "cell" 673, .str "big" 674] }),
  (366, { cls := .type "tuple", data := .seq #[] }),
  (368, { cls := .type "code", data := .fields #[.str "_law_pool" 669, .str "_law_pool" 670, .str "/claim/cut.py" 671, .int 282 0, .int 1 0, .int 0 0, .int 0 0, .int 3 0, .ref 363, .bool true, .int 181 0, .ref 364, .none, .ref 365, .ref 366, .ref 367, .int 675 0, .int 282 0, .str "/claim/cut.py" 676] }),
  (369, fo s369.1 "_law_pool" (.none) (.none) (.str "law_nu0384_01" 664) (.ref 368)),
  (370, { cls := .type "tuple", data := .seq #[] }),
  (372, { cls := .type "tuple", data := .seq #[.str "source" 681, .str "top" 682, .str "drawn" 683] }),
  (373, { cls := .type "tuple", data := .seq #[] }),
  (375, { cls := .type "code", data := .fields #[.str "_law_take" 678, .str "_law_take" 679, .str "/claim/cut.py" 680, .int 288 0, .int 2 0, .int 0 0, .int 0 0, .int 3 0, .ref 370, .bool true, .int 181 0, .ref 371, .none, .ref 372, .ref 373, .ref 374, .int 684 0, .int 288 0, .str "/claim/cut.py" 685] }),
  (376, fo s376.1 "_law_take" (.none) (.none) (.str "law_nu0384_01" 664) (.ref 375)),
  (384, { cls := .type "tuple", data := .seq #[] }),
  (386, { cls := .type "tuple", data := .seq #[.str "source" 698, .str "deep" 699, .str "way" 700, .str "inner" 701] })]
noncomputable def KF6 (P : Params) : Frag := [
  (387, { cls := .type "tuple", data := .seq #[] }),
  (389, { cls := .type "code", data := .fields #[.str "_law_type" 695, .str "_law_type" 696, .str "/claim/cut.py" 697, .int 297 0, .int 2 0, .int 0 0, .int 0 0, .int 3 0, .ref 384, .bool true, .int 181 0, .ref 385, .none, .ref 386, .ref 387, .ref 388, .int 702 0, .int 297 0, .str "/claim/cut.py" 703] }),
  (390, fo s390.1 "_law_type" (.none) (.none) (.str "law_nu0384_01" 664) (.ref 389)),
  (391, { cls := .type "tuple", data := .seq #[] }),
  (394, { cls := .type "code", data := .fields #[.str "_law_has_box" 705, .str "_law_has_box" 706, .str "/claim/cut.py" 707, .int 307 0, .int 1 0, .int 0 0, .int 0 0, .int 3 0, .ref 391, .bool true, .int 181 0, .ref 392, .none, .none, .none, .ref 393, .int 708 0, .int 307 0, .str "/claim/cut.py" 709] }),
  (395, fo s395.1 "_law_has_box" (.none) (.none) (.str "law_nu0384_01" 664) (.ref 394)),
  (396, { cls := .type "tuple", data := .seq #[] }),
  (398, { cls := .type "tuple", data := .seq #[.str "rows" 714, .str "frame" 715, .str "types" 716, .str "spot" 717, .str "local" 718, .str "is_living" 719] }),
  (399, { cls := .type "tuple", data := .seq #[] }),
  (401, { cls := .type "code", data := .fields #[.str "_law_ended" 711, .str "_law_ended" 712, .str "/claim/cut.py" 713, .int 311 0, .int 4 0, .int 0 0, .int 0 0, .int 3 0, .ref 396, .bool true, .int 181 0, .ref 397, .none, .ref 398, .ref 399, .ref 400, .int 720 0, .int 311 0, .str "/claim/cut.py" 721] }),
  (402, fo s402.1 "_law_ended" (.none) (.none) (.str "law_nu0384_01" 664) (.ref 401)),
  (403, { cls := .type "tuple", data := .seq #[] }),
  (405, { cls := .type "tuple", data := .seq #[.str "source" 726, .str "scopes" 727, .str "types" 728, .str "frames" 729, .str "rows" 730, .str "spot" 731, .str "told" 732, .str "local" 733] }),
  (406, { cls := .type "tuple", data := .seq #[] }),
  (408, { cls := .type "code", data := .fields #[.str "_law_declared" 723, .str "_law_declared" 724, .str "/claim/cut.py" 725, .int 317 0, .int 6 0, .int 0 0, .int 0 0, .int 3 0, .ref 403, .bool true, .int 181 0, .ref 404, .none, .ref 405, .ref 406, .ref 407, .int 734 0, .int 317 0, .str "/claim/cut.py" 735] }),
  (409, fo s409.1 "_law_declared" (.none) (.none) (.str "law_nu0384_01" 664) (.ref 408)),
  (410, { cls := .type "tuple", data := .seq #[] }),
  (412, { cls := .type "tuple", data := .seq #[.str "source" 740, .str "scopes" 741, .str "types" 742, .str "frames" 743, .str "rows" 744, .str "spot" 745, .str "way" 746, .str "depth" 747, .str "frame" 748, .str "behind" 749, .str "is_other" 750] }),
  (413, { cls := .type "tuple", data := .seq #[] }),
  (415, { cls := .type "code", data := .fields #[.str "_law_deed_right" 737, .str "_law_deed_right" 738, .str "/claim/cut.py" 739, .int 325 0, .int 6 0, .int 0 0, .int 0 0, .int 3 0, .ref 410, .bool true, .int 181 0, .ref 411, .none, .ref 412, .ref 413, .ref 414, .int 751 0, .int 325 0, .str "/claim/cut.py" 752] }),
  (416, fo s416.1 "_law_deed_right" (.none) (.none) (.str "law_nu0384_01" 664) (.ref 415)),
  (417, { cls := .type "tuple", data := .seq #[] }),
  (419, { cls := .type "tuple", data := .seq #[.str "body" 757, .str "found" 758, .str "here" 759, .str "met" 760, .str "at" 761, .str "statement" 762, .str "told" 763, .str "terminator" 764, .str "goals" 765] }),
  (420, { cls := .type "tuple", data := .seq #[] }),
  (422, { cls := .type "code", data := .fields #[.str "_law_way" 754, .str "_law_way" 755, .str "/claim/cut.py" 756, .int 352 0, .int 1 0, .int 0 0, .int 0 0, .int 3 0, .ref 417, .bool true, .int 181 0, .ref 418, .none, .ref 419, .ref 420, .ref 421, .int 766 0, .int 352 0, .str "/claim/cut.py" 767] }),
  (423, fo s423.1 "_law_way" (.none) (.none) (.str "law_nu0384_01" 664) (.ref 422)),
  (424, { cls := .type "tuple", data := .seq #[] }),
  (427, { cls := .type "code", data := .fields #[.str "law" 769, .str "law" 770, .str "/claim/cut.py" 771, .int 369 0, .int 1 0, .int 0 0, .int 0 0, .int 3 0, .ref 424, .bool true, .int 181 0, .ref 425, .none, .none, .none, .ref 426, .int 772 0, .int 369 0, .str "/claim/cut.py" 773] }),
  (428, fo s428.1 "law" (.none) (.none) (.str "law_nu0384_01" 664) (.ref 427))]
noncomputable def KF (P : Params) : Frag := KF0 P ++ (KF1 P ++ (KF2 P ++ (KF3 P ++ (KF4 P ++ (KF5 P ++ (KF6 P))))))
noncomputable abbrev KFa : List Addr := [2, 3, 15, 17, 18, 20, 21, 29, 30, 32, 33, 35, 36, 37, 39, 40, 42, 43, 44, 46, 47, 49, 50, 51, 53, 54, 56, 57, 58, 60, 61, 63, 64, 65, 67, 68, 70, 71, 72, 73, 75, 76, 78, 79, 80, 81, 82, 83, 84, 87, 90, 91, 92, 95, 96, 97, 99, 100, 102, 103, 104, 106, 107, 109, 110, 111, 113, 114, 116, 117, 118, 120, 121, 123, 124, 125, 128, 129, 130, 133, 134, 135, 137, 138, 140, 141, 142, 144, 145, 147, 148, 149, 151, 152, 154, 155, 156, 158, 159, 161, 162, 163, 166, 167, 168, 170, 171, 173, 174, 175, 178, 179, 187, 190, 191, 192, 194, 195, 197, 198, 199, 200, 202, 203, 205, 206, 207, 209, 210, 212, 213, 214, 216, 217, 219, 220, 221, 223, 224, 226, 227, 228, 230, 231, 233, 234, 235, 237, 238, 240, 241, 242, 244, 245, 247, 248, 249, 251, 252, 254, 255, 256, 258, 259, 261, 262, 263, 265, 266, 268, 269, 270, 272, 273, 275, 276, 277, 279, 280, 282, 283, 284, 286, 287, 289, 290, 291, 293, 294, 296, 297, 298, 300, 301, 303, 304, 305, 306, 307, 308, 309, 319, 321, 322, 324, 325, 326, 327, 328, 329, 330, 340, 341, 343, 344, 346, 347, 348, 350, 351, 353, 354, 355, 356, 357, 358, 359, 362, 363, 365, 366, 368, 369, 370, 372, 373, 375, 376, 384, 386, 387, 389, 390, 391, 394, 395, 396, 398, 399, 401, 402, 403, 405, 406, 408, 409, 410, 412, 413, 415, 416, 417, 419, 420, 422, 423, 424, 427, 428]
noncomputable def vq : Program := { pw with main := { pw.main with body := (pw.main.body.zipIdx.filter fun x => ![1, 7, 20, 22, 24, 26].contains x.2).map (·.1) } }
theorem KF_as (P : Params) : KFa = (KF P).map (·.1) := by kernel_rfl
noncomputable abbrev HK : Hook := kmHook KF KFa KF_as [105]
noncomputable abbrev Xt (s : Shared) : Bool := xlAt vq [] s && recOk (RowW.records PySem.Challenge.rw_nu0384_01.row.toRowW) s
theorem said : OpenLaw.wellSaid PySem.Challenge.rw_nu0384_01 = true := by
  rw [PySem.W.Fast.te9446332074065402090]
  delta PySem.W.Fast.tw9446332074065402090 PySem.W.Fast.tw17960256430627541270 PySem.W.Fast.tw2436336058641802641 PySem.W.Fast.tw12908688711261696721
  repeat' with_reducible refine look_both ?_ ?_
  all_goals (as_aux_lemma => kernel_rfl)
theorem pre (w : World) (os : OsState) : topGo treeTable pw w 11 an6 12 (S0 w os) (topStub pw) = some (Sa w os, ⟨denote treeTable cE, cE, p0, BF⟩) := by
  rw [PySem.W.Fast.te15667345088766844465, PySem.W.Fast.te14364793385576792824, PySem.W.Fast.te11892475500146522536]
  kernel_rfl
noncomputable def mkBT (l : List Obj) : Nat → Nat → Nat → BT
  | 0, _, _ => .nil
  | n + 1, a, b => match l[b]? with
    | some o => .node o (mkBT l n (2 * a) (a + b)) (mkBT l n (2 * a) (2 * a + b))
    | none => .nil
noncomputable def Sb (w : World) (os : OsState) : Shared := match qSeg qTab pw w 11 an6 1 1 (Sa w os) (blockOf bE envM cE p0 BF) with
  | some (_, s, _, _) => s
  | none => Sa w os
noncomputable def TX (w : World) (os : OsState) : SharedT := { tree := mkBT (Sb w os).heap.objs.toList 16 1 0, n := 15, life := {}, gens := #[], drawn := {}, toks := 187, os := os }
theorem block (w : World) (os : OsState) : segRun treeTable pw w 11 an6 1 1 (Sa w os) (blockOf bE envM cE p0 BF) = some (.next, (TX w os).abs, cE, p0) := by
  rw [PySem.W.Fast.te14374325043358763698, PySem.W.Fast.te14364793385576792824]
  kernel_rfl
noncomputable abbrev pF : Pos := ⟨369, 0, 395, 46⟩
noncomputable def fh (s : Stmt) (q : Str) : Obj := match s with
  | .FunctionDef n a b _ _ _ sc _ _ _ => { cls := .none, data := .func { name := n, qualname := q, params := a, body := .stmts b, scope := sc, globals := 0, closure := [], defaults := .none, kwdefaults := .none } }
  | _ => default
noncomputable def sbO (w : World) (os : OsState) (i : Nat) : Obj := ((Sb w os).heap.objs[i]?).getD default
noncomputable def oE : Obj := { cls := .none, data := .fields #[] }
noncomputable def oT : Obj := { cls := .type "tuple", data := .seq #[] }
noncomputable def NF0 (w : World) (os : OsState) (P : Params) : List Obj := [
  sbO w os 0,
  sbO w os 1,
  sbO w os 4,
  sbO w os 5,
  sbO w os 6,
  sbO w os 7,
  sbO w os 8,
  sbO w os 9,
  sbO w os 10,
  sbO w os 11,
  { cls := .none, data := .fields #[.int 1 0, .int 0 0, .ref 20, .int 5 0, .int 0 0, .ref 27, .int 32 0, .int 0 0, .ref 90, .int 51 0, .int 0 0, .ref 95, .int 65 0, .int 0 0, .ref 102, .int 73 0, .int 0 0, .ref 109, .int 87 0, .int 0 0, .ref 116, .int 96 0, .int 0 0, .ref 123, .int 107 0, .int 0 0, .ref 128, .int 111 0, .int 0 0, .ref 133, .int 117 0, .int 0 0, .ref 140, .int 119 0, .int 0 0, .ref 147, .int 121 0, .int 0 0, .ref 154, .int 140 0, .int 0 0, .ref 161, .int 142 0, .int 0 0, .ref 166, .int 154 0, .int 0 0, .ref 173, .int 159 0, .int 0 0, .ref 178, .int 176 0, .int 0 0, .ref 185, .int 257 0, .int 0 0, .ref 317, .int 266 0, .int 0 0, .ref 338, .int 282 0, .int 0 0, .ref 368, .int 288 0, .int 0 0, .ref 375, .int 295 0, .int 0 0, .ref 382, .int 297 0, .int 0 0, .ref 389, .int 307 0, .int 0 0, .ref 394, .int 311 0, .int 0 0, .ref 401, .int 317 0, .int 0 0, .ref 408, .int 325 0, .int 0 0, .ref 415, .int 352 0, .int 0 0, .ref 422, .int 369 0, .int 0 0, .ref 427] },
  sbO w os 13,
  sbO w os 14,
  oE,
  fh (topS 0) "_wall",
  oT,
  { cls := .type "builtin_function_or_method", data := .fields #[.builtin "type.__prepare__", .type "type"] },
  { cls := .type "dict", data := .dict #[en P "__module__" 203 (.str "lendcore.mir" 194), en P "__qualname__" 205 (.str "Body" 204), en P "__firstlineno__" 207 (.int 5 206), en P "__init__" 219 (.ref 36), en P "type_of" 227 (.ref 43), en P "args" 234 (.ref 50), en P "statements" 242 (.ref 57), en P "terminator" 250 (.ref 64), en P "spot" 258 (.ref 71), en P "new_local" 268 (.ref 79), en P "__static_attributes__" 274 (.ref 80)] 11 },
  oT,
  { cls := .none, data := .fields #[.int 7 0, .int 4 0, .ref 35, .int 14 0, .int 4 0, .ref 42, .int 17 0, .int 4 0, .ref 49, .int 20 0, .int 4 0, .ref 56, .int 23 0, .int 4 0, .ref 63, .int 26 0, .int 4 0, .ref 70, .int 29 0, .int 4 0, .ref 78] },
  { cls := .type "code", data := .fields #[.str "Body" 198, .str "Body" 199, .str "/claim/cut.py" 200, .int 5 0, .int 0 0, .int 0 0, .int 0 0, .int 0 0, .ref 25, .bool false, .int 181 0, .ref 26, .none, .none, .none, .none, .int 201 0, .int 5 0, .str "/claim/cut.py" 202] },
  { cls := .type "frame", data := .plain, slots := #[some (.ref 27), some (.ref 3), some (.ref 24), none, some (.str "lendcore.mir" 194), none, some (.ref 0)] },
  oE,
  fh s36.1 "Body.__init__",
  oE,
  fh s43.1 "Body.type_of",
  oE,
  fh (metS 2 2) "Body.args",
  oE,
  fh s57.1 "Body.statements",
  oE,
  fh s64.1 "Body.terminator",
  oE,
  fh s71.1 "Body.spot",
  oE,
  fh s79.1 "Body.new_local",
  { cls := .type "super", data := .fields #[.ref 82, .ref 82, .ref 82] },
  { cls := .type "builtin_function_or_method", data := .fields #[.builtin "object.__init_subclass__", .ref 82] },
  oE,
  fh s91.1 "successors"]
noncomputable def NF1 (w : World) (os : OsState) (P : Params) : List Obj := [
  oE,
  fh s96.1 "retargeted",
  oE,
  fh s103.1 "reachable",
  oE,
  fh s110.1 "with_blocks",
  oE,
  fh s117.1 "parts_of",
  oE,
  fh (topS 10) "rebuilt",
  oE,
  fh (topS 11) "substituted",
  oE,
  fh (topS 12) "with_regions",
  oE,
  fh (topS 13) "no_region",
  oE,
  fh (topS 14) "erased",
  oE,
  fh (topS 15) "matched",
  oE,
  fh (topS 16) "field_rows",
  oE,
  fh (topS 17) "fields_of",
  oE,
  fh (topS 18) "has_drop",
  oE,
  fh s179.1 "needs_drop",
  oT,
  { cls := .type "builtin_function_or_method", data := .fields #[.builtin "type.__prepare__", .type "type"] },
  { cls := .type "dict", data := .dict #[en P "__module__" 418 (.str "lendcore.scopes" 409), en P "__qualname__" 420 (.str "Scopes" 419), en P "__firstlineno__" 422 (.int 176 421), en P "__init__" 428 (.ref 191), en P "user" 436 (.ref 198), en P "new_local" 446 (.ref 206), en P "type_of" 454 (.ref 213), en P "new_block" 461 (.ref 220), en P "note" 468 (.ref 227), en P "put" 476 (.ref 234), en P "close" 484 (.ref 241), en P "end" 492 (.ref 248), en P "go" 500 (.ref 255), en P "push" 507 (.ref 262), en P "declare" 515 (.ref 269), en P "hold" 523 (.ref 276), en P "finish" 534 (.ref 283), en P "pop" 541 (.ref 290), en P "leave" 550 (.ref 297), en P "finished" 558 (.ref 304), en P "__static_attributes__" 568 (.ref 305)] 21 },
  oT,
  { cls := .none, data := .fields #[.int 178 0, .int 4 0, .ref 190, .int 191 0, .int 4 0, .ref 197, .int 194 0, .int 4 0, .ref 205, .int 197 0, .int 4 0, .ref 212, .int 200 0, .int 4 0, .ref 219, .int 204 0, .int 4 0, .ref 226, .int 207 0, .int 4 0, .ref 233, .int 211 0, .int 4 0, .ref 240, .int 215 0, .int 4 0, .ref 247, .int 219 0, .int 4 0, .ref 254, .int 223 0, .int 4 0, .ref 261, .int 227 0, .int 4 0, .ref 268, .int 231 0, .int 4 0, .ref 275, .int 234 0, .int 4 0, .ref 282, .int 243 0, .int 4 0, .ref 289, .int 247 0, .int 4 0, .ref 296, .int 251 0, .int 4 0, .ref 303] },
  { cls := .type "code", data := .fields #[.str "Scopes" 413, .str "Scopes" 414, .str "/claim/cut.py" 415, .int 176 0, .int 0 0, .int 0 0, .int 0 0, .int 0 0, .ref 183, .bool false, .int 181 0, .ref 184, .none, .none, .none, .none, .int 416 0, .int 176 0, .str "/claim/cut.py" 417] },
  { cls := .type "frame", data := .plain, slots := #[some (.ref 185), some (.ref 3), some (.ref 182), none, some (.str "lendcore.scopes" 409), none, some (.ref 0)] },
  oE,
  fh s191.1 "Scopes.__init__",
  oE,
  fh s198.1 "Scopes.user",
  oE]
noncomputable def NF2 (w : World) (os : OsState) (P : Params) : List Obj := [
  fh s206.1 "Scopes.new_local",
  oE,
  fh s213.1 "Scopes.type_of",
  oE,
  fh s220.1 "Scopes.new_block",
  oE,
  fh s227.1 "Scopes.note",
  oE,
  fh s234.1 "Scopes.put",
  oE,
  fh s241.1 "Scopes.close",
  oE,
  fh s248.1 "Scopes.end",
  oE,
  fh s255.1 "Scopes.go",
  oE,
  fh s262.1 "Scopes.push",
  oE,
  fh s269.1 "Scopes.declare",
  oE,
  fh s276.1 "Scopes.hold",
  oE,
  fh s283.1 "Scopes.finish",
  oE,
  fh s290.1 "Scopes.pop",
  oE,
  fh s297.1 "Scopes.leave",
  oE,
  fh s304.1 "Scopes.finished",
  { cls := .type "super", data := .fields #[.ref 307, .ref 307, .ref 307] },
  { cls := .type "builtin_function_or_method", data := .fields #[.builtin "object.__init_subclass__", .ref 307] },
  oT,
  { cls := .type "builtin_function_or_method", data := .fields #[.builtin "type.__prepare__", .type "type"] },
  { cls := .type "dict", data := .dict #[en P "__module__" 585 (.str "lendcore.check_exprs" 576), en P "__qualname__" 587 (.str "TypedFn" 586), en P "__firstlineno__" 589 (.int 257 588), en P "__init__" 601 (.ref 325), en P "__static_attributes__" 607 (.ref 326)] 5 },
  oT,
  { cls := .none, data := .fields #[.int 259 0, .int 4 0, .ref 324] },
  { cls := .type "code", data := .fields #[.str "TypedFn" 580, .str "TypedFn" 581, .str "/claim/cut.py" 582, .int 257 0, .int 0 0, .int 0 0, .int 0 0, .int 0 0, .ref 315, .bool false, .int 181 0, .ref 316, .none, .none, .none, .none, .int 583 0, .int 257 0, .str "/claim/cut.py" 584] },
  { cls := .type "frame", data := .plain, slots := #[some (.ref 317), some (.ref 3), some (.ref 314), none, some (.str "lendcore.check_exprs" 576), none, some (.ref 0)] },
  oE,
  fh s325.1 "TypedFn.__init__"]
noncomputable def NF3 (w : World) (os : OsState) (P : Params) : List Obj := [
  { cls := .type "super", data := .fields #[.ref 328, .ref 328, .ref 328] },
  { cls := .type "builtin_function_or_method", data := .fields #[.builtin "object.__init_subclass__", .ref 328] },
  oT,
  { cls := .type "builtin_function_or_method", data := .fields #[.builtin "type.__prepare__", .type "type"] },
  { cls := .type "dict", data := .dict #[en P "__module__" 624 (.str "lendcore.world" 615), en P "__qualname__" 626 (.str "World" 625), en P "__firstlineno__" 628 (.int 266 627), en P "__init__" 636 (.ref 347), en P "is_field_seen" 647 (.ref 354), en P "__static_attributes__" 656 (.ref 355)] 6 },
  oT,
  { cls := .none, data := .fields #[.int 268 0, .int 4 0, .ref 346, .int 278 0, .int 4 0, .ref 353] },
  { cls := .type "code", data := .fields #[.str "World" 619, .str "World" 620, .str "/claim/cut.py" 621, .int 266 0, .int 0 0, .int 0 0, .int 0 0, .int 0 0, .ref 336, .bool false, .int 181 0, .ref 337, .none, .none, .none, .none, .int 622 0, .int 266 0, .str "/claim/cut.py" 623] },
  { cls := .type "frame", data := .plain, slots := #[some (.ref 338), some (.ref 3), some (.ref 335), none, some (.str "lendcore.world" 615), none, some (.ref 0)] },
  oE,
  fh s347.1 "World.__init__",
  oE,
  fh (metS 25 1) "World.is_field_seen",
  { cls := .type "super", data := .fields #[.ref 357, .ref 357, .ref 357] },
  { cls := .type "builtin_function_or_method", data := .fields #[.builtin "object.__init_subclass__", .ref 357] },
  oE,
  fh s369.1 "_law_pool",
  oE,
  fh s376.1 "_law_take",
  oT,
  oE,
  { cls := .type "tuple", data := .seq #[.str "source" 690, .str "things" 691] },
  oT,
  fh (topS 30) "_law_one",
  { cls := .type "code", data := .fields #[.str "_law_one" 687, .str "_law_one" 688, .str "/claim/cut.py" 689, .int 295 0, .int 2 0, .int 0 0, .int 0 0, .int 3 0, .ref 377, .bool true, .int 181 0, .ref 378, .none, .ref 379, .ref 380, .ref 381, .int 692 0, .int 295 0, .str "/claim/cut.py" 693] },
  fo (topS 30) "_law_one" (.none) (.none) (.str "law_nu0384_01" 664) (.ref 382),
  oE,
  fh s390.1 "_law_type",
  oE,
  fh s395.1 "_law_has_box",
  oE,
  fh s402.1 "_law_ended",
  oE,
  fh s409.1 "_law_declared",
  oE,
  fh s416.1 "_law_deed_right",
  oE,
  fh s423.1 "_law_way",
  oE,
  fh s428.1 "law"]
noncomputable def mg : Nat → Nat → Frag → List Obj → List Obj
  | 0, _, _, N => N
  | n + 1, a, K, N => match K with
    | (b, o) :: K' => match Nat.beq a b with
      | true => o :: mg n (a + 1) K' N
      | false => match N with
        | x :: N' => x :: mg n (a + 1) K N'
        | [] => []
    | [] => N
noncomputable def KO (w : World) (os : OsState) : List Obj := mg 500 0 (KF w.params) (NF0 w os w.params ++ (NF1 w os w.params ++ (NF2 w os w.params ++ (NF3 w os w.params))))
mutual
noncomputable def ev : List Obj → List Obj
  | [] => []
  | x :: l => x :: od l
noncomputable def od : List Obj → List Obj
  | [] => []
  | _ :: l => ev l
end
noncomputable def mk2 : Nat → List Obj → BT
  | 0, _ => .nil
  | n + 1, l => match l with
    | o :: r => .node o (mk2 n (ev r)) (mk2 n (od r))
    | [] => .nil
noncomputable def XF (w : World) (os : OsState) : SharedT := { tree := mk2 12 (KO w os), n := 429, life := {}, gens := #[], drawn := {}, toks := 775, os := os }
noncomputable def SF (w : World) (os : OsState) : Shared := (qRun qTab pw w 11 an6 2 (XF w os).abs ⟨doneF .next, cE, pF, BF⟩).getD (S0 w os)
theorem run1 (w : World) (os : OsState) : segRunT treeTable pw w 11 an6 1 2529 (TX w os) (piecesOf bE envM cE p0 BF) = some (.next, XF w os, cE, pF) := by
  rw [PySem.W.Fast.te10110043849684766642, PySem.W.Fast.te14364793385576792824]
  kernel_rfl
theorem run2 (w : World) (os : OsState) : topRun treeTable pw w 11 an6 2 (XF w os).abs ⟨doneF .next, cE, pF, BF⟩ = some (SF w os) := by
  rw [PySem.W.Fast.te14364793385576792824, PySem.W.Fast.te14082659384304107361]
  kernel_rfl
theorem look1 (w : World) (os : OsState) : (staticsOk (importedModules pw.main.body) (boot_heap w.params) (SF w os).heap && namesBound pw (SF w os).heap && gensDone (SF w os) && laidKept (boot_heap w.params) (SF w os).heap) = true := by kernel_rfl
theorem look2 (w : World) (os : OsState) : openSeen vq [] (importedModules pw.main.body) Xt true (SF w os) = openGood vq [] := by
  rw [PySem.W.Fast.te4187177175401517315, PySem.W.Fast.te5923862056798008813]
  kernel_rfl
theorem look3 (w : World) (os : OsState) : HK.obs (SF w os) = HK.val w := by kernel_rfl
theorem runA (w : World) (os : OsState) (r2 : topRun treeTable pw w 11 an6 2 (XF w os).abs ⟨doneF .next, cE, pF, BF⟩ = some (SF w os)) : topRun treeTable pw w 11 an6 2 (XF w os).abs (restOf [] envM cE pF BF) = some (SF w os) := r2
theorem runB (w : World) (os : OsState) (r1 : segRunT treeTable pw w 11 an6 1 2529 (TX w os) (piecesOf bE envM cE p0 BF) = some (.next, XF w os, cE, pF)) (k : topRun treeTable pw w 11 an6 2 (XF w os).abs (restOf [] envM cE pF BF) = some (SF w os)) : topRun treeTable pw w 11 an6 (2529 + 2) (TX w os).abs (restOf (bE ++ []) envM cE p0 BF) = some (SF w os) :=
  piece_app (rest := []) (segRun_of r1) k
theorem runC (w : World) (os : OsState) (k : topRun treeTable pw w 11 an6 (2529 + 2) (TX w os).abs (restOf (bE ++ []) envM cE p0 BF) = some (SF w os)) : topRun treeTable pw w 11 an6 (2529 + 2) (TX w os).abs (restOf bE envM cE p0 BF) = some (SF w os) := by
  rw [List.append_nil] at k; exact k
theorem runD (w : World) (os : OsState) (k : topRun treeTable pw w 11 an6 (2529 + 2) (TX w os).abs (restOf bE envM cE p0 BF) = some (SF w os)) : topRun treeTable pw w 11 an6 (12 + (1 + (2529 + 2))) (S0 w os) (topStub pw) = some (SF w os) :=
  go_top (pre w os) (piece_block (block w os) k)
theorem runAll (w : World) (os : OsState) : topRun treeTable pw w 11 an6 (12 + (1 + (2529 + 2))) (S0 w os) (topStub pw) = some (SF w os) :=
  runD w os (runC w os (runB w os (run1 w os) (runA w os (run2 w os))))
theorem opn (w : World) : (fencedOpening treeTable pw w 5200).map (fun s => (s.heap, s.gens, s.drawn, s.toks)) = some (boot_heap w.params, Array.mk [], boot_drawn, boot_toks) :=
  boot_open (p := pw) (N := 5200) (by kernel_rfl) (by decide) (fun s => by kernel_rfl) w
theorem siz (w : World) : ((boot_heap w.params).isNs mainGlobals && (Array.mk ([] : List GenState)).size == 0, (boot_heap w.params).objs.size, (boot_heap w.params).nsMap mainGlobals "__annotations__") = (true, 11, an6) := by kernel_rfl
theorem leftAt {p q : Program} {loose : List Str} {Xt : Shared → Bool} {α : Type} {Yf : Shared → α} {Ya : World → α} {N M m₀ k₀ : Nat} {H₀ : Params → Heap} {gs₀ : Array GenState} {d₀ : Drawn} {ann : Option Value} {S₁ : World → OsState → Shared}
    (opn : ∀ w : World, (fencedOpening treeTable p w N).map (fun s => (s.heap, s.gens, s.drawn, s.toks)) = some (H₀ w.params, gs₀, d₀, k₀))
    (siz : ∀ w : World, ((H₀ w.params).isNs mainGlobals && gs₀.size == 0, (H₀ w.params).objs.size, (H₀ w.params).nsMap mainGlobals "__annotations__") = (true, m₀, ann))
    (run : ∀ (w : World) (os : OsState), topRun treeTable p w m₀ ann M ⟨H₀ w.params, gs₀, d₀, k₀, os⟩ (topStub p) = some (S₁ w os)) (le : M ≤ N)
    (l1 : ∀ (w : World) (os : OsState), (staticsOk (importedModules p.main.body) (H₀ w.params) (S₁ w os).heap && namesBound p (S₁ w os).heap && gensDone (S₁ w os) && laidKept (H₀ w.params) (S₁ w os).heap) = true)
    (l2 : ∀ (w : World) (os : OsState), openSeen q loose (importedModules p.main.body) Xt true (S₁ w os) = openGood q loose) (l3 : ∀ (w : World) (os : OsState), Yf (S₁ w os) = Ya w) : LeftO p q loose Xt Yf Ya N := fun w => by
  obtain ⟨⟨h, gs, d, k, os⟩, e, e'⟩ := Option.map_eq_some_iff.mp (opn w)
  simp only [Prod.mk.injEq] at e'
  obtain ⟨rfl, rfl, rfl, rfl⟩ := e'
  have z := siz w
  simp only [Prod.mk.injEq] at z
  obtain ⟨z1, z2, z3⟩ := z
  have r := topRun_mono (N - M) _ _ _ _ (run w os)
  rw [show M + (N - M) = N by omega] at r
  have l1 := l1 w os
  have l2 := l2 w os
  have l3 := l3 w os
  generalize S₁ w os = s at r l1 l2 l3
  have t : topFrom treeTable p w N ⟨H₀ w.params, gs, d, k, os⟩ = some s := by
    unfold topFrom
    dsimp only
    rw [z1, z2, z3, r]
    show (match staticsOk (importedModules p.main.body) (H₀ w.params) s.heap && namesBound p s.heap && gensDone s && laidKept (H₀ w.params) s.heap with | true => _ | false => _) = _
    rw [l1]
  unfold openEnds
  rw [e]
  show (topFrom treeTable p w N ⟨H₀ w.params, gs, d, k, os⟩).map _ = _
  rw [t]
  exact congrArg some (Prod.ext l2 l3)
theorem left : LeftO pw vq [] Xt HK.obs HK.val 5200 := leftAt (M := 12 + (1 + (2529 + 2))) (S₁ := SF) opn siz runAll (by decide) look1 look2 look3
theorem dOk : (defOf vq "law").isSome = true := by kernel_rfl
noncomputable def dLaw : DefRec := ((defOf vq "law").get dOk).1
noncomputable def kwL : List (Str × Expr) := ((defOf vq "law").get dOk).2
theorem dName : dLaw.name = "law" := by kernel_rfl
theorem hd (call : WalkO vq [] (XL vq []) HK.says PySem.Challenge.rw_nu0384_01.row.toRowW dLaw kwL fun f vs => PySem.call f vs) : PySem.Challenge.rw_nu0384_01.Holds :=
  holds_law said fun s1 => holds_open (q := vq) (loose := []) (Xt := Xt) (XP := XL vq []) (Yf := HK.obs) (Ya := HK.val) (YP := HK.says) (N := 5200) left HK.of HK.keeps (fun s e => xl_of s (Bool.and_eq_true_iff.mp e).1) XL.keeps (by kernel_rfl) (by kernel_rfl) (by kernel_rfl)
    (fun s e => recFacts_of (Bool.and_eq_true_iff.mp e).2) (by rfl) s1 (by decide +kernel) ⟨rfl, rfl, rfl, rfl, rfl, by decide +kernel⟩ (by w_witness2) call
open PySem.Calls
noncomputable abbrev KH (w : World) : Frag := KF w.params
noncomputable abbrev Mp := Addr → Option Obj
noncomputable def put (σ : Mp) (a : Addr) (o : Obj) : Mp := fun b => if b = a then some o else σ b
theorem put_self {σ : Mp} {a : Addr} {o : Obj} : put σ a o a = some o := if_pos rfl
theorem put_ne {σ : Mp} {a b : Addr} {o : Obj} (h : b ≠ a) : put σ a o b = σ b := if_neg h
noncomputable def ms (x : Str) (v : Value) (m : Str → Option Value) : Str → Option Value := fun y => if y = x then some v else m y
theorem hide {G : Prop} (h : ∀ C : Prop, (G → C) → C) : G := h G id
noncomputable def Hi (a : Addr) : Prop := 429 ≤ a ∨ a = 105
theorem Hi.ne {a : Addr} (h : Hi a) : a ≠ (0 : Nat) ∧ a ≠ (4 : Nat) :=
  ⟨by rintro rfl; rcases h with h | h <;> exact absurd h (by decide), by rintro rfl; rcases h with h | h <;> exact absurd h (by decide)⟩
theorem KH_no (w : World) : (KH w).lookup 105 = none := by kernel_rfl
theorem KH_keys (w : World) : (KH w).all (fun p => Nat.blt p.1 429) = true := by kernel_rfl
theorem KH_lt {w : World} {a : Addr} {o : Obj} (h : (KH w).lookup a = some o) : a < 429 := by
  have : ∀ {l : Frag}, l.all (fun p => Nat.blt p.1 429) = true → l.lookup a = some o → a < 429 := by
    intro l
    induction l with
    | nil => intro _ h; cases h
    | cons p l ih =>
      intro h1 h2
      refine hide fun CCC kkk => ?_
      obtain ⟨b, o'⟩ := p
      refine kkk ?_; clear kkk
      simp only [List.all_cons, Bool.and_eq_true] at h1
      rw [List.lookup_cons] at h2
      cases hb : a == b with
      | true => rw [beq_iff_eq.mp hb]; exact Nat.le_of_ble_eq_true h1.1
      | false => rw [hb] at h2; exact ih h1.2 h2
  exact this (KH_keys w) h
theorem KH_ne {w : World} {a b : Addr} {o : Obj} (h : (KH w).lookup a = some o) (hb : Hi b) : a ≠ b := by
  rintro rfl
  rcases hb with q | q
  · exact absurd (KH_lt h) (Nat.not_lt.mpr q)
  · rw [q, KH_no] at h; cases h
structure Bs (w : World) (σ : Mp) : Prop where
  k : ∀ a o, (KH w).lookup a = some o → σ a = some o
  b : ∃ o es ep, σ builtinsNs = some o ∧ o.data = .dict es ep ∧ StrKeys es ∧ ∀ x : Str, x ≠ "__name__" → nsFind es x = bootBuiltins x
  m : ∃ o, σ 4 = some o ∧ o.cls = .type "module" ∧ o.dict = some builtinsNs ∧ o.data = .plain
structure Ok (w : World) (σ : Mp) (h : Heap) : Prop where
  base : Bs w σ
  sub : ∀ a o, σ a = some o → h.get? a = some o
structure Ps (σ : Mp) (h : Heap) (σ' : Mp) (h' : Heap) : Prop where
  kept : ∀ a o, h.get? a = some o → σ a = none → h'.get? a = some o
  dom : ∀ a o, σ' a = some o → σ a = none → h.get? a = none
  up : ∀ a o, σ a = some o → ∃ o', σ' a = some o'
theorem Ps.refl (σ : Mp) (h : Heap) (sub : ∀ a o, σ a = some o → h.get? a = some o) : Ps σ h σ h :=
  ⟨fun _ _ e _ => e, fun _ _ e n => (by rw [n] at e; cases e), fun _ o e => ⟨o, e⟩⟩
theorem Ps.trans {σ₁ σ₂ σ₃ : Mp} {h₁ h₂ h₃ : Heap} (x : Ps σ₁ h₁ σ₂ h₂) (y : Ps σ₂ h₂ σ₃ h₃) : Ps σ₁ h₁ σ₃ h₃ := by
  refine ⟨fun a o e n => ?_, fun a o e n => ?_, fun a o e => let ⟨o', e'⟩ := x.up a o e; y.up a o' e'⟩
  · refine y.kept a o (x.kept a o e n) ?_
    cases q : σ₂ a with
    | none => rfl
    | some o' => rw [x.dom a o' q n] at e; cases e
  · cases q : σ₂ a with
    | some o' => exact x.dom a o' q n
    | none =>
      cases r : h₁.get? a with
      | none => rfl
      | some o' =>
        have := y.dom a o e q
        rw [x.kept a o' r n] at this; cases this
structure Fm (w : World) (σ₀ : Mp) (h₀ : Heap) (σ : Mp) (L : Addr) (h : Heap) (m : Str → Option Value) : Prop where
  ok : Ok w σ h
  ns : h.Ns L m
  out : σ L = none
  new : h₀.get? L = none
  ps : Ps σ₀ h₀ σ h
section
variable {w : World} {σ₀ σ σ' : Mp} {h₀ h h' : Heap} {L a : Addr} {m m' : Str → Option Value} {o o' : Obj}
theorem Fm.K (F : Fm w σ₀ h₀ σ L h m) : (KH w).In h := fun a o e => F.ok.sub a o (F.ok.base.k a o e)
theorem Ok.K (O : Ok w σ h) : (KH w).In h := fun a o e => O.sub a o (O.base.k a o e)
theorem Ok.size (O : Ok w σ h) : Hi h.objs.size := by
  have : (KH w).lookup 428 ≠ none := by
    intro e
    have : ((KH w).lookup 428).isSome = true := by kernel_rfl
    rw [e] at this; cases this
  cases q : (KH w).lookup 428 with
  | none => exact absurd q this
  | some o => exact .inl (Heap.lt_size (O.K _ _ q))
theorem Fm.store (F : Fm w σ₀ h₀ σ L h m) (hn : h'.Ns L m') (hs : Heap.SameBut L h h') : Fm w σ₀ h₀ σ L h' m' := by
  refine ⟨⟨F.ok.base, fun a o e => ?_⟩, hn, F.out, F.new, ⟨fun a o e n => ?_, F.ps.dom, F.ps.up⟩⟩
  · rw [hs.2 a (fun q => by rw [q, F.out] at e; cases e)]; exact F.ok.sub a o e
  · rw [hs.2 a (fun q => by rw [q, F.new] at e; cases e)]; exact F.ps.kept a o e n
theorem Fm.push (F : Fm w σ₀ h₀ σ L h m) (o : Obj) : Fm w σ₀ h₀ σ L (h.push o) m :=
  ⟨⟨F.ok.base, fun a o' e => Heap.get?_push_of_some _ (F.ok.sub a o' e)⟩, F.ns.push o, F.out, F.new,
   ⟨fun a o' e n => Heap.get?_push_of_some _ (F.ps.kept a o' e n), F.ps.dom, F.ps.up⟩⟩
theorem put_up {b : Addr} (e : ∃ x, σ b = some x) : ∃ x, put σ a o b = some x := by
  by_cases q : b = a
  · subst q; exact ⟨o, put_self⟩
  · obtain ⟨x, e⟩ := e; exact ⟨x, by rw [put_ne q]; exact e⟩
theorem Bs.put (B : Bs w σ) (ha : Hi a) : Bs w (put σ a o) := by
  refine ⟨fun b ob e => ?_, ?_, ?_⟩
  · rw [put_ne (KH_ne e ha)]; exact B.k b ob e
  · refine hide fun CCC kkk => ?_
    obtain ⟨ob, es, ep, e, r⟩ := B.b
    refine kkk ?_; clear kkk
    exact ⟨ob, es, ep, (put_ne (Ne.symm ha.ne.1)).trans e, r⟩
  · refine hide fun CCC kkk => ?_
    obtain ⟨ob, e, r⟩ := B.m
    refine kkk ?_; clear kkk
    exact ⟨ob, (put_ne (Ne.symm ha.ne.2)).trans e, r⟩
theorem Ok.fresh (O : Ok w σ h) : σ h.objs.size = none := by
  cases q : σ h.objs.size with
  | none => rfl
  | some o => exact absurd (Heap.lt_size (O.sub _ _ q)) (Nat.lt_irrefl _)
theorem Ok.alloc (O : Ok w σ h) (hf : o.isFreed = false) : Ok w (put σ h.objs.size o) (h.push o) := by
  refine ⟨O.base.put O.size, fun a o' e => ?_⟩
  by_cases q : a = h.objs.size
  · subst q; rw [put_self] at e; cases e; exact Heap.get?_push_size _ hf
  · rw [put_ne q] at e; exact Heap.get?_push_of_some _ (O.sub a o' e)
theorem Fm.alloc (F : Fm w σ₀ h₀ σ L h m) (hf : o.isFreed = false) : Fm w σ₀ h₀ (put σ h.objs.size o) L (h.push o) m := by
  have hL : L < h.objs.size := F.ns.lt
  refine ⟨F.ok.alloc hf, F.ns.push o, by rw [put_ne (Nat.ne_of_lt hL)]; exact F.out, F.new, ⟨fun a o' e n => Heap.get?_push_of_some _ (F.ps.kept a o' e n), fun a o' e n => ?_, fun a o e => put_up (F.ps.up a o e)⟩⟩
  by_cases q : a = h.objs.size
  · subst q
    cases r : h₀.get? h.objs.size with
    | none => rfl
    | some o'' => exact absurd (Heap.lt_size (F.ps.kept _ _ r n)) (Nat.lt_irrefl _)
  · rw [put_ne q] at e; exact F.ps.dom a o' e n
theorem Fm.change (F : Fm w σ₀ h₀ σ L h m) (ha : Hi a) (hσ : σ a = some o) (hs : Heap.SameBut a h h') (ho : h'.get? a = some o') : Fm w σ₀ h₀ (put σ a o') L h' m := by
  have hL : L ≠ a := fun q => by rw [← q, F.out] at hσ; cases hσ
  refine ⟨⟨F.ok.base.put ha, fun b ob e => ?_⟩, F.ns.sameBut hs hL, by rw [put_ne hL]; exact F.out, F.new, ⟨fun b ob e n => ?_, fun b ob e n => ?_, fun a o e => put_up (F.ps.up a o e)⟩⟩
  · by_cases q : b = a
    · subst q; rw [put_self] at e; cases e; exact ho
    · rw [put_ne q] at e; rw [hs.2 b q]; exact F.ok.sub b ob e
  · rw [hs.2 b]
    · exact F.ps.kept b ob e n
    · intro q; subst q
      rw [F.ps.dom b o hσ n] at e; cases e
  · by_cases q : b = a
    · subst q; exact F.ps.dom b o hσ n
    · rw [put_ne q] at e; exact F.ps.dom b ob e n
theorem Fm.call (F : Fm w σ₀ h₀ σ L h m) (O : Ok w σ' h') (P : Ps σ h σ' h') : Fm w σ₀ h₀ σ' L h' m := by
  refine ⟨O, ?_, ?_, F.new, F.ps.trans P⟩
  · refine hide fun CCC kkk => ?_
    obtain ⟨o, es, ep, ho, r⟩ := F.ns
    refine kkk ?_; clear kkk
    exact ⟨o, es, ep, P.kept L o ho F.out, r⟩
  · cases q : σ' L with
    | none => rfl
    | some o =>
      refine hide fun CCC kkk => ?_
      obtain ⟨o', _, _, ho, _⟩ := F.ns
      refine kkk ?_; clear kkk
      rw [P.dom L o q F.out] at ho; cases ho
end
noncomputable def Room (k : Nat) (A : Around) : Prop := A.depth + k ≤ 900 ∧ A.units + 4 * k ≤ 9000 ∧ A.handled = none
theorem Room.deeper {k : Nat} {A : Around} {e : Env} (R : Room (k + 1) A) : Room k (A.deeper e) := by
  refine hide fun CCC kkk => ?_
  obtain ⟨a, b, c⟩ := R
  refine kkk ?_; clear kkk
  exact ⟨by show A.depth + 1 + k ≤ 900; lia, by show A.units + 3 + 4 * k ≤ 9000; lia, c⟩
theorem Room.in1 {k : Nat} {A : Around} (R : Room (k + 1) A) : Room k A.in1 := by
  refine hide fun CCC kkk => ?_
  obtain ⟨a, b, c⟩ := R
  refine kkk ?_; clear kkk
  exact ⟨by show A.depth + k ≤ 900; lia, by show A.units + 1 + 4 * k ≤ 9000; lia, c⟩
theorem Room.le {k j : Nat} {A : Around} (R : Room k A) (h : j ≤ k) : Room j A := ⟨by have := R.1; lia, by have := R.2.1; lia, R.2.2⟩
theorem Room.depth {k : Nat} {A : Around} (R : Room k A) : A.depth < recursionLimit := by have := R.1; unfold recursionLimit; lia
theorem Room.units {k : Nat} {A : Around} (R : Room k A) : A.units < cLine := by have := R.2.1; unfold cLine; lia
section
variable {prog : Program} {w : World} {A : Around} {E : Value → Shared → Prop} {σ₀ σ : Mp} {h₀ h : Heap} {g : Array GenState} {d : Drawn} {t : Nat} {os : OsState} {L : Addr} {m : Str → Option Value}
  {name qual : Str} {scope : Scope} {f : Addr} {cd : Value} {x : Str} {pos : Pos} {v : Value}
theorem nolimit (K : (KH w).In h) : h.NoLimit := by
  have e : (KH w).lookup cStatics = some { cls := .none, data := .dict #[] } := by kernel_rfl
  exact ⟨fun _ => none, ⟨_, #[], 0, K _ _ e, rfl, fun _ he => by simp at he, fun _ => rfl⟩, rfl⟩
theorem enter {Q : Value → Shared → Prop} {params : Arguments} {body : List Stmt} {dV kV doc pm ct oc : Value} {an od : Option Addr} {osl : Array (Option Value)} {args : List Value} {binds : List (Str × Value)} {k : Nat}
    (O : Ok w σ h) (R : Room k A)
    (ho : (KH w).lookup f = some ⟨oc, od, .func (fnOf name qual params body scope dV kV doc pm an cd ct), osl⟩) (hcd : codeIn (KH w) cd qual = true)
    (hbind : BindsTo ⟨h, g, d, t, os⟩ (fnOf name qual params body scope dV kV doc pm an cd ct) ⟨args, []⟩ binds)
    (hloc : (binds.all fun y => scope.names.lookup y.1 == some .local) = true) (hcell : (scope.names.all fun y => y.2 != .cell) = true)
    (h1 : ∀ L h₁, Fm w σ h σ L h₁ (fun y => binds.reverse.lookup y) →
      wpAny (model prog w) (A.deeper (envOf qual scope L f cd)) (execs body (envOf qual scope L f cd))
        (fun fl s' => Q (match fl with | .ret v => v | _ => .none) s') (fun _ _ => False) ⟨h₁, g, d, t + binds.length, os⟩)
    (hco : scope.isCoroutine = false) (hgen : scope.isGenerator = false) (hk : scope.kind = .function) :
    wpAny (model prog w) A (call (.ref f) args) Q E ⟨h, g, d, t, os⟩ := by
  refine wpAny_call ?_
  refine codeAny_call_def (fd := fnOf name qual params body scope dV kV doc pm an cd ct) (body := body) (binds := binds) R.depth (O.K _ _ ho) rfl (nolimit O.K) (codeRec_of O.K hcd) rfl hbind
    (fun x hx e => by have := List.all_eq_true.mp hcell x hx; rw [e] at this; exact absurd this (by decide)) (fun x hx => beq_iff_eq.mp (List.all_eq_true.mp hloc x hx)) (fun h₁ hns hk₁ => ?_) hco hgen hk
  have F : Fm w σ h σ h.objs.size h₁ (fun y => binds.reverse.lookup y) := by
    refine ⟨⟨O.base, fun a o e => hk₁ a o (O.sub a o e)⟩, hns, O.fresh, ?_, ⟨fun a o e _ => hk₁ a o e, fun a o e n => (by rw [n] at e; cases e), fun _ o e => ⟨o, e⟩⟩⟩
    cases q : h.get? h.objs.size with
    | none => rfl
    | some o => exact absurd (Heap.lt_size q) (Nat.lt_irrefl _)
  exact wpAny_mono (h1 _ h₁ F) (fun fl s' q => q) fun _ _ q => q.elim
theorem ldF {Q : Value → Shared → Prop} (F : Fm w σ₀ h₀ σ L h m) (hv : m x = some v) (q : Q v ⟨h, g, d, t, os⟩)
    (hk : scope.kind = .function := by rfl) (hl : (envOf name scope L f cd).kindOf x = some .local := by rfl)
    (hd : (x == ("__debug__" : Str)) = false := by rfl) : wpAny (model prog w) A (eval (.Name x pos) (envOf name scope L f cd)) Q E ⟨h, g, d, t, os⟩ :=
  wpAny_Name (wpAny_loadName_local hk hl F.ns hv q) hd
theorem stF {Q : Unit → Shared → Prop} (F : Fm w σ₀ h₀ σ L h m)
    (q : ∀ h', Fm w σ₀ h₀ σ L h' (ms x v m) → Q () ⟨h', g, d, t + 1, os⟩)
    (hk : scope.kind = .function := by rfl) (hl : (envOf name scope L f cd).kindOf x = some .local := by rfl) :
    wpAny (model prog w) A (storeName (envOf name scope L f cd) x v) Q E ⟨h, g, d, t, os⟩ :=
  wpAny_storeName_local hl F.ns (fun h' hn hs => q h' (F.store hn hs))
    (by show (scope.kind == .class || (scope.kind == .module && L != mainGlobals)) = false; rw [hk]; rfl)
end
noncomputable def AtK (k : Nat) (od : Obj) (am : Str → Option Value) : Prop :=
  ∃ es n, od = dictOf es n ∧ (∀ e ∈ es, ∃ x t, e.key = .str x t) ∧ es.length ≤ k ∧ ∀ x, getL x es = some (am x)
noncomputable abbrev AtD (od : Obj) (am : Str → Option Value) : Prop := AtK 100 od am
noncomputable def ObjIs (σ : Mp) (x dx C : Addr) (am : Str → Option Value) : Prop := ∃ od, σ x = some (instObj C dx) ∧ σ dx = some od ∧ AtD od am
noncomputable def attrOk (K : Frag) (C : Addr) (name : Str) : Bool := plainGet K C name && hasDictIn K C && (findIn K (.ref C) name == some none)
noncomputable def methOk (K : Frag) (C : Addr) (name : Str) (f : Addr) : Bool := plainGet K C name && (findIn K (.ref C) name == some (some (.ref f))) && isFn K (.ref f)
section
variable {prog : Program} {w : World} {A : Around} {E : Value → Shared → Prop} {σ₀ σ : Mp} {h₀ h : Heap} {g : Array GenState} {d : Drawn} {t : Nat} {os : OsState} {L : Addr} {m : Str → Option Value}
  {name qual : Str} {scope : Scope} {f : Addr} {cd : Value} {x : Str} {pos : Pos} {v : Value}
theorem InstAt.of {x dx C : Addr} {am : Str → Option Value} (F : Fm w σ₀ h₀ σ L h m) (I : ObjIs σ x dx C am) : ∃ es n, InstAt h x (instObj C dx) C (some (dictOf es n)) ∧ (∀ e ∈ es, ∃ x t, e.key = .str x t) ∧ es.length ≤ 100 ∧ ∀ x, getL x es = some (am x) := by
  refine hide fun CCC kkk => ?_
  obtain ⟨od, h1, h2, es, n, rfl, r⟩ := I
  refine kkk ?_; clear kkk
  exact ⟨es, n, ⟨F.ok.sub _ _ h1, rfl, rfl, F.ok.sub _ _ h2⟩, r⟩
theorem gaF {xa dx C : Addr} {am : Str → Option Value} {Q : Value → Shared → Prop} (F : Fm w σ₀ h₀ σ L h m) (I : ObjIs σ xa dx C am) (hg : attrOk (KH w) C name = true) (hv : am name = some v) (hh : handedIn v = true)
    (q : Q v ⟨h, g, d, t + 1, os⟩) : wpAny (model prog w) A (getAttr (.ref xa) name true) Q E ⟨h, g, d, t, os⟩ := by
  refine hide fun CCC kkk => ?_
  obtain ⟨es, n, J, _, _, hl⟩ := InstAt.of F I
  refine kkk ?_; clear kkk
  unfold attrOk at hg
  simp only [Bool.and_eq_true, beq_iff_eq] at hg
  exact get_value F.K J (plainGet_of hg.1.1).1 (findObj_own hg.1.2 hg.2 rfl (by rw [lookIn_dict, hl, hv])) hh q
theorem gmF {xa dx C fa : Addr} {am : Str → Option Value} {pl : Sem Bool} {Q : Value × List Value → Shared → Prop} (F : Fm w σ₀ h₀ σ L h m) (I : ObjIs σ xa dx C am) (hg : methOk (KH w) C name fa = true) (hv : am name = none)
    (q : Q (.ref fa, [.ref xa]) ⟨h, g, d, t, os⟩) : wpAny (model prog w) A (getMethod (.ref xa) name pl) Q E ⟨h, g, d, t, os⟩ := by
  refine hide fun CCC kkk => ?_
  obtain ⟨es, n, J, _, _, hl⟩ := InstAt.of F I
  refine kkk ?_; clear kkk
  unfold methOk at hg
  simp only [Bool.and_eq_true, beq_iff_eq] at hg
  exact method_fn F.K J (plainGet_of hg.1.1).1 (plainGet_of hg.1.1).2 hg.1.2 (beq_iff_eq.mp hg.2) (by show (lookIn name (dictOf es n)).map _ = _; rw [lookIn_dict, hl, hv]; rfl) q
theorem globF {Q : Value → Shared → Prop} (F : Fm w σ₀ h₀ σ L h m) (e : nsIn (KH w) mainGlobals x = some (some v)) (q : Q v ⟨h, g, d, t, os⟩)
    (hk : scope.kind = .function := by rfl) (hx : (envOf name scope L f cd).kindOf x = some .globalImplicit := by rfl) (hd : (x == ("__debug__" : Str)) = false := by rfl) :
    wpAny (model prog w) A (eval (.Name x pos) (envOf name scope L f cd)) Q E ⟨h, g, d, t, os⟩ := by
  have e2 : ((KH w).lookup mainGlobals).isSome = true := by kernel_rfl
  refine hide fun CCC kkk => ?_
  obtain ⟨o, ho⟩ := Option.isSome_iff_exists.mp e2
  refine kkk ?_; clear kkk
  have K := F.K _ _ ho
  have G : h.Ns mainGlobals (h.nsMap mainGlobals) := .of_isNs (isNs_of_in F.K (by kernel_rfl))
  exact Calls.Name_function_global hk hx (Calls.loadGlobal_global (env := envOf name scope L f cd) G (mg_of F.K G e) q) hd
theorem bltF {Q : Value → Shared → Prop} (F : Fm w σ₀ h₀ σ L h m) (e : nsIn (KH w) mainGlobals x = some none) (hv : bootBuiltins x = some v) (hn : x ≠ "__name__") (q : Q v ⟨h, g, d, t, os⟩)
    (hk : scope.kind = .function := by rfl) (hx : (envOf name scope L f cd).kindOf x = some .globalImplicit := by rfl) (hd : (x == ("__debug__" : Str)) = false := by rfl) :
    wpAny (model prog w) A (eval (.Name x pos) (envOf name scope L f cd)) Q E ⟨h, g, d, t, os⟩ := by
  have G : h.Ns mainGlobals (h.nsMap mainGlobals) := .of_isNs (isNs_of_in F.K (by kernel_rfl))
  refine hide fun CCC kkk => ?_
  obtain ⟨o, es, ep, ho, hd', hk', hf⟩ := F.ok.base.b
  refine kkk ?_; clear kkk
  have B : h.Ns builtinsNs (nsFind es) := ⟨o, es, ep, F.ok.sub _ _ ho, hd', hk', fun _ => rfl⟩
  exact Calls.Name_function_global hk hx (Calls.loadGlobal_builtin (env := envOf name scope L f cd) G (mg_none_of F.K G e) B ((hf x hn).trans hv) q) hd
end
noncomputable abbrev tupO (vs : List Value) : Obj := { cls := .type "tuple", data := .seq vs.toArray }
noncomputable abbrev lisO (vs : List Value) (n : Nat) : Obj := listOf vs.toArray n
noncomputable def LO (σ : Mp) (a : Addr) (vs : List Value) : Prop := ∃ n, σ a = some (lisO vs n)
noncomputable def TO (σ : Mp) (a : Addr) (vs : List Value) : Prop := σ a = some (tupO vs)
noncomputable def Le (σ τ : Mp) : Prop := ∀ a o, σ a = some o → τ a = some o
noncomputable def Tk (σ τ : Mp) : Prop := ∀ a vs, TO σ a vs → TO τ a vs
theorem Le.refl (σ : Mp) : Le σ σ := fun _ _ e => e
theorem Le.trans {σ τ υ : Mp} (x : Le σ τ) (y : Le τ υ) : Le σ υ := fun a o e => y a o (x a o e)
theorem Le.put {σ : Mp} {a : Addr} (h : σ a = none) (o : Obj) : Le σ (put σ a o) := fun b ob e => by
  rw [put_ne]; exact e
  intro q; rw [q, h] at e; cases e
theorem Le.tk {σ τ : Mp} (x : Le σ τ) : Tk σ τ := fun a _ e => x a _ e
theorem Tk.refl (σ : Mp) : Tk σ σ := fun _ _ e => e
theorem Tk.trans {σ τ υ : Mp} (x : Tk σ τ) (y : Tk τ υ) : Tk σ υ := fun a o e => y a o (x a o e)
theorem Tk.put_list {σ : Mp} {a : Addr} {vs ws : List Value} {n : Nat} (h : LO σ a vs) : Tk σ (put σ a (lisO ws n)) := fun b us e => by
  unfold TO
  rw [put_ne]; exact e
  rintro rfl; obtain ⟨k, h⟩ := h; unfold TO at e; rw [h] at e
  exact absurd (show Value.type "list" = Value.type "tuple" from congrArg Obj.cls (Option.some.inj e)) (by decide)
theorem LO.le {σ τ : Mp} {a : Addr} {vs : List Value} (x : LO σ a vs) (y : Le σ τ) : LO τ a vs := x.imp fun _ e => y _ _ e
theorem TO.le {σ τ : Mp} {a : Addr} {vs : List Value} (x : TO σ a vs) (y : Le σ τ) : TO τ a vs := y _ _ x
section
variable {prog : Program} {w : World} {A : Around} {E : Value → Shared → Prop} {σ₀ σ : Mp} {h₀ h : Heap} {g : Array GenState} {d : Drawn} {t : Nat} {os : OsState} {L a D : Addr} {m : Str → Option Value}
  {name qual : Str} {scope : Scope} {f : Addr} {cd : Value} {x : Str} {pos : Pos} {v y : Value} {vs ws : List Value} {k : Nat}
theorem Fm.lst (F : Fm w σ₀ h₀ σ L h m) (l : LO σ a vs) : h.IsList a vs.toArray := let ⟨n, e⟩ := l; ⟨_, F.ok.sub _ _ e, rfl, n, rfl⟩
theorem Fm.tup (F : Fm w σ₀ h₀ σ L h m) (l : TO σ a vs) : IsTup h a vs.toArray := ⟨_, F.ok.sub _ _ l, rfl, 0, rfl⟩
theorem line (h : vs.length ≤ 1000000) : vs.toArray.size ≤ sizeLine := by rw [List.size_toArray, sizeLine_eq]; lia
theorem newTupleF {Q : Value → Shared → Prop} (F : Fm w σ₀ h₀ σ L h m) (hz : vs.length ≤ 1000000)
    (q : ∀ a h', σ a = none → Hi a → Fm w σ₀ h₀ (put σ a (tupO vs)) L h' m → Q (.ref a) ⟨h', g, d, t, os⟩) : wpAny (model prog w) A (newTuple vs) Q E ⟨h, g, d, t, os⟩ :=
  wpAny_newObj_type (q _ _ F.ok.fresh F.ok.size (F.alloc rfl)) (line hz)
theorem newListF {Q : Value → Shared → Prop} (F : Fm w σ₀ h₀ σ L h m) (hz : vs.length ≤ 1000000)
    (q : ∀ a h', σ a = none → Hi a → Fm w σ₀ h₀ (put σ a (lisO vs 0)) L h' m → Q (.ref a) ⟨h', g, d, t, os⟩) : wpAny (model prog w) A (newList vs) Q E ⟨h, g, d, t, os⟩ :=
  wpAny_newObj_type (q _ _ F.ok.fresh F.ok.size (F.alloc rfl)) (line hz)
theorem mapSeq_lis (f : Array Value → Array Value) (vs ws : List Value) (n : Nat) (e : f vs.toArray = ws.toArray) : ∃ n', Obj.mapSeq f (lisO vs n) = lisO ws n' := by
  refine ⟨if ws.toArray.size == vs.toArray.size then n else n + 1, ?_⟩
  unfold Obj.mapSeq
  simp only [e]
theorem Fm.mapSeq (F : Fm w σ₀ h₀ σ L h m) {n : Nat} (l : σ D = some (lisO vs n)) (hD : Hi D) {f : Array Value → Array Value} (e : f vs.toArray = ws.toArray) :
    ∃ n', Fm w σ₀ h₀ (put σ D (lisO ws n')) L (h.update D (Obj.mapSeq f)) m := by
  refine hide fun CCC kkk => ?_
  obtain ⟨n', e'⟩ := mapSeq_lis f vs ws n e
  refine kkk ?_; clear kkk
  refine ⟨n', F.change hD l (Heap.SameBut.update ..) ?_⟩
  rw [Heap.get?_update_self _ (F.ok.sub _ _ l) (by rw [e']; rfl), e']
theorem appendF {Q : Value → Shared → Prop} (F : Fm w σ₀ h₀ σ L h m) (l : LO σ D vs) (hD : Hi D) (hz : vs.length ≤ 1000000)
    (q : ∀ h' n, Fm w σ₀ h₀ (put σ D (lisO (vs ++ [y]) n)) L h' m → Q .none ⟨h', g, d, t, os⟩) : wpAny (model prog w) A (call (.builtin "list.append") [.ref D, y]) Q E ⟨h, g, d, t, os⟩ := by
  refine hide fun CCC kkk => ?_
  obtain ⟨n, e⟩ := l
  refine kkk ?_; clear kkk
  refine hide fun CCC kkk => ?_
  obtain ⟨n', F'⟩ := F.mapSeq (f := fun xs => xs.push y) (ws := vs ++ [y]) e hD (by simp)
  refine kkk ?_; clear kkk
  exact call_meets PySem.F.slot_list_append ⟨_, F.ok.sub _ _ e, rfl⟩ PySem.F.entry_list_append (PySem.F.args_list_append_2 _ _) (list_append D vs.toArray n y (line hz)) ⟨F.ok.sub _ _ e, q _ _ F'⟩
theorem popF {Q : Value → Shared → Prop} (F : Fm w σ₀ h₀ σ L h m) (l : LO σ D (vs ++ [y])) (hD : Hi D) (hz : vs.length + 1 ≤ 1000000)
    (q : ∀ h' n, Fm w σ₀ h₀ (put σ D (lisO vs n)) L h' m → Q y ⟨h', g, d, t, os⟩) : wpAny (model prog w) A (call (.builtin "list.pop") [.ref D]) Q E ⟨h, g, d, t, os⟩ := by
  refine hide fun CCC kkk => ?_
  obtain ⟨n, e⟩ := l
  refine kkk ?_; clear kkk
  have hk : (vs ++ [y]).toArray.size - 1 = vs.length := by rw [List.size_toArray, List.length_append]; rfl
  refine hide fun CCC kkk => ?_
  obtain ⟨n', F'⟩ := F.mapSeq (f := fun xs => xs.eraseIdxIfInBounds ((vs ++ [y]).toArray.size - 1)) (ws := vs) e hD (by
    show (vs ++ [y]).toArray.eraseIdxIfInBounds ((vs ++ [y]).toArray.size - 1) = vs.toArray
    rw [hk, kl_erase, List.append_nil])
  refine kkk ?_; clear kkk
  exact call_meets PySem.F.slot_list_pop ⟨_, F.ok.sub _ _ e, rfl⟩ PySem.F.entry_list_pop (PySem.F.args_list_pop_1 _)
    (PySem.MeetsSeq.list_pop_last D _ n y (by rw [hk]; simp) (line (by simpa using hz))) ⟨F.ok.sub _ _ e, q _ _ F'⟩
theorem extendF {Q : Value → Shared → Prop} {b : Addr} (F : Fm w σ₀ h₀ σ L h m) (l : LO σ D vs) (l2 : LO σ b ws) (hD : Hi D) (hz : vs.length + ws.length ≤ 1000000)
    (q : ∀ h' n, Fm w σ₀ h₀ (put σ D (lisO (vs ++ ws) n)) L h' m → Q .none ⟨h', g, d, t, os⟩) : wpAny (model prog w) A (call (.builtin "list.extend") [.ref D, .ref b]) Q E ⟨h, g, d, t, os⟩ := by
  refine hide fun CCC kkk => ?_
  obtain ⟨n, e⟩ := l
  refine kkk ?_; clear kkk
  refine hide fun CCC kkk => ?_
  obtain ⟨n2, e2⟩ := l2
  refine kkk ?_; clear kkk
  refine hide fun CCC kkk => ?_
  obtain ⟨n', F'⟩ := F.mapSeq (f := fun xs => xs ++ ws.toArray) (ws := vs ++ ws) e hD (by simp)
  refine kkk ?_; clear kkk
  refine call_meets PySem.F.slot_list_extend ⟨_, F.ok.sub _ _ e, rfl⟩ PySem.F.entry_list_extend (PySem.F.args_list_extend_2 _ _)
    (PySem.AutoSeq1.list_extend_list_list_0 D vs.toArray n b ws.toArray n2 ?_ (line (by lia)) ?_) ⟨F.ok.sub _ _ e, F.ok.sub _ _ e2, q _ _ F'⟩
  · unfold Builtin.List.listTooLong
    simp only [List.size_toArray, Bool.and_eq_true, decide_eq_true_eq, not_and]
    intro _; rw [sizeLine_eq]; lia
  · simp only [List.size_toArray]; rw [sizeLine_eq]; lia
theorem lenF {Q : Value → Shared → Prop} (F : Fm w σ₀ h₀ σ L h m) (l : LO σ a vs) (hz : vs.length ≤ 1000000)
    (q : ∀ tk t', Q (.int (vs.length : Nat) tk) ⟨h, g, d, t', os⟩) : wpAny (model prog w) A (call (.builtin "len") [.ref a]) Q E ⟨h, g, d, t, os⟩ :=
  len_list (F.lst l) (by rw [List.size_toArray]; lia) (by rw [List.size_toArray]; exact q _ _)
theorem itemLF {Q : Value → Shared → Prop} {value slice : Expr} {i : Nat} {u : Tok} (F : Fm w σ₀ h₀ σ L h m) (l : LO σ a vs) (hi : vs[i]? = some v) (hz : i ≤ 1000000) (q : Q v ⟨h, g, d, t, os⟩)
    (hs : subscripted slice false (.ref a) (.int i u) = operate [.ref a, .int i u] (getItem (.ref a) (.int i u)) := by with_unfolding_all rfl) :
    wpAny (model prog w) A (subscriptTail value slice (.ref a) (.int i u)) Q E ⟨h, g, d, t, os⟩ :=
  tail_any (F.lst l).typeIs slot_list_getitem.lookup (wpAny_getItem_list (F.lst l) (by lia) (by lia) (by simpa using hi) q) hs
theorem itemLastF {Q : Value → Shared → Prop} {value slice : Expr} {u : Tok} (F : Fm w σ₀ h₀ σ L h m) (l : LO σ a (vs ++ [v])) (hz : vs.length ≤ 1000000) (q : Q v ⟨h, g, d, t, os⟩)
    (hs : subscripted slice false (.ref a) (.int (-1) u) = operate [.ref a, .int (-1) u] (getItem (.ref a) (.int (-1) u)) := by with_unfolding_all rfl) :
    wpAny (model prog w) A (subscriptTail value slice (.ref a) (.int (-1) u)) Q E ⟨h, g, d, t, os⟩ :=
  tail_any (F.lst l).typeIs slot_list_getitem.lookup (wpAny_getItem_list_neg (F.lst l) (by lia) (by simp; lia) (by lia) (by
    have : (-1 + ((vs ++ [v]).toArray.size : Int)).toNat = vs.length := by simp; lia
    rw [this]; simp) q) hs
theorem itemTF {Q : Value → Shared → Prop} {value slice : Expr} {i : Nat} {u : Tok} (F : Fm w σ₀ h₀ σ L h m) (l : TO σ a vs) (hi : vs[i]? = some v) (hz : i ≤ 1000000) (q : Q v ⟨h, g, d, t, os⟩)
    (hs : subscripted slice false (.ref a) (.int i u) = operate [.ref a, .int i u] (getItem (.ref a) (.int i u)) := by with_unfolding_all rfl) :
    wpAny (model prog w) A (subscriptTail value slice (.ref a) (.int i u)) Q E ⟨h, g, d, t, os⟩ := by
  refine item_tupleT (l := vs) (j := i) (F.tup l) (by lia) (by lia) ?_ hi q hs
  have : i < vs.length := (List.getElem?_eq_some_iff.mp hi).1
  rw [seqIndex_of (by lia) (by lia)]; simp
theorem methF {Q : Value × List Value → Shared → Prop} {id : String} {pl : Sem Bool} (F : Fm w σ₀ h₀ σ L h m) (l : LO σ a vs) (slot : Slot "list" name id) (hty : typeOf (.builtin id) = pure (.type "method_descriptor"))
    (q : Q (.builtin id, [.ref a]) ⟨h, g, d, t, os⟩) : wpAny (model prog w) A (getMethod (.ref a) name pl) Q E ⟨h, g, d, t, os⟩ := by
  refine hide fun CCC kkk => ?_
  obtain ⟨n, e⟩ := l
  refine kkk ?_; clear kkk
  exact getMethod_builtin ⟨_, F.ok.sub _ _ e, rfl⟩ PySem.F.plainAttrs_list slot hty (fun b eb => by cases eb; exact ⟨_, F.ok.sub _ _ e, rfl⟩) q
theorem setI {Q : Unit → Shared → Prop} {its : Array Value} {n : Nat} {k : Int} {u : Tok} {s : Shared} (ho : s.heap.get? D = some (listOf its n)) (h0 : 0 ≤ k) (hfit : k < 2 ^ 63) (hn : k < its.size)
    (q : Q () { s with heap := s.heap.update D (Obj.mapSeq (·.setIfInBounds k.toNat v)) }) : wpAny (model prog w) A (setItem (.ref D) (.int k u) v) Q E s := by
  have hl : s.heap.IsList D its := ⟨_, ho, rfl, n, rfl⟩
  unfold setItem
  try with_reducible refine wpAny_holding ?_
  first | refine wpAny_bind (wpAny_pure ?_) | skip
  refine wpAny_bind (wpAny_sequenceKey hl.typeIs (by decide) ?_)
  refine wpAny_bind (wpAny_callSpecial?_slot (name := Str.ofString "__setitem__") hl.typeIs slot_list_setitem
    (wpAny_call_entry slot_list_setitem hl.typeIs entry_list_setitem ?_ (args_list_setitem _ _ _)))
  show wpAny _ _ (Builtin.List.listSubscript? (.int k u) >>= _) _ _ s
  refine wpAny_bind (wpAny_listSubscript_int (fitsIndex_of h0 hfit) ?_)
  clear hfit
  refine hide fun CCC kkk => ?_
  obtain ⟨j, rfl⟩ := Int.eq_ofNat_of_zero_le h0
  refine kkk ?_; clear kkk
  have hj : j < its.size := by lia
  have hx : its[j]? = some its[j] := Array.getElem?_eq_getElem hj
  show wpAny _ _ ((seqItemAt D j >>= fun r => pure (r.map (j, ·))) >>= _) _ _ s
  refine wpAny_bind (wpAny_bind (wpAny_seqItemAt ho rfl (wpAny_pure ?_)))
  rw [hx]
  show wpAny _ _ (setSeqItemAt D j v >>= _) _ _ s
  refine wpAny_bind (wpAny_setSeqItemAt ho rfl ?_)
  exact wpAny_bind (wpAny_pure (wpAny_pure ⟨.none, rfl, wpAny_pure q⟩))
theorem setLF {Q : Unit → Shared → Prop} {i : Nat} {u : Tok} (F : Fm w σ₀ h₀ σ L h m) (l : LO σ D vs) (hD : Hi D) (hi : i < vs.length) (hz : i ≤ 1000000)
    (q : ∀ h' n, Fm w σ₀ h₀ (put σ D (lisO (vs.set i v) n)) L h' m → Q () ⟨h', g, d, t, os⟩) : wpAny (model prog w) A (setItem (.ref D) (.int i u) v) Q E ⟨h, g, d, t, os⟩ := by
  refine hide fun CCC kkk => ?_
  obtain ⟨n, e⟩ := l
  refine kkk ?_; clear kkk
  refine hide fun CCC kkk => ?_
  obtain ⟨n', F'⟩ := F.mapSeq (f := fun xs => xs.setIfInBounds i v) (ws := vs.set i v) e hD (by simp)
  refine kkk ?_; clear kkk
  exact setI (its := vs.toArray) (F.ok.sub _ _ e) (by lia) (by lia) (by rw [List.size_toArray]; lia) (q _ _ F')
end
inductive Kd where
  | src
  | sc | scD | bo | boD | loc | blk | sp | frs | b (i : Nat) | st (i : Nat) | fr (i : Nat)
  | tys | rows | lfr | lf (i : Nat)
  | it (i : Nat) | il (i : Nat)
  | tab
  deriving DecidableEq
noncomputable def Kd.cl : Kd → Nat
  | .src => 0
  | .tys | .rows | .lfr | .lf _ => 2
  | .it _ | .il _ => 3
  | .tab => 4
  | _ => 1
noncomputable abbrev Hp := Kd → Option (Addr × Obj)
noncomputable def upd (H : Hp) (k : Kd) (a : Addr) (o : Obj) : Hp := fun j => if j = k then some (a, o) else H j
theorem upd_self {H : Hp} {k : Kd} {a : Addr} {o : Obj} : upd H k a o k = some (a, o) := if_pos rfl
theorem upd_ne {H : Hp} {k j : Kd} {a : Addr} {o : Obj} (h : j ≠ k) : upd H k a o j = H j := if_neg h
noncomputable def isTupO (o : Obj) : Prop := o.cls = .type "tuple"
structure HpIn (σ : Mp) (H : Hp) : Prop where
  at_ : ∀ k a o, H k = some (a, o) → σ a = some o
  hi : ∀ k a o, H k = some (a, o) → Hi a
  no : ∀ k a o, H k = some (a, o) → ¬ isTupO o
  inj : ∀ k j a o o', H k = some (a, o) → H j = some (a, o') → k = j
noncomputable def Untr (H : Hp) (a : Addr) : Prop := ∀ k o, H k ≠ some (a, o)
section
variable {σ τ : Mp} {H : Hp} {k : Kd} {a : Addr} {o o' : Obj}
theorem HpIn.le (X : HpIn σ H) (l : Le σ τ) : HpIn τ H := ⟨fun k a o e => l _ _ (X.at_ k a o e), X.hi, X.no, X.inj⟩
theorem HpIn.set (X : HpIn σ H) (e : H k = some (a, o)) (hn : ¬ isTupO o') : HpIn (put σ a o') (upd H k a o') := by
  refine ⟨fun j b ob ej => ?_, fun j b ob ej => ?_, fun j b ob ej => ?_, fun j i b ob ob' ej ei => ?_⟩
  · by_cases q : j = k
    · subst q; rw [upd_self] at ej; cases ej; exact put_self
    · rw [upd_ne q] at ej
      rw [put_ne]; exact X.at_ j b ob ej
      rintro rfl; exact q (X.inj j k _ _ _ ej e)
  · by_cases q : j = k
    · subst q; rw [upd_self] at ej; cases ej; exact X.hi _ _ _ e
    · rw [upd_ne q] at ej; exact X.hi _ _ _ ej
  · by_cases q : j = k
    · subst q; rw [upd_self] at ej; cases ej; exact hn
    · rw [upd_ne q] at ej; exact X.no _ _ _ ej
  · by_cases q : j = k <;> by_cases r : i = k
    · rw [q, r]
    · subst q; rw [upd_self] at ej; rw [upd_ne r] at ei; cases ej; exact X.inj _ _ _ _ _ e ei
    · subst r; rw [upd_self] at ei; rw [upd_ne q] at ej; cases ei; exact X.inj _ _ _ _ _ ej e
    · rw [upd_ne q] at ej; rw [upd_ne r] at ei; exact X.inj _ _ _ _ _ ej ei
theorem HpIn.add (X : HpIn σ H) (hσ : σ a = none) (ha : Hi a) (hn : ¬ isTupO o) : HpIn (put σ a o) (upd H k a o) := by
  have ne : ∀ j b ob, H j = some (b, ob) → b ≠ a := fun j b ob e q => by have := X.at_ _ _ _ e; rw [q, hσ] at this; cases this
  refine ⟨fun j b ob ej => ?_, fun j b ob ej => ?_, fun j b ob ej => ?_, fun j i b ob ob' ej ei => ?_⟩
  · by_cases q : j = k
    · subst q; rw [upd_self] at ej; cases ej; exact put_self
    · rw [upd_ne q] at ej; rw [put_ne (ne _ _ _ ej)]; exact X.at_ j b ob ej
  · by_cases q : j = k
    · subst q; rw [upd_self] at ej; cases ej; exact ha
    · rw [upd_ne q] at ej; exact X.hi _ _ _ ej
  · by_cases q : j = k
    · subst q; rw [upd_self] at ej; cases ej; exact hn
    · rw [upd_ne q] at ej; exact X.no _ _ _ ej
  · by_cases q : j = k <;> by_cases r : i = k
    · rw [q, r]
    · subst q; rw [upd_self] at ej; rw [upd_ne r] at ei; cases ej; exact absurd rfl (ne _ _ _ ei)
    · subst r; rw [upd_self] at ei; rw [upd_ne q] at ej; cases ei; exact absurd rfl (ne _ _ _ ej)
    · rw [upd_ne q] at ej; rw [upd_ne r] at ei; exact X.inj _ _ _ _ _ ej ei
theorem HpIn.untr_tup (X : HpIn σ H) (e : σ a = some o) (ht : isTupO o) : Untr H a := fun k ob q => by
  have := X.at_ _ _ _ q; rw [e] at this; cases this; exact X.no _ _ _ q ht
theorem HpIn.untr_new (X : HpIn σ H) (e : σ a = none) : Untr H a := fun k ob q => by
  have := X.at_ _ _ _ q; rw [e] at this; cases this
end
noncomputable def Kp (σ : Mp) (H : Hp) (σ' : Mp) (H' : Hp) : Prop := ∀ a o, σ a = some o → Untr H a → σ' a = some o ∧ Untr H' a
theorem Kp.refl (σ : Mp) (H : Hp) : Kp σ H σ H := fun _ _ e u => ⟨e, u⟩
theorem Kp.trans {σ₁ σ₂ σ₃ : Mp} {H₁ H₂ H₃ : Hp} (x : Kp σ₁ H₁ σ₂ H₂) (y : Kp σ₂ H₂ σ₃ H₃) : Kp σ₁ H₁ σ₃ H₃ := fun a o e u => let ⟨e', u'⟩ := x a o e u; y a o e' u'
theorem Kp.of_le {σ τ : Mp} {H : Hp} (l : Le σ τ) : Kp σ H τ H := fun a o e u => ⟨l a o e, u⟩
theorem Kp.set {σ : Mp} {H : Hp} {k : Kd} {a : Addr} {o o' : Obj} (e : H k = some (a, o)) : Kp σ H (put σ a o') (upd H k a o') := fun b ob eb u => by
  have ne : b ≠ a := by rintro rfl; exact u k o e
  refine ⟨by rw [put_ne ne]; exact eb, fun j oj q => ?_⟩
  by_cases r : j = k
  · subst r; rw [upd_self] at q; cases q; exact ne rfl
  · rw [upd_ne r] at q; exact u j oj q
theorem Kp.add {σ : Mp} {H : Hp} {k : Kd} {a : Addr} {o : Obj} (hσ : σ a = none) : Kp σ H (put σ a o) (upd H k a o) := fun b ob eb u => by
  have ne : b ≠ a := by rintro rfl; rw [hσ] at eb; cases eb
  refine ⟨by rw [put_ne ne]; exact eb, fun j oj q => ?_⟩
  by_cases r : j = k
  · subst r; rw [upd_self] at q; cases q; exact ne rfl
  · rw [upd_ne r] at q; exact u j oj q
theorem Kp.tk {σ σ' : Mp} {H H' : Hp} (x : Kp σ H σ' H') (X : HpIn σ H) : Tk σ σ' := fun a vs e => (x a _ e (X.untr_tup e rfl)).1
structure Nx (w : World) (md : Kd → Bool) (σ : Mp) (h : Heap) (H : Hp) (σ' : Mp) (h' : Heap) (H' : Hp) : Prop where
  ok : Ok w σ' h'
  ps : Ps σ h σ' h'
  kp : Kp σ H σ' H'
  hp : HpIn σ' H'
  ag : ∀ k, md k = false → H' k = H k
structure Bd (w : World) (md : Kd → Bool) (σ₀ : Mp) (h₀ : Heap) (H₀ : Hp) (σ : Mp) (H : Hp) (L : Addr) (h : Heap) (m : Str → Option Value) : Prop where
  fm : Fm w σ₀ h₀ σ L h m
  kp : Kp σ₀ H₀ σ H
  hp : HpIn σ H
  ag : ∀ k, md k = false → H k = H₀ k
section
variable {w : World} {md md' : Kd → Bool} {σ₀ σ σ' : Mp} {h₀ h h' : Heap} {H₀ H H' : Hp} {L a : Addr} {m m' : Str → Option Value} {o o' : Obj} {k : Kd}
theorem Bd.nx (B : Bd w md σ₀ h₀ H₀ σ H L h m) : Nx w md σ₀ h₀ H₀ σ h H := ⟨B.fm.ok, B.fm.ps, B.kp, B.hp, B.ag⟩
theorem Bd.start (F : Fm w σ₀ h₀ σ₀ L h m) (X : HpIn σ₀ H₀) : Bd w md σ₀ h₀ H₀ σ₀ H₀ L h m := ⟨F, Kp.refl _ _, X, fun _ _ => rfl⟩
theorem Bd.with (B : Bd w md σ₀ h₀ H₀ σ H L h m) (F : Fm w σ₀ h₀ σ L h' m') : Bd w md σ₀ h₀ H₀ σ H L h' m' := ⟨F, B.kp, B.hp, B.ag⟩
theorem Bd.le (B : Bd w md σ₀ h₀ H₀ σ H L h m) (l : Le σ σ') (F : Fm w σ₀ h₀ σ' L h' m') : Bd w md σ₀ h₀ H₀ σ' H L h' m' := ⟨F, B.kp.trans (Kp.of_le l), B.hp.le l, B.ag⟩
theorem Bd.call (B : Bd w md σ₀ h₀ H₀ σ H L h m) (N : Nx w md' σ h H σ' h' H') (hm : ∀ k, md k = false → md' k = false) : Bd w md σ₀ h₀ H₀ σ' H' L h' m :=
  ⟨B.fm.call N.ok N.ps, B.kp.trans N.kp, N.hp, fun k e => (N.ag k (hm k e)).trans (B.ag k e)⟩
theorem Bd.set (B : Bd w md σ₀ h₀ H₀ σ H L h m) (e : H k = some (a, o)) (hn : ¬ isTupO o') (hm : md k = true) (F : Fm w σ₀ h₀ (put σ a o') L h' m') : Bd w md σ₀ h₀ H₀ (put σ a o') (upd H k a o') L h' m' :=
  ⟨F, B.kp.trans (Kp.set e), B.hp.set e hn, fun j ej => (upd_ne (by rintro rfl; rw [hm] at ej; cases ej)).trans (B.ag j ej)⟩
theorem Bd.add (B : Bd w md σ₀ h₀ H₀ σ H L h m) (hσ : σ a = none) (ha : Hi a) (hn : ¬ isTupO o) (hm : md k = true) (F : Fm w σ₀ h₀ (put σ a o) L h' m') : Bd w md σ₀ h₀ H₀ (put σ a o) (upd H k a o) L h' m' :=
  ⟨F, B.kp.trans (Kp.add hσ), B.hp.add hσ ha hn, fun j ej => (upd_ne (by rintro rfl; rw [hm] at ej; cases ej)).trans (B.ag j ej)⟩
end
structure Cf where
  (S SD B BD loc blk sp frs src tys rows lfr : Addr)
inductive Ty where
  | int | box (t : Ty) | tup (a b : Ty) | arr (t : Ty) (n : Int) | rf (b : Bool) (t : Ty)
noncomputable def TyIs (σ : Mp) : Value → Ty → Prop
  | v, .int => ∃ a t1 t2, v = .ref a ∧ TO σ a [.str "int" t1, .str "i32" t2]
  | v, .box T => ∃ a t1 u, v = .ref a ∧ TO σ a [.str "box" t1, u] ∧ TyIs σ u T
  | v, .tup T U => ∃ a t1 b u u', v = .ref a ∧ TO σ a [.str "tuple" t1, .ref b] ∧ TO σ b [u, u'] ∧ TyIs σ u T ∧ TyIs σ u' U
  | v, .arr T n => ∃ a t1 u t2, v = .ref a ∧ TO σ a [.str "array" t1, u, .int n t2] ∧ TyIs σ u T
  | v, .rf b T => ∃ a t1 u, v = .ref a ∧ TO σ a [.str "ref" t1, .none, .bool b, u] ∧ TyIs σ u T
theorem TyIs.tk {σ τ : Mp} (k : Tk σ τ) {T : Ty} {v : Value} (h : TyIs σ v T) : TyIs τ v T := by
  induction T generalizing v with
  | int => obtain ⟨a, t1, t2, e, x⟩ := h; exact ⟨a, t1, t2, e, k _ _ x⟩
  | box T ih => obtain ⟨a, t1, u, e, x, y⟩ := h; exact ⟨a, t1, u, e, k _ _ x, ih y⟩
  | tup T U i1 i2 => obtain ⟨a, t1, b, u, u', e, x, y, z, z'⟩ := h; exact ⟨a, t1, b, u, u', e, k _ _ x, k _ _ y, i1 z, i2 z'⟩
  | arr T n ih => obtain ⟨a, t1, u, t2, e, x, y⟩ := h; exact ⟨a, t1, u, t2, e, k _ _ x, ih y⟩
  | rf b T ih => obtain ⟨a, t1, u, e, x, y⟩ := h; exact ⟨a, t1, u, e, k _ _ x, ih y⟩
inductive St where | live (l : Nat) | dead (l : Nat) | mark (s : Int)
inductive Tm where | none | goto (b : Nat) | drop (l b : Nat) | ret | unr
inductive Rw where | live (l : Nat) (s : Int) | dead (l : Nat) (s : Int) | drop (l : Nat) (s : Int) | mark (s : Int)
noncomputable def StIs (σ : Mp) (v : Value) : St → Prop
  | .live l => ∃ a t1 t2, v = .ref a ∧ TO σ a [.str "live" t1, .int l t2]
  | .dead l => ∃ a t1 t2, v = .ref a ∧ TO σ a [.str "dead" t1, .int l t2]
  | .mark s => ∃ a t1 b t2 u t3, v = .ref a ∧ TO σ a [.str "print" t1, .ref b] ∧ TO σ b [.str "const" t2, u, .int s t3]
noncomputable def TmIs (σ : Mp) (v : Value) : Tm → Prop
  | .none => v = .none
  | .goto b => ∃ a t1 t2, v = .ref a ∧ TO σ a [.str "goto" t1, .int b t2]
  | .drop l b => ∃ a t1 p t2 e t3, v = .ref a ∧ TO σ a [.str "drop" t1, .ref p, .int b t2] ∧ TO σ p [.int l t3, .ref e] ∧ TO σ e []
  | .ret => ∃ a t1, v = .ref a ∧ TO σ a [.str "return" t1]
  | .unr => ∃ a t1, v = .ref a ∧ TO σ a [.str "unreachable" t1]
noncomputable def RwIs (σ : Mp) (v : Value) : Rw → Prop
  | .live l s => ∃ a t1 t2 t3, v = .ref a ∧ TO σ a [.str "live" t1, .int l t2, .int s t3]
  | .dead l s => ∃ a t1 t2 t3, v = .ref a ∧ TO σ a [.str "dead" t1, .int l t2, .int s t3]
  | .drop l s => ∃ a t1 t2 t3, v = .ref a ∧ TO σ a [.str "drop" t1, .int l t2, .int s t3]
  | .mark s => ∃ a t1 t2 t3, v = .ref a ∧ TO σ a [.str "mark" t1, .int s t2, .int s t3]
noncomputable def FiIs (σ : Mp) (v : Value) (x : Nat × Bool) : Prop := ∃ a t, v = .ref a ∧ TO σ a [.int x.1 t, .bool x.2]
section
variable {σ τ : Mp} {v : Value}
theorem StIs.tk (k : Tk σ τ) {s : St} (h : StIs σ v s) : StIs τ v s := by
  cases s with
  | mark => obtain ⟨a, t1, b, t2, u, t3, e, x, y⟩ := h; exact ⟨a, t1, b, t2, u, t3, e, k _ _ x, k _ _ y⟩
  | _ => obtain ⟨a, t1, t2, e, x⟩ := h; exact ⟨a, t1, t2, e, k _ _ x⟩
theorem TmIs.tk (k : Tk σ τ) {s : Tm} (h : TmIs σ v s) : TmIs τ v s := by
  cases s with
  | none => exact h
  | goto => obtain ⟨a, t1, t2, e, x⟩ := h; exact ⟨a, t1, t2, e, k _ _ x⟩
  | drop => obtain ⟨a, t1, p, t2, e, t3, q, x, y, z⟩ := h; exact ⟨a, t1, p, t2, e, t3, q, k _ _ x, k _ _ y, k _ _ z⟩
  | _ => obtain ⟨a, t1, e, x⟩ := h; exact ⟨a, t1, e, k _ _ x⟩
theorem RwIs.tk (k : Tk σ τ) {s : Rw} (h : RwIs σ v s) : RwIs τ v s := by
  cases s <;> (obtain ⟨a, t1, t2, t3, e, x⟩ := h; exact ⟨a, t1, t2, t3, e, k _ _ x⟩)
theorem FiIs.tk {x : Nat × Bool} (k : Tk σ τ) : FiIs σ v x → FiIs τ v x := fun ⟨a, t, e, x⟩ => ⟨a, t, e, k _ _ x⟩
end
inductive All2 {α : Type} (R : Value → α → Prop) : List Value → List α → Prop
  | nil : All2 R [] []
  | cons {v : Value} {x : α} {vs : List Value} {xs : List α} : R v x → All2 R vs xs → All2 R (v :: vs) (x :: xs)
section
variable {α : Type} {R S : Value → α → Prop}
theorem All2.imp {vs : List Value} {xs : List α} (f : ∀ v x, R v x → S v x) (h : All2 R vs xs) : All2 S vs xs := by
  induction h with
  | nil => exact .nil
  | cons a _ ih => exact .cons (f _ _ a) ih
theorem All2.length {vs : List Value} {xs : List α} (h : All2 R vs xs) : vs.length = xs.length := by
  induction h with
  | nil => rfl
  | cons _ _ ih => simp [ih]
theorem All2.append {vs ws : List Value} {xs ys : List α} (h : All2 R vs xs) (k : All2 R ws ys) : All2 R (vs ++ ws) (xs ++ ys) := by
  induction h with
  | nil => exact k
  | cons a _ ih => exact .cons a ih
theorem All2.snoc {vs : List Value} {xs : List α} {v : Value} {x : α} (h : All2 R vs xs) (k : R v x) : All2 R (vs ++ [v]) (xs ++ [x]) := h.append (.cons k .nil)
theorem All2.get {vs : List Value} {xs : List α} (h : All2 R vs xs) : ∀ {i : Nat} {x : α}, xs[i]? = some x → ∃ v, vs[i]? = some v ∧ R v x := by
  induction h with
  | nil => intro i x e; cases e
  | cons a _ ih =>
    intro i x e
    cases i with
    | zero => cases e; exact ⟨_, rfl, a⟩
    | succ i => exact ih e
theorem All2.getV {vs : List Value} {xs : List α} (h : All2 R vs xs) : ∀ {i : Nat} {v : Value}, vs[i]? = some v → ∃ x, xs[i]? = some x ∧ R v x := by
  induction h with
  | nil => intro i x e; cases e
  | cons a _ ih =>
    intro i x e
    cases i with
    | zero => cases e; exact ⟨_, rfl, a⟩
    | succ i => exact ih e
theorem All2.unsnoc {vs : List Value} {xs : List α} {x : α} (h : All2 R vs (xs ++ [x])) : ∃ us u, vs = us ++ [u] ∧ All2 R us xs ∧ R u x := by
  induction xs generalizing vs with
  | nil =>
    cases h with
    | cons a b => cases b; exact ⟨[], _, rfl, .nil, a⟩
  | cons y ys ih =>
    cases h with
    | cons a b =>
      refine hide fun CCC kkk => ?_
      obtain ⟨us, u, rfl, p, q⟩ := ih b
      refine kkk ?_; clear kkk
      exact ⟨_ :: us, u, rfl, .cons a p, q⟩
theorem All2.set {vs : List Value} {xs : List α} {v : Value} {x : α} (h : All2 R vs xs) (r : R v x) : ∀ i, All2 R (vs.set i v) (xs.set i x) := by
  induction h with
  | nil => intro i; exact .nil
  | cons a b ih =>
    intro i
    cases i with
    | zero => exact .cons r b
    | succ i => exact .cons a (ih i)
theorem All2.reverse {vs : List Value} {xs : List α} (h : All2 R vs xs) : All2 R vs.reverse xs.reverse := by
  induction h with
  | nil => exact .nil
  | cons a _ ih => rw [List.reverse_cons, List.reverse_cons]; exact ih.snoc a
theorem All2.drop {vs : List Value} {xs : List α} (h : All2 R vs xs) : ∀ n, All2 R (vs.drop n) (xs.drop n) := by
  induction h with
  | nil => intro n; simp; exact .nil
  | cons a b ih =>
    intro n
    cases n with
    | zero => exact .cons a b
    | succ n => exact ih n
end
structure Cs where
  (S SD B BD loc blk sp frs wld bnd args als : Addr)
  (fu : Nat)
  (fuT : Tok)
  (nm ac : Value)
noncomputable def scAm (c : Cs) (hv sv : Value) : Str → Option Value := fun x =>
  if x = "here" then some hv else if x = "spot" then some sv else if x = "body" then some (.ref c.B) else if x = "frames" then some (.ref c.frs) else
  if x = "world" then some (.ref c.wld) else if x = "bounds" then some (.ref c.bnd) else if x = "args" then some (.ref c.args) else
  if x = "first_user" then some (.int c.fu c.fuT) else if x = "alias" then some (.ref c.als) else none
noncomputable def boAm (nm ac : Value) (loc blk sp : Addr) : Str → Option Value := fun x =>
  if x = "locals" then some (.ref loc) else if x = "blocks" then some (.ref blk) else if x = "spots" then some (.ref sp) else
  if x = "name" then some nm else if x = "arg_count" then some ac else none
structure SA where
  tvs : List Value
  blocks : List (List St × Tm)
  sp : Nat → Nat → Option Int
  nsp : Nat
  frames : List (List (Nat × Bool))
  here : Nat
  spot : Int
noncomputable def LocIs (σ : Mp) (v u : Value) : Prop := ∃ a b nm, v = .ref a ∧ TO σ a [u, b, nm]
theorem LocIs.tk {σ τ : Mp} {v u : Value} (k : Tk σ τ) : LocIs σ v u → LocIs τ v u := fun ⟨a, b, nm, e, x⟩ => ⟨a, b, nm, e, k _ _ x⟩
noncomputable abbrev K2 := List (List Int × Addr × Value)
noncomputable def hEnt (x : List Int × Addr × Value) : DictEntry := ⟨reduceHash (Builtin.Tuple.tupleHashOf (x.1.map hashInt)), .ref x.2.1, x.2.2⟩
structure SpO (σ : Mp) (o : Obj) (sp : Nat → Nat → Option Int) (n : Nat) (xs : K2) : Prop where
  ex : o.ExactDict
  dat : ∃ es ep, o.data = .dict es ep ∧ es.toList = xs.map hEnt
  keys : ∀ x ∈ xs, ∃ (i j : Nat) (t1 t2 : Tok), x.1 = [(i : Int), (j : Int)] ∧ TO σ x.2.1 [.int i t1, .int j t2]
  nd : (xs.map (·.1)).Nodup
  len : xs.length ≤ n
  no : ∀ i j : Nat, sp i j = none → atKey xs [(i : Int), (j : Int)] = none
  yes : ∀ (i j : Nat) (s : Int), sp i j = some s → ∃ p t, atKey xs [(i : Int), (j : Int)] = some (p, .int s t)
theorem SpO.tk {σ τ : Mp} {o : Obj} {sp : Nat → Nat → Option Int} {n : Nat} {xs : K2} (k : Tk σ τ) (X : SpO σ o sp n xs) : SpO τ o sp n xs :=
  ⟨X.ex, X.dat, fun x hx => let ⟨i, j, t1, t2, e, z⟩ := X.keys x hx; ⟨i, j, t1, t2, e, k _ _ z⟩, X.nd, X.len, X.no, X.yes⟩
noncomputable def BlkAt (σ : Mp) (H : Hp) (v : Value) (i : Nat) (x : List St × Tm) : Prop :=
  ∃ a s n n' tv ss, v = .ref a ∧ H (.b i) = some (a, lisO [.ref s, tv] n) ∧ H (.st i) = some (s, lisO ss n') ∧ All2 (StIs σ) ss x.1 ∧ TmIs σ tv x.2
noncomputable def FrAt (σ : Mp) (H : Hp) (v : Value) (i : Nat) (x : List (Nat × Bool)) : Prop :=
  ∃ a n fs, v = .ref a ∧ H (.fr i) = some (a, lisO fs n) ∧ All2 (FiIs σ) fs x
noncomputable def ScS (H : Hp) (c : Cs) (here : Nat) (spot : Int) : Prop := H .sc = some (c.S, instObj 307 c.SD) ∧ ∃ od t1 t2, H .scD = some (c.SD, od) ∧ AtD od (scAm c (.int here t1) (.int spot t2))
noncomputable def ScB (H : Hp) (c : Cs) : Prop := H .bo = some (c.B, instObj 82 c.BD) ∧ ∃ od, H .boD = some (c.BD, od) ∧ AtD od (boAm c.nm c.ac c.loc c.blk c.sp)
noncomputable def ScL (σ : Mp) (H : Hp) (c : Cs) (tvs : List Value) : Prop := ∃ n vs, H .loc = some (c.loc, lisO vs n) ∧ All2 (LocIs σ) vs tvs
noncomputable def ScK (σ : Mp) (H : Hp) (c : Cs) (bs : List (List St × Tm)) : Prop := ∃ n vs, H .blk = some (c.blk, lisO vs n) ∧ vs.length = bs.length ∧ ∀ (i : Nat) v x, vs[i]? = some v → bs[i]? = some x → BlkAt σ H v i x
noncomputable def ScP (σ : Mp) (H : Hp) (c : Cs) (sp : Nat → Nat → Option Int) (n : Nat) : Prop := ∃ o xs, H .sp = some (c.sp, o) ∧ SpO σ o sp n xs
noncomputable def ScF (σ : Mp) (H : Hp) (c : Cs) (fs : List (List (Nat × Bool))) : Prop := ∃ n vs, H .frs = some (c.frs, lisO vs n) ∧ vs.length = fs.length ∧ ∀ (i : Nat) v x, vs[i]? = some v → fs[i]? = some x → FrAt σ H v i x
structure SA.Small (A : SA) (N : Nat) : Prop where
  k : A.blocks.length ≤ N
  s : ∀ b ∈ A.blocks, b.1.length ≤ N
  p : A.nsp ≤ N
  l : A.tvs.length ≤ N
  f : A.frames.length ≤ N
  i : ∀ f ∈ A.frames, f.length ≤ N
structure Sc (σ : Mp) (H : Hp) (c : Cs) (A : SA) : Prop where
  s : ScS H c A.here A.spot
  b : ScB H c
  l : ScL σ H c A.tvs
  k : ScK σ H c A.blocks
  p : ScP σ H c A.sp A.nsp
  f : ScF σ H c A.frames
section
variable {σ τ : Mp} {H H' : Hp} {c : Cs} {A : SA}
theorem ScS.mono {x : Nat} {y : Int} (X : ScS H c x y) (h1 : H' .sc = H .sc) (h2 : H' .scD = H .scD) : ScS H' c x y := by unfold ScS at *; rw [h1, h2]; exact X
theorem ScB.mono (X : ScB H c) (h1 : H' .bo = H .bo) (h2 : H' .boD = H .boD) : ScB H' c := by unfold ScB at *; rw [h1, h2]; exact X
theorem ScL.mono {x : List Value} (X : ScL σ H c x) (k : Tk σ τ) (h1 : H' .loc = H .loc) : ScL τ H' c x := by
  obtain ⟨n, vs, a, b⟩ := X; exact ⟨n, vs, h1.trans a, b.imp fun _ _ z => z.tk k⟩
theorem BlkAt.mono {v : Value} {i : Nat} {x : List St × Tm} (X : BlkAt σ H v i x) (k : Tk σ τ) (h1 : H' (.b i) = H (.b i)) (h2 : H' (.st i) = H (.st i)) : BlkAt τ H' v i x := by
  refine hide fun CCC kkk => ?_
  obtain ⟨a, s, n, n', tv, ss, e, p, q, r, z⟩ := X
  refine kkk ?_; clear kkk
  exact ⟨a, s, n, n', tv, ss, e, h1.trans p, h2.trans q, r.imp fun _ _ z => z.tk k, z.tk k⟩
theorem ScK.mono {x : List (List St × Tm)} (X : ScK σ H c x) (k : Tk σ τ) (h0 : H' .blk = H .blk) (h1 : ∀ i, H' (.b i) = H (.b i)) (h2 : ∀ i, H' (.st i) = H (.st i)) : ScK τ H' c x := by
  obtain ⟨n, vs, a, e, b⟩ := X; exact ⟨n, vs, h0.trans a, e, fun i v x p q => (b i v x p q).mono k (h1 i) (h2 i)⟩
theorem ScP.mono {x : Nat → Nat → Option Int} {n : Nat} (X : ScP σ H c x n) (k : Tk σ τ) (h1 : H' .sp = H .sp) : ScP τ H' c x n := by
  obtain ⟨o, xs, a, b⟩ := X; exact ⟨o, xs, h1.trans a, b.tk k⟩
theorem FrAt.mono {v : Value} {i : Nat} {x : List (Nat × Bool)} (X : FrAt σ H v i x) (k : Tk σ τ) (h1 : H' (.fr i) = H (.fr i)) : FrAt τ H' v i x := by
  obtain ⟨a, n, fs, e, p, q⟩ := X; exact ⟨a, n, fs, e, h1.trans p, q.imp fun _ _ z => z.tk k⟩
theorem ScF.mono {x : List (List (Nat × Bool))} (X : ScF σ H c x) (k : Tk σ τ) (h0 : H' .frs = H .frs) (h1 : ∀ i, H' (.fr i) = H (.fr i)) : ScF τ H' c x := by
  obtain ⟨n, vs, a, e, b⟩ := X; exact ⟨n, vs, h0.trans a, e, fun i v x p q => (b i v x p q).mono k (h1 i)⟩
theorem Sc.mono (X : Sc σ H c A) (k : Tk σ τ) (h : ∀ k, k.cl = 1 → H' k = H k) : Sc τ H' c A :=
  ⟨X.s.mono (h _ rfl) (h _ rfl), X.b.mono (h _ rfl) (h _ rfl), X.l.mono k (h _ rfl), X.k.mono k (h _ rfl) (fun _ => h _ rfl) (fun _ => h _ rfl), X.p.mono k (h _ rfl), X.f.mono k (h _ rfl) (fun _ => h _ rfl)⟩
theorem Sc.turn {A' : SA} {k : Kd} {a : Addr} {o : Obj} (X : Sc σ H c A) (t : Tk σ τ)
    (s : (k ≠ .sc ∧ k ≠ .scD ∧ A'.here = A.here ∧ A'.spot = A.spot) ∨ ScS (upd H k a o) c A'.here A'.spot)
    (b : (k ≠ .bo ∧ k ≠ .boD) ∨ ScB (upd H k a o) c)
    (l : (k ≠ .loc ∧ A'.tvs = A.tvs) ∨ ScL τ (upd H k a o) c A'.tvs)
    (kk : (k ≠ .blk ∧ (∀ i, k ≠ .b i) ∧ (∀ i, k ≠ .st i) ∧ A'.blocks = A.blocks) ∨ ScK τ (upd H k a o) c A'.blocks)
    (p : (k ≠ .sp ∧ A'.sp = A.sp ∧ A'.nsp = A.nsp) ∨ ScP τ (upd H k a o) c A'.sp A'.nsp)
    (f : (k ≠ .frs ∧ (∀ i, k ≠ .fr i) ∧ A'.frames = A.frames) ∨ ScF τ (upd H k a o) c A'.frames) : Sc τ (upd H k a o) c A' := by
  refine ⟨?_, ?_, ?_, ?_, ?_, ?_⟩
  · rcases s with ⟨h1, h2, e1, e2⟩ | s
    · rw [e1, e2]; exact X.s.mono (upd_ne (Ne.symm h1)) (upd_ne (Ne.symm h2))
    · exact s
  · rcases b with ⟨h1, h2⟩ | s
    · exact X.b.mono (upd_ne (Ne.symm h1)) (upd_ne (Ne.symm h2))
    · exact s
  · rcases l with ⟨h1, e⟩ | s
    · rw [e]; exact X.l.mono t (upd_ne (Ne.symm h1))
    · exact s
  · rcases kk with ⟨h1, h2, h3, e⟩ | s
    · rw [e]; exact X.k.mono t (upd_ne (Ne.symm h1)) (fun i => upd_ne (Ne.symm (h2 i))) (fun i => upd_ne (Ne.symm (h3 i)))
    · exact s
  · rcases p with ⟨h1, e1, e2⟩ | s
    · rw [e1, e2]; exact X.p.mono t (upd_ne (Ne.symm h1))
    · exact s
  · rcases f with ⟨h1, h2, e⟩ | s
    · rw [e]; exact X.f.mono t (upd_ne (Ne.symm h1)) (fun i => upd_ne (Ne.symm (h2 i)))
    · exact s
end
noncomputable def sattrOk (K : Frag) (C : Addr) (name : Str) : Bool := (findIn K (.ref C) "__setattr__" == some (some (.builtin "object.__setattr__"))) && plainOver K C && (takerIn K C name == some none) && hasDictIn K C
section
variable {prog : Program} {w : World} {A : Around} {E : Value → Shared → Prop} {σ₀ σ : Mp} {h₀ h : Heap} {g : Array GenState} {d : Drawn} {t : Nat} {os : OsState} {L a D : Addr} {m : Str → Option Value}
  {name qual : Str} {scope : Scope} {f : Addr} {cd : Value} {x : Str} {pos : Pos} {v y : Value} {vs ws : List Value} {k : Nat}
theorem put_dict_get {name : Str} {hsh : Int} {key v : Value} : ∀ {es : List DictEntry}, (∀ e ∈ es, ∃ x t, e.key = .str x t) → (∃ t, key = .str name t) →
    ∀ x, getL x (putL name hsh key v es) = some (if x = name then some v else (es.find? (·.key.isStr x)).map (·.val))
  | [], _, ⟨t, hk⟩, x => by
    subst hk
    unfold putL getL
    by_cases q : x = name
    · subst q; simp [Value.isStr]
    · have : (name == x) = false := beq_eq_false_iff_ne.mpr (Ne.symm q)
      simp [Value.isStr, this, q, DictEntry.refKey]
  | e :: r, h, hk, x => by
    refine hide fun CCC kkk => ?_
    obtain ⟨y, ty, ey⟩ := h e (.head _)
    refine kkk ?_; clear kkk
    have ih := put_dict_get (es := r) (hsh := hsh) (v := v) (fun e he => h e (.tail _ he)) hk x
    unfold putL
    cases q : e.key.isStr name with
    | true =>
      have hy : y = name := by rw [ey] at q; exact beq_iff_eq.mp q
      subst hy
      simp only [if_true]
      by_cases p : x = y
      · subst p
        unfold getL
        simp [q]
      · have nx : e.key.isStr x = false := by
          rw [ey]; exact beq_eq_false_iff_ne.mpr (Ne.symm p)
        have rk : ((⟨e.hash, e.key, v⟩ : DictEntry) :: r).any (·.refKey) = false := by
          rw [List.any_eq_false]; intro z hz
          rcases List.mem_cons.mp hz with rfl | hz
          · simp [DictEntry.refKey, ey]
          · obtain ⟨_, _, ez⟩ := h z (.tail _ hz); simp [DictEntry.refKey, ez]
        unfold getL
        simp only [List.find?_cons, nx, if_neg p, rk]
        cases r.find? (·.key.isStr x) <;> simp
    | false =>
      simp only [Bool.false_eq_true, if_false]
      unfold getL at ih ⊢
      have rk : e.refKey = false := by simp [DictEntry.refKey, ey]
      simp only [List.find?_cons, List.any_cons, rk, Bool.false_or]
      cases p : e.key.isStr x with
      | false => simpa using ih
      | true =>
        have hy : y = x := by rw [ey] at p; exact beq_iff_eq.mp p
        subst hy
        have : y ≠ name := by rintro rfl; rw [ey] at q; simp [Value.isStr] at q
        simp [this]
theorem find_of_getL {es : List DictEntry} {x : Str} {r : Option Value} (h : getL x es = some r) : (es.find? (·.key.isStr x)).map (·.val) = r := by
  unfold getL at h
  cases q : es.find? (·.key.isStr x) with
  | some e => rw [q] at h; exact Option.some.inj h
  | none =>
    rw [q] at h
    dsimp only at h
    split at h
    · cases h
    · exact Option.some.inj h
theorem AtK.set {es : List DictEntry} {n k : Nat} {am : Str → Option Value} {hsh : Int} {tk : Tok} (h1 : ∀ e ∈ es, ∃ x t, e.key = .str x t) (h2 : es.length ≤ k) (h3 : ∀ x, getL x es = some (am x)) :
    AtK (if (am name).isSome then k else k + 1) (Obj.putName name hsh (.str name tk) v (dictOf es n)) (ms name v am) := by
  rw [putName_dict]
  refine ⟨_, _, rfl, ?_, ?_, fun x => ?_⟩
  · intro e he
    have : ∀ {es : List DictEntry}, (∀ e ∈ es, ∃ x t, e.key = .str x t) → e ∈ putL name hsh (.str name tk) v es → ∃ x t, e.key = .str x t := by
      intro es
      induction es with
      | nil => intro _ he; rcases List.mem_cons.mp he with rfl | he; exact ⟨_, _, rfl⟩; cases he
      | cons z r ih =>
        intro hz he
        unfold putL at he
        split at he
        · rcases List.mem_cons.mp he with rfl | he
          · exact hz z (.head _)
          · exact hz e (.tail _ he)
        · rcases List.mem_cons.mp he with rfl | he
          · exact hz _ (.head _)
          · exact ih (fun e he => hz e (.tail _ he)) he
    exact this h1 he
  · have : ∀ {es : List DictEntry}, (putL name hsh (.str name tk) v es).length ≤ es.length + (if (es.find? (·.key.isStr name)).isSome then 0 else 1) := by
      intro es
      induction es with
      | nil => simp [putL]
      | cons z r ih =>
        unfold putL
        cases q : z.key.isStr name with
        | true => simp [q]
        | false => simp only [Bool.false_eq_true, if_false, List.length_cons, List.find?_cons, q]; lia
    have e := find_of_getL (h3 name)
    have t := @this es
    rw [← e]
    simp only [Option.isSome_map]
    split <;> rename_i z <;> simp only [z] at t <;> simp at t <;> lia
  · rw [put_dict_get h1 ⟨_, rfl⟩]
    unfold ms
    by_cases q : x = name
    · simp [q]
    · simp only [if_neg q]
      rw [find_of_getL (h3 x)]
theorem saF {xa dx C : Addr} {am : Str → Option Value} {Q : Unit → Shared → Prop} {od : Obj} (F : Fm w σ₀ h₀ σ L h m) (hx : σ xa = some (instObj C dx)) (hd : σ dx = some od) (ho : AtK k od am) (h99 : k ≤ 100)
    (hN : Hi dx) (hg : sattrOk (KH w) C name = true)
    (q : ∀ h' od', AtK (if (am name).isSome then k else k + 1) od' (ms name v am) → Fm w σ₀ h₀ (put σ dx od') L h' m → Q () ⟨h', g, d, t + 2, os⟩) :
    wpAny (model prog w) A (setAttr (.ref xa) name v) Q E ⟨h, g, d, t, os⟩ := by
  refine hide fun CCC kkk => ?_
  obtain ⟨es, n, rfl, k1, k2, k3⟩ := ho
  refine kkk ?_; clear kkk
  unfold sattrOk at hg
  simp only [Bool.and_eq_true, beq_iff_eq] at hg
  refine hide fun CCC kkk => ?_
  obtain ⟨⟨⟨g1, g2⟩, g3⟩, g4⟩ := hg
  refine kkk ?_; clear kkk
  have X := F.K
  have D := F.ok.sub _ _ hd
  have Hx := F.ok.sub _ _ hx
  have I : InstAt h xa (instObj C dx) C (some (dictOf es n)) := ⟨Hx, rfl, rfl, D⟩
  refine set_plain (s := ⟨h, g, d, t, os⟩) X I g1 ?_
  refine osa_open (s := ⟨h, g, d, t + 1, os⟩) X I g2 g3 fun b => ?_
  refine hide fun CCC kkk => ?_
  obtain ⟨cd, hc, hcd⟩ := any_some g4
  refine kkk ?_; clear kkk
  refine wpAny_bind (wpAny_pure (wpAny_bind (wpAny_bind (wpAny_loadPart Hx (wpAny_bind ((looks_clsIn X hc).here ?_))))))
  rw [hcd]
  refine wpAny_pure (a := some dx) (wpAny_bind (wpAny_pure (wpAny_bind ?_)))
  unfold nsSet
  refine wpAny_bind (wpAny_bind (wpAny_askSetting (wpAny_pure (wpAny_bind (wpAny_mkText (wpAny_bind (wpAny_loadPart D ?_)))))))
  have c : (!es.toArray.any (·.key.isStr name) && es.toArray.any (·.refKey)) = false := by
    have : es.toArray.any (·.refKey) = false := by
      rw [Array.any_eq_false']; intro e he
      obtain ⟨_, _, ez⟩ := k1 e (by simpa using he); simp [DictEntry.refKey, ez]
    rw [this, Bool.and_false]
  dsimp only
  rw [aRefKeyMayBeTheName_at, c]
  refine wpAny_updatePart D ?_
  have hA := AtK.set (name := name) (v := v) (n := n) (hsh := PyData.keyHash w.params name) (tk := t + 1) k1 k2 k3
  have hA' := hA
  refine hide fun CCC kkk => ?_
  obtain ⟨es', n', e', z1, z2, z3⟩ := hA'
  refine kkk ?_; clear kkk
  have ge : (h.update dx (Obj.putName name (PyData.keyHash w.params name) (.str name (t + 1)) v)).get? dx = some (Obj.putName name (PyData.keyHash w.params name) (.str name (t + 1)) v (dictOf es n)) :=
    Heap.get?_update_self _ D (by rw [e']; rfl)
  refine wpAny_bind (wpAny_lookBehind ge (by rw [e']; exact pastItsLine_dict (by rw [List.size_toArray, sizeLine_eq]; split at z2 <;> lia)) ?_)
  exact wpAny_pure (q _ _ hA (F.change hN hd (Heap.SameBut.update ..) ge))
end
structure Pu (w : World) (σ : Mp) (h : Heap) (σ' : Mp) (h' : Heap) : Prop where
  ok : Ok w σ' h'
  ps : Ps σ h σ' h'
  le : Le σ σ'
noncomputable abbrev H0 : Hp := fun _ => none
theorem H0.in (σ : Mp) : HpIn σ H0 := ⟨fun _ _ _ e => (nomatch e), fun _ _ _ e => (nomatch e), fun _ _ _ e => (nomatch e), fun _ _ _ _ _ e => (nomatch e)⟩
theorem H0.un (a : Addr) : Untr H0 a := fun _ _ e => nomatch e
section
variable {w : World} {md md' : Kd → Bool} {σ₀ σ σ' : Mp} {h₀ h h' : Heap} {H₀ H H' : Hp} {L a : Addr} {m m' : Str → Option Value} {o o' : Obj} {k : Kd}
theorem Bd.pure (B : Bd w md σ₀ h₀ H₀ σ H L h m) (P : Pu w σ h σ' h') : Bd w md σ₀ h₀ H₀ σ' H L h' m := B.le P.le (B.fm.call P.ok P.ps)
theorem Bd.pu (B : Bd w md σ₀ h₀ H0 σ H L h m) : Pu w σ₀ h₀ σ h := ⟨B.fm.ok, B.fm.ps, fun a o e => (B.kp a o e (H0.un a)).1⟩
theorem Bd.new (B : Bd w md σ₀ h₀ H₀ σ H L h m) (e : σ a = none) : σ₀ a = none := by
  cases q : σ₀ a with
  | none => rfl
  | some o => obtain ⟨_, e'⟩ := B.fm.ps.up a o q; rw [e] at e'; cases e'
theorem Bd.own (B : Bd w md σ₀ h₀ H₀ σ H L h m) (hn : σ₀ a = none) (hu : Untr H a) (F : Fm w σ₀ h₀ (put σ a o') L h' m') : Bd w md σ₀ h₀ H₀ (put σ a o') H L h' m' := by
  refine ⟨F, fun b ob e u => ?_, ⟨fun k b ob e => ?_, B.hp.hi, B.hp.no, B.hp.inj⟩, B.ag⟩
  · have ne : b ≠ a := by rintro rfl; rw [hn] at e; cases e
    rw [put_ne ne]; exact B.kp b ob e u
  · have ne : b ≠ a := by rintro rfl; exact hu _ _ e
    rw [put_ne ne]; exact B.hp.at_ k b ob e
end
section
variable {prog : Program} {w : World} {A : Around} {E : Value → Shared → Prop} {md : Kd → Bool} {σ₀ σ : Mp} {H₀ H : Hp} {h₀ h : Heap} {g : Array GenState} {d : Drawn} {t : Nat} {os : OsState} {L a D : Addr} {m : Str → Option Value}
  {name qual : Str} {scope : Scope} {f : Addr} {cd : Value} {x : Str} {pos : Pos} {v y : Value} {vs ws : List Value} {k : Nat}
theorem stB {Q : Unit → Shared → Prop} (B : Bd w md σ₀ h₀ H₀ σ H L h m)
    (q : ∀ h', Bd w md σ₀ h₀ H₀ σ H L h' (ms x v m) → Q () ⟨h', g, d, t + 1, os⟩)
    (hk : scope.kind = .function := by rfl) (hl : (envOf name scope L f cd).kindOf x = some .local := by rfl) :
    wpAny (model prog w) A (storeName (envOf name scope L f cd) x v) Q E ⟨h, g, d, t, os⟩ := stF B.fm (fun h' F => q h' (B.with F)) hk hl
theorem newTupleB {Q : Value → Shared → Prop} (B : Bd w md σ₀ h₀ H₀ σ H L h m) (hz : vs.length ≤ 1000000)
    (q : ∀ a h', σ a = none → Hi a → Bd w md σ₀ h₀ H₀ (put σ a (tupO vs)) H L h' m → Q (.ref a) ⟨h', g, d, t, os⟩) : wpAny (model prog w) A (newTuple vs) Q E ⟨h, g, d, t, os⟩ :=
  newTupleF B.fm hz fun a h' e n F => q a h' e n (B.le (Le.put e _) F)
theorem newListB {Q : Value → Shared → Prop} (B : Bd w md σ₀ h₀ H₀ σ H L h m) (hz : vs.length ≤ 1000000)
    (q : ∀ a h', σ a = none → Hi a → Bd w md σ₀ h₀ H₀ (put σ a (lisO vs 0)) H L h' m → Q (.ref a) ⟨h', g, d, t, os⟩) : wpAny (model prog w) A (newList vs) Q E ⟨h, g, d, t, os⟩ :=
  newListF B.fm hz fun a h' e n F => q a h' e n (B.le (Le.put e _) F)
theorem cwB {Q : Value → Shared → Prop} {env : Env} {first : List Value} {e : Expr} {rest : List Expr} {fv : Value} (hk : keepIn (KH w) fv = true)
    (q : wpAny (model prog w) A (spliced (backTo pos (starEach (e :: rest) env))) (fun vs s₁ => (KH w).In s₁.heap ∧ wpAny (model prog w) A (call fv (first ++ vs)) Q E s₁) E ⟨h, g, d, t, os⟩)
    (he : starEach (e :: rest) env = (false, eval e env) :: starEach rest env := by rfl) (hplain : (backTo pos (starEach rest env)).any (·.1) = false := by rfl) :
    wpAny (model prog w) A (callWith pos fv first (backTo pos (starEach (e :: rest) env)) []) Q E ⟨h, g, d, t, os⟩ := by
  rw [he] at q ⊢
  exact callWith_of (by show ((false || (backTo pos (starEach rest env)).any (·.1)) || false) = false; rw [hplain]; rfl) (keeps_K hk) (evalArgs_plain q)
theorem cwB0 {Q : Value → Shared → Prop} {env : Env} {first : List Value} {fv : Value} (B : Bd w md σ₀ h₀ H₀ σ H L h m) (hk : keepIn (KH w) fv = true)
    (q : wpAny (model prog w) A (call fv (first ++ [])) Q E ⟨h, g, d, t, os⟩) :
    wpAny (model prog w) A (callWith pos fv first (backTo pos (starEach [] env)) []) Q E ⟨h, g, d, t, os⟩ := callWith_K0 B.fm.K hk q
theorem cwBi1 {Q : Value → Shared → Prop} {env : Env} {id : String} {e : Expr} {rest : List Expr} 
    (q : wpAny (model prog w) A (spliced (backTo pos (starEach (e :: rest) env))) (fun vs s₁ => wpAny (model prog w) A (call (.builtin id) vs) Q E s₁) E ⟨h, g, d, t, os⟩)
    (he : starEach (e :: rest) env = (false, eval e env) :: starEach rest env) (hplain : (backTo pos (starEach rest env)).any (·.1) = false) :
    wpAny (model prog w) A (callWith pos (.builtin id) [] (backTo pos (starEach (e :: rest) env)) []) Q E ⟨h, g, d, t, os⟩ := callWith_method1 q he hplain
theorem cwTy1 {Q : Value → Shared → Prop} {env : Env} {id : String} {e : Expr} {rest : List Expr} 
    (q : wpAny (model prog w) A (spliced (backTo pos (starEach (e :: rest) env))) (fun vs s₁ => wpAny (model prog w) A (call (.type id) vs) Q E s₁) E ⟨h, g, d, t, os⟩)
    (he : starEach (e :: rest) env = (false, eval e env) :: starEach rest env) (hplain : (backTo pos (starEach rest env)).any (·.1) = false) :
    wpAny (model prog w) A (callWith pos (.type id) [] (backTo pos (starEach (e :: rest) env)) []) Q E ⟨h, g, d, t, os⟩ := by
  rw [he] at q ⊢
  exact PySem.callWith_type (by show (false || (backTo pos (starEach rest env)).any (·.1)) = false; rw [hplain]; rfl) (evalArgs_plain q)
theorem Bd.In (B : Bd w md σ₀ h₀ H₀ σ H L h m) : (KH w).In h := B.fm.K
theorem b_len : bootBuiltins "len" = some (.builtin "len") := by kernel_rfl
theorem b_range : bootBuiltins "range" = some (.type "range") := by kernel_rfl
theorem b_list : bootBuiltins "list" = some (.type "list") := by kernel_rfl
theorem b_int : bootBuiltins "int" = some (.type "int") := by kernel_rfl
theorem b_max : bootBuiltins "max" = some (.builtin "max") := by kernel_rfl
theorem b_enumerate : bootBuiltins "enumerate" = some (.type "enumerate") := by kernel_rfl
theorem b_sorted : bootBuiltins "sorted" = some (.builtin "sorted") := by kernel_rfl
theorem nb {x : Str} (h : decide (x = "__name__") = false) : x ≠ "__name__" := of_decide_eq_false h
end
section
variable {M : Model} {A : Around} {env : Env} {E : Value → Shared → Prop} {Q K : Flow → Shared → Prop} {st : Stmt} {rest : List Stmt} {s : Shared} {h : Heap} {g : Array GenState} {d : Drawn} {t : Nat} {os : OsState}
structure KN (M : Model) (A : Around) (rest : List Stmt) (env : Env) (Q : Flow → Shared → Prop) (E : Value → Shared → Prop) (K : Flow → Shared → Prop) : Prop where
  next : ∀ s, wpAny M A (execs rest env) Q E s → K .next s
  oth : ∀ f s, f ≠ .next → Q f s → K f s
theorem execsK (k : ∀ K t, KN M A rest env Q E K → wpAny M A (exec st env) K E ⟨h, g, d, t, os⟩) : wpAny M A (execs (st :: rest) env) Q E ⟨h, g, d, t, os⟩ :=
  wpAny_execs_cons (k _ _ ⟨fun _ z => z, fun f s n z => by cases f <;> first | exact z | exact absurd rfl n⟩)
theorem KN.go (X : KN M A rest env Q E K) (q : wpAny M A (execs rest env) Q E s) : K .next s := X.next s q
theorem KN.ret {v : Value} (X : KN M A rest env Q E K) (q : Q (.ret v) s) : K (.ret v) s := X.oth _ s nofun q
theorem cInt {i : Int} {k : Nat} {pos : Pos} {Q : Value → Shared → Prop} (q : Q (.int i t) ⟨h, g, d, t + 1, os⟩) : wpAny M A (eval (.Constant (.int i) k pos) env) Q E ⟨h, g, d, t, os⟩ := wpAny_Constant_int q
theorem cStr {i : Str} {k : Nat} {pos : Pos} {Q : Value → Shared → Prop} (q : Q (.str i t) ⟨h, g, d, t + 1, os⟩) : wpAny M A (eval (.Constant (.str i) k pos) env) Q E ⟨h, g, d, t, os⟩ := Constant_str q
theorem addI {prog : Program} {w : World} {a b : Int} {u v : Tok} {Q : Value → Shared → Prop} (q : Q (.int (a + b) t) ⟨h, g, d, t + 1, os⟩) : wpAny (model prog w) A (binaryOp .Add (.int a u) (.int b v)) Q E ⟨h, g, d, t, os⟩ := PyProof.Rows.add_int q
theorem subI {prog : Program} {w : World} {a b : Int} {u v : Tok} {Q : Value → Shared → Prop} (q : Q (.int (a - b) t) ⟨h, g, d, t + 1, os⟩) : wpAny (model prog w) A (binaryOp .Sub (.int a u) (.int b v)) Q E ⟨h, g, d, t, os⟩ := PyProof.Rows.sub_int q
end
section
variable {prog : Program} {w : World} {A : Around} {E : Value → Shared → Prop} {md : Kd → Bool} {σ₀ σ : Mp} {H₀ H : Hp} {h₀ h : Heap} {g : Array GenState} {d : Drawn} {t : Nat} {os : OsState} {L : Addr} {m : Str → Option Value}
  {name : Str} {scope : Scope} {f : Addr} {cd : Value} {x : Str} {pos : Pos} {v : Value}
theorem ldB {Q : Value → Shared → Prop} (B : Bd w md σ₀ h₀ H₀ σ H L h m) (hv : m x = some v) (q : Q v ⟨h, g, d, t, os⟩)
    (hk : scope.kind = .function) (hl : (envOf name scope L f cd).kindOf x = some .local) (hd : (x == ("__debug__" : Str)) = false) :
    wpAny (model prog w) A (eval (.Name x pos) (envOf name scope L f cd)) Q E ⟨h, g, d, t, os⟩ := ldF B.fm hv q hk hl hd
theorem lk_all {α β : Type} [BEq α] [LawfulBEq α] {P : α → β → Bool} {x : α} {a : β} : ∀ {l : List (α × β)}, l.all (fun p => P p.1 p.2) = true → l.lookup x = some a → P x a = true
  | [], _, e => by cases e
  | (y, b) :: l, h, e => by
    rw [List.all_cons, Bool.and_eq_true] at h
    rw [List.lookup_cons] at e
    cases q : x == y with
    | true => rw [q] at e; cases e; rw [eq_of_beq q]; exact h.1
    | false => rw [q] at e; exact lk_all h.2 e
noncomputable def globTab : List (Str × Addr) := [("Body", (82 : Nat)), ("successors", (91 : Nat)), ("retargeted", (96 : Nat)), ("reachable", (103 : Nat)), ("with_blocks", (110 : Nat)), ("parts_of", (117 : Nat)), ("has_drop", (174 : Nat)), ("needs_drop", (179 : Nat)), ("Scopes", (307 : Nat)), ("TypedFn", (328 : Nat)), ("World", (357 : Nat)), ("_law_int", (362 : Nat)), ("_law_pool", (369 : Nat)), ("_law_take", (376 : Nat)), ("_law_type", (390 : Nat)), ("_law_has_box", (395 : Nat)), ("_law_ended", (402 : Nat)), ("_law_declared", (409 : Nat)), ("_law_deed_right", (416 : Nat)), ("_law_way", (423 : Nat)), ("law", (428 : Nat))]
theorem gl_all {a : Addr} (h : globTab.lookup x = some a) : nsIn (KH w) mainGlobals x = some (some (.ref a)) := beq_iff_eq.mp (lk_all (P := fun x a => nsIn (KH w) mainGlobals x == some (some (.ref a))) (by kernel_rfl) h)
noncomputable def bltTab : List (Str × Value) := [("len", .builtin "len"), ("range", .type "range"), ("list", .type "list"), ("int", .type "int"), ("max", .builtin "max"), ("enumerate", .type "enumerate"), ("sorted", .builtin "sorted")]
theorem b_all (h : bltTab.lookup x = some v) : bootBuiltins x = some v := beq_iff_eq.mp (lk_all (P := fun x v => bootBuiltins x == some v) (by kernel_rfl) h)
theorem globB {a : Addr} {Q : Value → Shared → Prop} (B : Bd w md σ₀ h₀ H₀ σ H L h m) (e : globTab.lookup x = some a) (q : Q (.ref a) ⟨h, g, d, t, os⟩)
    (hk : scope.kind = .function) (hx : (envOf name scope L f cd).kindOf x = some .globalImplicit) (hd : (x == ("__debug__" : Str)) = false) :
    wpAny (model prog w) A (eval (.Name x pos) (envOf name scope L f cd)) Q E ⟨h, g, d, t, os⟩ := globF B.fm (gl_all e) q hk hx hd
theorem bltB {Q : Value → Shared → Prop} (B : Bd w md σ₀ h₀ H₀ σ H L h m) (e : nsIn (KH w) mainGlobals x = some none) (hv : bltTab.lookup x = some v) (hn : decide (x = "__name__") = false) (q : Q v ⟨h, g, d, t, os⟩)
    (hk : scope.kind = .function) (hx : (envOf name scope L f cd).kindOf x = some .globalImplicit) (hd : (x == ("__debug__" : Str)) = false) :
    wpAny (model prog w) A (eval (.Name x pos) (envOf name scope L f cd)) Q E ⟨h, g, d, t, os⟩ := bltF B.fm e (b_all hv) (nb hn) q hk hx hd
end
section
theorem atKey_map {xs : List (List Int × Addr × Value)} {k k' : List Int} {v : Value} : atKey (xs.map (putAt k v)) k' = if k' = k then (atKey xs k).map (fun p => (p.1, v)) else atKey xs k' := by
  unfold atKey
  induction xs with
  | nil => by_cases e : k' = k <;> simp [e]
  | cons x xs ih =>
    refine hide fun CCC kkk => ?_
    obtain ⟨a, b, c⟩ := x
    refine kkk ?_; clear kkk
    by_cases p : a = k
    · subst p
      by_cases q : k' = a
      · subst q; simp [putAt]
      · have : ¬ a = k' := fun e => q e.symm
        simp only [List.map_cons, List.find?_cons, putAt, if_true, this, decide_false, q, if_false] at ih ⊢
        exact ih
    · by_cases q : k' = k
      · subst q
        simp only [List.map_cons, List.find?_cons, putAt, p, if_false, decide_false, if_true] at ih ⊢
        exact ih
      · by_cases r : a = k'
        · subst r; simp [putAt, p]
        · simp only [List.map_cons, List.find?_cons, putAt, p, r, if_false, decide_false, q] at ih ⊢
          exact ih
theorem atKey_append {xs : List (List Int × Addr × Value)} {k k' : List Int} {a : Addr} {v : Value} (h : atKey xs k = none) : atKey (xs ++ [(k, a, v)]) k' = if k' = k then some (a, v) else atKey xs k' := by
  unfold atKey at *
  rw [List.find?_append]
  by_cases q : k' = k
  · subst q
    have : (xs.find? fun x => decide (x.1 = k')) = none := by simpa using h
    rw [this]; simp
  · have : ¬ k = k' := fun e => q e.symm
    simp [q, this]
theorem atKey_stored {xs : List (List Int × Addr × Value)} {k k' : List Int} {a : Addr} {v : Value} : ∃ b, atKey (storedH xs k a v) k' = if k' = k then some (b, v) else atKey xs k' := by
  unfold storedH
  cases h : atKey xs k with
  | none => exact ⟨a, by simp only [Option.isSome_none, Bool.false_eq_true, if_false]; exact atKey_append h⟩
  | some p => exact ⟨p.1, by simp only [Option.isSome_some, if_true, atKey_map, h, Option.map_some]⟩
theorem stored_len {xs : List (List Int × Addr × Value)} {k : List Int} {a : Addr} {v : Value} : (storedH xs k a v).length ≤ xs.length + 1 := by
  unfold storedH; split <;> simp
end
section
variable {prog : Program} {w : World} {A : Around} {E : Value → Shared → Prop} {md : Kd → Bool} {σ₀ σ τ : Mp} {H₀ H : Hp} {h₀ h : Heap} {g : Array GenState} {d : Drawn} {t : Nat} {os : OsState} {L a D : Addr} {m : Str → Option Value}
  {name qual : Str} {scope : Scope} {f : Addr} {cd : Value} {x : Str} {pos : Pos} {v y : Value} {vs ws : List Value} {k : Nat}
theorem SpO.dictOf {o : Obj} {sp : Nat → Nat → Option Int} {n : Nat} {xs : K2} (X : SpO σ o sp n xs) (F : Fm w σ₀ h₀ σ L h m) (e : σ D = some o) : h.DictOfH (tupleKind (intKind prog w)) D xs := by
  refine hide fun CCC kkk => ?_
  obtain ⟨es, ep, hd, he⟩ := X.dat
  refine kkk ?_; clear kkk
  refine ⟨o, es, ep, F.ok.sub _ _ e, X.ex, hd, he, fun x hx => ?_, X.nd⟩
  refine hide fun CCC kkk => ?_
  obtain ⟨i, j, t1, t2, e1, e2⟩ := X.keys x hx
  refine kkk ?_; clear kkk
  show IsTupleKey (intKind prog w) h x.1 x.2.1
  rw [e1]
  exact ⟨_, _, 0, F.ok.sub _ _ e2, rfl, rfl, .cons (by simp [intKind, Value.isInt]) (.cons (by simp [intKind, Value.isInt]) .nil)⟩
theorem key2 {ka : Addr} {i j : Nat} {t1 t2 : Tok} (F : Fm w σ₀ h₀ σ L h m) (hk : TO σ ka [.int i t1, .int j t2]) : (tupleKind (intKind prog w)).is h [(i : Int), (j : Int)] ka :=
  ⟨_, _, 0, F.ok.sub _ _ hk, rfl, rfl, .cons (by simp [intKind, Value.isInt]) (.cons (by simp [intKind, Value.isInt]) .nil)⟩
theorem key_inj {i j a b : Nat} : ([(i : Int), (j : Int)] = [(a : Int), (b : Int)]) ↔ (i = a ∧ j = b) := by
  constructor
  · intro h
    refine hide fun CCC kkk => ?_
    obtain ⟨h1, h2⟩ := List.cons.inj h
    refine kkk ?_; clear kkk
    refine hide fun CCC kkk => ?_
    obtain ⟨h2, _⟩ := List.cons.inj h2
    refine kkk ?_; clear kkk
    exact ⟨by lia, by lia⟩
  · rintro ⟨rfl, rfl⟩; rfl
theorem spSetF {Q : Unit → Shared → Prop} {o : Obj} {sp : Nat → Nat → Option Int} {n : Nat} {xs : K2} {ka : Addr} {i j : Nat} {t1 t2 t3 : Tok} {s : Int} (F : Fm w σ₀ h₀ σ L h m) (R : Room 1 A) (e : σ D = some o) (X : SpO σ o sp n xs)
    (hk : TO σ ka [.int i t1, .int j t2]) (hD : Hi D) (hz : n ≤ 16000000)
    (q : ∀ h' o' xs' t', SpO σ o' (fun a b => if a = i ∧ b = j then some s else sp a b) (n + 1) xs' → ¬ isTupO o' → Fm w σ₀ h₀ (put σ D o') L h' m → Q () ⟨h', g, d, t', os⟩) :
    wpAny (model prog w) A (setItem (.ref D) (.ref ka) (.int s t3)) Q E ⟨h, g, d, t, os⟩ := by
  have hu : (tupleKind (intKind prog w)).room A.in1 := by have := R.2.1; show A.units + 1 < cLine; unfold cLine; lia
  refine wpAny_setItem_heap (s := ⟨h, g, d, t, os⟩) hu (key2 F hk) (X.dictOf F e) (fun h' hm' hs' => ?_) (by have := X.len; rw [sizeLine_eq]; lia)
  refine hide fun CCC kkk => ?_
  obtain ⟨o', es', ep', ho', hex, hd', he', hk', hn'⟩ := hm'
  refine kkk ?_; clear kkk
  refine q h' o' _ _ ⟨hex, ⟨es', ep', hd', he'⟩, fun x hx => ?_, hn', Nat.le_trans stored_len (Nat.succ_le_succ X.len), fun a b hab => ?_, fun a b s' hab => ?_⟩ (by intro z; unfold isTupO at z; rw [hex.1] at z; exact absurd z (by decide)) (F.change hD e hs' ho')
  · unfold storedH at hx
    split at hx
    · refine hide fun CCC kkk => ?_
      obtain ⟨y, hy, rfl⟩ := List.mem_map.mp hx
      refine kkk ?_; clear kkk
      refine hide fun CCC kkk => ?_
      obtain ⟨a, b, u1, u2, e1, e2⟩ := X.keys y hy
      refine kkk ?_; clear kkk
      refine ⟨a, b, u1, u2, ?_, ?_⟩ <;> unfold putAt <;> split <;> assumption
    · rcases List.mem_append.mp hx with hx | hx
      · exact X.keys x hx
      · cases List.mem_singleton.mp hx; exact ⟨i, j, t1, t2, rfl, hk⟩
  · refine hide fun CCC kkk => ?_
    obtain ⟨b', e'⟩ := @atKey_stored xs [(i : Int), (j : Int)] [(a : Int), (b : Int)] ka (.int s t3)
    refine kkk ?_; clear kkk
    rw [e']
    split at hab
    · cases hab
    · rename_i hne
      rw [if_neg (fun z => hne (key_inj.mp z))]; exact X.no a b hab
  · refine hide fun CCC kkk => ?_
    obtain ⟨b', e'⟩ := @atKey_stored xs [(i : Int), (j : Int)] [(a : Int), (b : Int)] ka (.int s t3)
    refine kkk ?_; clear kkk
    split at hab
    · rename_i he
      cases hab
      exact ⟨b', t3, by rw [e', if_pos (key_inj.mpr he)]⟩
    · rename_i hne
      refine hide fun CCC kkk => ?_
      obtain ⟨p, tt, ep⟩ := X.yes a b s' hab
      refine kkk ?_; clear kkk
      exact ⟨p, tt, by rw [e', if_neg (fun z => hne (key_inj.mp z))]; exact ep⟩
theorem gaL {xa dx C : Addr} {am : Str → Option Value} {Q : Value → Shared → Prop} (B : Bd w md σ₀ h₀ H₀ σ H L h m) (I : ObjIs τ xa dx C am) (l : Le τ σ) (hg : attrOk (KH w) C name = true) (hv : am name = some v) (hh : handedIn v = true)
    (q : Q v ⟨h, g, d, t + 1, os⟩) : wpAny (model prog w) A (getAttr (.ref xa) name true) Q E ⟨h, g, d, t, os⟩ :=
  gaF B.fm (let ⟨od, a, b, c⟩ := I; ⟨od, l _ _ a, l _ _ b, c⟩) hg hv hh q
theorem gmL {xa dx C fa : Addr} {am : Str → Option Value} {pl : Sem Bool} {Q : Value × List Value → Shared → Prop} (B : Bd w md σ₀ h₀ H₀ σ H L h m) (I : ObjIs τ xa dx C am) (l : Le τ σ) (hg : methOk (KH w) C name fa = true) (hv : am name = none)
    (q : Q (.ref fa, [.ref xa]) ⟨h, g, d, t, os⟩) : wpAny (model prog w) A (getMethod (.ref xa) name pl) Q E ⟨h, g, d, t, os⟩ :=
  gmF B.fm (let ⟨od, a, b, c⟩ := I; ⟨od, l _ _ a, l _ _ b, c⟩) hg hv q
noncomputable def methTab : List ((Addr × Str) × Addr) := [(((307 : Nat), "user"), (198 : Nat)), (((307 : Nat), "new_local"), (206 : Nat)), (((307 : Nat), "type_of"), (213 : Nat)), (((307 : Nat), "new_block"), (220 : Nat)), (((307 : Nat), "note"), (227 : Nat)), (((307 : Nat), "put"), (234 : Nat)), (((307 : Nat), "close"), (241 : Nat)), (((307 : Nat), "end"), (248 : Nat)), (((307 : Nat), "go"), (255 : Nat)), (((307 : Nat), "push"), (262 : Nat)), (((307 : Nat), "declare"), (269 : Nat)), (((307 : Nat), "hold"), (276 : Nat)), (((307 : Nat), "finish"), (283 : Nat)), (((307 : Nat), "pop"), (290 : Nat)), (((307 : Nat), "leave"), (297 : Nat)), (((307 : Nat), "finished"), (304 : Nat)), (((82 : Nat), "type_of"), (43 : Nat)), (((82 : Nat), "statements"), (57 : Nat)), (((82 : Nat), "terminator"), (64 : Nat)), (((82 : Nat), "spot"), (71 : Nat)), (((82 : Nat), "new_local"), (79 : Nat))]
theorem gmM {xa dx C fa : Addr} {am : Str → Option Value} {pl : Sem Bool} {Q : Value × List Value → Shared → Prop} (B : Bd w md σ₀ h₀ H₀ σ H L h m) (I : ObjIs τ xa dx C am) (l : Le τ σ) (hg : methTab.lookup (C, name) = some fa) (hv : am name = none)
    (q : Q (.ref fa, [.ref xa]) ⟨h, g, d, t, os⟩) : wpAny (model prog w) A (getMethod (.ref xa) name pl) Q E ⟨h, g, d, t, os⟩ := gmL B I l (lk_all (P := fun x a => methOk (KH w) x.1 x.2 a) (by kernel_rfl) hg) hv q
theorem ObjIs.le {xa dx C : Addr} {am : Str → Option Value} (I : ObjIs τ xa dx C am) (l : Le τ σ) : ObjIs σ xa dx C am := let ⟨od, a, b, c⟩ := I; ⟨od, l _ _ a, l _ _ b, c⟩
end
theorem Tk.put_at {σ : Mp} {a : Addr} {o o' : Obj} (h : σ a = some o) (n : ¬ isTupO o) : Tk σ (put σ a o') := fun b us e => by
  unfold TO
  rw [put_ne]; exact e
  rintro rfl; unfold TO at e; rw [h] at e; cases e; exact n rfl
section
variable {σ τ : Mp} {H H' : Hp} {c : Cs} {a : SA}
theorem ScK.modify {bs : List (List St × Tm)} (X : ScK σ H c bs) (t : Tk σ τ) (i : Nat) (f : List St × Tm → List St × Tm) (h0 : H' .blk = H .blk) (h1 : ∀ j, j ≠ i → H' (.b j) = H (.b j)) (h2 : ∀ j, j ≠ i → H' (.st j) = H (.st j))
    (y : ∀ v x, bs[i]? = some x → BlkAt σ H v i x → BlkAt τ H' v i (f x)) : ScK τ H' c (bs.modify i f) := by
  refine hide fun CCC kkk => ?_
  obtain ⟨n, vs, e, hl, r⟩ := X
  refine kkk ?_; clear kkk
  refine ⟨n, vs, h0.trans e, by rw [hl, List.length_modify], fun j v x hv hx => ?_⟩
  rw [List.getElem?_modify] at hx
  by_cases q : i = j
  · subst q
    cases p : bs[i]? with
    | none => rw [p] at hx; simp at hx
    | some z =>
      rw [p] at hx; simp at hx; subst hx
      exact y v z p (r i v z hv p)
  · have : bs[j]? = some x := by
      simp only [if_neg q] at hx
      cases p : bs[j]? <;> rw [p] at hx <;> simp at hx ⊢ <;> exact hx
    exact (r j v x hv this).mono t (h1 j (Ne.symm q)) (h2 j (Ne.symm q))
theorem ScF.modify {bs : List (List (Nat × Bool))} (X : ScF σ H c bs) (t : Tk σ τ) (i : Nat) (f : List (Nat × Bool) → List (Nat × Bool)) (h0 : H' .frs = H .frs) (h1 : ∀ j, j ≠ i → H' (.fr j) = H (.fr j))
    (y : ∀ v x, bs[i]? = some x → FrAt σ H v i x → FrAt τ H' v i (f x)) : ScF τ H' c (bs.modify i f) := by
  refine hide fun CCC kkk => ?_
  obtain ⟨n, vs, e, hl, r⟩ := X
  refine kkk ?_; clear kkk
  refine ⟨n, vs, h0.trans e, by rw [hl, List.length_modify], fun j v x hv hx => ?_⟩
  rw [List.getElem?_modify] at hx
  by_cases q : i = j
  · subst q
    cases p : bs[i]? with
    | none => rw [p] at hx; simp at hx
    | some z =>
      rw [p] at hx; simp at hx; subst hx
      exact y v z p (r i v z hv p)
  · have : bs[j]? = some x := by
      simp only [if_neg q] at hx
      cases p : bs[j]? <;> rw [p] at hx <;> simp at hx ⊢ <;> exact hx
    exact (r j v x hv this).mono t (h1 j (Ne.symm q))
theorem snoc_get {α : Type} {xs : List α} {x y : α} {i : Nat} (h : (xs ++ [x])[i]? = some y) : (i < xs.length ∧ xs[i]? = some y) ∨ (i = xs.length ∧ y = x) := by
  rcases Nat.lt_trichotomy i xs.length with q | q | q
  · exact .inl ⟨q, by rw [List.getElem?_append_left q] at h; exact h⟩
  · subst q; rw [List.getElem?_append_right (Nat.le_refl _)] at h; simp at h; exact .inr ⟨rfl, h.symm⟩
  · rw [List.getElem?_eq_none (by rw [List.length_append]; simp; lia)] at h; cases h
end
section
variable {prog : Program} {w : World} {A : Around} {E : Value → Shared → Prop} {md : Kd → Bool} {σ₀ σ τ : Mp} {H₀ H : Hp} {h₀ h : Heap} {g : Array GenState} {d : Drawn} {t : Nat} {os : OsState} {L a D : Addr} {m : Str → Option Value}
  {name qual : Str} {scope : Scope} {f : Addr} {cd : Value} {x : Str} {pos : Pos} {v y : Value} {vs ws : List Value} {k : Nat} {kd : Kd} {n : Nat}
theorem lisO_no {vs : List Value} {n : Nat} : ¬ isTupO (lisO vs n) := fun z => by
  have : (Value.type "list" : Value) = .type "tuple" := z
  exact absurd this (by decide)
theorem newListK {Q : Value → Shared → Prop} (kd : Kd) (B : Bd w md σ₀ h₀ H₀ σ H L h m) (hz : vs.length ≤ 1000000) (hm : md kd = true)
    (q : ∀ a h', σ a = none → Hi a → Bd w md σ₀ h₀ H₀ (put σ a (lisO vs 0)) (upd H kd a (lisO vs 0)) L h' m → Q (.ref a) ⟨h', g, d, t, os⟩) : wpAny (model prog w) A (newList vs) Q E ⟨h, g, d, t, os⟩ :=
  newListF B.fm hz fun a h' e n F => q a h' e n (B.add e n lisO_no hm F)
theorem appendK {Q : Value → Shared → Prop} {D : Addr} (B : Bd w md σ₀ h₀ H₀ σ H L h m) (l : H kd = some (D, lisO vs n)) (hz : vs.length ≤ 1000000) (hm : md kd = true)
    (q : ∀ h' n, Bd w md σ₀ h₀ H₀ (put σ D (lisO (vs ++ [y]) n)) (upd H kd D (lisO (vs ++ [y]) n)) L h' m → Q .none ⟨h', g, d, t, os⟩) : wpAny (model prog w) A (call (.builtin "list.append") [.ref D, y]) Q E ⟨h, g, d, t, os⟩ :=
  appendF B.fm ⟨n, B.hp.at_ _ _ _ l⟩ (B.hp.hi _ _ _ l) hz fun h' n' F => q h' n' (B.set l lisO_no hm F)
theorem popK {Q : Value → Shared → Prop} {D : Addr} (B : Bd w md σ₀ h₀ H₀ σ H L h m) (l : H kd = some (D, lisO (vs ++ [y]) n)) (hz : vs.length + 1 ≤ 1000000) (hm : md kd = true)
    (q : ∀ h' n, Bd w md σ₀ h₀ H₀ (put σ D (lisO vs n)) (upd H kd D (lisO vs n)) L h' m → Q y ⟨h', g, d, t, os⟩) : wpAny (model prog w) A (call (.builtin "list.pop") [.ref D]) Q E ⟨h, g, d, t, os⟩ :=
  popF B.fm ⟨n, B.hp.at_ _ _ _ l⟩ (B.hp.hi _ _ _ l) hz fun h' n' F => q h' n' (B.set l lisO_no hm F)
theorem setLK {Q : Unit → Shared → Prop} {D : Addr} {i : Nat} {u : Tok} (B : Bd w md σ₀ h₀ H₀ σ H L h m) (l : H kd = some (D, lisO vs n)) (hi : i < vs.length) (hz : i ≤ 1000000) (hm : md kd = true)
    (q : ∀ h' n, Bd w md σ₀ h₀ H₀ (put σ D (lisO (vs.set i v) n)) (upd H kd D (lisO (vs.set i v) n)) L h' m → Q () ⟨h', g, d, t, os⟩) : wpAny (model prog w) A (setItem (.ref D) (.int i u) v) Q E ⟨h, g, d, t, os⟩ :=
  setLF B.fm ⟨n, B.hp.at_ _ _ _ l⟩ (B.hp.hi _ _ _ l) hi hz fun h' n' F => q h' n' (B.set l lisO_no hm F)
theorem methA {Q : Value × List Value → Shared → Prop} {pl : Sem Bool} (F : Fm w σ₀ h₀ σ L h m) (l : LO σ a vs) (q : Q (.builtin "list.append", [.ref a]) ⟨h, g, d, t, os⟩) : wpAny (model prog w) A (getMethod (.ref a) "append" pl) Q E ⟨h, g, d, t, os⟩ :=
  methF F l PySem.F.slot_list_append rfl q
theorem methP {Q : Value × List Value → Shared → Prop} {pl : Sem Bool} (F : Fm w σ₀ h₀ σ L h m) (l : LO σ a vs) (q : Q (.builtin "list.pop", [.ref a]) ⟨h, g, d, t, os⟩) : wpAny (model prog w) A (getMethod (.ref a) "pop" pl) Q E ⟨h, g, d, t, os⟩ :=
  methF F l PySem.F.slot_list_pop rfl q
theorem methE {Q : Value × List Value → Shared → Prop} {pl : Sem Bool} (F : Fm w σ₀ h₀ σ L h m) (l : LO σ a vs) (q : Q (.builtin "list.extend", [.ref a]) ⟨h, g, d, t, os⟩) : wpAny (model prog w) A (getMethod (.ref a) "extend" pl) Q E ⟨h, g, d, t, os⟩ :=
  methF F l PySem.F.slot_list_extend rfl q
theorem saHere {Q : Unit → Shared → Prop} {c : Cs} {a : SA} {i : Nat} {u : Tok} (B : Bd w md σ₀ h₀ H₀ σ H L h m) (Y : Sc σ H c a) (hm : md .scD = true)
    (q : ∀ h' t' σ' H', Bd w md σ₀ h₀ H₀ σ' H' L h' m → Sc σ' H' c { a with here := i } → Tk σ σ' → (∀ k, k ≠ .scD → H' k = H k) → Q () ⟨h', g, d, t', os⟩) :
    wpAny (model prog w) A (setAttr (.ref c.S) "here" (.int i u)) Q E ⟨h, g, d, t, os⟩ := by
  refine hide fun CCC kkk => ?_
  obtain ⟨h1, od, t1, t2, h2, h3⟩ := Y.s
  refine kkk ?_; clear kkk
  refine saF B.fm (B.hp.at_ _ _ _ h1) (B.hp.at_ _ _ _ h2) h3 (Nat.le_refl _) (B.hp.hi _ _ _ h2) (by kernel_rfl) fun h' od' z F => ?_
  have no : ¬ isTupO od' := by obtain ⟨es, n, rfl, _⟩ := z; intro z; exact absurd (show (Value.type "dict" : Value) = .type "tuple" from z) (by decide)
  refine q h' _ _ _ (B.set h2 no hm F) ?_ (Tk.put_at (B.hp.at_ _ _ _ h2) (B.hp.no _ _ _ h2)) fun k hk => upd_ne hk
  have e : ms "here" (Value.int i u) (scAm c (.int a.here t1) (.int a.spot t2)) = scAm c (.int i u) (.int a.spot t2) := by
    funext x; unfold ms scAm; by_cases q : x = "here" <;> simp only [q, if_true, if_false]
  rw [e] at z
  exact Y.turn (Tk.put_at (B.hp.at_ _ _ _ h2) (B.hp.no _ _ _ h2)) (.inr ⟨(upd_ne (j := .sc) (k := .scD) nofun).trans h1, od', u, t2, upd_self, z⟩) (.inl ⟨nofun, nofun⟩) (.inl ⟨nofun, rfl⟩) (.inl ⟨nofun, fun _ => nofun, fun _ => nofun, rfl⟩) (.inl ⟨nofun, rfl, rfl⟩) (.inl ⟨nofun, fun _ => nofun, rfl⟩)
theorem saSpot {Q : Unit → Shared → Prop} {c : Cs} {a : SA} {i : Int} {u : Tok} (B : Bd w md σ₀ h₀ H₀ σ H L h m) (Y : Sc σ H c a) (hm : md .scD = true)
    (q : ∀ h' t' σ' H', Bd w md σ₀ h₀ H₀ σ' H' L h' m → Sc σ' H' c { a with spot := i } → Tk σ σ' → (∀ k, k ≠ .scD → H' k = H k) → Q () ⟨h', g, d, t', os⟩) :
    wpAny (model prog w) A (setAttr (.ref c.S) "spot" (.int i u)) Q E ⟨h, g, d, t, os⟩ := by
  refine hide fun CCC kkk => ?_
  obtain ⟨h1, od, t1, t2, h2, h3⟩ := Y.s
  refine kkk ?_; clear kkk
  refine saF B.fm (B.hp.at_ _ _ _ h1) (B.hp.at_ _ _ _ h2) h3 (Nat.le_refl _) (B.hp.hi _ _ _ h2) (by kernel_rfl) fun h' od' z F => ?_
  have no : ¬ isTupO od' := by obtain ⟨es, n, rfl, _⟩ := z; intro z; exact absurd (show (Value.type "dict" : Value) = .type "tuple" from z) (by decide)
  refine q h' _ _ _ (B.set h2 no hm F) ?_ (Tk.put_at (B.hp.at_ _ _ _ h2) (B.hp.no _ _ _ h2)) fun k hk => upd_ne hk
  have e : ms "spot" (Value.int i u) (scAm c (.int a.here t1) (.int a.spot t2)) = scAm c (.int a.here t1) (.int i u) := by
    funext x; unfold ms scAm
    by_cases p : x = "here"
    · subst p; rfl
    · by_cases q : x = "spot"
      · subst q; rfl
      · simp only [p, q, if_false]
  rw [e] at z
  exact Y.turn (Tk.put_at (B.hp.at_ _ _ _ h2) (B.hp.no _ _ _ h2)) (.inr ⟨(upd_ne (j := .sc) (k := .scD) nofun).trans h1, od', t1, u, upd_self, z⟩) (.inl ⟨nofun, nofun⟩) (.inl ⟨nofun, rfl⟩) (.inl ⟨nofun, fun _ => nofun, fun _ => nofun, rfl⟩) (.inl ⟨nofun, rfl, rfl⟩) (.inl ⟨nofun, fun _ => nofun, rfl⟩)
end
section
variable {σ : Mp} {H : Hp} {c : Cs} {a : SA} {i s : Nat} {b : Addr} {ss vs : List Value} {n1 n2 n3 n4 : Nat} {v tv : Value}
theorem Sc.stAdd {y : St} (X : HpIn σ H) (Y : Sc σ H c a) (k : H (.st i) = some (s, lisO ss n1)) (hv : StIs σ v y) :
    Sc (Mine.put σ s (lisO (ss ++ [v]) n2)) (upd H (.st i) s (lisO (ss ++ [v]) n2)) c { a with blocks := a.blocks.modify i fun z => (z.1 ++ [y], z.2) } := by
  have T : Tk σ (Mine.put σ s (lisO (ss ++ [v]) n2)) := Tk.put_at (X.at_ _ _ _ k) lisO_no
  refine Y.turn T (.inl ⟨nofun, nofun, rfl, rfl⟩) (.inl ⟨nofun, nofun⟩) (.inl ⟨nofun, rfl⟩) (.inr ?_) (.inl ⟨nofun, rfl, rfl⟩) (.inl ⟨nofun, fun _ => nofun, rfl⟩)
  refine Y.k.modify T i _ (upd_ne nofun) (fun j _ => upd_ne nofun) (fun j q => upd_ne fun e => q (by injection e)) ?_
  intro u x _ zzq3
  refine hide fun CCC kkk => ?_
  obtain ⟨a', s', m1, m2, tv, ss', rfl, p, q, r, z⟩ := zzq3
  refine kkk ?_; clear kkk
  rw [k] at q; cases q
  exact ⟨a', s, m1, n2, tv, _, rfl, Eq.trans (upd_ne nofun) p, upd_self, (r.imp fun _ _ z => z.tk T).snoc (hv.tk T), z.tk T⟩
theorem Sc.tmSet {y : Tm} (X : HpIn σ H) (Y : Sc σ H c a) (k : H (.b i) = some (b, lisO [.ref s, tv] n1)) (hv : TmIs σ v y) :
    Sc (Mine.put σ b (lisO [.ref s, v] n2)) (upd H (.b i) b (lisO [.ref s, v] n2)) c { a with blocks := a.blocks.modify i fun z => (z.1, y) } := by
  have T : Tk σ (Mine.put σ b (lisO [.ref s, v] n2)) := Tk.put_at (X.at_ _ _ _ k) lisO_no
  refine Y.turn T (.inl ⟨nofun, nofun, rfl, rfl⟩) (.inl ⟨nofun, nofun⟩) (.inl ⟨nofun, rfl⟩) (.inr ?_) (.inl ⟨nofun, rfl, rfl⟩) (.inl ⟨nofun, fun _ => nofun, rfl⟩)
  refine Y.k.modify T i _ (upd_ne nofun) (fun j q => upd_ne fun e => q (by injection e)) (fun j _ => upd_ne nofun) ?_
  intro u x _ zzq3
  refine hide fun CCC kkk => ?_
  obtain ⟨a', s', m1, m2, tv', ss', rfl, p, q, r, z⟩ := zzq3
  refine kkk ?_; clear kkk
  rw [k] at p; cases p
  exact ⟨b, s, n2, m2, v, ss', rfl, upd_self, Eq.trans (upd_ne nofun) q, r.imp fun _ _ z => z.tk T, hv.tk T⟩
theorem Sc.stNew {o : Obj} {p : Addr} (Y : Sc σ H c a) (hp : σ p = none) (hi : i = a.blocks.length) : Sc (Mine.put σ p o) (upd H (.st i) p o) c a := by
  have T : Tk σ (Mine.put σ p o) := (Le.put hp o).tk
  refine Y.turn T (.inl ⟨nofun, nofun, rfl, rfl⟩) (.inl ⟨nofun, nofun⟩) (.inl ⟨nofun, rfl⟩) (.inr ?_) (.inl ⟨nofun, rfl, rfl⟩) (.inl ⟨nofun, fun _ => nofun, rfl⟩)
  refine hide fun CCC kkk => ?_
  obtain ⟨n, vs, e, hl, r⟩ := Y.k
  refine kkk ?_; clear kkk
  refine ⟨n, vs, Eq.trans (upd_ne nofun) e, hl, fun j v x hv hx => (r j v x hv hx).mono T (upd_ne nofun) (upd_ne fun e => ?_)⟩
  have : j < a.blocks.length := (List.getElem?_eq_some_iff.mp hx).1
  injection e with e; lia
theorem Sc.bNew {o : Obj} {p : Addr} (Y : Sc σ H c a) (hp : σ p = none) (hi : i = a.blocks.length) : Sc (Mine.put σ p o) (upd H (.b i) p o) c a := by
  have T : Tk σ (Mine.put σ p o) := (Le.put hp o).tk
  refine Y.turn T (.inl ⟨nofun, nofun, rfl, rfl⟩) (.inl ⟨nofun, nofun⟩) (.inl ⟨nofun, rfl⟩) (.inr ?_) (.inl ⟨nofun, rfl, rfl⟩) (.inl ⟨nofun, fun _ => nofun, rfl⟩)
  refine hide fun CCC kkk => ?_
  obtain ⟨n, vs, e, hl, r⟩ := Y.k
  refine kkk ?_; clear kkk
  refine ⟨n, vs, Eq.trans (upd_ne nofun) e, hl, fun j v x hv hx => (r j v x hv hx).mono T (upd_ne fun e => ?_) (upd_ne nofun)⟩
  have : j < a.blocks.length := (List.getElem?_eq_some_iff.mp hx).1
  injection e with e; lia
theorem Sc.blkAdd {y : List St × Tm} (X : HpIn σ H) (Y : Sc σ H c a) (k : H .blk = some (c.blk, lisO vs n1)) (hb : BlkAt σ H v a.blocks.length y) :
    Sc (Mine.put σ c.blk (lisO (vs ++ [v]) n2)) (upd H .blk c.blk (lisO (vs ++ [v]) n2)) c { a with blocks := a.blocks ++ [y] } := by
  have T : Tk σ (Mine.put σ c.blk (lisO (vs ++ [v]) n2)) := Tk.put_at (X.at_ _ _ _ k) lisO_no
  refine Y.turn T (.inl ⟨nofun, nofun, rfl, rfl⟩) (.inl ⟨nofun, nofun⟩) (.inl ⟨nofun, rfl⟩) (.inr ?_) (.inl ⟨nofun, rfl, rfl⟩) (.inl ⟨nofun, fun _ => nofun, rfl⟩)
  refine hide fun CCC kkk => ?_
  obtain ⟨n, vs', e, hl, r⟩ := Y.k
  refine kkk ?_; clear kkk
  rw [k] at e; cases e
  refine ⟨n2, _, upd_self, by rw [List.length_append, List.length_append, hl]; rfl, fun j u x hv hx => ?_⟩
  rcases snoc_get hv with ⟨q, hv⟩ | ⟨q, rfl⟩
  · rcases snoc_get hx with ⟨_, hx⟩ | ⟨q', _⟩
    · exact (r j u x hv hx).mono T (upd_ne nofun) (upd_ne nofun)
    · lia
  · rcases snoc_get hx with ⟨q', _⟩ | ⟨q', rfl⟩
    · lia
    · rw [q, hl]; exact hb.mono T (upd_ne nofun) (upd_ne nofun)
theorem Sc.frNew {o : Obj} {p : Addr} (Y : Sc σ H c a) (hp : σ p = none) (hi : i = a.frames.length) : Sc (Mine.put σ p o) (upd H (.fr i) p o) c a := by
  have T : Tk σ (Mine.put σ p o) := (Le.put hp o).tk
  refine Y.turn T (.inl ⟨nofun, nofun, rfl, rfl⟩) (.inl ⟨nofun, nofun⟩) (.inl ⟨nofun, rfl⟩) (.inl ⟨nofun, fun _ => nofun, fun _ => nofun, rfl⟩) (.inl ⟨nofun, rfl, rfl⟩) (.inr ?_)
  refine hide fun CCC kkk => ?_
  obtain ⟨n, vs, e, hl, r⟩ := Y.f
  refine kkk ?_; clear kkk
  refine ⟨n, vs, Eq.trans (upd_ne nofun) e, hl, fun j v x hv hx => (r j v x hv hx).mono T (upd_ne fun e => ?_)⟩
  have : j < a.frames.length := (List.getElem?_eq_some_iff.mp hx).1
  injection e with e; lia
theorem Sc.frsAdd {y : List (Nat × Bool)} (X : HpIn σ H) (Y : Sc σ H c a) (k : H .frs = some (c.frs, lisO vs n1)) (hb : FrAt σ H v a.frames.length y) :
    Sc (Mine.put σ c.frs (lisO (vs ++ [v]) n2)) (upd H .frs c.frs (lisO (vs ++ [v]) n2)) c { a with frames := a.frames ++ [y] } := by
  have T : Tk σ (Mine.put σ c.frs (lisO (vs ++ [v]) n2)) := Tk.put_at (X.at_ _ _ _ k) lisO_no
  refine Y.turn T (.inl ⟨nofun, nofun, rfl, rfl⟩) (.inl ⟨nofun, nofun⟩) (.inl ⟨nofun, rfl⟩) (.inl ⟨nofun, fun _ => nofun, fun _ => nofun, rfl⟩) (.inl ⟨nofun, rfl, rfl⟩) (.inr ?_)
  refine hide fun CCC kkk => ?_
  obtain ⟨n, vs', e, hl, r⟩ := Y.f
  refine kkk ?_; clear kkk
  rw [k] at e; cases e
  refine ⟨n2, _, upd_self, by rw [List.length_append, List.length_append, hl]; rfl, fun j u x hv hx => ?_⟩
  rcases snoc_get hv with ⟨q, hv⟩ | ⟨q, rfl⟩
  · rcases snoc_get hx with ⟨_, hx⟩ | ⟨q', _⟩
    · exact (r j u x hv hx).mono T (upd_ne nofun)
    · lia
  · rcases snoc_get hx with ⟨q', _⟩ | ⟨q', rfl⟩
    · lia
    · rw [q, hl]; exact hb.mono T (upd_ne nofun)
theorem Sc.frsPop {y : List (Nat × Bool)} {fs : List (List (Nat × Bool))} (X : HpIn σ H) (Y : Sc σ H c a) (e : a.frames = fs ++ [y]) (k : H .frs = some (c.frs, lisO (vs ++ [v]) n1)) :
    Sc (Mine.put σ c.frs (lisO vs n2)) (upd H .frs c.frs (lisO vs n2)) c { a with frames := fs } := by
  have T : Tk σ (Mine.put σ c.frs (lisO vs n2)) := Tk.put_at (X.at_ _ _ _ k) lisO_no
  refine Y.turn T (.inl ⟨nofun, nofun, rfl, rfl⟩) (.inl ⟨nofun, nofun⟩) (.inl ⟨nofun, rfl⟩) (.inl ⟨nofun, fun _ => nofun, fun _ => nofun, rfl⟩) (.inl ⟨nofun, rfl, rfl⟩) (.inr ?_)
  refine hide fun CCC kkk => ?_
  obtain ⟨n, vs', e', hl, r⟩ := Y.f
  refine kkk ?_; clear kkk
  rw [k] at e'
  obtain ⟨rfl⟩ : vs' = vs ++ [v] := by
    have := congrArg (fun o : Option (Addr × Obj) => o.map (·.2.data)) e'
    exact (by simpa using this.symm : vs' = vs ++ [v] ∧ n = n1).1
  rw [e] at hl r
  have hl2 : vs.length = fs.length := by simpa using hl
  refine ⟨n2, vs, upd_self, hl2, fun j u x hv hx => (r j u x ?_ ?_).mono T (upd_ne nofun)⟩
  · rw [List.getElem?_append_left (List.getElem?_eq_some_iff.mp hv).1]; exact hv
  · rw [List.getElem?_append_left (List.getElem?_eq_some_iff.mp hx).1]; exact hx
theorem Sc.frAdd {y : Nat × Bool} (X : HpIn σ H) (Y : Sc σ H c a) (k : H (.fr i) = some (b, lisO ss n1)) (hv : FiIs σ v y) :
    Sc (Mine.put σ b (lisO (ss ++ [v]) n2)) (upd H (.fr i) b (lisO (ss ++ [v]) n2)) c { a with frames := a.frames.modify i fun z => z ++ [y] } := by
  have T : Tk σ (Mine.put σ b (lisO (ss ++ [v]) n2)) := Tk.put_at (X.at_ _ _ _ k) lisO_no
  refine Y.turn T (.inl ⟨nofun, nofun, rfl, rfl⟩) (.inl ⟨nofun, nofun⟩) (.inl ⟨nofun, rfl⟩) (.inl ⟨nofun, fun _ => nofun, fun _ => nofun, rfl⟩) (.inl ⟨nofun, rfl, rfl⟩) (.inr ?_)
  refine Y.f.modify T i _ (upd_ne nofun) (fun j q => upd_ne fun e => q (by injection e)) ?_
  intro u x _ zzq3
  refine hide fun CCC kkk => ?_
  obtain ⟨a', m1, fs', rfl, q, r⟩ := zzq3
  refine kkk ?_; clear kkk
  rw [k] at q; cases q
  exact ⟨b, n2, _, rfl, upd_self, (r.imp fun _ _ z => z.tk T).snoc (hv.tk T)⟩
theorem Sc.locAdd {u : Value} (X : HpIn σ H) (Y : Sc σ H c a) (k : H .loc = some (c.loc, lisO vs n1)) (hv : LocIs σ v u) :
    Sc (Mine.put σ c.loc (lisO (vs ++ [v]) n2)) (upd H .loc c.loc (lisO (vs ++ [v]) n2)) c { a with tvs := a.tvs ++ [u] } := by
  have T : Tk σ (Mine.put σ c.loc (lisO (vs ++ [v]) n2)) := Tk.put_at (X.at_ _ _ _ k) lisO_no
  refine Y.turn T (.inl ⟨nofun, nofun, rfl, rfl⟩) (.inl ⟨nofun, nofun⟩) (.inr ?_) (.inl ⟨nofun, fun _ => nofun, fun _ => nofun, rfl⟩) (.inl ⟨nofun, rfl, rfl⟩) (.inl ⟨nofun, fun _ => nofun, rfl⟩)
  refine hide fun CCC kkk => ?_
  obtain ⟨n, vs', e, r⟩ := Y.l
  refine kkk ?_; clear kkk
  rw [k] at e; cases e
  exact ⟨n2, _, upd_self, (r.imp fun _ _ z => z.tk T).snoc (hv.tk T)⟩
end
noncomputable def ItO (o : Obj) (D : Addr) (i : Nat) : Prop := o.cls = .type "list_iterator" ∧ o.data = .fields #[.ref D, .int i 0]
noncomputable def del (σ : Mp) (a : Addr) : Mp := fun b => if b = a then none else σ b
noncomputable def clr (H : Hp) (k : Kd) : Hp := fun j => if j = k then none else H j
theorem del_ne {σ : Mp} {a b : Addr} (h : b ≠ a) : del σ a b = σ b := if_neg h
theorem clr_ne {H : Hp} {k j : Kd} (h : j ≠ k) : clr H k j = H j := if_neg h
theorem clr_self {H : Hp} {k : Kd} : clr H k k = none := if_pos rfl
section
variable {w : World} {md : Kd → Bool} {σ₀ σ : Mp} {H₀ H : Hp} {h₀ h h' : Heap} {L a it : Addr} {m : Str → Option Value} {o o' : Obj} {k : Kd}
theorem Bs.del (B : Bs w σ) (ha : Hi a) : Bs w (del σ a) := by
  refine ⟨fun b ob e => ?_, ?_, ?_⟩
  · rw [del_ne (KH_ne e ha)]; exact B.k b ob e
  · refine hide fun CCC kkk => ?_
    obtain ⟨ob, es, ep, e, r⟩ := B.b
    refine kkk ?_; clear kkk
    exact ⟨ob, es, ep, (del_ne (Ne.symm ha.ne.1)).trans e, r⟩
  · refine hide fun CCC kkk => ?_
    obtain ⟨ob, e, r⟩ := B.m
    refine kkk ?_; clear kkk
    exact ⟨ob, (del_ne (Ne.symm ha.ne.2)).trans e, r⟩
theorem Fm.ext {b : Addr} (F : Fm w σ₀ h₀ σ L h m) (x : Heap.ExtBut b h h') (hb : h.get? b = none) : Fm w σ₀ h₀ σ L h' m := by
  have T : ∀ a o, h.get? a = some o → h'.get? a = some o := fun a o e => x a o (by rintro rfl; rw [hb] at e; cases e) e
  refine ⟨⟨F.ok.base, fun a o e => T a o (F.ok.sub a o e)⟩, ?_, F.out, F.new, ⟨fun a o e n => T a o (F.ps.kept a o e n), F.ps.dom, F.ps.up⟩⟩
  refine hide fun CCC kkk => ?_
  obtain ⟨o, es, ep, ho, r⟩ := F.ns
  refine kkk ?_; clear kkk
  exact ⟨o, es, ep, T _ _ ho, r⟩
theorem Bd.del (B : Bd w md σ₀ h₀ H₀ σ H L h m) (e : H k = some (it, o)) (hn : σ₀ it = none) (hm : md k = true) (x : Heap.ExtBut it h h') : Bd w md σ₀ h₀ H₀ (del σ it) (clr H k) L h' m := by
  have eσ := B.hp.at_ _ _ _ e
  have hL : L ≠ it := by rintro rfl; rw [B.fm.out] at eσ; cases eσ
  have h0 : h₀.get? it = none := B.fm.ps.dom _ _ eσ hn
  refine ⟨⟨⟨B.fm.ok.base.del (B.hp.hi _ _ _ e), fun a o ea => ?_⟩, ?_, (del_ne hL).trans B.fm.out, B.fm.new, ⟨fun a o ea n => ?_, fun a o ea n => ?_, fun a o ea => ?_⟩⟩, fun a o ea u => ?_, ⟨fun j b ob ej => ?_, fun j b ob ej => ?_, fun j b ob ej => ?_, fun j i b ob ob' ej ei => ?_⟩, fun j ej => ?_⟩
  · have q : a ≠ it := by rintro rfl; unfold Mine.del at ea; rw [if_pos rfl] at ea; cases ea
    rw [del_ne q] at ea; exact x a o q (B.fm.ok.sub a o ea)
  · refine hide fun CCC kkk => ?_
    obtain ⟨o, es, ep, ho, r⟩ := B.fm.ns
    refine kkk ?_; clear kkk
    exact ⟨o, es, ep, x _ _ hL ho, r⟩
  · exact x a o (by rintro rfl; rw [h0] at ea; cases ea) (B.fm.ps.kept a o ea n)
  · have q : a ≠ it := by rintro rfl; unfold Mine.del at ea; rw [if_pos rfl] at ea; cases ea
    rw [del_ne q] at ea; exact B.fm.ps.dom a o ea n
  · refine hide fun CCC kkk => ?_
    obtain ⟨o', e'⟩ := B.fm.ps.up a o ea
    refine kkk ?_; clear kkk
    exact ⟨o', (del_ne (by rintro rfl; rw [hn] at ea; cases ea)).trans e'⟩
  · refine hide fun CCC kkk => ?_
    obtain ⟨e1, u1⟩ := B.kp a o ea u
    refine kkk ?_; clear kkk
    refine ⟨(del_ne (by rintro rfl; rw [hn] at ea; cases ea)).trans e1, fun j oj q => ?_⟩
    unfold clr at q; split at q
    · cases q
    · exact u1 j oj q
  all_goals
    have hj : j ≠ k ∨ j = k := (Decidable.em (j = k)).symm
  · rcases hj with q | q
    · rw [clr_ne q] at ej
      exact (del_ne (by rintro rfl; exact q (B.hp.inj _ _ _ _ _ ej e))).trans (B.hp.at_ _ _ _ ej)
    · subst q; rw [clr_self] at ej; cases ej
  · rcases hj with q | q
    · rw [clr_ne q] at ej; exact B.hp.hi _ _ _ ej
    · subst q; rw [clr_self] at ej; cases ej
  · rcases hj with q | q
    · rw [clr_ne q] at ej; exact B.hp.no _ _ _ ej
    · subst q; rw [clr_self] at ej; cases ej
  · rcases hj with q | q
    · rw [clr_ne q] at ej
      rcases Decidable.em (i = k) with r | r
      · subst r; rw [clr_self] at ei; cases ei
      · rw [clr_ne r] at ei; exact B.hp.inj _ _ _ _ _ ej ei
    · subst q; rw [clr_self] at ej; cases ej
  · rcases hj with q | q
    · rw [clr_ne q]; exact B.ag j ej
    · subst q; rw [hm] at ej; cases ej
end
section
variable {prog : Program} {w : World} {A : Around} {E : Value → Shared → Prop} {md : Kd → Bool} {σ₀ σ : Mp} {H₀ H : Hp} {h₀ h : Heap} {g : Array GenState} {d : Drawn} {t : Nat} {os : OsState} {L a D : Addr} {m : Str → Option Value}
  {name qual : Str} {scope : Scope} {f : Addr} {cd : Value} {x y z : Str} {pos px py pz pt : Pos} {v vx vy vz : Value} {vs ws : List Value} {k : Kd} {x1 : Nat}
theorem iterB {Q : Value → Shared → Prop} (B : Bd w md σ₀ h₀ H₀ σ H L h m) (l : LO σ D vs) (hm : md k = true)
    (q : ∀ it h' o, σ it = none → ItO o D 0 → Bd w md σ₀ h₀ H₀ (put σ it o) (upd H k it o) L h' m → Q (.ref it) ⟨h', g, d, t, os⟩) : wpAny (model prog w) A (pyIter (.ref D)) Q E ⟨h, g, d, t, os⟩ :=
  wpAny_pyIter_list (B.fm.lst l) (q _ _ _ B.fm.ok.fresh ⟨rfl, rfl⟩ (B.add B.fm.ok.fresh B.fm.ok.size (by intro z; exact absurd (show (Value.type "list_iterator" : Value) = .type "tuple" from z) (by decide)) hm (B.fm.alloc rfl)))
theorem ItO.no {o : Obj} {i : Nat} (X : ItO o D i) : ¬ isTupO o := fun z => by unfold isTupO at z; rw [X.1] at z; exact absurd z (by decide)
theorem Bd.isIt {o : Obj} {it : Addr} {i : Nat} (B : Bd w md σ₀ h₀ H₀ σ H L h m) (e : H k = some (it, o)) (X : ItO o D i) : h.IsListIter it D i := ⟨o, B.fm.ok.sub _ _ (B.hp.at_ _ _ _ e), X.1, X.2⟩
theorem asg2 {env : Env} {Q : Unit → Shared → Prop} (F : Fm w σ₀ h₀ σ L h m) (ht : TO σ a [vx, vy]) (hh : A.handled = none)
    (q : ∀ h', Fm w σ₀ h₀ σ L h' (ms y vy (ms x vx m)) → Q () ⟨h', g, d, t + 2, os⟩)
    (he : env = envOf name scope L f cd) (hx : (envOf name scope L f cd).kindOf x = some .local) (hy : (envOf name scope L f cd).kindOf y = some .local) (hk : scope.kind = .function) :
    wpAny (model prog w) A (assign (.Tuple [.Name x px, .Name y py] x1 pt) env (.ref a)) Q E ⟨h, g, d, t, os⟩ := by
  subst he
  refine wpAny_assign_Tuple hh ⟨_, F.ok.sub _ _ ht, rfl, 0, rfl⟩ rfl rfl fun h' z => ?_
  have F1 := F.ext z (by cases q : h.get? h.objs.size with | none => rfl | some o => exact absurd (Heap.lt_size q) (Nat.lt_irrefl _))
  show wpAny _ A (do holding [vy] (assign (.Name x px) (envOf name scope L f cd) vx); do holding [] (assign (.Name y py) (envOf name scope L f cd) vy); pure ()) _ _ _
  refine wpAny_bind (wpAny_holding (wpAny_assign_Name (stF F1 (fun h2 F2 => ?_) hk hx)))
  exact wpAny_bind (wpAny_holding (wpAny_assign_Name (stF F2 (fun h3 F3 => wpAny_pure (q _ F3)) hk hy)))
end
theorem ite_tp {P R : Prop} (h : P) : if (true = true) then P else R := h
theorem ite_fp {P R : Prop} (h : R) : if (false = true) then P else R := h
section
variable {prog : Program} {w : World} {A : Around} {E : Value → Shared → Prop} {md : Kd → Bool} {σ₀ σ : Mp} {H₀ H : Hp} {h₀ h : Heap} {g : Array GenState} {d : Drawn} {t : Nat} {os : OsState} {L a b D : Addr} {m : Str → Option Value}
  {name qual : Str} {scope : Scope} {f : Addr} {cd : Value} {x y z : Str} {pos px py pz pt : Pos} {v vx vy vz : Value} {vs ws : List Value} {k : Nat} {kd : Kd} {x1 : Nat} {t1 t2 : Tok}
theorem eqS_t {Q : Value → Shared → Prop} (hx : (x == y) = true) (q : Q (.bool true) ⟨h, g, d, t, os⟩) : wpAny (model prog w) A (compareOp .Eq (.str x t1) (.str y t2)) Q E ⟨h, g, d, t, os⟩ :=
  PyProof.Rows.eq_str (by rw [hx]; exact q)
theorem eqS_f {Q : Value → Shared → Prop} (hx : (x == y) = false) (q : Q (.bool false) ⟨h, g, d, t, os⟩) : wpAny (model prog w) A (compareOp .Eq (.str x t1) (.str y t2)) Q E ⟨h, g, d, t, os⟩ :=
  PyProof.Rows.eq_str (by rw [hx]; exact q)
theorem inS {Q : Value → Shared → Prop} {ys : List Str} (c : Bool) (F : Fm w σ₀ h₀ σ L h m) (l : TO σ a vs) (hi : StrsAre vs ys) (hc : (ys.any (· == x)) = c) (q : Q (.bool c) ⟨h, g, d, t, os⟩) :
    wpAny (model prog w) A (compareOp .In (.str x t1) (.ref a)) Q E ⟨h, g, d, t, os⟩ :=
  in_tuple_strs (F.tup l) hi (by rw [hc]; exact q)
theorem neNil {Q : Value → Shared → Prop} (c : Bool) (F : Fm w σ₀ h₀ σ L h m) (R : Room 1 A) (l : LO σ a vs) (l2 : LO σ b []) (hc : (!vs.isEmpty) = c) (q : Q (.bool c) ⟨h, g, d, t, os⟩) :
    wpAny (model prog w) A (compareOp .NotEq (.ref a) (.ref b)) Q E ⟨h, g, d, t, os⟩ := by
  subst hc
  show wpAny _ A (richCompare .NotEq _ _) Q E _
  cases vs with
  | nil => exact SeqAt.RcNeAt.lists (s := ⟨h, g, d, t, os⟩) (e := fun _ => true) (F.lst l) (F.lst l2) rfl R.units (fun j h1 => absurd h1 (Nat.not_lt_zero _)) prog w E Q q
  | cons v vs => exact SeqAt.RcNeAt.lists_lengths (s := ⟨h, g, d, t, os⟩) (F.lst l) (F.lst l2) (by simp) R.units prog w E Q q
theorem eqNil {Q : Value → Shared → Prop} (c : Bool) (F : Fm w σ₀ h₀ σ L h m) (R : Room 1 A) (l : LO σ a vs) (l2 : LO σ b []) (hc : vs.isEmpty = c) (q : Q (.bool c) ⟨h, g, d, t, os⟩) :
    wpAny (model prog w) A (compareOp .Eq (.ref a) (.ref b)) Q E ⟨h, g, d, t, os⟩ := by
  subst hc
  show wpAny _ A (richCompare .Eq _ _) Q E _
  cases vs with
  | nil => exact SeqAt.RcAt.lists (s := ⟨h, g, d, t, os⟩) (e := fun _ => true) (F.lst l) (F.lst l2) rfl R.units (fun j h1 => absurd h1 (Nat.not_lt_zero _)) prog w E Q q
  | cons v vs => exact SeqAt.RcAt.lists_lengths (s := ⟨h, g, d, t, os⟩) (F.lst l) (F.lst l2) (by simp) R.units prog w E Q q
theorem extendTK {Q : Value → Shared → Prop} {n : Nat} (B : Bd w md σ₀ h₀ H₀ σ H L h m) (l : H kd = some (D, lisO vs n)) (l2 : TO σ b ws) (hz : vs.length + ws.length ≤ 1000000) (hm : md kd = true)
    (q : ∀ h' n, Bd w md σ₀ h₀ H₀ (put σ D (lisO (vs ++ ws) n)) (upd H kd D (lisO (vs ++ ws) n)) L h' m → Q .none ⟨h', g, d, t, os⟩) : wpAny (model prog w) A (call (.builtin "list.extend") [.ref D, .ref b]) Q E ⟨h, g, d, t, os⟩ := by
  have e := B.hp.at_ _ _ _ l
  refine hide fun CCC kkk => ?_
  obtain ⟨n', F'⟩ := B.fm.mapSeq (f := fun xs => xs ++ ws.toArray) (ws := vs ++ ws) e (B.hp.hi _ _ _ l) (by simp)
  refine kkk ?_; clear kkk
  refine call_meets PySem.F.slot_list_extend ⟨_, B.fm.ok.sub _ _ e, rfl⟩ PySem.F.entry_list_extend (PySem.F.args_list_extend_2 _ _)
    (PySem.AutoSeq1.list_extend_list_tuple_0 D vs.toArray n b ws.toArray 0 ?_ (line (by lia)) ?_) ⟨B.fm.ok.sub _ _ e, B.fm.ok.sub _ _ l2, q _ _ (B.set l lisO_no hm F')⟩
  · unfold Builtin.List.listTooLong
    simp only [List.size_toArray, Bool.and_eq_true, decide_eq_true_eq, not_and]
    intro _; rw [sizeLine_eq]; lia
  · simp only [List.size_toArray]; rw [sizeLine_eq]; lia
theorem extendLK {Q : Value → Shared → Prop} {n : Nat} (B : Bd w md σ₀ h₀ H₀ σ H L h m) (l : H kd = some (D, lisO vs n)) (l2 : LO σ b ws) (hz : vs.length + ws.length ≤ 1000000) (hm : md kd = true)
    (q : ∀ h' n, Bd w md σ₀ h₀ H₀ (put σ D (lisO (vs ++ ws) n)) (upd H kd D (lisO (vs ++ ws) n)) L h' m → Q .none ⟨h', g, d, t, os⟩) : wpAny (model prog w) A (call (.builtin "list.extend") [.ref D, .ref b]) Q E ⟨h, g, d, t, os⟩ :=
  extendF B.fm ⟨n, B.hp.at_ _ _ _ l⟩ l2 (B.hp.hi _ _ _ l) hz fun h' n' F => q h' n' (B.set l lisO_no hm F)
theorem sliceK {value slice : Expr} {vl vu vk : Value} {lo hi st : Option Int} {ops : List Value} {Q : Value → Shared → Prop} (kd : Kd) (B : Bd w md σ₀ h₀ H₀ σ H L h m) (l : LO σ D vs) (pl : IsPart vl lo) (pu : IsPart vu hi) (pk : IsPart vk st) (h0 : st ≠ some 0)
    (hz : vs.length ≤ 1000000) (hm : md kd = true) (hp : slicePick vs.toArray lo hi st = ws.toArray)
    (q : ∀ a h', σ a = none → Hi a → Bd w md σ₀ h₀ H₀ (put σ a (lisO ws 0)) (upd H kd a (lisO ws 0)) L h' m → Q (.ref a) ⟨h', g, d, t, os⟩)
    (hs : subscripted slice false (.ref D) (.ref h.objs.size) = operate ops (getItem (.ref D) (.ref h.objs.size))) :
    wpAny (model prog w) A (subscriptTail value slice (.ref D) (.ref h.objs.size)) Q E ⟨h.push { cls := .type "slice", data := .fields #[vl, vu, vk] }, g, d, t, os⟩ := by
  have B1 := B.with (B.fm.push { cls := .type "slice", data := .fields #[vl, vu, vk] })
  refine tail_any (B1.fm.lst l).typeIs slot_list_getitem.lookup (wpAny_getItem_list_slice (B1.fm.lst l) (Heap.IsSliceOf.new ..) pl pu pk h0 ?_ (line hz)) hs
  rw [hp]
  exact q _ _ B1.fm.ok.fresh B1.fm.ok.size (B1.add B1.fm.ok.fresh B1.fm.ok.size lisO_no hm (B1.fm.alloc rfl))
theorem SliceN {lower upper step : Option Expr} {env : Env} {p : Pos} {Q : Value → Shared → Prop}
    (q : wpAny (model prog w) A (evalPart lower env) (fun l s₁ => wpAny (model prog w) A (evalPart upper env) (fun u s₂ => wpAny (model prog w) A (evalPart step env) (fun st s₃ =>
      Q (.ref s₃.heap.objs.size) ⟨s₃.heap.push { cls := .type "slice", data := .fields #[l, u, st] }, s₃.gens, s₃.drawn, s₃.toks, s₃.os⟩) E s₂) E s₁) E ⟨h, g, d, t, os⟩) :
    wpAny (model prog w) A (eval (.Slice lower upper step p) env) Q E ⟨h, g, d, t, os⟩ := wpAny_Slice q
theorem partN {env : Env} {Q : Value → Shared → Prop} (q : Q .none ⟨h, g, d, t, os⟩) : wpAny (model prog w) A (evalPart none env) Q E ⟨h, g, d, t, os⟩ := wpAny_pure q
theorem partS {env : Env} {e : Expr} {Q : Value → Shared → Prop} (q : wpAny (model prog w) A (eval e env) Q E ⟨h, g, d, t, os⟩) : wpAny (model prog w) A (evalPart (some e) env) Q E ⟨h, g, d, t, os⟩ := q
inductive WhI (w : World) (md : Kd → Bool) (σ₀ : Mp) (h₀ : Heap) (H₀ : Hp) (L : Addr) (g : Array GenState) (d : Drawn) (os : OsState) (J : Nat → Mp → Hp → (Str → Option Value) → Prop) (n : Nat) (s : Shared) : Prop
  | mk {σ : Mp} {H : Hp} {h : Heap} {m : Str → Option Value} {t : Nat} : s = ⟨h, g, d, t, os⟩ → J n σ H m → Bd w md σ₀ h₀ H₀ σ H L h m → WhI w md σ₀ h₀ H₀ L g d os J n s
structure WhE (w : World) (md : Kd → Bool) (σ₀ : Mp) (h₀ : Heap) (H₀ : Hp) (L : Addr) (g : Array GenState) (d : Drawn) (os : OsState) (J : Nat → Mp → Hp → (Str → Option Value) → Prop) (n : Nat) (Q Q' : Flow → Shared → Prop) : Prop where
  nx : ∀ {n' : Nat} {σ' : Mp} {H' : Hp} {h' : Heap} {m' : Str → Option Value} {t' : Nat}, n' < n → Bd w md σ₀ h₀ H₀ σ' H' L h' m' → J n' σ' H' m' → Q' .next ⟨h', g, d, t', os⟩
  rt : ∀ {v : Value} {s : Shared}, Q (.ret v) s → Q' (.ret v) s
theorem whileB {test : Expr} {body : List Stmt} {env : Env} {Q : Flow → Shared → Prop} (J : Nat → Mp → Hp → (Str → Option Value) → Prop) (n : Nat)
    (B : Bd w md σ₀ h₀ H₀ σ H L h m) (h0 : J n σ H m)
    (turn : ∀ n σ H h m t Q', WhE w md σ₀ h₀ H₀ L g d os J n Q Q' → J n σ H m → Bd w md σ₀ h₀ H₀ σ H L h m →
      wpAny (model prog w) A (isTrue test env (eval test env)) (fun b s₂ =>
        if b then wpAny (model prog w) A (execs body env) Q' (fun _ _ => False) s₂ else Q .next s₂) (fun _ _ => False) ⟨h, g, d, t, os⟩) :
    wpAny (model prog w) A (exec (.While test body [] pos) env) Q E ⟨h, g, d, t, os⟩ := by
  refine wpAny_While (codeAny_whileLoop (WhI w md σ₀ h₀ H₀ L g d os J) ?_ n ⟨rfl, h0, B⟩)
  intro n s zzq2
  refine hide fun CCC kkk => ?_
  obtain ⟨rfl, hJ, B⟩ := zzq2
  refine kkk ?_; clear kkk
  refine wpAny_mono (turn n _ _ _ _ _ (fun f s₃ => match f with
    | .next | .cont => ∃ m, m < n ∧ WhI w md σ₀ h₀ H₀ L g d os J m s₃
    | .brk => Q .next s₃
    | .ret v => Q (.ret v) s₃) ⟨fun lt B J => ⟨_, lt, rfl, J, B⟩, fun z => z⟩ hJ B) (fun b s₂ z => ?_) fun _ _ z => z.elim
  cases b with
  | false => exact wpAny_execs_nil z
  | true => exact wpAny_mono z (fun _ _ z => z) fun _ _ z => z.elim
end
structure Itr (prog : Program) (w : World) (A : Around) (I : Addr) (ks : Kd → Bool) (n : Nat) (tgt : Expr) (P : Nat → Value → Mp → Prop) (Src : Mp → Prop) (St : Nat → Hp → Prop) : Prop where
  stays : ∀ i H H', St i H → (∀ k, ks k = true → H' k = H k) → St i H'
  item : ∀ {md : Kd → Bool} {σ₀ σ : Mp} {H₀ H : Hp} {h₀ h : Heap} {g : Array GenState} {d : Drawn} {t : Nat} {os : OsState} {L : Addr} {m : Str → Option Value} {Q : Value → Shared → Prop} {E : Value → Shared → Prop} {i : Nat},
    Bd w md σ₀ h₀ H₀ σ H L h m → (∀ k, ks k = true → md k = true) → (∀ k a o, ks k = true → H k = some (a, o) → σ₀ a = none) → i < n → Src σ → St i H →
    (∀ v σ' H' h' t', Bd w md σ₀ h₀ H₀ σ' H' L h' m → Kp σ H σ' H' → (∀ j, ks j = false → H' j = H j) → (∀ k a o, ks k = true → H' k = some (a, o) → σ₀ a = none) → P i v σ' → St (i + 1) H' → Q v ⟨h', g, d, t', os⟩) →
    wpAny (model prog w) A (pyNext (.ref I)) (fun r s₁ => match r with
      | none => False
      | some v => wpAny (model prog w) A (letOwnedTupleGo tgt (.ref I) v) (fun _ s₂ => Q v s₂) E s₁) E ⟨h, g, d, t, os⟩
  done : ∀ {md : Kd → Bool} {σ₀ σ : Mp} {H₀ H : Hp} {h₀ h : Heap} {g : Array GenState} {d : Drawn} {t : Nat} {os : OsState} {L : Addr} {m : Str → Option Value} {Q : Shared → Prop} {E : Value → Shared → Prop},
    Bd w md σ₀ h₀ H₀ σ H L h m → (∀ k, ks k = true → md k = true) → (∀ k a o, ks k = true → H k = some (a, o) → σ₀ a = none) → Src σ → St n H →
    (∀ σ' H' h', Bd w md σ₀ h₀ H₀ σ' H' L h' m → Kp σ H σ' H' → (∀ j, ks j = false → H' j = H j) → Q ⟨h', g, d, t, os⟩) →
    wpAny (model prog w) A (pyNext (.ref I)) (fun r s₁ => match r with
      | none => Q s₁
      | some _ => False) E ⟨h, g, d, t, os⟩
  self : ∀ {md : Kd → Bool} {σ₀ σ : Mp} {H₀ H : Hp} {h₀ h : Heap} {g : Array GenState} {d : Drawn} {t : Nat} {os : OsState} {L : Addr} {m : Str → Option Value} {Q : Value → Shared → Prop} {E : Value → Shared → Prop} {i : Nat},
    Bd w md σ₀ h₀ H₀ σ H L h m → St i H → Q (.ref I) ⟨h, g, d, t, os⟩ → wpAny (model prog w) A (pyIter (.ref I)) Q E ⟨h, g, d, t, os⟩
section
variable {σ : Mp} {H : Hp} {k : Kd} {it : Addr} {o : Obj}
theorem Kp.del (_ : HpIn σ H) (e : H k = some (it, o)) : Kp σ H (del σ it) (clr H k) := fun a oa ea u => by
  refine ⟨(del_ne fun q => u _ _ (q ▸ e)).trans ea, fun j p q => ?_⟩
  by_cases r : j = k
  · subst r; rw [clr_self] at q; cases q
  · rw [clr_ne r] at q; exact u j p q
end
noncomputable def TgtOk (tgt : Expr) : Prop := (∀ it v, letOwnedTupleGo tgt it v = pure ()) ∨ ∃ es p q, tgt = .Tuple es p q
theorem tgtN {x : Str} {p : Pos} : TgtOk (.Name x p) := .inl fun _ _ => rfl
theorem tgtT {es : List Expr} {p : Nat} {q : Pos} : TgtOk (.Tuple es p q) := .inr ⟨_, _, _, rfl⟩
section
variable {prog : Program} {w : World} {A : Around} {k : Kd} {it D : Addr} {vs : List Value} {tgt : Expr}
theorem go_plain {E : Value → Shared → Prop} {Q : Unit → Shared → Prop} {s : Shared} {o : Obj} {c : String} {fs : Array Value} {v : Value} (ht : TgtOk tgt) (e : s.heap.get? it = some o) (hc : o.cls = .type c) (hd : o.data = .fields fs)
    (hn : (["enumerate", "zip", "dict_itemiterator", "dict_reverseitemiterator", "odict_iterator", "itertools.zip_longest", "itertools.pairwise"].contains c) = false) (q : Q () s) :
    wpAny (model prog w) A (letOwnedTupleGo tgt (.ref it) v) Q E s := by
  rcases ht with e' | ⟨es, p, q', rfl⟩
  · exact wpAny_of_eq (e' _ _) q
  · unfold letOwnedTupleGo
    cases v with
    | ref b =>
      refine wpAny_bind (wpAny_load e ?_)
      rw [hc, hd]
      dsimp only
      rw [hn]
      exact wpAny_pure q
    | _ => exact wpAny_pure q
theorem ks1 {k j : Kd} : (decide (j = k)) = true ↔ j = k := decide_eq_true_iff
theorem Itr.list (hh : A.handled = none) (ht : TgtOk tgt) : Itr prog w A it (fun j => decide (j = k)) vs.length tgt (fun i v _ => vs[i]? = some v) (fun σ => LO σ D vs) (fun i H => ∃ o, H k = some (it, o) ∧ ItO o D i) where
  stays := fun i H H' ⟨o, e, x⟩ s => ⟨o, (s k (decide_eq_true rfl)).trans e, x⟩
  item := fun {md σ₀ σ H₀ H h₀ h g d t os L m Q E i} B hm hn hi hl ⟨o, hk, ho⟩ q => by
    refine wpAny_pyNext_list_item (x := vs[i]) (B.isIt hk ho) (B.fm.lst hl) (by simp [hi]) fun h₁ x y => ?_
    refine hide fun CCC kkk => ?_
    obtain ⟨o', p1, p2, p3⟩ := x
    refine kkk ?_; clear kkk
    have B2 : Bd w md σ₀ h₀ H₀ (put σ it o') (upd H k it o') L h₁ m := B.set hk (ItO.no ⟨p2, p3⟩) (hm k (decide_eq_true rfl)) (B.fm.change (B.hp.hi _ _ _ hk) (B.hp.at_ _ _ _ hk) y p1)
    refine go_plain ht p1 p2 p3 (by decide) (q _ _ _ _ _ B2 (Kp.set hk) (fun j hj => upd_ne (of_decide_eq_false hj)) (fun j a oa hj e => ?_) (by simp [hi]) ⟨o', upd_self, p2, p3⟩)
    rw [of_decide_eq_true hj, upd_self] at e; cases e; exact hn k _ _ (decide_eq_true rfl) hk
  done := fun {md σ₀ σ H₀ H h₀ h g d t os L m Q E} B hm hn hl ⟨o, hk, ho⟩ q => by
    refine wpAny_pyNext_list_end hh (B.isIt hk ho) (B.fm.lst hl) (by simp) fun h₁ x => ?_
    exact q _ _ _ (B.del hk (hn k _ _ (decide_eq_true rfl) hk) (hm k (decide_eq_true rfl)) x) (Kp.del B.hp hk) (fun j hj => clr_ne (of_decide_eq_false hj))
  self := fun B ⟨o, hk, ho⟩ q => wpAny_pyIter_listiter (B.isIt hk ho) q
noncomputable def ItT (o : Obj) (D : Addr) (i : Nat) : Prop := o.cls = .type "tuple_iterator" ∧ o.data = .fields #[.ref D, .int i 0]
theorem ItT.no {o : Obj} {i : Nat} (X : ItT o D i) : ¬ isTupO o := fun z => by unfold isTupO at z; rw [X.1] at z; exact absurd z (by decide)
theorem Itr.tuple (hh : A.handled = none) (ht : TgtOk tgt) : Itr prog w A it (fun j => decide (j = k)) vs.length tgt (fun i v _ => vs[i]? = some v) (fun σ => TO σ D vs) (fun i H => ∃ o, H k = some (it, o) ∧ ItT o D i) where
  stays := fun i H H' ⟨o, e, x⟩ s => ⟨o, (s k (decide_eq_true rfl)).trans e, x⟩
  item := fun {md σ₀ σ H₀ H h₀ h g d t os L m Q E i} B hm hn hi hl ⟨o, hk, ho⟩ q => by
    refine wpAny_pyNext_tuple_item (x := vs[i]) ⟨o, B.fm.ok.sub _ _ (B.hp.at_ _ _ _ hk), ho⟩ (B.fm.tup hl) (by simp [hi]) fun h₁ x y => ?_
    refine hide fun CCC kkk => ?_
    obtain ⟨o', p1, p2, p3⟩ := x
    refine kkk ?_; clear kkk
    have B2 : Bd w md σ₀ h₀ H₀ (put σ it o') (upd H k it o') L h₁ m := B.set hk (ItT.no ⟨p2, p3⟩) (hm k (decide_eq_true rfl)) (B.fm.change (B.hp.hi _ _ _ hk) (B.hp.at_ _ _ _ hk) y p1)
    refine go_plain ht p1 p2 p3 (by decide) (q _ _ _ _ _ B2 (Kp.set hk) (fun j hj => upd_ne (of_decide_eq_false hj)) (fun j a oa hj e => ?_) (by simp [hi]) ⟨o', upd_self, p2, p3⟩)
    rw [of_decide_eq_true hj, upd_self] at e; cases e; exact hn k _ _ (decide_eq_true rfl) hk
  done := fun {md σ₀ σ H₀ H h₀ h g d t os L m Q E} B hm hn hl ⟨o, hk, ho⟩ q => by
    refine wpAny_pyNext_tuple_end hh ⟨o, B.fm.ok.sub _ _ (B.hp.at_ _ _ _ hk), ho⟩ (B.fm.tup hl) (i := vs.length) (by simp) fun h₁ x => ?_
    exact q _ _ _ (B.del hk (hn k _ _ (decide_eq_true rfl) hk) (hm k (decide_eq_true rfl)) x) (Kp.del B.hp hk) (fun j hj => clr_ne (of_decide_eq_false hj))
  self := fun B ⟨o, hk, ho⟩ q => wpAny_pyIter_tupleiter ⟨o, B.fm.ok.sub _ _ (B.hp.at_ _ _ _ hk), ho⟩ q
noncomputable abbrev rngO (x left : Int) : Obj := { cls := .type "range_iterator", dict := none, data := .fields #[rawInt x, rawInt left, rawInt 1], slots := #[] }
theorem rngO_no {x y : Int} : ¬ isTupO (rngO x y) := fun z => absurd (show (Value.type "range_iterator" : Value) = .type "tuple" from z) (by decide)
theorem Itr.range (hh : A.handled = none) (ht : TgtOk tgt) {a : Int} {n : Nat} : Itr prog w A it (fun j => decide (j = k)) n tgt (fun i v _ => ∃ t, v = .int (a + i) t) (fun _ => True) (fun i H => H k = some (it, rngO (a + i) ((n : Int) - i))) where
  stays := fun i H H' e s => (s k (decide_eq_true rfl)).trans e
  item := fun {md σ₀ σ H₀ H h₀ h g d t os L m Q E i} B hm hn hi _ hk q => by
    have e0 := B.fm.ok.sub _ _ (B.hp.at_ _ _ _ hk)
    refine wpAny_pyNext_range_item e0 (by lia) fun h₁ x y => ?_
    have e1 : a + (i : Int) + 1 = a + ((i + 1 : Nat) : Int) := by push_cast; lia
    have e2 : (n : Int) - (i : Int) - 1 = (n : Int) - ((i + 1 : Nat) : Int) := by push_cast; lia
    rw [e1, e2] at x
    have B2 : Bd w md σ₀ h₀ H₀ (put σ it (rngO (a + ((i + 1 : Nat) : Int)) ((n : Int) - ((i + 1 : Nat) : Int)))) (upd H k it _) L h₁ m := B.set hk rngO_no (hm k (decide_eq_true rfl)) (B.fm.change (B.hp.hi _ _ _ hk) (B.hp.at_ _ _ _ hk) y x)
    refine go_plain ht (o := rngO (a + ((i + 1 : Nat) : Int)) ((n : Int) - ((i + 1 : Nat) : Int))) x rfl rfl (by decide) (q _ _ _ _ _ B2 (Kp.set hk) (fun j hj => upd_ne (of_decide_eq_false hj)) (fun j a oa hj e => ?_) ⟨_, rfl⟩ upd_self)
    rw [of_decide_eq_true hj, upd_self] at e; cases e; exact hn k _ _ (decide_eq_true rfl) hk
  done := fun {md σ₀ σ H₀ H h₀ h g d t os L m Q E} B hm hn _ hk q => by
    refine wpAny_pyNext_range_end hh (B.fm.ok.sub _ _ (B.hp.at_ _ _ _ hk)) (by lia) fun h₁ x => ?_
    exact q _ _ _ (B.del hk (hn k _ _ (decide_eq_true rfl) hk) (hm k (decide_eq_true rfl)) x) (Kp.del B.hp hk) (fun j hj => clr_ne (of_decide_eq_false hj))
  self := fun B hk q => wpAny_pyIter_rangeiter (B.fm.ok.sub _ _ (B.hp.at_ _ _ _ hk)) q
end
section
variable {w : World} {md : Kd → Bool} {σ₀ σ : Mp} {H₀ H : Hp} {h₀ h h' : Heap} {L e it T : Addr} {m : Str → Option Value} {o o1 o2 o3 p1 p2 : Obj} {k1 k2 : Kd}
theorem Bd.turn2 (B : Bd w md σ₀ h₀ H₀ σ H L h m) (e1 : H k1 = some (e, o1)) (e2 : H k2 = some (it, o2)) (hk : k1 ≠ k2) (n1 : ¬ isTupO p1) (n2 : ¬ isTupO p2) (m1 : md k1 = true) (m2 : md k2 = true)
    (x : ∀ b o, b ≠ e → b ≠ it → h.get? b = some o → h'.get? b = some o) (f1 : h'.get? e = some p1) (f2 : h'.get? it = some p2) (f3 : h'.get? h.objs.size = some o3) :
    Bd w md σ₀ h₀ H₀ (put (put (put σ h.objs.size o3) e p1) it p2) (upd (upd H k1 e p1) k2 it p2) L h' m ∧ Kp σ H (put (put (put σ h.objs.size o3) e p1) it p2) (upd (upd H k1 e p1) k2 it p2) := by
  have X := B.hp
  have s1 := X.at_ _ _ _ e1
  have s2 := X.at_ _ _ _ e2
  have ne : it ≠ e := by rintro rfl; exact hk (X.inj _ _ _ _ _ e1 e2)
  have fr := B.fm.ok.fresh
  have nT1 : h.objs.size ≠ e := by rintro q; rw [q] at fr; rw [fr] at s1; cases s1
  have nT2 : h.objs.size ≠ it := by rintro q; rw [q] at fr; rw [fr] at s2; cases s2
  have h0 : h.get? h.objs.size = none := by
    cases q : h.get? h.objs.size with
    | none => rfl
    | some o => exact absurd (Heap.lt_size q) (Nat.lt_irrefl _)
  have X1 : HpIn (put σ h.objs.size o3) H := X.le (Le.put fr _)
  have X2 := X1.set e1 n1
  have e2' : upd H k1 e p1 k2 = some (it, o2) := (upd_ne (Ne.symm hk)).trans e2
  have X3 := X2.set e2' n2
  have KP : Kp σ H (put (put (put σ h.objs.size o3) e p1) it p2) (upd (upd H k1 e p1) k2 it p2) := ((Kp.of_le (Le.put fr _)).trans (Kp.set e1)).trans (Kp.set e2')
  have known : ∀ a o, put (put (put σ h.objs.size o3) e p1) it p2 a = some o → h'.get? a = some o := fun a o q => by
    by_cases c1 : a = it
    · subst c1; rw [put_self] at q; cases q; exact f2
    · rw [put_ne c1] at q
      by_cases c2 : a = e
      · subst c2; rw [put_self] at q; cases q; exact f1
      · rw [put_ne c2] at q
        by_cases c3 : a = h.objs.size
        · subst c3; rw [put_self] at q; cases q; exact f3
        · rw [put_ne c3] at q; exact x a o c2 c1 (B.fm.ok.sub a o q)
  have O : Ok w (put (put (put σ h.objs.size o3) e p1) it p2) h' := ⟨((B.fm.ok.base.put B.fm.ok.size).put (X.hi _ _ _ e1)).put (X.hi _ _ _ e2), known⟩
  have P : Ps σ h (put (put (put σ h.objs.size o3) e p1) it p2) h' := by
    refine ⟨fun a o q n => ?_, fun a o q n => ?_, fun a o q => put_up (put_up (put_up ⟨o, q⟩))⟩
    · refine x a o ?_ ?_ q
      · rintro rfl; rw [n] at s1; cases s1
      · rintro rfl; rw [n] at s2; cases s2
    · by_cases c1 : a = it
      · subst c1; rw [n] at s2; cases s2
      · rw [put_ne c1] at q
        by_cases c2 : a = e
        · subst c2; rw [n] at s1; cases s1
        · rw [put_ne c2] at q
          by_cases c3 : a = h.objs.size
          · subst c3; exact h0
          · rw [put_ne c3, n] at q; cases q
  refine ⟨⟨B.fm.call O P, B.kp.trans KP, X3, fun j hj => ?_⟩, KP⟩
  rw [upd_ne (by rintro rfl; rw [m2] at hj; cases hj), upd_ne (by rintro rfl; rw [m1] at hj; cases hj)]
  exact B.ag j hj
end
noncomputable abbrev enO (it : Addr) (i : Int) (old : Value) : Obj := { cls := .type "enumerate", dict := none, data := .fields #[.none, .bool false, .ref it, rawInt i, .none, old], slots := #[] }
noncomputable abbrev enO2 (a it : Addr) (i : Int) (old : Value) : Obj := { cls := .type "enumerate", dict := none, data := .fields #[rawInt a, .bool false, .ref it, rawInt i, .none, old], slots := #[] }
theorem enO_no {x : Addr} {y : Int} {z : Value} : ¬ isTupO (enO x y z) := fun z => absurd (show (Value.type "enumerate" : Value) = .type "tuple" from z) (by decide)
theorem enO2_no {a x : Addr} {y : Int} {z : Value} : ¬ isTupO (enO2 a x y z) := fun z => absurd (show (Value.type "enumerate" : Value) = .type "tuple" from z) (by decide)
section
variable {prog : Program} {w : World} {A : Around} {k k2 : Kd} {e it D : Addr} {vs : List Value} {es : List Expr} {pp : Nat} {qq : Pos}
theorem Itr.enum (hh : A.handled = none) (hk2 : k ≠ k2) : Itr prog w A e (fun j => decide (j = k) || decide (j = k2)) vs.length (.Tuple es pp qq) (fun i v σ => ∃ T t x, v = .ref T ∧ TO σ T [.int i t, x] ∧ vs[i]? = some x) (fun σ => LO σ D vs)
    (fun i H => ∃ o old, H k = some (e, enO it i old) ∧ H k2 = some (it, o) ∧ ItO o D i) where
  stays := fun i H H' ⟨o, old, a, b, x⟩ s => ⟨o, old, (s k (by simp)).trans a, (s k2 (by simp)).trans b, x⟩
  item := fun {md σ₀ σ H₀ H h₀ h g d t os L m Q E i} B hm hn hi hl ⟨o, old, ha, hb, ho⟩ q => by
    have ne : e ≠ it := by rintro rfl; exact hk2 (B.hp.inj _ _ _ _ _ ha hb)
    refine wpAny_pyNext_enum_item (x := vs[i]) (B.fm.ok.sub _ _ (B.hp.at_ _ _ _ ha)) (B.isIt hb ho) (B.fm.lst hl) (by simp [hi]) ne fun h₁ x1 x2 x3 x4 x5 => ?_
    refine hide fun CCC kkk => ?_
    obtain ⟨o', p1, p2, p3⟩ := x2
    refine kkk ?_; clear kkk
    have ec : ((i : Nat) : Int) + 1 = ((i + 1 : Nat) : Int) := by push_cast; rfl
    rw [ec] at x1
    refine hide fun CCC kkk => ?_
    obtain ⟨B2, KP⟩ := B.turn2 (p1 := enO2 h.objs.size it ((i + 1 : Nat) : Int) vs[i]) ha hb hk2 enO2_no (ItO.no ⟨p2, p3⟩) (hm _ (by simp)) (hm _ (by simp)) x5 x1 p1 x3
    refine kkk ?_; clear kkk
    refine wpAny_letOwnedTupleGo_enum x1 fun h₂ y1 y2 => ?_
    have ha2 : upd (upd H k e (enO2 h.objs.size it ((i + 1 : Nat) : Int) vs[i])) k2 it o' k = some (e, enO2 h.objs.size it ((i + 1 : Nat) : Int) vs[i]) := (upd_ne hk2).trans upd_self
    have B3 : Bd w md σ₀ h₀ H₀ (put _ e (enO it ((i + 1 : Nat) : Int) vs[i])) (upd _ k e (enO it ((i + 1 : Nat) : Int) vs[i])) L h₂ m := B2.set ha2 enO_no (hm _ (by simp)) (B2.fm.change (B2.hp.hi _ _ _ ha2) (B2.hp.at_ _ _ _ ha2) y2 y1)
    have K2 := KP.trans (Kp.set (o' := enO it ((i + 1 : Nat) : Int) vs[i]) ha2)
    have sT : h.objs.size ≠ e ∧ h.objs.size ≠ it := by
      have fr := B.fm.ok.fresh
      constructor <;> intro q <;> rw [q] at fr
      · rw [B.hp.at_ _ _ _ ha] at fr; cases fr
      · rw [B.hp.at_ _ _ _ hb] at fr; cases fr
    refine q _ _ _ _ _ B3 K2 (fun j hj => ?_) (fun j a oa hj ej => ?_) ⟨h.objs.size, t, vs[i], rfl, ?_, by simp [hi]⟩ ⟨o', vs[i], upd_self, ?_, p2, p3⟩
    · simp only [Bool.or_eq_false_iff, decide_eq_false_iff_not] at hj
      rw [upd_ne hj.1, upd_ne hj.2, upd_ne hj.1]
    · simp only [Bool.or_eq_true, decide_eq_true_eq] at hj
      rcases hj with rfl | rfl
      · rw [upd_self] at ej; cases ej; exact hn _ _ _ (by simp) ha
      · rw [upd_ne (Ne.symm hk2), upd_self] at ej; cases ej; exact hn _ _ _ (by simp) hb
    · unfold TO
      rw [put_ne sT.1, put_ne sT.2, put_ne sT.1, put_self]
    · rw [upd_ne (Ne.symm hk2), upd_self]
  done := fun {md σ₀ σ H₀ H h₀ h g d t os L m Q E} B hm hn hl ⟨o, old, ha, hb, ho⟩ q => by
    refine wpAny_pyNext_enum_end hh (B.fm.ok.sub _ _ (B.hp.at_ _ _ _ ha)) (B.isIt hb ho) (B.fm.lst hl) (by simp) fun h₁ x => ?_
    refine q _ _ _ (B.del hb (hn k2 _ _ (by simp) hb) (hm k2 (by simp)) x) (Kp.del B.hp hb) (fun j hj => ?_)
    simp only [Bool.or_eq_false_iff, decide_eq_false_iff_not] at hj
    exact clr_ne hj.2
  self := fun B ⟨o, old, ha, hb, ho⟩ q => wpAny_pyIter_enum (B.fm.ok.sub _ _ (B.hp.at_ _ _ _ ha)) q
end
section
variable {prog : Program} {w : World} {A : Around} {E : Value → Shared → Prop} {md : Kd → Bool} {σ₀ σ : Mp} {H₀ H : Hp} {h₀ h : Heap} {g : Array GenState} {d : Drawn} {t : Nat} {os : OsState} {L : Addr} {m : Str → Option Value}
  {I : Addr} {ks : Kd → Bool} {n : Nat} {target : Expr} {P : Nat → Value → Mp → Prop} {Src : Mp → Prop} {St : Nat → Hp → Prop}
inductive LpI (w : World) (md : Kd → Bool) (σ₀ : Mp) (h₀ : Heap) (H₀ : Hp) (L : Addr) (g : Array GenState) (d : Drawn) (os : OsState) (ks : Kd → Bool) (St : Nat → Hp → Prop) (J : Nat → Mp → Hp → (Str → Option Value) → Prop) (n k : Nat) (s : Shared) : Prop
  | mk {i : Nat} {σ : Mp} {H : Hp} {h : Heap} {m : Str → Option Value} {t : Nat} : s = ⟨h, g, d, t, os⟩ → i ≤ n → k = n - i → J i σ H m → Bd w md σ₀ h₀ H₀ σ H L h m → St i H → (∀ k a o, ks k = true → H k = some (a, o) → σ₀ a = none) → LpI w md σ₀ h₀ H₀ L g d os ks St J n k s
structure LpE (w : World) (md : Kd → Bool) (σ₀ : Mp) (h₀ : Heap) (H₀ : Hp) (L : Addr) (g : Array GenState) (d : Drawn) (os : OsState) (ks : Kd → Bool) (J : Nat → Mp → Hp → (Str → Option Value) → Prop) (i : Nat) (H : Hp) (R : Result → Shared → Prop) (Q : Flow → Shared → Prop) : Prop where
  nx : ∀ {σ' : Mp} {H' : Hp} {h' : Heap} {m' : Str → Option Value} {t' : Nat}, Bd w md σ₀ h₀ H₀ σ' H' L h' m' → J (i + 1) σ' H' m' → (∀ k, ks k = true → H' k = H k) → Q .next ⟨h', g, d, t', os⟩
  rt : ∀ {v : Value} {s : Shared}, R (.ok (.ret v)) s → Q (.ret v) s
theorem loopG {body : List Stmt} {env : Env} {R : Result → Shared → Prop} (IT : Itr prog w A I ks n target P Src St) (J : Nat → Mp → Hp → (Str → Option Value) → Prop)
    (B : Bd w md σ₀ h₀ H₀ σ H L h m) (hm : ∀ k, ks k = true → md k = true) (hn : ∀ k a o, ks k = true → H k = some (a, o) → σ₀ a = none) (s0 : St 0 H) (h0 : J 0 σ H m)
    (sim : ∀ i σ H m σ' H', HpIn σ H → HpIn σ' H' → Kp σ H σ' H' → (∀ j, ks j = false → H' j = H j) → J i σ H m → J i σ' H' m)
    (src : ∀ i σ H m, HpIn σ H → J i σ H m → Src σ)
    (step : ∀ i v σ H h m t Q', LpE w md σ₀ h₀ H₀ L g d os ks J i H R Q' → i < n → P i v σ → J i σ H m → Bd w md σ₀ h₀ H₀ σ H L h m →
      wpAny (model prog w) A (assign target env v) (fun _ s₂ => wpAny (model prog w) A (execs body env) Q' (fun _ _ => False) s₂) (fun _ _ => False) ⟨h, g, d, t, os⟩)
    (done : ∀ σ H h m t, J n σ H m → Bd w md σ₀ h₀ H₀ σ H L h m → R (.ok .next) ⟨h, g, d, t, os⟩) :
    codeAny (model prog w) A (.forLoop target (.ref I) body [] env) R ⟨h, g, d, t, os⟩ := by
  refine codeAny_forLoop_any (LpI w md σ₀ h₀ H₀ L g d os ks St J n) ?_ n ⟨rfl, Nat.zero_le _, rfl, h0, B, s0, hn⟩
  intro k s zzq2
  refine hide fun CCC kkk => ?_
  obtain ⟨rfl, hi, rfl, hJ, B, hS, hn⟩ := zzq2
  refine kkk ?_; clear kkk
  rename_i i σ H h m t
  by_cases lt : i < n
  · refine wpAny_mono (IT.item (Q := fun v s₂ => wpAny (model prog w) A (assign target env v) (fun _ s₂ => wpAny (model prog w) A (execs body env) (fun f s₃ => match f with
            | .next | .cont => ∃ k, k < n - i ∧ LpI w md σ₀ h₀ H₀ L g d os ks St J n k s₃
            | .brk => R (.ok .next) s₃
            | .ret v => R (.ok (.ret v)) s₃) (notedBy (model prog w) A env fun e s' => R (.error e) s') s₂) (notedBy (model prog w) A env fun e s' => R (.error e) s') s₂)
      (E := notedBy (model prog w) A env fun e s' => R (.error e) s') B hm hn lt (src _ _ _ _ B.hp hJ) hS fun v σ' H' h' t' B' kp oth hn' hP hS' => ?_) (fun r s₁ z => ?_) fun _ _ z => z
    · exact wpAny_mono (step i v σ' H' h' m t' _ ⟨fun B'' hJ' hk' => ⟨n - (i + 1), by lia, rfl, lt, rfl, hJ', B'', IT.stays _ _ _ hS' hk', fun k a o hk e => hn' k a o hk ((hk' k hk).symm.trans e)⟩, fun z => z⟩
        lt hP (sim _ _ _ _ _ _ B.hp B'.hp kp oth hJ) B') (fun _ s₂ z => wpAny_mono z (fun _ _ z => z) fun _ _ z => z.elim) fun _ _ z => z.elim
    · cases r with
      | none => exact z.elim
      | some v => exact z
  · obtain rfl : i = n := Nat.le_antisymm hi (Nat.not_lt.mp lt)
    refine wpAny_mono (IT.done (Q := fun s₁ => R (.ok .next) s₁) (E := notedBy (model prog w) A env fun e s' => R (.error e) s') B hm hn (src _ _ _ _ B.hp hJ) hS fun σ' H' h' B' kp oth => ?_) (fun r s₁ z => ?_) fun _ _ z => z
    · exact done _ _ _ _ _ (sim _ _ _ _ _ _ B.hp B'.hp kp oth hJ) B'
    · cases r with
      | none => exact wpAny_execs_nil z
      | some v => exact z.elim
structure LpL (w : World) (md : Kd → Bool) (σ₀ : Mp) (h₀ : Heap) (H₀ : Hp) (L : Addr) (g : Array GenState) (d : Drawn) (os : OsState) (k : Kd) (J : Nat → Mp → Hp → (Str → Option Value) → Prop) (i : Nat) (H : Hp) (R : Result → Shared → Prop) (Q : Flow → Shared → Prop) : Prop where
  nx : ∀ {σ' : Mp} {H' : Hp} {h' : Heap} {m' : Str → Option Value} {t' : Nat}, Bd w md σ₀ h₀ H₀ σ' H' L h' m' → J (i + 1) σ' H' m' → H' k = H k → Q .next ⟨h', g, d, t', os⟩
  rt : ∀ {v : Value} {s : Shared}, R (.ok (.ret v)) s → Q (.ret v) s
theorem loopL {D : Addr} {vs : List Value} {body : List Stmt} {env : Env} {R : Result → Shared → Prop} (k : Kd) (J : Nat → Mp → Hp → (Str → Option Value) → Prop)
    (B : Bd w md σ₀ h₀ H₀ σ H L h m) (hm : md k = true) (hh : A.handled = none) (ht : TgtOk target)
    (sim : ∀ i σ H m σ' H', HpIn σ H → HpIn σ' H' → Kp σ H σ' H' → (∀ j, decide (j = k) = false → H' j = H j) → J i σ H m → J i σ' H' m)
    (src : ∀ i σ H m, HpIn σ H → J i σ H m → LO σ D vs) (h0 : J 0 σ H m)
    (step : ∀ i v σ H h m t Q', LpL w md σ₀ h₀ H₀ L g d os k J i H R Q' → vs[i]? = some v → J i σ H m → Bd w md σ₀ h₀ H₀ σ H L h m →
      wpAny (model prog w) A (assign target env v) (fun _ s₂ => wpAny (model prog w) A (execs body env) Q' (fun _ _ => False) s₂) (fun _ _ => False) ⟨h, g, d, t, os⟩)
    (done : ∀ σ H h m t, J vs.length σ H m → Bd w md σ₀ h₀ H₀ σ H L h m → R (.ok .next) ⟨h, g, d, t, os⟩) :
    wpAny (model prog w) A (pyIter (.ref D)) (fun it s₂ => codeAny (model prog w) A (.forLoop target it body [] env) R s₂) E ⟨h, g, d, t, os⟩ := by
  refine iterB B (src _ _ _ _ B.hp h0) hm fun it h' o e1 e2 B1 => ?_
  exact loopG (Itr.list (D := D) (vs := vs) (k := k) hh ht) J B1 (fun j hj => by rw [of_decide_eq_true hj]; exact hm) (fun j a o hj e => by rw [of_decide_eq_true hj, upd_self] at e; cases e; exact B.new e1)
    ⟨o, upd_self, e2⟩ (sim _ _ _ _ _ _ B.hp B1.hp (Kp.add e1) (fun j hj => upd_ne (of_decide_eq_false hj)) h0) sim src
    (fun i v σ H h m t Q' F _ hv hJ B => step i v σ H h m t Q' ⟨fun B J e => F.nx B J fun j hj => by rw [of_decide_eq_true hj]; exact e, F.rt⟩ hv hJ B) done
end
section
variable {w : World} {md : Kd → Bool} {σ₀ σ : Mp} {H₀ H : Hp} {h₀ h h' : Heap} {L e it T : Addr} {m : Str → Option Value} {o o1 o2 o3 p1 p2 : Obj} {k1 k2 k : Kd}
theorem Ok.big (O : Ok w σ h) : 429 ≤ h.objs.size := by
  have : (KH w).lookup 428 ≠ none := by
    intro e
    have : ((KH w).lookup 428).isSome = true := by kernel_rfl
    rw [e] at this; cases this
  cases q : (KH w).lookup 428 with
  | none => exact absurd q this
  | some o => exact Heap.lt_size (O.K _ _ q)
theorem Bd.add2 (B : Bd w md σ₀ h₀ H₀ σ H L h m) (n1 : ¬ isTupO o1) (n2 : ¬ isTupO o2) (m1 : md k1 = true) (m2 : md k2 = true)
    (x : ∀ b o, h.get? b = some o → h'.get? b = some o) (f1 : h'.get? h.objs.size = some o1) (f2 : h'.get? (h.objs.size + 1) = some o2) :
    Bd w md σ₀ h₀ H₀ (put (put σ h.objs.size o1) (h.objs.size + 1) o2) (upd (upd H k1 h.objs.size o1) k2 (h.objs.size + 1) o2) L h' m ∧ σ h.objs.size = none ∧ put σ h.objs.size o1 (h.objs.size + 1) = none := by
  have fr := B.fm.ok.fresh
  have none_of : ∀ i, h.objs.size ≤ i → h.get? i = none := fun i hi => by
    cases q : h.get? i with
    | none => rfl
    | some o => exact absurd (Heap.lt_size q) (Nat.not_lt.mpr hi)
  have ne : h.objs.size + 1 ≠ h.objs.size := Nat.succ_ne_self _
  have s2 : σ (h.objs.size + 1) = none := by
    cases q : σ (h.objs.size + 1) with
    | none => rfl
    | some o => have := B.fm.ok.sub _ _ q; rw [none_of _ (Nat.le_succ _)] at this; cases this
  have s2' : put σ h.objs.size o1 (h.objs.size + 1) = none := (put_ne ne).trans s2
  have hi1 : Hi h.objs.size := B.fm.ok.size
  have hi2 : Hi (h.objs.size + 1) := .inl (Nat.le_succ_of_le B.fm.ok.big)
  have known : ∀ a o, put (put σ h.objs.size o1) (h.objs.size + 1) o2 a = some o → h'.get? a = some o := fun a o q => by
    by_cases c1 : a = h.objs.size + 1
    · subst c1; rw [put_self] at q; cases q; exact f2
    · rw [put_ne c1] at q
      by_cases c2 : a = h.objs.size
      · subst c2; rw [put_self] at q; cases q; exact f1
      · rw [put_ne c2] at q; exact x a o (B.fm.ok.sub a o q)
  have O : Ok w (put (put σ h.objs.size o1) (h.objs.size + 1) o2) h' := ⟨(B.fm.ok.base.put hi1).put hi2, known⟩
  have P : Ps σ h (put (put σ h.objs.size o1) (h.objs.size + 1) o2) h' := by
    refine ⟨fun a o q n => x a o q, fun a o q n => ?_, fun a o q => put_up (put_up ⟨o, q⟩)⟩
    by_cases c1 : a = h.objs.size + 1
    · subst c1; exact none_of _ (Nat.le_succ _)
    · rw [put_ne c1] at q
      by_cases c2 : a = h.objs.size
      · subst c2; exact none_of _ (Nat.le_refl _)
      · rw [put_ne c2, n] at q; cases q
  refine ⟨⟨B.fm.call O P, B.kp.trans ((Kp.add fr).trans (Kp.add s2')), (B.hp.add fr hi1 n1).add s2' hi2 n2, fun j hj => ?_⟩, fr, s2'⟩
  rw [upd_ne (by rintro rfl; rw [m2] at hj; cases hj), upd_ne (by rintro rfl; rw [m1] at hj; cases hj)]
  exact B.ag j hj
theorem Bd.butC {C : Addr} (B : Bd w md σ₀ h₀ H₀ σ H L h m) (hs : Heap.SameBut C h h') (hσ : σ C = none) (hL : L ≠ C) (h0 : h₀.get? C = none) : Bd w md σ₀ h₀ H₀ σ H L h' m := by
  refine B.with ⟨⟨B.fm.ok.base, fun a o e => ?_⟩, B.fm.ns.sameBut hs hL, B.fm.out, B.fm.new, ⟨fun a o e n => ?_, B.fm.ps.dom, B.fm.ps.up⟩⟩
  · rw [hs.2 a (by rintro rfl; rw [hσ] at e; cases e)]; exact B.fm.ok.sub a o e
  · rw [hs.2 a (by rintro rfl; rw [h0] at e; cases e)]; exact B.fm.ps.kept a o e n
end
section
variable {prog : Program} {w : World} {A : Around} {E : Value → Shared → Prop} {md : Kd → Bool} {σ₀ σ : Mp} {H₀ H : Hp} {h₀ h : Heap} {g : Array GenState} {d : Drawn} {t : Nat} {os : OsState} {L D : Addr} {m : Str → Option Value} {vs : List Value} {k k2 : Kd}
theorem startList {Q : Value → Shared → Prop} (B : Bd w md σ₀ h₀ H₀ σ H L h m) (l : LO σ D vs) (hm : md k = true)
    (q : ∀ it h' o, σ it = none → ItO o D 0 → Bd w md σ₀ h₀ H₀ (put σ it o) (upd H k it o) L h' m → Q (.ref it) ⟨h', g, d, t, os⟩) : wpAny (model prog w) A (pyIter (.ref D)) Q E ⟨h, g, d, t, os⟩ := iterB B l hm q
theorem startTuple {Q : Value → Shared → Prop} (B : Bd w md σ₀ h₀ H₀ σ H L h m) (l : TO σ D vs) (hm : md k = true)
    (q : ∀ it h' o, σ it = none → ItT o D 0 → Bd w md σ₀ h₀ H₀ (put σ it o) (upd H k it o) L h' m → Q (.ref it) ⟨h', g, d, t, os⟩) : wpAny (model prog w) A (pyIter (.ref D)) Q E ⟨h, g, d, t, os⟩ :=
  wpAny_pyIter_tuple (B.fm.tup l) (q _ _ _ B.fm.ok.fresh ⟨rfl, rfl⟩ (B.add B.fm.ok.fresh B.fm.ok.size (by intro z; exact absurd (show (Value.type "tuple_iterator" : Value) = .type "tuple" from z) (by decide)) hm (B.fm.alloc rfl)))
noncomputable abbrev rgO (a b : Int) (t u v : Tok) : Obj := { cls := .type "range", dict := none, data := .fields #[.int a t, .int b u, .int 1 v], slots := #[] }
theorem startRange {Q : Value → Shared → Prop} {a b : Int} {n : Nat} {t1 t2 t3 : Tok} (B : Bd w md σ₀ h₀ H₀ σ H L h m) (l : σ D = some (rgO a b t1 t2 t3)) (ha : 0 ≤ a) (hab : b - a = n) (hb : b ≤ 1000000) (hm : md k = true)
    (q : ∀ it h', σ it = none → Bd w md σ₀ h₀ H₀ (put σ it (rngO (a + (0 : Nat)) ((n : Int) - (0 : Nat)))) (upd H k it (rngO (a + (0 : Nat)) ((n : Int) - (0 : Nat)))) L h' m → Q (.ref it) ⟨h', g, d, t, os⟩) : wpAny (model prog w) A (pyIter (.ref D)) Q E ⟨h, g, d, t, os⟩ := by
  have e : Builtin.Range.rangeSize a b 1 = (n : Int) := by rw [rangeSize_one]; split <;> lia
  refine wpAny_pyIter_range (B.fm.ok.sub _ _ l) (small_one (by lia) (by lia) (by lia) (by lia)) ?_
  have z := q h.objs.size (h.push (rngO (a + (0 : Nat)) ((n : Int) - (0 : Nat)))) B.fm.ok.fresh (B.add B.fm.ok.fresh B.fm.ok.size rngO_no hm (B.fm.alloc rfl))
  rw [e]
  have e1 : a + ((0 : Nat) : Int) = a := by simp
  have e2 : (n : Int) - ((0 : Nat) : Int) = n := by simp
  rw [e1, e2] at z
  exact z
theorem range1B {Q : Value → Shared → Prop} {b : Int} {t2 : Tok} (B : Bd w md σ₀ h₀ H₀ σ H L h m)
    (q : ∀ r h' t' t1 t3, σ r = none → Bd w md σ₀ h₀ H₀ (put σ r (rgO 0 b t1 t2 t3)) H L h' m → Q (.ref r) ⟨h', g, d, t', os⟩) : wpAny (model prog w) A (call (.type "range") [.int b t2]) Q E ⟨h, g, d, t, os⟩ :=
  call_range_1 (q _ _ _ _ _ B.fm.ok.fresh (B.le (Le.put B.fm.ok.fresh _) (B.fm.alloc rfl)))
theorem range2B {Q : Value → Shared → Prop} {a b : Int} {t1 t2 : Tok} (B : Bd w md σ₀ h₀ H₀ σ H L h m)
    (q : ∀ r h' t' t3, σ r = none → Bd w md σ₀ h₀ H₀ (put σ r (rgO a b t1 t2 t3)) H L h' m → Q (.ref r) ⟨h', g, d, t', os⟩) : wpAny (model prog w) A (call (.type "range") [.int a t1, .int b t2]) Q E ⟨h, g, d, t, os⟩ :=
  call_range_2 (q _ _ _ _ B.fm.ok.fresh (B.le (Le.put B.fm.ok.fresh _) (B.fm.alloc rfl)))
theorem enumB {Q : Value → Shared → Prop} (B : Bd w md σ₀ h₀ H₀ σ H L h m) (l : LO σ D vs) (m1 : md k = true) (m2 : md k2 = true) (hk : k ≠ k2)
    (q : ∀ e it h' o, σ it = none → put σ it o e = none → ItO o D 0 → Bd w md σ₀ h₀ H₀ (put (put σ it o) e (enO it 0 .none)) (upd (upd H k2 it o) k e (enO it 0 .none)) L h' m → Q (.ref e) ⟨h', g, d, t, os⟩) :
    wpAny (model prog w) A (call (.type "enumerate") [.ref D]) Q E ⟨h, g, d, t, os⟩ := by
  refine hide fun CCC kkk => ?_
  obtain ⟨n, l⟩ := l
  refine kkk ?_; clear kkk
  refine call_enumerate_1 (s := ⟨h, g, d, t, os⟩) (B.fm.ok.sub _ _ l) fun h' x1 ⟨o, x2, x3, x4⟩ _ x6 => ?_
  obtain ⟨B2, f1, f2⟩ := B.add2 (k1 := k2) (k2 := k) (o1 := o) (by intro z; unfold isTupO at z; rw [x3] at z; exact absurd z (by decide)) enO_no m2 m1 x6 x2 x1
  exact q _ _ _ _ f1 f2 ⟨x3, x4⟩ B2
variable {I : Addr} {ks : Kd → Bool} {n : Nat} {target : Expr} {P : Nat → Value → Mp → Prop} {Src : Mp → Prop} {St : Nat → Hp → Prop}
inductive CpI (w : World) (md : Kd → Bool) (σ₀ : Mp) (h₀ : Heap) (H₀ : Hp) (C D : Addr) (g : Array GenState) (d : Drawn) (os : OsState) (ks : Kd → Bool) (kl : Kd) (St : Nat → Hp → Prop) (J : Nat → Mp → Hp → List Value → Prop) (n k : Nat) (s : Shared) : Prop
  | mk {i : Nat} {ys : List Value} {σ : Mp} {H : Hp} {h : Heap} {m : Str → Option Value} {t n' : Nat} : s = ⟨h, g, d, t, os⟩ → i ≤ n → k = n - i → J i σ H ys → Bd w md σ₀ h₀ H₀ σ H C h m → St i H → (∀ k a o, ks k = true → H k = some (a, o) → σ₀ a = none) → H kl = some (D, lisO ys n') → ys.length ≤ i →
      CpI w md σ₀ h₀ H₀ C D g d os ks kl St J n k s
structure CpE (w : World) (md : Kd → Bool) (σ₀ : Mp) (h₀ : Heap) (H₀ : Hp) (C : Addr) (g : Array GenState) (d : Drawn) (os : OsState) (ks : Kd → Bool) (kl : Kd) (J : Nat → Mp → Hp → List Value → Prop) (i : Nat) (ys : List Value) (H : Hp) (Q : Value → Shared → Prop) (N : Shared → Prop) : Prop where
  yes : ∀ {y : Value} {σ' : Mp} {H' : Hp} {h' : Heap} {m' : Str → Option Value} {t' : Nat}, Bd w md σ₀ h₀ H₀ σ' H' C h' m' → J (i + 1) σ' H' (ys ++ [y]) → (∀ k, ks k = true → H' k = H k) → H' kl = H kl → Q y ⟨h', g, d, t', os⟩
  no : ∀ {σ' : Mp} {H' : Hp} {h' : Heap} {m' : Str → Option Value} {t' : Nat}, Bd w md σ₀ h₀ H₀ σ' H' C h' m' → J (i + 1) σ' H' ys → (∀ k, ks k = true → H' k = H k) → H' kl = H kl → N ⟨h', g, d, t', os⟩
theorem compLoopG {elt iter : Expr} {ifs : List Expr} {scope : Scope} {pos : Pos} {env : Env} {R : Result → Shared → Prop} {C : Addr} (IT : Itr prog w A I ks n target P Src St) (kl : Kd) (J : Nat → Mp → Hp → List Value → Prop)
    (B : Bd w md σ₀ h₀ H₀ σ H C h m) (hm : ∀ k, ks k = true → md k = true) (hml : md kl = true) (hkl : ks kl = false) (hn : ∀ k a o, ks k = true → H k = some (a, o) → σ₀ a = none) (s0 : St 0 H) (h0 : J 0 σ H []) {n0 : Nat} (hD : H kl = some (D, lisO [] n0)) (hz : n ≤ 1000000)
    (sim : ∀ i σ H σ' H' ys, HpIn σ H → HpIn σ' H' → Kp σ H σ' H' → (∀ j, ks j = false → j ≠ kl → H' j = H j) → J i σ H ys → J i σ' H' ys)
    (src : ∀ i σ H ys, HpIn σ H → J i σ H ys → Src σ)
    (step : ∀ i v ys σ H h m t Q' N', CpE w md σ₀ h₀ H₀ C g d os ks kl J i ys H Q' N' → i < n → P i v σ → J i σ H ys → Bd w md σ₀ h₀ H₀ σ H C h m →
      wpAny (model prog w) A (assign target env v) (fun _ s₂ =>
        wpAny (model prog w) A (forIn ifs true fun c r => if r = true then do let ok ← isTrue c env (eval c env); pure (ForInStep.yield ok) else pure (ForInStep.yield r)) (fun ok s₃ =>
          if ok = true then wpAny (model prog w) A (eval elt env) Q' (fun _ _ => False) s₃ else N' s₃) (fun _ _ => False) s₂) (fun _ _ => False) ⟨h, g, d, t, os⟩)
    (done : ∀ σ H h m t ys n', J n σ H ys → Bd w md σ₀ h₀ H₀ σ H C h m → H kl = some (D, lisO ys n') → ys.length ≤ n → R (.ok .next) ⟨h, g, d, t, os⟩) :
    codeAny (model prog w) A (.compStart (.ListComp elt [⟨target, iter, ifs, 0⟩] scope pos) 0 (.ref I) (.ref D) env) R ⟨h, g, d, t, os⟩ := by
  have main : codeAny (model prog w) A (.compLoop (.ListComp elt [⟨target, iter, ifs, 0⟩] scope pos) 0 (.ref I) (.ref D) env) R ⟨h, g, d, t, os⟩ := by
    refine codeAny_loop rfl (CpI w md σ₀ h₀ H₀ C D g d os ks kl St J n) (fun k s hI => ?_) n ⟨rfl, Nat.zero_le _, rfl, h0, B, s0, hn, hD, Nat.le_refl _⟩
    show wpAny _ A ((compTurn (.ListComp elt [⟨target, iter, ifs, 0⟩] scope pos) 0 (.ref I) (.ref D) env).onRaise (fun x => do noteFrame x env; theTreesLotGoes x)) _ _ s
    refine wpAny_noted ?_
    rw [compTurn_list]
    refine hide fun CCC kkk => ?_
    obtain ⟨rfl, hi, rfl, hJ, B, hS, hn, hD, hyl⟩ := hI
    refine kkk ?_; clear kkk
    rename_i i ys σ H h m t n'
    refine wpAny_bind (wpAny_standAt (wpAny_bind ?_))
    by_cases lt : i < n
    · refine wpAny_mono (IT.item (Q := fun v s₂ => wpAny (model prog w) A (do
          assign target env v
          let mut ok := true
          for c in ifs do
            if ok then ok ← isTrue c env (eval c env)
          if ok then
            (do let _ ← call (.builtin "list.append") [.ref D, ← eval elt env])
          again (.compLoop (.ListComp elt [⟨target, iter, ifs, 0⟩] scope pos) 0 (.ref I) (.ref D) env)) (fun fin s' => match fin with
            | .done f => R (.ok f) s'
            | .again c => c = .compLoop (.ListComp elt [⟨target, iter, ifs, 0⟩] scope pos) 0 (.ref I) (.ref D) env ∧ ∃ k, k < n - i ∧ CpI w md σ₀ h₀ H₀ C D g d os ks kl St J n k s') (notedBy (model prog w) A env fun e s' => R (.error e) s') s₂)
        (E := notedBy (model prog w) A env fun e s' => R (.error e) s') B hm hn lt (src _ _ _ _ B.hp hJ) hS fun v σ' H' h' t' B' kp oth hn' hP hS' => ?_) (fun r s₁ z => ?_) fun _ _ z => z
      · have hD' : H' kl = some (D, lisO ys n') := (oth kl hkl).trans hD
        have st := step i v ys σ' H' h' m t' (fun y s₄ => wpAny (model prog w) A (call (.builtin "list.append") [.ref D, y]) (fun _ s₅ => ∃ k, k < n - i ∧ CpI w md σ₀ h₀ H₀ C D g d os ks kl St J n k s₅) (fun _ _ => False) s₄)
          (fun s₃ => ∃ k, k < n - i ∧ CpI w md σ₀ h₀ H₀ C D g d os ks kl St J n k s₃)
          ⟨fun B'' hJ' hk' hl' => have hl2 := hl'.trans hD'
            appendK (kd := kl) B'' hl2 (by lia) hml fun h3 n3 B3 => ⟨n - (i + 1), by lia, rfl, lt, rfl, sim _ _ _ _ _ _ B''.hp B3.hp (Kp.set hl2) (fun j _ b => upd_ne b) hJ', B3,
              IT.stays _ _ _ hS' (fun k hk => (upd_ne (by rintro rfl; rw [hkl] at hk; cases hk)).trans (hk' k hk)), (fun k a o hk e => hn' k a o hk ((hk' k hk).symm.trans ((upd_ne (by rintro rfl; rw [hkl] at hk; cases hk)).symm.trans e))), upd_self, by simp; exact hyl⟩,
           fun B'' hJ' hk' hl' => ⟨n - (i + 1), by lia, rfl, lt, rfl, hJ', B'', IT.stays _ _ _ hS' hk', (fun k a o hk e => hn' k a o hk ((hk' k hk).symm.trans e)), hl'.trans hD', Nat.le_succ_of_le hyl⟩⟩
          lt hP (sim _ _ _ _ _ _ B.hp B'.hp kp (fun j a _ => oth j a) hJ) B'
        refine wpAny_bind (wpAny_mono st (fun _ s₂ z => wpAny_bind (wpAny_mono z (fun ok s₃ z => ?_) fun _ _ z => z.elim)) fun _ _ z => z.elim)
        cases ok with
        | false => exact wpAny_pure ⟨rfl, z⟩
        | true => exact wpAny_bind (wpAny_bind (wpAny_mono z (fun y s₄ z => wpAny_bind (wpAny_mono z (fun _ s₅ z => wpAny_pure (wpAny_pure ⟨rfl, z⟩)) fun _ _ z => z.elim)) fun _ _ z => z.elim))
      · cases r with
        | none => exact z.elim
        | some v => exact wpAny_bind z
    · obtain rfl : i = n := Nat.le_antisymm hi (Nat.not_lt.mp lt)
      refine wpAny_mono (IT.done (Q := fun s₁ => R (.ok .next) s₁) (E := notedBy (model prog w) A env fun e s' => R (.error e) s') B hm hn (src _ _ _ _ B.hp hJ) hS fun σ' H' h' B' kp oth => ?_) (fun r s₁ z => ?_) fun _ _ z => z
      · exact done _ _ _ _ _ _ _ (sim _ _ _ _ _ _ B.hp B'.hp kp (fun j a _ => oth j a) hJ) B' ((oth kl hkl).trans hD) hyl
      · cases r with
        | none => exact wpAny_pure z
        | some v => exact z.elim
  exact codeAny_compStart_list main (IT.self B s0 main)
end
section
variable {w : World} {md : Kd → Bool} {σ₀ σ : Mp} {H₀ H : Hp} {h₀ h : Heap} {L : Addr} {m : Str → Option Value}
theorem Bd.inner (B : Bd w md σ₀ h₀ H₀ σ H L h m) : ∃ hb : Heap, (∀ C h3 mC, h3.Ns C mC → h.get? C = none → (∀ a o, h.get? a = some o → h3.get? a = some o) → Bd w md σ₀ hb H₀ σ H C h3 mC) ∧
    (∀ σ' H' h' C mC, Bd w md σ₀ hb H₀ σ' H' C h' mC → h.get? C = none → Bd w md σ₀ h₀ H₀ σ' H' L h' m ∧ C ≠ L ∧ σ' C = none ∧ h₀.get? C = none) := by
  refine hide fun CCC kkk => ?_
  obtain ⟨oL, es, ep, hL, hr⟩ := B.fm.ns
  refine kkk ?_; clear kkk
  let bad := (List.range h.objs.size).filter fun a => a != L && (h₀.get? a).isNone
  have bad_iff : ∀ a, a ∈ bad ↔ (a < h.objs.size ∧ a ≠ L ∧ h₀.get? a = none) := fun a => by
    simp [bad]
  have old : ∀ a o, h₀.get? a = some o → σ₀ a = none → (hideAll h bad).get? a = some o := fun a o e n =>
    hideAll_get _ (B.fm.ps.kept a o e n) fun q => by rw [((bad_iff a).mp q).2.2] at e; cases e
  have gL : (hideAll h bad).get? L = some oL := hideAll_get _ hL fun q => ((bad_iff L).mp q).2.1 rfl
  have gone : ∀ a, a ≠ L → h₀.get? a = none → (hideAll h bad).get? a = none := fun a n e => by
    by_cases lt : a < h.objs.size
    · exact hideAll_none _ ((bad_iff a).mpr ⟨lt, n, e⟩)
    · cases q : (hideAll h bad).get? a with
      | none => rfl
      | some o => exact absurd (Heap.lt_size (of_hideAll _ q)) lt
  have s0L : σ₀ L = none := by
    cases q : σ₀ L with
    | none => rfl
    | some o => obtain ⟨_, e⟩ := B.fm.ps.up L o q; rw [B.fm.out] at e; cases e
  have h0C : ∀ C, h.get? C = none → h₀.get? C = none := fun C e => by
    cases q : h₀.get? C with
    | none => rfl
    | some o =>
      cases r : σ₀ C with
      | none => rw [B.fm.ps.kept C o q r] at e; cases e
      | some o' => obtain ⟨o2, e2⟩ := B.fm.ps.up C o' r; rw [B.fm.ok.sub _ _ e2] at e; cases e
  refine ⟨hideAll h bad, fun C h3 mC ns hC up => ?_, fun σ' H' h' C mC B' hC => ?_⟩
  · have hCL : C ≠ L := by rintro rfl; rw [hC] at hL; cases hL
    refine ⟨⟨⟨B.fm.ok.base, fun a o e => up a o (B.fm.ok.sub a o e)⟩, ns, ?_, gone C hCL (h0C C hC), ⟨fun a o e n => up a o (of_hideAll _ e), fun a o e n => ?_, B.fm.ps.up⟩⟩, B.kp, B.hp, B.ag⟩
    · cases q : σ C with
      | none => rfl
      | some o => rw [B.fm.ok.sub _ _ q] at hC; cases hC
    · exact gone a (by rintro rfl; rw [B.fm.out] at e; cases e) (B.fm.ps.dom a o e n)
  · have hCL : C ≠ L := by rintro rfl; rw [hC] at hL; cases hL
    have out : σ' L = none := by
      cases q : σ' L with
      | none => rfl
      | some o => rw [B'.fm.ps.dom L o q s0L] at gL; cases gL
    refine ⟨⟨⟨B'.fm.ok, ⟨oL, es, ep, B'.fm.ps.kept L oL gL s0L, hr⟩, out, B.fm.new, ⟨fun a o e n => B'.fm.ps.kept a o (old a o e n) n, fun a o e n => ?_, B'.fm.ps.up⟩⟩, B'.kp, B'.hp, B'.ag⟩, hCL, B'.fm.out, h0C C hC⟩
    by_cases q : a = L
    · subst q; exact B.fm.new
    · cases r : h₀.get? a with
      | none => rfl
      | some o' => have := old a o' r n; rw [B'.fm.ps.dom a o e n] at this; cases this
end
section
variable {prog : Program} {w : World} {A : Around} {E : Value → Shared → Prop} {md : Kd → Bool} {σ₀ σ : Mp} {H₀ H : Hp} {h₀ h : Heap} {g : Array GenState} {d : Drawn} {t : Nat} {os : OsState} {L : Addr} {m : Str → Option Value}
  {I : Addr} {ks : Kd → Bool} {n : Nat} {target : Expr} {P : Nat → Value → Mp → Prop} {Src : Mp → Prop} {St : Nat → Hp → Prop}
theorem compRun {elt iter : Expr} {ifs : List Expr} {scope : Scope} {cl : List (Str × Addr)} {pos : Pos} {env : Env} {use : Option (Value → Sem Unit)} {Q : Value → Shared → Prop} (IT : Itr prog w A I ks n target P Src St) (kl : Kd) (J : Nat → Mp → Hp → List Value → Prop)
    (B : Bd w md σ₀ h₀ H₀ σ H L h m) (hm : ∀ k, ks k = true → md k = true) (hml : md kl = true) (hkl : ks kl = false) (hn : ∀ k a o, ks k = true → H k = some (a, o) → σ₀ a = none) (s0 : St 0 H) (h0 : J 0 σ H []) (hz : n ≤ 1000000)
    (hcell : ∀ y ∈ scope.names, y.2 ≠ .cell) (hkind : scope.kind = .function)
    (sim : ∀ i σ H σ' H' ys, HpIn σ H → HpIn σ' H' → Kp σ H σ' H' → (∀ j, ks j = false → j ≠ kl → H' j = H j) → J i σ H ys → J i σ' H' ys)
    (src : ∀ i σ H ys, HpIn σ H → J i σ H ys → Src σ)
    (step : ∀ i v ys σ H hb C h m t Q' N', CpE w md σ₀ hb H₀ C g d os ks kl J i ys H Q' N' → i < n → P i v σ → J i σ H ys → Bd w md σ₀ hb H₀ σ H C h m →
      wpAny (model prog w) A (assign target (compEnvC scope cl C env) v) (fun _ s₂ =>
        wpAny (model prog w) A (forIn ifs true fun c r => if r = true then do let ok ← isTrue c (compEnvC scope cl C env) (eval c (compEnvC scope cl C env)); pure (ForInStep.yield ok) else pure (ForInStep.yield r)) (fun ok s₃ =>
          if ok = true then wpAny (model prog w) A (eval elt (compEnvC scope cl C env)) Q' (fun _ _ => False) s₃ else N' s₃) (fun _ _ => False) s₂) (fun _ _ => False) ⟨h, g, d, t, os⟩)
    (done : ∀ D σ' H' h' t' ys n', J n σ' H' ys → Bd w md σ₀ h₀ H₀ σ' H' L h' m → H' kl = some (D, lisO ys n') → ys.length ≤ n →
      match use with
      | none => Q (.ref D) ⟨h', g, d, t', os⟩
      | some u => wpAny (model prog w) A (u (.ref D)) (fun _ s'' => ∃ σ₂ H₂ h₂ m₂ t₂, s'' = ⟨h₂, g, d, t₂, os⟩ ∧ Bd w md σ₀ h₀ H₀ σ₂ H₂ L h₂ m₂ ∧ (∀ C o, C ≠ L → σ' C = none → h'.get? C = some o → h₂.get? C = some o ∧ σ₂ C = none) ∧
          (∀ h₃, Bd w md σ₀ h₀ H₀ σ₂ H₂ L h₃ m₂ → Q .none ⟨h₃, g, d, t₂, os⟩)) E ⟨h', g, d, t', os⟩) :
    wpAny (model prog w) A (newList []) (fun acc s₃ => wpAny (model prog w) A (newFunctionEnv scope env.globals cl [] env.qual none .none (some env)) (fun cenv s₄ =>
      codeAny (model prog w) A (.compStart (.ListComp elt [⟨target, iter, ifs, 0⟩] scope pos) 0 (.ref I) acc { cenv with scope := relabel scope env }) (compPost (model prog w) A E use Q acc cenv.locals) s₄) E s₃) E ⟨h, g, d, t, os⟩ := by
  refine newListF B.fm (by simp) fun D h2 e1 e2 F => ?_
  have B1 := B.add (k := kl) e1 e2 lisO_no hml F
  refine wpAny_newFunctionEnv hcell (by intro y hy; simp at hy) (fun h3 hns hsb => ?_) hkind
  have hC : h2.get? h2.objs.size = none := by
    cases q : h2.get? h2.objs.size with
    | none => rfl
    | some o => exact absurd (Heap.lt_size q) (Nat.lt_irrefl _)
  have up : ∀ a o, h2.get? a = some o → h3.get? a = some o := fun a o e => hsb.extBut a o (Nat.ne_of_lt (Heap.lt_size e)) (Heap.get?_push_of_some _ e)
  refine hide fun CCC kkk => ?_
  obtain ⟨hb, go, back⟩ := B1.inner
  refine kkk ?_; clear kkk
  have B2 := go h2.objs.size h3 _ hns hC up
  have ks_ne : ∀ k, ks k = true → k ≠ kl := fun k hk q => by rw [q, hkl] at hk; cases hk
  refine compLoopG (C := h2.objs.size) (D := D) IT kl J B2 hm hml hkl (fun k a o hk e => hn k a o hk ((upd_ne (ks_ne k hk)).symm.trans e)) (IT.stays _ _ _ s0 fun k hk => upd_ne (ks_ne k hk))
    (sim _ _ _ _ _ _ B.hp B1.hp (Kp.add e1) (fun j _ a => upd_ne a) h0) (n0 := 0) upd_self hz sim src (fun i v ys σ H h m t => step i v ys σ H hb h2.objs.size h m t) ?_
  intro σ' H' h' m' t' ys n' hJ B' hD hy
  refine hide fun CCC kkk => ?_
  obtain ⟨B3, hCL, hσC, h0C⟩ := back σ' H' h' _ m' B' hC
  refine kkk ?_; clear kkk
  have dn := done D σ' H' h' t' ys n' hJ B3 hD hy
  unfold compPost
  cases use with
  | none => exact ⟨m', B'.fm.ns, fun h'' hs => by
      have := done D σ' H' h'' t' ys n' hJ (B3.butC hs hσC (Ne.symm hCL) h0C) hD hy
      exact this⟩
  | some u =>
    refine wpAny_mono dn (fun _ s'' z => ?_) fun _ _ z => z
    refine hide fun CCC kkk => ?_
    obtain ⟨σ₂, H₂, h₂, m₂, t₂, rfl, B4, keep, fin⟩ := z
    refine kkk ?_; clear kkk
    refine hide fun CCC kkk => ?_
    obtain ⟨oC, es, ep, eC, rC⟩ := B'.fm.ns
    refine kkk ?_; clear kkk
    refine hide fun CCC kkk => ?_
    obtain ⟨eC2, sC2⟩ := keep _ oC hCL hσC eC
    refine kkk ?_; clear kkk
    exact ⟨m', ⟨oC, es, ep, eC2, rC⟩, fun h'' hs => fin h'' (B4.butC hs sC2 (Ne.symm hCL) h0C)⟩
end
noncomputable def IsCe (o : Obj) (v : Value) : Prop := o.data = .cell (some v)
noncomputable def Ce (σ : Mp) (H : Hp) (c : Addr) (v : Value) : Prop := ∃ o, σ c = some o ∧ IsCe o v ∧ Untr H c
theorem Ce.kp {σ σ' : Mp} {H H' : Hp} {c : Addr} {v : Value} (X : Ce σ H c v) (k : Kp σ H σ' H') : Ce σ' H' c v := by
  refine hide fun CCC kkk => ?_
  obtain ⟨o, e, d, u⟩ := X
  refine kkk ?_; clear kkk
  refine hide fun CCC kkk => ?_
  obtain ⟨e', u'⟩ := k _ _ e u
  refine kkk ?_; clear kkk
  exact ⟨o, e', d, u'⟩
section
variable {prog : Program} {w : World} {A : Around} {E : Value → Shared → Prop} {md : Kd → Bool} {σ₀ σ τ : Mp} {H₀ H : Hp} {h₀ h : Heap} {g : Array GenState} {d : Drawn} {t : Nat} {os : OsState} {L c : Addr} {m : Str → Option Value}
  {env : Env} {x : Str} {pos : Pos} {v : Value}
theorem ldG {Q : Value → Shared → Prop} (B : Bd w md σ₀ h₀ H₀ σ H L h m) (hv : m x = some v) (q : Q v ⟨h, g, d, t, os⟩)
    (hk : env.scope.kind = .function) (hl : env.kindOf x = some .local) (hL : env.locals = L) (hd : (x == ("__debug__" : Str)) = false) :
    wpAny (model prog w) A (eval (.Name x pos) env) Q E ⟨h, g, d, t, os⟩ :=
  wpAny_Name (wpAny_loadName_local hk hl (s := ⟨h, g, d, t, os⟩) (hL ▸ B.fm.ns) hv q) hd
theorem stG {Q : Unit → Shared → Prop} (B : Bd w md σ₀ h₀ H₀ σ H L h m)
    (q : ∀ h', Bd w md σ₀ h₀ H₀ σ H L h' (ms x v m) → Q () ⟨h', g, d, t + 1, os⟩)
    (hk : env.scope.kind = .function) (hl : env.kindOf x = some .local) (hL : env.locals = L) :
    wpAny (model prog w) A (storeName env x v) Q E ⟨h, g, d, t, os⟩ := by
  subst hL
  exact wpAny_storeName_local hl B.fm.ns (fun h' hn hs => q h' (B.with (B.fm.store hn hs))) (by rw [hk]; rfl)
theorem globG {a : Addr} {Q : Value → Shared → Prop} (B : Bd w md σ₀ h₀ H₀ σ H L h m) (e : globTab.lookup x = some a) (q : Q (.ref a) ⟨h, g, d, t, os⟩)
    (hk : env.scope.kind = .function) (hx : env.kindOf x = some .globalImplicit) (hg : env.globals = mainGlobals) (hd : (x == ("__debug__" : Str)) = false) :
    wpAny (model prog w) A (eval (.Name x pos) env) Q E ⟨h, g, d, t, os⟩ := by
  have G : h.Ns mainGlobals (h.nsMap mainGlobals) := .of_isNs (isNs_of_in B.fm.K (by kernel_rfl))
  exact Calls.Name_function_global hk hx (Calls.loadGlobal_global (env := env) (hg ▸ G) (mg_of B.fm.K G (gl_all e)) q) hd
theorem bltG {Q : Value → Shared → Prop} (B : Bd w md σ₀ h₀ H₀ σ H L h m) (e : nsIn (KH w) mainGlobals x = some none) (hv : bltTab.lookup x = some v) (hn : decide (x = "__name__") = false) (q : Q v ⟨h, g, d, t, os⟩)
    (hk : env.scope.kind = .function) (hx : env.kindOf x = some .globalImplicit) (hg : env.globals = mainGlobals) (hb : env.builtins = builtinsNs) (hd : (x == ("__debug__" : Str)) = false) :
    wpAny (model prog w) A (eval (.Name x pos) env) Q E ⟨h, g, d, t, os⟩ := by
  have G : h.Ns mainGlobals (h.nsMap mainGlobals) := .of_isNs (isNs_of_in B.fm.K (by kernel_rfl))
  refine hide fun CCC kkk => ?_
  obtain ⟨o, es, ep, ho, hd', hk', hf⟩ := B.fm.ok.base.b
  refine kkk ?_; clear kkk
  have B' : h.Ns builtinsNs (nsFind es) := ⟨o, es, ep, B.fm.ok.sub _ _ ho, hd', hk', fun _ => rfl⟩
  exact Calls.Name_function_global hk hx (Calls.loadGlobal_builtin (env := env) (hg ▸ G) (mg_none_of B.fm.K G e) (hb ▸ B') ((hf x (nb hn)).trans (b_all hv)) q) hd
theorem ceG {Q : Value → Shared → Prop} (B : Bd w md σ₀ h₀ H₀ σ H L h m) (X : Ce σ H c v) (hc : env.cells.lookup x = some c) (q : Q v ⟨h, g, d, t, os⟩)
    (hk : env.scope.kind = .function) (hl : env.kindOf x = some .cell) (hd : (x == ("__debug__" : Str)) = false) :
    wpAny (model prog w) A (eval (.Name x pos) env) Q E ⟨h, g, d, t, os⟩ :=
  let ⟨o, e, ho, _⟩ := X; wpAny_Name (wpAny_loadName_cell hk hl hc ⟨o, B.fm.ok.sub _ _ e, ho⟩ q) hd
theorem frG {Q : Value → Shared → Prop} (B : Bd w md σ₀ h₀ H₀ σ H L h m) (X : Ce σ H c v) (hc : env.cells.lookup x = some c) (q : Q v ⟨h, g, d, t, os⟩)
    (hk : env.scope.kind = .function) (hl : env.kindOf x = some .free) (hd : (x == ("__debug__" : Str)) = false) (hn : (x == ("__classdict__" : Str)) = false) :
    wpAny (model prog w) A (eval (.Name x pos) env) Q E ⟨h, g, d, t, os⟩ :=
  let ⟨o, e, ho, _⟩ := X; wpAny_Name (wpAny_loadName_free hk hl hc ⟨o, B.fm.ok.sub _ _ e, ho⟩ q hn) hd
theorem stCe {Q : Unit → Shared → Prop} {o : Obj} {v₀ : Option Value} (B : Bd w md σ₀ h₀ H₀ σ H L h m) (e : σ c = some o) (ho : o.data = .cell v₀) (hu : Untr H c) (hn : σ₀ c = none) (hi : Hi c) (hc : env.cells.lookup x = some c)
    (q : ∀ h' o', IsCe o' v → Bd w md σ₀ h₀ H₀ (put σ c o') H L h' m → Q () ⟨h', g, d, t, os⟩)
    (hk : env.scope.kind = .function) (hl : env.kindOf x = some .cell) :
    wpAny (model prog w) A (storeName env x v) Q E ⟨h, g, d, t, os⟩ := by
  refine wpAny_storeName_cell hk hl hc ⟨o, B.fm.ok.sub _ _ e, ho⟩ fun h' ⟨o', e', hd'⟩ hs => ?_
  exact q h' o' hd' (B.own hn hu (B.fm.change hi e hs e'))
theorem Bd.know {o : Obj} (B : Bd w md σ₀ h₀ H₀ σ H L h m) (e : h.get? c = some o) (hσ : σ c = none) (h0 : h₀.get? c = none) (hL : c ≠ L) (hi : Hi c) : Bd w md σ₀ h₀ H₀ (put σ c o) H L h m := by
  refine B.le (Le.put hσ _) ⟨⟨B.fm.ok.base.put hi, fun a oa ea => ?_⟩, B.fm.ns, (put_ne (Ne.symm hL)).trans B.fm.out, B.fm.new, ⟨B.fm.ps.kept, fun a oa ea n => ?_, fun a oa ea => put_up (B.fm.ps.up a oa ea)⟩⟩
  · by_cases q : a = c
    · subst q; rw [put_self] at ea; cases ea; exact e
    · rw [put_ne q] at ea; exact B.fm.ok.sub a oa ea
  · by_cases q : a = c
    · subst q; exact h0
    · rw [put_ne q] at ea; exact B.fm.ps.dom a oa ea n
theorem enterC {Q : Value → Shared → Prop} {name qual : Str} {scope : Scope} {f : Addr} {cd : Value} {params : Arguments} {body : List Stmt} {dV kV doc pm ct oc : Value} {an od : Option Addr} {osl : Array (Option Value)} {args : List Value} {binds : List (Str × Value)} {k : Nat}
    (O : Ok w σ h) (R : Room k A) (X : HpIn σ H)
    (ho : (KH w).lookup f = some ⟨oc, od, .func (fnOf name qual params body scope dV kV doc pm an cd ct), osl⟩) (hcd : codeIn (KH w) cd qual = true)
    (hbind : bindArgs (fnOf name qual params body scope dV kV doc pm an cd ct) ⟨args, []⟩ = pure binds)
    (hkind : ∀ n, ∀ x ∈ binds, scope.names.lookup x.1 = some .local ∨ (scope.names.lookup x.1 = some .cell ∧ ((cellsFrom n scope.names []).lookup x.1).isSome = true))
    (h1 : ∀ L h₁ t', Bd w md σ h H σ H L h₁ (bindL (envOfC qual scope L f cd).kindOf binds fun _ => none) →
      (∀ n c, (cellsFrom (L + 1) scope.names []).lookup n = some c → ∃ o, h₁.get? c = some o ∧ o.data = .cell (bindC (envOfC qual scope L f cd).kindOf binds (fun _ => none) n) ∧ h.get? c = none ∧ σ c = none ∧ c ≠ L ∧ Hi c) →
      wpAny (model prog w) (A.deeper (envOfC qual scope L f cd)) (execs body (envOfC qual scope L f cd))
        (fun fl s' => Q (match fl with | .ret v => v | _ => .none) s') (fun _ _ => False) ⟨h₁, g, d, t', os⟩)
    (hco : scope.isCoroutine = false) (hgen : scope.isGenerator = false) (hk : scope.kind = .function) :
    wpAny (model prog w) A (call (.ref f) args) Q E ⟨h, g, d, t, os⟩ := by
  refine wpAny_call ?_
  refine codeAny_call_cells (fd := fnOf name qual params body scope dV kV doc pm an cd ct) R.depth (O.K _ _ ho) rfl (nolimit O.K) (codeRec_of O.K hcd) rfl hbind rfl (hkind _) (fun s₁ X' => ?_) hco hgen hk
  refine hide fun CCC kkk => ?_
  obtain ⟨h₁, tk, rfl, _⟩ := X'.done
  refine kkk ?_; clear kkk
  have hk₁ : ∀ b o, h.get? b = some o → h₁.get? b = some o := X'.toInCall.keep
  have gone : ∀ a, h.objs.size ≤ a → h.get? a = none := fun a ha => by
    cases q : h.get? a with
    | none => rfl
    | some o => exact absurd (Heap.lt_size q) (Nat.not_lt.mpr ha)
  have F : Fm w σ h σ h.objs.size h₁ (bindL (envOfC qual scope h.objs.size f cd).kindOf binds fun _ => none) :=
    ⟨⟨O.base, fun a o e => hk₁ a o (O.sub a o e)⟩, X'.toInCall.ns, O.fresh, gone _ (Nat.le_refl _), ⟨fun a o e _ => hk₁ a o e, fun a o e n => (by rw [n] at e; cases e), fun _ o e => ⟨o, e⟩⟩⟩
  refine wpAny_mono (h1 h.objs.size h₁ tk (Bd.start F X) fun n c hc => ?_) (fun fl s' q => q) fun _ _ q => q.elim
  refine hide fun CCC kkk => ?_
  obtain ⟨o, e1, e2⟩ := X'.cell n c hc
  refine kkk ?_; clear kkk
  have lt : h.objs.size < c := X'.above n c (mem_of_lookup hc)
  refine ⟨o, e1, e2, gone c (Nat.le_of_lt lt), ?_, Nat.ne_of_gt lt, .inl (Nat.le_trans O.big (Nat.le_of_lt lt))⟩
  cases q : σ c with
  | none => rfl
  | some o' => have := O.sub _ _ q; rw [gone c (Nat.le_of_lt lt)] at this; cases this
theorem listComp {elt iter target : Expr} {ifs : List Expr} {scope : Scope} {cl : List (Str × Addr)} {Q : Value → Shared → Prop}
    (hclos : closureFor scope env = pure cl) (hkind : scope.kind = .function) (hnames : ∀ y ∈ scope.names, y.2 = .local → scope.names.lookup y.1 = some .local)
    (q : wpAny (model prog w) A (eval iter env) (fun x s₁ => wpAny (model prog w) A (pyIter x) (fun it s₂ => wpAny (model prog w) A (newList []) (fun acc s₃ => wpAny (model prog w) A (newFunctionEnv scope env.globals cl [] env.qual none .none (some env)) (fun cenv s₄ =>
      codeAny (model prog w) A (.compStart (.ListComp elt [⟨target, iter, ifs, 0⟩] scope pos) 0 it acc { cenv with scope := relabel scope env }) (compPost (model prog w) A E none Q acc cenv.locals) s₄) E s₃) E s₂) E s₁) E ⟨h, g, d, t, os⟩)
    (hs : ∀ x, foldedSetIterable iter env x = pure x) :
    wpAny (model prog w) A (eval (.ListComp elt [⟨target, iter, ifs, 0⟩] scope pos) env) Q E ⟨h, g, d, t, os⟩ := by
  rw [eval_ListComp]
  exact wpAny_comprehension_free (use := none) rfl hs hclos hkind hnames q
theorem listCompSet {elt iter target : Expr} {ifs : List Expr} {scope : Scope} {cl : List (Str × Addr)} {Q : Flow → Shared → Prop} {y : Str} {py spos : Pos}
    (hsw : swapsWith (.ListComp elt [⟨target, iter, ifs, 0⟩] scope pos) (some (.Name y py)) spos.line env = pure true)
    (hclos : closureFor scope env = pure cl) (hkind : scope.kind = .function) (hnames : ∀ y ∈ scope.names, y.2 = .local → scope.names.lookup y.1 = some .local)
    (q : wpAny (model prog w) A (eval iter env) (fun x s₁ => wpAny (model prog w) A (pyIter x) (fun it s₂ => wpAny (model prog w) A (newList []) (fun acc s₃ => wpAny (model prog w) A (newFunctionEnv scope env.globals cl [] env.qual none .none (some env)) (fun cenv s₄ =>
      codeAny (model prog w) A (.compStart (.ListComp elt [⟨target, iter, ifs, 0⟩] scope pos) 0 it acc { cenv with scope := relabel scope env }) (compPost (model prog w) A E (some (assign (.Name y py) env)) (fun _ s' => Q .next s') acc cenv.locals) s₄) E s₃) E s₂) E s₁) E ⟨h, g, d, t, os⟩)
    (hs : ∀ x, foldedSetIterable iter env x = pure x) :
    wpAny (model prog w) A (exec (.Assign [.Name y py] (.ListComp elt [⟨target, iter, ifs, 0⟩] scope pos) spos) env) Q E ⟨h, g, d, t, os⟩ := by
  rw [exec_Assign_Name_used _ _ _ _ hsw]
  refine wpAny_bind (wpAny_standAt (wpAny_bind ?_))
  show wpAny _ A (do let _ ← comprehension (.ListComp elt [⟨target, iter, ifs, 0⟩] scope pos) scope env _ (newList []) false (eval iter env) (some (assign (.Name y py) env))) _ _ _
  exact wpAny_bind (wpAny_mono (wpAny_comprehension_free (use := some (assign (.Name y py) env)) (Q := fun _ s' => Q .next s') rfl hs hclos hkind hnames q) (fun _ s' hq => wpAny_pure (wpAny_pure hq)) fun _ _ e => e)
theorem useName {D : Addr} {Q : Value → Shared → Prop} {y : Str} {py : Pos} {σ' : Mp} {H' : Hp} {h' : Heap} {t' : Nat} (B : Bd w md σ₀ h₀ H₀ σ' H' L h' m) (hk : env.scope.kind = .function) (hl : env.kindOf y = some .local) (hL : env.locals = L)
    (q : ∀ h₃, Bd w md σ₀ h₀ H₀ σ' H' L h₃ (ms y (.ref D) m) → Q .none ⟨h₃, g, d, t' + 1, os⟩) :
    wpAny (model prog w) A (assign (.Name y py) env (.ref D)) (fun _ s'' => ∃ σ₂ H₂ h₂ m₂ t₂, s'' = ⟨h₂, g, d, t₂, os⟩ ∧ Bd w md σ₀ h₀ H₀ σ₂ H₂ L h₂ m₂ ∧ (∀ C o, C ≠ L → σ' C = none → h'.get? C = some o → h₂.get? C = some o ∧ σ₂ C = none) ∧
          (∀ h₃, Bd w md σ₀ h₀ H₀ σ₂ H₂ L h₃ m₂ → Q .none ⟨h₃, g, d, t₂, os⟩)) E ⟨h', g, d, t', os⟩ := by
  subst hL
  refine wpAny_assign_Name (wpAny_storeName_local hl B.fm.ns (fun h2 hn hs => ?_) (by rw [hk]; rfl))
  exact ⟨σ', H', h2, _, _, rfl, B.with (B.fm.store hn hs), fun C o n e1 e2 => ⟨(hs.2 C n).trans e2, e1⟩, q⟩
end
theorem ite_t {P R : Prop} {b : Bool} (hb : b = true) (h : P) : if b = true then P else R := by rw [if_pos hb]; exact h
theorem ite_f {P R : Prop} {b : Bool} (hb : b = false) (h : R) : if b = true then P else R := by rw [if_neg (by rw [hb]; exact Bool.false_ne_true)]; exact h
local macro_rules | `(tactic| walk_at "s") => `(tactic| first
  | ((with_reducible refine execsK ?_); intro _ _ _)
  | with_reducible refine KN.go (by assumption) ?_
  | with_reducible refine KN.ret (by assumption) ?_
  | (with_reducible first | refine wpAny_execs_nil ?_ | refine wpAny_Return_some ?_ | refine wpAny_If ?_)
  | ((with_reducible refine wpAny_Assign_Subscript ?_ ?_); rotate_left; exact rfl)
  | ((with_reducible refine plainObj_wpAny_Assign_Attribute ?_ ?_); rotate_left; exact rfl)
  | ((with_reducible refine wpAny_Assign_Name ?_ ?_); rotate_left; exact rfl)
  | ((with_reducible refine wpAny_Expr_any ?_ ?g1 ?g2); (case g1 => rfl); (case g2 => rfl))
  | with_reducible refine args_nil ?_
  | ((with_reducible refine args_cons ?_ ?_); rotate_left; exact rfl)
  | (with_reducible first | refine Tuple_ ?_ | refine List_ ?_ | refine wpAny_BinOp ?_ | refine Attribute_any_ ?_ | refine Subscript_ ?_)
  | ((with_reducible refine MethodCall_ (pl := ?pl) ?_ ?g1); (case g1 => rfl))
  | ((with_reducible refine Call_ ?_ ?g1); (case g1 => rfl))
  | (with_reducible first | refine cInt ?_ | refine cStr ?_ | refine Constant_bool ?_ | refine Constant_none ?_ | refine wpAny_isTrue_Compare1 ?_ | refine wpAny_Compare1 ?_ | refine UnaryOp_ ?_ | refine IfExp_ ?_ | refine isTrue_not ?_ | refine wpAny_truthy_bool ?_ | refine PyProof.Rows.neg_int ?_ | refine addI ?_ | refine subI ?_ | refine PyProof.Rows.eq_int ?_ | refine PyProof.Rows.ne_int ?_ | refine PyProof.Rows.lt_int ?_)
  | ((with_reducible refine ldB (v := ?v) (by assumption) ?g1 ?_ ?g2 ?g3 ?g4); (case g1 => first | rfl | assumption); (case g2 => rfl); (case g3 => rfl); (case g4 => rfl))
  | ((with_reducible refine stB (by assumption) ?_ ?g1 ?g2); (case g1 => rfl); (case g2 => rfl); intro _ _)
  | (with_reducible refine And.intro (Bd.In (by assumption)) ?_))
local macro_rules | `(tactic| walk_at "le") => `(tactic| repeat (first | exact Le.refl _ | (refine Le.trans ?_ (Le.put (by assumption) _))))
local macro_rules | `(tactic| walk_at "t") => `(tactic| first
  | walk_at "s"
  | ((with_reducible refine gaL (v := ?v) (by assumption) (by assumption) ?g1 ?g2 ?g3 ?g4 ?_); (case g1 => walk_at "le"); (case g2 => kernel_rfl); (case g3 => rfl); (case g4 => rfl))
  | ((with_reducible refine gmM (fa := ?fa) (by assumption) (by assumption) ?g1 ?g0 ?g2 ?_); (case g0 => rfl); (case g1 => walk_at "le"); (case g2 => rfl); dsimp only)
  | ((with_reducible refine globB (a := ?v) (by assumption) ?g1 ?_ ?g2 ?g3 ?g4); (case g1 => rfl); (case g2 => rfl); (case g3 => rfl); (case g4 => rfl))
  | ((with_reducible refine bltB (v := .builtin "len") (by assumption) ?g1 ?gb ?g2 ?_ ?g3 ?g4 ?g5); (case gb => rfl); (case g1 => kernel_rfl); (case g2 => rfl); (case g3 => rfl); (case g4 => rfl); (case g5 => rfl))
  | ((with_reducible refine cwBi1 ?_ ?g1 ?g2); (case g1 => rfl); (case g2 => rfl))
  | ((with_reducible refine cwTy1 ?_ ?g1 ?g2); (case g1 => rfl); (case g2 => rfl))
  | with_reducible refine callWith_method0 ?_
  | ((with_reducible refine callWith_method1 ?_ ?g1 ?g2); (case g1 => rfl); (case g2 => rfl))
  | ((with_reducible refine cwB0 (fv := .ref ?fr) (by assumption) ?g1 ?_); (case g1 => kernel_rfl))
  | ((with_reducible refine cwB (fv := .ref ?fr) ?g1 ?_ ?g2 ?g3); (case g1 => kernel_rfl); (case g2 => rfl); (case g3 => rfl)))
local macro_rules | `(tactic| walk_at "u") => `(tactic| first
  | (with_reducible first | refine ite_fp ?_ | refine ite_tp ?_)
  | walk_at "t"
  | ((with_reducible refine eqS_f ?g1 ?_); (case g1 => rfl))
  | ((with_reducible refine eqS_t ?g1 ?_); (case g1 => rfl))
  | (with_reducible first | refine isTrue_or ?_ | refine isTrue_or_nil ?_ | refine isTrue_and ?_ | refine isTrue_and_nil ?_)
  | ((with_reducible refine isTrue_plain ?_ ?g1); (case g1 => rfl))
  | (with_reducible first | refine SliceN ?_ | refine partN ?_ | refine partS ?_))
local macro_rules | `(tactic| walk_at "ent") => `(tactic| ((case a1 => rfl); (case a2 => kernel_rfl); (case a3 => exact .of_eq (by kernel_rfl)); (case a4 => kernel_rfl); (case a5 => kernel_rfl); (case a6 => rfl); (case a7 => rfl); (case a8 => rfl)))
local macro_rules | `(tactic| walk_at "entd") => `(tactic| ((case a2 => kernel_rfl); (case a4 => kernel_rfl); (case a5 => kernel_rfl); (case a6 => rfl); (case a7 => rfl); (case a8 => rfl)))
local macro_rules | `(tactic| walk_at "v") => `(tactic| first
  | walk_at "u"
  | ((with_reducible refine bltB (v := ?v) (by assumption) ?g1 ?gb ?g2 ?_ ?g3 ?g4 ?g5); (case gb => rfl); (case g1 => kernel_rfl); (case g2 => rfl); (case g3 => rfl); (case g4 => rfl); (case g5 => rfl))
  | (with_reducible first | refine PySem.call_int_int ?_ | refine PySem.call_int_bool ?_ | refine PyProof.Rows.gt_int ?_ | refine PyProof.Rows.ge_int ?_))
local macro_rules | `(tactic| walk_at "w") => `(tactic| first
  | walk_at "v"
  | ((with_reducible refine ite_t ?g ?_); (case g => first | rfl | decide | assumption))
  | ((with_reducible refine ite_f ?g ?_); (case g => first | rfl | decide | assumption)))
local macro_rules | `(tactic| walk_at "x") => `(tactic| first
  | walk_at "w"
  | (with_reducible first | refine BoolOp_one ?_ | refine BoolOp_and ?_ | refine BoolOp_or ?_)
  | ((with_reducible refine ldG (v := ?v) (by assumption) ?g1 ?_ ?g2 ?g3 ?g4 ?g5); (case g1 => first | rfl | assumption); (case g2 => rfl); (case g3 => rfl); (case g4 => rfl); (case g5 => rfl))
  | ((with_reducible refine stG (by assumption) ?_ ?g1 ?g2 ?g3); (case g1 => rfl); (case g2 => rfl); (case g3 => rfl); intro _ _)
  | ((with_reducible refine globG (a := ?v) (by assumption) ?g1 ?_ ?g2 ?g3 ?g4 ?g5); (case g1 => rfl); (case g2 => rfl); (case g3 => rfl); (case g4 => rfl); (case g5 => rfl))
  | ((with_reducible refine bltG (v := ?v) (by assumption) ?g1 ?gb ?gn ?_ ?g2 ?g3 ?g4 ?g5 ?g6); (case gb => rfl); (case g1 => kernel_rfl); (case gn => rfl); (case g2 => rfl); (case g3 => rfl); (case g4 => rfl); (case g5 => rfl); (case g6 => rfl))
  | ((with_reducible refine ceG (c := ?c) (v := ?v) (by assumption) ?gX ?g1 ?_ ?g2 ?g3 ?g4); (case g1 => rfl); (case gX => assumption); (case g2 => rfl); (case g3 => rfl); (case g4 => rfl))
  | ((with_reducible refine frG (c := ?c) (v := ?v) (by assumption) ?gX ?g1 ?_ ?g2 ?g3 ?g4 ?g5); (case g1 => rfl); (case gX => assumption); (case g2 => rfl); (case g3 => rfl); (case g4 => rfl); (case g5 => rfl)))
section
variable {prog : Program} {w : World} {A : Around} {E : Value → Shared → Prop} {σ : Mp} {h : Heap} {g : Array GenState} {d : Drawn} {t : Nat} {os : OsState} {Q : Value → Shared → Prop} {k : Nat}
theorem user_spec {xa dx : Addr} {am : Str → Option Value} {n fu : Int} {tn tf : Tok} (O : Ok w σ h) (R : Room 1 A) (I : ObjIs σ xa dx 307 am) (hf : am "first_user" = some (.int fu tf))
    (q : ∀ h' t' tk, Pu w σ h σ h' → Q (.int (fu + n) tk) ⟨h', g, d, t', os⟩) :
    wpAny (model prog w) A (call (.ref 198) [.ref xa, .int n tn]) Q E ⟨h, g, d, t, os⟩ := by
  refine' enter (binds := [("self", .ref xa), ("n", .int n tn)]) O R ?a1 ?a2 ?a3 ?a4 ?a5 ?_ ?a6 ?a7 ?a8
  walk_at "ent"
  intro L h₁ F
  have B := Bd.start (md := fun _ => false) F (H0.in σ)
  repeat walk_at "s"
  refine gaF B.fm I (by kernel_rfl) hf rfl ?_
  repeat walk_at "s"
  exact q _ _ _ B.pu
theorem btype_spec {B BD loc blk sp a : Addr} {nm ac u b n : Value} {vs : List Value} {i : Nat} {ti : Tok} (O : Ok w σ h) (R : Room 1 A) (I : ObjIs σ B BD 82 (boAm nm ac loc blk sp)) (l : LO σ loc vs)
    (hi : vs[i]? = some (.ref a)) (hz : i ≤ 1000000) (ht : TO σ a [u, b, n])
    (q : ∀ h' t', Pu w σ h σ h' → Q u ⟨h', g, d, t', os⟩) :
    wpAny (model prog w) A (call (.ref 43) [.ref B, .int i ti]) Q E ⟨h, g, d, t, os⟩ := by
  refine' enter (binds := [("self", .ref B), ("local", .int i ti)]) O R ?a1 ?a2 ?a3 ?a4 ?a5 ?_ ?a6 ?a7 ?a8
  walk_at "ent"
  intro L h₁ F
  have B := Bd.start (md := fun _ => false) F (H0.in σ)
  repeat walk_at "s"
  refine gaF B.fm I (by kernel_rfl) rfl rfl ?_
  repeat walk_at "s"
  refine itemLF B.fm l hi hz ?_
  repeat walk_at "s"
  refine itemTF (i := 0) B.fm ht rfl (by decide) ?_
  repeat walk_at "s"
  exact q _ _ B.pu
theorem bstm_spec {B BD loc blk sp a : Addr} {nm ac u v : Value} {vs : List Value} {i : Nat} {ti : Tok} (O : Ok w σ h) (R : Room 1 A) (I : ObjIs σ B BD 82 (boAm nm ac loc blk sp)) (l : LO σ blk vs)
    (hi : vs[i]? = some (.ref a)) (hz : i ≤ 1000000) (ht : LO σ a [u, v])
    (q : ∀ h' t', Pu w σ h σ h' → Q u ⟨h', g, d, t', os⟩) :
    wpAny (model prog w) A (call (.ref 57) [.ref B, .int i ti]) Q E ⟨h, g, d, t, os⟩ := by
  refine' enter (binds := [("self", .ref B), ("block", .int i ti)]) O R ?a1 ?a2 ?a3 ?a4 ?a5 ?_ ?a6 ?a7 ?a8
  walk_at "ent"
  intro L h₁ F
  have B := Bd.start (md := fun _ => false) F (H0.in σ)
  repeat walk_at "s"
  refine gaF B.fm I (by kernel_rfl) rfl rfl ?_
  repeat walk_at "s"
  refine itemLF B.fm l hi hz ?_
  repeat walk_at "s"
  refine itemLF (i := 0) B.fm ht rfl (by decide) ?_
  repeat walk_at "s"
  exact q _ _ B.pu
theorem bterm_spec {B BD loc blk sp a : Addr} {nm ac u v : Value} {vs : List Value} {i : Nat} {ti : Tok} (O : Ok w σ h) (R : Room 1 A) (I : ObjIs σ B BD 82 (boAm nm ac loc blk sp)) (l : LO σ blk vs)
    (hi : vs[i]? = some (.ref a)) (hz : i ≤ 1000000) (ht : LO σ a [u, v])
    (q : ∀ h' t', Pu w σ h σ h' → Q v ⟨h', g, d, t', os⟩) :
    wpAny (model prog w) A (call (.ref 64) [.ref B, .int i ti]) Q E ⟨h, g, d, t, os⟩ := by
  refine' enter (binds := [("self", .ref B), ("block", .int i ti)]) O R ?a1 ?a2 ?a3 ?a4 ?a5 ?_ ?a6 ?a7 ?a8
  walk_at "ent"
  intro L h₁ F
  have B := Bd.start (md := fun _ => false) F (H0.in σ)
  repeat walk_at "s"
  refine gaF B.fm I (by kernel_rfl) rfl rfl ?_
  repeat walk_at "s"
  refine itemLF B.fm l hi hz ?_
  repeat walk_at "s"
  refine itemLF (i := 1) B.fm ht rfl (by decide) ?_
  repeat walk_at "s"
  exact q _ _ B.pu
end
noncomputable def mdS : Kd → Bool := fun k => k.cl == 1
noncomputable def mdB : Kd → Bool
  | .st _ | .b _ | .blk | .sp | .scD => true
  | _ => false
theorem mdB_S {k : Kd} (h : mdS k = false) : mdB k = false := by cases k <;> first | rfl | (exact absurd h (by decide)) | exact absurd h Bool.noConfusion
noncomputable def SA.sts (A : SA) (b : Nat) : List St := (A.blocks[b]?.map (·.1)).getD []
noncomputable def SA.note (A : SA) : SA := { A with sp := fun i j => if i = A.here ∧ j = (A.sts A.here).length then some A.spot else A.sp i j, nsp := A.nsp + 1 }
noncomputable def SA.put (A : SA) (s : St) : SA := { A.note with blocks := A.blocks.modify A.here fun b => (b.1 ++ [s], b.2) }
noncomputable def SA.close (A : SA) (t : Tm) : SA := { A.note with blocks := A.blocks.modify A.here fun b => (b.1, t) }
section
variable {σ : Mp} {H : Hp} {c : Cs} {a : SA}
theorem Sc.objS (X : HpIn σ H) (Y : Sc σ H c a) : ∃ t1 t2, ObjIs σ c.S c.SD 307 (scAm c (.int a.here t1) (.int a.spot t2)) := by
  refine hide fun CCC kkk => ?_
  obtain ⟨h1, od, t1, t2, h2, h3⟩ := Y.s
  refine kkk ?_; clear kkk
  exact ⟨t1, t2, od, X.at_ _ _ _ h1, X.at_ _ _ _ h2, h3⟩
theorem Sc.objB (X : HpIn σ H) (Y : Sc σ H c a) : ObjIs σ c.B c.BD 82 (boAm c.nm c.ac c.loc c.blk c.sp) := by
  refine hide fun CCC kkk => ?_
  obtain ⟨h1, od, h2, h3⟩ := Y.b
  refine kkk ?_; clear kkk
  exact ⟨od, X.at_ _ _ _ h1, X.at_ _ _ _ h2, h3⟩
theorem Sc.block (X : HpIn σ H) (Y : Sc σ H c a) {i : Nat} {x : List St × Tm} (e : a.blocks[i]? = some x) : ∃ n vs b s n1 n2 tv ss, H .blk = some (c.blk, lisO vs n) ∧ vs[i]? = some (.ref b) ∧
    H (.b i) = some (b, lisO [.ref s, tv] n1) ∧ H (.st i) = some (s, lisO ss n2) ∧ All2 (StIs σ) ss x.1 ∧ TmIs σ tv x.2 := by
  refine hide fun CCC kkk => ?_
  obtain ⟨n, vs, h1, h2, h3⟩ := Y.k
  refine kkk ?_; clear kkk
  have hi : i < vs.length := by rw [h2]; exact (List.getElem?_eq_some_iff.mp e).1
  refine hide fun CCC kkk => ?_
  obtain ⟨b, s, n1, n2, tv, ss, e1, r⟩ := h3 i _ x (List.getElem?_eq_getElem hi) e
  refine kkk ?_; clear kkk
  exact ⟨n, vs, b, s, n1, n2, tv, ss, h1, by rw [List.getElem?_eq_getElem hi, e1], r⟩
end
section
variable {prog : Program} {w : World} {A : Around} {E : Value → Shared → Prop} {σ : Mp} {H : Hp} {h : Heap} {g : Array GenState} {d : Drawn} {t : Nat} {os : OsState} {Q : Value → Shared → Prop} {k : Nat} {c : Cs} {a : SA}
theorem note_spec (O : Ok w σ h) (R : Room 3 A) (X : HpIn σ H) (Y : Sc σ H c a) (hs : a.Small 800000) (hh : a.here < a.blocks.length)
    (q : ∀ h' t' σ' H', Nx w mdB σ h H σ' h' H' → Sc σ' H' c a.note → Q .none ⟨h', g, d, t', os⟩) :
    wpAny (model prog w) A (call (.ref 227) [.ref c.S]) Q E ⟨h, g, d, t, os⟩ := by
  refine' enter (binds := [("self", .ref c.S)]) O R ?a1 ?a2 ?a3 ?a4 ?a5 ?_ ?a6 ?a7 ?a8
  walk_at "ent"
  intro L h₁ F
  have B := Bd.start (md := mdB) F X
  refine hide fun CCC kkk => ?_
  obtain ⟨t1, t2, IS⟩ := Y.objS X
  refine kkk ?_; clear kkk
  have IB := Y.objB X
  refine hide fun CCC kkk => ?_
  obtain ⟨n, vs, b, s, n1, n2, tv, ss, k1, k2, k3, k4, k5, k6⟩ := Y.block X (List.getElem?_eq_getElem hh)
  refine kkk ?_; clear kkk
  repeat walk_at "t"
  refine bstm_spec B.fm.ok (R.deeper.le (by decide)) IB ⟨n, X.at_ _ _ _ k1⟩ k2 (by have := hs.k; lia) ⟨n1, X.at_ _ _ _ k3⟩ fun h2 t2 P => ?_
  replace B := B.pure P
  repeat walk_at "t"
  refine lenF B.fm ⟨n2, X.at_ _ _ _ k4⟩ (by have := hs.s _ (List.getElem_mem hh); rw [k5.length]; lia) fun tk t3 => ?_
  repeat walk_at "t"
  refine newTupleB B (by exact Nat.le_of_ble_eq_true rfl) fun ka h3 e1 e2 B => ?_
  refine hide fun CCC kkk => ?_
  obtain ⟨o, xs, p1, p2⟩ := Y.p
  refine kkk ?_; clear kkk
  refine spSetF B.fm (R.deeper.le (by decide)) (Le.put e1 _ _ _ (X.at_ _ _ _ p1)) (p2.tk (Le.put e1 _).tk) put_self (X.hi _ _ _ p1) (by have := hs.p; lia) fun h4 o' xs' t4 p3 p4 F => ?_
  replace B := B.set p1 p4 rfl F
  repeat walk_at "t"
  refine q _ _ _ _ B.nx ?_
  have K := B.kp.tk X
  refine Y.turn K (.inl ⟨nofun, nofun, rfl, rfl⟩) (.inl ⟨nofun, nofun⟩) (.inl ⟨nofun, rfl⟩) (.inl ⟨nofun, fun _ => nofun, fun _ => nofun, rfl⟩) (.inr ⟨o', xs', upd_self, ?_⟩) (.inl ⟨nofun, fun _ => nofun, rfl⟩)
  have e : ss.length = (a.sts a.here).length := by rw [k5.length]; unfold SA.sts; rw [List.getElem?_eq_getElem hh]; rfl
  unfold SA.note
  rw [← e]
  exact p3.tk (Tk.put_at (Le.put e1 _ _ _ (X.at_ _ _ _ p1)) (X.no _ _ _ p1))
end
section
variable {a : SA} {N M : Nat}
theorem SA.Small.le (s : a.Small N) (h : N ≤ M) : a.Small M := ⟨Nat.le_trans s.k h, fun b hb => Nat.le_trans (s.s b hb) h, Nat.le_trans s.p h, Nat.le_trans s.l h, Nat.le_trans s.f h, fun f hf => Nat.le_trans (s.i f hf) h⟩
theorem SA.Small.note (s : a.Small N) : a.note.Small (N + 1) := ⟨Nat.le_succ_of_le s.k, fun b hb => Nat.le_succ_of_le (s.s b hb), Nat.succ_le_succ s.p, Nat.le_succ_of_le s.l, Nat.le_succ_of_le s.f, fun f hf => Nat.le_succ_of_le (s.i f hf)⟩
theorem mem_modify {α : Type} {xs : List α} {i : Nat} {f : α → α} {y : α} (h : y ∈ xs.modify i f) : y ∈ xs ∨ ∃ x ∈ xs, y = f x := by
  refine hide fun CCC kkk => ?_
  obtain ⟨j, hj⟩ := List.mem_iff_getElem?.mp h
  refine kkk ?_; clear kkk
  rw [List.getElem?_modify] at hj
  cases p : xs[j]? with
  | none => rw [p] at hj; simp at hj
  | some x =>
    rw [p] at hj
    have hx := List.mem_of_getElem? p
    by_cases q : i = j
    · simp [q] at hj; exact .inr ⟨x, hx, hj.symm⟩
    · simp [q] at hj; subst hj; exact .inl hx
theorem SA.Small.put (s : a.Small N) (x : St) : (a.put x).Small (N + 1) := by
  refine ⟨?_, fun b hb => ?_, s.note.p, s.note.l, s.note.f, s.note.i⟩
  · show (a.note.blocks.modify _ _).length ≤ _
    rw [List.length_modify]; exact s.note.k
  · rcases mem_modify hb with hb | ⟨z, hz, rfl⟩
    · exact s.note.s b hb
    · show (z.1 ++ [x]).length ≤ _
      rw [List.length_append]; exact Nat.succ_le_succ (s.s z hz)
theorem SA.Small.close (s : a.Small N) (x : Tm) : (a.close x).Small (N + 1) := by
  refine ⟨?_, fun b hb => ?_, s.note.p, s.note.l, s.note.f, s.note.i⟩
  · show (a.note.blocks.modify _ _).length ≤ _
    rw [List.length_modify]; exact s.note.k
  · rcases mem_modify hb with hb | ⟨z, hz, rfl⟩
    · exact s.note.s b hb
    · exact Nat.le_succ_of_le (s.s z hz)
noncomputable def SA.nblock (a : SA) : SA := { a with blocks := a.blocks ++ [([], .none)] }
theorem SA.Small.nblock (s : a.Small N) : a.nblock.Small (N + 1) := by
  refine ⟨?_, fun b hb => ?_, Nat.le_succ_of_le s.p, Nat.le_succ_of_le s.l, Nat.le_succ_of_le s.f, fun f hf => Nat.le_succ_of_le (s.i f hf)⟩
  · show (a.blocks ++ [_]).length ≤ _
    rw [List.length_append]; exact Nat.succ_le_succ s.k
  · rcases List.mem_append.mp hb with hb | hb
    · exact Nat.le_succ_of_le (s.s b hb)
    · cases List.mem_singleton.mp hb; exact Nat.zero_le _
theorem put_blocks (x : St) : (a.put x).blocks.length = a.blocks.length := List.length_modify ..
theorem close_blocks (x : Tm) : (a.close x).blocks.length = a.blocks.length := List.length_modify ..
theorem nblock_blocks : a.nblock.blocks.length = a.blocks.length + 1 := by show (a.blocks ++ [_]).length = _; rw [List.length_append]; rfl
end
section
variable {prog : Program} {w : World} {A : Around} {E : Value → Shared → Prop} {σ : Mp} {H : Hp} {h : Heap} {g : Array GenState} {d : Drawn} {t : Nat} {os : OsState} {Q : Value → Shared → Prop} {k : Nat} {c : Cs} {a : SA}
theorem put_spec {v : Value} {x : St} (O : Ok w σ h) (R : Room 4 A) (X : HpIn σ H) (Y : Sc σ H c a) (hs : a.Small 700000) (hh : a.here < a.blocks.length) (hv : StIs σ v x)
    (q : ∀ h' t' σ' H', Nx w mdB σ h H σ' h' H' → Sc σ' H' c (a.put x) → Q .none ⟨h', g, d, t', os⟩) :
    wpAny (model prog w) A (call (.ref 234) [.ref c.S, v]) Q E ⟨h, g, d, t, os⟩ := by
  refine' enter (binds := [("self", .ref c.S), ("statement", v)]) O R ?a1 ?a2 ?a3 ?a4 ?a5 ?_ ?a6 ?a7 ?a8
  walk_at "ent"
  intro L h₁ F
  have B := Bd.start (md := mdB) F X
  refine hide fun CCC kkk => ?_
  obtain ⟨t1, t2, IS⟩ := Y.objS X
  refine kkk ?_; clear kkk
  repeat walk_at "t"
  refine note_spec B.fm.ok (R.deeper.le (by decide)) X Y (hs.le (by decide)) hh fun h2 t3 σ2 H2 N Y2 => ?_
  have hv2 := hv.tk (N.kp.tk X)
  replace B := B.call N (fun _ e => e)
  refine hide fun CCC kkk => ?_
  obtain ⟨t1, t2, IS⟩ := Y2.objS B.hp
  refine kkk ?_; clear kkk
  have IB := Y2.objB B.hp
  refine hide fun CCC kkk => ?_
  obtain ⟨n, vs, b, s, n1, n2, tv, ss, k1, k2, k3, k4, k5, k6⟩ := Y2.block B.hp (List.getElem?_eq_getElem hh)
  refine kkk ?_; clear kkk
  have hb : (a.note.blocks[a.here]'hh).1.length ≤ 700000 := hs.s _ (List.getElem_mem hh)
  have hb2 : a.note.here ≤ 1000000 := by have := hs.k; show a.here ≤ _; lia
  repeat walk_at "t"
  refine bstm_spec B.fm.ok (R.deeper.le (by decide)) IB ⟨n, B.hp.at_ _ _ _ k1⟩ k2 hb2 ⟨n1, B.hp.at_ _ _ _ k3⟩ fun h2 t2 P => ?_
  replace B := B.pure P
  refine methA B.fm ⟨n2, B.hp.at_ _ _ _ k4⟩ ?_
  dsimp only
  repeat walk_at "t"
  refine appendK (kd := .st a.here) B k4 ?b1 rfl fun h3 n' B => ?_
  case b1 => rw [k5.length]; exact Nat.le_trans hb (by decide)
  repeat walk_at "t"
  exact q _ _ _ _ B.nx (Y2.stAdd N.hp k4 hv2)
theorem close_spec {v : Value} {x : Tm} (O : Ok w σ h) (R : Room 4 A) (X : HpIn σ H) (Y : Sc σ H c a) (hs : a.Small 700000) (hh : a.here < a.blocks.length) (hv : TmIs σ v x)
    (q : ∀ h' t' σ' H', Nx w mdB σ h H σ' h' H' → Sc σ' H' c (a.close x) → Q .none ⟨h', g, d, t', os⟩) :
    wpAny (model prog w) A (call (.ref 241) [.ref c.S, v]) Q E ⟨h, g, d, t, os⟩ := by
  refine' enter (binds := [("self", .ref c.S), ("terminator", v)]) O R ?a1 ?a2 ?a3 ?a4 ?a5 ?_ ?a6 ?a7 ?a8
  walk_at "ent"
  intro L h₁ F
  have B := Bd.start (md := mdB) F X
  refine hide fun CCC kkk => ?_
  obtain ⟨t1, t2, IS⟩ := Y.objS X
  refine kkk ?_; clear kkk
  repeat walk_at "t"
  refine note_spec B.fm.ok (R.deeper.le (by decide)) X Y (hs.le (by decide)) hh fun h2 t3 σ2 H2 N Y2 => ?_
  have hv2 := hv.tk (N.kp.tk X)
  replace B := B.call N (fun _ e => e)
  refine hide fun CCC kkk => ?_
  obtain ⟨t1, t2, IS⟩ := Y2.objS B.hp
  refine kkk ?_; clear kkk
  have IB := Y2.objB B.hp
  refine hide fun CCC kkk => ?_
  obtain ⟨n, vs, b, s, n1, n2, tv, ss, k1, k2, k3, k4, k5, k6⟩ := Y2.block B.hp (List.getElem?_eq_getElem hh)
  refine kkk ?_; clear kkk
  have hb2 : a.note.here ≤ 1000000 := by have := hs.k; show a.here ≤ _; lia
  repeat walk_at "t"
  refine itemLF B.fm ⟨n, B.hp.at_ _ _ _ k1⟩ k2 hb2 ?_
  repeat walk_at "t"
  refine setLK (i := 1) (kd := .b a.here) B k3 (Nat.lt_succ_self 1) (by decide) rfl fun h3 n' B => ?_
  repeat walk_at "t"
  exact q _ _ _ _ B.nx (Y2.tmSet N.hp k3 hv2)
theorem new_block_spec (O : Ok w σ h) (R : Room 2 A) (X : HpIn σ H) (Y : Sc σ H c a) (hs : a.Small 800000)
    (q : ∀ h' t' σ' H' tk, Nx w mdB σ h H σ' h' H' → Sc σ' H' c a.nblock → Q (.int a.blocks.length tk) ⟨h', g, d, t', os⟩) :
    wpAny (model prog w) A (call (.ref 220) [.ref c.S]) Q E ⟨h, g, d, t, os⟩ := by
  refine' enter (binds := [("self", .ref c.S)]) O R ?a1 ?a2 ?a3 ?a4 ?a5 ?_ ?a6 ?a7 ?a8
  walk_at "ent"
  intro L h₁ F
  have B := Bd.start (md := mdB) F X
  refine hide fun CCC kkk => ?_
  obtain ⟨t1, t2, IS⟩ := Y.objS X
  refine kkk ?_; clear kkk
  have IB := Y.objB X
  refine hide fun CCC kkk => ?_
  obtain ⟨n, vs, k1, k2, k3⟩ := Y.k
  refine kkk ?_; clear kkk
  have hk := hs.k
  repeat walk_at "t"
  refine methA B.fm ⟨n, B.hp.at_ _ _ _ k1⟩ ?_
  dsimp only
  repeat walk_at "t"
  refine newListK (.st a.blocks.length) B (by decide) rfl fun p h2 e1 e2 B => ?_
  have Y1 := Y.stNew (o := lisO [] 0) e1 rfl
  repeat walk_at "t"
  refine newListK (.b a.blocks.length) B (by show 2 ≤ 1000000; decide) rfl fun p2 h3 e3 e4 B => ?_
  have Y2 := Y1.bNew (o := lisO [.ref p, .none] 0) e3 rfl
  have X2 := B.hp
  repeat walk_at "t"
  have k1' := k1
  refine appendK (kd := .blk) B (Eq.trans (upd_ne nofun) (Eq.trans (upd_ne nofun) k1)) (by lia) rfl fun h4 n' B => ?_
  have Y3 := Y2.blkAdd (n2 := n') (v := .ref p2) (y := ([], .none)) X2 (Eq.trans (upd_ne nofun) (Eq.trans (upd_ne nofun) k1)) ⟨p2, p, 0, 0, .none, [], rfl, upd_self, Eq.trans (upd_ne nofun) upd_self, .nil, rfl⟩
  refine hide fun CCC kkk => ?_
  obtain ⟨t1, t2, IS⟩ := Y3.objS B.hp
  refine kkk ?_; clear kkk
  have IB := Y3.objB B.hp
  repeat walk_at "t"
  refine lenF B.fm ⟨n', put_self⟩ (by rw [List.length_append, k2]; simp; lia) fun tk t3 => ?_
  repeat walk_at "t"
  have e : ((vs ++ [Value.ref p2]).length : Int) - 1 = a.blocks.length := by rw [List.length_append, k2]; simp
  rw [e]
  repeat walk_at "t"
  exact q _ _ _ _ _ B.nx Y3
end
noncomputable def SA.fend (a : SA) (x : Tm) : SA := { (a.close x).nblock with here := a.blocks.length }
noncomputable def SA.go (a : SA) (b : Nat) : SA := { a.close (.goto b) with here := b }
noncomputable def SA.push (a : SA) : SA := { a with frames := a.frames ++ [[]] }
noncomputable def SA.hold (a : SA) (l : Nat) (b : Bool) : SA := { a with frames := a.frames.modify (a.frames.length - 1) fun z => z ++ [(l, b)] }
noncomputable def SA.declare (a : SA) (l : Nat) : SA := (a.put (.live l)).hold l true
noncomputable def SA.nlocal (a : SA) (u : Value) : SA := { a with tvs := a.tvs ++ [u] }
section
variable {prog : Program} {w : World} {A : Around} {E : Value → Shared → Prop} {σ : Mp} {H : Hp} {h : Heap} {g : Array GenState} {d : Drawn} {t : Nat} {os : OsState} {Q : Value → Shared → Prop} {k : Nat} {c : Cs} {a : SA}
theorem end_spec {v : Value} {x : Tm} (O : Ok w σ h) (R : Room 5 A) (X : HpIn σ H) (Y : Sc σ H c a) (hs : a.Small 700000) (hh : a.here < a.blocks.length) (hv : TmIs σ v x)
    (q : ∀ h' t' σ' H', Nx w mdB σ h H σ' h' H' → Sc σ' H' c (a.fend x) → Q .none ⟨h', g, d, t', os⟩) :
    wpAny (model prog w) A (call (.ref 248) [.ref c.S, v]) Q E ⟨h, g, d, t, os⟩ := by
  refine' enter (binds := [("self", .ref c.S), ("terminator", v)]) O R ?a1 ?a2 ?a3 ?a4 ?a5 ?_ ?a6 ?a7 ?a8
  walk_at "ent"
  intro L h₁ F
  have B := Bd.start (md := mdB) F X
  refine hide fun CCC kkk => ?_
  obtain ⟨t1, t2, IS⟩ := Y.objS X
  refine kkk ?_; clear kkk
  repeat walk_at "t"
  refine close_spec B.fm.ok (R.deeper.le (by decide)) X Y hs hh hv fun h2 t3 σ2 H2 N Y2 => ?_
  replace B := B.call N (fun _ e => e)
  refine hide fun CCC kkk => ?_
  obtain ⟨t1, t2, IS⟩ := Y2.objS B.hp
  refine kkk ?_; clear kkk
  repeat walk_at "t"
  refine new_block_spec B.fm.ok (R.deeper.le (by decide)) B.hp Y2 ((hs.close x).le (by decide)) fun h3 t4 σ3 H3 tk N2 Y3 => ?_
  replace B := B.call N2 (fun _ e => e)
  repeat walk_at "t"
  refine saHere B Y3 rfl fun h4 t5 σ4 H4 B Y4 _ _ => ?_
  repeat walk_at "t"
  refine q _ _ _ _ B.nx ?_
  rw [close_blocks] at Y4
  exact Y4
theorem go_spec {b : Nat} {u : Tok} (O : Ok w σ h) (R : Room 5 A) (X : HpIn σ H) (Y : Sc σ H c a) (hs : a.Small 700000) (hh : a.here < a.blocks.length)
    (q : ∀ h' t' σ' H', Nx w mdB σ h H σ' h' H' → Sc σ' H' c (a.go b) → Q .none ⟨h', g, d, t', os⟩) :
    wpAny (model prog w) A (call (.ref 255) [.ref c.S, .int b u]) Q E ⟨h, g, d, t, os⟩ := by
  refine' enter (binds := [("self", .ref c.S), ("block", .int b u)]) O R ?a1 ?a2 ?a3 ?a4 ?a5 ?_ ?a6 ?a7 ?a8
  walk_at "ent"
  intro L h₁ F
  have B := Bd.start (md := mdB) F X
  refine hide fun CCC kkk => ?_
  obtain ⟨t1, t2, IS⟩ := Y.objS X
  refine kkk ?_; clear kkk
  repeat walk_at "t"
  refine newTupleB B (by exact Nat.le_of_ble_eq_true rfl) fun ka h3 e1 e2 B => ?_
  repeat walk_at "t"
  refine close_spec (x := .goto b) B.fm.ok (R.deeper.le (by decide)) B.hp (Y.mono (Le.put e1 _).tk fun _ _ => rfl) hs hh ⟨ka, _, _, rfl, put_self⟩ fun h2 t3 σ2 H2 N Y2 => ?_
  replace B := B.call N (fun _ e => e)
  repeat walk_at "t"
  refine saHere B Y2 rfl fun h4 t5 σ4 H4 B Y4 _ _ => ?_
  repeat walk_at "t"
  exact q _ _ _ _ B.nx Y4
theorem push_spec (O : Ok w σ h) (R : Room 2 A) (X : HpIn σ H) (Y : Sc σ H c a) (hs : a.Small 800000)
    (q : ∀ h' t' σ' H' tk, Nx w mdS σ h H σ' h' H' → Sc σ' H' c a.push → Q (.int a.frames.length tk) ⟨h', g, d, t', os⟩) :
    wpAny (model prog w) A (call (.ref 262) [.ref c.S]) Q E ⟨h, g, d, t, os⟩ := by
  refine' enter (binds := [("self", .ref c.S)]) O R ?a1 ?a2 ?a3 ?a4 ?a5 ?_ ?a6 ?a7 ?a8
  walk_at "ent"
  intro L h₁ F
  have B := Bd.start (md := mdS) F X
  refine hide fun CCC kkk => ?_
  obtain ⟨t1, t2, IS⟩ := Y.objS X
  refine kkk ?_; clear kkk
  refine hide fun CCC kkk => ?_
  obtain ⟨n, vs, k1, k2, k3⟩ := Y.f
  refine kkk ?_; clear kkk
  have hk := hs.f
  repeat walk_at "t"
  refine methA B.fm ⟨n, B.hp.at_ _ _ _ k1⟩ ?_
  dsimp only
  repeat walk_at "t"
  refine newListK (.fr a.frames.length) B (by decide) rfl fun p h2 e1 e2 B => ?_
  have Y1 := Y.frNew (o := lisO [] 0) e1 rfl
  have X1 := B.hp
  repeat walk_at "t"
  refine appendK (kd := .frs) B (Eq.trans (upd_ne nofun) k1) (by lia) rfl fun h4 n' B => ?_
  have Y3 := Y1.frsAdd (n2 := n') (v := .ref p) (y := []) X1 (Eq.trans (upd_ne nofun) k1) ⟨p, 0, [], rfl, upd_self, .nil⟩
  refine hide fun CCC kkk => ?_
  obtain ⟨t1, t2, IS⟩ := Y3.objS B.hp
  refine kkk ?_; clear kkk
  repeat walk_at "t"
  refine lenF B.fm ⟨n', put_self⟩ (by rw [List.length_append, k2]; simp; lia) fun tk t3 => ?_
  repeat walk_at "t"
  have e : ((vs ++ [Value.ref p]).length : Int) - 1 = a.frames.length := by rw [List.length_append, k2]; simp
  rw [e]
  repeat walk_at "t"
  exact q _ _ _ _ _ B.nx Y3
theorem Sc.lastF (Y : Sc σ H c a) {fs : List (List (Nat × Bool))} {f : List (Nat × Bool)} (e : a.frames = fs ++ [f]) : ∃ n vs p n1 us, H .frs = some (c.frs, lisO (vs ++ [.ref p]) n) ∧ vs.length = fs.length ∧
    H (.fr fs.length) = some (p, lisO us n1) ∧ All2 (FiIs σ) us f := by
  refine hide fun CCC kkk => ?_
  obtain ⟨n, vs, k1, k2, k3⟩ := Y.f
  refine kkk ?_; clear kkk
  rw [e] at k2 k3
  have hne : vs ≠ [] := by rintro rfl; simp at k2
  obtain ⟨us, u, rfl⟩ : ∃ us u, vs = us ++ [u] := ⟨_, _, (List.dropLast_concat_getLast hne).symm⟩
  have hl : us.length = fs.length := by simpa using k2
  obtain ⟨p, n1, xs, rfl, r, s⟩ := k3 fs.length u f (by rw [← hl]; simp) (by simp)
  exact ⟨n, us, p, n1, xs, k1, hl, r, s⟩
theorem hold_spec {l : Nat} {u : Tok} (O : Ok w σ h) (R : Room 2 A) (X : HpIn σ H) (Y : Sc σ H c a) (hs : a.Small 800000) (hf : a.frames ≠ [])
    (q : ∀ h' t' σ' H', Nx w mdS σ h H σ' h' H' → Sc σ' H' c (a.hold l false) → Q .none ⟨h', g, d, t', os⟩) :
    wpAny (model prog w) A (call (.ref 276) [.ref c.S, .int l u]) Q E ⟨h, g, d, t, os⟩ := by
  refine' enter (binds := [("self", .ref c.S), ("local", .int l u)]) O R ?a1 ?a2 ?a3 ?a4 ?a5 ?_ ?a6 ?a7 ?a8
  walk_at "ent"
  intro L h₁ F
  have B := Bd.start (md := mdS) F X
  refine hide fun CCC kkk => ?_
  obtain ⟨t1, t2, IS⟩ := Y.objS X
  refine kkk ?_; clear kkk
  have ef : a.frames = a.frames.dropLast ++ [a.frames.getLast hf] := (List.dropLast_concat_getLast hf).symm
  refine hide fun CCC kkk => ?_
  obtain ⟨n, vs, p, n1, us, k1, k2, k3, k4⟩ := Y.lastF ef
  refine kkk ?_; clear kkk
  have hk := hs.f
  have hi := hs.i _ (List.getLast_mem hf)
  have hl : a.frames.dropLast.length = a.frames.length - 1 := by simp
  repeat walk_at "t"
  refine itemLastF B.fm ⟨n, B.hp.at_ _ _ _ k1⟩ (by rw [k2, hl]; lia) ?_
  refine methA B.fm ⟨n1, B.hp.at_ _ _ _ k3⟩ ?_
  dsimp only
  repeat walk_at "t"
  refine newTupleB B (by exact Nat.le_of_ble_eq_true rfl) fun ka h3 e1 e2 B => ?_
  repeat walk_at "t"
  refine appendK (kd := .fr a.frames.dropLast.length) B k3 (by rw [k4.length]; lia) rfl fun h4 n' B => ?_
  repeat walk_at "t"
  refine q _ _ _ _ B.nx ?_
  have Y2 := (Y.mono (Le.put e1 (tupO [.int l u, .bool false])).tk (fun _ _ => rfl)).frAdd (n2 := n') (y := (l, false)) (X.le (Le.put e1 _)) k3 ⟨ka, u, rfl, put_self⟩
  rw [hl] at Y2
  rw [hl]
  exact Y2
theorem btype2_spec {l : Nat} {u : Tok} {v : Value} (O : Ok w σ h) (R : Room 2 A) (X : HpIn σ H) (Y : Sc σ H c a) (hs : a.Small 800000) (hv : a.tvs[l]? = some v)
    (q : ∀ h' t', Pu w σ h σ h' → Q v ⟨h', g, d, t', os⟩) :
    wpAny (model prog w) A (call (.ref 213) [.ref c.S, .int l u]) Q E ⟨h, g, d, t, os⟩ := by
  refine' enter (binds := [("self", .ref c.S), ("local", .int l u)]) O R ?a1 ?a2 ?a3 ?a4 ?a5 ?_ ?a6 ?a7 ?a8
  walk_at "ent"
  intro L h₁ F
  have B := Bd.start (md := fun _ => false) F (H0.in σ)
  refine hide fun CCC kkk => ?_
  obtain ⟨t1, t2, IS⟩ := Y.objS X
  refine kkk ?_; clear kkk
  have IB := Y.objB X
  refine hide fun CCC kkk => ?_
  obtain ⟨n, vs, k1, k2⟩ := Y.l
  refine kkk ?_; clear kkk
  refine hide fun CCC kkk => ?_
  obtain ⟨z, hz, ar, b, nm, rfl, e2⟩ := k2.get hv
  refine kkk ?_; clear kkk
  repeat walk_at "t"
  refine btype_spec B.fm.ok (R.deeper.le (by decide)) IB ⟨n, X.at_ _ _ _ k1⟩ hz ?b1 e2 fun h2 t2 P => ?_
  case b1 =>
    have h1 := hs.l
    have h2 := (List.getElem?_eq_some_iff.mp hv).1
    lia
  repeat walk_at "t"
  exact q _ _ (B.pure P).pu
theorem bnlocal_spec {v : Value} (O : Ok w σ h) (R : Room 2 A) (X : HpIn σ H) (Y : Sc σ H c a) (hs : a.Small 800000)
    (q : ∀ h' t' σ' H' tk, Nx w mdS σ h H σ' h' H' → Sc σ' H' c (a.nlocal v) → Q (.int a.tvs.length tk) ⟨h', g, d, t', os⟩) :
    wpAny (model prog w) A (call (.ref 79) [.ref c.B, v, .bool true, .none]) Q E ⟨h, g, d, t, os⟩ := by
  refine' enter (binds := [("self", .ref c.B), ("told", v), ("is_mut", .bool true), ("name", .none)]) O R ?a1 ?a2 ?a3 ?a4 ?a5 ?_ ?a6 ?a7 ?a8
  case a1 => rfl
  case a3 => exact binds_K (o := tupO [.bool true, .none]) (Ok.K (by assumption)) rfl (by kernel_rfl) rfl rfl rfl
  walk_at "entd"
  intro L h₁ F
  have B := Bd.start (md := mdS) F X
  have IB := Y.objB X
  refine hide fun CCC kkk => ?_
  obtain ⟨n, vs, k1, k2⟩ := Y.l
  refine kkk ?_; clear kkk
  have hk := hs.l
  have hl := k2.length
  repeat walk_at "t"
  refine methA B.fm ⟨n, B.hp.at_ _ _ _ k1⟩ ?_
  dsimp only
  repeat walk_at "t"
  refine newTupleB B (by exact Nat.le_of_ble_eq_true rfl) fun ka h3 e1 e2 B => ?_
  repeat walk_at "t"
  have X1 := B.hp
  refine appendK (kd := .loc) B k1 (by lia) rfl fun h4 n' B => ?_
  have Y3 := (Y.mono (Le.put e1 (tupO [v, .bool true, .none])).tk (fun _ _ => rfl)).locAdd (n2 := n') (v := .ref ka) (u := v) X1 k1 ⟨ka, _, _, rfl, put_self⟩
  have IB := Y3.objB B.hp
  repeat walk_at "t"
  refine lenF B.fm ⟨n', put_self⟩ (by rw [List.length_append, hl]; simp; lia) fun tk t3 => ?_
  repeat walk_at "t"
  have e : ((vs ++ [Value.ref ka]).length : Int) - 1 = a.tvs.length := by rw [List.length_append, hl]; simp
  rw [e]
  repeat walk_at "t"
  exact q _ _ _ _ _ B.nx Y3
theorem nlocal_spec {v : Value} (O : Ok w σ h) (R : Room 3 A) (X : HpIn σ H) (Y : Sc σ H c a) (hs : a.Small 800000)
    (q : ∀ h' t' σ' H' tk, Nx w mdS σ h H σ' h' H' → Sc σ' H' c (a.nlocal v) → Q (.int a.tvs.length tk) ⟨h', g, d, t', os⟩) :
    wpAny (model prog w) A (call (.ref 206) [.ref c.S, v]) Q E ⟨h, g, d, t, os⟩ := by
  refine' enter (binds := [("self", .ref c.S), ("told", v), ("is_mut", .bool true), ("name", .none)]) O R ?a1 ?a2 ?a3 ?a4 ?a5 ?_ ?a6 ?a7 ?a8
  case a1 => rfl
  case a3 => exact binds_K (o := tupO [.bool true, .none]) (Ok.K (by assumption)) rfl (by kernel_rfl) rfl rfl rfl
  walk_at "entd"
  intro L h₁ F
  have B := Bd.start (md := mdS) F X
  refine hide fun CCC kkk => ?_
  obtain ⟨t1, t2, IS⟩ := Y.objS X
  refine kkk ?_; clear kkk
  have IB := Y.objB X
  repeat walk_at "t"
  refine bnlocal_spec B.fm.ok (R.deeper.le (by decide)) X Y hs fun h2 t3 σ2 H2 tk N Y2 => ?_
  replace B := B.call N (fun _ e => e)
  repeat walk_at "t"
  exact q _ _ _ _ _ B.nx Y2
theorem declare_spec {l : Nat} {u : Tok} (O : Ok w σ h) (R : Room 5 A) (X : HpIn σ H) (Y : Sc σ H c a) (hs : a.Small 700000) (hh : a.here < a.blocks.length) (hf : a.frames ≠ [])
    (q : ∀ h' t' σ' H', Nx w mdS σ h H σ' h' H' → Sc σ' H' c (a.declare l) → Q .none ⟨h', g, d, t', os⟩) :
    wpAny (model prog w) A (call (.ref 269) [.ref c.S, .int l u]) Q E ⟨h, g, d, t, os⟩ := by
  refine' enter (binds := [("self", .ref c.S), ("local", .int l u)]) O R ?a1 ?a2 ?a3 ?a4 ?a5 ?_ ?a6 ?a7 ?a8
  walk_at "ent"
  intro L h₁ F
  have B := Bd.start (md := mdS) F X
  refine hide fun CCC kkk => ?_
  obtain ⟨t1, t2, IS⟩ := Y.objS X
  refine kkk ?_; clear kkk
  repeat walk_at "t"
  refine newTupleB B (by exact Nat.le_of_ble_eq_true rfl) fun ka h3 e1 e2 B => ?_
  repeat walk_at "t"
  refine put_spec (x := .live l) B.fm.ok (R.deeper.le (by decide)) B.hp (Y.mono (Le.put e1 _).tk fun _ _ => rfl) hs hh ⟨ka, _, _, rfl, put_self⟩ fun h2 t3 σ2 H2 N Y2 => ?_
  replace B := B.call N (fun _ e => mdB_S e)
  refine hide fun CCC kkk => ?_
  obtain ⟨t1, t2, IS⟩ := Y2.objS B.hp
  refine kkk ?_; clear kkk
  have ef : (a.put (.live l)).frames = a.frames.dropLast ++ [a.frames.getLast hf] := (List.dropLast_concat_getLast hf).symm
  refine hide fun CCC kkk => ?_
  obtain ⟨n, vs, p, n1, us, k1, k2, k3, k4⟩ := Y2.lastF ef
  refine kkk ?_; clear kkk
  have hk := hs.f
  have hi := hs.i _ (List.getLast_mem hf)
  have hl : a.frames.dropLast.length = a.frames.length - 1 := by simp
  repeat walk_at "t"
  refine itemLastF B.fm ⟨n, B.hp.at_ _ _ _ k1⟩ (by rw [k2, hl]; lia) ?_
  refine methA B.fm ⟨n1, B.hp.at_ _ _ _ k3⟩ ?_
  dsimp only
  repeat walk_at "t"
  have X2 := B.hp
  refine newTupleB B (by exact Nat.le_of_ble_eq_true rfl) fun kb h3 e3 e4 B => ?_
  repeat walk_at "t"
  refine appendK (kd := .fr a.frames.dropLast.length) B k3 (by rw [k4.length]; lia) rfl fun h4 n' B => ?_
  repeat walk_at "t"
  refine q _ _ _ _ B.nx ?_
  have Y3 := (Y2.mono (Le.put e3 (tupO [.int l u, .bool true])).tk (fun _ _ => rfl)).frAdd (n2 := n') (y := (l, true)) (X2.le (Le.put e3 _)) k3 ⟨kb, u, rfl, put_self⟩
  rw [hl] at Y3
  rw [hl]
  exact Y3
end
noncomputable def Ty.hasBox : Ty → Bool
  | .int => false
  | .box _ => true
  | .tup a b => a.hasBox || b.hasBox
  | .arr t _ => t.hasBox
  | .rf _ _ => false
noncomputable def Ty.size : Ty → Nat
  | .int => 1
  | .box t => t.size + 1
  | .tup a b => a.size + b.size + 1
  | .arr t _ => t.size + 1
  | .rf _ t => t.size + 1
section
variable {prog : Program} {w : World} {A : Around} {E : Value → Shared → Prop} {σ : Mp} {h : Heap} {g : Array GenState} {d : Drawn} {t : Nat} {os : OsState} {Q : Value → Shared → Prop} {k : Nat}
theorem parts_tup {a b : Addr} {t1 : Tok} (O : Ok w σ h) (R : Room 1 A) (l : TO σ a [.str "tuple" t1, .ref b])
    (q : ∀ h' t' σ', Pu w σ h σ' h' → Q (.ref b) ⟨h', g, d, t', os⟩) :
    wpAny (model prog w) A (call (.ref 117) [.ref a]) Q E ⟨h, g, d, t, os⟩ := by
  refine' enter (binds := [("told", .ref a)]) O R ?a1 ?a2 ?a3 ?a4 ?a5 ?_ ?a6 ?a7 ?a8
  walk_at "ent"
  intro L h₁ F
  have B := Bd.start (md := fun _ => false) F (H0.in σ)
  repeat walk_at "u"
  refine itemTF (i := 0) B.fm l rfl (by decide) ?_
  repeat walk_at "u"
  rename Bd _ _ _ _ _ _ _ _ _ _ => B
  refine itemTF (i := 1) B.fm l rfl (by decide) ?_
  repeat walk_at "u"
  exact q _ _ _ B.pu
theorem parts_arr {a : Addr} {v z : Value} {t1 : Tok} (O : Ok w σ h) (R : Room 1 A) (l : TO σ a [.str "array" t1, v, z])
    (q : ∀ h' t' σ' r, Pu w σ h σ' h' → TO σ' r [v] → Q (.ref r) ⟨h', g, d, t', os⟩) :
    wpAny (model prog w) A (call (.ref 117) [.ref a]) Q E ⟨h, g, d, t, os⟩ := by
  refine' enter (binds := [("told", .ref a)]) O R ?a1 ?a2 ?a3 ?a4 ?a5 ?_ ?a6 ?a7 ?a8
  walk_at "ent"
  intro L h₁ F
  have B := Bd.start (md := fun _ => false) F (H0.in σ)
  repeat walk_at "u"
  refine itemTF (i := 0) B.fm l rfl (by decide) ?_
  repeat walk_at "u"
  rename Bd _ _ _ _ _ _ _ _ _ _ => B
  refine itemTF (i := 1) B.fm l rfl (by decide) ?_
  repeat walk_at "u"
  refine newTupleB B (by exact Nat.le_of_ble_eq_true rfl) fun ka h3 e1 e2 B => ?_
  repeat walk_at "u"
  exact q _ _ _ _ B.pu put_self
end
noncomputable def mdL : Kd → Bool
  | .il _ | .it _ => true
  | _ => false
theorem sum_snoc {xs : List Ty} {x : Ty} : ((xs ++ [x]).map Ty.size).sum = (xs.map Ty.size).sum + x.size := by simp
theorem len_le_sum : ∀ {xs : List Ty}, xs.length ≤ (xs.map Ty.size).sum
  | [] => Nat.le_refl _
  | x :: xs => by
    have := @len_le_sum xs
    have h : 1 ≤ x.size := by cases x <;> simp [Ty.size]
    simp; lia
theorem snoc_cases {α : Type} : ∀ (xs : List α), xs = [] ∨ ∃ ys y, xs = ys ++ [y]
  | [] => .inl rfl
  | x :: xs => .inr ⟨_, _, (List.dropLast_concat_getLast (List.cons_ne_nil x xs)).symm⟩
section
variable {prog : Program} {w : World} {A : Around} {E : Value → Shared → Prop} {σ : Mp} {h : Heap} {g : Array GenState} {d : Drawn} {t : Nat} {os : OsState} {Q : Value → Shared → Prop} {k : Nat}
theorem needs_spec {v wl : Value} {T : Ty} (O : Ok w σ h) (R : Room 3 A) (hT : TyIs σ v T) (hz : T.size ≤ 1000)
    (q : ∀ h' t' σ', Pu w σ h σ' h' → Q (.bool T.hasBox) ⟨h', g, d, t', os⟩) :
    wpAny (model prog w) A (call (.ref 179) [v, wl]) Q E ⟨h, g, d, t, os⟩ := by
  refine' enter (binds := [("told", v), ("world", wl)]) O R ?a1 ?a2 ?a3 ?a4 ?a5 ?_ ?a6 ?a7 ?a8
  walk_at "ent"
  intro L h₁ F
  have q' : ∀ b h' t' σ', T.hasBox = b → Pu w σ h σ' h' → Q (.bool b) ⟨h', g, d, t', os⟩ := fun b h' t' σ' e p => e ▸ q h' t' σ' p
  have B := Bd.start (md := mdL) F (H0.in σ)
  repeat walk_at "u"
  refine newListB B (by exact Nat.le_of_ble_eq_true rfl) fun sa h2 e1 e2 B => ?_
  repeat walk_at "u"
  rename Bd _ _ _ _ _ _ _ _ _ _ => B
  refine newListK (.il 0) B (by exact Nat.le_of_ble_eq_true rfl) rfl fun D h3 e3 e4 B => ?_
  repeat walk_at "u"
  rename Bd _ _ _ _ _ _ _ _ _ _ => B
  refine whileB (fun n σ' H' m' => ∃ D vs n' ts, H' (.il 0) = some (D, lisO vs n') ∧ All2 (TyIs σ') vs ts ∧ (ts.map Ty.size).sum = n ∧ ts.any Ty.hasBox = T.hasBox ∧ n ≤ 1000 ∧ m' "left" = some (.ref D)) T.size B ?_ ?_
  · exact ⟨D, [v], 0, [T], upd_self, .cons ((hT.tk (Le.put e1 _).tk).tk (Le.put e3 _).tk) .nil, by simp, by simp, hz, rfl⟩
  intro n σ1 H1 h4 m1 t1 QQ fin zzq8 B
  refine hide fun CCC kkk => ?_
  obtain ⟨D, vs, n', ts, p1, p2, p3, p4, p5, p6⟩ := zzq8
  refine kkk ?_; clear kkk
  have sz : vs.length ≤ 1000 := by rw [p2.length]; exact Nat.le_trans len_le_sum (p3 ▸ p5)
  repeat walk_at "u"
  refine newListB B (by exact Nat.le_of_ble_eq_true rfl) fun na h5 e5 e6 B => ?_
  repeat walk_at "u"
  rcases snoc_cases ts with rfl | ⟨ts, T1, rfl⟩
  · cases p2
    refine neNil false B.fm (R.deeper.le (by decide)) ⟨n', B.hp.at_ _ _ _ p1⟩ ⟨_, put_self⟩ rfl ?_
    repeat walk_at "u"
    exact q' _ _ _ _ p4.symm B.pu
  refine hide fun CCC kkk => ?_
  obtain ⟨us, u, rfl, q1, q2⟩ := p2.unsnoc
  refine kkk ?_; clear kkk
  refine neNil true B.fm (R.deeper.le (by decide)) ⟨n', B.hp.at_ _ _ _ p1⟩ ⟨_, put_self⟩ (by simp) ?_
  repeat walk_at "u"
  refine methP B.fm ⟨n', B.hp.at_ _ _ _ p1⟩ ?_
  dsimp only
  repeat walk_at "u"
  have K1 : Tk σ1 (put σ1 na (lisO [] 0)) := (Le.put e5 _).tk
  have K2 : ∀ n2, Tk (put σ1 na (lisO [] 0)) (put (put σ1 na (lisO [] 0)) D (lisO us n2)) := fun n2 => Tk.put_at (B.hp.at_ _ _ _ p1) lisO_no
  have sz2 : us.length + 1 ≤ 1000 := by simpa using sz
  refine popK (kd := .il 0) B p1 (by lia) rfl fun h6 n2 B => ?_
  have q1' := (q1.imp fun _ _ z => z.tk K1).imp fun _ _ z => z.tk (K2 n2)
  have q2' := (q2.tk K1).tk (K2 n2)
  rw [sum_snoc] at p3
  rw [List.any_append] at p4
  clear q1 q2 p2 K1 K2
  repeat walk_at "u"
  rename Bd _ _ _ _ _ _ _ _ _ _ => B
  cases T1 with
  | int =>
    refine hide fun CCC kkk => ?_
    obtain ⟨a, t3, t4, rfl, l⟩ := q2'
    refine kkk ?_; clear kkk
    repeat walk_at "u"
    refine itemTF (i := 0) B.fm l rfl (by decide) ?_
    repeat walk_at "u"
    refine newTupleB B (by exact Nat.le_of_ble_eq_true rfl) fun ka h7 e7 e8 B => ?_
    have K3 := (Le.put e7 (tupO [.str "box" 0, .str "param" 0])).tk
    repeat walk_at "u"
    refine inS false B.fm put_self (.cons _ _ (.cons _ _ .nil)) rfl ?_
    repeat walk_at "u"
    refine itemTF (i := 0) B.fm (Le.put e7 _ _ _ l) rfl (by decide) ?_
    repeat walk_at "u"
    refine newTupleB B (by exact Nat.le_of_ble_eq_true rfl) fun kb h8 e9 e10 B => ?_
    repeat walk_at "u"
    refine inS false B.fm put_self (.cons _ _ (.cons _ _ .nil)) rfl ?_
    repeat walk_at "u"
    refine itemTF (i := 0) B.fm (Le.put e9 _ _ _ (Le.put e7 _ _ _ l)) rfl (by decide) ?_
    repeat walk_at "u"
    refine fin.nx (n' := (ts.map Ty.size).sum) ?_ B ⟨D, us, n2, ts, upd_self, q1'.imp fun _ _ z => (z.tk (Le.put e7 _).tk).tk (Le.put e9 _).tk, rfl, ?_, ?_, p6⟩
    · simp [Ty.size] at p3; lia
    · simpa [Ty.hasBox] using p4
    · simp [Ty.size] at p3; lia
  | box T1 =>
    refine hide fun CCC kkk => ?_
    obtain ⟨a, t3, t4, rfl, l, _⟩ := q2'
    refine kkk ?_; clear kkk
    repeat walk_at "u"
    refine itemTF (i := 0) B.fm l rfl (by decide) ?_
    repeat walk_at "u"
    refine newTupleB B (by exact Nat.le_of_ble_eq_true rfl) fun ka h7 e7 e8 B => ?_
    have K3 := (Le.put e7 (tupO [.str "box" 0, .str "param" 0])).tk
    repeat walk_at "u"
    refine inS true B.fm put_self (.cons _ _ (.cons _ _ .nil)) rfl ?_
    repeat walk_at "u"
    refine fin.rt ?_
    repeat walk_at "u"
    exact q' _ _ _ _ (p4.symm.trans (by simp [Ty.hasBox])) B.pu
  | tup T1 T2 =>
    refine hide fun CCC kkk => ?_
    obtain ⟨a, t3, b, u1, u2, rfl, l, l2, z1, z2⟩ := q2'
    refine kkk ?_; clear kkk
    repeat walk_at "u"
    refine itemTF (i := 0) B.fm l rfl (by decide) ?_
    repeat walk_at "u"
    refine newTupleB B (by exact Nat.le_of_ble_eq_true rfl) fun ka h7 e7 e8 B => ?_
    have K3 := (Le.put e7 (tupO [.str "box" 0, .str "param" 0])).tk
    repeat walk_at "u"
    refine inS false B.fm put_self (.cons _ _ (.cons _ _ .nil)) rfl ?_
    repeat walk_at "u"
    refine itemTF (i := 0) B.fm (Le.put e7 _ _ _ l) rfl (by decide) ?_
    repeat walk_at "u"
    refine newTupleB B (by exact Nat.le_of_ble_eq_true rfl) fun kb h8 e9 e10 B => ?_
    repeat walk_at "u"
    refine inS true B.fm put_self (.cons _ _ (.cons _ _ .nil)) rfl ?_
    repeat walk_at "u"
    refine methE B.fm ⟨n2, B.hp.at_ _ _ _ upd_self⟩ ?_
    dsimp only
    repeat walk_at "u"
    refine parts_tup B.fm.ok (R.deeper.le (by decide)) (Le.put e9 _ _ _ (Le.put e7 _ _ _ l)) fun h9 t9 σ9 P => ?_
    replace B := B.pure P
    have K4 : Tk _ σ9 := (((Le.put e7 _).trans (Le.put e9 _)).trans P.le).tk
    repeat walk_at "u"
    refine extendTK (kd := .il 0) B upd_self (K4 _ _ l2) (by simp; lia) rfl fun h10 n4 B => ?_
    have K5 := K4.trans (Tk.put_at (o' := lisO (us ++ [u1, u2]) n4) ((P.le _ _ (Le.put e9 _ _ _ (Le.put e7 _ _ _ put_self)))) lisO_no)
    repeat walk_at "u"
    refine fin.nx (n' := (ts.map Ty.size).sum + (T1.size + T2.size)) ?_ B ⟨D, _, n4, ts ++ [T1, T2], upd_self, (q1'.imp fun _ _ z => z.tk K5).append (.cons (z1.tk K5) (.cons (z2.tk K5) .nil)), ?_, ?_, ?_, p6⟩
    · simp [Ty.size] at p3; lia
    · simp
    · rw [← p4]; simp [Ty.hasBox]
    · simp [Ty.size] at p3; lia
  | arr T1 n =>
    refine hide fun CCC kkk => ?_
    obtain ⟨a, t3, u1, t4, rfl, l, z1⟩ := q2'
    refine kkk ?_; clear kkk
    repeat walk_at "u"
    refine itemTF (i := 0) B.fm l rfl (by decide) ?_
    repeat walk_at "u"
    refine newTupleB B (by exact Nat.le_of_ble_eq_true rfl) fun ka h7 e7 e8 B => ?_
    have K3 := (Le.put e7 (tupO [.str "box" 0, .str "param" 0])).tk
    repeat walk_at "u"
    refine inS false B.fm put_self (.cons _ _ (.cons _ _ .nil)) rfl ?_
    repeat walk_at "u"
    refine itemTF (i := 0) B.fm (Le.put e7 _ _ _ l) rfl (by decide) ?_
    repeat walk_at "u"
    refine newTupleB B (by exact Nat.le_of_ble_eq_true rfl) fun kb h8 e9 e10 B => ?_
    repeat walk_at "u"
    refine inS true B.fm put_self (.cons _ _ (.cons _ _ .nil)) rfl ?_
    repeat walk_at "u"
    refine methE B.fm ⟨n2, B.hp.at_ _ _ _ upd_self⟩ ?_
    dsimp only
    repeat walk_at "u"
    refine parts_arr B.fm.ok (R.deeper.le (by decide)) (Le.put e9 _ _ _ (Le.put e7 _ _ _ l)) fun h9 t9 σ9 r P l2 => ?_
    replace B := B.pure P
    have K4 : Tk _ σ9 := (((Le.put e7 _).trans (Le.put e9 _)).trans P.le).tk
    repeat walk_at "u"
    refine extendTK (kd := .il 0) B upd_self l2 (by simp; lia) rfl fun h10 n4 B => ?_
    have K5 := K4.trans (Tk.put_at (o' := lisO (us ++ [u1]) n4) ((P.le _ _ (Le.put e9 _ _ _ (Le.put e7 _ _ _ put_self)))) lisO_no)
    repeat walk_at "u"
    refine fin.nx (n' := (ts.map Ty.size).sum + T1.size) ?_ B ⟨D, _, n4, ts ++ [T1], upd_self, (q1'.imp fun _ _ z => z.tk K5).append (.cons (z1.tk K5) .nil), ?_, ?_, ?_, p6⟩
    · simp [Ty.size] at p3; lia
    · simp
    · rw [← p4]; simp [Ty.hasBox]
    · simp [Ty.size] at p3; lia
  | rf b T1 =>
    refine hide fun CCC kkk => ?_
    obtain ⟨a, t3, u1, rfl, l, z1⟩ := q2'
    refine kkk ?_; clear kkk
    repeat walk_at "u"
    refine itemTF (i := 0) B.fm l rfl (by decide) ?_
    repeat walk_at "u"
    refine newTupleB B (by exact Nat.le_of_ble_eq_true rfl) fun ka h7 e7 e8 B => ?_
    have K3 := (Le.put e7 (tupO [.str "box" 0, .str "param" 0])).tk
    repeat walk_at "u"
    refine inS false B.fm put_self (.cons _ _ (.cons _ _ .nil)) rfl ?_
    repeat walk_at "u"
    refine itemTF (i := 0) B.fm (Le.put e7 _ _ _ l) rfl (by decide) ?_
    repeat walk_at "u"
    refine newTupleB B (by exact Nat.le_of_ble_eq_true rfl) fun kb h8 e9 e10 B => ?_
    repeat walk_at "u"
    refine inS false B.fm put_self (.cons _ _ (.cons _ _ .nil)) rfl ?_
    repeat walk_at "u"
    refine itemTF (i := 0) B.fm (Le.put e9 _ _ _ (Le.put e7 _ _ _ l)) rfl (by decide) ?_
    repeat walk_at "u"
    refine fin.nx (n' := (ts.map Ty.size).sum) ?_ B ⟨D, us, n2, ts, upd_self, q1'.imp fun _ _ z => (z.tk (Le.put e7 _).tk).tk (Le.put e9 _).tk, rfl, ?_, ?_, p6⟩
    · simp [Ty.size] at p3; lia
    · simpa [Ty.hasBox] using p4
    · simp [Ty.size] at p3; lia
end
noncomputable def mdF : Kd → Bool
  | .il 0 | .it 0 => true
  | k => mdB k
theorem mdB_F {k : Kd} (h : mdF k = false) : mdB k = false := by
  unfold mdF at h; split at h
  · cases h
  · cases h
  · exact h
noncomputable def SA.drop (a : SA) (l : Nat) : SA := { a.nblock.close (.drop l a.blocks.length) with here := a.blocks.length }
noncomputable def SA.fin1 (tb : Nat → Bool) (a : SA) (x : Nat × Bool) : SA :=
  let a1 := if tb x.1 then a.drop x.1 else a
  if x.2 then a1.put (.dead x.1) else a1
noncomputable def SA.fin (tb : Nat → Bool) (a : SA) (f : List (Nat × Bool)) : SA := f.reverse.foldl (SA.fin1 tb) a
noncomputable def tbOf (Ts : List Ty) (l : Nat) : Bool := (Ts[l]?.map Ty.hasBox).getD false
theorem SA.drop_here {a : SA} {l : Nat} : (a.drop l).here < (a.drop l).blocks.length := by
  show a.blocks.length < (a.nblock.close _).blocks.length
  rw [close_blocks, nblock_blocks]; exact Nat.lt_succ_self _
theorem SA.Small.drop {a : SA} {N l : Nat} (s : a.Small N) : (a.drop l).Small (N + 2) :=
  let z := s.nblock.close (.drop l a.blocks.length)
  ⟨z.k, z.s, z.p, z.l, z.f, z.i⟩
structure SA.Good (a : SA) (tvs : List Value) (fs : List (List (Nat × Bool))) (N : Nat) : Prop where
  sm : a.Small N
  hh : a.here < a.blocks.length
  tv : a.tvs = tvs
  fr : a.frames = fs
theorem SA.Good.fin1 {a : SA} {tvs : List Value} {fs : List (List (Nat × Bool))} {N : Nat} {tb : Nat → Bool} {x : Nat × Bool} (G : a.Good tvs fs N) : (a.fin1 tb x).Good tvs fs (N + 3) := by
  have G1 : (if tb x.1 then a.drop x.1 else a).Good tvs fs (N + 2) := by
    split
    · exact ⟨G.sm.drop, SA.drop_here, G.tv, G.fr⟩
    · exact ⟨G.sm.le (Nat.le_add_right _ _), G.hh, G.tv, G.fr⟩
  unfold SA.fin1
  dsimp only
  generalize (if tb x.1 then a.drop x.1 else a) = b at G1 ⊢
  split
  · exact ⟨G1.sm.put _, by rw [put_blocks]; exact G1.hh, G1.tv, G1.fr⟩
  · exact ⟨G1.sm.le (Nat.le_succ _), G1.hh, G1.tv, G1.fr⟩
section
variable {prog : Program} {w : World} {A : Around} {E : Value → Shared → Prop} {σ : Mp} {H : Hp} {h : Heap} {g : Array GenState} {d : Drawn} {t : Nat} {os : OsState} {Q : Value → Shared → Prop} {k : Nat} {c : Cs} {a : SA}
theorem finish_spec {p : Addr} {vs : List Value} {f : List (Nat × Bool)} {Ts : List Ty} {fi n0 : Nat} {tvs : List Value} {fs : List (List (Nat × Bool))} {N : Nat}
    (O : Ok w σ h) (R : Room 6 A) (X : HpIn σ H) (Y : Sc σ H c a) (G : a.Good tvs fs N) (hN : N + 3 * f.length ≤ 600000) (hf0 : f.length ≤ 100000)
    (hT : All2 (TyIs σ) tvs Ts) (hz : ∀ T ∈ Ts, T.size ≤ 1000) (hp : H (.fr fi) = some (p, lisO vs n0)) (hf : All2 (FiIs σ) vs f) (hl : ∀ x ∈ f, x.1 < Ts.length)
    (q : ∀ h' t' σ' H', Nx w mdF σ h H σ' h' H' → Sc σ' H' c (a.fin (tbOf Ts) f) → Q .none ⟨h', g, d, t', os⟩) :
    wpAny (model prog w) A (call (.ref 283) [.ref c.S, .ref p]) Q E ⟨h, g, d, t, os⟩ := by
  refine' enter (binds := [("self", .ref c.S), ("frame", .ref p)]) O R ?a1 ?a2 ?a3 ?a4 ?a5 ?_ ?a6 ?a7 ?a8
  walk_at "ent"
  intro L h₁ F
  have B := Bd.start (md := mdF) F X
  refine wpAny_execs_cons ?_
  refine wpAny_For ?_ (fun _ => rfl)
  repeat walk_at "u"
  have sz : vs.length ≤ 100000 := by rw [hf.length]; exact hf0
  refine sliceK (ws := vs.reverse) (.il 0) B ⟨n0, B.hp.at_ _ _ _ hp⟩ .none .none (.int _ _) (by decide) (Nat.le_trans sz (by decide)) rfl (by rw [krv_pick]) (fun D h2 e1 e2 B => ?_) (by with_unfolding_all rfl)
  have Y1 := Y.mono (Le.put e1 (lisO vs.reverse 0)).tk (H' := upd H (.il 0) D (lisO vs.reverse 0)) (fun k hk => upd_ne (by rintro rfl; cases hk))
  have K1 := (Le.put e1 (lisO vs.reverse 0)).tk
  refine loopL (D := D) (vs := vs.reverse) (.it 0) (fun i σ' H' m' => ∃ a', Sc σ' H' c a' ∧ a' = (f.reverse.take i).foldl (SA.fin1 (tbOf Ts)) a ∧ a'.Good tvs fs (N + 3 * i) ∧ H' (.il 0) = some (D, lisO vs.reverse 0) ∧
    All2 (FiIs σ') vs.reverse f.reverse ∧ All2 (TyIs σ') tvs Ts ∧ m' "self" = some (.ref c.S)) B rfl R.2.2 tgtT ?_ ?_ ?_ ?_ ?_
  · intro i σ H m σ' H' X _ kp oth zzq10
    refine hide fun CCC kkk => ?_
    obtain ⟨a', z1, z2, z3, z4, z6, z7, z8⟩ := zzq10
    refine kkk ?_; clear kkk
    have tk := kp.tk X
    exact ⟨a', z1.mono tk fun k hk => oth k (decide_eq_false (by rintro rfl; cases hk)), z2, z3, Eq.trans (oth _ rfl) z4, z6.imp fun _ _ z => z.tk tk, z7.imp fun _ _ z => z.tk tk, z8⟩
  · rintro i σ H m X ⟨a', z1, z2, z3, z4, z6, z7, z8⟩; exact ⟨_, X.at_ _ _ _ z4⟩
  · exact ⟨a, Y1, by simp, G, upd_self, (hf.imp fun _ _ z => z.tk K1).reverse, hT.imp fun _ _ z => z.tk K1, rfl⟩
  · intro i v σ1 H1 h3 m1 t3 QQ fin hv zzq10 B
    refine hide fun CCC kkk => ?_
    obtain ⟨a', z1, z2, z3, z4, z6, z7, z8⟩ := zzq10
    refine kkk ?_; clear kkk
    have hi := (List.getElem?_eq_some_iff.mp hv).1
    rw [List.length_reverse, hf.length] at hi
    refine hide fun CCC kkk => ?_
    obtain ⟨⟨xl, xb⟩, hx, ka, tk, rfl, l⟩ := z6.getV hv
    refine kkk ?_; clear kkk
    have hm : (xl, xb) ∈ f := List.mem_reverse.mp (List.mem_of_getElem? hx)
    have hxl := hl _ hm
    refine hide fun CCC kkk => ?_
    obtain ⟨tv, e3, e4⟩ := z7.get (List.getElem?_eq_getElem hxl)
    refine kkk ?_; clear kkk
    have tbe : tbOf Ts xl = Ts[xl].hasBox := by unfold tbOf; rw [List.getElem?_eq_getElem hxl]; rfl
    have tke : (f.reverse.take (i + 1)).foldl (SA.fin1 (tbOf Ts)) a = SA.fin1 (tbOf Ts) a' (xl, xb) := by
      rw [List.take_add_one, hx, List.foldl_append, ← z2]; rfl
    have GF := z3.fin1 (tb := tbOf Ts) (x := (xl, xb))
    rw [← tke, Nat.add_assoc] at GF
    refine asg2 B.fm l R.2.2 (fun h4 F => ?_) rfl rfl rfl rfl
    replace B := B.with F
    refine hide fun CCC kkk => ?_
    obtain ⟨u1, u2, IS⟩ := z1.objS B.hp
    refine kkk ?_; clear kkk
    repeat walk_at "u"
    refine btype2_spec B.fm.ok (R.deeper.le (by decide)) B.hp z1 (z3.sm.le (by lia)) (by rw [z3.tv]; exact e3) fun h5 t5 P5 => ?_
    replace B := B.pure P5
    repeat walk_at "u"
    refine needs_spec B.fm.ok (R.deeper.le (by decide)) e4 (hz _ (List.getElem_mem _)) fun h6 t6 σ2 P6 => ?_
    replace B := B.pure P6
    have y1 := z1.mono P6.le.tk (fun _ _ => rfl)
    have y6 := z6.imp fun _ _ z => z.tk P6.le.tk
    have y7 := z7.imp fun _ _ z => z.tk P6.le.tk
    rw [← tbe]
    refine hide fun CCC kkk => ?_
    obtain ⟨u1, u2, IS⟩ := y1.objS B.hp
    refine kkk ?_; clear kkk
    cases hb : tbOf Ts xl with
    | false =>
      repeat walk_at "u"
      rename Bd _ _ _ _ _ _ _ _ _ _ => B
      cases xb with
      | false =>
        repeat walk_at "u"
        rename Bd _ _ _ _ _ _ _ _ _ _ => B
        refine fin.nx B ⟨_, ?_, rfl, GF, z4, y6, y7, z8⟩ (rfl)
        rw [tke]; unfold SA.fin1; rw [hb]; exact y1
      | true =>
        repeat walk_at "u"
        rename Bd _ _ _ _ _ _ _ _ _ _ => B
        have X8 := B.hp
        refine newTupleB B (by exact Nat.le_of_ble_eq_true rfl) fun kd h9 e9 e10 B => ?_
        repeat walk_at "u"
        rename Bd _ _ _ _ _ _ _ _ _ _ => B
        refine put_spec (x := .dead xl) B.fm.ok (R.deeper.le (by decide)) B.hp (y1.mono (Le.put e9 _).tk fun _ _ => rfl) (z3.sm.le (by lia)) (z3.hh) ⟨kd, _, _, rfl, put_self⟩ fun h10 t10 σ5 H5 N5 Y5 => ?_
        have T5 := Tk.trans (Le.put e9 _).tk (N5.kp.tk B.hp)
        replace B := B.call N5 (fun _ e => mdB_F e)
        repeat walk_at "u"
        refine fin.nx B ⟨_, ?_, rfl, GF, Eq.trans (N5.ag _ rfl) (z4), (y6).imp fun _ _ z => z.tk T5, (y7).imp fun _ _ z => z.tk T5, z8⟩ (Eq.trans (N5.ag _ rfl) (rfl))
        rw [tke]; unfold SA.fin1; rw [hb]; exact Y5
    | true =>
      repeat walk_at "u"
      rename Bd _ _ _ _ _ _ _ _ _ _ => B
      refine hide fun CCC kkk => ?_
      obtain ⟨u1, u2, IS⟩ := y1.objS B.hp
      refine kkk ?_; clear kkk
      repeat walk_at "u"
      refine new_block_spec B.fm.ok (R.deeper.le (by decide)) B.hp y1 (z3.sm.le (by lia)) fun h7 t7 σ3 H3 tk3 N3 Y3 => ?_
      have T3 := N3.kp.tk B.hp
      replace B := B.call N3 (fun _ e => mdB_F e)
      refine hide fun CCC kkk => ?_
      obtain ⟨u1, u2, IS⟩ := Y3.objS B.hp
      refine kkk ?_; clear kkk
      repeat walk_at "u"
      rename Bd _ _ _ _ _ _ _ _ _ _ => B
      have X3 := B.hp
      refine newTupleB B (by exact Nat.le_of_ble_eq_true rfl) fun ke h9 f1 f2 B => ?_
      repeat walk_at "u"
      refine newTupleB B (by exact Nat.le_of_ble_eq_true rfl) fun kp h9 f3 f4 B => ?_
      repeat walk_at "u"
      refine newTupleB B (by exact Nat.le_of_ble_eq_true rfl) fun kt h9 f5 f6 B => ?_
      repeat walk_at "u"
      refine close_spec (x := .drop xl a'.blocks.length) B.fm.ok (R.deeper.le (by decide)) B.hp (Y3.mono (((Le.put f1 _).trans (Le.put f3 _)).trans (Le.put f5 _)).tk fun _ _ => rfl) (z3.sm.nblock.le (by lia)) (by rw [nblock_blocks]; exact Nat.lt_succ_of_lt z3.hh)
        ⟨kt, _, kp, _, ke, _, rfl, put_self, Le.put f5 _ _ _ put_self, Le.put f5 _ _ _ (Le.put f3 _ _ _ put_self)⟩ fun h10 t10 σ5 H5 N5 Y5 => ?_
      have T4 := Tk.trans (((Le.put f1 _).trans (Le.put f3 _)).trans (Le.put f5 _)).tk (N5.kp.tk B.hp)
      replace B := B.call N5 (fun _ e => mdB_F e)
      refine hide fun CCC kkk => ?_
      obtain ⟨u1, u2, IS⟩ := Y5.objS B.hp
      refine kkk ?_; clear kkk
      repeat walk_at "u"
      refine saHere B Y5 rfl fun h11 t11 σ6 H6 B Y6 T6 A6 => ?_
      have y6' := (y6.imp fun _ _ z => (((z.tk T3).tk T4).tk T6))
      have y7' := (y7.imp fun _ _ z => (((z.tk T3).tk T4).tk T6))
      have AG : H6 (.il 0) = some (D, lisO vs.reverse 0) := Eq.trans (A6 _ nofun) (Eq.trans (N5.ag _ rfl) (Eq.trans (N3.ag _ rfl) z4))
      have AI : H6 (.it 0) = H1 (.it 0) := Eq.trans (A6 _ nofun) (Eq.trans (N5.ag _ rfl) (N3.ag _ rfl))
      refine hide fun CCC kkk => ?_
      obtain ⟨u1, u2, IS⟩ := Y6.objS B.hp
      refine kkk ?_; clear kkk
      have GD : SA.Small _ _ := z3.sm.drop (l := xl)
      cases xb with
      | false =>
        repeat walk_at "u"
        refine fin.nx B ⟨_, ?_, rfl, GF, AG, y6', y7', z8⟩ (AI)
        rw [tke]; unfold SA.fin1; rw [hb]; exact Y6
      | true =>
        repeat walk_at "u"
        refine newTupleB B (by exact Nat.le_of_ble_eq_true rfl) fun kd h9 e9 e10 B => ?_
        repeat walk_at "u"
        refine put_spec (x := .dead xl) B.fm.ok (R.deeper.le (by decide)) B.hp (Y6.mono (Le.put e9 _).tk fun _ _ => rfl) (GD.le (by lia)) SA.drop_here ⟨kd, _, _, rfl, put_self⟩ fun h10 t10 σ8 H8 N8 Y8 => ?_
        have T8 := Tk.trans (Le.put e9 _).tk (N8.kp.tk B.hp)
        replace B := B.call N8 (fun _ e => mdB_F e)
        repeat walk_at "u"
        refine fin.nx B ⟨_, ?_, rfl, GF, Eq.trans (N8.ag _ rfl) AG, y6'.imp fun _ _ z => z.tk T8, y7'.imp fun _ _ z => z.tk T8, z8⟩ (Eq.trans (N8.ag _ rfl) AI)
        rw [tke]; unfold SA.fin1; rw [hb]; exact Y8
  · intro σ1 H1 h3 m1 t3 zzq5 B
    refine hide fun CCC kkk => ?_
    obtain ⟨a', z1, z2, z3, z4, z6, z7, z8⟩ := zzq5
    refine kkk ?_; clear kkk
    repeat walk_at "u"
    refine q _ _ _ _ B.nx ?_
    rw [z2, All2.length (All2.reverse hf)] at z1
    rw [List.take_length] at z1
    exact z1
end
noncomputable def mdA : Kd → Bool
  | .il i | .it i => decide (i < 5)
  | k => mdS k
theorem mdF_A {k : Kd} (h : mdA k = false) : mdF k = false := by
  cases k with
  | il i => cases i with
    | zero => exact absurd h (by decide)
    | succ i => rfl
  | it i => cases i with
    | zero => exact absurd h (by decide)
    | succ i => rfl
  | _ => first | rfl | exact absurd h (by decide) | exact absurd h Bool.noConfusion
theorem mdS_A {k : Kd} (h : mdA k = false) : mdS k = false := by
  cases k <;> first | rfl | exact h
theorem mdB_A {k : Kd} (h : mdA k = false) : mdB k = false := mdB_S (mdS_A h)
theorem All2.of_get {α : Type} {R : Value → α → Prop} : ∀ {vs : List Value} {xs : List α}, vs.length = xs.length → (∀ (i : Nat) v x, vs[i]? = some v → xs[i]? = some x → R v x) → All2 R vs xs
  | [], [], _, _ => .nil
  | [], _ :: _, h, _ => nomatch h
  | _ :: _, [], h, _ => nomatch h
  | v :: vs, x :: xs, h, r => .cons (r 0 v x rfl rfl) (All2.of_get (by simpa using h) fun i v x a b => r (i + 1) v x a b)
theorem SA.Good.fin {tvs : List Value} {fs : List (List (Nat × Bool))} {tb : Nat → Bool} : ∀ {f : List (Nat × Bool)} {a : SA} {N : Nat}, a.Good tvs fs N → (f.foldl (SA.fin1 tb) a).Good tvs fs (N + 3 * f.length)
  | [], _, _, G => G
  | x :: f, a, N, G => by
    have := SA.Good.fin (tb := tb) (f := f) (G.fin1 (tb := tb) (x := x))
    rw [show N + 3 + 3 * f.length = N + 3 * (x :: f).length by simp; lia] at this
    exact this
theorem SA.Good.le {a : SA} {tvs : List Value} {fs : List (List (Nat × Bool))} {N M : Nat} (G : a.Good tvs fs N) (h : N ≤ M) : a.Good tvs fs M := ⟨G.sm.le h, G.hh, G.tv, G.fr⟩
noncomputable def SA.pop (tb : Nat → Bool) (a : SA) : SA := { a.fin tb (a.frames.getLast?.getD []) with frames := a.frames.dropLast }
noncomputable def SA.leave (tb : Nat → Bool) (a : SA) (d : Nat) : SA := ((a.frames.drop d).reverse).foldl (SA.fin tb) a
section
variable {prog : Program} {w : World} {A : Around} {E : Value → Shared → Prop} {σ : Mp} {H : Hp} {h : Heap} {g : Array GenState} {d : Drawn} {t : Nat} {os : OsState} {Q : Value → Shared → Prop} {k : Nat} {c : Cs} {a : SA}
theorem pop_spec {Ts : List Ty} {N : Nat} {fs : List (List (Nat × Bool))} {f : List (Nat × Bool)}
    (O : Ok w σ h) (R : Room 7 A) (X : HpIn σ H) (Y : Sc σ H c a) (hs : a.Small N) (hh : a.here < a.blocks.length) (hN : N ≤ 500000) (ef : a.frames = fs ++ [f]) (hfl : f.length ≤ 40) (hfs : fs.length ≤ 40)
    (hT : All2 (TyIs σ) a.tvs Ts) (hz : ∀ T ∈ Ts, T.size ≤ 1000) (hl : ∀ x ∈ f, x.1 < Ts.length)
    (q : ∀ h' t' σ' H', Nx w mdA σ h H σ' h' H' → Sc σ' H' c (a.pop (tbOf Ts)) → Q .none ⟨h', g, d, t', os⟩) :
    wpAny (model prog w) A (call (.ref 290) [.ref c.S]) Q E ⟨h, g, d, t, os⟩ := by
  refine' enter (binds := [("self", .ref c.S)]) O R ?a1 ?a2 ?a3 ?a4 ?a5 ?_ ?a6 ?a7 ?a8
  walk_at "ent"
  intro L h₁ F
  have B := Bd.start (md := mdA) F X
  refine hide fun CCC kkk => ?_
  obtain ⟨u1, u2, IS⟩ := Y.objS X
  refine kkk ?_; clear kkk
  refine hide fun CCC kkk => ?_
  obtain ⟨n, vs, p, n1, us, k1, k2, k3, k4⟩ := Y.lastF ef
  refine kkk ?_; clear kkk
  repeat walk_at "u"
  refine itemLastF B.fm ⟨n, B.hp.at_ _ _ _ k1⟩ (by rw [k2]; lia) ?_
  repeat walk_at "u"
  refine finish_spec (N := N) B.fm.ok (R.deeper.le (by decide)) X Y ⟨hs, hh, rfl, rfl⟩ (by lia) (by lia) hT hz k3 k4 hl fun h2 t2 σ2 H2 N2 Y2 => ?_
  have k1' := Eq.trans (N2.ag .frs rfl) k1
  have X2 := N2.hp
  replace B := B.call N2 (fun _ e => mdF_A e)
  refine hide fun CCC kkk => ?_
  obtain ⟨u1, u2, IS⟩ := Y2.objS B.hp
  refine kkk ?_; clear kkk
  repeat walk_at "u"
  refine methP B.fm ⟨n, B.hp.at_ _ _ _ k1'⟩ ?_
  dsimp only
  repeat walk_at "u"
  refine popK (kd := .frs) B k1' (by rw [k2]; lia) rfl fun h3 n2 B => ?_
  repeat walk_at "u"
  refine q _ _ _ _ B.nx ?_
  have e2 : (a.fin (tbOf Ts) f).frames = fs ++ [f] := by
    have := (SA.Good.fin (tb := tbOf Ts) (f := f.reverse) (⟨hs, hh, rfl, ef⟩ : a.Good a.tvs (fs ++ [f]) N)).fr
    exact this
  have Y3 := Y2.frsPop (n2 := n2) X2 e2 k1'
  have e3 : a.pop (tbOf Ts) = { a.fin (tbOf Ts) f with frames := fs } := by unfold SA.pop; rw [ef]; simp
  rw [e3]
  exact Y3
theorem leave_spec {Ts : List Ty} {N dep : Nat} {tk : Tok}
    (O : Ok w σ h) (R : Room 7 A) (X : HpIn σ H) (Y : Sc σ H c a) (hs : a.Small N) (hh : a.here < a.blocks.length) (hN : N ≤ 500000) (hfl : ∀ f ∈ a.frames, f.length ≤ 40) (hfs : a.frames.length ≤ 40) (hd : dep ≤ a.frames.length)
    (hT : All2 (TyIs σ) a.tvs Ts) (hz : ∀ T ∈ Ts, T.size ≤ 1000) (hl : ∀ f ∈ a.frames, ∀ x ∈ f, x.1 < Ts.length)
    (q : ∀ h' t' σ' H', Nx w mdA σ h H σ' h' H' → Sc σ' H' c (a.leave (tbOf Ts) dep) → Q .none ⟨h', g, d, t', os⟩) :
    wpAny (model prog w) A (call (.ref 297) [.ref c.S, .int dep tk]) Q E ⟨h, g, d, t, os⟩ := by
  refine' enter (binds := [("self", .ref c.S), ("depth", .int dep tk)]) O R ?a1 ?a2 ?a3 ?a4 ?a5 ?_ ?a6 ?a7 ?a8
  walk_at "ent"
  intro L h₁ F
  have B := Bd.start (md := mdA) F X
  refine hide fun CCC kkk => ?_
  obtain ⟨u1, u2, IS⟩ := Y.objS X
  refine kkk ?_; clear kkk
  refine hide fun CCC kkk => ?_
  obtain ⟨n, vs, k1, k2, k3⟩ := Y.f
  refine kkk ?_; clear kkk
  have sz : vs.length ≤ 1000000 := by lia
  have sz2 : (vs.drop dep).length ≤ 1000000 := by rw [List.length_drop]; lia
  refine wpAny_execs_cons ?_
  refine wpAny_For ?_ (fun _ => rfl)
  repeat walk_at "u"
  refine sliceK (ws := vs.drop dep) (.il 1) B ⟨n, B.hp.at_ _ _ _ k1⟩ (.int _ _) .none .none (by decide) sz rfl (by rw [slicePick_from _ _ (by simp; lia)]) (fun D1 h2 e1 e2 B => ?_) (by with_unfolding_all rfl)
  repeat walk_at "u"
  refine sliceK (ws := (vs.drop dep).reverse) (.il 2) B ⟨0, put_self⟩ .none .none (.int _ _) (by decide) sz2 rfl (by rw [krv_pick]) (fun D h2 e3 e4 B => ?_) (by with_unfolding_all rfl)
  have K1 : Tk σ _ := ((Le.put e1 _).trans (Le.put e3 (lisO (vs.drop dep).reverse 0))).tk
  have Y1 := (Y.mono (Le.put e1 (lisO (vs.drop dep) 0)).tk (H' := upd H (.il 1) D1 (lisO (vs.drop dep) 0)) (fun k hk => upd_ne (by rintro rfl; cases hk))).mono (Le.put e3 (lisO (vs.drop dep).reverse 0)).tk
    (H' := upd (upd H (.il 1) D1 (lisO (vs.drop dep) 0)) (.il 2) D (lisO (vs.drop dep).reverse 0)) (fun k hk => upd_ne (by rintro rfl; cases hk))
  have PP : All2 (fun v x => ∃ j : Nat, vs[j]? = some v ∧ a.frames[j]? = some x) (vs.drop dep).reverse (a.frames.drop dep).reverse :=
    ((All2.of_get k2 fun i v x p q => ⟨i, p, q⟩).drop dep).reverse
  refine loopL (D := D) (vs := (vs.drop dep).reverse) (.it 1) (fun i σ' H' m' => ∃ a', Sc σ' H' c a' ∧ a' = (((a.frames.drop dep).reverse).take i).foldl (SA.fin (tbOf Ts)) a ∧ a'.Good a.tvs a.frames (N + 120 * i) ∧ H' (.il 2) = some (D, lisO (vs.drop dep).reverse 0) ∧
    H' .frs = some (c.frs, lisO vs n) ∧ All2 (TyIs σ') a.tvs Ts ∧ m' "self" = some (.ref c.S)) B rfl R.2.2 tgtN ?_ ?_ ?_ ?_ ?_
  · intro i σ H m σ' H' X _ kp oth zzq10
    refine hide fun CCC kkk => ?_
    obtain ⟨a', z1, z2, z3, z4, z6, z7, z8⟩ := zzq10
    refine kkk ?_; clear kkk
    have tk := kp.tk X
    exact ⟨a', z1.mono tk fun k hk => oth k (decide_eq_false (by rintro rfl; cases hk)), z2, z3, Eq.trans (oth _ rfl) z4, Eq.trans (oth _ rfl) z6, z7.imp fun _ _ z => z.tk tk, z8⟩
  · rintro i σ H m X ⟨a', z1, z2, z3, z4, z6, z7, z8⟩; exact ⟨_, X.at_ _ _ _ z4⟩
  · exact ⟨a, Y1, by simp, ⟨hs, hh, rfl, rfl⟩, upd_self, Eq.trans (upd_ne nofun) (Eq.trans (upd_ne nofun) k1), hT.imp fun _ _ z => z.tk K1, rfl⟩
  · intro i v σ1 H1 h3 m1 t3 QQ fin hv zzq10 B
    refine hide fun CCC kkk => ?_
    obtain ⟨a', z1, z2, z3, z4, z6, z7, z8⟩ := zzq10
    refine kkk ?_; clear kkk
    refine hide fun CCC kkk => ?_
    obtain ⟨f, hx, j, j1, j2⟩ := PP.getV hv
    refine kkk ?_; clear kkk
    have hi := (List.getElem?_eq_some_iff.mp hv).1
    have hi2 : i < 40 := by simp at hi; lia
    have hm := List.mem_of_getElem? j2
    refine hide fun CCC kkk => ?_
    obtain ⟨n', vs', w1, w2, w3⟩ := z1.f
    refine kkk ?_; clear kkk
    rw [z6] at w1
    obtain ⟨rfl⟩ : vs' = vs := by
      have := congrArg (fun o : Option (Addr × Obj) => o.map (·.2.data)) w1
      exact (by simpa using this.symm : vs' = vs ∧ n' = n).1
    obtain ⟨p, n1, us, rfl, w4, w5⟩ := w3 j v f j1 (by rw [z3.fr]; exact j2)
    refine hide fun CCC kkk => ?_
    obtain ⟨u1, u2, IS⟩ := z1.objS B.hp
    refine kkk ?_; clear kkk
    refine wpAny_assign_Name ?_
    repeat walk_at "u"
    rename Bd _ _ _ _ _ _ _ _ _ _ => B
    refine finish_spec (N := N + 120 * i) (tvs := a.tvs) (fs := a.frames) B.fm.ok (R.deeper.le (by decide)) B.hp z1 z3 (by have := hfl f hm; lia) (by have := hfl f hm; lia) z7 hz w4 w5 (hl f hm) fun h2 t2 σ2 H2 N2 Y2 => ?_
    have T2 := N2.kp.tk B.hp
    replace B := B.call N2 (fun _ e => mdF_A e)
    repeat walk_at "u"
    have tke : ((a.frames.drop dep).reverse.take (i + 1)).foldl (SA.fin (tbOf Ts)) a = SA.fin (tbOf Ts) a' f := by
      rw [List.take_add_one, hx, List.foldl_append, ← z2]; rfl
    refine fin.nx B ⟨_, Y2, tke.symm, ?_, Eq.trans (N2.ag _ rfl) z4, Eq.trans (N2.ag _ rfl) z6, z7.imp fun _ _ z => z.tk T2, z8⟩ (N2.ag _ rfl)
    have := SA.Good.fin (tb := tbOf Ts) (f := f.reverse) z3
    refine SA.Good.le this ?_
    have := hfl f hm
    simp; lia
  · intro σ1 H1 h3 m1 t3 zzq5 B
    refine hide fun CCC kkk => ?_
    obtain ⟨a', z1, z2, z3, z4, z6, z7, z8⟩ := zzq5
    refine kkk ?_; clear kkk
    repeat walk_at "u"
    refine q _ _ _ _ B.nx ?_
    rw [z2, PP.length, List.take_length] at z1
    exact z1
end
noncomputable def mdR : Kd → Bool
  | .src => true
  | _ => false
noncomputable def SrcIs (H : Hp) (a : Addr) : Prop := ∃ s0 s1 t0 t1 n, H .src = some (a, lisO [.int s0 t0, .int s1 t1] n)
theorem SrcIs.mono {H H' : Hp} {a : Addr} (X : SrcIs H a) (e : H' .src = H .src) : SrcIs H' a := by unfold SrcIs; rw [e]; exact X
section
variable {prog : Program} {w : World} {A : Around} {E : Value → Shared → Prop} {σ : Mp} {H : Hp} {h : Heap} {g : Array GenState} {d : Drawn} {t : Nat} {os : OsState} {Q : Value → Shared → Prop} {k : Nat} {a : Addr}
theorem noPy {x y : Int} (h0 : 0 < y) (h : y < 1000000) : Builtin.divisionGoesByPylong x y = false := PyProof.noPylong_small (by lia)
theorem take_spec {top : Int} {tt : Tok} (O : Ok w σ h) (R : Room 1 A) (X : HpIn σ H) (S : SrcIs H a) (h0 : 0 < top) (h1 : top < 1000000)
    (q : ∀ h' t' σ' H' r tk, Nx w mdR σ h H σ' h' H' → SrcIs H' a → 0 ≤ r → r < top → Q (.int r tk) ⟨h', g, d, t', os⟩) :
    wpAny (model prog w) A (call (.ref 376) [.ref a, .int top tt]) Q E ⟨h, g, d, t, os⟩ := by
  refine' enter (binds := [("source", .ref a), ("top", .int top tt)]) O R ?a1 ?a2 ?a3 ?a4 ?a5 ?_ ?a6 ?a7 ?a8
  walk_at "ent"
  intro L h₁ F
  have B := Bd.start (md := mdR) F X
  refine hide fun CCC kkk => ?_
  obtain ⟨s0, s1, t0, t1, n, S⟩ := S
  refine kkk ?_; clear kkk
  repeat walk_at "v"
  refine itemLF (i := 0) B.fm ⟨n, B.hp.at_ _ _ _ S⟩ rfl (by decide) ?_
  repeat walk_at "v"
  by_cases c : 0 < s0
  · rw [decide_eq_true c]
    repeat walk_at "v"
    refine itemLF (i := 0) B.fm ⟨n, B.hp.at_ _ _ _ S⟩ rfl (by decide) ?_
    repeat walk_at "v"
    refine mod_int' (by lia) ?_
    repeat walk_at "v"
    rename Bd _ _ _ _ _ _ _ _ _ _ => B
    refine itemLF (i := 0) B.fm ⟨n, B.hp.at_ _ _ _ S⟩ rfl (by decide) ?_
    repeat walk_at "v"
    refine PyProof.Rows.floordiv_int (by lia) ?_ (.inl (noPy h0 h1))
    repeat walk_at "v"
    refine setLK (i := 0) (kd := .src) B S (by simp) (by decide) rfl fun h3 n' B => ?_
    repeat walk_at "v"
    exact q _ _ _ _ _ _ B.nx ⟨_, _, _, _, _, upd_self⟩ (Int.fmod_nonneg_of_pos _ h0) (Int.fmod_lt_of_pos _ h0)
  · rw [decide_eq_false c]
    repeat walk_at "v"
    refine itemLF (i := 1) B.fm ⟨n, B.hp.at_ _ _ _ S⟩ rfl (by decide) ?_
    repeat walk_at "v"
    refine PyProof.Rows.mul_int ?_ (.of_right (by decide))
    repeat walk_at "v"
    refine mod_int' (by decide) ?_
    repeat walk_at "v"
    refine setLK (i := 1) (kd := .src) B S (by simp) (by decide) rfl fun h3 n' B => ?_
    repeat walk_at "v"
    refine itemLF (i := 1) B.fm ⟨n', put_self⟩ rfl (by decide) ?_
    repeat walk_at "v"
    refine PyProof.Rows.floordiv_int (by decide) ?_ (.inl (noPy (by decide) (by decide)))
    repeat walk_at "v"
    refine mod_int' (by lia) ?_
    repeat walk_at "v"
    exact q _ _ _ _ _ _ B.nx ⟨_, _, _, _, _, upd_self⟩ (Int.fmod_nonneg_of_pos _ h0) (Int.fmod_lt_of_pos _ h0)
theorem Bd.grow {w : World} {md : Kd → Bool} {σ₀ σ : Mp} {H₀ H : Hp} {h₀ h h' : Heap} {L : Addr} {m : Str → Option Value} (B : Bd w md σ₀ h₀ H₀ σ H L h m) (up : ∀ a o, h.get? a = some o → h'.get? a = some o) : Bd w md σ₀ h₀ H₀ σ H L h' m := by
  refine hide fun CCC kkk => ?_
  obtain ⟨o, es, ep, e, r⟩ := B.fm.ns
  refine kkk ?_; clear kkk
  exact B.with ⟨⟨B.fm.ok.base, fun a o e => up a o (B.fm.ok.sub a o e)⟩, ⟨o, es, ep, up _ _ e, r⟩, B.fm.out, B.fm.new, ⟨fun a o e n => up a o (B.fm.ps.kept a o e n), B.fm.ps.dom, B.fm.ps.up⟩⟩
theorem pool_spec {sc : Addr} {vs : List Value} (O : Ok w σ h) (R : Room 1 A) (X : HpIn σ H) (l : LO σ sc vs) (hv : ∀ v ∈ vs, ∃ i t, v = .int i t) (hz : vs.length ≤ 1000)
    (q : ∀ h' t' σ' H' a, Nx w mdR σ h H σ' h' H' → SrcIs H' a → Q (.ref a) ⟨h', g, d, t', os⟩) :
    wpAny (model prog w) A (call (.ref 369) [.ref sc]) Q E ⟨h, g, d, t, os⟩ := by
  refine' enter (binds := [("script", .ref sc)]) O R ?a1 ?a2 ?a3 ?a4 ?a5 ?_ ?a6 ?a7 ?a8
  walk_at "ent"
  intro L h₁ F
  have B := Bd.start (md := mdR) F X
  repeat walk_at "v"
  refine lenF (by assumption : Bd _ _ _ _ _ _ _ _ _ _).fm l (by lia) fun tk t2 => ?_
  repeat walk_at "v"
  rcases vs with _ | ⟨v, vs⟩
  all_goals first
    | (rw [show decide (0 < ((([] : List Value).length : Nat) : Int)) = false from rfl]
       repeat walk_at "v")
    | (obtain ⟨i, ti, rfl⟩ := hv v (.head _)
       rw [decide_eq_true (by simp)]
       repeat walk_at "v"
       refine itemLF (i := 0) (by assumption : Bd _ _ _ _ _ _ _ _ _ _).fm l rfl (by decide) ?_
       repeat walk_at "v")
  all_goals
    clear B F
    rename Bd _ _ _ _ _ _ _ _ _ _ => B
    refine max_two_ints R.2.2 fun h5 t5 up => ?_
    replace B := B.grow up
    rw [show ∀ (a b : Int) (t u : Tok), (if b > a then Value.int b u else .int a t) = .int (if b > a then b else a) (if b > a then u else t) from fun a b t u => by split <;> rfl]
    generalize hb : (if (_ : Int) > (_ : Int) then (_ : Int) else (_ : Int)) = big
    repeat walk_at "v"
    refine pow_int (by decide) (by decide +kernel) ?_
    repeat walk_at "v"
    refine PyProof.Rows.mul_int ?_ (.of_right (by split <;> decide))
    repeat walk_at "v"
    refine mod_int' (by decide) ?_
    repeat walk_at "v"
    refine PyProof.Rows.mul_int ?_ (.of_right (by decide))
    repeat walk_at "v"
    refine mod_int' (by decide) ?_
    repeat walk_at "v"
    rename Bd _ _ _ _ _ _ _ _ _ _ => B
    refine newListK .src B (by exact Nat.le_of_ble_eq_true rfl) rfl fun a h6 e1 e2 B => ?_
    repeat walk_at "v"
    exact q _ _ _ _ _ B.nx ⟨_, _, _, _, _, upd_self⟩
end
section
variable {prog : Program} {w : World} {A : Around} {E : Value → Shared → Prop} {σ : Mp} {H : Hp} {h : Heap} {g : Array GenState} {d : Drawn} {t : Nat} {os : OsState} {Q : Value → Shared → Prop} {a : Addr}
theorem tyInt (B : Bs w σ) : TyIs σ (.ref 362) .int := by
  have e : (KH w).lookup 362 = some (tupO [.str "int" 666, .str "i32" 667]) := by kernel_rfl
  exact ⟨362, _, _, rfl, B.k _ _ e⟩
theorem type_spec (n : Nat) : ∀ {A : Around} {E : Value → Shared → Prop} {σ : Mp} {H : Hp} {h : Heap} {t : Nat} {tt : Tok} {Q : Value → Shared → Prop}, Ok w σ h → Room (n + 2) A → HpIn σ H → SrcIs H a → n ≤ 2 →
    (∀ h' t' σ' H' v T, Nx w mdR σ h H σ' h' H' → SrcIs H' a → TyIs σ' v T → T.size ≤ 4 ^ (n + 1) → Q v ⟨h', g, d, t', os⟩) →
    wpAny (model prog w) A (call (.ref 390) [.ref a, .int n tt]) Q E ⟨h, g, d, t, os⟩ := by
  induction n with
  | zero =>
    intro A E σ H h t tt Q O R X S hn q
    refine' enter (binds := [("source", .ref a), ("deep", .int 0 tt)]) O R ?a1 ?a2 ?a3 ?a4 ?a5 ?_ ?a6 ?a7 ?a8
    walk_at "ent"
    intro L h₁ F
    have B := Bd.start (md := mdR) F X
    repeat walk_at "w"
    refine take_spec B.fm.ok (R.deeper.le (by lia)) B.hp S (by decide) (by decide) fun h2 t2 σ2 H2 r tk N S hr0 hr1 => ?_
    replace B := B.call N fun _ e => e
    repeat walk_at "w"
    by_cases c : r < 2
    all_goals
      first
      | rw [decide_eq_true c]
      | rw [decide_eq_false c]
      repeat walk_at "w"
      refine mod_int' (by decide) ?_
      repeat walk_at "w"
      by_cases c2 : (r.fmod 2 == 0) = true
      · repeat walk_at "w"
        rename Bd _ _ _ _ _ _ _ _ _ _ => B
        repeat walk_at "w"
        exact q _ _ _ _ _ .int B.nx S (tyInt B.fm.ok.base) (by decide)
      · rw [Bool.not_eq_true] at c2
        repeat walk_at "w"
        rename Bd _ _ _ _ _ _ _ _ _ _ => B
        refine newTupleB B (by exact Nat.le_of_ble_eq_true rfl) fun ka h3 e1 e2 B => ?_
        repeat walk_at "w"
        exact q _ _ _ _ _ (.box .int) B.nx S ⟨ka, _, _, rfl, put_self, tyInt B.fm.ok.base⟩ (by decide)
  | succ n ih =>
    intro A E σ H h t tt Q O R X S hn q
    refine' enter (binds := [("source", .ref a), ("deep", .int (n + 1 : Nat) tt)]) O R ?a1 ?a2 ?a3 ?a4 ?a5 ?_ ?a6 ?a7 ?a8
    walk_at "ent"
    intro L h₁ F
    have B := Bd.start (md := mdR) F X
    repeat walk_at "w"
    refine take_spec B.fm.ok (R.deeper.le (by lia)) B.hp S (by decide) (by decide) fun h2 t2 σ2 H2 r tk N S hr0 hr1 => ?_
    replace B := B.call N fun _ e => e
    repeat walk_at "w"
    by_cases c : r < 2
    · rw [decide_eq_true c]
      repeat walk_at "w"
      refine mod_int' (by decide) ?_
      repeat walk_at "w"
      by_cases c2 : (r.fmod 2 == 0) = true
      · repeat walk_at "w"
        rename Bd _ _ _ _ _ _ _ _ _ _ => B
        repeat walk_at "w"
        exact q _ _ _ _ _ .int B.nx S (tyInt B.fm.ok.base) (Nat.one_le_pow _ _ (by decide))
      · rw [Bool.not_eq_true] at c2
        repeat walk_at "w"
        rename Bd _ _ _ _ _ _ _ _ _ _ => B
        refine newTupleB B (by exact Nat.le_of_ble_eq_true rfl) fun ka h3 e1 e2 B => ?_
        repeat walk_at "w"
        exact q _ _ _ _ _ (.box .int) B.nx S ⟨ka, _, _, rfl, put_self, tyInt B.fm.ok.base⟩ (Nat.le_trans (by decide : 2 ≤ 4 ^ 1) (Nat.pow_le_pow_right (by decide) (by lia)))
    · rw [decide_eq_false c]
      have nz : (((n + 1 : Nat) : Int) == 0) = false := beq_eq_false_iff_ne.mpr (by lia)
      repeat walk_at "w"
      rw [show (((n + 1 : Nat) : Int) - 1) = (n : Int) by push_cast; lia]
      rename Bd _ _ _ _ _ _ _ _ _ _ => B
      refine ih B.fm.ok (R.deeper.le (by lia)) B.hp S (by lia) fun h3 t3 σ3 H3 v T N S hT hs => ?_
      replace B := B.call N fun _ e => e
      have p4 : 4 ^ (n + 1 + 1) = 4 * 4 ^ (n + 1) := by rw [Nat.pow_succ, Nat.mul_comm]
      have p1 : 4 ≤ 4 ^ (n + 1) := by rw [Nat.pow_succ]; exact Nat.le_mul_of_pos_left _ (Nat.pow_pos (by decide))
      repeat walk_at "w"
      rename Bd _ _ _ _ _ _ _ _ _ _ => B
      by_cases c2 : (r == 2) = true
      · repeat walk_at "w"
        refine newTupleB B (by exact Nat.le_of_ble_eq_true rfl) fun ka h3 e1 e2 B => ?_
        repeat walk_at "w"
        refine newTupleB B (by exact Nat.le_of_ble_eq_true rfl) fun kb h3 e3 e4 B => ?_
        repeat walk_at "w"
        exact q _ _ _ _ _ (.tup .int T) B.nx S ⟨kb, _, ka, .ref 362, v, rfl, put_self, Le.put e3 _ _ _ put_self, tyInt B.fm.ok.base, (hT.tk (Le.put e1 _).tk).tk (Le.put e3 _).tk⟩ (by simp only [Ty.size]; lia)
      rw [Bool.not_eq_true] at c2
      by_cases c3 : (r == 3) = true
      · repeat walk_at "w"
        refine take_spec B.fm.ok (R.deeper.le (by lia)) B.hp S (by decide) (by decide) fun h2 t2 σ2 H2 r2 tk2 N S hr20 hr21 => ?_
        replace hT := hT.tk (N.kp.tk B.hp)
        replace B := B.call N fun _ e => e
        repeat walk_at "w"
        refine newTupleB B (by exact Nat.le_of_ble_eq_true rfl) fun ka h3 e1 e2 B => ?_
        repeat walk_at "w"
        exact q _ _ _ _ _ (.arr T (1 + r2)) B.nx S ⟨ka, _, v, _, rfl, put_self, hT.tk (Le.put e1 _).tk⟩ (by simp only [Ty.size]; lia)
      rw [Bool.not_eq_true] at c3
      by_cases c4 : (r == 4) = true
      · repeat walk_at "w"
        refine take_spec B.fm.ok (R.deeper.le (by lia)) B.hp S (by decide) (by decide) fun h2 t2 σ2 H2 r2 tk2 N S hr20 hr21 => ?_
        replace hT := hT.tk (N.kp.tk B.hp)
        replace B := B.call N fun _ e => e
        repeat walk_at "w"
        refine newTupleB B (by exact Nat.le_of_ble_eq_true rfl) fun ka h3 e1 e2 B => ?_
        repeat walk_at "w"
        exact q _ _ _ _ _ (.rf (r2 == 1) T) B.nx S ⟨ka, _, v, rfl, put_self, hT.tk (Le.put e1 _).tk⟩ (by simp only [Ty.size]; lia)
      rw [Bool.not_eq_true] at c4
      repeat walk_at "w"
      rename Bd _ _ _ _ _ _ _ _ _ _ => B
      refine newTupleB B (by exact Nat.le_of_ble_eq_true rfl) fun ka h3 e1 e2 B => ?_
      repeat walk_at "w"
      refine newTupleB B (by exact Nat.le_of_ble_eq_true rfl) fun kb h3 e3 e4 B => ?_
      repeat walk_at "w"
      exact q _ _ _ _ _ (.tup T T) B.nx S ⟨kb, _, ka, v, v, rfl, put_self, Le.put e3 _ _ _ put_self, (hT.tk (Le.put e1 _).tk).tk (Le.put e3 _).tk, (hT.tk (Le.put e1 _).tk).tk (Le.put e3 _).tk⟩ (by simp only [Ty.size]; lia)
end
section
variable {prog : Program} {w : World} {g : Array GenState} {d : Drawn} {os : OsState}
theorem hasbox_spec (T : Ty) : ∀ {A : Around} {E : Value → Shared → Prop} {σ : Mp} {h : Heap} {t : Nat} {v : Value} {Q : Value → Shared → Prop}, Ok w σ h → Room (T.size + 2) A → TyIs σ v T →
    (∀ h' t' σ', Pu w σ h σ' h' → Q (.bool T.hasBox) ⟨h', g, d, t', os⟩) →
    wpAny (model prog w) A (call (.ref 395) [v]) Q E ⟨h, g, d, t, os⟩ := by
  induction T with
  | int =>
    intro A E σ h t v Q O R hT q
    refine' enter (binds := [("told", v)]) O R ?a1 ?a2 ?a3 ?a4 ?a5 ?_ ?a6 ?a7 ?a8
    walk_at "ent"
    intro L h₁ F
    have B := Bd.start (md := mdL) F (H0.in σ)
    refine hide fun CCC kkk => ?_
    obtain ⟨a, t1, t2, rfl, l⟩ := hT
    refine kkk ?_; clear kkk
    repeat walk_at "x"
    refine itemTF (i := 0) B.fm l rfl (by decide) ?_
    repeat walk_at "x"
    refine itemTF (i := 0) B.fm l rfl (by decide) ?_
    repeat walk_at "x"
    refine itemTF (i := 0) B.fm l rfl (by decide) ?_
    repeat walk_at "x"
    rename Bd _ _ _ _ _ _ _ _ _ _ => B
    repeat walk_at "x"
    exact q _ _ _ B.pu
  | box T ih =>
    intro A E σ h t v Q O R hT q
    refine' enter (binds := [("told", v)]) O R ?a1 ?a2 ?a3 ?a4 ?a5 ?_ ?a6 ?a7 ?a8
    walk_at "ent"
    intro L h₁ F
    have B := Bd.start (md := mdL) F (H0.in σ)
    refine hide fun CCC kkk => ?_
    obtain ⟨a, t1, u, rfl, l, x1⟩ := hT
    refine kkk ?_; clear kkk
    repeat walk_at "x"
    refine itemTF (i := 0) B.fm l rfl (by decide) ?_
    repeat walk_at "x"
    refine itemTF (i := 0) B.fm l rfl (by decide) ?_
    repeat walk_at "x"
    rename Bd _ _ _ _ _ _ _ _ _ _ => B
    repeat walk_at "x"
    exact q _ _ _ B.pu
  | rf b T ih =>
    intro A E σ h t v Q O R hT q
    refine' enter (binds := [("told", v)]) O R ?a1 ?a2 ?a3 ?a4 ?a5 ?_ ?a6 ?a7 ?a8
    walk_at "ent"
    intro L h₁ F
    have B := Bd.start (md := mdL) F (H0.in σ)
    refine hide fun CCC kkk => ?_
    obtain ⟨a, t1, u, rfl, l, x1⟩ := hT
    refine kkk ?_; clear kkk
    repeat walk_at "x"
    refine itemTF (i := 0) B.fm l rfl (by decide) ?_
    repeat walk_at "x"
    refine itemTF (i := 0) B.fm l rfl (by decide) ?_
    repeat walk_at "x"
    refine itemTF (i := 0) B.fm l rfl (by decide) ?_
    repeat walk_at "x"
    rename Bd _ _ _ _ _ _ _ _ _ _ => B
    repeat walk_at "x"
    exact q _ _ _ B.pu
  | arr T n ih =>
    intro A E σ h t v Q O R hT q
    refine' enter (binds := [("told", v)]) O R ?a1 ?a2 ?a3 ?a4 ?a5 ?_ ?a6 ?a7 ?a8
    walk_at "ent"
    intro L h₁ F
    have B := Bd.start (md := mdL) F (H0.in σ)
    refine hide fun CCC kkk => ?_
    obtain ⟨a, t1, u, t2, rfl, l, x1⟩ := hT
    refine kkk ?_; clear kkk
    repeat walk_at "x"
    refine itemTF (i := 0) B.fm l rfl (by decide) ?_
    repeat walk_at "x"
    refine itemTF (i := 0) B.fm l rfl (by decide) ?_
    repeat walk_at "x"
    refine itemTF (i := 0) B.fm l rfl (by decide) ?_
    repeat walk_at "x"
    rename Bd _ _ _ _ _ _ _ _ _ _ => B
    refine itemTF (i := 1) B.fm l rfl (by decide) ?_
    repeat walk_at "x"
    refine ih B.fm.ok (R.deeper.le (by simp only [Ty.size]; lia)) x1 fun h3 t3 σ3 P => ?_
    replace B := B.pure P
    repeat walk_at "x"
    exact q _ _ _ B.pu
  | tup T1 T2 ih1 ih2 =>
    intro A E σ h t v Q O R hT q
    refine' enter (binds := [("told", v)]) O R ?a1 ?a2 ?a3 ?a4 ?a5 ?_ ?a6 ?a7 ?a8
    walk_at "ent"
    intro L h₁ F
    have B := Bd.start (md := mdL) F (H0.in σ)
    refine hide fun CCC kkk => ?_
    obtain ⟨a, t1, b, u, u', rfl, l, l2, x1, x2⟩ := hT
    refine kkk ?_; clear kkk
    repeat walk_at "x"
    refine itemTF (i := 0) B.fm l rfl (by decide) ?_
    repeat walk_at "x"
    refine listComp (closureFor_none (by decide)) rfl (by decide) ?_ (fun _ => rfl)
    repeat walk_at "x"
    refine itemTF (i := 1) B.fm l rfl (by decide) ?_
    refine startTuple (k := .it 0) B l2 rfl fun it h2 o e1 e2 B => ?_
    refine compRun (P := fun i v _ => [u, u'][i]? = some v) (n := 2) (Itr.tuple (D := b) (vs := [u, u']) (k := .it 0) (it := it) R.2.2 tgtN) (.il 0)
      (fun i σ' _ ys => TO σ' b [u, u'] ∧ TyIs σ' u T1 ∧ TyIs σ' u' T2 ∧ ys.isEmpty = !(([T1.hasBox, T2.hasBox].take i).any id)) B ?_ rfl rfl ?_ ?_ ?_ (by decide) (by decide) rfl ?_ ?_ ?_ ?_
    · intro k hk; rw [of_decide_eq_true hk]; rfl
    · intro k a' o' hk e
      rw [of_decide_eq_true hk, upd_self] at e; cases e
      exact e1
    · exact ⟨o, upd_self, e2⟩
    · exact ⟨Le.put e1 _ _ _ l2, x1.tk (Le.put e1 _).tk, x2.tk (Le.put e1 _).tk, rfl⟩
    · intro i σ H σ' H' ys X X' kp oth zzq10
      refine hide fun CCC kkk => ?_
      obtain ⟨z1, z2, z3, z4⟩ := zzq10
      refine kkk ?_; clear kkk
      have tk := kp.tk X
      exact ⟨tk _ _ z1, z2.tk tk, z3.tk tk, z4⟩
    · rintro i σ H ys X ⟨z1, _⟩; exact z1
    · intro i v ys σ1 H1 hb C h3 m3 t3 QQ NN fin hi hv zzq15 B
      refine hide fun CCC kkk => ?_
      obtain ⟨z1, z2, z3, z4⟩ := zzq15
      refine kkk ?_; clear kkk
      refine wpAny_assign_Name ?_
      repeat walk_at "x"
      refine wpAny_tests_one ?_
      repeat walk_at "x"
      rename Bd _ _ _ _ _ _ _ _ _ _ => B
      match i, hi, hv with
      | 0, _, hv =>
        cases hv
        refine ih1 B.fm.ok (R.deeper.le (by simp only [Ty.size]; lia)) z2 fun h3 t3 σ3 P => ?_
        replace B := B.pure P
        have tk := P.le.tk
        cases hb1 : T1.hasBox with
        | false =>
          repeat walk_at "x"
          exact fin.no B ⟨tk _ _ z1, z2.tk tk, z3.tk tk, by rw [z4]; simp [hb1]⟩ (fun _ _ => rfl) rfl
        | true =>
          repeat walk_at "x"
          rename Bd _ _ _ _ _ _ _ _ _ _ => B
          exact fin.yes B ⟨tk _ _ z1, z2.tk tk, z3.tk tk, by simp [hb1]⟩ (fun _ _ => rfl) rfl
      | 1, _, hv =>
        cases hv
        refine ih2 B.fm.ok (R.deeper.le (by simp only [Ty.size]; lia)) z3 fun h3 t3 σ3 P => ?_
        replace B := B.pure P
        have tk := P.le.tk
        cases hb1 : T2.hasBox with
        | false =>
          repeat walk_at "x"
          exact fin.no B ⟨tk _ _ z1, z2.tk tk, z3.tk tk, by rw [z4]; cases T1.hasBox <;> simp [hb1]⟩ (fun _ _ => rfl) rfl
        | true =>
          repeat walk_at "x"
          rename Bd _ _ _ _ _ _ _ _ _ _ => B
          exact fin.yes B ⟨tk _ _ z1, z2.tk tk, z3.tk tk, by cases T1.hasBox <;> simp [hb1]⟩ (fun _ _ => rfl) rfl
    · intro D σ' H' h' t' ys n' ⟨z1, z2, z3, z4⟩ B hD hl
      dsimp only
      have hDσ := B.hp.at_ _ _ _ hD
      repeat walk_at "x"
      rename Bd _ _ _ _ _ _ _ _ _ _ => B
      refine newListB B (by exact Nat.le_of_ble_eq_true rfl) fun na h5 e5 e6 B => ?_
      repeat walk_at "x"
      refine neNil (T1.hasBox || T2.hasBox) B.fm (R.deeper.le (by lia)) ⟨n', Le.put e5 _ _ _ hDσ⟩ ⟨_, put_self⟩ ?_ ?_
      · rw [z4]; cases T1.hasBox <;> cases T2.hasBox <;> rfl
      repeat walk_at "x"
      exact q _ _ _ B.pu
end
noncomputable def mdE : Kd → Bool
  | .rows | .il 0 | .it 0 => true
  | _ => false
noncomputable def rowsEnd1 (tb : Nat → Bool) (s : Int) (x : Nat × Bool) : List Rw := (if tb x.1 then [.drop x.1 s] else []) ++ (if x.2 then [.dead x.1 s] else [])
noncomputable def rowsEnd (tb : Nat → Bool) (s : Int) (f : List (Nat × Bool)) : List Rw := f.reverse.flatMap (rowsEnd1 tb s)
noncomputable def RowsAre (σ : Mp) (H : Hp) (ar : Addr) (rows : List Rw) : Prop := ∃ n vs, H .rows = some (ar, lisO vs n) ∧ All2 (RwIs σ) vs rows
theorem RowsAre.mono {σ σ' : Mp} {H H' : Hp} {ar : Addr} {rows : List Rw} (X : RowsAre σ H ar rows) (k : Tk σ σ') (e : H' .rows = H .rows) : RowsAre σ' H' ar rows := by
  obtain ⟨n, vs, a, b⟩ := X; exact ⟨n, vs, e.trans a, b.imp fun _ _ z => z.tk k⟩
theorem rowsEnd1_len {tb : Nat → Bool} {s : Int} {x : Nat × Bool} : (rowsEnd1 tb s x).length ≤ 2 := by unfold rowsEnd1; split <;> split <;> simp
theorem flatMap_len {tb : Nat → Bool} {s : Int} : ∀ {f : List (Nat × Bool)}, (f.flatMap (rowsEnd1 tb s)).length ≤ 2 * f.length
  | [] => by simp
  | x :: f => by
    have := @flatMap_len tb s f
    have := @rowsEnd1_len tb s x
    rw [List.flatMap_cons, List.length_append, List.length_cons]; lia
section
variable {prog : Program} {w : World} {A : Around} {E : Value → Shared → Prop} {md : Kd → Bool} {σ₀ σ : Mp} {H₀ H : Hp} {h₀ h : Heap} {g : Array GenState} {d : Drawn} {t : Nat} {os : OsState} {Q : Value → Shared → Prop} {k : Nat} {L ar ct p : Addr} {m : Str → Option Value}
theorem rowAdd {Q : Value → Shared → Prop} {rows : List Rw} {x : Rw} {v : Value} (B : Bd w md σ₀ h₀ H₀ σ H L h m) (X : RowsAre σ H ar rows) (hz : rows.length ≤ 100000) (hm : md .rows = true) (hv : RwIs σ v x)
    (q : ∀ h' σ' H', Bd w md σ₀ h₀ H₀ σ' H' L h' m → RowsAre σ' H' ar (rows ++ [x]) → Kp σ H σ' H' → (∀ j, j ≠ .rows → H' j = H j) → Q .none ⟨h', g, d, t, os⟩) :
    wpAny (model prog w) A (call (.builtin "list.append") [.ref ar, v]) Q E ⟨h, g, d, t, os⟩ := by
  refine hide fun CCC kkk => ?_
  obtain ⟨n, vs, a, b⟩ := X
  refine kkk ?_; clear kkk
  have K : ∀ n', Tk σ (put σ ar (lisO (vs ++ [v]) n')) := fun n' => Tk.put_at (B.hp.at_ _ _ _ a) lisO_no
  exact appendK (kd := .rows) B a (by rw [b.length]; lia) hm fun h' n' B' => q _ _ _ B' ⟨_, _, upd_self, (b.imp fun _ _ z => z.tk (K n')).snoc (hv.tk (K n'))⟩ (Kp.set a) fun j hj => upd_ne hj
theorem RowsAre.lo {rows : List Rw} (X : RowsAre σ H ar rows) (Y : HpIn σ H) : ∃ vs, LO σ ar vs := let ⟨n, vs, a, _⟩ := X; ⟨vs, n, Y.at_ _ _ _ a⟩
theorem ended_spec {us tvs : List Value} {f : List (Nat × Bool)} {Ts : List Ty} {fi n0 n1 : Nat} {rows : List Rw} {s : Int} {ts : Tok}
    (O : Ok w σ h) (R : Room 70 A) (X : HpIn σ H) (hr : RowsAre σ H ar rows) (hz : rows.length ≤ 10000) (hfz : f.length ≤ 1000)
    (hty : H .tys = some (ct, lisO tvs n1)) (hT : All2 (TyIs σ) tvs Ts) (hTz : ∀ T ∈ Ts, T.size ≤ 64) (hTl : Ts.length ≤ 1000) (hp : H (.lf fi) = some (p, lisO us n0)) (hf : All2 (FiIs σ) us f) (hl : ∀ x ∈ f, x.1 < Ts.length)
    (q : ∀ h' t' σ' H', Nx w mdE σ h H σ' h' H' → RowsAre σ' H' ar (rows ++ rowsEnd (tbOf Ts) s f) → Q .none ⟨h', g, d, t', os⟩) :
    wpAny (model prog w) A (call (.ref 402) [.ref ar, .ref p, .ref ct, .int s ts]) Q E ⟨h, g, d, t, os⟩ := by
  refine' enter (binds := [("rows", .ref ar), ("frame", .ref p), ("types", .ref ct), ("spot", .int s ts)]) O R ?a1 ?a2 ?a3 ?a4 ?a5 ?_ ?a6 ?a7 ?a8
  walk_at "ent"
  intro L h₁ F
  have B := Bd.start (md := mdE) F X
  refine wpAny_execs_cons ?_
  refine wpAny_For ?_ (fun _ => rfl)
  repeat walk_at "x"
  have sz : us.length ≤ 1000 := by rw [hf.length]; exact hfz
  refine sliceK (ws := us.reverse) (.il 0) B ⟨n0, B.hp.at_ _ _ _ hp⟩ .none .none (.int _ _) (by decide) (Nat.le_trans sz (by decide)) rfl (by rw [krv_pick]) (fun D h2 e1 e2 B => ?_) (by with_unfolding_all rfl)
  have K1 := (Le.put e1 (lisO us.reverse 0)).tk
  refine startList (k := .it 0) B ⟨_, put_self⟩ rfl fun it h3 o e3 e4 B2 => ?_
  have K2 := (Le.put e3 o).tk
  refine loopG (n := us.reverse.length) (Itr.list (D := D) (vs := us.reverse) (k := .it 0) R.2.2 tgtT)
    (fun i σ' H' m' => ∃ rows', rows' = rows ++ (f.reverse.take i).flatMap (rowsEnd1 (tbOf Ts) s) ∧ RowsAre σ' H' ar rows' ∧ H' (.il 0) = some (D, lisO us.reverse 0) ∧ H' .tys = some (ct, lisO tvs n1) ∧
      All2 (FiIs σ') us.reverse f.reverse ∧ All2 (TyIs σ') tvs Ts ∧ m' "rows" = some (.ref ar) ∧ m' "types" = some (.ref ct) ∧ m' "spot" = some (.int s ts)) B2 ?_ ?_ ⟨o, upd_self, e4⟩ ?_ ?_ ?_ ?_ ?_
  · intro k hk; rw [of_decide_eq_true hk]; rfl
  · intro k a' o' hk e
    rw [of_decide_eq_true hk, upd_self] at e; cases e
    exact B.new e3
  · exact ⟨rows, by simp, (hr.mono (H' := upd H (.il 0) D (lisO us.reverse 0)) K1 (upd_ne nofun)).mono K2 (upd_ne nofun), Eq.trans (upd_ne nofun) upd_self, Eq.trans (upd_ne nofun) (Eq.trans (upd_ne nofun) hty), ((hf.imp fun _ _ z => (z.tk K1).tk K2)).reverse, hT.imp fun _ _ z => (z.tk K1).tk K2, rfl, rfl, rfl⟩
  · intro i σ H m σ' H' X X' kp oth zzq10
    refine hide fun CCC kkk => ?_
    obtain ⟨rows', z0, z1, z2, z3, z4, z5, z6, z7, z8⟩ := zzq10
    refine kkk ?_; clear kkk
    have tk := kp.tk X
    exact ⟨rows', z0, z1.mono tk (oth _ rfl), (oth _ rfl).trans z2, (oth _ rfl).trans z3, z4.imp fun _ _ z => z.tk tk, z5.imp fun _ _ z => z.tk tk, z6, z7, z8⟩
  · rintro i σ H m X ⟨rows', z0, z1, z2, _⟩; exact ⟨_, X.at_ _ _ _ z2⟩
  · intro i v σ1 H1 h3 m1 t3 QQ fin hi hv zzq11 B
    refine hide fun CCC kkk => ?_
    obtain ⟨rows', z0, z1, z2, z3, z4, z5, z6, z7, z8⟩ := zzq11
    refine kkk ?_; clear kkk
    refine hide fun CCC kkk => ?_
    obtain ⟨⟨xl, xb⟩, hx, ka, tk, rfl, l⟩ := z4.getV hv
    refine kkk ?_; clear kkk
    have hm : (xl, xb) ∈ f := List.mem_reverse.mp (List.mem_of_getElem? hx)
    have hxl := hl _ hm
    refine hide fun CCC kkk => ?_
    obtain ⟨tv, e3, e4⟩ := z5.get (List.getElem?_eq_getElem hxl)
    refine kkk ?_; clear kkk
    have tbe : tbOf Ts xl = Ts[xl].hasBox := by unfold tbOf; rw [List.getElem?_eq_getElem hxl]; rfl
    have tke : rows ++ (f.reverse.take (i + 1)).flatMap (rowsEnd1 (tbOf Ts) s) = rows' ++ rowsEnd1 (tbOf Ts) s (xl, xb) := by
      rw [List.take_add_one, hx, List.flatMap_append, z0]; simp
    have rz : rows'.length ≤ 20000 := by
      rw [z0, List.length_append]
      have := @flatMap_len (tbOf Ts) s (f.reverse.take i)
      have h2 : (f.reverse.take i).length ≤ f.length := by rw [List.length_take, List.length_reverse]; lia
      lia
    refine asg2 B.fm l R.2.2 (fun h4 F => ?_) rfl rfl rfl rfl
    replace B := B.with F
    repeat walk_at "x"
    refine itemLF B.fm ⟨n1, B.hp.at_ _ _ _ z3⟩ e3 (by lia) ?_
    repeat walk_at "x"
    refine hasbox_spec _ B.fm.ok (R.deeper.le (by have := hTz _ (List.getElem_mem hxl); lia)) e4 fun h5 t5 σ5 P5 => ?_
    have tk5 := P5.le.tk
    replace B := B.pure P5
    replace z1 := z1.mono (H' := H1) tk5 rfl
    replace z4 := z4.imp fun _ _ z => z.tk tk5
    replace z5 := z5.imp fun _ _ z => z.tk tk5
    rw [← tbe]
    repeat walk_at "x"
    rename Bd _ _ _ _ _ _ _ _ _ _ => B
    cases hb : tbOf Ts xl with
    | false =>
      repeat walk_at "x"
      rename Bd _ _ _ _ _ _ _ _ _ _ => B
      cases xb with
      | false =>
        repeat walk_at "x"
        rename Bd _ _ _ _ _ _ _ _ _ _ => B
        refine fin.nx B ⟨rows', ?_, z1, z2, z3, z4, z5, z6, z7, z8⟩ (fun k hk => rfl)
        rw [tke]; unfold rowsEnd1; rw [hb]; simp
      | true =>
        repeat walk_at "x"
        rename Bd _ _ _ _ _ _ _ _ _ _ => B
        refine hide fun CCC kkk => ?_
        obtain ⟨rvs, rl⟩ := z1.lo B.hp
        refine kkk ?_; clear kkk
        refine methA B.fm rl ?_
        dsimp only
        repeat walk_at "x"
        rename Bd _ _ _ _ _ _ _ _ _ _ => B
        have X6 := B.hp
        refine newTupleB B (by exact Nat.le_of_ble_eq_true rfl) fun kb h6 f1 f2 B => ?_
        repeat walk_at "x"
        refine rowAdd (x := .dead xl s) B (z1.mono (Le.put f1 _).tk rfl) (by lia) rfl ⟨kb, _, _, _, rfl, put_self⟩ fun h7 σ7 H7 B z1 kp7 oth7 => ?_
        replace z2 := (oth7 (.il 0) nofun).trans z2
        replace z3 := (oth7 .tys nofun).trans z3
        have tk7 := ((Kp.of_le (Le.put f1 _)).trans kp7).tk X6
        replace z4 := z4.imp fun _ _ z => z.tk tk7
        replace z5 := z5.imp fun _ _ z => z.tk tk7
        repeat walk_at "x"
        refine fin.nx B ⟨_, ?_, z1, z2, z3, z4, z5, z6, z7, z8⟩ (fun k hk => oth7 _ (by rw [of_decide_eq_true hk]; nofun))
        rw [tke]; unfold rowsEnd1; rw [hb]; simp
    | true =>
      repeat walk_at "x"
      rename Bd _ _ _ _ _ _ _ _ _ _ => B
      refine hide fun CCC kkk => ?_
      obtain ⟨rvs, rl⟩ := z1.lo B.hp
      refine kkk ?_; clear kkk
      refine methA B.fm rl ?_
      dsimp only
      repeat walk_at "x"
      rename Bd _ _ _ _ _ _ _ _ _ _ => B
      have X6 := B.hp
      refine newTupleB B (by exact Nat.le_of_ble_eq_true rfl) fun kb h6 f1 f2 B => ?_
      repeat walk_at "x"
      refine rowAdd (x := .drop xl s) B (z1.mono (Le.put f1 _).tk rfl) (by lia) rfl ⟨kb, _, _, _, rfl, put_self⟩ fun h7 σ7 H7 B z1 kp7 oth7 => ?_
      replace z2 := (oth7 (.il 0) nofun).trans z2
      replace z3 := (oth7 .tys nofun).trans z3
      have tk7 := ((Kp.of_le (Le.put f1 _)).trans kp7).tk X6
      replace z4 := z4.imp fun _ _ z => z.tk tk7
      replace z5 := z5.imp fun _ _ z => z.tk tk7
      repeat walk_at "x"
      cases xb with
      | false =>
        repeat walk_at "x"
        rename Bd _ _ _ _ _ _ _ _ _ _ => B
        refine fin.nx B ⟨_, ?_, z1, z2, z3, z4, z5, z6, z7, z8⟩ (fun k hk => oth7 _ (by rw [of_decide_eq_true hk]; nofun))
        rw [tke]; unfold rowsEnd1; rw [hb]; simp
      | true =>
        have oth6 := oth7
        repeat walk_at "x"
        rename Bd _ _ _ _ _ _ _ _ _ _ => B
        refine hide fun CCC kkk => ?_
        obtain ⟨rvs, rl⟩ := z1.lo B.hp
        refine kkk ?_; clear kkk
        refine methA B.fm rl ?_
        dsimp only
        repeat walk_at "x"
        rename Bd _ _ _ _ _ _ _ _ _ _ => B
        have X6 := B.hp
        refine newTupleB B (by exact Nat.le_of_ble_eq_true rfl) fun kb h6 f1 f2 B => ?_
        repeat walk_at "x"
        refine rowAdd (x := .dead xl s) B (z1.mono (Le.put f1 _).tk rfl) (by rw [List.length_append]; simp; lia) rfl ⟨kb, _, _, _, rfl, put_self⟩ fun h7 σ7 H7 B z1 kp7 oth7 => ?_
        replace z2 := (oth7 (.il 0) nofun).trans z2
        replace z3 := (oth7 .tys nofun).trans z3
        have tk7 := ((Kp.of_le (Le.put f1 _)).trans kp7).tk X6
        replace z4 := z4.imp fun _ _ z => z.tk tk7
        replace z5 := z5.imp fun _ _ z => z.tk tk7
        repeat walk_at "x"
        refine fin.nx B ⟨_, ?_, z1, z2, z3, z4, z5, z6, z7, z8⟩ (fun k hk => (oth7 _ (by rw [of_decide_eq_true hk]; nofun)).trans (oth6 _ (by rw [of_decide_eq_true hk]; nofun)))
        rw [tke]; unfold rowsEnd1; rw [hb]; simp
  · intro σ1 H1 h3 m1 t3 zzq5 B
    refine hide fun CCC kkk => ?_
    obtain ⟨rows', z0, z1, z2, z3, z4, z5, z6, z7, z8⟩ := zzq5
    refine kkk ?_; clear kkk
    repeat walk_at "x"
    refine q _ _ _ _ B.nx ?_
    rw [z0, All2.length (All2.reverse hf), List.take_length] at z1
    exact z1
end
section
variable {prog : Program} {w : World} {A : Around} {E : Value → Shared → Prop} {s : Shared}
noncomputable def Rise (a₀ : Array Keyed) (f : Nat → Int) : Prop := (∀ i, i < a₀.size → ∃ t p, a₀[i]? = some (.int (f i) t, p)) ∧ ∀ i, i + 1 < a₀.size → f i < f (i + 1)
theorem riseLoop {a₀ : Array Keyed} {f : Nat → Int} {st : SortSt} {Q : AscSt → SortSt → Prop} (X : Rise a₀ f) (hk : kindOf st = oneType') (ha : arrOf st = a₀) (h1 : 1 ≤ a₀.size) (q : Q (none, a₀.size) st) :
    wpS (model prog w) A E s (ascLoop 1 a₀.size) Q st := by
  unfold ascLoop
  refine wpS_forRange (I := fun x c st' => st' = st ∧ c = (none, x)) ?_ ?_ ⟨rfl, rfl⟩
  · intro x c st' h1 h2 zzq5
    refine hide fun CCC kkk => ?_
    obtain ⟨rfl, rfl⟩ := zzq5
    refine kkk ?_; clear kkk
    dsimp only
    refine hide fun CCC kkk => ?_
    obtain ⟨t, p, e⟩ := X.1 x h2
    refine kkk ?_; clear kkk
    refine hide fun CCC kkk => ?_
    obtain ⟨t', p', e'⟩ := X.1 (x - 1) (by lia)
    refine kkk ?_; clear kkk
    have lt : f (x - 1) < f x := by
      have := X.2 (x - 1) (by lia)
      rwa [show x - 1 + 1 = x by lia] at this
    refine wpS_bind (wpS_ltAt hk (by rw [ha]; exact e) (by rw [ha]; exact e') ?_)
    rw [decide_eq_false (by lia)]
    exact wpS_pure ⟨rfl, rfl⟩
  · intro c st' zzq2
    refine hide fun CCC kkk => ?_
    obtain ⟨rfl, rfl⟩ := zzq2
    refine kkk ?_; clear kkk
    rw [show max 1 a₀.size = a₀.size by lia]
    exact q
theorem minRun_le : ∀ (fuel n r : Nat), r ≤ 1 → minRun' fuel n r ≤ n + r
  | 0, n, r, _ => Nat.le_refl _
  | fuel + 1, n, r, h => by
    rw [minRun'_succ]
    split
    · exact Nat.le_refl _
    · have : max r (n % 2) ≤ 1 := by lia
      have := minRun_le fuel (n / 2) (max r (n % 2)) this
      lia
theorem riseRuns {a₀ : Array Keyed} {f : Nat → Int} {st : SortSt} {Q : Unit → SortSt → Prop} (X : Rise a₀ f) (hk : kindOf st = oneType') (ha : arrOf st = a₀) (hp : pendingOf st = #[]) (hf : failedOf st = none) (h2 : 2 ≤ a₀.size)
    (q : ∀ st', arrOf st' = a₀ → failedOf st' = none → Q () st') : wpS (model prog w) A E s sortRuns' Q st := by
  rw [sortRuns'_eq]
  refine wpS_bind (wpS_get ?_)
  have hmr : ¬ a₀.size < minRun' a₀.size a₀.size 0 := Nat.not_lt.mpr (minRun_le _ _ 0 (Nat.zero_le _))
  simp only [ha]
  refine wpS_bind (wpS_mono (wpS_forRange
    (I := fun x c st' => (x = 0 ∧ c = (none, 0) ∧ st' = st) ∨ (1 ≤ x ∧ c = (none, a₀.size) ∧ st' = setPending st #[(0, a₀.size, 0)]))
    (Q := fun c st' => c = (none, a₀.size) ∧ st' = setPending st #[(0, a₀.size, 0)]) ?step ?fin (.inl ⟨rfl, rfl, rfl⟩)) ?post)
  case fin =>
    rintro c st' (⟨hx, _, _⟩ | ⟨_, hc, hD⟩)
    · lia
    · exact ⟨hc, hD⟩
  case step =>
    rintro x c st' _ hx (⟨rfl, rfl, rfl⟩ | ⟨_, rfl, hD⟩)
    · dsimp only
      rw [if_neg (by lia)]
      simp only [Nat.sub_zero]
      refine wpS_bind ?_
      rw [countRun0_eq]
      refine wpS_bind (riseLoop X hk ha (by lia) ?_)
      dsimp only
      rw [if_pos (by simp)]
      refine wpS_pure ?_
      dsimp only
      rw [if_neg hmr]
      refine wpS_bind (wpS_get ?_)
      rw [hp]
      exact wpS_bind (wpS_modify (wpS_pure (.inr ⟨by lia, by simp, by rw [hp]; rfl⟩)))
    · dsimp only
      rw [if_pos (Nat.le_refl _)]
      exact wpS_pure ⟨rfl, hD⟩
  case post =>
    intro c st' zzq2
    refine hide fun CCC kkk => ?_
    obtain ⟨rfl, rfl⟩ := zzq2
    refine kkk ?_; clear kkk
    dsimp only
    refine wpS_bind (wpS_mono (wpS_forRange (I := fun _ c st'' => st'' = setPending st #[(0, a₀.size, 0)] ∧ c = (none, ())) (Q := fun c st'' => st'' = setPending st #[(0, a₀.size, 0)] ∧ c = (none, ())) ?_ (fun _ _ hh => hh) ⟨rfl, rfl⟩) ?_)
    · intro x c st'' _ _ zzq5
      refine hide fun CCC kkk => ?_
      obtain ⟨rfl, rfl⟩ := zzq5
      refine kkk ?_; clear kkk
      refine wpS_bind (wpS_get ?_)
      rw [if_pos (show (pendingOf (setPending st #[(0, a₀.size, 0)])).size ≤ 1 from Nat.le_refl 1)]
      exact wpS_pure ⟨rfl, rfl⟩
    · intro c st'' zzq2
      refine hide fun CCC kkk => ?_
      obtain ⟨rfl, rfl⟩ := zzq2
      refine kkk ?_; clear kkk
      exact wpS_pure (q _ ha hf)
theorem sort_rise {a : Addr} {vs : List Value} {ns : List Int} {n : Nat} {P : Fin → Shared → Prop} (ho : s.heap.get? a = some (seqObj "list" vs.toArray n)) (hI : IntsAre vs ns) {f : Nat → Int} (X : Rise (pairsOf vs) f) (hz : vs.length ≤ 1000000)
    (h : P (.done (.ret .none)) { s with heap := sortedHeap s.heap a vs vs.toArray }) :
    wpAny (model prog w) A (Builtin.«list.sort» ⟨[.ref a], []⟩) P E s := by
  rw [list_sort_plain]
  have ha : a < s.heap.objs.size := Heap.lt_size ho
  have hsz : vs.toArray.size = vs.length := by simp
  have l1 : vs.toArray.size ≤ sizeLine := line hz
  have mp : (pairsOf vs).map (·.2) = vs.toArray := by
    apply Array.ext'
    rw [Array.toList_map, pairsOf_toList, List.map_snd_zip (Nat.le_refl _)]
  refine wpAny_bind (listItems_at ho rfl ?_)
  refine wpAny_bind (listUpdate_at ho rfl ?_ l1)
  obtain ⟨e1, ho1⟩ : ∃ e1, (s.heap.update a (Obj.mapSeq fun _ => #[])).get? a = some (seqObj "list" #[] e1) := ⟨_, get?_update_seq ho (fun _ => #[])⟩
  refine wpAny_bind (seqEpoch_at ho1 rfl ?_)
  refine wpAny_bind (wpAny_newTuple ?_ (by simpa using l1))
  refine wpAny_bind (wpAny_newList ?_)
  refine wpAny_holding ?_
  have ho6 : (((s.heap.update a (Obj.mapSeq fun _ => #[])).push (seqObj "tuple" vs.toArray 0)).push (seqObj "list" #[] 0)).get? a = some (seqObj "list" #[] e1) := by
    rw [Heap.get?_push_ne _ _ _ (by rw [size_push', Heap.size_update]; exact Nat.ne_of_lt (Nat.lt_succ_of_lt ha)), Heap.get?_push_ne _ _ _ (by rw [Heap.size_update]; exact Nat.ne_of_lt ha)]
    exact ho1
  show wpAny (model prog w) A _ P E { s with heap := ((s.heap.update a (Obj.mapSeq fun _ => #[])).push (seqObj "tuple" vs.toArray 0)).push (seqObj "list" #[] 0) }
  dsimp only
  by_cases h2 : vs.toArray.size < 2
  · rw [if_pos h2, if_pos h2]
    refine wpAny_bind (wpAny_pure ?_)
    rw [StateT.run_pure]
    refine wpAny_bind (wpAny_pure ?_)
    dsimp only
    refine wpAny_bind (seqEpoch_at ho6 rfl ?_)
    refine wpAny_bind (listUpdate_at ho6 rfl ?_ (hsz2 := by show ((pairsOf vs).map (·.2)).size ≤ _; rw [mp]; lia))
    simp only [bne_self_eq_false, Bool.false_eq_true, if_false]
    refine wpAny_pure ?_
    show P _ { s with heap := sortedHeap s.heap a vs ((pairsOf vs).map (·.2)) }
    rw [mp]; exact h
  · rw [if_neg h2, if_neg h2]
    obtain ⟨v₁, v₂, rest, rfl⟩ : ∃ v₁ v₂ rest, vs = v₁ :: v₂ :: rest := by
      match vs, hsz, h2 with
      | [], _, h2 => simp at h2
      | [_], _, h2 => simp at h2
      | v₁ :: v₂ :: rest, _, _ => exact ⟨v₁, v₂, rest, rfl⟩
    rw [keyKind_ints hI]
    refine wpAny_bind (wpAny_pure ?_)
    refine wpAny_bind (wpAny_mono (riseRuns (a₀ := pairsOf (v₁ :: v₂ :: rest)) (f := f) (st := SortSt.mk' oneType' ((v₁ :: v₂ :: rest).toArray.zip (v₁ :: v₂ :: rest).toArray) #[] 7 none)
      (Q := fun _ st' => arrOf st' = pairsOf (v₁ :: v₂ :: rest) ∧ failedOf st' = none) X rfl rfl rfl rfl (by rw [pairsOf_size]; simp) fun st' a1 a2 => ⟨a1, a2⟩) ?_ fun _ _ e => e)
    intro zzq0 s' zzq2
    refine hide fun CCC kkk => ?_
    obtain ⟨⟨⟩, st'⟩ := zzq0
    obtain ⟨rfl, hp, hf⟩ := zzq2
    refine kkk ?_; clear kkk
    dsimp only at hp hf ⊢
    rw [hp, mp]
    refine wpAny_bind (seqEpoch_at ho6 rfl ?_)
    refine wpAny_bind (listUpdate_at ho6 rfl ?_ (hsz2 := Nat.le_succ_of_le l1))
    rw [hf]
    simp only [bne_self_eq_false, Bool.false_eq_true, if_false]
    exact wpAny_pure h
end
section
variable {prog : Program} {w : World} {A : Around} {E : Value → Shared → Prop} {md : Kd → Bool} {σ₀ σ : Mp} {H₀ H : Hp} {h₀ h : Heap} {g : Array GenState} {d : Drawn} {t : Nat} {os : OsState} {L D : Addr} {m : Str → Option Value} {vs : List Value}
theorem sortedB {ns : List Int} {f : Nat → Int} {Q : Value → Shared → Prop} (B : Bd w md σ₀ h₀ H₀ σ H L h m) (l : LO σ D vs) (hI : IntsAre vs ns) (X : Rise (pairsOf vs) f) (hz : vs.length ≤ 1000000)
    (q : ∀ r h' n, σ r = none → Bd w md σ₀ h₀ H₀ (put σ r (lisO vs n)) H L h' m → Q (.ref r) ⟨h', g, d, t, os⟩) :
    wpAny (model prog w) A (call (.builtin "sorted") [.ref D]) Q E ⟨h, g, d, t, os⟩ := by
  refine Calls.call_function_entry kind_sorted plain_sorted entry_sorted (args_sorted1 _) ?_
  unfold Builtin.«sorted»
  refine wpAny_bind (m := checkCount "sorted" 1 1 _) (wpAny_pure ?_)
  refine wpAny_bind (collect_list (s := ⟨h, g, d, t, os⟩) (B.fm.lst l) ?_ (by have := line hz; simpa using this))
  refine wpAny_bind (wpAny_newList ?_ (by have := line hz; simpa using this))
  have hsz : ((h.push (seqObj "list" #[] 0)).update h.objs.size (Obj.mapSeq (· ++ vs.toArray))).objs.size = h.objs.size + 1 := by
    rw [Heap.size_update, size_push']
  have hoL : (((h.push (seqObj "list" #[] 0)).update h.objs.size (Obj.mapSeq (· ++ vs.toArray))).push (seqObj "list" vs.toArray 0)).get? (h.objs.size + 1) = some (seqObj "list" vs.toArray 0) := by
    rw [← hsz]; exact Heap.get?_push_size _ rfl
  show wpAny _ _ _ _ _ ⟨((h.push (seqObj "list" #[] 0)).update h.objs.size (Obj.mapSeq (· ++ vs.toArray))).push (seqObj "list" vs.toArray 0), g, d, t, os⟩
  rw [hsz]
  refine wpAny_bind (wpAny_holding (wpAny_call_entry slot_list_sort ⟨_, hoL, rfl⟩ entry_list_sort (sort_rise hoL hI X hz ⟨_, rfl, ?_⟩) (args_list_sort _)))
  refine wpAny_pure ⟨_, rfl, ?_⟩
  have big : 429 ≤ h.objs.size := B.fm.ok.big
  have none2 : ∀ a, h.objs.size ≤ a → h.get? a = none := fun a ha => by
    cases q : h.get? a with
    | none => rfl
    | some o => exact absurd (Heap.lt_size q) (Nat.not_lt.mpr ha)
  have up : ∀ a o, h.get? a = some o → (sortedAll h vs vs.toArray).get? a = some o := fun a o e => sortedAll_old e
  refine hide fun CCC kkk => ?_
  obtain ⟨e, he⟩ := sortedAll_at h vs vs.toArray
  refine kkk ?_; clear kkk
  have sn : σ (h.objs.size + 1) = none := by
    cases q : σ (h.objs.size + 1) with
    | none => rfl
    | some o => have := B.fm.ok.sub _ _ q; rw [none2 _ (Nat.le_succ _)] at this; cases this
  have h0n : h₀.get? (h.objs.size + 1) = none := by
    cases q : h₀.get? (h.objs.size + 1) with
    | none => rfl
    | some o =>
      cases r : σ₀ (h.objs.size + 1) with
      | none => have := B.fm.ps.kept _ o q r; rw [none2 _ (Nat.le_succ _)] at this; cases this
      | some o' => obtain ⟨o2, e2⟩ := B.fm.ps.up _ o' r; rw [sn] at e2; cases e2
  have B2 := (B.grow up).know he sn h0n (Ne.symm (Nat.ne_of_lt (Nat.lt_succ_of_lt B.fm.ns.lt))) (.inl (Nat.le_succ_of_le big))
  exact q (h.objs.size + 1) _ e sn B2
end
noncomputable def IsN (v : Value) (n : Nat) : Prop := ∃ t, v = .int n t
theorem IsN.ints : ∀ {vs : List Value} {ns : List Nat}, All2 IsN vs ns → IntsAre vs (ns.map fun (n : Nat) => (n : Int))
  | _, _, .nil => .nil
  | _, _, .cons ⟨t, e⟩ r => by subst e; exact .cons _ _ (IsN.ints r)
noncomputable def Ul (σ : Mp) (H : Hp) (a : Addr) (vs : List Value) : Prop := ∃ n, σ a = some (lisO vs n) ∧ Untr H a
theorem Ul.kp {σ σ' : Mp} {H H' : Hp} {a : Addr} {vs : List Value} (X : Ul σ H a vs) (k : Kp σ H σ' H') : Ul σ' H' a vs := by
  refine hide fun CCC kkk => ?_
  obtain ⟨n, e, u⟩ := X
  refine kkk ?_; clear kkk
  refine hide fun CCC kkk => ?_
  obtain ⟨e', u'⟩ := k _ _ e u
  refine kkk ?_; clear kkk
  exact ⟨n, e', u'⟩
theorem Ul.lo {σ : Mp} {H : Hp} {a : Addr} {vs : List Value} (X : Ul σ H a vs) : LO σ a vs := let ⟨n, e, _⟩ := X; ⟨n, e⟩
theorem Ul.new {σ : Mp} {H : Hp} {a : Addr} {vs : List Value} (X : HpIn σ H) (e : σ a = none) {n : Nat} : Ul (put σ a (lisO vs n)) H a vs := ⟨n, put_self, X.untr_new e⟩
section
variable {prog : Program} {w : World} {A : Around} {E : Value → Shared → Prop} {md : Kd → Bool} {σ₀ σ : Mp} {H₀ H : Hp} {h₀ h : Heap} {g : Array GenState} {d : Drawn} {t : Nat} {os : OsState} {L a D : Addr} {m : Str → Option Value} {vs : List Value} {vx vy : Value}
  {env : Env} {x y : Str} {px py : Pos} {x1 : Nat} {pt : Pos}
theorem noneAt (_ : Fm w σ₀ h₀ σ L h m) : h.get? h.objs.size = none := by
  cases q : h.get? h.objs.size with
  | none => rfl
  | some o => exact absurd (Heap.lt_size q) (Nat.lt_irrefl _)
theorem unpack2 {Q : Shared → Prop} (B : Bd w md σ₀ h₀ H₀ σ H L h m) (ht : TO σ a [vx, vy]) (hh : A.handled = none)
    (q : ∀ h', Bd w md σ₀ h₀ H₀ σ H L h' (ms x vx (ms y vy m)) → Q ⟨h', g, d, t + 1 + 1, os⟩)
    (hk : env.scope.kind = .function) (hx : env.kindOf x = some .local) (hy : env.kindOf y = some .local) (hL : env.locals = L) :
    wpAny (model prog w) A (unpackItems (.ref a) [x, y].length none) (fun items s₂ => wpAny (model prog w) A (assignInOrder ([x, y].reverse.map fun n => bindName env n) items.reverse) (fun _ s' => Q s') E s₂) E ⟨h, g, d, t, os⟩ := by
  refine unpackItems_tuple (items := #[vx, vy]) hh (B.fm.tup ht) fun h' he => ?_
  have B1 := B.with (B.fm.ext he (noneAt B.fm))
  show wpAny _ A (do holding [vx] (bindName env y vy); do holding [] (bindName env x vx); pure ()) _ _ _
  refine wpAny_bind (wpAny_holding (wpAny_bindName (stG B1 (fun h2 B2 => ?_) hk hy hL)))
  exact wpAny_bind (wpAny_holding (wpAny_bindName (stG B2 (fun h3 B3 => wpAny_pure (q _ B3)) hk hx hL)))
theorem unpackL2 {Q : Unit → Shared → Prop} (B : Bd w md σ₀ h₀ H₀ σ H L h m) (hl : LO σ D [vx, vy]) (hh : A.handled = none)
    (q : ∀ h', Bd w md σ₀ h₀ H₀ σ H L h' (ms y vy (ms x vx m)) → Q () ⟨h', g, d, t + 1 + 1, os⟩)
    (hk : env.scope.kind = .function) (hx : env.kindOf x = some .local) (hy : env.kindOf y = some .local) (hL : env.locals = L) :
    wpAny (model prog w) A (assign (.Tuple [.Name x px, .Name y py] x1 pt) env (.ref D)) Q E ⟨h, g, d, t, os⟩ := by
  rw [arm_assign_Tuple]
  refine wpAny_bind (wpAny_standAt ?_)
  unfold unpack
  refine wpAny_bind (wpAny_holding ?_)
  have l := B.fm.lst hl
  have hne : D ≠ h.objs.size := by obtain ⟨o, e, _⟩ := l; exact Nat.ne_of_lt (Heap.lt_size e)
  show wpAny _ A (unpackItems (.ref D) 2 none) _ _ _
  unfold unpackItems
  refine wpAny_bind ?_
  · unfold notIterableAtAll
    refine wpAny_bind (wpAny_specialOf l.typeIs slot_list_iter.lookup ?_)
    refine wpAny_pure ?_
    simp only [Bool.false_eq_true, if_false]
    refine wpAny_bind (wpAny_holding (wpAny_pyIter_list l ?_))
    have up : ∀ b o, h.get? b = some o → (h.push { cls := .type "list_iterator", data := .fields #[.ref D, .int 0 0] }).get? b = some o := fun b o e => Heap.get?_push_of_some _ e
    refine wpAny_bind (wpAny_holding ?_)
    show wpAny _ A (pyNext (.ref h.objs.size) >>= _) _ _ _
    refine wpAny_bind (wpAny_pyNext_list_item (x := vx) (items := #[vx, vy]) ⟨_, Heap.get?_push_size _ rfl, rfl, rfl⟩ (l.push _) rfl fun h₁ i₁ s₁ => ?_)
    refine wpAny_bind (wpAny_holding ?_)
    show wpAny _ A (pyNext (.ref h.objs.size) >>= _) _ _ _
    refine wpAny_bind (wpAny_pyNext_list_item (x := vy) (items := #[vx, vy]) i₁ ((l.push _).extBut s₁.extBut hne) rfl fun h₂ i₂ s₂ => ?_)
    refine wpAny_bind (wpAny_holding (wpAny_pure (wpAny_pure (wpAny_pure ?_))))
    rw [if_neg (by simp)]
    refine wpAny_bind (wpAny_holding (wpAny_pyNext_list_end (items := #[vx, vy]) hh i₂ (((l.push _).extBut s₁.extBut hne).extBut s₂.extBut hne) rfl fun h₃ e₃ => ?_))
    simp only [Option.isSome_none, Bool.false_eq_true, if_false]
    refine wpAny_pure ?_
    have B1 := B.with (B.fm.ext (b := h.objs.size) (h' := h₃) (fun b o hb e => e₃ b o hb (s₂.extBut b o hb (s₁.extBut b o hb (up b o e)))) (noneAt B.fm))
    show wpAny _ A (do holding [vy] (assign (.Name x px) env vx); do holding [] (assign (.Name y py) env vy); pure ()) _ _ _
    refine wpAny_bind (wpAny_holding (wpAny_assign_Name (stG B1 (fun h2 B2 => ?_) hk hx hL)))
    exact wpAny_bind (wpAny_holding (wpAny_assign_Name (stG B2 (fun h3 B3 => wpAny_pure (q _ B3)) hk hy hL)))
theorem eqN {s : Shared} {v : Value} {n k : Nat} {tk : Tok} (h : IsN v n) : SeqAt.EqAt A s v (.int k tk) (decide (n = k)) := by
  refine hide fun CCC kkk => ?_
  obtain ⟨t, rfl⟩ := h
  refine kkk ?_; clear kkk
  have := SeqAt.EqAt.int_int (A := A) (s := s) (n : Int) t (k : Int) tk
  rw [show ((n : Int) == (k : Int)) = decide (n = k) by by_cases q : n = k <;> simp [q]; intro z; exact q (by lia)] at this
  exact this
theorem All2.memV {α : Type} {R : Value → α → Prop} : ∀ {vs : List Value} {xs : List α}, All2 R vs xs → ∀ v ∈ vs, ∃ x ∈ xs, R v x
  | _, _, .nil, v, hv => nomatch hv
  | _, _, .cons (x := x) a r, v, hv => by
    rcases List.mem_cons.mp hv with rfl | hv
    · exact ⟨x, .head _, a⟩
    · obtain ⟨y, hy, hr⟩ := r.memV v hv; exact ⟨y, .tail _ hy, hr⟩
theorem notInN {Q : Value → Shared → Prop} {ns : List Nat} {k : Nat} {tk : Tok} (c : Bool) (B : Bd w md σ₀ h₀ H₀ σ H L h m) (l : LO σ D vs) (hv : All2 IsN vs ns) (hc : (!decide (k ∈ ns)) = c) (q : Q (.bool c) ⟨h, g, d, t, os⟩) :
    wpAny (model prog w) A (compareOp .NotIn (.int k tk) (.ref D)) Q E ⟨h, g, d, t, os⟩ := by
  refine SeqAt.notIn_listAt (s := ⟨h, g, d, t, os⟩) (items := vs.toArray) (fun v => match v with | .int i _ => decide (i = (k : Int)) | _ => false) (B.fm.lst l) (fun v hv' => ?_) ?_
  · refine hide fun CCC kkk => ?_
    obtain ⟨n, _, tn, rfl⟩ := hv.memV v (by simpa using hv')
    refine kkk ?_; clear kkk
    have := eqN (A := A.in1) (s := ⟨h, g, d, t, os⟩) (n := n) (k := k) (tk := tk) ⟨tn, rfl⟩
    show SeqAt.EqAt _ _ _ _ (decide ((n : Int) = (k : Int)))
    rwa [show decide ((n : Int) = (k : Int)) = decide (n = k) by by_cases q : n = k <;> simp [q]; intro z; exact q (by lia)]
  · have e : (vs.toArray.any fun v => match v with | .int i _ => decide (i = (k : Int)) | _ => false) = decide (k ∈ ns) := by
      rw [List.any_toArray]
      clear q hc l
      induction hv with
      | nil => rfl
      | cons h r ih =>
        refine hide fun CCC kkk => ?_
        obtain ⟨tn, rfl⟩ := h
        refine kkk ?_; clear kkk
        rw [List.any_cons, ih]
        rename_i n _ ns
        by_cases e1 : n = k
        · subst e1; simp
        · have : ¬ k = n := fun z => e1 z.symm
          simp [this]; intro z; lia
    rw [e, hc]; exact q
end
noncomputable def Tm.succ : Tm → List Nat
  | .goto b => [b]
  | .drop _ b => [b]
  | _ => []
section
variable {prog : Program} {w : World} {A : Around} {E : Value → Shared → Prop} {σ : Mp} {H : Hp} {h : Heap} {g : Array GenState} {d : Drawn} {t : Nat} {os : OsState} {Q : Value → Shared → Prop} {k : Nat}
theorem isnN {M : Model} {s : Shared} {n : Int} {tk : Tok} {Q : Value → Shared → Prop} (q : Q (.bool true) s) : wpAny M A (compareOp .IsNot (.int n tk) .none) Q E s := isnot_int_none q
theorem succ_spec {v : Value} {tm : Tm} (O : Ok w σ h) (R : Room 2 A) (hv : TmIs σ v tm) (hn : tm ≠ .none)
    (q : ∀ h' t' σ' r vs, Pu w σ h σ' h' → LO σ' r vs → All2 IsN vs tm.succ → Q (.ref r) ⟨h', g, d, t', os⟩) :
    wpAny (model prog w) A (call (.ref 91) [v]) Q E ⟨h, g, d, t, os⟩ := by
  refine' enter (binds := [("terminator", v)]) O R ?a1 ?a2 ?a3 ?a4 ?a5 ?_ ?a6 ?a7 ?a8
  walk_at "ent"
  intro L h₁ F
  have B := Bd.start (md := mdL) F (H0.in σ)
  cases tm with
  | none => exact absurd rfl hn
  | goto b =>
    refine hide fun CCC kkk => ?_
    obtain ⟨a, t1, t2, rfl, l⟩ := hv
    refine kkk ?_; clear kkk
    repeat walk_at "x"
    refine itemTF (i := 0) B.fm l rfl (by decide) ?_
    repeat walk_at "x"
    rename Bd _ _ _ _ _ _ _ _ _ _ => B
    refine itemTF (i := 1) B.fm l rfl (by decide) ?_
    repeat walk_at "x"
    refine newListB B (by exact Nat.le_of_ble_eq_true rfl) fun td h3 e1 e2 B => ?_
    have UT : Ul _ _ td [Value.int b t2] := Ul.new (H0.in _) e1 (n := 0)
    repeat walk_at "x"
    rename Bd _ _ _ _ _ _ _ _ _ _ => B
    refine newListK (.il 0) B (by exact Nat.le_of_ble_eq_true rfl) rfl fun fd h4 e3 e4 B => ?_
    replace UT := UT.kp (Kp.add (k := .il 0) (o := lisO [] 0) e3)
    repeat walk_at "x"
    refine wpAny_For ?_ (fun _ => rfl)
    repeat walk_at "x"
    rename Bd _ _ _ _ _ _ _ _ _ _ => B
    refine startList (k := .it 0) B UT.lo rfl fun it h5 o e5 e6 B2 => ?_
    refine loopG (n := 1) (Itr.list (D := td) (vs := [Value.int b t2]) (k := .it 0) R.2.2 tgtN)
      (fun i σ' H' m' => Ul σ' H' td [Value.int b t2] ∧ (∃ n', H' (.il 0) = some (fd, lisO ([Value.int b t2].take i) n')) ∧ m' "found" = some (.ref fd)) B2 ?_ ?_ ⟨o, upd_self, e6⟩ ?_ ?_ ?_ ?_ ?_
    · intro k hk; rw [of_decide_eq_true hk]; rfl
    · intro k a' o' hk e
      rw [of_decide_eq_true hk, upd_self] at e; cases e
      exact B.new e5
    · exact ⟨UT.kp (Kp.add e5), ⟨0, Eq.trans (upd_ne nofun) upd_self⟩, rfl⟩
    · intro i σ H m σ' H' X X' kp oth zzq10
      refine hide fun CCC kkk => ?_
      obtain ⟨z1, ⟨n', z2⟩, z3⟩ := zzq10
      refine kkk ?_; clear kkk
      exact ⟨z1.kp kp, ⟨n', (oth _ rfl).trans z2⟩, z3⟩
    · rintro i σ H m X ⟨z1, _⟩; exact z1.lo
    · intro i v σ1 H1 h3 m1 t3 QQ fin hi hv zzq11 B
      refine hide fun CCC kkk => ?_
      obtain ⟨z1, ⟨n', z2⟩, z3⟩ := zzq11
      refine kkk ?_; clear kkk
      obtain rfl : i = 0 := by lia
      cases hv
      refine wpAny_assign_Name ?_
      repeat walk_at "x"
      rename Bd _ _ _ _ _ _ _ _ _ _ => B
      refine isnN ?_
      repeat walk_at "x"
      refine notInN true B ⟨n', B.hp.at_ _ _ _ z2⟩ .nil rfl ?_
      repeat walk_at "x"
      refine methA B.fm ⟨n', B.hp.at_ _ _ _ z2⟩ ?_
      dsimp only
      repeat walk_at "x"
      refine appendK (kd := .il 0) B z2 (by simp) rfl fun h6 n6 B => ?_
      repeat walk_at "x"
      exact fin.nx B ⟨z1.kp (Kp.set z2), ⟨n6, upd_self⟩, z3⟩ (fun k hk => upd_ne (by rw [of_decide_eq_true hk]; nofun))
    · intro σ1 H1 h3 m1 t3 zzq5 B
      refine hide fun CCC kkk => ?_
      obtain ⟨z1, ⟨n', z2⟩, z3⟩ := zzq5
      refine kkk ?_; clear kkk
      repeat walk_at "x"
      rename Bd _ _ _ _ _ _ _ _ _ _ => B
      repeat walk_at "x"
      exact q _ _ _ _ _ B.pu ⟨n', B.hp.at_ _ _ _ z2⟩ (.cons ⟨_, rfl⟩ .nil)
  | drop l0 b =>
    refine hide fun CCC kkk => ?_
    obtain ⟨a, t1, p, t2, e, t3, rfl, l, l2, l3⟩ := hv
    refine kkk ?_; clear kkk
    repeat walk_at "x"
    refine itemTF (i := 0) B.fm l rfl (by decide) ?_
    repeat walk_at "x"
    rename Bd _ _ _ _ _ _ _ _ _ _ => B
    refine itemTF (i := 2) B.fm l rfl (by decide) ?_
    repeat walk_at "x"
    refine newListB B (by exact Nat.le_of_ble_eq_true rfl) fun td h3 e1 e2 B => ?_
    have UT : Ul _ _ td [Value.int b t2] := Ul.new (H0.in _) e1 (n := 0)
    repeat walk_at "x"
    rename Bd _ _ _ _ _ _ _ _ _ _ => B
    refine newListK (.il 0) B (by exact Nat.le_of_ble_eq_true rfl) rfl fun fd h4 e3 e4 B => ?_
    replace UT := UT.kp (Kp.add (k := .il 0) (o := lisO [] 0) e3)
    repeat walk_at "x"
    refine wpAny_For ?_ (fun _ => rfl)
    repeat walk_at "x"
    rename Bd _ _ _ _ _ _ _ _ _ _ => B
    refine startList (k := .it 0) B UT.lo rfl fun it h5 o e5 e6 B2 => ?_
    refine loopG (n := 1) (Itr.list (D := td) (vs := [Value.int b t2]) (k := .it 0) R.2.2 tgtN)
      (fun i σ' H' m' => Ul σ' H' td [Value.int b t2] ∧ (∃ n', H' (.il 0) = some (fd, lisO ([Value.int b t2].take i) n')) ∧ m' "found" = some (.ref fd)) B2 ?_ ?_ ⟨o, upd_self, e6⟩ ?_ ?_ ?_ ?_ ?_
    · intro k hk; rw [of_decide_eq_true hk]; rfl
    · intro k a' o' hk e
      rw [of_decide_eq_true hk, upd_self] at e; cases e
      exact B.new e5
    · exact ⟨UT.kp (Kp.add e5), ⟨0, Eq.trans (upd_ne nofun) upd_self⟩, rfl⟩
    · intro i σ H m σ' H' X X' kp oth zzq10
      refine hide fun CCC kkk => ?_
      obtain ⟨z1, ⟨n', z2⟩, z3⟩ := zzq10
      refine kkk ?_; clear kkk
      exact ⟨z1.kp kp, ⟨n', (oth _ rfl).trans z2⟩, z3⟩
    · rintro i σ H m X ⟨z1, _⟩; exact z1.lo
    · intro i v σ1 H1 h3 m1 t3 QQ fin hi hv zzq11 B
      refine hide fun CCC kkk => ?_
      obtain ⟨z1, ⟨n', z2⟩, z3⟩ := zzq11
      refine kkk ?_; clear kkk
      obtain rfl : i = 0 := by lia
      cases hv
      refine wpAny_assign_Name ?_
      repeat walk_at "x"
      rename Bd _ _ _ _ _ _ _ _ _ _ => B
      refine isnN ?_
      repeat walk_at "x"
      refine notInN true B ⟨n', B.hp.at_ _ _ _ z2⟩ .nil rfl ?_
      repeat walk_at "x"
      refine methA B.fm ⟨n', B.hp.at_ _ _ _ z2⟩ ?_
      dsimp only
      repeat walk_at "x"
      refine appendK (kd := .il 0) B z2 (by simp) rfl fun h6 n6 B => ?_
      repeat walk_at "x"
      exact fin.nx B ⟨z1.kp (Kp.set z2), ⟨n6, upd_self⟩, z3⟩ (fun k hk => upd_ne (by rw [of_decide_eq_true hk]; nofun))
    · intro σ1 H1 h3 m1 t3 zzq5 B
      refine hide fun CCC kkk => ?_
      obtain ⟨z1, ⟨n', z2⟩, z3⟩ := zzq5
      refine kkk ?_; clear kkk
      repeat walk_at "x"
      rename Bd _ _ _ _ _ _ _ _ _ _ => B
      repeat walk_at "x"
      exact q _ _ _ _ _ B.pu ⟨n', B.hp.at_ _ _ _ z2⟩ (.cons ⟨_, rfl⟩ .nil)
  | ret =>
    refine hide fun CCC kkk => ?_
    obtain ⟨a, t1, rfl, l⟩ := hv
    refine kkk ?_; clear kkk
    repeat walk_at "x"
    refine itemTF (i := 0) B.fm l rfl (by decide) ?_
    repeat walk_at "x"
    rename Bd _ _ _ _ _ _ _ _ _ _ => B
    refine newListB B (by exact Nat.le_of_ble_eq_true rfl) fun td h3 e1 e2 B => ?_
    have UT : Ul _ _ td ([] : List Value) := Ul.new (H0.in _) e1 (n := 0)
    repeat walk_at "x"
    rename Bd _ _ _ _ _ _ _ _ _ _ => B
    refine newListK (.il 0) B (by exact Nat.le_of_ble_eq_true rfl) rfl fun fd h4 e3 e4 B => ?_
    replace UT := UT.kp (Kp.add (k := .il 0) (o := lisO [] 0) e3)
    repeat walk_at "x"
    refine wpAny_For ?_ (fun _ => rfl)
    repeat walk_at "x"
    rename Bd _ _ _ _ _ _ _ _ _ _ => B
    refine startList (k := .it 0) B UT.lo rfl fun it h5 o e5 e6 B2 => ?_
    refine loopG (n := 0) (Itr.list (D := td) (vs := ([] : List Value)) (k := .it 0) R.2.2 tgtN)
      (fun i σ' H' m' => Ul σ' H' td ([] : List Value) ∧ (∃ n', H' (.il 0) = some (fd, lisO (([] : List Value).take i) n')) ∧ m' "found" = some (.ref fd)) B2 ?_ ?_ ⟨o, upd_self, e6⟩ ?_ ?_ ?_ ?_ ?_
    · intro k hk; rw [of_decide_eq_true hk]; rfl
    · intro k a' o' hk e
      rw [of_decide_eq_true hk, upd_self] at e; cases e
      exact B.new e5
    · exact ⟨UT.kp (Kp.add e5), ⟨0, Eq.trans (upd_ne nofun) upd_self⟩, rfl⟩
    · intro i σ H m σ' H' X X' kp oth zzq10
      refine hide fun CCC kkk => ?_
      obtain ⟨z1, ⟨n', z2⟩, z3⟩ := zzq10
      refine kkk ?_; clear kkk
      exact ⟨z1.kp kp, ⟨n', (oth _ rfl).trans z2⟩, z3⟩
    · rintro i σ H m X ⟨z1, _⟩; exact z1.lo
    · intro i v σ1 H1 h3 m1 t3 QQ fin hi hv zzq11 B
      refine hide fun CCC kkk => ?_
      obtain ⟨z1, ⟨n', z2⟩, z3⟩ := zzq11
      refine kkk ?_; clear kkk
      exact absurd hi (Nat.not_lt_zero _)
    · intro σ1 H1 h3 m1 t3 zzq5 B
      refine hide fun CCC kkk => ?_
      obtain ⟨z1, ⟨n', z2⟩, z3⟩ := zzq5
      refine kkk ?_; clear kkk
      repeat walk_at "x"
      rename Bd _ _ _ _ _ _ _ _ _ _ => B
      repeat walk_at "x"
      exact q _ _ _ _ _ B.pu ⟨n', B.hp.at_ _ _ _ z2⟩ .nil
  | unr =>
    refine hide fun CCC kkk => ?_
    obtain ⟨a, t1, rfl, l⟩ := hv
    refine kkk ?_; clear kkk
    repeat walk_at "x"
    refine itemTF (i := 0) B.fm l rfl (by decide) ?_
    repeat walk_at "x"
    rename Bd _ _ _ _ _ _ _ _ _ _ => B
    refine newListB B (by exact Nat.le_of_ble_eq_true rfl) fun td h3 e1 e2 B => ?_
    have UT : Ul _ _ td ([] : List Value) := Ul.new (H0.in _) e1 (n := 0)
    repeat walk_at "x"
    rename Bd _ _ _ _ _ _ _ _ _ _ => B
    refine newListK (.il 0) B (by exact Nat.le_of_ble_eq_true rfl) rfl fun fd h4 e3 e4 B => ?_
    replace UT := UT.kp (Kp.add (k := .il 0) (o := lisO [] 0) e3)
    repeat walk_at "x"
    refine wpAny_For ?_ (fun _ => rfl)
    repeat walk_at "x"
    rename Bd _ _ _ _ _ _ _ _ _ _ => B
    refine startList (k := .it 0) B UT.lo rfl fun it h5 o e5 e6 B2 => ?_
    refine loopG (n := 0) (Itr.list (D := td) (vs := ([] : List Value)) (k := .it 0) R.2.2 tgtN)
      (fun i σ' H' m' => Ul σ' H' td ([] : List Value) ∧ (∃ n', H' (.il 0) = some (fd, lisO (([] : List Value).take i) n')) ∧ m' "found" = some (.ref fd)) B2 ?_ ?_ ⟨o, upd_self, e6⟩ ?_ ?_ ?_ ?_ ?_
    · intro k hk; rw [of_decide_eq_true hk]; rfl
    · intro k a' o' hk e
      rw [of_decide_eq_true hk, upd_self] at e; cases e
      exact B.new e5
    · exact ⟨UT.kp (Kp.add e5), ⟨0, Eq.trans (upd_ne nofun) upd_self⟩, rfl⟩
    · intro i σ H m σ' H' X X' kp oth zzq10
      refine hide fun CCC kkk => ?_
      obtain ⟨z1, ⟨n', z2⟩, z3⟩ := zzq10
      refine kkk ?_; clear kkk
      exact ⟨z1.kp kp, ⟨n', (oth _ rfl).trans z2⟩, z3⟩
    · rintro i σ H m X ⟨z1, _⟩; exact z1.lo
    · intro i v σ1 H1 h3 m1 t3 QQ fin hi hv zzq11 B
      refine hide fun CCC kkk => ?_
      obtain ⟨z1, ⟨n', z2⟩, z3⟩ := zzq11
      refine kkk ?_; clear kkk
      exact absurd hi (Nat.not_lt_zero _)
    · intro σ1 H1 h3 m1 t3 zzq5 B
      refine hide fun CCC kkk => ?_
      obtain ⟨z1, ⟨n', z2⟩, z3⟩ := zzq5
      refine kkk ?_; clear kkk
      repeat walk_at "x"
      rename Bd _ _ _ _ _ _ _ _ _ _ => B
      repeat walk_at "x"
      exact q _ _ _ _ _ B.pu ⟨n', B.hp.at_ _ _ _ z2⟩ .nil
end
structure Chain (bs : List (List St × Tm)) (path : List Nat) : Prop where
  head : path[0]? = some 0
  step : ∀ (i b : Nat), path[i]? = some b → ∃ x, bs[b]? = some x ∧ x.2 ≠ .none ∧ x.2.succ = (path[i + 1]?).toList
  inc : ∀ (i b b' : Nat), path[i]? = some b → path[i + 1]? = some b' → b < b'
section
variable {bs : List (List St × Tm)} {path : List Nat}
theorem Chain.lt (X : Chain bs path) {i b : Nat} (e : path[i]? = some b) : b < bs.length := let ⟨_, e', _⟩ := X.step i b e; (List.getElem?_eq_some_iff.mp e').1
theorem Chain.mono (X : Chain bs path) {i b : Nat} (ei : path[i]? = some b) : ∀ {j : Nat}, i < j → ∀ {b' : Nat}, path[j]? = some b' → b < b'
  | 0, h, _, _ => absurd h (Nat.not_lt_zero _)
  | j + 1, h, b', ej => by
    have lt : j < path.length := Nat.lt_of_succ_lt (List.getElem?_eq_some_iff.mp ej).1
    have em : path[j]? = some path[j] := List.getElem?_eq_getElem lt
    have s := X.inc j _ _ em ej
    by_cases q : i = j
    · subst q; rw [ei] at em; cases em; exact s
    · exact Nat.lt_trans (X.mono ei (by lia) em) s
theorem Chain.notin (X : Chain bs path) {i b : Nat} (e : path[i]? = some b) : b ∉ path.take i := fun h => by
  refine hide fun CCC kkk => ?_
  obtain ⟨j, hj⟩ := List.mem_iff_getElem?.mp h
  refine kkk ?_; clear kkk
  rw [List.getElem?_take] at hj
  split at hj
  · rename_i lt; exact Nat.lt_irrefl _ (X.mono hj lt e)
  · cases hj
end
section
variable {σ : Mp} {H : Hp} {c : Cs} {a : SA} {kd : Kd} {p : Addr} {o o' : Obj}
theorem Sc.kadd (Y : Sc σ H c a) (kd : Kd) (hk : kd.cl ≠ 1) (e : σ p = none) : Sc (Mine.put σ p o) (upd H kd p o) c a := Y.mono (Le.put e _).tk fun j hj => upd_ne (by rintro rfl; exact hk hj)
theorem Sc.kset (Y : Sc σ H c a) (X : HpIn σ H) (hk : kd.cl ≠ 1) (e : H kd = some (p, o)) : Sc (Mine.put σ p o') (upd H kd p o') c a := Y.mono (Tk.put_at (X.at_ _ _ _ e) (X.no _ _ _ e)) fun j hj => upd_ne (by rintro rfl; exact hk hj)
theorem Sc.kown (Y : Sc σ H c a) (e : σ p = none) : Sc (Mine.put σ p o) H c a := Y.mono (Le.put e _).tk fun _ _ => rfl
theorem Sc.kpu {w : World} {h h' : Heap} {σ' : Mp} (Y : Sc σ H c a) (P : Pu w σ h σ' h') : Sc σ' H c a := Y.mono P.le.tk fun _ _ => rfl
section
variable {w : World} {md : Kd → Bool} {σ₀ : Mp} {H₀ : Hp} {h₀ h : Heap} {L : Addr} {m : Str → Option Value}
theorem Sc.addB (Y : Sc σ H c a) (_ : Bd w md σ₀ h₀ H₀ (Mine.put σ p o) (upd H kd p o) L h m) (e : σ p = none) (hk : kd.cl ≠ 1) : Sc (Mine.put σ p o) (upd H kd p o) c a := Y.kadd kd hk e
theorem Sc.setB (Y : Sc σ H c a) (_ : Bd w md σ₀ h₀ H₀ (Mine.put σ p o') (upd H kd p o') L h m) (X : HpIn σ H) (e : H kd = some (p, o)) (hk : kd.cl ≠ 1) : Sc (Mine.put σ p o') (upd H kd p o') c a := Y.kset X hk e
theorem keepB {j : Kd} {r : Option (Addr × Obj)} (_ : Bd w md σ₀ h₀ H₀ σ (upd H kd p o) L h m) (e : H j = r) (hj : j ≠ kd) : upd H kd p o j = r := (upd_ne hj).trans e
theorem Sc.ownB (Y : Sc σ H c a) (_ : Bd w md σ₀ h₀ H₀ (Mine.put σ p o) H L h m) (e : σ p = none) : Sc (Mine.put σ p o) H c a := Y.kown e
end
theorem IsN.cons1 {ws : List Value} {n : Nat} (h : All2 IsN ws [n]) : ∃ t, ws = [.int n t] := by
  cases h with
  | cons a r => cases r; obtain ⟨t, rfl⟩ := a; exact ⟨t, rfl⟩
end
section
variable {prog : Program} {w : World} {A : Around} {E : Value → Shared → Prop} {σ : Mp} {H : Hp} {h : Heap} {g : Array GenState} {d : Drawn} {t : Nat} {os : OsState} {Q : Value → Shared → Prop} {k : Nat} {c : Cs} {a : SA}
theorem reach_spec {path : List Nat} (O : Ok w σ h) (R : Room 4 A) (X : HpIn σ H) (Y : Sc σ H c a) (hs : a.Small 100000) (C : Chain a.blocks path) (hz : path.length ≤ 100000)
    (q : ∀ h' t' σ' H' r vs, Nx w mdL σ h H σ' h' H' → Sc σ' H' c a → LO σ' r vs → All2 IsN vs path → Q (.ref r) ⟨h', g, d, t', os⟩) :
    wpAny (model prog w) A (call (.ref 103) [.ref c.B]) Q E ⟨h, g, d, t, os⟩ := by
  refine' enter (binds := [("body", .ref c.B)]) O R ?a1 ?a2 ?a3 ?a4 ?a5 ?_ ?a6 ?a7 ?a8
  walk_at "ent"
  intro L h₁ F
  have B := Bd.start (md := mdL) F X
  refine wpAny_execs_cons ?_
  refine Assign_Tuple_swapped (names := ["found", "waiting"]) ?_ (by rfl) (by with_unfolding_all rfl)
  repeat walk_at "x"
  refine newListK (.il 0) B (by exact Nat.le_of_ble_eq_true rfl) rfl fun fd h2 e1 e2 B => ?_
  replace Y := Y.addB B e1 (by decide)
  repeat walk_at "x"
  refine newListK (.il 1) B (by exact Nat.le_of_ble_eq_true rfl) rfl fun wd h3 e3 e4 B => ?_
  replace Y := Y.addB B e3 (by decide)
  repeat walk_at "x"
  refine newTupleB B (by exact Nat.le_of_ble_eq_true rfl) fun ta h4 e5 e6 B => ?_
  replace Y := Y.ownB B e5
  refine unpack2 (x := "found") (y := "waiting") B put_self ?gh ?g0 ?g1 ?g2 ?g3 ?g4
  case gh => exact R.2.2
  case g1 => rfl
  case g2 => rfl
  case g3 => rfl
  case g4 => rfl
  intro h5 B
  repeat walk_at "x"
  refine whileB (fun n σ' H' m' => ∃ i vs ws n1 n2, n = path.length - i ∧ i ≤ path.length ∧ H' (.il 0) = some (fd, lisO vs n1) ∧ All2 IsN vs (path.take i) ∧ H' (.il 1) = some (wd, lisO ws n2) ∧ All2 IsN ws ((path.drop i).take 1) ∧
    Sc σ' H' c a ∧ m' "found" = some (.ref fd) ∧ m' "waiting" = some (.ref wd) ∧ m' "body" = some (.ref c.B)) path.length B ?_ ?_
  · refine ⟨0, [], _, 0, 0, rfl, Nat.zero_le _, Eq.trans (upd_ne nofun) upd_self, .nil, upd_self, ?_, Y, rfl, rfl, rfl⟩
    obtain ⟨rest, e⟩ : ∃ rest, path = 0 :: rest := by
      cases path with
      | nil => cases C.head
      | cons b r => have := C.head; cases this; exact ⟨r, rfl⟩
    rw [e]
    exact .cons ⟨_, rfl⟩ .nil
  intro n σ1 H1 h6 m1 t1 QQ fin zzq8 B
  refine hide fun CCC kkk => ?_
  obtain ⟨i, vs, ws, n1, n2, rfl, hi, z1, z2, z3, z4, Y, z6, z7, z8⟩ := zzq8
  refine kkk ?_; clear kkk
  repeat walk_at "x"
  refine newListB B (by exact Nat.le_of_ble_eq_true rfl) fun na h5 e5 e6 B => ?_
  replace Y := Y.ownB B e5
  repeat walk_at "x"
  rename Bd _ _ _ _ _ _ _ _ _ _ => B
  cases hb : path[i]? with
  | none =>
    have hl : path.length ≤ i := by simpa using hb
    rw [List.drop_eq_nil_of_le hl] at z4
    cases z4
    refine neNil false B.fm (R.deeper.le (by decide)) ⟨n2, B.hp.at_ _ _ _ z3⟩ ⟨_, put_self⟩ rfl ?_
    repeat walk_at "x"
    rename Bd _ _ _ _ _ _ _ _ _ _ => B
    rw [List.take_of_length_le hl] at z2
    repeat walk_at "x"
    exact q _ _ _ _ _ _ B.nx Y ⟨_, B.hp.at_ _ _ _ z1⟩ z2
  | some b =>
    have lt : i < path.length := (List.getElem?_eq_some_iff.mp hb).1
    have ed : (path.drop i).take 1 = [b] := by
      rw [List.drop_eq_getElem_cons lt]
      have : path[i] = b := (List.getElem?_eq_some_iff.mp hb).2
      rw [this]; rfl
    rw [ed] at z4
    refine hide fun CCC kkk => ?_
    obtain ⟨tb, rfl⟩ := IsN.cons1 z4
    refine kkk ?_; clear kkk
    refine neNil true B.fm (R.deeper.le (by decide)) ⟨n2, B.hp.at_ _ _ _ z3⟩ ⟨_, put_self⟩ rfl ?_
    repeat walk_at "x"
    refine methP B.fm ⟨n2, B.hp.at_ _ _ _ z3⟩ ?_
    dsimp only
    repeat walk_at "x"
    have X0 := B.hp
    refine popK (vs := []) (kd := .il 1) B z3 (by simp) rfl fun h7 n3 B => ?_
    replace Y := Y.setB B X0 z3 (by decide)
    replace z1 := keepB B z1 nofun
    repeat walk_at "x"
    rename Bd _ _ _ _ _ _ _ _ _ _ => B
    refine notInN true B ⟨_, B.hp.at_ _ _ _ z1⟩ z2 (by simp [C.notin hb]) ?_
    repeat walk_at "x"
    refine methA B.fm ⟨_, B.hp.at_ _ _ _ z1⟩ ?_
    dsimp only
    repeat walk_at "x"
    rename Bd _ _ _ _ _ _ _ _ _ _ => B
    have X1 := B.hp
    have vl : vs.length ≤ 100000 := by rw [z2.length, List.length_take]; lia
    have e1' := z1
    refine appendK (kd := .il 0) B z1 (by lia) rfl fun h8 n4 B => ?_
    replace Y := Y.setB B X1 z1 (by decide)
    have z3' := keepB B upd_self (j := .il 1) nofun
    replace z2 : All2 IsN (vs ++ [.int b tb]) (path.take (i + 1)) := by
      rw [List.take_add_one, hb]; exact z2.snoc ⟨tb, rfl⟩
    repeat walk_at "x"
    rename Bd _ _ _ _ _ _ _ _ _ _ => B
    have IB := Y.objB B.hp
    refine methE B.fm ⟨_, B.hp.at_ _ _ _ z3'⟩ ?_
    dsimp only
    refine hide fun CCC kkk => ?_
    obtain ⟨x, xb, xn, xs⟩ := C.step i b hb
    refine kkk ?_; clear kkk
    refine hide fun CCC kkk => ?_
    obtain ⟨nb, bvs, ba, bs, m1, m2, tv, ss, k1, k2, k3, k4, k5, k6⟩ := Y.block B.hp xb
    refine kkk ?_; clear kkk
    repeat walk_at "x"
    rename Bd _ _ _ _ _ _ _ _ _ _ => B
    refine bterm_spec B.fm.ok (R.deeper.le (by decide)) IB ⟨nb, B.hp.at_ _ _ _ k1⟩ k2 (by have := C.lt hb; have := hs.k; lia) ⟨m1, B.hp.at_ _ _ _ k3⟩ fun h9 t9 P => ?_
    replace B := B.pure P
    repeat walk_at "x"
    refine succ_spec B.fm.ok (R.deeper.le (by decide)) k6 xn fun h9 t9 σ9 r rvs P rl ra => ?_
    replace B := B.pure P
    replace Y := Y.kpu P
    rw [xs] at ra
    repeat walk_at "x"
    have rl1 : rvs.length ≤ 1 := by rw [ra.length]; cases path[i + 1]? <;> simp
    have X2 := B.hp
    refine sliceK (ws := rvs) (.il 2) B rl .none .none (.int _ _) (by decide) (by lia) rfl ?_ (fun D h2 e1 e2 B => ?_) (by with_unfolding_all rfl)
    · rw [krv_pick]
      rcases rvs with _ | ⟨v, _ | ⟨v', r'⟩⟩
      · rfl
      · rfl
      · simp at rl1
    replace Y := Y.addB B e1 (by decide)
    have z3'' := keepB B z3' nofun
    repeat walk_at "x"
    have X3 := B.hp
    refine extendLK (kd := .il 1) B z3'' ⟨_, put_self⟩ (by simp; lia) rfl fun h10 n10 B => ?_
    replace Y := Y.setB B X3 z3'' (by decide)
    repeat walk_at "x"
    refine fin.nx (n' := path.length - (i + 1)) (by lia) B ⟨i + 1, _, _, _, _, rfl, lt, Eq.trans (upd_ne nofun) (Eq.trans (upd_ne nofun) upd_self), z2, upd_self, ?_, Y, z6, z7, z8⟩
    have e3 : (path.drop (i + 1)).take 1 = (path[i + 1]?).toList := by
      cases e : path[i + 1]? with
      | none => rw [List.drop_eq_nil_of_le (by simpa using e)]; rfl
      | some b' =>
        have lt' := (List.getElem?_eq_some_iff.mp e).1
        rw [List.drop_eq_getElem_cons lt']
        have : path[i + 1] = b' := (List.getElem?_eq_some_iff.mp e).2
        rw [this]; rfl
    rw [e3]
    exact ra
end
theorem Hi.sys {a : Addr} (h : Hi a) : (a == sysModules) = false := by
  refine beq_eq_false_iff_ne.mpr ?_
  rintro rfl
  rcases h with h | h <;> exact absurd h (by decide)
theorem Room.under {k : Nat} {A : Around} {C : Addr} {rest : List Value} {kw : List (Str × Value)} (R : Room (k + 1) A) : Room k (A.under (.builtin "type.__call__" ⟨.ref C :: rest, kw⟩)) := by
  refine hide fun CCC kkk => ?_
  obtain ⟨a, b, c⟩ := R
  refine kkk ?_; clear kkk
  have e1 : (Code.builtin "type.__call__" ⟨.ref C :: rest, kw⟩).weight ≤ 1 := Nat.le_of_ble_eq_true (by kernel_rfl)
  have e2 : (Code.builtin "type.__call__" ⟨.ref C :: rest, kw⟩).cUnits ≤ 4 := Nat.le_of_ble_eq_true (by kernel_rfl)
  refine ⟨?_, ?_, c⟩
  · show A.depth + _ + k ≤ 900; lia
  · show A.units + _ + 4 * k ≤ 9000; lia
section
variable {prog : Program} {w : World} {A : Around} {E : Value → Shared → Prop} {md : Kd → Bool} {σ₀ σ : Mp} {H₀ H : Hp} {h₀ h : Heap} {g : Array GenState} {d : Drawn} {t : Nat} {os : OsState} {L D : Addr} {m : Str → Option Value}
theorem enterK {R : Result → Shared → Prop} {name qual : Str} {scope : Scope} {f : Addr} {cd : Value} {params : Arguments} {body : List Stmt} {dV kV doc pm ct oc : Value} {an od : Option Addr} {osl : Array (Option Value)} {args : List Value} {binds : List (Str × Value)} {k : Nat}
    (O : Ok w σ h) (Rm : Room k A)
    (ho : (KH w).lookup f = some ⟨oc, od, .func (fnOf name qual params body scope dV kV doc pm an cd ct), osl⟩) (hcd : codeIn (KH w) cd qual = true)
    (hbind : BindsTo ⟨h, g, d, t, os⟩ (fnOf name qual params body scope dV kV doc pm an cd ct) ⟨args, []⟩ binds)
    (hloc : (binds.all fun y => scope.names.lookup y.1 == some .local) = true) (hcell : (scope.names.all fun y => y.2 != .cell) = true)
    (h1 : ∀ L h₁, Fm w σ h σ L h₁ (fun y => binds.reverse.lookup y) →
      wpAny (model prog w) (A.deeper (envOf qual scope L f cd)) (execs body (envOf qual scope L f cd))
        (fun fl s' => R (.ok (.ret (match fl with | .ret v => v | _ => .none))) s') (fun _ _ => False) ⟨h₁, g, d, t + binds.length, os⟩)
    (hco : scope.isCoroutine = false) (hgen : scope.isGenerator = false) (hk : scope.kind = .function) :
    codeAny (model prog w) A (.call (.ref f) ⟨args, []⟩) R ⟨h, g, d, t, os⟩ := by
  refine codeAny_call_def (fd := fnOf name qual params body scope dV kV doc pm an cd ct) (body := body) (binds := binds) Rm.depth (O.K _ _ ho) rfl (nolimit O.K) (codeRec_of O.K hcd) rfl hbind
    (fun x hx e => by have := List.all_eq_true.mp hcell x hx; rw [e] at this; exact absurd this (by decide)) (fun x hx => beq_iff_eq.mp (List.all_eq_true.mp hloc x hx)) (fun h₁ hns hk₁ => ?_) hco hgen hk
  have F : Fm w σ h σ h.objs.size h₁ (fun y => binds.reverse.lookup y) := by
    refine ⟨⟨O.base, fun a o e => hk₁ a o (O.sub a o e)⟩, hns, O.fresh, ?_, ⟨fun a o e _ => hk₁ a o e, fun a o e n => (by rw [n] at e; cases e), fun _ o e => ⟨o, e⟩⟩⟩
    cases q : h.get? h.objs.size with
    | none => rfl
    | some o => exact absurd (Heap.lt_size q) (Nat.lt_irrefl _)
  exact wpAny_mono (h1 _ h₁ F) (fun fl s' q => q) fun _ _ q => q.elim
theorem emp_at : AtK 0 emptyDict (fun _ => none) := ⟨[], 0, rfl, fun _ h => absurd h List.not_mem_nil, Nat.le_refl _, fun _ => rfl⟩
theorem AtK.le {k j : Nat} {o : Obj} {am : Str → Option Value} (X : AtK k o am) (h : k ≤ j) : AtK j o am := let ⟨es, n, e, a, b, c⟩ := X; ⟨es, n, e, a, Nat.le_trans b h, c⟩
theorem AtK.no {k : Nat} {o : Obj} {am : Str → Option Value} (X : AtK k o am) : ¬ isTupO o := by
  obtain ⟨es, n, rfl, _⟩ := X; intro z; exact absurd (show (Value.type "dict" : Value) = .type "tuple" from z) (by decide)
theorem inst_no {C dx : Addr} : ¬ isTupO (instObj C dx) := fun z => nomatch (show (Value.ref C : Value) = .type "tuple" from z)
theorem classB {Q : Value → Shared → Prop} {C fI : Addr} {pos : List Value} (kx kd : Kd) (B : Bd w md σ₀ h₀ H₀ σ H L h m) (hm : makesIn (KH w) C = true) (hi : findIn (KH w) (.ref C) "__init__" = some (some (.ref fI))) (hf : isFn (KH w) (.ref fI) = true)
    (m1 : md kx = true) (m2 : md kd = true)
    (q : ∀ x dx h', σ dx = none → put σ dx emptyDict x = none → Bd w md σ₀ h₀ H₀ (put (put σ dx emptyDict) x (instObj C dx)) (upd (upd H kd dx emptyDict) kx x (instObj C dx)) L h' m →
      codeAny (model prog w) (A.under (.builtin "type.__call__" ⟨.ref C :: pos, []⟩)) (.call (.ref fI) ⟨.ref x :: pos, []⟩) (InitBack x fun r s' => match r with | .ok (.ret v) => Q v s' | .ok _ => False | .error e => E e s') ⟨h', g, d, t, os⟩) :
    wpAny (model prog w) A (call (.ref C) pos) Q E ⟨h, g, d, t, os⟩ := by
  have B1 := B.add (k := kd) (o := emptyDict) B.fm.ok.fresh B.fm.ok.size emp_at.no m2 (B.fm.alloc rfl)
  have e2 := B1.fm.ok.fresh
  have B2 := B1.add (k := kx) (o := instObj C h.objs.size) e2 B1.fm.ok.size inst_no m1 (B1.fm.alloc rfl)
  have sz : (h.push emptyDict).objs.size = h.objs.size + 1 := Heap.size_push ..
  rw [sz] at e2 B2
  exact wpAny_call (make_core (makes_of B.fm.K hm) (looks_findIn B.fm.K hi) (fun self => bind_fn B.fm.K self (beq_iff_eq.mp hf)) (.inl rfl) (q _ _ _ B.fm.ok.fresh e2 B2))
theorem saK {xa dx C : Addr} {am : Str → Option Value} {Q : Unit → Shared → Prop} {od : Obj} {name : Str} {v : Value} {k : Nat} {kd : Kd} (B : Bd w md σ₀ h₀ H₀ σ H L h m) (hx : σ xa = some (instObj C dx)) (hd : H kd = some (dx, od)) (ho : AtK k od am) (h99 : k ≤ 100)
    (hm : md kd = true) (hg : sattrOk (KH w) C name = true)
    (q : ∀ h' od' t', AtK (k + 1) od' (ms name v am) → Bd w md σ₀ h₀ H₀ (put σ dx od') (upd H kd dx od') L h' m → Q () ⟨h', g, d, t', os⟩) :
    wpAny (model prog w) A (setAttr (.ref xa) name v) Q E ⟨h, g, d, t, os⟩ :=
  saF B.fm hx (B.hp.at_ _ _ _ hd) ho h99 (B.hp.hi _ _ _ hd) hg fun h' od' z F => q h' od' _ (z.le (by split <;> lia)) (B.set hd z.no hm F)
theorem Bd.newAt {h' : Heap} {o : Obj} (B : Bd w md σ₀ h₀ H₀ σ H L h m) (up : ∀ a o, h.get? a = some o → h'.get? a = some o) (e : h'.get? h.objs.size = some o) : Bd w md σ₀ h₀ H₀ (put σ h.objs.size o) H L h' m := by
  refine (B.grow up).know e B.fm.ok.fresh ?_ (Ne.symm (Nat.ne_of_lt B.fm.ns.lt)) B.fm.ok.size
  cases q : h₀.get? h.objs.size with
  | none => rfl
  | some o =>
    cases r : σ₀ h.objs.size with
    | none => have := B.fm.ps.kept _ o q r; rw [noneAt B.fm] at this; cases this
    | some o' => obtain ⟨o2, e2⟩ := B.fm.ps.up _ o' r; rw [B.fm.ok.fresh] at e2; cases e2
theorem listCopyB {Q : Value → Shared → Prop} {vs : List Value} (B : Bd w md σ₀ h₀ H₀ σ H L h m) (l : LO σ D vs) (hz : vs.length ≤ 1000000)
    (q : ∀ r h' n, σ r = none → Bd w md σ₀ h₀ H₀ (put σ r (lisO vs n)) H L h' m → Q (.ref r) ⟨h', g, d, t, os⟩) : wpAny (model prog w) A (call (.type "list") [.ref D]) Q E ⟨h, g, d, t, os⟩ := by
  refine hide fun CCC kkk => ?_
  obtain ⟨n, l⟩ := l
  refine kkk ?_; clear kkk
  exact call_list_seq (s := ⟨h, g, d, t, os⟩) D (.inl rfl) (B.fm.ok.sub _ _ l) rfl rfl (fun h' c' up e => q _ _ _ B.fm.ok.fresh (B.newAt up e)) (line hz)
theorem listCopyK {Q : Value → Shared → Prop} {vs : List Value} (kd : Kd) (B : Bd w md σ₀ h₀ H₀ σ H L h m) (l : LO σ D vs) (hz : vs.length ≤ 1000000) (hm : md kd = true)
    (q : ∀ r h' n, σ r = none → Bd w md σ₀ h₀ H₀ (put σ r (lisO vs n)) (upd H kd r (lisO vs n)) L h' m → Q (.ref r) ⟨h', g, d, t, os⟩) : wpAny (model prog w) A (call (.type "list") [.ref D]) Q E ⟨h, g, d, t, os⟩ := by
  refine hide fun CCC kkk => ?_
  obtain ⟨n, l⟩ := l
  refine kkk ?_; clear kkk
  exact call_list_seq (s := ⟨h, g, d, t, os⟩) D (.inl rfl) (B.fm.ok.sub _ _ l) rfl rfl (fun h' c' up e => q _ _ _ B.fm.ok.fresh (B.add B.fm.ok.fresh B.fm.ok.size lisO_no hm (B.newAt up e).fm)) (line hz)
theorem listRangeB {Q : Value → Shared → Prop} {a b : Int} {n : Nat} {t1 t2 t3 : Tok} (B : Bd w md σ₀ h₀ H₀ σ H L h m) (hh : A.handled = none) (l : σ D = some (rgO a b t1 t2 t3)) (ha : 0 ≤ a) (hab : b - a = n) (hb : b ≤ 1000000)
    (q : ∀ r h' t' vs k, σ r = none → vs.length = n → (∀ (i : Nat) v, vs[i]? = some v → ∃ t, v = .int (a + i) t) → Bd w md σ₀ h₀ H₀ (put σ r (lisO vs k)) H L h' m → Q (.ref r) ⟨h', g, d, t', os⟩) : wpAny (model prog w) A (call (.type "list") [.ref D]) Q E ⟨h, g, d, t, os⟩ := by
  have e : Builtin.Range.rangeSize a b 1 = (n : Int) := by rw [rangeSize_one]; split <;> lia
  refine call_list_range (s := ⟨h, g, d, t, os⟩) hh (B.fm.ok.sub _ _ l) (small_one (by lia) (by lia) (by lia) (by lia)) e (by lia) fun h' tk acc c up eD hA => ?_
  refine q h.objs.size h' tk acc.toList c B.fm.ok.fresh ?_ ?_ (B.newAt up (by simpa using eD))
  · simpa using hA.1
  · intro i v hv
    refine hide fun CCC kkk => ?_
    obtain ⟨t, rfl⟩ := hA.2 i v (by simpa using hv)
    refine kkk ?_; clear kkk
    exact ⟨t, by rw [Int.mul_one]⟩
noncomputable abbrev dicO : Obj := { cls := .type "dict", data := .dict #[] }
theorem dicO_no : ¬ isTupO dicO := fun z => absurd (show (Value.type "dict" : Value) = .type "tuple" from z) (by decide)
theorem newDictK {env : Env} {pos : Pos} {Q : Value → Shared → Prop} (kd : Kd) (B : Bd w md σ₀ h₀ H₀ σ H L h m) (hm : md kd = true)
    (q : ∀ r h', σ r = none → Bd w md σ₀ h₀ H₀ (put σ r dicO) (upd H kd r dicO) L h' m → Q (.ref r) ⟨h', g, d, t, os⟩) : wpAny (model prog w) A (eval (.Dict [] [] pos) env) Q E ⟨h, g, d, t, os⟩ :=
  wpAny_Dict_empty (q _ _ B.fm.ok.fresh (B.add B.fm.ok.fresh B.fm.ok.size dicO_no hm (B.fm.alloc rfl)))
theorem dicO_sp {σ : Mp} : SpO σ dicO (fun _ _ => none) 0 [] := ⟨⟨rfl, rfl, rfl⟩, ⟨#[], 0, rfl, rfl⟩, fun x hx => absurd hx List.not_mem_nil, List.nodup_nil, Nat.le_refl _, fun _ _ _ => rfl, fun _ _ _ h => nomatch h⟩
section
variable {o : Obj} {sp : Nat → Nat → Option Int} {n : Nat} {xs : K2} {ka : Addr} {i j : Nat} {t1 t2 : Tok} {k : Nat}
theorem spRoom (R : Room 1 A) : (tupleKind (intKind prog w)).room A.in1 := by have := R.2.1; show A.units + 1 < cLine; unfold cLine; lia
theorem spIn {Q : Value → Shared → Prop} (B : Bd w md σ₀ h₀ H₀ σ H L h m) (R : Room 1 A) (e : σ D = some o) (X : SpO σ o sp n xs) (hD : Hi D) (hk : TO σ ka [.int i t1, .int j t2])
    (q : ∀ t', Q (.bool (sp i j).isSome) ⟨h, g, d, t', os⟩) : wpAny (model prog w) A (compareOp .In (.ref ka) (.ref D)) Q E ⟨h, g, d, t, os⟩ := by
  refine wpAny_in_heap (s := ⟨h, g, d, t, os⟩) (spRoom R) (key2 B.fm hk) hD.sys (X.dictOf B.fm e) ?_
  cases c : sp i j with
  | none => rw [X.no i j c]; have := q (t + (tupleKind (intKind prog w)).draws [(i : Int), (j : Int)]); rw [c] at this; exact this
  | some s =>
    refine hide fun CCC kkk => ?_
    obtain ⟨p, u, e⟩ := X.yes i j s c
    refine kkk ?_; clear kkk
    rw [e]; have := q (t + (tupleKind (intKind prog w)).draws [(i : Int), (j : Int)]); rw [c] at this; exact this
theorem spGet {Q : Value → Shared → Prop} {s : Int} {value slice : Expr} (B : Bd w md σ₀ h₀ H₀ σ H L h m) (R : Room 1 A) (e : σ D = some o) (X : SpO σ o sp n xs) (hk : TO σ ka [.int i t1, .int j t2]) (c : sp i j = some s)
    (q : ∀ t' tk, Q (.int s tk) ⟨h, g, d, t', os⟩)
    (hs : subscripted slice false (.ref D) (.ref ka) = operate [.ref D, .ref ka] (getItem (.ref D) (.ref ka)) := by with_unfolding_all rfl) :
    wpAny (model prog w) A (subscriptTail value slice (.ref D) (.ref ka)) Q E ⟨h, g, d, t, os⟩ := by
  refine hide fun CCC kkk => ?_
  obtain ⟨p, u, e'⟩ := X.yes i j s c
  refine kkk ?_; clear kkk
  have M := X.dictOf (prog := prog) B.fm e
  exact tail_any (Heap.DictOfH.typeIs (s := ⟨h, g, d, t, os⟩) M) slot_dict_getitem.lookup (wpAny_getItem_heap (s := ⟨h, g, d, t, os⟩) (spRoom R) (key2 B.fm hk) M e' (q _ _)) hs
theorem spGet2 {Q : Value → Shared → Prop} {tz : Tok} (B : Bd w md σ₀ h₀ H₀ σ H L h m) (R : Room 1 A) (e : σ D = some o) (X : SpO σ o sp n xs) (hD : Hi D) (hk : TO σ ka [.int i t1, .int j t2])
    (q : ∀ t' tk, Q (.int ((sp i j).getD 0) tk) ⟨h, g, d, t', os⟩) : wpAny (model prog w) A (call (.builtin "dict.get") [.ref D, .ref ka, .int 0 tz]) Q E ⟨h, g, d, t, os⟩ := by
  have M := X.dictOf (prog := prog) B.fm e
  refine call_meetsIn (s := ⟨h, g, d, t, os⟩) F.slot_dict_get (Heap.DictOfH.typeIs (s := ⟨h, g, d, t, os⟩) M) F.entry_dict_get (F.args_dict_get_3 _ _ _) (meetsH_dict_get_default (tupleKind (intKind prog w)) D ka hD.sys (.int 0 tz)) ?_
  refine ⟨spRoom R, [(i : Int), (j : Int)], xs, key2 B.fm hk, M, ?_⟩
  show Q _ _
  cases c : sp i j with
  | none => rw [X.no i j c]; have := q (t + (tupleKind (intKind prog w)).draws [(i : Int), (j : Int)]) tz; rw [c] at this; exact this
  | some s =>
    refine hide fun CCC kkk => ?_
    obtain ⟨p, u, e⟩ := X.yes i j s c
    refine kkk ?_; clear kkk
    rw [e]; have := q (t + (tupleKind (intKind prog w)).draws [(i : Int), (j : Int)]) u; rw [c] at this; exact this
end
section
variable {kvs : List (Int × Value)} {o : Obj} {x : Int} {v u : Value}
theorem valueAt_left (h : valueAt kvs x = some u) (y : Int) : valueAt (kvs ++ [(y, v)]) x = some u := by
  unfold valueAt at *
  rw [List.find?_append]
  cases q : kvs.find? fun kv => kv.1 = x with
  | none => rw [q] at h; cases h
  | some p => rw [q] at h; exact h
theorem valueAt_new (h : x ∉ kvs.map (·.1)) : valueAt (kvs ++ [(x, v)]) x = some v := by
  unfold valueAt
  rw [List.find?_append]
  have : (kvs.find? fun kv => kv.1 = x) = none := by
    rw [List.find?_eq_none]; intro p hp e
    exact h (List.mem_map.mpr ⟨p, hp, by simpa using e⟩)
  rw [this]; simp
theorem stored_new (h : x ∉ kvs.map (·.1)) : stored kvs x v = kvs ++ [(x, v)] := by
  unfold stored
  rw [if_neg]
  intro e
  refine hide fun CCC kkk => ?_
  obtain ⟨p, hp, e⟩ := List.any_eq_true.mp e
  refine kkk ?_; clear kkk
  exact h (List.mem_map.mpr ⟨p, hp, by simpa using e⟩)
theorem dicO_int : dicO.IsDictOf (intKind prog w) [] := by
  refine hide fun CCC kkk => ?_
  obtain ⟨o, e, r⟩ := Heap.dictOf_iff.mp (Heap.DictOf.new (knd := intKind prog w) (h := (default : Heap)))
  refine kkk ?_; clear kkk
  rw [Heap.get?_push_size _ rfl] at e; cases e; exact r
theorem IsDictOf.no (X : o.IsDictOf (intKind prog w) kvs) : ¬ isTupO o := by
  obtain ⟨es, ep, x, _⟩ := X; intro z; unfold isTupO at z; rw [x.1] at z; exact absurd z (by decide)
theorem plSet {Q : Unit → Shared → Prop} {kd : Kd} {tx : Tok} (B : Bd w md σ₀ h₀ H₀ σ H L h m) (e : H kd = some (D, o)) (X : o.IsDictOf (intKind prog w) kvs) (hm : md kd = true) (hn : x ∉ kvs.map (·.1)) (hz : kvs.length ≤ 900000)
    (q : ∀ h' o' t', o'.IsDictOf (intKind prog w) (kvs ++ [(x, v)]) → Bd w md σ₀ h₀ H₀ (put σ D o') (upd H kd D o') L h' m → Q () ⟨h', g, d, t', os⟩) :
    wpAny (model prog w) A (setItem (.ref D) (.int x tx) v) Q E ⟨h, g, d, t, os⟩ := by
  have eD := B.hp.at_ _ _ _ e
  refine wpAny_setItem_pairs (s := ⟨h, g, d, t, os⟩) (knd := intKind prog w) (k := x) (kvs := kvs) (by simp [intKind, Value.isInt]) (Heap.dictOf_iff.mpr ⟨o, B.fm.ok.sub _ _ eD, X⟩) (fun h' hm' hs' => ?_) (by rw [sizeLine_eq]; lia)
  refine hide fun CCC kkk => ?_
  obtain ⟨o', e', X'⟩ := Heap.dictOf_iff.mp hm'
  refine kkk ?_; clear kkk
  rw [stored_new hn] at X'
  exact q h' o' _ X' (B.set e (IsDictOf.no X') hm (B.fm.change (B.hp.hi _ _ _ e) eD hs' e'))
theorem plGet {Q : Value → Shared → Prop} {tx : Tok} {value slice : Expr} (B : Bd w md σ₀ h₀ H₀ σ H L h m) (e : σ D = some o) (X : o.IsDictOf (intKind prog w) kvs) (hv : valueAt kvs x = some v)
    (q : ∀ t', Q v ⟨h, g, d, t', os⟩)
    (hs : subscripted slice false (.ref D) (.int x tx) = operate [.ref D, .int x tx] (getItem (.ref D) (.int x tx)) := by with_unfolding_all rfl) :
    wpAny (model prog w) A (subscriptTail value slice (.ref D) (.int x tx)) Q E ⟨h, g, d, t, os⟩ := by
  have M : h.DictOf (intKind prog w) D kvs := Heap.dictOf_iff.mpr ⟨o, B.fm.ok.sub _ _ e, X⟩
  exact tail_any (Heap.DictOf.typeIs (s := ⟨h, g, d, t, os⟩) M) slot_dict_getitem.lookup (wpAny_getItem_of (s := ⟨h, g, d, t, os⟩) (knd := intKind prog w) (k := x) (by simp [intKind, Value.isInt]) M.mapOf hv (q _)) hs
theorem plLen {Q : Value → Shared → Prop} (B : Bd w md σ₀ h₀ H₀ σ H L h m) (e : σ D = some o) (X : o.IsDictOf (intKind prog w) kvs) (hD : Hi D) (hz : kvs.length ≤ 900000)
    (q : ∀ t' tk, Q (.int (kvs.length : Nat) tk) ⟨h, g, d, t', os⟩) : wpAny (model prog w) A (call (.builtin "len") [.ref D]) Q E ⟨h, g, d, t, os⟩ :=
  call_len_dict (s := ⟨h, g, d, t, os⟩) hD.sys (Heap.dictOf_iff.mpr ⟨o, B.fm.ok.sub _ _ e, X⟩) (by lia) (q _ _)
end
end
section
variable {prog : Program} {w : World} {A : Around} {σ : Mp} {H : Hp} {h : Heap} {g : Array GenState} {d : Drawn} {t : Nat} {os : OsState} {k : Nat}
noncomputable def mdK (ks : List Kd) : Kd → Bool := fun k => ks.contains k
theorem mdK_not {ks : List Kd} {k j : Kd} (h : mdK ks j = false) (hk : k ∈ ks) : j ≠ k := by
  rintro rfl
  unfold mdK at h
  rw [List.contains_iff_mem.mpr hk] at h; cases h
theorem mdK_mem {ks : List Kd} {k : Kd} (h : k ∈ ks) : mdK ks k = true := List.contains_iff_mem.mpr h
theorem selfB {w : World} {md : Kd → Bool} {σ₀ σ : Mp} {H₀ H : Hp} {h₀ h : Heap} {L p : Addr} {m : Str → Option Value} {kd : Kd} {o : Obj} (_ : Bd w md σ₀ h₀ H₀ σ (upd H kd p o) L h m) : upd H kd p o kd = some (p, o) := upd_self
theorem body_init5 {x dx lc blk sp : Addr} {nm ac : Value} {lvs : List Value} {R : Result → Shared → Prop} (kd kl : Kd) (hkl : kd ≠ kl) (O : Ok w σ h) (Rm : Room 1 A) (X : HpIn σ H)
    (hx : σ x = some (instObj 82 dx)) (hd : H kd = some (dx, emptyDict)) (l : LO σ lc lvs) (hz : lvs.length ≤ 1000000)
    (q : ∀ h' t' σ' H' loc od n, Nx w (mdK [kd, kl]) σ h H σ' h' H' → AtD od (boAm nm ac loc blk sp) → H' kd = some (dx, od) → H' kl = some (loc, lisO lvs n) → R (.ok (.ret .none)) ⟨h', g, d, t', os⟩) :
    codeAny (model prog w) A (.call (.ref 36) ⟨[.ref x, nm, ac, .ref lc, .ref blk, .ref sp], []⟩) R ⟨h, g, d, t, os⟩ := by
  refine' enterK (binds := [("self", .ref x), ("name", nm), ("arg_count", ac), ("locals_told", .ref lc), ("blocks", .ref blk), ("spots", .ref sp)]) O Rm ?a1 ?a2 ?a3 ?a4 ?a5 ?_ ?a6 ?a7 ?a8
  case a1 => rfl
  case a3 => exact binds_K (o := tupO [.none, .none]) (Ok.K (by assumption)) rfl (by kernel_rfl) rfl rfl rfl
  walk_at "entd"
  intro L h₁ F
  have B := Bd.start (md := mdK [kd, kl]) F X
  have m1 : mdK [kd, kl] kd = true := mdK_mem (.head _)
  have m2 : mdK [kd, kl] kl = true := mdK_mem (.tail _ (.head _))
  have ne : x ≠ dx := by
    rintro rfl
    have := X.at_ _ _ _ hd
    rw [hx] at this
    exact absurd (congrArg Obj.cls (Option.some.inj this)) (by intro z; cases z)
  repeat walk_at "x"
  refine saK B hx hd emp_at (by decide) m1 (by kernel_rfl) fun h2 od1 t2 a1 B => ?_
  replace hx := (put_ne (o := od1) ne).trans hx
  repeat walk_at "x"
  refine saK B hx upd_self a1 (by decide) m1 (by kernel_rfl) fun h2 od2 t2 a2 B => ?_
  replace hx := (put_ne (o := od2) ne).trans hx
  refine hide fun CCC kkk => ?_
  obtain ⟨ln, l⟩ := l
  refine kkk ?_; clear kkk
  have nl : lc ≠ dx := by
    rintro rfl
    have := X.at_ _ _ _ hd
    rw [l] at this
    exact absurd (show (Value.type "list" : Value) = .type "dict" from congrArg Obj.cls (Option.some.inj this)) (by decide)
  repeat walk_at "x"
  refine listCopyK kl B (vs := lvs) ⟨ln, (put_ne nl).trans ((put_ne nl).trans l)⟩ hz m2 fun loc h3 n3 e3 B => ?_
  have hk3 := keepB B upd_self hkl
  have hl3 := selfB B
  have nx3 : x ≠ loc := by rintro rfl; rw [hx] at e3; cases e3
  replace hx := (put_ne (o := lisO lvs n3) nx3).trans hx
  repeat walk_at "x"
  refine saK B hx hk3 a2 (by decide) m1 (by kernel_rfl) fun h4 od3 t4 a3 B => ?_
  replace hl3 := keepB B hl3 (Ne.symm hkl)
  replace hx := (put_ne (o := od3) ne).trans hx
  repeat walk_at "x"
  refine is_ref_none ?_
  repeat walk_at "x"
  refine saK B hx upd_self a3 (by decide) m1 (by kernel_rfl) fun h5 od4 t5 a4 B => ?_
  replace hl3 := keepB B hl3 (Ne.symm hkl)
  replace hx := (put_ne (o := od4) ne).trans hx
  repeat walk_at "x"
  refine is_ref_none ?_
  repeat walk_at "x"
  refine saK B hx upd_self a4 (by decide) m1 (by kernel_rfl) fun h6 od5 t6 a5 B => ?_
  replace hl3 := keepB B hl3 (Ne.symm hkl)
  repeat walk_at "x"
  refine q _ _ _ _ loc od5 n3 B.nx ?_ upd_self hl3
  have e : (fun y : Str => if y = "spots" then some (Value.ref sp) else if y = "blocks" then some (.ref blk) else if y = "locals" then some (.ref loc) else if y = "arg_count" then some ac else if y = "name" then some nm else none) = boAm nm ac loc blk sp := by
    funext y; unfold boAm
    by_cases c1 : y = "locals"
    · subst c1; rfl
    by_cases c2 : y = "blocks"
    · subst c2; rfl
    by_cases c3 : y = "spots"
    · subst c3; rfl
    by_cases c4 : y = "name"
    · subst c4; rfl
    simp only [c1, c2, c3, c4, if_false]
  rw [← e]
  exact a5.le (by decide)
end
noncomputable def lamQ : Str := "with_blocks" ++ ".<locals>." ++ "<lambda>"
noncomputable def lamP : Arguments := { posonlyargs := [], args := [{ arg := "goal", annotation := none, pos := ⟨80, 71, 80, 75⟩ }], vararg := none, kwonlyargs := [], kw_defaults := [], kwarg := none, defaults := [] }
noncomputable def lamB : PySem.Expr := .Subscript (.Name "places" ⟨80, 77, 80, 83⟩) (.Name "goal" ⟨80, 84, 80, 88⟩) ⟨80, 77, 80, 89⟩
noncomputable def lamS : Scope := { kind := .function, names := [("goal", .local), ("places", .free)], isGenerator := false, isCoroutine := false, more := [] }
structure CodeK (σ : Mp) (c : Addr) : Prop where
  ex : ∃ oc vs t, σ c = some oc ∧ oc.data = .fields vs ∧ vs[1]? = some (.str lamQ t)
noncomputable def LamIs (σ : Mp) (f pc : Addr) : Prop := ∃ c' ctv pm, σ f = some (kla_obj "<lambda>" lamQ lamP lamB lamS [("places", pc)] pm c' ctv) ∧ CodeK σ c'
theorem LamIs.le {σ τ : Mp} {f pc : Addr} (X : LamIs σ f pc) (l : Le σ τ) : LamIs τ f pc := by
  refine hide fun CCC kkk => ?_
  obtain ⟨c', ctv, pm, e, oc, vs, t, e2, r⟩ := X
  refine kkk ?_; clear kkk
  exact ⟨c', ctv, pm, l _ _ e, oc, vs, t, l _ _ e2, r⟩
noncomputable def TabIs (σ : Mp) (H : Hp) : Prop := ∃ ps, H .tab = some (105, tabObj ps) ∧ (ps = #[] ∨ ∃ c', ps = #[rawInt 80, rawInt 64, .ref c'] ∧ CodeK σ c' ∧ Untr H c')
theorem TabIs.kp {σ σ' : Mp} {H H' : Hp} (X : TabIs σ H) (k : Kp σ H σ' H') (e : H' .tab = H .tab) : TabIs σ' H' := by
  refine hide fun CCC kkk => ?_
  obtain ⟨ps, a, b⟩ := X
  refine kkk ?_; clear kkk
  refine ⟨ps, e.trans a, b.imp id ?_⟩
  intro zzq0
  refine hide fun CCC kkk => ?_
  obtain ⟨c', e1, ⟨oc, vs, t, e2, r⟩, u⟩ := zzq0
  refine kkk ?_; clear kkk
  refine hide fun CCC kkk => ?_
  obtain ⟨e3, u'⟩ := k _ _ e2 u
  refine kkk ?_; clear kkk
  exact ⟨c', e1, ⟨oc, vs, t, e3, r⟩, u'⟩
section
variable {prog : Program} {w : World} {A : Around} {E : Value → Shared → Prop} {md : Kd → Bool} {σ₀ σ : Mp} {H₀ H : Hp} {h₀ h : Heap} {g : Array GenState} {d : Drawn} {t : Nat} {os : OsState} {L a : Addr} {m : Str → Option Value} {k : Nat}
theorem Fm.changeX {o o' : Obj} {h' : Heap} (F : Fm w σ₀ h₀ σ L h m) (ha : Hi a) (hσ : σ a = some o) (x : Heap.ExtBut a h h') (ho : h'.get? a = some o') : Fm w σ₀ h₀ (put σ a o') L h' m := by
  have hL : L ≠ a := fun q => by rw [← q, F.out] at hσ; cases hσ
  refine ⟨⟨F.ok.base.put ha, fun b ob e => ?_⟩, ?_, by rw [put_ne hL]; exact F.out, F.new, ⟨fun b ob e n => ?_, fun b ob e n => ?_, fun a o e => put_up (F.ps.up a o e)⟩⟩
  · by_cases q : b = a
    · subst q; rw [put_self] at e; cases e; exact ho
    · rw [put_ne q] at e; exact x b ob q (F.ok.sub b ob e)
  · refine hide fun CCC kkk => ?_
    obtain ⟨oL, es, ep, e, r⟩ := F.ns
    refine kkk ?_; clear kkk
    exact ⟨oL, es, ep, x _ _ hL e, r⟩
  · refine x b ob ?_ (F.ps.kept b ob e n)
    intro q; subst q
    rw [F.ps.dom b o hσ n] at e; cases e
  · by_cases q : b = a
    · subst q; exact F.ps.dom b o hσ n
    · rw [put_ne q] at e; exact F.ps.dom b ob e n
theorem Bd.old_none {c : Addr} (B : Bd w md σ₀ h₀ H₀ σ H L h m) (e : h.get? c = none) : h₀.get? c = none ∧ σ c = none := by
  have s : σ c = none := by
    cases r : σ c with
    | none => rfl
    | some o => rw [B.fm.ok.sub _ _ r] at e; cases e
  refine ⟨?_, s⟩
  cases q : h₀.get? c with
  | none => rfl
  | some o =>
    cases r : σ₀ c with
    | none => rw [B.fm.ps.kept _ o q r] at e; cases e
    | some o' => obtain ⟨o2, e2⟩ := B.fm.ps.up _ o' r; rw [s] at e2; cases e2
theorem bltAt (B : Bd w md σ₀ h₀ H₀ σ H L h m) : h.BuiltinsAt (h.nsMap mainGlobals) 105 := by
  refine hide fun CCC kkk => ?_
  obtain ⟨ob, e, r1, r2, r3⟩ := B.fm.ok.base.m
  refine kkk ?_; clear kkk
  have G : h.Ns mainGlobals (h.nsMap mainGlobals) := .of_isNs (isNs_of_in B.fm.K (by kernel_rfl))
  exact ⟨4, ob, mg_of B.fm.K G (by kernel_rfl), by decide, by decide, by decide, B.fm.ok.sub _ _ e, r1, r2, r3⟩
theorem lamMake {env : Env} {pc : Addr} {Q : Value → Shared → Prop} (B : Bd w md σ₀ h₀ H₀ σ H L h m) (T : TabIs σ H) (hm : md .tab = true) (hcl : closureFor lamS env = pure [(("places" : Str), pc)]) (hg : env.globals = mainGlobals) (hc : env.code = .ref 109) (hq : env.qual ++ "<lambda>" = lamQ)
    (q : ∀ f σ' H' h' t', Bd w md σ₀ h₀ H₀ σ' H' L h' m → LamIs σ' f pc → TabIs σ' H' → Kp σ H σ' H' → (∀ j, j ≠ .tab → H' j = H j) → Q (.ref f) ⟨h', g, d, t', os⟩) :
    wpAny (model prog w) A (eval (.Lambda lamP lamB lamS ⟨80, 64, 80, 89⟩) env) Q E ⟨h, g, d, t, os⟩ := by
  refine kla_eval rfl ?_
  rw [hq]
  have G : h.Ns mainGlobals (h.nsMap mainGlobals) := .of_isNs (isNs_of_in B.fm.K (by kernel_rfl))
  have C : CodeHd h 109 105 := codeHd_of_K B.fm.K (by kernel_rfl)
  refine hide fun CCC kkk => ?_
  obtain ⟨ps, e, r⟩ := T
  refine kkk ?_; clear kkk
  have eσ := B.hp.at_ _ _ _ e
  have big := B.fm.ok.big
  rcases r with rfl | ⟨c', rfl, ck, u⟩
  · refine kla_makeFunction (s := ⟨h, g, d, t, os⟩) (mg := h.nsMap mainGlobals) hcl hg G hc C (B.fm.ok.sub _ _ eσ) trivial rfl (by decide) (bltAt B) fun c' ctv h' tk x ge lt rec tb => ?_
    refine hide fun CCC kkk => ?_
    obtain ⟨c2, oc, vs, t2, e2, hoc, hd, hv⟩ := rec
    refine kkk ?_; clear kkk
    cases e2
    have hi : Hi 105 := .inr rfl
    have B1 : Bd w md σ₀ h₀ H₀ _ _ L h' m := B.set (o' := tabObj #[rawInt 80, rawInt 64, .ref c']) e (by intro z; cases z) hm (B.fm.changeX hi eσ x tb)
    have gn : h.get? c' = none := by
      cases q : h.get? c' with
      | none => rfl
      | some o => exact absurd (Heap.lt_size q) (Nat.not_lt.mpr ge)
    refine hide fun CCC kkk => ?_
    obtain ⟨n0, ns⟩ := B.old_none gn
    refine kkk ?_; clear kkk
    have c105 : c' ≠ 105 := by
      intro q; subst q
      exact absurd (Nat.le_trans big ge) (by decide)
    have ns1 : put σ 105 (tabObj #[rawInt 80, rawInt 64, .ref c']) c' = none := (put_ne c105).trans ns
    have hic : Hi c' := .inl (Nat.le_trans big ge)
    have cL : c' ≠ L := Nat.ne_of_gt (Nat.lt_of_lt_of_le B.fm.ns.lt ge)
    have B2 := B1.know hoc ns1 n0 cL hic
    have fr := B2.fm.ok.fresh
    have F3 := B2.fm.alloc (o := kla_obj "<lambda>" lamQ lamP lamB lamS [("places", pc)] ((h.nsMap mainGlobals "__name__").getD .none) c' ctv) rfl
    have B3 := B2.le (Le.put fr _) F3
    have K1 : Kp σ H _ _ := Kp.set (o' := tabObj #[rawInt 80, rawInt 64, .ref c']) e
    have K2 := (K1.trans (Kp.of_le (Le.put ns1 oc))).trans (Kp.of_le (Le.put fr (kla_obj "<lambda>" lamQ lamP lamB lamS [("places", pc)] ((h.nsMap mainGlobals "__name__").getD .none) c' ctv)))
    have CK : CodeK (put (put (put σ 105 (tabObj #[rawInt 80, rawInt 64, .ref c'])) c' oc) h'.objs.size (kla_obj "<lambda>" lamQ lamP lamB lamS [("places", pc)] ((h.nsMap mainGlobals "__name__").getD .none) c' ctv)) c' :=
      ⟨oc, vs, t2, Le.put fr _ _ _ put_self, hd, hv⟩
    refine q h'.objs.size _ _ _ _ B3 ⟨c', ctv, _, put_self, CK⟩ ⟨_, upd_self, .inr ⟨c', rfl, CK, ?_⟩⟩ K2 (fun j hj => upd_ne hj)
    exact B1.hp.untr_new ns1
  · refine kla_makeFunctionHit (s := ⟨h, g, d, t, os⟩) (mg := h.nsMap mainGlobals) (cv := .ref c') hcl hg G hc C (B.fm.ok.sub _ _ eσ) trivial rfl (bltAt B) fun ctv h' tk up sz => ?_
    have B2 := B.grow up
    have fr := B2.fm.ok.fresh
    have F3 := B2.fm.alloc (o := kla_obj "<lambda>" lamQ lamP lamB lamS [("places", pc)] ((h.nsMap mainGlobals "__name__").getD .none) c' ctv) rfl
    have B3 := B2.le (Le.put fr _) F3
    have K2 : Kp σ H _ H := Kp.of_le (Le.put fr (kla_obj "<lambda>" lamQ lamP lamB lamS [("places", pc)] ((h.nsMap mainGlobals "__name__").getD .none) c' ctv))
    refine hide fun CCC kkk => ?_
    obtain ⟨oc, vs, t2, e2, r⟩ := ck
    refine kkk ?_; clear kkk
    have CK : CodeK (put σ h'.objs.size (kla_obj "<lambda>" lamQ lamP lamB lamS [("places", pc)] ((h.nsMap mainGlobals "__name__").getD .none) c' ctv)) c' := ⟨oc, vs, t2, Le.put fr _ _ _ e2, r⟩
    exact q h'.objs.size _ _ _ _ B3 ⟨c', ctv, _, put_self, CK⟩ ⟨_, e, .inr ⟨c', rfl, CK, u⟩⟩ K2 (fun _ _ => rfl)
theorem lamCall {f pc pd : Addr} {o oc : Obj} {kvs : List (Int × Value)} {x : Int} {tx : Tok} {v : Value} {Q : Value → Shared → Prop} (O : Ok w σ h) (R : Room 1 A) (X : LamIs σ f pc) (hpc : σ pc = some oc) (hoc : IsCe oc (.ref pd)) (hpd : σ pd = some o)
    (hk : o.IsDictOf (intKind prog w) kvs) (hv : valueAt kvs x = some v) (q : ∀ h' t', Pu w σ h σ h' → Q v ⟨h', g, d, t', os⟩) :
    wpAny (model prog w) A (call (.ref f) [.int x tx]) Q E ⟨h, g, d, t, os⟩ := by
  refine hide fun CCC kkk => ?_
  obtain ⟨c', ctv, pm, ef, oc', vs, t2, e2, hd, hvs⟩ := X
  refine kkk ?_; clear kkk
  refine wpAny_call ?_
  refine kla_callFunE (s := ⟨h, g, d, t, os⟩) (fd := kla_fn "<lambda>" lamQ lamP lamB lamS [("places", pc)] pm (.ref c') ctv) R.depth (O.sub _ _ ef) rfl rfl rfl rfl ⟨c', oc', vs, t2, rfl, O.sub _ _ e2, hd, hvs⟩ ?_
  rw [show bindArgs (kla_fn "<lambda>" lamQ lamP lamB lamS [("places", pc)] pm (.ref c') ctv) ⟨[.int x tx], []⟩ = pure [(("goal" : Str), Value.int x tx)] from rfl]
  refine wpAny_pure (wpAny_newFunctionEnv (show ∀ x ∈ lamS.names, x.2 ≠ .cell by decide) (fun y hy => by cases List.mem_singleton.mp hy; rfl) (fun h₁ hns hsb => ⟨?_, ?_⟩) rfl)
  · exact (nolimit O.K).fresh _ hsb
  have hk₁ : ∀ b o, h.get? b = some o → h₁.get? b = some o := fun b o e => hsb.extBut b o (Nat.ne_of_lt (Heap.lt_size e)) (Heap.get?_push_of_some _ e)
  have F : Fm w σ h σ h.objs.size h₁ (fun y => ([("goal", Value.int x tx)] : List (Str × Value)).reverse.lookup y) := by
    refine ⟨⟨O.base, fun a o e => hk₁ a o (O.sub a o e)⟩, hns, O.fresh, ?_, ⟨fun a o e _ => hk₁ a o e, fun a o e n => (by rw [n] at e; cases e), fun _ o e => ⟨o, e⟩⟩⟩
    cases q : h.get? h.objs.size with
    | none => rfl
    | some o => exact absurd (Heap.lt_size q) (Nat.lt_irrefl _)
  have B := Bd.start (md := mdL) F (H0.in σ)
  have CE : Ce σ H0 pc (.ref pd) := ⟨oc, hpc, hoc, H0.un _⟩
  refine kla_codeExpr ?_
  show wpAny _ (A.deeper (envX lamQ lamS h.objs.size f (.ref c') [("places", pc)])) (eval lamB (envX lamQ lamS h.objs.size f (.ref c') [("places", pc)])) _ _ _
  unfold lamB
  repeat walk_at "x"
  exact plGet B hpd hk hv (fun t' => q _ _ B.pu)
noncomputable def Tm.map (p : Nat → Nat) : Tm → Tm
  | .goto b => .goto (p b)
  | .drop l b => .drop l (p b)
  | x => x
theorem LamIs.fn {f pc : Addr} (X : LamIs σ f pc) (B : Bd w md σ₀ h₀ H₀ σ H L h m) : FnAt f h := by
  refine hide fun CCC kkk => ?_
  obtain ⟨c', ctv, pm, e, _⟩ := X
  refine kkk ?_; clear kkk
  exact ⟨_, _, _, _, B.fm.ok.sub _ _ e⟩
theorem retarg_spec {v : Value} {tm : Tm} {p : Nat → Nat} {f pc pd : Addr} {o oc : Obj} {kvs : List (Int × Value)} {Q : Value → Shared → Prop} (O : Ok w σ h) (R : Room 3 A) (X : LamIs σ f pc) (hpc : σ pc = some oc) (hoc : IsCe oc (.ref pd)) (hpd : σ pd = some o)
    (hk : o.IsDictOf (intKind prog w) kvs) (hv : TmIs σ v tm) (hn : tm ≠ .none) (hp : ∀ b ∈ tm.succ, ∃ tk, valueAt kvs (b : Int) = some (.int (p b : Nat) tk))
    (q : ∀ h' t' σ' v', Pu w σ h σ' h' → TmIs σ' v' (tm.map p) → Q v' ⟨h', g, d, t', os⟩) :
    wpAny (model prog w) A (call (.ref 96) [v, .ref f]) Q E ⟨h, g, d, t, os⟩ := by
  refine' enterC (md := mdL) (binds := [("terminator", v), ("turned", .ref f)]) O R (H0.in σ) ?a1 ?a2 ?a3 ?a4 ?_ ?a5 ?a6 ?a7
  case a1 => rfl
  case a2 => kernel_rfl
  case a3 => rfl
  case a4 => intro n y hy; rcases List.mem_cons.mp hy with rfl | hy; exact .inl rfl; cases List.mem_singleton.mp hy; exact .inr ⟨rfl, rfl⟩
  case a5 => rfl
  case a6 => rfl
  case a7 => rfl
  intro L h₁ t' B cf
  refine hide fun CCC kkk => ?_
  obtain ⟨co, c1, c2, c3, c4, c5, c6⟩ := cf "turned" (L + 1) rfl
  refine kkk ?_; clear kkk
  have B := B.know c1 c4 c3 c5 c6
  have CE : Ce (put σ (L + 1) co) H0 (L + 1) (.ref f) := ⟨co, put_self, c2, H0.un _⟩
  have UP : Le σ (put σ (L + 1) co) := Le.put c4 _
  clear cf
  obtain ⟨fv, hfv⟩ : ∃ fv, fv = Value.ref f := ⟨_, rfl⟩
  rw [← hfv] at CE
  cases tm with
  | none => exact absurd rfl hn
  | goto b =>
    refine hide fun CCC kkk => ?_
    obtain ⟨a, t1, t2, rfl, l⟩ := hv
    refine kkk ?_; clear kkk
    repeat walk_at "x"
    refine itemTF (i := 0) B.fm (UP _ _ l) rfl (by decide) ?_
    repeat walk_at "x"
    rename Bd _ _ _ _ _ _ _ _ _ _ => B
    subst hfv
    rename Bd _ _ _ _ _ _ _ _ _ _ => B
    refine callWith_F ?gf ?_ ?g1 ?g2
    case g1 => rfl
    case g2 => rfl
    case gf => exact (X.le UP).fn B
    repeat walk_at "x"
    refine itemTF (i := 1) B.fm (UP _ _ l) rfl (by decide) ?_
    repeat walk_at "x"
    refine And.intro ((X.le UP).fn B) ?_
    refine hide fun CCC kkk => ?_
    obtain ⟨tk, hpv⟩ := hp b (.head _)
    refine kkk ?_; clear kkk
    refine lamCall B.fm.ok (R.deeper.le (by decide)) (X.le UP) (UP _ _ hpc) hoc (UP _ _ hpd) hk hpv fun h5 t5 P => ?_
    replace B := B.pure P
    repeat walk_at "x"
    refine newTupleB B (by exact Nat.le_of_ble_eq_true rfl) fun kb h6 f1 f2 B => ?_
    repeat walk_at "x"
    exact q _ _ _ _ B.pu ⟨kb, _, _, rfl, put_self⟩
  | drop l0 b =>
    refine hide fun CCC kkk => ?_
    obtain ⟨a, t1, p0, t2, e0, t3, rfl, l, l2, l3⟩ := hv
    refine kkk ?_; clear kkk
    repeat walk_at "x"
    refine itemTF (i := 0) B.fm (UP _ _ l) rfl (by decide) ?_
    repeat walk_at "x"
    rename Bd _ _ _ _ _ _ _ _ _ _ => B
    refine itemTF (i := 1) B.fm (UP _ _ l) rfl (by decide) ?_
    repeat walk_at "x"
    subst hfv
    rename Bd _ _ _ _ _ _ _ _ _ _ => B
    refine callWith_F ?gf ?_ ?g1 ?g2
    case g1 => rfl
    case g2 => rfl
    case gf => exact (X.le UP).fn B
    repeat walk_at "x"
    refine itemTF (i := 2) B.fm (UP _ _ l) rfl (by decide) ?_
    repeat walk_at "x"
    refine And.intro ((X.le UP).fn B) ?_
    refine hide fun CCC kkk => ?_
    obtain ⟨tk, hpv⟩ := hp b (.head _)
    refine kkk ?_; clear kkk
    refine lamCall B.fm.ok (R.deeper.le (by decide)) (X.le UP) (UP _ _ hpc) hoc (UP _ _ hpd) hk hpv fun h5 t5 P => ?_
    replace B := B.pure P
    repeat walk_at "x"
    refine newTupleB B (by exact Nat.le_of_ble_eq_true rfl) fun kb h6 f1 f2 B => ?_
    repeat walk_at "x"
    exact q _ _ _ _ B.pu ⟨kb, _, p0, _, e0, _, rfl, put_self, Le.put f1 _ _ _ (UP _ _ l2), Le.put f1 _ _ _ (UP _ _ l3)⟩
  | ret =>
    refine hide fun CCC kkk => ?_
    obtain ⟨a, t1, rfl, l⟩ := hv
    refine kkk ?_; clear kkk
    repeat walk_at "x"
    refine itemTF (i := 0) B.fm (UP _ _ l) rfl (by decide) ?_
    repeat walk_at "x"
    rename Bd _ _ _ _ _ _ _ _ _ _ => B
    repeat walk_at "x"
    exact q _ _ _ _ B.pu ⟨a, _, rfl, UP _ _ l⟩
  | unr =>
    refine hide fun CCC kkk => ?_
    obtain ⟨a, t1, rfl, l⟩ := hv
    refine kkk ?_; clear kkk
    repeat walk_at "x"
    refine itemTF (i := 0) B.fm (UP _ _ l) rfl (by decide) ?_
    repeat walk_at "x"
    rename Bd _ _ _ _ _ _ _ _ _ _ => B
    repeat walk_at "x"
    exact q _ _ _ _ B.pu ⟨a, _, rfl, UP _ _ l⟩
end
noncomputable def full (a : SA) (path : List Nat) (x y : Nat) : Option Int := (path[x]?).bind fun b => if y ≤ (a.sts b).length then a.sp b y else none
noncomputable def nsp (a : SA) (path : List Nat) (i idx : Nat) (x y : Nat) : Option Int := if x < i ∨ (x = i ∧ y < idx) then full a path x y else none
theorem nsp_zero {a : SA} {path : List Nat} : nsp a path 0 0 = fun _ _ => none := by
  funext x y; unfold nsp; rw [if_neg]; lia
theorem nsp_next {a : SA} {path : List Nat} {i b : Nat} (hb : path[i]? = some b) : nsp a path i ((a.sts b).length + 1) = nsp a path (i + 1) 0 := by
  funext x y; unfold nsp
  by_cases c : x < i
  · rw [if_pos (.inl c), if_pos (.inl (by lia))]
  · by_cases d : x = i
    · subst d
      by_cases e : y < (a.sts b).length + 1
      · rw [if_pos (.inr ⟨rfl, e⟩), if_pos (.inl (by lia))]
      · rw [if_neg (by lia), if_pos (.inl (by lia))]
        unfold full; rw [hb, Option.bind_some, if_neg (by lia)]
    · rw [if_neg (by lia), if_neg (by lia)]
theorem nsp_some {a : SA} {path : List Nat} {i b idx : Nat} {s : Int} (hb : path[i]? = some b) (hl : idx ≤ (a.sts b).length) (hs : a.sp b idx = some s) :
    (fun x y => if x = i ∧ y = idx then some s else nsp a path i idx x y) = nsp a path i (idx + 1) := by
  funext x y; unfold nsp
  by_cases c : x = i ∧ y = idx
  · rw [if_pos c, if_pos (.inr ⟨c.1, by lia⟩), c.1, c.2]
    unfold full; rw [hb, Option.bind_some, if_pos hl, hs]
  · rw [if_neg c]
    by_cases d : x < i ∨ (x = i ∧ y < idx)
    · rw [if_pos d, if_pos (by lia)]
    · rw [if_neg d, if_neg (by lia)]
theorem nsp_none {a : SA} {path : List Nat} {i b idx : Nat} (hb : path[i]? = some b) (hs : a.sp b idx = none) : nsp a path i idx = nsp a path i (idx + 1) := by
  funext x y; unfold nsp
  by_cases c : x = i ∧ y = idx
  · rw [if_neg (by lia), if_pos (.inr ⟨c.1, by lia⟩), c.1, c.2]
    unfold full; rw [hb, Option.bind_some, hs]; split <;> rfl
  · by_cases d : x < i ∨ (x = i ∧ y < idx)
    · rw [if_pos d, if_pos (by lia)]
    · rw [if_neg d, if_neg (by lia)]
noncomputable def PlIs (prog : Program) (w : World) (o : Obj) (path : List Nat) (i : Nat) : Prop :=
  ∃ kvs, o.IsDictOf (intKind prog w) kvs ∧ kvs.map (·.1) = (path.take i).map (fun (n : Nat) => (n : Int)) ∧ ∀ (j b : Nat), (path.take i)[j]? = some b → ∃ t, valueAt kvs (b : Int) = some (.int (j : Nat) t)
noncomputable def NBk (σ : Mp) (H : Hp) (v : Value) (x : List St × Tm) : Prop := ∃ b s tv ss, v = .ref b ∧ Ul σ H b [.ref s, tv] ∧ Ul σ H s ss ∧ All2 (StIs σ) ss x.1 ∧ TmIs σ tv x.2
theorem NBk.kp {σ σ' : Mp} {H H' : Hp} {v : Value} {x : List St × Tm} (X : NBk σ H v x) (Y : HpIn σ H) (k : Kp σ H σ' H') : NBk σ' H' v x := by
  refine hide fun CCC kkk => ?_
  obtain ⟨b, s, tv, ss, e, u1, u2, u3, u4⟩ := X
  refine kkk ?_; clear kkk
  exact ⟨b, s, tv, ss, e, u1.kp k, u2.kp k, u3.imp fun _ _ z => z.tk (k.tk Y), u4.tk (k.tk Y)⟩
noncomputable def nblk (a : SA) (path : List Nat) (j : Nat) : List St × Tm := match (path[j]?).bind (a.blocks[·]?) with
  | some x => (x.1, x.2.map fun _ => j + 1)
  | none => ([], .none)
structure NBo (σ : Mp) (B2 : Addr) (bs : List (List St × Tm)) (sp : Nat → Nat → Option Int) : Prop where
  ex : ∃ BD2 loc2 blk2 sp2 nm ac vs n o xs, ObjIs σ B2 BD2 82 (boAm nm ac loc2 blk2 sp2) ∧ LO σ blk2 vs ∧ vs.length = bs.length ∧
    (∀ (i : Nat) v x, vs[i]? = some v → bs[i]? = some x → ∃ b s tv ss, v = .ref b ∧ LO σ b [.ref s, tv] ∧ LO σ s ss ∧ All2 (StIs σ) ss x.1 ∧ TmIs σ tv x.2) ∧ σ sp2 = some o ∧ SpO σ o sp n xs ∧ Hi sp2
noncomputable def mdW : Kd → Bool
  | .il _ | .it _ | .tab => true
  | _ => false
section
variable {prog : Program} {w : World} {A : Around} {E : Value → Shared → Prop} {md : Kd → Bool} {σ₀ σ : Mp} {H₀ H : Hp} {h₀ h : Heap} {g : Array GenState} {d : Drawn} {t : Nat} {os : OsState} {L D : Addr} {m : Str → Option Value} {Q : Value → Shared → Prop} {k : Nat} {c : Cs} {a : SA}
theorem PlIs.nil {path : List Nat} : PlIs prog w dicO path 0 := ⟨[], dicO_int, rfl, fun j b e => by simp at e⟩
theorem placeSet {Q : Unit → Shared → Prop} {kd : Kd} {o : Obj} {path : List Nat} {i b : Nat} {tb ti : Tok} (B : Bd w md σ₀ h₀ H₀ σ H L h m) (e : H kd = some (D, o)) (X : PlIs prog w o path i) (hm : md kd = true) (hb : path[i]? = some b) (hn : b ∉ path.take i) (hz : path.length ≤ 100000)
    (q : ∀ h' o' t', PlIs prog w o' path (i + 1) → ¬ isTupO o' → Bd w md σ₀ h₀ H₀ (put σ D o') (upd H kd D o') L h' m → Q () ⟨h', g, d, t', os⟩) :
    wpAny (model prog w) A (setItem (.ref D) (.int b tb) (.int i ti)) Q E ⟨h, g, d, t, os⟩ := by
  refine hide fun CCC kkk => ?_
  obtain ⟨kvs, x1, x2, x3⟩ := X
  refine kkk ?_; clear kkk
  have hn' : (b : Int) ∉ kvs.map (·.1) := by
    rw [x2]; intro z; obtain ⟨n, hn1, hn2⟩ := List.mem_map.mp z
    have : n = b := by lia
    exact hn (this ▸ hn1)
  have hl : kvs.length = (path.take i).length := by have := congrArg List.length x2; simpa using this
  have li : (path.take i).length = i := by rw [List.length_take]; have := (List.getElem?_eq_some_iff.mp hb).1; lia
  refine plSet B e x1 hm hn' (by rw [hl, List.length_take]; lia) fun h' o' t' x4 B' => q h' o' t' ⟨_, x4, ?_, fun j b' hj => ?_⟩ (IsDictOf.no x4) B'
  · rw [List.map_append, x2, List.take_add_one, hb]; simp
  · rw [List.take_add_one, hb] at hj
    rcases snoc_get (x := b) (y := b') hj with ⟨_, hj2⟩ | ⟨hj2, hj3⟩
    · obtain ⟨t, e⟩ := x3 j b' hj2; exact ⟨t, valueAt_left e b⟩
    · rw [hj2, li, hj3]; exact ⟨ti, valueAt_new hn'⟩
theorem spSetK {Q : Unit → Shared → Prop} {kd : Kd} {o : Obj} {sp : Nat → Nat → Option Int} {n : Nat} {xs : K2} {ka : Addr} {i j : Nat} {t1 t2 t3 : Tok} {s : Int} (B : Bd w md σ₀ h₀ H₀ σ H L h m) (R : Room 1 A) (e : H kd = some (D, o)) (X : SpO σ o sp n xs)
    (hk : TO σ ka [.int i t1, .int j t2]) (hm : md kd = true) (hz : n ≤ 16000000)
    (q : ∀ h' o' xs' t', SpO (put σ D o') o' (fun a b => if a = i ∧ b = j then some s else sp a b) (n + 1) xs' → Bd w md σ₀ h₀ H₀ (put σ D o') (upd H kd D o') L h' m → Q () ⟨h', g, d, t', os⟩) :
    wpAny (model prog w) A (setItem (.ref D) (.ref ka) (.int s t3)) Q E ⟨h, g, d, t, os⟩ :=
  spSetF B.fm R (B.hp.at_ _ _ _ e) X hk (B.hp.hi _ _ _ e) hz fun h' o' xs' t' x1 x2 F => q h' o' xs' t' (x1.tk (Tk.put_at (B.hp.at_ _ _ _ e) (B.hp.no _ _ _ e))) (B.set e x2 hm F)
end
section
variable {σ : Mp} {H : Hp} {ca a : Addr} {co o : Obj} {v0 : Option Value} {vs : List Value} {c : Cs} {A : SA}
theorem ne_cell {ox : Obj} (e : σ ca = some co) (d : co.data = .cell v0) (x : σ a = some ox) (n : ∀ v, ox.data ≠ .cell v) : a ≠ ca := by
  rintro rfl; rw [e] at x; cases x; exact n _ d
theorem Ul.cput (X : Ul σ H a vs) (e : σ ca = some co) (d : co.data = .cell v0) : Ul (Mine.put σ ca o) H a vs := by
  refine hide fun CCC kkk => ?_
  obtain ⟨n, x, u⟩ := X
  refine kkk ?_; clear kkk
  exact ⟨n, (put_ne (ne_cell e d x nofun)).trans x, u⟩
theorem TabIs.cput (X : TabIs σ H) (e : σ ca = some co) (d : co.data = .cell v0) : TabIs (Mine.put σ ca o) H := by
  refine hide fun CCC kkk => ?_
  obtain ⟨ps, x, y⟩ := X
  refine kkk ?_; clear kkk
  refine ⟨ps, x, y.imp id ?_⟩
  intro zzq0
  refine hide fun CCC kkk => ?_
  obtain ⟨c', e1, ⟨oc, vs, t, e2, d2, r⟩, u⟩ := zzq0
  refine kkk ?_; clear kkk
  exact ⟨c', e1, ⟨oc, vs, t, (put_ne (ne_cell e d e2 (by rw [d2]; nofun))).trans e2, d2, r⟩, u⟩
theorem Tk.cput (e : σ ca = some co) (d : co.data = .cell v0) : Tk σ (Mine.put σ ca o) := fun _ _ x => (put_ne (ne_cell e d x nofun)).trans x
theorem Sc.cput (X : Sc σ H c A) (e : σ ca = some co) (d : co.data = .cell v0) : Sc (Mine.put σ ca o) H c A := X.mono (Tk.cput e d) fun _ _ => rfl
end
structure WB (prog : Program) (w : World) (a : SA) (c : Cs) (path : List Nat) (kr : Addr) (kvs : List Value) (pd bd sd pc : Addr) (nb i idx : Nat) (σ : Mp) (H : Hp) : Prop where
  pl : ∃ o, H (.il 10) = some (pd, o) ∧ PlIs prog w o path path.length
  ce : Ce σ H pc (.ref pd)
  sc : Sc σ H c a
  kr : Ul σ H kr kvs
  tb : TabIs σ H
  bl : ∃ n bvs, H (.il 11) = some (bd, lisO bvs n) ∧ bvs.length = nb ∧ ∀ (j : Nat) v, bvs[j]? = some v → NBk σ H v (nblk a path j)
  sp : ∃ o xs, H (.il 12) = some (sd, o) ∧ SpO σ o (nsp a path i idx) (i * 3000 + idx) xs
noncomputable def Kd.wb : Kd → Bool
  | .il 10 | .il 11 | .il 12 => true
  | k => k.cl == 1
section
variable {prog : Program} {w : World} {a : SA} {c : Cs} {path : List Nat} {kr pd bd sd pc : Addr} {kvs : List Value} {nb i idx : Nat} {σ σ' : Mp} {H H' : Hp}
theorem WB.kpT (X : WB prog w a c path kr kvs pd bd sd pc nb i idx σ H) (hp : HpIn σ H) (k : Kp σ H σ' H') (e : ∀ j, j.wb = true → H' j = H j) (t : TabIs σ' H') : WB prog w a c path kr kvs pd bd sd pc nb i idx σ' H' := by
  have tk := k.tk hp
  refine ⟨?_, X.ce.kp k, X.sc.mono tk fun j hj => e j ?_, X.kr.kp k, t, ?_, ?_⟩
  · obtain ⟨o, x, y⟩ := X.pl; exact ⟨o, (e _ rfl).trans x, y⟩
  · cases j <;> first | exact absurd hj (by decide) | rfl | exact beq_iff_eq.mpr hj | (exfalso; revert hj; simp [Kd.cl])
  · obtain ⟨n, bvs, x, y, z⟩ := X.bl; exact ⟨n, bvs, (e _ rfl).trans x, y, fun j v hv => (z j v hv).kp hp k⟩
  · obtain ⟨o, xs, x, y⟩ := X.sp; exact ⟨o, xs, (e _ rfl).trans x, y.tk tk⟩
theorem WB.start {n : Nat} (_ : HpIn σ H) (z1 : ∃ o, H (.il 10) = some (pd, o) ∧ PlIs prog w o path path.length) (z3 : Ce σ H pc (.ref pd)) (z4 : Sc σ H c a) (z5 : Ul σ H kr kvs) (z6 : TabIs σ H)
    (z9 : H (.il 11) = some (bd, lisO [] n)) (z10 : H (.il 12) = some (sd, dicO)) : WB prog w a c path kr kvs pd bd sd pc 0 0 0 σ H :=
  ⟨z1, z3, z4, z5, z6, ⟨n, [], z9, rfl, fun j v hv => by simp at hv⟩, ⟨dicO, [], z10, by rw [nsp_zero]; exact dicO_sp⟩⟩
theorem WB.kp (X : WB prog w a c path kr kvs pd bd sd pc nb i idx σ H) (hp : HpIn σ H) (k : Kp σ H σ' H') (e : ∀ j, j.wb = true → H' j = H j) (t : H' .tab = H .tab) : WB prog w a c path kr kvs pd bd sd pc nb i idx σ' H' := X.kpT hp k e (X.tb.kp k t)
theorem WB.ownB {w' : World} {md : Kd → Bool} {σ₀ : Mp} {H₀ : Hp} {h₀ h : Heap} {L p : Addr} {o : Obj} {m : Str → Option Value} (X : WB prog w a c path kr kvs pd bd sd pc nb i idx σ H) (_ : Bd w' md σ₀ h₀ H₀ (put σ p o) H L h m) (hp : HpIn σ H) (e : σ p = none) :
    WB prog w a c path kr kvs pd bd sd pc nb i idx (put σ p o) H := X.kp hp (Kp.of_le (Le.put e o)) (fun _ _ => rfl) rfl
theorem WB.addB {w' : World} {md : Kd → Bool} {σ₀ : Mp} {H₀ : Hp} {h₀ h : Heap} {L p : Addr} {o : Obj} {kd : Kd} {m : Str → Option Value} (X : WB prog w a c path kr kvs pd bd sd pc nb i idx σ H) (_ : Bd w' md σ₀ h₀ H₀ (put σ p o) (upd H kd p o) L h m) (hp : HpIn σ H) (e : σ p = none)
    (h1 : kd.wb = false) (h2 : kd ≠ .tab) : WB prog w a c path kr kvs pd bd sd pc nb i idx (put σ p o) (upd H kd p o) :=
  X.kp hp (Kp.add e) (fun j hj => upd_ne (by rintro rfl; rw [h1] at hj; cases hj)) (upd_ne (Ne.symm h2))
theorem WB.le (X : WB prog w a c path kr kvs pd bd sd pc nb i idx σ H) (hp : HpIn σ H) (k : Le σ σ') : WB prog w a c path kr kvs pd bd sd pc nb i idx σ' H := X.kp hp (Kp.of_le k) (fun _ _ => rfl) rfl
end
theorem Kp.setB {w : World} {md : Kd → Bool} {σ₀ σ : Mp} {H₀ H : Hp} {h₀ h : Heap} {L p : Addr} {o o' : Obj} {kd : Kd} {m : Str → Option Value} (_ : Bd w md σ₀ h₀ H₀ (put σ p o') (upd H kd p o') L h m) (e : H kd = some (p, o)) : Kp σ H (put σ p o') (upd H kd p o') := Kp.set e
theorem Kp.add2B {w : World} {md : Kd → Bool} {σ₀ σ : Mp} {H₀ H : Hp} {h₀ h : Heap} {L p q : Addr} {o o' : Obj} {kd kx : Kd} {m : Str → Option Value} (_ : Bd w md σ₀ h₀ H₀ (put (put σ p o) q o') (upd (upd H kd p o) kx q o') L h m) (e1 : σ p = none) (e2 : put σ p o q = none) :
    Kp σ H (put (put σ p o) q o') (upd (upd H kd p o) kx q o') := (Kp.add e1).trans (Kp.add e2)
theorem keep2B {w : World} {md : Kd → Bool} {σ₀ σ : Mp} {H₀ H : Hp} {h₀ h : Heap} {L p q : Addr} {o o' : Obj} {kd kx j : Kd} {r : Option (Addr × Obj)} {m : Str → Option Value} (_ : Bd w md σ₀ h₀ H₀ σ (upd (upd H kd p o) kx q o') L h m) (e : H j = r) (h1 : j ≠ kd) (h2 : j ≠ kx) : upd (upd H kd p o) kx q o' j = r :=
  (upd_ne h2).trans ((upd_ne h1).trans e)
theorem mdK2 {a b j : Kd} (h1 : j ≠ a) (h2 : j ≠ b) : mdK [a, b] j = false := by
  cases q : mdK [a, b] j with
  | false => rfl
  | true =>
    have := List.contains_iff_mem.mp q
    simp only [List.mem_cons, List.not_mem_nil, or_false] at this
    rcases this with e | e
    · exact absurd e h1
    · exact absurd e h2
theorem Room.hnd {k : Nat} {A : Around} {e : Env} (R : Room k A) : (A.deeper e).handled = none := R.2.2
section
variable {prog : Program} {w : World} {A : Around} {E : Value → Shared → Prop} {σ : Mp} {H : Hp} {h : Heap} {g : Array GenState} {d : Drawn} {t : Nat} {os : OsState} {Q : Value → Shared → Prop} {k : Nat} {c : Cs} {a : SA}
theorem wb_spec {path : List Nat} {kr : Addr} {kvs : List Value} (O : Ok w σ h) (R : Room 5 A) (X : HpIn σ H) (Y : Sc σ H c a) (hs : a.Small 2000) (C : Chain a.blocks path) (hz : path.length ≤ 2000)
    (T : TabIs σ H) (hk : Ul σ H kr kvs) (hv : All2 IsN kvs path) (hN : handedIn c.nm = true) (hA : handedIn c.ac = true)
    (q : ∀ h' t' σ' H' B2, Nx w mdW σ h H σ' h' H' → TabIs σ' H' → NBo σ' B2 ((List.range path.length).map (nblk a path)) (nsp a path path.length 0) → Q (.ref B2) ⟨h', g, d, t', os⟩) :
    wpAny (model prog w) A (call (.ref 110) [.ref c.B, .ref kr]) Q E ⟨h, g, d, t, os⟩ := by
  refine' enterC (md := mdW) (binds := [("body", .ref c.B), ("kept", .ref kr)]) O R X ?a1 ?a2 ?a3 ?a4 ?_ ?a5 ?a6 ?a7
  case a1 => rfl
  case a2 => kernel_rfl
  case a3 => rfl
  case a4 => intro n y hy; rcases List.mem_cons.mp hy with rfl | hy; exact .inl rfl; cases List.mem_singleton.mp hy; exact .inl rfl
  case a5 => rfl
  case a6 => rfl
  case a7 => rfl
  intro L h₁ t' B cf
  refine hide fun CCC kkk => ?_
  obtain ⟨co, c1, c2, c3, c4, c5, c6⟩ := cf "places" (L + 1) rfl
  refine kkk ?_; clear kkk
  clear cf
  replace B := B.know c1 c4 c3 c5 c6
  have U0 := X.untr_new c4
  have K0 : Kp σ H (put σ (L + 1) co) H := Kp.of_le (Le.put c4 _)
  replace Y := Y.kown (o := co) c4
  replace hk := hk.kp K0
  replace T := T.kp K0 rfl
  repeat walk_at "x"
  refine newDictK (.il 10) B rfl fun pd h2 e1 B => ?_
  have K1 : Kp (put σ (L + 1) co) H _ _ := Kp.add (k := .il 10) (o := dicO) e1
  replace Y := Y.addB B e1 (by decide)
  replace hk := hk.kp K1
  replace T := T.kp K1 (upd_ne nofun)
  refine hide fun CCC kkk => ?_
  obtain ⟨U1a, U1b⟩ := K1 _ _ put_self U0
  refine kkk ?_; clear kkk
  clear K1 K0 U0
  repeat walk_at "x"
  refine stCe B U1a c2 U1b c4 c6 rfl ?_ rfl rfl
  intro h3 o3 hce B
  replace Y := Y.cput (o := o3) U1a c2
  replace hk := hk.cput (o := o3) U1a c2
  replace T := T.cput (o := o3) U1a c2
  repeat walk_at "x"
  refine wpAny_For ?_ (fun _ => rfl)
  repeat walk_at "x"
  refine startList (k := .it 10) B hk.lo rfl fun it h4 oi e3 e4 B2 => ?_
  refine loopG (n := kvs.length) (Itr.list (D := kr) (vs := kvs) (k := .it 10) R.2.2 tgtN)
    (fun i σ' H' m' => ∃ o, H' (.il 10) = some (pd, o) ∧ PlIs prog w o path i ∧ Ce σ' H' (L + 1) (.ref pd) ∧ Sc σ' H' c a ∧ Ul σ' H' kr kvs ∧ TabIs σ' H' ∧ m' "kept" = some (.ref kr) ∧ m' "body" = some (.ref c.B)) B2 ?_ ?_ ⟨oi, upd_self, e4⟩ ?_ ?_ ?_ ?_ ?_
  · intro k hk; rw [of_decide_eq_true hk]; rfl
  · intro k a' o' hk e
    rw [of_decide_eq_true hk, upd_self] at e; cases e
    exact B.new e3
  · have K := Kp.add (H := upd H (.il 10) pd dicO) (k := .it 10) (o := oi) e3
    exact ⟨dicO, Eq.trans (upd_ne nofun) upd_self, PlIs.nil, Ce.kp ⟨o3, put_self, hce, U1b⟩ K, Y.addB B2 e3 (by decide), hk.kp K, T.kp K (upd_ne nofun), rfl, rfl⟩
  · intro i σ H m σ' H' X X' kp oth zzq10
    refine hide fun CCC kkk => ?_
    obtain ⟨o, z1, z2, z3, z4, z5, z6, z7, z8⟩ := zzq10
    refine kkk ?_; clear kkk
    exact ⟨o, (oth _ rfl).trans z1, z2, z3.kp kp, z4.mono (kp.tk X) (fun k hk => oth k (decide_eq_false (by rintro rfl; cases hk))), z5.kp kp, z6.kp kp (oth _ rfl), z7, z8⟩
  · rintro i σ H m X ⟨o, z1, z2, z3, z4, z5, z6, z7, z8⟩; exact z5.lo
  · intro i v σ1 H1 h5 m1 t5 QQ fin hi hvi zzq11 B
    refine hide fun CCC kkk => ?_
    obtain ⟨o, z1, z2, z3, z4, z5, z6, z7, z8⟩ := zzq11
    refine kkk ?_; clear kkk
    refine hide fun CCC kkk => ?_
    obtain ⟨b, hb, tb, rfl⟩ := hv.getV hvi
    refine kkk ?_; clear kkk
    refine wpAny_assign_Name ?_
    repeat walk_at "x"
    rename Bd _ _ _ _ _ _ _ _ _ _ => B
    have X0 := B.hp
    have li : (path.take i).length = i := by rw [List.length_take]; have := (List.getElem?_eq_some_iff.mp hb).1; lia
    refine hide fun CCC kkk => ?_
    obtain ⟨pk, y1, y2, y3⟩ := z2
    refine kkk ?_; clear kkk
    have hip := (List.getElem?_eq_some_iff.mp hb).1
    have lk : pk.length = i := by have := congrArg List.length y2; rw [List.length_map, List.length_map, li] at this; exact this
    refine plLen (prog := prog) B (X0.at_ _ _ _ z1) y1 (X0.hi _ _ _ z1) (by lia) fun t6 tk6 => ?_
    rw [lk]
    repeat walk_at "x"
    refine placeSet (prog := prog) B z1 ⟨pk, y1, y2, y3⟩ rfl hb (C.notin hb) (by lia) fun h7 o7 t7 z2 no7 B => ?_
    repeat walk_at "x"
    have K := Kp.set (σ := σ1) (o' := o7) z1
    refine fin.nx B ⟨o7, upd_self, z2, z3.kp K, z4.setB B X0 z1 (by decide), z5.kp K, z6.kp K (upd_ne nofun), z7, z8⟩ (fun k hk => upd_ne (by rw [of_decide_eq_true hk]; nofun))
  · intro σ1 H1 h5 m1 t5 zzq5 B
    refine hide fun CCC kkk => ?_
    obtain ⟨o, z1, z2, z3, z4, z5, z6, z7, z8⟩ := zzq5
    refine kkk ?_; clear kkk
    rw [hv.length] at z2
    repeat walk_at "x"
    refine Assign_Tuple_swapped (names := ["blocks", "spots"]) ?_ (by rfl) (by with_unfolding_all rfl)
    repeat walk_at "x"
    refine newListK (.il 11) B (by exact Nat.le_of_ble_eq_true rfl) rfl fun bd h6 e6 e7 B => ?_
    have K6 := Kp.add (H := H1) (k := .il 11) (o := lisO [] 0) e6
    replace z1 := keepB B z1 nofun
    replace z3 := z3.kp K6
    replace z4 := z4.addB B e6 (by decide)
    replace z5 := z5.kp K6
    replace z6 := z6.kp K6 (upd_ne nofun)
    have z9 := selfB B
    repeat walk_at "x"
    refine newDictK (.il 12) B rfl fun sd h7 e8 B => ?_
    have K7 := Kp.add (H := upd H1 (.il 11) bd (lisO [] 0)) (k := .il 12) (o := dicO) e8
    replace z1 := keepB B z1 nofun
    replace z3 := z3.kp K7
    replace z4 := z4.addB B e8 (by decide)
    replace z5 := z5.kp K7
    replace z6 := z6.kp K7 (upd_ne nofun)
    replace z9 := keepB B z9 nofun
    have z10 := selfB B
    clear K6 K7
    repeat walk_at "x"
    have X0 := B.hp
    refine newTupleB B (by exact Nat.le_of_ble_eq_true rfl) fun ta h8 e9 e10 B => ?_
    have K8 := Kp.of_le (H := upd (upd H1 (.il 11) bd (lisO [] 0)) (.il 12) sd dicO) (Le.put e9 (tupO [.ref bd, .ref sd]))
    replace z3 := z3.kp K8
    replace z4 := z4.ownB B e9
    replace z5 := z5.kp K8
    replace z6 := z6.kp K8 rfl
    clear K8
    refine unpack2 (x := "blocks") (y := "spots") B put_self ?gh ?g0 ?g1 ?g2 ?g3 ?g4
    case gh => exact R.2.2
    case g1 => rfl
    case g2 => rfl
    case g3 => rfl
    case g4 => rfl
    intro h9 B
    repeat walk_at "x"
    have W0 := WB.start (prog := prog) (w := w) (path := path) B.hp ⟨o, z1, z2⟩ z3 z4 z5 z6 z9 z10
    refine wpAny_For ?_ (fun _ => rfl)
    repeat walk_at "x"
    rename Bd _ _ _ _ _ _ _ _ _ _ => B
    refine startList (k := .it 11) B W0.kr.lo rfl fun it h4 oi e3 e4 B2 => ?_
    replace W0 := W0.kp B.hp (Kp.add (k := .it 11) (o := oi) e3) (fun j hj => upd_ne (by rintro rfl; cases hj)) (upd_ne nofun)
    refine loopG (n := kvs.length) (Itr.list (D := kr) (vs := kvs) (k := .it 11) R.2.2 tgtN)
      (fun i σ' H' m' => WB prog w a c path kr kvs pd bd sd (L + 1) i i 0 σ' H' ∧ m' "kept" = some (.ref kr) ∧ m' "body" = some (.ref c.B) ∧ m' "blocks" = some (.ref bd) ∧ m' "spots" = some (.ref sd)) B2 ?_ ?_ ⟨oi, upd_self, e4⟩ ?_ ?_ ?_ ?_ ?_
    · intro k hk; rw [of_decide_eq_true hk]; rfl
    · intro k a' o' hk e
      rw [of_decide_eq_true hk, upd_self] at e; cases e
      exact B.new e3
    · exact ⟨W0, z7, z8, rfl, rfl⟩
    · intro i σ H m σ' H' X X' kp oth zzq10
      refine hide fun CCC kkk => ?_
      obtain ⟨W, r⟩ := zzq10
      refine kkk ?_; clear kkk
      exact ⟨W.kp X kp (fun j hj => oth j (decide_eq_false (by rintro rfl; cases hj))) (oth _ rfl), r⟩
    · rintro i σ H m X ⟨W, r⟩; exact W.kr.lo
    · clear z1 z2 z3 z4 z5 z6 z7 z8 z9 z10 W0 B B2
      intro i v σ1 H1 h5 m1 t5 QQ fin hi hvi zzq11 B
      refine hide fun CCC kkk => ?_
      obtain ⟨W, r1, r2, r3, r4⟩ := zzq11
      refine kkk ?_; clear kkk
      refine hide fun CCC kkk => ?_
      obtain ⟨b, hb, tb, rfl⟩ := hv.getV hvi
      refine kkk ?_; clear kkk
      refine wpAny_assign_Name ?_
      repeat walk_at "x"
      obtain ⟨r0, e11⟩ : ∃ r0, H1 (.it 11) = r0 := ⟨_, rfl⟩
      refine Assign_Tuple ?_ (by rfl) (by rfl)
      rename Bd _ _ _ _ _ _ _ _ _ _ => B
      have IB := W.sc.objB B.hp
      refine hide fun CCC kkk => ?_
      obtain ⟨x, xb, xn, xs⟩ := C.step i b hb
      refine kkk ?_; clear kkk
      refine hide fun CCC kkk => ?_
      obtain ⟨nb, bvs, ba, sa, m1', m2', tv, ss, k1, k2, k3, k4, k5, k6⟩ := W.sc.block B.hp xb
      refine kkk ?_; clear kkk
      have ub : b ≤ 1000000 := by have := C.lt hb; have := hs.k; lia
      repeat walk_at "x"
      rename Bd _ _ _ _ _ _ _ _ _ _ => B
      refine itemLF B.fm ⟨nb, B.hp.at_ _ _ _ k1⟩ k2 ub ?_
      refine unpackL2 B ⟨_, B.hp.at_ _ _ _ k3⟩ ?fh ?f0 ?f1 ?f2 ?f3 ?f4
      case fh => exact R.2.2
      case f1 => rfl
      case f2 => rfl
      case f3 => rfl
      case f4 => rfl
      intro h9 B
      repeat walk_at "x"
      refine hide fun CCC kkk => ?_
      obtain ⟨nbl, bls, w1, w2, w3⟩ := W.bl
      refine kkk ?_; clear kkk
      refine methA B.fm ⟨_, B.hp.at_ _ _ _ w1⟩ ?_
      dsimp only
      repeat walk_at "x"
      have sl : ss.length ≤ 2000 := by
        rw [k5.length]; exact hs.s x (List.mem_of_getElem? xb)
      have sle : ss.length = x.1.length := k5.length
      have X1 := B.hp
      refine listCopyB B ⟨_, B.hp.at_ _ _ _ k4⟩ (by lia) fun cl h10 cn f1 B => ?_
      have UC : Ul (put σ1 cl (lisO ss cn)) H1 cl ss := Ul.new X1 f1
      have W1 := W.le X1 (Le.put f1 (lisO ss cn))
      replace k5 := k5.imp fun _ _ z => z.tk (Le.put f1 (lisO ss cn)).tk
      replace k6 := k6.tk (Le.put f1 (lisO ss cn)).tk
      repeat walk_at "x"
      refine lamMake (pc := L + 1) B W1.tb rfl (by with_unfolding_all rfl) rfl rfl rfl fun f σ5 H5 h11 t11 B5 LI T5 K5 O5 => ?_
      have X2 := B.hp
      have W2 := W1.kpT X2 K5 (fun j hj => O5 j (by rintro rfl; cases hj)) T5
      replace UC := UC.kp K5
      replace k5 := k5.imp fun _ _ z => z.tk (K5.tk X2)
      replace k6 := k6.tk (K5.tk X2)
      repeat walk_at "x"
      refine hide fun CCC kkk => ?_
      obtain ⟨oce, ce1, ce2, _⟩ := W2.ce
      refine kkk ?_; clear kkk
      refine hide fun CCC kkk => ?_
      obtain ⟨opl, p1, pk, y1, y2, y3⟩ := W2.pl
      refine kkk ?_; clear kkk
      refine retarg_spec (p := fun _ => i + 1) B5.fm.ok (R.deeper.le (by decide)) LI ce1 ce2 (B5.hp.at_ _ _ _ p1) y1 k6 xn ?_ fun h12 t12 σ6 tv' P TV => ?_
      · intro b' hb'
        rw [xs] at hb'
        have e : path[i + 1]? = some b' := by
          cases q : path[i + 1]? with
          | none => rw [q] at hb'; simp at hb'
          | some z => rw [q] at hb'; simp at hb'; rw [hb']
        exact y3 (i + 1) b' (by rw [List.take_length]; exact e)
      have X3 := B5.hp
      have B6 := B5.pure P
      have W3 := W2.le X3 P.le
      replace UC := UC.kp (Kp.of_le P.le)
      replace k5 := k5.imp fun _ _ z => z.tk P.le.tk
      replace k4 := (O5 (.st b) nofun).trans k4
      have g11 := (O5 (.it 11) nofun).trans e11
      clear B B5 W1 W2
      repeat walk_at "x"
      rename Bd _ _ _ _ _ _ _ _ _ _ => B
      have X4 := B.hp
      refine newListB B (by exact Nat.le_of_ble_eq_true rfl) fun pl h13 f3 f4 B => ?_
      have UP : Ul _ H5 pl [.ref cl, tv'] := Ul.new X4 f3 (n := 0)
      have W4 := W3.le X4 (Le.put f3 (lisO [.ref cl, tv'] 0))
      replace UC := UC.kp (Kp.of_le (Le.put f3 (lisO [.ref cl, tv'] 0)))
      replace k5 := k5.imp fun _ _ z => z.tk (Le.put f3 (lisO [.ref cl, tv'] 0)).tk
      replace TV := TV.tk (Le.put f3 (lisO [.ref cl, tv'] 0)).tk
      repeat walk_at "x"
      refine hide fun CCC kkk => ?_
      obtain ⟨nbl, bls, w1, w2, w3⟩ := W4.bl
      refine kkk ?_; clear kkk
      have X5 := B.hp
      have li := (List.getElem?_eq_some_iff.mp hb).1
      refine appendK (kd := .il 11) B w1 (by lia) rfl fun h14 n14 B => ?_
      have K6 := Kp.set (σ := put σ6 pl (lisO [.ref cl, tv'] 0)) (o' := lisO (bls ++ [.ref pl]) n14) w1
      have W5 : WB prog w a c path kr kvs pd bd sd (L + 1) (i + 1) i 0 (put (put σ6 pl (lisO [.ref cl, tv'] 0)) bd (lisO (bls ++ [.ref pl]) n14)) (upd H5 (.il 11) bd (lisO (bls ++ [.ref pl]) n14)) := by
        refine ⟨?_, W4.ce.kp K6, W4.sc.setB B X5 w1 (by decide), W4.kr.kp K6, W4.tb.kp K6 (upd_ne nofun), ⟨n14, _, upd_self, by simp [w2], ?_⟩, ?_⟩
        · obtain ⟨o, x, y⟩ := W4.pl; exact ⟨o, keepB B x nofun, y⟩
        · intro j v hv
          rcases snoc_get hv with ⟨_, hv⟩ | ⟨hj, rfl⟩
          · exact (w3 j v hv).kp X5 K6
          · rw [hj, w2]
            have en : nblk a path i = (x.1, x.2.map fun _ => i + 1) := by unfold nblk; rw [hb, Option.bind_some, xb]
            rw [en]
            exact NBk.kp ⟨pl, cl, tv', ss, rfl, UP, UC, k5, TV⟩ X5 K6
        · obtain ⟨o, xs, x, y⟩ := W4.sp; exact ⟨o, xs, keepB B x nofun, y.tk (K6.tk X5)⟩
      replace k4 := keepB B k4 nofun
      replace g11 := keepB B g11 nofun
      clear W4 W3 w1 w2 w3 UC UP TV k5
      repeat walk_at "x"
      refine wpAny_For ?_ (fun _ => rfl)
      repeat walk_at "x"
      rename Bd _ _ _ _ _ _ _ _ _ _ => B
      refine lenF B.fm ⟨_, B.hp.at_ _ _ _ k4⟩ (by lia) fun tk t15 => ?_
      repeat walk_at "x"
      rename Bd _ _ _ _ _ _ _ _ _ _ => B
      have X6 := B.hp
      refine range1B B fun rr h15 t15 tr1 tr2 f5 B => ?_
      replace W5 := W5.ownB B X6 f5
      have X7 := B.hp
      refine startRange (a := 0) (b := (ss.length : Int) + 1) (n := ss.length + 1) (k := .it 12) B put_self (by decide) (by push_cast; lia) (by lia) rfl fun it2 h16 f7 B3 => ?_
      replace W5 := W5.addB B3 X7 f7 rfl nofun
      replace g11 := keepB B3 g11 nofun
      refine loopG (n := ss.length + 1) (Itr.range (k := .it 12) (it := it2) (a := 0) (n := ss.length + 1) R.hnd tgtN)
        (fun idx σ' H' m' => WB prog w a c path kr kvs pd bd sd (L + 1) (i + 1) i idx σ' H' ∧ m' "kept" = some (.ref kr) ∧ m' "body" = some (.ref c.B) ∧ m' "blocks" = some (.ref bd) ∧ m' "spots" = some (.ref sd) ∧ m' "block" = some (.int b tb) ∧ H' (.it 11) = r0) B3 ?_ ?_ ?_ ?_ ?_ ?_ ?_ ?_
      · intro k hk; rw [of_decide_eq_true hk]; rfl
      · intro k a' o' hk e
        rw [of_decide_eq_true hk, upd_self] at e; cases e
        exact B.new f7
      · exact upd_self
      · exact ⟨W5, r1, r2, r3, r4, rfl, g11⟩
      · intro i σ H m σ' H' X X' kp oth zzq10
        refine hide fun CCC kkk => ?_
        obtain ⟨W, r1, r2, r3, r4, r5, r6⟩ := zzq10
        refine kkk ?_; clear kkk
        exact ⟨W.kp X kp (fun j hj => oth j (decide_eq_false (by rintro rfl; cases hj))) (oth _ rfl), r1, r2, r3, r4, r5, (oth (.it 11) rfl).trans r6⟩
      · exact fun _ _ _ _ _ _ => trivial
      · clear W5 B B3 X7 X6 X5 X4 X3 X2 X1
        intro idx v σ1 H1 h5 m1 t5 QQ fin hidx zzq10 zzq11 B
        refine hide fun CCC kkk => ?_
        obtain ⟨tv, rfl⟩ := zzq10
        obtain ⟨W, r1, r2, r3, r4, r5, r6⟩ := zzq11
        refine kkk ?_; clear kkk
        rw [Int.zero_add]
        refine wpAny_assign_Name ?_
        repeat walk_at "x"
        rename Bd _ _ _ _ _ _ _ _ _ _ => B
        have X1 := B.hp
        have il : idx ≤ (a.sts b).length := by
          have e : a.sts b = x.1 := by unfold SA.sts; rw [xb]; rfl
          rw [e, ← sle]; lia
        refine newTupleB B (by exact Nat.le_of_ble_eq_true rfl) fun ta h6 f8 f9 B => ?_
        have W1 := W.ownB B X1 f8
        have IB := W1.sc.objB B.hp
        refine hide fun CCC kkk => ?_
        obtain ⟨osp, xsp, s1, s2⟩ := W1.sc.p
        refine kkk ?_; clear kkk
        repeat walk_at "x"
        refine spIn B (R.deeper.le (by decide)) (B.hp.at_ _ _ _ s1) s2 (B.hp.hi _ _ _ s1) put_self fun t7 => ?_
        cases hsp : a.sp b idx with
        | none =>
          repeat walk_at "x"
          refine fin.nx B ⟨?_, r1, r2, r3, r4, r5, r6⟩ (fun k hk => rfl)
          refine { W1 with sp := ?_ }
          refine hide fun CCC kkk => ?_
          obtain ⟨o, xs, y1, y2⟩ := W1.sp
          refine kkk ?_; clear kkk
          rw [nsp_none hb hsp] at y2
          exact ⟨o, xs, y1, { y2 with len := Nat.le_succ_of_le y2.len }⟩
        | some s =>
          repeat walk_at "x"
          have X2 := B.hp
          refine newTupleB B (by exact Nat.le_of_ble_eq_true rfl) fun tb2 h7 f10 f11 B => ?_
          have W2 := W1.ownB B X2 f10
          refine hide fun CCC kkk => ?_
          obtain ⟨osp, xsp, s1, s2⟩ := W2.sc.p
          refine kkk ?_; clear kkk
          refine spGet B (R.deeper.le (by decide)) (B.hp.at_ _ _ _ s1) s2 put_self hsp fun t8 tk8 => ?_
          have CE2 := W2.ce
          repeat walk_at "x"
          refine hide fun CCC kkk => ?_
          obtain ⟨opl, p1, pk, y1, y2, y3⟩ := W2.pl
          refine kkk ?_; clear kkk
          obtain ⟨tpl, hpl⟩ := y3 i b (by rw [List.take_length]; exact hb)
          refine plGet (prog := prog) B (B.hp.at_ _ _ _ p1) y1 hpl fun t9 => ?_
          repeat walk_at "x"
          have X3 := B.hp
          refine newTupleB B (by exact Nat.le_of_ble_eq_true rfl) fun tb3 h8 f12 f13 B => ?_
          have W3 := W2.ownB B X3 f12
          refine hide fun CCC kkk => ?_
          obtain ⟨o, xs, v1, v2⟩ := W3.sp
          refine kkk ?_; clear kkk
          have X4 := B.hp
          refine spSetK B (R.deeper.le (by decide)) v1 v2 put_self rfl (by have := (List.getElem?_eq_some_iff.mp hb).1; lia) fun h9 o9 xs9 t9 v3 B => ?_
          repeat walk_at "x"
          have K9 := Kp.setB B v1
          refine fin.nx B ⟨⟨?_, W3.ce.kp K9, W3.sc.setB B X4 v1 (by decide), W3.kr.kp K9, W3.tb.kp K9 (upd_ne nofun), ?_, ⟨o9, xs9, upd_self, ?_⟩⟩, r1, r2, r3, r4, r5, keepB B r6 nofun⟩ (fun k hk => upd_ne (by rw [of_decide_eq_true hk]; nofun))
          · obtain ⟨o, z1, z2⟩ := W3.pl; exact ⟨o, keepB B z1 nofun, z2⟩
          · obtain ⟨n, bvs, z1, z2, z3⟩ := W3.bl; exact ⟨n, bvs, keepB B z1 nofun, z2, fun j v hv => (z3 j v hv).kp X4 K9⟩
          · rw [nsp_some hb il hsp] at v3; exact v3
      · intro σ2 H2 h5 m1 t5 zzq5 B
        refine hide fun CCC kkk => ?_
        obtain ⟨W, r1, r2, r3, r4, r5, r6⟩ := zzq5
        refine kkk ?_; clear kkk
        repeat walk_at "x"
        refine fin.nx B ⟨⟨W.pl, W.ce, W.sc, W.kr, W.tb, W.bl, ?_⟩, r1, r2, r3, r4⟩ (fun k hk => ?_)
        · refine hide fun CCC kkk => ?_
          obtain ⟨o, xs', v1, v2⟩ := W.sp
          refine kkk ?_; clear kkk
          have e : ss.length = (a.sts b).length := by unfold SA.sts; rw [xb]; exact sle
          rw [e, nsp_next hb] at v2
          exact ⟨o, xs', v1, { v2 with len := Nat.le_trans v2.len (by rw [← e]; lia) }⟩
        · rw [of_decide_eq_true hk, r6, e11]
    · intro σ1 H1 h5 m1 t5 zzq5 B
      refine hide fun CCC kkk => ?_
      obtain ⟨W, r1, r2, r3, r4⟩ := zzq5
      refine kkk ?_; clear kkk
      rw [hv.length] at W
      have IB := W.sc.objB B.hp
      repeat walk_at "x"
      rename Bd _ _ _ _ _ _ _ _ _ _ => B
      refine gaL B IB (Le.refl _) (by kernel_rfl) rfl hN ?_
      repeat walk_at "x"
      refine gaL B IB (Le.refl _) (by kernel_rfl) rfl hA ?_
      repeat walk_at "x"
      refine hide fun CCC kkk => ?_
      obtain ⟨nl, lvs, l1, l2⟩ := W.sc.l
      refine kkk ?_; clear kkk
      have X0 := B.hp
      refine classB (.it 20) (.it 21) B (by kernel_rfl) (fI := 36) (by kernel_rfl) (by kernel_rfl) rfl rfl fun x dx h6 e1 e2 B => ?_
      have K := Kp.add2B B e1 e2
      have W1 := W.kp X0 K (fun j hj => keep2B B rfl (by rintro rfl; cases hj) (by rintro rfl; cases hj)) (keep2B B rfl nofun nofun)
      refine hide fun CCC kkk => ?_
      obtain ⟨nl', lvs', l1', l2'⟩ := W1.sc.l
      refine kkk ?_; clear kkk
      have lz : lvs'.length ≤ 2000 := by rw [l2'.length]; exact hs.l
      refine body_init5 (.it 21) (.il 21) nofun B.fm.ok (R.deeper.le (by decide) : Room 2 _).under B.hp (B.hp.at_ _ _ _ (selfB B)) (keepB B upd_self nofun) ⟨_, B.hp.at_ _ _ _ l1'⟩ (by lia) fun h7 t7 σ7 H7 loc od n7 N a1 a2 a3 => ?_
      have K7 := N.kp
      have W2 := W1.kp B.hp K7 (fun j hj => N.ag j (mdK2 (by rintro rfl; cases hj) (by rintro rfl; cases hj))) (N.ag _ (mdK2 nofun nofun))
      have ex : σ7 x = some (instObj 82 dx) := N.hp.at_ _ _ _ ((N.ag (.it 20) (mdK2 nofun nofun)).trans (selfB B))
      replace B := B.call N (fun j hj => mdK2 (by rintro rfl; cases hj) (by rintro rfl; cases hj))
      refine ⟨rfl, ?_⟩
      repeat walk_at "x"
      refine q _ _ _ _ x B.nx W2.tb ?_
      refine hide fun CCC kkk => ?_
      obtain ⟨n1, bvs, b1, b2, b3⟩ := W2.bl
      refine kkk ?_; clear kkk
      refine hide fun CCC kkk => ?_
      obtain ⟨o1, xs1, s1, s2⟩ := W2.sp
      refine kkk ?_; clear kkk
      refine ⟨dx, loc, bd, sd, _, _, bvs, _, o1, xs1, ⟨od, ex, N.hp.at_ _ _ _ a2, a1⟩, ⟨n1, N.hp.at_ _ _ _ b1⟩, by simp [b2], fun i v x hv hx => ?_, N.hp.at_ _ _ _ s1, s2, N.hp.hi _ _ _ s1⟩
      refine hide fun CCC kkk => ?_
      obtain ⟨b, s, tv, ss, e, u1, u2, u3, u4⟩ := b3 i v hv
      refine kkk ?_; clear kkk
      have ei : x = nblk a path i := by
        rw [List.getElem?_map] at hx
        cases q : (List.range path.length)[i]? with
        | none => rw [q] at hx; cases hx
        | some j =>
          rw [q] at hx
          have := List.getElem?_eq_some_iff.mp q
          refine hide fun CCC kkk => ?_
          obtain ⟨hj, ej⟩ := this
          refine kkk ?_; clear kkk
          rw [List.getElem_range] at ej
          rw [ej]; simpa using hx.symm
      rw [ei]
      exact ⟨b, s, tv, ss, e, u1.lo, u2.lo, u3, u4⟩
end
noncomputable def Tm.cl : Tm → Tm
  | .none => .unr
  | x => x
noncomputable def SA.finI (a : SA) (i : Nat) : SA := { a with blocks := a.blocks.mapIdx fun j z => if j < i then (z.1, z.2.cl) else z }
noncomputable def SA.fins (a : SA) : SA := a.finI a.blocks.length
theorem finI_zero {a : SA} : a.finI 0 = a := by
  unfold SA.finI
  have : (a.blocks.mapIdx fun j z => if j < 0 then (z.1, z.2.cl) else z) = a.blocks := by
    apply List.ext_getElem?; intro i
    rw [List.getElem?_mapIdx]
    cases a.blocks[i]? <;> simp
  rw [this]
theorem finI_get {a : SA} {i j : Nat} : (a.finI i).blocks[j]? = (a.blocks[j]?).map fun z => if j < i then (z.1, z.2.cl) else z := by
  unfold SA.finI; rw [List.getElem?_mapIdx]
theorem finI_none {a : SA} {i : Nat} {x : List St × Tm} (e : a.blocks[i]? = some x) (hn : x.2 = .none) : { a.finI i with blocks := (a.finI i).blocks.modify i fun z => (z.1, .unr) } = a.finI (i + 1) := by
  have : (a.finI i).blocks.modify i (fun z => (z.1, Tm.unr)) = (a.finI (i + 1)).blocks := by
    apply List.ext_getElem?; intro j
    rw [List.getElem?_modify, finI_get, finI_get]
    by_cases q : i = j
    · subst q
      rw [e]; simp [hn, Tm.cl]
    · cases a.blocks[j]? with
      | none => simp
      | some z =>
        by_cases c : j < i
        · simp [q, c, Nat.lt_succ_of_lt c]
        · have : ¬ j < i + 1 := by lia
          simp [q, c, this]
  have e2 := congrArg (fun b => ({ a with blocks := b } : SA)) this
  exact e2
theorem finI_some {a : SA} {i : Nat} {x : List St × Tm} (e : a.blocks[i]? = some x) (hn : x.2.cl = x.2) : a.finI i = a.finI (i + 1) := by
  have : (a.finI i).blocks = (a.finI (i + 1)).blocks := by
    apply List.ext_getElem?; intro j
    rw [finI_get, finI_get]
    by_cases q : i = j
    · subst q
      rw [e]; simp [hn]
    · cases a.blocks[j]? with
      | none => simp
      | some z =>
        by_cases c : j < i
        · simp [c, Nat.lt_succ_of_lt c]
        · have : ¬ j < i + 1 := by lia
          simp [c, this]
  have e2 := congrArg (fun b => ({ a with blocks := b } : SA)) this
  exact e2
theorem finI_len {a : SA} {i : Nat} : (a.finI i).blocks.length = a.blocks.length := by unfold SA.finI; simp
theorem finI_small {a : SA} {i N : Nat} (s : a.Small N) : (a.finI i).Small N := by
  refine ⟨by rw [finI_len]; exact s.k, fun b hb => ?_, s.p, s.l, s.f, s.i⟩
  refine hide fun CCC kkk => ?_
  obtain ⟨j, hj⟩ := List.mem_iff_getElem?.mp hb
  refine kkk ?_; clear kkk
  rw [finI_get] at hj
  cases q : a.blocks[j]? with
  | none => rw [q] at hj; cases hj
  | some z =>
    rw [q] at hj
    have hz := s.s z (List.mem_of_getElem? q)
    have : (if j < i then (z.1, z.2.cl) else z) = b := by simpa using hj
    rw [← this]; split <;> exact hz
theorem finI_sts {a : SA} {i b : Nat} : (a.finI i).sts b = a.sts b := by
  unfold SA.sts; rw [finI_get]
  cases a.blocks[b]? with
  | none => rfl
  | some z => simp only [Option.map_some, Option.getD_some]; split <;> rfl
theorem cl_of {x : Tm} (h : x ≠ .none) : x.cl = x := by cases x <;> first | rfl | exact absurd rfl h
theorem Chain.fins {a : SA} {path : List Nat} (C : Chain a.blocks path) : Chain a.fins.blocks path := by
  refine ⟨C.head, fun i b e => ?_, C.inc⟩
  refine hide fun CCC kkk => ?_
  obtain ⟨x, e1, e2, e3⟩ := C.step i b e
  refine kkk ?_; clear kkk
  refine ⟨x, ?_, e2, e3⟩
  unfold SA.fins; rw [finI_get, e1, Option.map_some, cl_of e2]; split <;> rfl
theorem nblk_fins {a : SA} {path : List Nat} (C : Chain a.blocks path) {j : Nat} : nblk a.fins path j = nblk a path j := by
  unfold nblk
  cases e : path[j]? with
  | none => rfl
  | some b =>
    refine hide fun CCC kkk => ?_
    obtain ⟨x, e1, e2, e3⟩ := C.step j b e
    refine kkk ?_; clear kkk
    rw [Option.bind_some, Option.bind_some, e1]
    unfold SA.fins
    have : (a.finI a.blocks.length).blocks[b]? = some x := by rw [finI_get, e1, Option.map_some, cl_of e2]; split <;> rfl
    rw [this]
theorem nsp_fins {a : SA} {path : List Nat} {i j : Nat} : nsp a.fins path i j = nsp a path i j := by
  funext x y; unfold nsp full SA.fins; simp only [finI_sts]; rfl
noncomputable def mdZ : Kd → Bool := fun k => k.cl == 1 || mdW k
section
variable {prog : Program} {w : World} {A : Around} {E : Value → Shared → Prop} {σ : Mp} {H : Hp} {h : Heap} {g : Array GenState} {d : Drawn} {t : Nat} {os : OsState} {Q : Value → Shared → Prop} {k : Nat} {c : Cs} {a : SA}
theorem rise_of {vs : List Value} {path : List Nat} {bs : List (List St × Tm)} (hv : All2 IsN vs path) (C : Chain bs path) : Rise (pairsOf vs) (fun i => ((path[i]?.getD 0 : Nat) : Int)) := by
  have sz : (pairsOf vs).size = path.length := by rw [pairsOf_size, hv.length]
  constructor
  · intro i hi
    rw [sz] at hi
    refine hide fun CCC kkk => ?_
    obtain ⟨v, e, t, rfl⟩ := hv.get (List.getElem?_eq_getElem hi)
    refine kkk ?_; clear kkk
    refine ⟨t, .int (path[i] : Nat) t, ?_⟩
    have : (vs.zip vs)[i]? = some (Value.int (path[i] : Nat) t, Value.int (path[i] : Nat) t) := List.getElem?_zip_eq_some.mpr ⟨e, e⟩
    rw [← Array.getElem?_toList, pairsOf_toList, this]
    show _ = some (Value.int ((path[i]?.getD 0 : Nat) : Int) t, _)
    rw [List.getElem?_eq_getElem hi]; rfl
  · intro i hi
    rw [sz] at hi
    have e1 : path[i]? = some path[i] := List.getElem?_eq_getElem (by lia)
    have e2 : path[i + 1]? = some path[i + 1] := List.getElem?_eq_getElem hi
    have := C.inc i _ _ e1 e2
    show ((path[i]?.getD 0 : Nat) : Int) < ((path[i + 1]?.getD 0 : Nat) : Int)
    rw [e1, e2]; simp; lia
theorem TabIs.ownB {w : World} {md : Kd → Bool} {σ₀ σ : Mp} {H₀ H : Hp} {h₀ h : Heap} {L p : Addr} {o : Obj} {m : Str → Option Value} (T : TabIs σ H) (_ : Bd w md σ₀ h₀ H₀ (put σ p o) H L h m) (e : σ p = none) : TabIs (put σ p o) H := T.kp (Kp.of_le (Le.put e _)) rfl
theorem mdZ_L (k : Kd) (e : mdZ k = false) : mdL k = false := by
  cases k <;> first | rfl | exact absurd e (by decide) | (revert e; simp [mdZ, mdW, Kd.cl])
theorem mdZ_W (k : Kd) (e : mdZ k = false) : mdW k = false := by
  unfold mdZ at e; cases q : mdW k with
  | false => rfl
  | true => rw [q, Bool.or_true] at e; cases e
theorem finished_spec {path : List Nat} (O : Ok w σ h) (R : Room 7 A) (X : HpIn σ H) (Y : Sc σ H c a) (hs : a.Small 2000) (C : Chain a.blocks path) (hz : path.length ≤ 2000) (T : TabIs σ H) (hN : handedIn c.nm = true) (hA : handedIn c.ac = true)
    (q : ∀ h' t' σ' H' B2, Nx w mdZ σ h H σ' h' H' → TabIs σ' H' → NBo σ' B2 ((List.range path.length).map (nblk a path)) (nsp a path path.length 0) → Q (.ref B2) ⟨h', g, d, t', os⟩) :
    wpAny (model prog w) A (call (.ref 304) [.ref c.S]) Q E ⟨h, g, d, t, os⟩ := by
  refine' enter (binds := [("self", .ref c.S)]) O R ?a1 ?a2 ?a3 ?a4 ?a5 ?_ ?a6 ?a7 ?a8
  walk_at "ent"
  intro L h₁ F
  have B := Bd.start (md := mdZ) F X
  refine hide fun CCC kkk => ?_
  obtain ⟨t1, t2, IS⟩ := Y.objS X
  refine kkk ?_; clear kkk
  have IB := Y.objB X
  refine hide fun CCC kkk => ?_
  obtain ⟨n, vs, k1, k2, k3⟩ := Y.k
  refine kkk ?_; clear kkk
  have vz : vs.length ≤ 2000 := by rw [k2]; exact hs.k
  refine wpAny_execs_cons ?_
  refine wpAny_For ?_ (fun _ => rfl)
  repeat walk_at "x"
  rename Bd _ _ _ _ _ _ _ _ _ _ => B
  refine startList (k := .it 10) B ⟨n, B.hp.at_ _ _ _ k1⟩ rfl fun it h4 oi e3 e4 B2 => ?_
  refine loopG (n := vs.length) (Itr.list (D := c.blk) (vs := vs) (k := .it 10) R.hnd tgtN)
    (fun i σ' H' m' => Sc σ' H' c (a.finI i) ∧ H' .blk = some (c.blk, lisO vs n) ∧ TabIs σ' H' ∧ m' "self" = some (.ref c.S)) B2 ?_ ?_ ⟨oi, upd_self, e4⟩ ?_ ?_ ?_ ?_ ?_
  · intro k hk; rw [of_decide_eq_true hk]; rfl
  · intro k a' o' hk e
    rw [of_decide_eq_true hk, upd_self] at e; cases e
    exact B.new e3
  · refine ⟨?_, keepB B2 k1 nofun, T.kp (Kp.add e3) (upd_ne nofun), rfl⟩
    rw [finI_zero]; exact Y.addB B2 e3 (by decide)
  · intro i σ H m σ' H' X X' kp oth zzq10
    refine hide fun CCC kkk => ?_
    obtain ⟨z1, z2, z3, z4⟩ := zzq10
    refine kkk ?_; clear kkk
    exact ⟨z1.mono (kp.tk X) (fun k hk => oth k (decide_eq_false (by rintro rfl; cases hk))), (oth _ rfl).trans z2, z3.kp kp (oth _ rfl), z4⟩
  · rintro i σ H m X ⟨z1, z2, z3⟩; exact ⟨n, X.at_ _ _ _ z2⟩
  · intro i v σ1 H1 h5 m1 t5 QQ fin hi hvi zzq11 B
    refine hide fun CCC kkk => ?_
    obtain ⟨z1, z2, z3, z4⟩ := zzq11
    refine kkk ?_; clear kkk
    obtain ⟨x, hx⟩ : ∃ x, a.blocks[i]? = some x := ⟨_, List.getElem?_eq_getElem (by rw [← k2]; exact hi)⟩
    have hx' : (a.finI i).blocks[i]? = some x := by rw [finI_get, hx]; simp
    refine hide fun CCC kkk => ?_
    obtain ⟨n', vs', ba, sa, m1', m2', tv, ss, j1, j2, j3, j4, j5, j6⟩ := z1.block B.hp hx'
    refine kkk ?_; clear kkk
    rw [z2] at j1
    obtain ⟨rfl⟩ : vs' = vs := by
      have := congrArg (fun o : Option (Addr × Obj) => o.map (·.2.data)) j1
      exact (by simpa using this.symm : vs' = vs ∧ n' = n).1
    rw [hvi] at j2
    cases j2
    refine wpAny_assign_Name ?_
    repeat walk_at "x"
    rename Bd _ _ _ _ _ _ _ _ _ _ => B
    refine itemLF (i := 1) B.fm ⟨_, B.hp.at_ _ _ _ j3⟩ rfl (by decide) ?_
    repeat walk_at "x"
    by_cases hn : x.2 = .none
    · rw [hn] at j6
      cases j6
      refine is_none_none ?_
      repeat walk_at "x"
      refine newTupleB B (by exact Nat.le_of_ble_eq_true rfl) fun ka h6 e1 e2 B => ?_
      have Z1 := z1.ownB B e1
      have T1 := z3.ownB B e1
      have X1 := B.hp
      repeat walk_at "x"
      refine setLK (i := 1) (kd := .b i) B j3 (Nat.lt_succ_self 1) (by decide) rfl fun h7 n' B => ?_
      have e := Z1.tmSet (v := .ref ka) (y := .unr) (n2 := n') X1 j3 ⟨ka, _, rfl, put_self⟩
      rw [finI_none hx hn] at e
      have T2 := T1.kp (Kp.setB B j3) (upd_ne nofun)
      repeat walk_at "x"
      refine fin.nx B ⟨e, keepB B z2 nofun, T2, z4⟩ (fun k hk => ?_)
      rw [of_decide_eq_true hk]; exact upd_ne nofun
    · obtain ⟨aa, rfl⟩ : ∃ aa, tv = .ref aa := by
        cases hx2 : x.2 with
        | none => exact absurd hx2 hn
        | goto b => rw [hx2] at j6; obtain ⟨a, _, _, e, _⟩ := j6; exact ⟨a, e⟩
        | drop l b => rw [hx2] at j6; obtain ⟨a, _, _, _, _, _, e, _⟩ := j6; exact ⟨a, e⟩
        | ret => rw [hx2] at j6; obtain ⟨a, _, e, _⟩ := j6; exact ⟨a, e⟩
        | unr => rw [hx2] at j6; obtain ⟨a, _, e, _⟩ := j6; exact ⟨a, e⟩
      refine is_ref_none ?_
      repeat walk_at "x"
      rename Bd _ _ _ _ _ _ _ _ _ _ => B
      refine fin.nx B ⟨?_, z2, z3, z4⟩ (fun _ _ => rfl)
      rw [← finI_some hx (cl_of hn)]; exact z1
  · intro σ1 H1 h5 m1 t5 zzq5 B
    refine hide fun CCC kkk => ?_
    obtain ⟨z1, z2, z3, z4⟩ := zzq5
    refine kkk ?_; clear kkk
    have z1 : Sc σ1 H1 c a.fins := by unfold SA.fins; rw [← k2]; exact z1
    have IS := z1.objS B.hp
    refine hide fun CCC kkk => ?_
    obtain ⟨t1, t2, IS⟩ := IS
    refine kkk ?_; clear kkk
    have IB := z1.objB B.hp
    repeat walk_at "x"
    have C2 := C.fins
    have s2 : a.fins.Small 2000 := finI_small hs
    refine reach_spec B.fm.ok (R.deeper.le (by decide)) B.hp z1 (s2.le (by decide)) C2 (Nat.le_trans hz (by decide)) fun h6 t6 σ2 H2 r rs N Y2 rl rv => ?_
    have T2 := z3.kp N.kp (N.ag _ rfl)
    replace B := B.call N mdZ_L
    repeat walk_at "x"
    refine sortedB B rl (IsN.ints rv) (rise_of rv C2) (by rw [rv.length]; exact Nat.le_trans hz (by decide)) fun ra h7 n7 e1 B => ?_
    have Y3 := Y2.ownB B e1
    have T3 := T2.ownB B e1
    have U : Ul _ _ ra rs := Ul.new (n := n7) N.hp e1
    have rv2 : All2 IsN rs path := rv
    repeat walk_at "x"
    refine wb_spec B.fm.ok (R.deeper.le (by decide)) B.hp Y3 s2 C2 hz T3 U rv2 hN hA fun h8 t8 σ3 H3 B2 N2 tb nb => ?_
    replace B := B.call N2 mdZ_W
    have e : (List.range path.length).map (nblk a.fins path) = (List.range path.length).map (nblk a path) := List.map_congr_left fun j _ => nblk_fins C
    rw [e, nsp_fins] at nb
    repeat walk_at "x"
    exact q _ _ _ _ _ B.nx tb nb
end
section
variable {prog : Program} {w : World} {A : Around} {E : Value → Shared → Prop} {md : Kd → Bool} {σ₀ σ : Mp} {H₀ H : Hp} {h₀ h : Heap} {g : Array GenState} {d : Drawn} {t : Nat} {os : OsState} {L a b D : Addr} {m : Str → Option Value} {k : Nat}
  {env : Env} {x y z : Str} {vx vy vz : Value}
theorem addTupB {vs ws : List Value} {Q : Value → Shared → Prop} (B : Bd w md σ₀ h₀ H₀ σ H L h m) (ha : TO σ a vs) (hb : TO σ b ws) (hv : vs ≠ []) (hw : ws ≠ []) (hz : vs.length + ws.length ≤ 1000000)
    (q : ∀ r h', σ r = none → Hi r → Bd w md σ₀ h₀ H₀ (put σ r (tupO (vs ++ ws))) H L h' m → Q (.ref r) ⟨h', g, d, t, os⟩) :
    wpAny (model prog w) A (binaryOp .Add (.ref a) (.ref b)) Q E ⟨h, g, d, t, os⟩ := by
  have ht := B.fm.tup ha
  have hb' := B.fm.tup hb
  refine hide fun CCC kkk => ?_
  obtain ⟨⟨cls, dd, data, sl⟩, ho, hc, n, hd⟩ := id ht
  refine kkk ?_; clear kkk
  refine hide fun CCC kkk => ?_
  obtain ⟨⟨cls2, dd2, data2, sl2⟩, ho2, hc2, n2, hd2⟩ := id hb'
  refine kkk ?_; clear kkk
  simp only at hc hd hc2 hd2
  subst hc hd hc2 hd2
  have e : vs.toArray ++ ws.toArray = (vs ++ ws).toArray := by simp
  refine concat_meets (s := ⟨h, g, d, t, os⟩) ⟨_, ho, rfl⟩ ⟨_, ho2, rfl⟩ noFill_tuple_add seq_tuple_add PySem.F.slot_tuple_add PySem.F.entry_tuple_add (PySem.F.args_tuple_add_2 _ _)
    (tuple_addW2 a b vs.toArray ws.toArray n n2 dd dd2 sl sl2 (by simpa using hv) (by simpa using hw) (by rw [List.size_toArray, List.size_toArray, sizeLine_eq]; lia)) ⟨ho, ho2, ?_⟩
  rw [e]
  have F2 := B.fm.alloc (o := tupO (vs ++ ws)) rfl
  exact q _ _ B.fm.ok.fresh B.fm.ok.size (B.le (Le.put B.fm.ok.fresh _) F2)
theorem unpack3 {Q : Shared → Prop} (B : Bd w md σ₀ h₀ H₀ σ H L h m) (ht : TO σ a [vx, vy, vz]) (hh : A.handled = none)
    (q : ∀ h', Bd w md σ₀ h₀ H₀ σ H L h' (ms x vx (ms y vy (ms z vz m))) → Q ⟨h', g, d, t + 1 + 1 + 1, os⟩)
    (hk : env.scope.kind = .function) (hx : env.kindOf x = some .local) (hy : env.kindOf y = some .local) (hz : env.kindOf z = some .local) (hL : env.locals = L) :
    wpAny (model prog w) A (unpackItems (.ref a) [x, y, z].length none) (fun items s₂ => wpAny (model prog w) A (assignInOrder ([x, y, z].reverse.map fun n => bindName env n) items.reverse) (fun _ s' => Q s') E s₂) E ⟨h, g, d, t, os⟩ := by
  refine unpackItems_tuple (items := #[vx, vy, vz]) hh (B.fm.tup ht) fun h' he => ?_
  have B1 := B.with (B.fm.ext he (noneAt B.fm))
  show wpAny _ A (do holding [vy, vx] (bindName env z vz); do holding [vx] (bindName env y vy); do holding [] (bindName env x vx); pure ()) _ _ _
  refine wpAny_bind (wpAny_holding (wpAny_bindName (stG B1 (fun h2 B2 => ?_) hk hz hL)))
  refine wpAny_bind (wpAny_holding (wpAny_bindName (stG B2 (fun h2 B2 => ?_) hk hy hL)))
  exact wpAny_bind (wpAny_holding (wpAny_bindName (stG B2 (fun h3 B3 => wpAny_pure (q _ B3)) hk hx hL)))
theorem getMethod_tabH' {o : Obj} {spf : Nat → Nat → Option Int} {n : Nat} {xs : K2} {Q : Value × List Value → Shared → Prop} {pl : Sem Bool} (B : Bd w md σ₀ h₀ H₀ σ H L h m) (e : σ D = some o) (X : SpO σ o spf n xs) (q : Q (.builtin "dict.get", [.ref D]) ⟨h, g, d, t, os⟩) :
    wpAny (model prog w) A (getMethod (.ref D) "get" pl) Q E ⟨h, g, d, t, os⟩ := by
  have M := X.dictOf (prog := prog) B.fm e
  exact getMethod_builtin (Heap.DictOfH.typeIs (s := ⟨h, g, d, t, os⟩) M) PySem.F.plainAttrs_dict PySem.F.slot_dict_get PySem.F.type_dict_get (dictOfH_noDict M) q
theorem bspot_spec {B BD loc blk sp ka : Addr} {nm ac : Value} {o : Obj} {spf : Nat → Nat → Option Int} {n : Nat} {xs : K2} {i j : Nat} {t1 t2 : Tok} {Q : Value → Shared → Prop} (O : Ok w σ h) (R : Room 2 A) (I : ObjIs σ B BD 82 (boAm nm ac loc blk sp)) (e : σ sp = some o) (X : SpO σ o spf n xs) (hD : Hi sp)
    (hk : TO σ ka [.int i t1, .int j t2]) (q : ∀ h' t' tk, Pu w σ h σ h' → Q (.int ((spf i j).getD 0) tk) ⟨h', g, d, t', os⟩) :
    wpAny (model prog w) A (call (.ref 71) [.ref B, .ref ka]) Q E ⟨h, g, d, t, os⟩ := by
  refine' enter (binds := [("self", .ref B), ("point", .ref ka)]) O R ?a1 ?a2 ?a3 ?a4 ?a5 ?_ ?a6 ?a7 ?a8
  walk_at "ent"
  intro L h₁ F
  have B' := Bd.start (md := fun _ => false) F (H0.in σ)
  repeat walk_at "x"
  refine getMethod_tabH' B' e X ?_
  dsimp only
  repeat walk_at "x"
  refine spGet2 B' (R.deeper.le (by decide)) e X hD hk fun t' tk => ?_
  repeat walk_at "x"
  exact q _ _ _ B'.pu
end
noncomputable def stRow (sp : Option Int) : St → Rw
  | .live l => .live l (sp.getD 0)
  | .dead l => .dead l (sp.getD 0)
  | .mark s => .mark s
noncomputable def tmRow (sp : Option Int) : Tm → List Rw
  | .drop l _ => [.drop l (sp.getD 0)]
  | _ => []
noncomputable def blkRows (sp : Nat → Option Int) (x : List St × Tm) : List Rw := (x.1.mapIdx fun i s => stRow (sp i) s) ++ tmRow (sp x.1.length) x.2
noncomputable def wayRows (sp : Nat → Nat → Option Int) : Nat → List (List St × Tm) → List Rw
  | _, [] => []
  | j, x :: r => blkRows (sp j) x ++ wayRows sp (j + 1) r
theorem wayRows_snoc {sp : Nat → Nat → Option Int} {xs : List (List St × Tm)} {x : List St × Tm} : ∀ {j : Nat}, wayRows sp j (xs ++ [x]) = wayRows sp j xs ++ blkRows (sp (j + xs.length)) x := by
  induction xs with
  | nil => intro j; simp [wayRows]
  | cons y r ih => intro j; simp only [List.cons_append, wayRows, ih, List.append_assoc, List.length_cons]; congr 3; congr 1; lia
theorem wayRows_pre {sp : Nat → Nat → Option Int} {xs ys : List (List St × Tm)} : ∀ {j : Nat}, (wayRows sp j xs).length ≤ (wayRows sp j (xs ++ ys)).length := by
  induction xs with
  | nil => intro j; simp [wayRows]
  | cons y r ih => intro j; simp only [List.cons_append, wayRows, List.length_append]; have := @ih (j + 1); lia
structure WayOk (bs : List (List St × Tm)) (sp : Nat → Nat → Option Int) : Prop where
  ne : bs ≠ []
  step : ∀ (j : Nat) x, bs[j]? = some x → (x.2 = .ret ∧ j + 1 = bs.length) ∨ (j + 1 < bs.length ∧ (x.2 = .goto (j + 1) ∨ ∃ l, x.2 = .drop l (j + 1)))
  mark : ∀ (j : Nat) x (i : Nat) s, bs[j]? = some x → x.1[i]? = some (.mark s) → (sp j i).getD 0 = s
  z : bs.length ≤ 2000
  zs : ∀ (j : Nat) x, bs[j]? = some x → x.1.length ≤ 2000
  zr : (wayRows sp 0 bs).length ≤ 100000
theorem NBo.le {σ τ : Mp} {B2 : Addr} {bs : List (List St × Tm)} {sp : Nat → Nat → Option Int} (N : NBo σ B2 bs sp) (l : Le σ τ) : NBo τ B2 bs sp := by
  refine hide fun CCC kkk => ?_
  obtain ⟨BD2, loc2, blk2, sp2, nm, ac, bvs, nn, so, xs, IB, ⟨nl, lb⟩, lz, lat, es, XS, hsp⟩ := N.ex
  refine kkk ?_; clear kkk
  refine ⟨⟨BD2, loc2, blk2, sp2, nm, ac, bvs, nn, so, xs, IB.le l, ⟨nl, l _ _ lb⟩, lz, fun i v x hv hx => ?_, l _ _ es, XS.tk l.tk, hsp⟩⟩
  refine hide fun CCC kkk => ?_
  obtain ⟨b, s, tv, ss, e, ⟨n1, e1⟩, ⟨n2, e2⟩, e3, e4⟩ := lat i v x hv hx
  refine kkk ?_; clear kkk
  exact ⟨b, s, tv, ss, e, ⟨n1, l _ _ e1⟩, ⟨n2, l _ _ e2⟩, e3.imp fun _ _ z => z.tk l.tk, e4.tk l.tk⟩
theorem upk {H : Hp} {j k : Kd} {p : Addr} {o : Obj} {r : Option (Addr × Obj)} (e : H j = r) (n : j ≠ k := by nofun) : upd H k p o j = r := (upd_ne n).trans e
theorem Bd.lp {w : World} {md : Kd → Bool} {σ₀ σ : Mp} {H₀ H : Hp} {h₀ h : Heap} {L p : Addr} {o : Obj} {m : Str → Option Value} (_ : Bd w md σ₀ h₀ H₀ (put σ p o) H L h m) (e : σ p = none) : Le σ (put σ p o) := Le.put e o
theorem put_none {σ : Mp} {a b : Addr} {o : Obj} (e : put σ a o b = none) : σ b = none := by
  by_cases c : b = a
  · subst c; rw [put_self] at e; cases e
  · rwa [put_ne c] at e
theorem Tm.map_none {f : Nat → Nat} : Tm.map f .none = .none := rfl
section
variable {prog : Program} {w : World} {A : Around} {E : Value → Shared → Prop} {σ : Mp} {h : Heap} {g : Array GenState} {d : Drawn} {t : Nat} {os : OsState} {Q : Value → Shared → Prop} {k : Nat}
theorem way_spec {B2 : Addr} {bs : List (List St × Tm)} {sp : Nat → Nat → Option Int} (O : Ok w σ h) (R : Room 4 A) (N : NBo σ B2 bs sp) (W : WayOk bs sp)
    (q : ∀ h' t' σ' r vs, Pu w σ h σ' h' → LO σ' r vs → All2 (RwIs σ') vs (wayRows sp 0 bs) → Q (.ref r) ⟨h', g, d, t', os⟩) :
    wpAny (model prog w) A (call (.ref 423) [.ref B2]) Q E ⟨h, g, d, t, os⟩ := by
  refine' enter (binds := [("body", .ref B2)]) O R ?a1 ?a2 ?a3 ?a4 ?a5 ?_ ?a6 ?a7 ?a8
  walk_at "ent"
  intro L h₁ F
  have B := Bd.start (md := mdL) F (H0.in σ)
  refine hide fun CCC kkk => ?_
  obtain ⟨BD2, loc2, blk2, sp2, nm, ac, bvs, nn, so, xs, IB, lb, lz, lat, es, XS, hsp⟩ := N.ex
  refine kkk ?_; clear kkk
  refine wpAny_execs_cons ?_
  refine Assign_Tuple_swapped (names := ["found", "here", "met"]) ?_ (by rfl) (by with_unfolding_all rfl)
  repeat walk_at "x"
  refine newListK (.il 0) B (by exact Nat.le_of_ble_eq_true rfl) rfl fun fd h2 e1 e2 B => ?_
  repeat walk_at "x"
  refine newListK (.il 1) B (by exact Nat.le_of_ble_eq_true rfl) rfl fun wd h3 e3 e4 B => ?_
  repeat walk_at "x"
  refine newTupleB B (by exact Nat.le_of_ble_eq_true rfl) fun ta h4 e5 e6 B => ?_
  refine unpack3 (x := "found") (y := "here") (z := "met") B put_self ?gh ?g0 ?g1 ?g2 ?g3 ?g4 ?g5
  case gh => exact R.2.2
  case g1 => rfl
  case g2 => rfl
  case g3 => rfl
  case g4 => rfl
  case g5 => rfl
  intro h5 B
  repeat walk_at "x"
  refine whileB (fun n σ' H' m' => ∃ j vs ws n1 n2 tj, n = bs.length - j ∧ j < bs.length ∧ H' (.il 0) = some (fd, lisO vs n1) ∧ All2 (RwIs σ') vs (wayRows sp 0 (bs.take j)) ∧ H' (.il 1) = some (wd, lisO ws n2) ∧ All2 IsN ws (List.range j) ∧
    m' "found" = some (.ref fd) ∧ m' "met" = some (.ref wd) ∧ m' "here" = some (.int (j : Nat) tj) ∧ m' "body" = some (.ref B2)) bs.length B ?_ ?_
  · refine ⟨0, [], [], 0, 0, _, rfl, ?_, Eq.trans (upd_ne nofun) upd_self, .nil, upd_self, .nil, rfl, rfl, rfl, rfl⟩
    cases bs with
    | nil => exact absurd rfl W.ne
    | cons x r => exact Nat.zero_lt_succ _
  intro n σ1 H1 h6 m1 t1 QQ fin zzq8 B
  refine hide fun CCC kkk => ?_
  obtain ⟨j, vs, ws, n1, n2, tj, rfl, hj, z1, z2, z3, z4, z5, z6, z7, z8⟩ := zzq8
  refine kkk ?_; clear kkk
  repeat walk_at "x"
  rename Bd _ _ _ _ _ _ _ _ _ _ => B
  refine notInN true B ⟨_, B.hp.at_ _ _ _ z3⟩ z4 (by simp) ?_
  repeat walk_at "x"
  refine methA B.fm ⟨_, B.hp.at_ _ _ _ z3⟩ ?_
  dsimp only
  repeat walk_at "x"
  rename Bd _ _ _ _ _ _ _ _ _ _ => B
  have X1 := B.hp
  have hbz := W.z
  have wl : ws.length ≤ 100000 := by rw [z4.length, List.length_range]; lia
  refine appendK (kd := .il 1) B z3 (by lia) rfl fun h8 n4 B => ?_
  replace z2 := z2.imp fun _ _ z => z.tk (Kp.tk (Kp.setB B z3) X1)
  replace z4 : All2 IsN (ws ++ [.int (j : Nat) tj]) (List.range (j + 1)) := by
    rw [List.range_succ]; exact z4.snoc ⟨tj, rfl⟩
  replace z1 := keepB B z1 nofun
  obtain ⟨x, hx⟩ : ∃ x, bs[j]? = some x := ⟨_, List.getElem?_eq_getElem hj⟩
  obtain ⟨bv, hbv⟩ : ∃ bv, bvs[j]? = some bv := ⟨_, List.getElem?_eq_getElem (by lia)⟩
  refine hide fun CCC kkk => ?_
  obtain ⟨ba, sa, tv, ss, rfl, lba, lsa, als, hterm⟩ := lat j bv x hbv hx
  refine kkk ?_; clear kkk
  have le := B.pu.le
  have zs := W.zs j x hx
  repeat walk_at "x"
  refine wpAny_For ?_ (fun _ => rfl)
  have IB1 := IB.le le
  repeat walk_at "x"
  rename Bd _ _ _ _ _ _ _ _ _ _ => B
  refine bstm_spec B.fm.ok (R.deeper.le (by decide)) IB1 (lb.le le) hbv (by lia) (lba.le le) fun h9 t9 P => ?_
  replace B := B.pure P
  repeat walk_at "x"
  refine enumB (k := .it 0) (k2 := .it 1) B (lsa.le le) rfl rfl nofun fun en it h10 oi e7 e8 e9 BE => ?_
  have KP1 := (Kp.add (H := upd H1 (.il 1) wd (lisO (ws ++ [.int (j : Nat) tj]) n4)) (k := .it 1) (o := oi) e7).trans (Kp.add (k := .it 0) (o := enO it 0 .none) e8)
  have Xn := B.hp
  refine wpAny_pyIter_enum (BE.fm.ok.sub _ _ (BE.hp.at_ (.it 0) _ _ upd_self)) ?_
  refine loopG (n := ss.length) (Itr.enum (D := sa) (vs := ss) (k := .it 0) (k2 := .it 1) R.hnd nofun)
    (fun i σ' H' m' => ∃ vi ni, H' (.il 0) = some (fd, lisO vi ni) ∧ All2 (RwIs σ') vi (wayRows sp 0 (bs.take j) ++ (x.1.mapIdx fun i s => stRow (sp j i) s).take i) ∧
      H' (.il 1) = some (wd, lisO (ws ++ [.int (j : Nat) tj]) n4) ∧ Kp σ H0 σ' H' ∧ m' "found" = some (.ref fd) ∧ m' "met" = some (.ref wd) ∧ m' "here" = some (.int (j : Nat) tj) ∧ m' "body" = some (.ref B2)) BE ?_ ?_ ⟨oi, .none, upd_self, ?_, e9⟩ ?_ ?_ ?_ ?_ ?_
  · intro k hk
    have : k = .it 0 ∨ k = .it 1 := by simpa using hk
    rcases this with rfl | rfl <;> rfl
  · intro k a' o' hk e
    have : k = .it 0 ∨ k = .it 1 := by simpa using hk
    rcases this with rfl | rfl
    · rw [upd_self] at e; cases e
      exact Bd.new B (put_none e8)
    · have e' := (upk upd_self : upd (upd (upd H1 (.il 1) wd (lisO (ws ++ [.int (j : Nat) tj]) n4)) (.it 1) it oi) (.it 0) en (enO it 0 .none) (.it 1) = _).symm.trans e
      cases e'
      exact Bd.new B e7
  · exact upk upd_self
  · exact ⟨vs, n1, upk (upk z1), by simpa using z2.imp fun _ _ z => z.tk (KP1.tk Xn), upk (upk upd_self), BE.kp, z5, z6, z7, z8⟩
  · intro i σ H m σ' H' X X' kp oth zzq10
    refine hide fun CCC kkk => ?_
    obtain ⟨vi, ni, y1, y2, y3, y4, y5, y6, y7, y8⟩ := zzq10
    refine kkk ?_; clear kkk
    exact ⟨vi, ni, (oth _ rfl).trans y1, y2.imp fun _ _ z => z.tk (kp.tk X), (oth _ rfl).trans y3, y4.trans kp, y5, y6, y7, y8⟩
  · rintro i σ H m X ⟨vi, ni, y1, y2, y3, y4, y5, y6, y7, y8⟩; exact lsa.le fun a o e => (y4 a o e (H0.un a)).1
  · intro i v σ1 H1 h11 m1 t11 QQ fin hi zzq10 zzq11 B
    refine hide fun CCC kkk => ?_
    obtain ⟨T, tT, sv, rfl, lT, hsv⟩ := zzq10
    obtain ⟨vi, ni, y1, y2, y3, y4, y5, y6, y7, y8⟩ := zzq11
    refine kkk ?_; clear kkk
    have le := B.pu.le
    refine hide fun CCC kkk => ?_
    obtain ⟨s, hs, ys⟩ := als.getV hsv
    refine kkk ?_; clear kkk
    replace ys := ys.tk le.tk
    have IB1 := IB.le le
    have XS1 := XS.tk le.tk
    have es1 := le _ _ es
    refine asg2 B.fm lT R.hnd (fun h4 F => ?_) rfl rfl rfl rfl
    replace B := B.with F
    repeat walk_at "x"
    have hrl : vi.length ≤ 110000 := by
      rw [y2.length, List.length_append, List.length_take, List.length_mapIdx]
      have e := @wayRows_pre sp (bs.take j) (bs.drop j) 0
      rw [List.take_append_drop] at e
      have := W.zr
      lia
    cases s
    case' live l =>
      refine hide fun CCC kkk => ?_
      obtain ⟨a, u1, u2, rfl, la⟩ := ys
      refine kkk ?_; clear kkk
      refine itemTF (i := 0) B.fm la rfl (by decide) ?_
      repeat walk_at "x"
      refine itemTF (i := 0) B.fm la rfl (by decide) ?_
      repeat walk_at "x"
      refine itemTF (i := 1) B.fm la rfl (by decide) ?_
      have hrow : ∀ (σ' : Mp) r t3, TO σ' r ([.str "live" u1, .int (l : Nat) u2] ++ [.int ((sp j i).getD 0) t3]) → RwIs σ' (.ref r) (stRow (sp j i) (.live l)) := fun σ' r t3 z => ⟨r, _, _, _, rfl, z⟩
    case' dead l =>
      refine hide fun CCC kkk => ?_
      obtain ⟨a, u1, u2, rfl, la⟩ := ys
      refine kkk ?_; clear kkk
      refine itemTF (i := 0) B.fm la rfl (by decide) ?_
      repeat walk_at "x"
      refine itemTF (i := 0) B.fm la rfl (by decide) ?_
      repeat walk_at "x"
      refine itemTF (i := 1) B.fm la rfl (by decide) ?_
      have hrow : ∀ (σ' : Mp) r t3, TO σ' r ([.str "dead" u1, .int (l : Nat) u2] ++ [.int ((sp j i).getD 0) t3]) → RwIs σ' (.ref r) (stRow (sp j i) (.dead l)) := fun σ' r t3 z => ⟨r, _, _, _, rfl, z⟩
    case' mark z =>
      refine hide fun CCC kkk => ?_
      obtain ⟨a, u1, b, u2, u, u3, rfl, la, lb2⟩ := ys
      refine kkk ?_; clear kkk
      refine itemTF (i := 0) B.fm la rfl (by decide) ?_
      repeat walk_at "x"
      refine itemTF (i := 1) B.fm la rfl (by decide) ?_
      repeat walk_at "x"
      refine itemTF (i := 2) B.fm lb2 rfl (by decide) ?_
      have hrow : ∀ {t1} (σ' : Mp) r t3, TO σ' r ([.str "mark" t1, .int z u3] ++ [.int ((sp j i).getD 0) t3]) → RwIs σ' (.ref r) (stRow (sp j i) (.mark z)) := fun {t1} σ' r t3 q => by
        rw [W.mark j x i z hx hs] at q
        exact ⟨r, _, _, _, rfl, q⟩
    all_goals
      repeat walk_at "x"
      rename Bd _ _ _ _ _ _ _ _ _ _ => B
      refine newTupleB B (by exact Nat.le_of_ble_eq_true rfl) fun kt h7 f1 f2 B => ?_
      replace y2 := y2.imp fun _ _ z => z.tk (B.lp f1).tk
      repeat walk_at "x"
    all_goals
      rename Bd _ _ _ _ _ _ _ _ _ _ => B
      refine methA B.fm ⟨_, B.hp.at_ _ _ _ y1⟩ ?_
      dsimp only
      repeat walk_at "x"
      refine newTupleB B (by exact Nat.le_of_ble_eq_true rfl) fun kp h8 f3 f4 B => ?_
      replace y2 := y2.imp fun _ _ z => z.tk (B.lp f3).tk
      have le2 := B.pu.le
      repeat walk_at "x"
      refine bspot_spec B.fm.ok (R.deeper.le (by decide)) (IB.le le2) (le2 _ _ es) (XS.tk le2.tk) hsp put_self fun h9 t9 tk9 P => ?_
      have lk := (Le.put f3 (tupO [Value.int (j : Nat) tj, .int (i : Nat) tT])) _ _ put_self
      replace B := B.pure P
      repeat walk_at "x"
      refine newTupleB B (by exact Nat.le_of_ble_eq_true rfl) fun ks h10 f5 f6 B => ?_
      replace y2 := y2.imp fun _ _ z => z.tk (B.lp f5).tk
      repeat walk_at "x"
      refine addTupB B (Le.put f5 _ _ _ lk) put_self (by simp) (by simp) (by simp) fun kr h11 f7 f8 B => ?_
      replace y2 := y2.imp fun _ _ z => z.tk (B.lp f7).tk
      repeat walk_at "x"
      have X2 := B.hp
      refine appendK (kd := .il 0) B y1 (by lia) rfl fun h12 n5 B => ?_
      have tk2 := Kp.tk (Kp.setB B y1) X2
      have rw2 := hrow _ _ _ (tk2 _ _ put_self)
      repeat walk_at "x"
      refine fin.nx B ⟨_, _, upd_self, ?_, upk y3, B.kp, y5, y6, y7, y8⟩ (fun k hk => ?_)
      · rw [List.take_add_one, List.getElem?_mapIdx, hs, ← List.append_assoc]
        exact (y2.imp fun _ _ z => z.tk tk2).snoc rw2
      · have : k = .it 0 ∨ k = .it 1 := by simpa using hk
        rcases this with rfl | rfl <;> exact upk rfl
  · intro σ1 H1 h11 m1 t11 zzq5 B
    refine hide fun CCC kkk => ?_
    obtain ⟨vi, ni, y1, y2, y3, y4, y5, y6, y7, y8⟩ := zzq5
    refine kkk ?_; clear kkk
    have le := B.pu.le
    have IB1 := IB.le le
    have XS1 := XS.tk le.tk
    have es1 := le _ _ es
    have y2' : All2 (RwIs σ1) vi (wayRows sp 0 (bs.take j) ++ x.1.mapIdx fun i s => stRow (sp j i) s) := by
      have e9 : (x.1.mapIdx fun i s => stRow (sp j i) s).take ss.length = x.1.mapIdx fun i s => stRow (sp j i) s := List.take_of_length_le (by rw [List.length_mapIdx, als.length]; exact Nat.le_refl _)
      rw [e9] at y2; exact y2
    have e0 : wayRows sp 0 (bs.take (j + 1)) = wayRows sp 0 (bs.take j) ++ blkRows (sp j) x := by
      rw [List.take_add_one, hx]
      have := @wayRows_snoc sp (bs.take j) x 0
      rw [List.length_take, Nat.min_eq_left (by lia), Nat.zero_add] at this
      exact this
    have vil : vi.length ≤ 110000 := by
      rw [y2'.length, List.length_append, List.length_mapIdx]
      have e := @wayRows_pre sp (bs.take j) (bs.drop j) 0
      rw [List.take_append_drop] at e
      have := W.zr
      lia
    repeat walk_at "x"
    refine bterm_spec B.fm.ok (R.deeper.le (by decide)) IB1 (lb.le le) hbv (by lia) (lba.le le) fun h9 t9 P => ?_
    replace B := B.pure P
    have ht := hterm.tk le.tk
    repeat walk_at "x"
    rename Bd _ _ _ _ _ _ _ _ _ _ => B
    rcases W.step j x hx with ⟨e1, e2⟩ | ⟨lt, e1 | ⟨l, e1⟩⟩
    · rw [e1] at ht
      refine hide fun CCC kkk => ?_
      obtain ⟨a, u1, rfl, la⟩ := ht
      refine kkk ?_; clear kkk
      refine itemTF (i := 0) B.fm la rfl (by decide) ?_
      repeat walk_at "x"
      refine itemTF (i := 0) B.fm la rfl (by decide) ?_
      repeat walk_at "x"
      refine lenF B.fm ⟨_, B.hp.at_ _ _ _ y3⟩ (by rw [List.length_append]; simp; lia) fun tk6 t6 => ?_
      repeat walk_at "x"
      refine lenF B.fm (lb.le le) (by lia) fun tk7 t7 => ?_
      repeat walk_at "x"
      have ec : (((ws ++ [Value.int (j : Nat) tj]).length : Nat) : Int) = ((bvs.length : Nat) : Int) := by rw [z4.length, List.length_range, lz, e2]
      rw [ec, beq_self_eq_true]
      repeat walk_at "x"
      rename Bd _ _ _ _ _ _ _ _ _ _ => B
      repeat walk_at "x"
      have e8 : wayRows sp 0 bs = wayRows sp 0 (bs.take j) ++ x.1.mapIdx fun i s => stRow (sp j i) s := by
        have e7 := e0
        rw [List.take_of_length_le (by lia : bs.length ≤ j + 1)] at e7
        rw [e7]
        unfold blkRows; rw [e1]; simp [tmRow]
      repeat walk_at "x"
      refine fin.rt ?_
      repeat walk_at "x"
      refine q _ _ _ _ _ B.pu ⟨_, B.hp.at_ _ _ _ y1⟩ ?_
      rw [e8]; exact y2'
    · rw [e1] at ht
      refine hide fun CCC kkk => ?_
      obtain ⟨a, u1, u2, rfl, la⟩ := ht
      refine kkk ?_; clear kkk
      refine itemTF (i := 0) B.fm la rfl (by decide) ?_
      repeat walk_at "x"
      refine itemTF (i := 0) B.fm la rfl (by decide) ?_
      repeat walk_at "x"
      have ht2 : TmIs σ1 (.ref a) (.goto (j + 1)) := ⟨a, u1, u2, rfl, la⟩
      refine succ_spec B.fm.ok (R.deeper.le (by decide)) ht2 nofun fun h10 t10 σ9 r rvs P rl ra => ?_
      replace B := B.pure P
      refine hide fun CCC kkk => ?_
      obtain ⟨tb, rfl⟩ := IsN.cons1 ra
      refine kkk ?_; clear kkk
      repeat walk_at "x"
      rename Bd _ _ _ _ _ _ _ _ _ _ => B
      refine lenF B.fm rl (by simp) fun tk7 t7 => ?_
      repeat walk_at "x"
      refine itemLF (i := 0) B.fm rl rfl (by decide) ?_
      repeat walk_at "x"
      rename Bd _ _ _ _ _ _ _ _ _ _ => B
      refine fin.nx (n' := bs.length - (j + 1)) (by lia) B ⟨j + 1, _, _, _, _, _, rfl, lt, y1, ?_, y3, z4, y5, y6, rfl, y8⟩
      rw [e0]; unfold blkRows; rw [e1]
      exact by simpa [tmRow] using y2'.imp fun _ _ z => z.tk P.le.tk
    · rw [e1] at ht
      refine hide fun CCC kkk => ?_
      obtain ⟨a, u1, p, u2, ea, u3, rfl, la, lp, lq⟩ := ht
      refine kkk ?_; clear kkk
      refine itemTF (i := 0) B.fm la rfl (by decide) ?_
      repeat walk_at "x"
      rename Bd _ _ _ _ _ _ _ _ _ _ => B
      refine methA B.fm ⟨_, B.hp.at_ _ _ _ y1⟩ ?_
      dsimp only
      repeat walk_at "x"
      refine itemTF (i := 1) B.fm la rfl (by decide) ?_
      repeat walk_at "x"
      refine itemTF (i := 0) B.fm lp rfl (by decide) ?_
      repeat walk_at "x"
      have le2 := B.pu.le
      refine bstm_spec B.fm.ok (R.deeper.le (by decide)) (IB.le le2) (lb.le le2) hbv (by lia) (lba.le le2) fun h9 t9 P => ?_
      replace B := B.pure P
      repeat walk_at "x"
      refine lenF B.fm (lsa.le le2) (by rw [als.length]; lia) fun tk6 t6 => ?_
      repeat walk_at "x"
      refine newTupleB B (by exact Nat.le_of_ble_eq_true rfl) fun kp h8 f3 f4 B => ?_
      replace y2' := y2'.imp fun _ _ z => z.tk (B.lp f3).tk
      replace la := B.lp f3 _ _ la
      replace lp := B.lp f3 _ _ lp
      replace lq := B.lp f3 _ _ lq
      have le3 := B.pu.le
      repeat walk_at "x"
      refine bspot_spec B.fm.ok (R.deeper.le (by decide)) (IB.le le3) (le3 _ _ es) (XS.tk le3.tk) hsp put_self fun h9 t9 tk9 P => ?_
      replace B := B.pure P
      repeat walk_at "x"
      refine newTupleB B (by exact Nat.le_of_ble_eq_true rfl) fun kr h11 f7 f8 B => ?_
      replace y2' := y2'.imp fun _ _ z => z.tk (B.lp f7).tk
      replace la := B.lp f7 _ _ la
      replace lp := B.lp f7 _ _ lp
      replace lq := B.lp f7 _ _ lq
      repeat walk_at "x"
      have X2 := B.hp
      refine appendK (kd := .il 0) B y1 (by lia) rfl fun h12 n5 B => ?_
      have tk2 := Kp.tk (Kp.setB B y1) X2
      have rw2 := tk2 _ _ put_self
      replace y2' := y2'.imp fun _ _ z => z.tk tk2
      replace la := tk2 _ _ la
      replace lp := tk2 _ _ lp
      replace lq := tk2 _ _ lq
      repeat walk_at "x"
      rename Bd _ _ _ _ _ _ _ _ _ _ => B
      refine itemTF (i := 0) B.fm la rfl (by decide) ?_
      repeat walk_at "x"
      have ht2 : TmIs _ (.ref a) (.drop l (j + 1)) := ⟨a, u1, p, u2, ea, u3, rfl, la, lp, lq⟩
      refine succ_spec B.fm.ok (R.deeper.le (by decide)) ht2 nofun fun h10 t10 σ9 r rvs P rl ra => ?_
      replace B := B.pure P
      refine hide fun CCC kkk => ?_
      obtain ⟨tb, rfl⟩ := IsN.cons1 ra
      refine kkk ?_; clear kkk
      repeat walk_at "x"
      rename Bd _ _ _ _ _ _ _ _ _ _ => B
      refine lenF B.fm rl (by simp) fun tk7 t7 => ?_
      repeat walk_at "x"
      refine itemLF (i := 0) B.fm rl rfl (by decide) ?_
      repeat walk_at "x"
      rename Bd _ _ _ _ _ _ _ _ _ _ => B
      refine fin.nx (n' := bs.length - (j + 1)) (by lia) B ⟨j + 1, _, _, _, _, _, rfl, lt, upd_self, ?_, upk y3, z4, y5, y6, rfl, y8⟩
      rw [e0]; unfold blkRows; rw [e1]
      have rw3 : RwIs _ (.ref kr) (.drop l ((sp j ss.length).getD 0)) := ⟨kr, _, _, _, rfl, rw2⟩
      have y9 := (y2'.snoc rw3).imp fun _ _ z => z.tk P.le.tk
      have el : sp j ss.length = sp j x.1.length := by rw [als.length]
      rw [List.append_assoc, el] at y9
      exact y9
end
structure La where
  (src tys rows fr : Addr)
noncomputable def LfAt (σ : Mp) (H : Hp) (v : Value) (i : Nat) (x : List (Nat × Bool)) : Prop := ∃ p n us, v = .ref p ∧ H (.lf i) = some (p, lisO us n) ∧ All2 (FiIs σ) us x
noncomputable def FrL (σ : Mp) (H : Hp) (fr : Addr) (fs : List (List (Nat × Bool))) : Prop := ∃ n vs, H .lfr = some (fr, lisO vs n) ∧ vs.length = fs.length ∧ ∀ (i : Nat) v x, vs[i]? = some v → fs[i]? = some x → LfAt σ H v i x
structure LwP (σ : Mp) (H : Hp) (l : La) (rows : List Rw) (tvs : List Value) (Ts : List Ty) (fs : List (List (Nat × Bool))) : Prop where
  src : SrcIs H l.src
  rows : RowsAre σ H l.rows rows
  tys : ∃ n, H .tys = some (l.tys, lisO tvs n)
  hT : All2 (TyIs σ) tvs Ts
  fr : FrL σ H l.fr fs
  tb : TabIs σ H
section
variable {σ σ' : Mp} {H H' : Hp} {l : La} {rows rows' : List Rw} {tvs : List Value} {Ts : List Ty} {fs : List (List (Nat × Bool))} {f : List (Nat × Bool)} {fr p : Addr} {n1 n2 i : Nat} {us vs : List Value} {v : Value} {y : Nat × Bool}
theorem LfAt.mono {x : List (Nat × Bool)} (X : LfAt σ H v i x) (k : Tk σ σ') (e : H' (.lf i) = H (.lf i)) : LfAt σ' H' v i x := by
  obtain ⟨p, n, us, e1, e2, e3⟩ := X; exact ⟨p, n, us, e1, e.trans e2, e3.imp fun _ _ z => z.tk k⟩
theorem FrL.mono (X : FrL σ H fr fs) (k : Tk σ σ') (e0 : H' .lfr = H .lfr) (e1 : ∀ i, H' (.lf i) = H (.lf i)) : FrL σ' H' fr fs := by
  refine hide fun CCC kkk => ?_
  obtain ⟨n, vs, a, b, r⟩ := X
  refine kkk ?_; clear kkk
  exact ⟨n, vs, e0.trans a, b, fun i v x hv hx => (r i v x hv hx).mono k (e1 i)⟩
theorem LwP.upd (X : LwP σ H l rows tvs Ts fs) (hp : HpIn σ H) (k : Kp σ H σ' H') (hs : SrcIs H' l.src) (hr : RowsAre σ' H' l.rows rows') (e1 : H' .tys = H .tys) (e2 : H' .lfr = H .lfr) (e3 : ∀ i, H' (.lf i) = H (.lf i)) (e4 : H' .tab = H .tab) :
    LwP σ' H' l rows' tvs Ts fs := by
  have tk := k.tk hp
  refine hide fun CCC kkk => ?_
  obtain ⟨n, e5⟩ := X.tys
  refine kkk ?_; clear kkk
  exact ⟨hs, hr, ⟨n, e1.trans e5⟩, X.hT.imp fun _ _ z => z.tk tk, X.fr.mono tk e2 e3, X.tb.kp k e4⟩
theorem LwP.stay (X : LwP σ H l rows tvs Ts fs) (hp : HpIn σ H) (k : Kp σ H σ' H') (e : ∀ j, (j.cl ≠ 1 ∧ j.cl ≠ 3) → H' j = H j) : LwP σ' H' l rows tvs Ts fs :=
  X.upd hp k (X.src.mono (e _ (by decide))) (X.rows.mono (k.tk hp) (e _ (by decide))) (e _ (by decide)) (e _ (by decide)) (fun i => e _ ⟨nofun, nofun⟩) (e _ (by decide))
theorem LwP.frTo {fs' : List (List (Nat × Bool))} (X : LwP σ H l rows tvs Ts fs) (hp : HpIn σ H) (k : Kp σ H σ' H') (Y : FrL σ' H' l.fr fs') (e : ∀ j, (j = .src ∨ j = .rows ∨ j = .tys ∨ j = .tab) → H' j = H j) : LwP σ' H' l rows tvs Ts fs' := by
  have tk := k.tk hp
  refine hide fun CCC kkk => ?_
  obtain ⟨n, e5⟩ := X.tys
  refine kkk ?_; clear kkk
  exact ⟨X.src.mono (e _ (by simp)), X.rows.mono tk (e _ (by simp)), ⟨n, (e _ (by simp)).trans e5⟩, X.hT.imp fun _ _ z => z.tk tk, Y, X.tb.kp k (e _ (by simp))⟩
theorem LwP.tyAdd {T : Ty} (X : LwP σ H l rows tvs Ts fs) (hp : HpIn σ H) (e : H .tys = some (l.tys, lisO tvs n1)) (hv : TyIs σ v T) : LwP (Mine.put σ l.tys (lisO (tvs ++ [v]) n2)) (Mine.upd H .tys l.tys (lisO (tvs ++ [v]) n2)) l rows (tvs ++ [v]) (Ts ++ [T]) fs := by
  have k : Kp σ H (Mine.put σ l.tys (lisO (tvs ++ [v]) n2)) (Mine.upd H .tys l.tys (lisO (tvs ++ [v]) n2)) := Kp.set e
  have tk := k.tk hp
  exact ⟨X.src.mono (upd_ne nofun), X.rows.mono tk (upd_ne nofun), ⟨n2, upd_self⟩, (X.hT.imp fun _ _ z => z.tk tk).snoc (hv.tk tk), X.fr.mono tk (upd_ne nofun) (fun _ => upd_ne nofun), X.tb.kp k (upd_ne nofun)⟩
theorem FrL.last (X : FrL σ H fr (fs ++ [f])) : ∃ n vs p n1 us, H .lfr = some (fr, lisO (vs ++ [.ref p]) n) ∧ vs.length = fs.length ∧ H (.lf fs.length) = some (p, lisO us n1) ∧ All2 (FiIs σ) us f := by
  refine hide fun CCC kkk => ?_
  obtain ⟨n, vs, k1, k2, k3⟩ := X
  refine kkk ?_; clear kkk
  have hne : vs ≠ [] := by rintro rfl; simp at k2
  obtain ⟨us, u, rfl⟩ : ∃ us u, vs = us ++ [u] := ⟨_, _, (List.dropLast_concat_getLast hne).symm⟩
  have hl : us.length = fs.length := by simpa using k2
  obtain ⟨p, n1, xs, rfl, r, s⟩ := k3 fs.length u f (by rw [← hl]; simp) (by simp)
  exact ⟨n, us, p, n1, xs, k1, hl, r, s⟩
theorem FrL.modify (X : FrL σ H fr fs) (t : Tk σ σ') (i : Nat) (g : List (Nat × Bool) → List (Nat × Bool)) (h0 : H' .lfr = H .lfr) (h1 : ∀ j, j ≠ i → H' (.lf j) = H (.lf j))
    (y : ∀ v x, fs[i]? = some x → LfAt σ H v i x → LfAt σ' H' v i (g x)) : FrL σ' H' fr (fs.modify i g) := by
  refine hide fun CCC kkk => ?_
  obtain ⟨n, vs, e, hl, r⟩ := X
  refine kkk ?_; clear kkk
  refine ⟨n, vs, h0.trans e, by rw [hl, List.length_modify], fun j v x hv hx => ?_⟩
  rw [List.getElem?_modify] at hx
  by_cases q : i = j
  · subst q
    cases p : fs[i]? with
    | none => rw [p] at hx; simp at hx
    | some z =>
      rw [p] at hx; simp at hx; subst hx
      exact y v z p (r i v z hv p)
  · have : fs[j]? = some x := by
      cases p : fs[j]? with
      | none => rw [p] at hx; simp at hx
      | some z => rw [p] at hx; simp [q] at hx; rw [hx]
    exact (r j v x hv this).mono t (h1 j (Ne.symm q))
theorem FrL.add (X : HpIn σ H) (Y : FrL σ H fr fs) (k : H (.lf i) = some (p, lisO us n1)) (hv : FiIs σ v y) :
    FrL (Mine.put σ p (lisO (us ++ [v]) n2)) (Mine.upd H (.lf i) p (lisO (us ++ [v]) n2)) fr (fs.modify i fun z => z ++ [y]) := by
  have T : Tk σ (Mine.put σ p (lisO (us ++ [v]) n2)) := Tk.put_at (X.at_ _ _ _ k) lisO_no
  refine Y.modify T i _ (upd_ne nofun) (fun j q => upd_ne fun e => q (by injection e)) ?_
  intro u x _ zzq3
  refine hide fun CCC kkk => ?_
  obtain ⟨a', m1, fs', rfl, q, r⟩ := zzq3
  refine kkk ?_; clear kkk
  rw [k] at q; cases q
  exact ⟨p, n2, _, rfl, upd_self, (r.imp fun _ _ z => z.tk T).snoc (hv.tk T)⟩
theorem FrL.new {o : Obj} (Y : FrL σ H fr fs) (hp : σ p = none) : FrL (Mine.put σ p o) (Mine.upd H (.lf fs.length) p o) fr fs := by
  refine hide fun CCC kkk => ?_
  obtain ⟨n, vs, e, hl, r⟩ := Y
  refine kkk ?_; clear kkk
  refine ⟨n, vs, upk e, hl, fun j v x hv hx => (r j v x hv hx).mono (Le.put hp o).tk (upd_ne fun e => ?_)⟩
  have : j < fs.length := (List.getElem?_eq_some_iff.mp hx).1
  injection e with e; lia
theorem FrL.push (X : HpIn σ H) (Y : FrL σ H fr fs) (k : H .lfr = some (fr, lisO vs n1)) (hb : LfAt σ H v fs.length f) :
    FrL (Mine.put σ fr (lisO (vs ++ [v]) n2)) (Mine.upd H .lfr fr (lisO (vs ++ [v]) n2)) fr (fs ++ [f]) := by
  have T : Tk σ (Mine.put σ fr (lisO (vs ++ [v]) n2)) := Tk.put_at (X.at_ _ _ _ k) lisO_no
  refine hide fun CCC kkk => ?_
  obtain ⟨n, vs', e, hl, r⟩ := Y
  refine kkk ?_; clear kkk
  rw [k] at e; cases e
  refine ⟨n2, _, upd_self, by rw [List.length_append, List.length_append, hl]; rfl, fun j u x hv hx => ?_⟩
  rcases snoc_get hv with ⟨q, hv⟩ | ⟨q, rfl⟩
  · rcases snoc_get hx with ⟨_, hx⟩ | ⟨q', _⟩
    · exact (r j u x hv hx).mono T (upd_ne nofun)
    · lia
  · rcases snoc_get hx with ⟨q', _⟩ | ⟨q', rfl⟩
    · lia
    · rw [q, hl]; exact hb.mono T (upd_ne nofun)
theorem FrL.pop (X : HpIn σ H) (Y : FrL σ H fr (fs ++ [f])) (k : H .lfr = some (fr, lisO (vs ++ [v]) n1)) :
    FrL (Mine.put σ fr (lisO vs n2)) (Mine.upd H .lfr fr (lisO vs n2)) fr fs := by
  have T : Tk σ (Mine.put σ fr (lisO vs n2)) := Tk.put_at (X.at_ _ _ _ k) lisO_no
  refine hide fun CCC kkk => ?_
  obtain ⟨n, vs', e', hl, r⟩ := Y
  refine kkk ?_; clear kkk
  rw [k] at e'
  obtain ⟨rfl⟩ : vs' = vs ++ [v] := by
    have := congrArg (fun o : Option (Addr × Obj) => o.map (·.2.data)) e'
    exact (by simpa using this.symm : vs' = vs ++ [v] ∧ n = n1).1
  have hl2 : vs.length = fs.length := by simpa using hl
  refine ⟨n2, vs, upd_self, hl2, fun j u x hv hx => (r j u x ?_ ?_).mono T (upd_ne nofun)⟩
  · rw [List.getElem?_append_left (List.getElem?_eq_some_iff.mp hv).1]; exact hv
  · rw [List.getElem?_append_left (List.getElem?_eq_some_iff.mp hx).1]; exact hx
end
theorem SA.Small.nlocal {a : SA} {N : Nat} {v : Value} (s : a.Small N) : (a.nlocal v).Small (N + 1) :=
  ⟨Nat.le_succ_of_le s.k, fun b hb => Nat.le_succ_of_le (s.s b hb), Nat.le_succ_of_le s.p, by show (a.tvs ++ [v]).length ≤ _; have := s.l; simp; lia, Nat.le_succ_of_le s.f, fun f hf => Nat.le_succ_of_le (s.i f hf)⟩
theorem SA.Small.push {a : SA} {N : Nat} (s : a.Small N) : a.push.Small (N + 1) :=
  ⟨Nat.le_succ_of_le s.k, fun b hb => Nat.le_succ_of_le (s.s b hb), Nat.le_succ_of_le s.p, Nat.le_succ_of_le s.l, by show (a.frames ++ [[]]).length ≤ _; have := s.f; simp; lia, fun f hf => by
    rcases List.mem_append.mp hf with hf | hf
    · exact Nat.le_succ_of_le (s.i f hf)
    · rw [List.mem_singleton.mp hf]; exact Nat.zero_le _⟩
theorem SA.Small.hold {a : SA} {N l : Nat} {b : Bool} (s : a.Small N) : (a.hold l b).Small (N + 1) :=
  ⟨Nat.le_succ_of_le s.k, fun b hb => Nat.le_succ_of_le (s.s b hb), Nat.le_succ_of_le s.p, Nat.le_succ_of_le s.l, by show (a.frames.modify _ _).length ≤ _; rw [List.length_modify]; exact Nat.le_succ_of_le s.f, fun f hf => by
    refine hide fun CCC kkk => ?_
    obtain ⟨i, hi⟩ := List.mem_iff_getElem?.mp hf
    refine kkk ?_; clear kkk
    have hi : (a.frames.modify (a.frames.length - 1) fun z => z ++ [(l, b)])[i]? = some f := hi
    rw [List.getElem?_modify] at hi
    cases q : a.frames[i]? with
    | none => rw [q] at hi; cases hi
    | some z =>
      rw [q] at hi
      have hz := s.i z (List.mem_of_getElem? q)
      have : (if a.frames.length - 1 = i then z ++ [(l, b)] else z) = f := by
        have e := Option.some.inj hi
        exact e
      rw [← this]; split
      · rw [List.length_append]; exact Nat.succ_le_succ hz
      · exact Nat.le_succ_of_le hz⟩
theorem SA.Small.declare {a : SA} {N l : Nat} (s : a.Small N) : (a.declare l).Small (N + 2) := (s.put _).hold
noncomputable def mdQ : Kd → Bool
  | .tab => false
  | .it i | .il i => decide (i < 10)
  | _ => true
theorem mdQ_not {md : Kd → Bool} {k : Kd} (h : mdQ k = false) (e : md .tab = false) (e1 : ∀ i, md (.il (i + 10)) = false := by intro i; first | rfl | exact decide_eq_false (by lia)) (e2 : ∀ i, md (.it (i + 10)) = false := by intro i; first | rfl | exact decide_eq_false (by lia)) : md k = false := by
  cases k with
  | tab => exact e
  | il i =>
    have h' : ¬ i < 10 := of_decide_eq_false h
    obtain ⟨j, rfl⟩ : ∃ j, i = j + 10 := ⟨i - 10, by lia⟩
    exact e1 j
  | it i =>
    have h' : ¬ i < 10 := of_decide_eq_false h
    obtain ⟨j, rfl⟩ : ∃ j, i = j + 10 := ⟨i - 10, by lia⟩
    exact e2 j
  | _ => cases h
section
variable {prog : Program} {w : World} {A : Around} {E : Value → Shared → Prop} {σ : Mp} {H : Hp} {h : Heap} {g : Array GenState} {d : Drawn} {t : Nat} {os : OsState} {Q : Value → Shared → Prop} {k : Nat} {c : Cs} {a : SA} {l : La} {rows : List Rw} {Ts : List Ty}
theorem eqTy {v : Value} {T : Ty} {σ₀ : Mp} {h₀ : Heap} {L : Addr} {m : Str → Option Value} (F : Fm w σ₀ h₀ σ L h m) (R : Room 1 A) (hT : TyIs σ v T) (q : Q (.bool true) ⟨h, g, d, t, os⟩) :
    wpAny (model prog w) A (compareOp .Eq v v) Q E ⟨h, g, d, t, os⟩ := by
  have key : ∀ (a : Addr) (vs : List Value), TO σ a vs → wpAny (model prog w) A (compareOp .Eq (.ref a) (.ref a)) Q E ⟨h, g, d, t, os⟩ := fun a vs e =>
    SeqAt.eq_tupleAt (s := ⟨h, g, d, t, os⟩) (e := fun _ => true) (F.tup e) (F.tup e) R.units (fun j h1 h2 => SeqAt.EqAt.same _) (by rw [Nat.min_self, beq_self_eq_true, Bool.and_true, (List.all_eq_true.mpr fun _ _ => rfl : (List.range vs.toArray.size).all (fun _ => true) = true)]; exact q)
  cases T with
  | int => obtain ⟨a, _, _, rfl, e⟩ := hT; exact key _ _ e
  | box T => obtain ⟨a, _, _, rfl, e, _⟩ := hT; exact key _ _ e
  | tup T U => obtain ⟨a, _, _, _, _, rfl, e, _⟩ := hT; exact key _ _ e
  | arr T n => obtain ⟨a, _, _, _, rfl, e, _⟩ := hT; exact key _ _ e
  | rf b T => obtain ⟨a, _, _, rfl, e, _⟩ := hT; exact key _ _ e
theorem declared_spec {s : Int} {ts : Tok} (O : Ok w σ h) (R : Room 8 A) (X : HpIn σ H) (Y : Sc σ H c a) (Z : LwP σ H l rows a.tvs Ts a.frames) (hs : a.Small 600000) (hh : a.here < a.blocks.length) (hf : a.frames ≠ []) (hr : rows.length ≤ 100000)
    (q : ∀ h' t' σ' H' v T, Nx w mdQ σ h H σ' h' H' → T.size ≤ 64 → Sc σ' H' c ((a.nlocal v).declare a.tvs.length) →
      LwP σ' H' l (rows ++ [.live a.tvs.length s]) (a.tvs ++ [v]) (Ts ++ [T]) ((a.nlocal v).declare a.tvs.length).frames → Q (.bool true) ⟨h', g, d, t', os⟩) :
    wpAny (model prog w) A (call (.ref 409) [.ref l.src, .ref c.S, .ref l.tys, .ref l.fr, .ref l.rows, .int s ts]) Q E ⟨h, g, d, t, os⟩ := by
  refine' enter (binds := [("source", .ref l.src), ("scopes", .ref c.S), ("types", .ref l.tys), ("frames", .ref l.fr), ("rows", .ref l.rows), ("spot", .int s ts)]) O R ?a1 ?a2 ?a3 ?a4 ?a5 ?_ ?a6 ?a7 ?a8
  walk_at "ent"
  intro L h₁ F
  have B := Bd.start (md := mdQ) F X
  repeat walk_at "x"
  refine type_spec 2 B.fm.ok (R.deeper.le (by decide)) B.hp Z.src (by decide) fun h2 t2 σ2 H2 v T N S2 hT hTz => ?_
  have Y2 := Y.mono (N.kp.tk X) fun k hk => N.ag k (by cases k <;> first | rfl | cases hk)
  have Z2 := Z.upd X N.kp S2 (Z.rows.mono (N.kp.tk X) (N.ag _ rfl)) (N.ag _ rfl) (N.ag _ rfl) (fun i => N.ag _ rfl) (N.ag _ rfl)
  replace B := B.call N (fun k e => mdQ_not e rfl)
  repeat walk_at "x"
  refine hide fun CCC kkk => ?_
  obtain ⟨u1, u2, IS2⟩ := Y2.objS B.hp
  refine kkk ?_; clear kkk
  repeat walk_at "x"
  rename Bd _ _ _ _ _ _ _ _ _ _ => B
  refine nlocal_spec B.fm.ok (R.deeper.le (by decide)) B.hp Y2 (hs.le (by decide)) fun h3 t3 σ3 H3 tk3 N3 Y3 => ?_
  have Z3 := Z2.stay B.hp N3.kp fun j hj => N3.ag j (by rcases hj with ⟨q1, _⟩; show (j.cl == 1) = false; simpa using q1)
  have hT3 := hT.tk (N3.kp.tk B.hp)
  replace B := B.call N3 (fun k e => mdQ_not e rfl)
  repeat walk_at "x"
  rename Bd _ _ _ _ _ _ _ _ _ _ => B
  refine hide fun CCC kkk => ?_
  obtain ⟨nt, et⟩ := Z3.tys
  refine kkk ?_; clear kkk
  refine methA B.fm ⟨nt, B.hp.at_ _ _ _ et⟩ ?_
  dsimp only
  repeat walk_at "x"
  rename Bd _ _ _ _ _ _ _ _ _ _ => B
  have X3 := B.hp
  refine appendK (kd := .tys) B et (by have := hs.l; lia) rfl fun h4 n4 B => ?_
  have Y4 := Y3.setB B X3 et (by decide)
  have Z4 := Z3.tyAdd (n2 := n4) X3 et hT3
  refine hide fun CCC kkk => ?_
  obtain ⟨u3, u4, IS4⟩ := Y4.objS B.hp
  refine kkk ?_; clear kkk
  repeat walk_at "x"
  rename Bd _ _ _ _ _ _ _ _ _ _ => B
  have hs2 : (a.nlocal v).Small 700000 := (hs.nlocal (v := v)).le (by decide)
  refine declare_spec (l := a.tvs.length) B.fm.ok (R.deeper.le (by decide)) B.hp Y4 hs2 hh hf fun h5 t5 σ5 H5 N5 Y5 => ?_
  have Z5 := Z4.stay B.hp N5.kp fun j hj => N5.ag j (by rcases hj with ⟨q1, _⟩; show (j.cl == 1) = false; simpa using q1)
  have hT5 := Z5.hT
  replace B := B.call N5 (fun k e => mdQ_not e rfl)
  have ef : a.frames = a.frames.dropLast ++ [a.frames.getLast hf] := (List.dropLast_concat_getLast hf).symm
  have hl : a.frames.dropLast.length = a.frames.length - 1 := by simp
  have Zf := Z5.fr
  rw [ef] at Zf
  refine hide fun CCC kkk => ?_
  obtain ⟨n5, vs, p, n6, us, k1, k2, k3, k4⟩ := Zf.last
  refine kkk ?_; clear kkk
  repeat walk_at "x"
  rename Bd _ _ _ _ _ _ _ _ _ _ => B
  have hif := hs.i _ (List.getLast_mem hf)
  refine itemLastF B.fm ⟨n5, B.hp.at_ _ _ _ k1⟩ (by rw [k2, hl]; have := hs.f; lia) ?_
  refine methA B.fm ⟨n6, B.hp.at_ _ _ _ k3⟩ ?_
  dsimp only
  repeat walk_at "x"
  rename Bd _ _ _ _ _ _ _ _ _ _ => B
  have X6 := B.hp
  refine newTupleB B (by exact Nat.le_of_ble_eq_true rfl) fun kb h6 e3 e4 B => ?_
  have Y6 := Y5.ownB B e3
  have Z6 := Z5.stay X6 (Kp.of_le (B.lp e3)) fun _ _ => rfl
  have X7 := B.hp
  repeat walk_at "x"
  refine appendK (kd := .lf a.frames.dropLast.length) B k3 (by rw [k4.length]; lia) rfl fun h7 n7 B => ?_
  have Y7 := Y6.setB B X7 k3 nofun
  have Z7 := Z6.frTo X7 (Kp.setB B k3) (Z6.fr.add (n2 := n7) (y := (a.tvs.length, true)) X7 k3 ⟨kb, _, rfl, put_self⟩) fun j hj => upd_ne (by rcases hj with rfl | rfl | rfl | rfl <;> nofun)
  have eM : (a.frames.modify a.frames.dropLast.length fun z => z ++ [(a.tvs.length, true)]) = ((a.nlocal v).declare a.tvs.length).frames := by rw [hl]; rfl
  rw [eM] at Z7
  repeat walk_at "x"
  rename Bd _ _ _ _ _ _ _ _ _ _ => B
  refine hide fun CCC kkk => ?_
  obtain ⟨rvs, rl⟩ := Z7.rows.lo B.hp
  refine kkk ?_; clear kkk
  refine methA B.fm rl ?_
  dsimp only
  repeat walk_at "x"
  rename Bd _ _ _ _ _ _ _ _ _ _ => B
  have X8 := B.hp
  refine newTupleB B (by exact Nat.le_of_ble_eq_true rfl) fun kc h8 e5 e6 B => ?_
  have Y8 := Y7.ownB B e5
  have Z8 := Z7.stay X8 (Kp.of_le (B.lp e5)) fun _ _ => rfl
  have X9 := B.hp
  repeat walk_at "x"
  refine rowAdd (x := .live a.tvs.length s) B Z8.rows hr rfl ⟨kc, _, _, _, rfl, put_self⟩ fun h9 σ9 H9 B rw9 kp9 ag9 => ?_
  have Y9 := Y8.mono (kp9.tk X9) fun j hj => ag9 j (by rintro rfl; cases hj)
  have Z9 := Z8.upd X9 kp9 (Z8.src.mono (ag9 _ nofun)) rw9 (ag9 _ nofun) (ag9 _ nofun) (fun i => ag9 _ nofun) (ag9 _ nofun)
  refine hide fun CCC kkk => ?_
  obtain ⟨u5, u6, IS9⟩ := Y9.objS B.hp
  refine kkk ?_; clear kkk
  repeat walk_at "x"
  rename Bd _ _ _ _ _ _ _ _ _ _ => B
  refine hide fun CCC kkk => ?_
  obtain ⟨nt2, et2⟩ := Z9.tys
  refine kkk ?_; clear kkk
  have ltz : (a.tvs ++ [v]).length ≤ 700000 := hs2.l
  refine lenF B.fm ⟨_, B.hp.at_ _ _ _ et2⟩ (by lia) fun tk9 t9 => ?_
  repeat walk_at "x"
  have e7 : ((a.tvs.length : Nat) : Int) == (((a.tvs ++ [v]).length : Nat) : Int) - 1 := by rw [List.length_append]; simp
  rw [e7]
  repeat walk_at "x"
  rename Bd _ _ _ _ _ _ _ _ _ _ => B
  refine btype2_spec (v := v) B.fm.ok (R.deeper.le (by decide)) B.hp Y9 ((hs.nlocal (v := v)).declare.le (by decide)) (by show (a.tvs ++ [v])[a.tvs.length]? = _; simp) fun h10 t10 P => ?_
  replace B := B.pure P
  repeat walk_at "x"
  have tyv : TyIs σ9 v T := by
    refine hide fun CCC kkk => ?_
    obtain ⟨T', e8, e9⟩ := Z9.hT.getV (i := a.tvs.length) (v := v) (by simp)
    refine kkk ?_; clear kkk
    have lT : a.tvs.length = Ts.length := Z.hT.length
    rw [lT] at e8
    have : T' = T := by simpa using e8.symm
    exact this ▸ e9
  refine eqTy B.fm (R.deeper.le (by decide)) tyv ?_
  repeat walk_at "x"
  exact q _ _ _ _ v T B.nx hTz Y9 Z9
end
section
variable {w : World} {md : Kd → Bool} {σ σ' : Mp} {H H' : Hp} {h h' : Heap} {l : La} {rows rows' : List Rw} {tvs : List Value} {Ts : List Ty} {fs : List (List (Nat × Bool))} {c : Cs} {a : SA}
theorem LwP.take (Z : LwP σ H l rows tvs Ts fs) (X : HpIn σ H) (N : Nx w mdR σ h H σ' h' H') (S : SrcIs H' l.src) : LwP σ' H' l rows tvs Ts fs :=
  Z.upd X N.kp S (Z.rows.mono (N.kp.tk X) (N.ag _ rfl)) (N.ag _ rfl) (N.ag _ rfl) (fun _ => N.ag _ rfl) (N.ag _ rfl)
theorem Sc.take (Y : Sc σ H c a) (X : HpIn σ H) (N : Nx w mdR σ h H σ' h' H') : Sc σ' H' c a := Y.mono (N.kp.tk X) fun k hk => N.ag k (by cases k <;> first | rfl | cases hk)
theorem LwP.scn (Z : LwP σ H l rows tvs Ts fs) (X : HpIn σ H) (N : Nx w md σ h H σ' h' H') (hm : ∀ j : Kd, j.cl ≠ 1 → j.cl ≠ 3 → md j = false) : LwP σ' H' l rows tvs Ts fs := Z.stay X N.kp fun j hj => N.ag j (hm j hj.1 hj.2)
theorem LwP.add3 {kd : Kd} {p L : Addr} {o : Obj} {σ₀ : Mp} {H₀ : Hp} {h₀ h : Heap} {m : Str → Option Value} (Z : LwP σ H l rows tvs Ts fs) (X : HpIn σ H) (_ : Bd w md σ₀ h₀ H₀ (Mine.put σ p o) (Mine.upd H kd p o) L h m) (e : σ p = none) (hk : kd.cl = 3) : LwP (Mine.put σ p o) (Mine.upd H kd p o) l rows tvs Ts fs :=
  Z.stay X (Kp.add e) fun j hj => upd_ne (by rintro rfl; exact hj.2 hk)
theorem mdS_law (j : Kd) (h : j.cl ≠ 1) (_ : j.cl ≠ 3) : mdS j = false := by show (j.cl == 1) = false; simpa using h
theorem mdB_law (j : Kd) (h : j.cl ≠ 1) (_ : j.cl ≠ 3) : mdB j = false := by cases j <;> first | rfl | exact absurd rfl h
theorem mdA_law (j : Kd) (h : j.cl ≠ 1) (h2 : j.cl ≠ 3) : mdA j = false := by cases j <;> first | rfl | exact absurd rfl h | exact absurd rfl h2
theorem LwP.endn (Z : LwP σ H l rows tvs Ts fs) (X : HpIn σ H) (N : Nx w mdE σ h H σ' h' H') (r : RowsAre σ' H' l.rows rows') : LwP σ' H' l rows' tvs Ts fs :=
  Z.upd X N.kp (Z.src.mono (N.ag _ rfl)) r (N.ag _ rfl) (N.ag _ rfl) (fun _ => N.ag _ rfl) (N.ag _ rfl)
theorem Sc.endn (Y : Sc σ H c a) (X : HpIn σ H) (N : Nx w mdE σ h H σ' h' H') : Sc σ' H' c a := Y.mono (N.kp.tk X) fun k hk => N.ag k (by cases k <;> first | rfl | cases hk)
theorem ag_Q {md : Kd → Bool} (e : md .tab = false) (e1 : ∀ i, md (.il (i + 10)) = false := by intro i; first | rfl | exact decide_eq_false (by lia)) (e2 : ∀ i, md (.it (i + 10)) = false := by intro i; first | rfl | exact decide_eq_false (by lia)) (k : Kd) (h : mdQ k = false) : md k = false := mdQ_not h e e1 e2
end
section
variable {prog : Program} {w : World} {A : Around} {E : Value → Shared → Prop} {md : Kd → Bool} {σ₀ σ : Mp} {H₀ H : Hp} {h₀ h : Heap} {g : Array GenState} {d : Drawn} {t : Nat} {os : OsState} {L : Addr} {m : Str → Option Value}
theorem saHere2 {Q : Unit → Shared → Prop} {c : Cs} {a : SA} {i : Nat} {u : Tok} (B : Bd w md σ₀ h₀ H₀ σ H L h m) (Y : Sc σ H c a) (hm : md .scD = true)
    (q : ∀ h' t' σ' H', Bd w md σ₀ h₀ H₀ σ' H' L h' m → Sc σ' H' c { a with here := i } → Kp σ H σ' H' → (∀ k, k ≠ .scD → H' k = H k) → Q () ⟨h', g, d, t', os⟩) :
    wpAny (model prog w) A (setAttr (.ref c.S) "here" (.int i u)) Q E ⟨h, g, d, t, os⟩ := by
  refine hide fun CCC kkk => ?_
  obtain ⟨h1, od, t1, t2, h2, h3⟩ := Y.s
  refine kkk ?_; clear kkk
  refine saF B.fm (B.hp.at_ _ _ _ h1) (B.hp.at_ _ _ _ h2) h3 (Nat.le_refl _) (B.hp.hi _ _ _ h2) (by kernel_rfl) fun h' od' z F => ?_
  have no : ¬ isTupO od' := by obtain ⟨es, n, rfl, _⟩ := z; intro z; exact absurd (show (Value.type "dict" : Value) = .type "tuple" from z) (by decide)
  refine q h' _ _ _ (B.set h2 no hm F) ?_ (Kp.set h2) fun k hk => upd_ne hk
  have e : ms "here" (Value.int i u) (scAm c (.int a.here t1) (.int a.spot t2)) = scAm c (.int i u) (.int a.spot t2) := by
    funext x; unfold ms scAm; by_cases q : x = "here" <;> simp only [q, if_true, if_false]
  rw [e] at z
  exact Y.turn (Tk.put_at (B.hp.at_ _ _ _ h2) (B.hp.no _ _ _ h2)) (.inr ⟨(upd_ne (j := .sc) (k := .scD) nofun).trans h1, od', u, t2, upd_self, z⟩) (.inl ⟨nofun, nofun⟩) (.inl ⟨nofun, rfl⟩) (.inl ⟨nofun, fun _ => nofun, fun _ => nofun, rfl⟩) (.inl ⟨nofun, rfl, rfl⟩) (.inl ⟨nofun, fun _ => nofun, rfl⟩)
theorem saSpot2 {Q : Unit → Shared → Prop} {c : Cs} {a : SA} {i : Int} {u : Tok} (B : Bd w md σ₀ h₀ H₀ σ H L h m) (Y : Sc σ H c a) (hm : md .scD = true)
    (q : ∀ h' t' σ' H', Bd w md σ₀ h₀ H₀ σ' H' L h' m → Sc σ' H' c { a with spot := i } → Kp σ H σ' H' → (∀ k, k ≠ .scD → H' k = H k) → Q () ⟨h', g, d, t', os⟩) :
    wpAny (model prog w) A (setAttr (.ref c.S) "spot" (.int i u)) Q E ⟨h, g, d, t, os⟩ := by
  refine hide fun CCC kkk => ?_
  obtain ⟨h1, od, t1, t2, h2, h3⟩ := Y.s
  refine kkk ?_; clear kkk
  refine saF B.fm (B.hp.at_ _ _ _ h1) (B.hp.at_ _ _ _ h2) h3 (Nat.le_refl _) (B.hp.hi _ _ _ h2) (by kernel_rfl) fun h' od' z F => ?_
  have no : ¬ isTupO od' := by obtain ⟨es, n, rfl, _⟩ := z; intro z; exact absurd (show (Value.type "dict" : Value) = .type "tuple" from z) (by decide)
  refine q h' _ _ _ (B.set h2 no hm F) ?_ (Kp.set h2) fun k hk => upd_ne hk
  have e : ms "spot" (Value.int i u) (scAm c (.int a.here t1) (.int a.spot t2)) = scAm c (.int a.here t1) (.int i u) := by
    funext x; unfold ms scAm
    by_cases p : x = "here"
    · subst p; rfl
    · by_cases q : x = "spot"
      · subst q; rfl
      · simp only [p, q, if_false]
  rw [e] at z
  exact Y.turn (Tk.put_at (B.hp.at_ _ _ _ h2) (B.hp.no _ _ _ h2)) (.inr ⟨(upd_ne (j := .sc) (k := .scD) nofun).trans h1, od', t1, u, upd_self, z⟩) (.inl ⟨nofun, nofun⟩) (.inl ⟨nofun, rfl⟩) (.inl ⟨nofun, fun _ => nofun, fun _ => nofun, rfl⟩) (.inl ⟨nofun, rfl, rfl⟩) (.inl ⟨nofun, fun _ => nofun, rfl⟩)
end
theorem fins_good {tvs : List Value} {F : List (List (Nat × Bool))} {tb : Nat → Bool} : ∀ {fs : List (List (Nat × Bool))} {a : SA} {N : Nat}, (∀ f ∈ fs, f.length ≤ 40) → a.Good tvs F N → (fs.foldl (SA.fin tb) a).Good tvs F (N + 120 * fs.length)
  | [], a, N, _, G => G
  | f :: fs, a, N, hf, G => by
    have G1 : (a.fin tb f).Good tvs F (N + 120) := by
      refine (SA.Good.fin (tb := tb) (f := f.reverse) G).le ?_
      have := hf f (.head _)
      simp; lia
    refine (fins_good (fs := fs) (fun g hg => hf g (.tail _ hg)) G1).le ?_
    simp; lia
inductive Deed (s : Int) (a : SA) (rows : List Rw) (Ts : List Ty) : SA → List Rw → List Ty → Prop
  | push : Deed s a rows Ts a.push rows Ts
  | decl (v : Value) (T : Ty) : a.frames ≠ [] → T.size ≤ 64 → Deed s a rows Ts ((a.nlocal v).declare a.tvs.length) (rows ++ [.live a.tvs.length s]) (Ts ++ [T])
  | mark : Deed s a rows Ts (a.put (.mark s)) (rows ++ [.mark s]) Ts
  | pop (fs f) : a.frames = fs ++ [f] → Deed s a rows Ts (a.pop (tbOf Ts)) (rows ++ rowsEnd (tbOf Ts) s f) Ts
  | leave (dep : Nat) : dep ≤ a.frames.length → Deed s a rows Ts (a.leave (tbOf Ts) dep) (rows ++ ((a.frames.drop dep).reverse).flatMap (rowsEnd (tbOf Ts) s)) Ts
  | go : Deed s a rows Ts (a.nblock.go a.blocks.length) rows Ts
  | other : Deed s a rows Ts { ((a.nblock.fend (.goto a.blocks.length)).put (.mark (-1))) with here := a.blocks.length } rows Ts
structure Pre (a : SA) (rows : List Rw) (Ts : List Ty) : Prop where
  hs : a.Small 2000
  hh : a.here < a.blocks.length
  hfl : ∀ f ∈ a.frames, f.length ≤ 40
  hfs : a.frames.length ≤ 40
  hl : ∀ f ∈ a.frames, ∀ x ∈ f, x.1 < Ts.length
  hz : ∀ T ∈ Ts, T.size ≤ 64
  hr : rows.length ≤ 5000
  hT : Ts.length ≤ 100
section
variable {prog : Program} {w : World} {A : Around} {E : Value → Shared → Prop} {σ : Mp} {H : Hp} {h : Heap} {g : Array GenState} {d : Drawn} {t : Nat} {os : OsState} {Q : Value → Shared → Prop} {k : Nat} {c : Cs} {a : SA} {l : La} {rows : List Rw} {Ts : List Ty}
theorem deed_spec {s : Int} {ts : Tok} (O : Ok w σ h) (R : Room 71 A) (X : HpIn σ H) (Y : Sc σ H c a) (Z : LwP σ H l rows a.tvs Ts a.frames) (P : Pre a rows Ts)
    (q : ∀ h' t' σ' H' a' rows' Ts', Nx w mdQ σ h H σ' h' H' → Deed s a rows Ts a' rows' Ts' → Sc σ' H' c a' → LwP σ' H' l rows' a'.tvs Ts' a'.frames → Q (.bool true) ⟨h', g, d, t', os⟩) :
    wpAny (model prog w) A (call (.ref 416) [.ref l.src, .ref c.S, .ref l.tys, .ref l.fr, .ref l.rows, .int s ts]) Q E ⟨h, g, d, t, os⟩ := by
  refine' enter (binds := [("source", .ref l.src), ("scopes", .ref c.S), ("types", .ref l.tys), ("frames", .ref l.fr), ("rows", .ref l.rows), ("spot", .int s ts)]) O R ?a1 ?a2 ?a3 ?a4 ?a5 ?_ ?a6 ?a7 ?a8
  walk_at "ent"
  intro L h₁ F
  have B := Bd.start (md := mdQ) F X
  repeat walk_at "x"
  refine take_spec B.fm.ok (R.deeper.le (by decide)) B.hp Z.src (by decide) (by decide) fun h2 t2 σ2 H2 r tk N S2 hr0 hr1 => ?_
  replace Y := Y.take X N
  replace Z := Z.take X N S2
  replace B := B.call N (ag_Q rfl)
  repeat walk_at "x"
  rename Bd _ _ _ _ _ _ _ _ _ _ => B
  by_cases c0 : (r == 0) = true
  · repeat walk_at "x"
    refine hide fun CCC kkk => ?_
    obtain ⟨n0, vs0, k1, k2, k3⟩ := Z.fr
    refine kkk ?_; clear kkk
    refine methA B.fm ⟨n0, B.hp.at_ _ _ _ k1⟩ ?_
    dsimp only
    repeat walk_at "x"
    rename Bd _ _ _ _ _ _ _ _ _ _ => B
    have X1 := B.hp
    refine newListK (.lf a.frames.length) B (by decide) rfl fun p h3 e1 e2 B => ?_
    have Y1 := Y.addB B e1 nofun
    have Z1 := Z.frTo X1 (Kp.add e1) (Z.fr.new (o := lisO [] 0) e1) fun j hj => upd_ne (by rcases hj with rfl | rfl | rfl | rfl <;> nofun)
    have X2 := B.hp
    repeat walk_at "x"
    have k1' := keepB B k1 nofun
    have hfs := P.hfs
    refine appendK (kd := .lfr) B k1' (by lia) rfl fun h4 n4 B => ?_
    have Y2 := Y1.setB B X2 k1' (by decide)
    have Z2 := Z1.frTo X2 (Kp.setB B k1') (Z1.fr.push (n2 := n4) X2 k1' ⟨p, 0, [], rfl, upd_self, .nil⟩) fun j hj => upd_ne (by rcases hj with rfl | rfl | rfl | rfl <;> nofun)
    refine hide fun CCC kkk => ?_
    obtain ⟨u1, u2, IS⟩ := Y2.objS B.hp
    refine kkk ?_; clear kkk
    repeat walk_at "x"
    rename Bd _ _ _ _ _ _ _ _ _ _ => B
    refine push_spec B.fm.ok (R.deeper.le (by decide)) B.hp Y2 (P.hs.le (by decide)) fun h5 t5 σ5 H5 tk5 N5 Y5 => ?_
    have Z5 := Z2.scn B.hp N5 mdS_law
    replace B := B.call N5 (ag_Q rfl)
    repeat walk_at "x"
    refine hide fun CCC kkk => ?_
    obtain ⟨n6, vs6, k6, k7, k8⟩ := Z5.fr
    refine kkk ?_; clear kkk
    refine lenF B.fm ⟨_, B.hp.at_ _ _ _ k6⟩ (by rw [k7]; simp; lia) fun tk6 t6 => ?_
    repeat walk_at "x"
    rename Bd _ _ _ _ _ _ _ _ _ _ => B
    have e7 : (((a.frames.length : Nat) : Int) == ((vs6.length : Nat) : Int) - 1) = true := by rw [k7]; simp
    rw [e7]
    repeat walk_at "x"
    exact q _ _ _ _ _ _ _ B.nx .push Y5 Z5
  · rw [Bool.not_eq_true] at c0
    repeat walk_at "x"
    have X0 := B.hp
    refine newListB B (by exact Nat.le_of_ble_eq_true rfl) fun na h5 e5 e6 B => ?_
    replace Y := Y.ownB B e5
    replace Z := Z.stay X0 (Kp.of_le (B.lp e5)) fun _ _ => rfl
    repeat walk_at "x"
    rename Bd _ _ _ _ _ _ _ _ _ _ => B
    refine hide fun CCC kkk => ?_
    obtain ⟨nf, vf, k1, k2, k3⟩ := Z.fr
    refine kkk ?_; clear kkk
    cases hfr : a.frames.isEmpty
    · have hne : a.frames ≠ [] := by intro e; rw [e] at hfr; cases hfr
      refine eqNil false B.fm (R.deeper.le (by decide)) ⟨nf, B.hp.at_ _ _ _ k1⟩ ⟨_, put_self⟩ (by cases vf with | nil => exact absurd (List.eq_nil_of_length_eq_zero k2.symm) hne | cons _ _ => rfl) ?_
      repeat walk_at "x"
      have hh := P.hh
      by_cases c4 : r < 4
      · rw [decide_eq_true c4]
        repeat walk_at "x"
        refine declared_spec B.fm.ok (R.deeper.le (by decide)) B.hp Y Z (P.hs.le (by decide)) P.hh hne (Nat.le_trans P.hr (by decide)) fun h6 t6 σ6 H6 v T N6 zT Y6 Z6 => ?_
        replace B := B.call N6 (fun _ e => e)
        repeat walk_at "x"
        exact q _ _ _ _ _ _ _ B.nx (.decl v T hne zT) Y6 Z6
      rw [decide_eq_false c4]
      repeat walk_at "x"
      refine hide fun CCC kkk => ?_
      obtain ⟨u1, u2, IS⟩ := Y.objS B.hp
      refine kkk ?_; clear kkk
      by_cases w4 : (r == 4) = true
      · repeat walk_at "x"
        refine hide fun CCC kkk => ?_
        obtain ⟨rvs, rl⟩ := Z.rows.lo B.hp
        refine kkk ?_; clear kkk
        refine methA B.fm rl ?_
        dsimp only
        repeat walk_at "x"
        rename Bd _ _ _ _ _ _ _ _ _ _ => B
        have X1 := B.hp
        refine newTupleB B (by exact Nat.le_of_ble_eq_true rfl) fun kc h8 f5 f6 B => ?_
        have Y1 := Y.ownB B f5
        have Z1 := Z.stay X1 (Kp.of_le (B.lp f5)) fun _ _ => rfl
        have X2 := B.hp
        repeat walk_at "x"
        refine rowAdd (x := .mark s) B Z1.rows (Nat.le_trans P.hr (by decide)) rfl ⟨kc, _, _, _, rfl, put_self⟩ fun h9 σ9 H9 B rw9 kp9 ag9 => ?_
        have Y2 := Y1.mono (kp9.tk X2) fun j hj => ag9 j (by rintro rfl; cases hj)
        have Z2 := Z1.upd X2 kp9 (Z1.src.mono (ag9 _ nofun)) rw9 (ag9 _ nofun) (ag9 _ nofun) (fun _ => ag9 _ nofun) (ag9 _ nofun)
        refine hide fun CCC kkk => ?_
        obtain ⟨u5, u6, IS9⟩ := Y2.objS B.hp
        refine kkk ?_; clear kkk
        have X3 := B.hp
        repeat walk_at "x"
        refine newTupleB B (by exact Nat.le_of_ble_eq_true rfl) fun kd h10 f7 f8 B => ?_
        have Y3 := Y2.ownB B f7
        have Z3 := Z2.stay X3 (Kp.of_le (B.lp f7)) fun _ _ => rfl
        have X4 := B.hp
        have tkd := B.lp f7
        repeat walk_at "x"
        refine newTupleB B (by exact Nat.le_of_ble_eq_true rfl) fun ke h11 f9 f10 B => ?_
        have Y4 := Y3.ownB B f9
        have Z4 := Z3.stay X4 (Kp.of_le (B.lp f9)) fun _ _ => rfl
        repeat walk_at "x"
        refine put_spec (x := .mark s) B.fm.ok (R.deeper.le (by decide)) B.hp Y4 (P.hs.le (by decide)) P.hh ⟨ke, _, kd, _, _, _, rfl, put_self, B.lp f9 _ _ put_self⟩ fun h12 t12 σ12 H12 N12 Y12 => ?_
        have Z12 := Z4.scn B.hp N12 mdB_law
        replace B := B.call N12 (ag_Q rfl)
        repeat walk_at "x"
        refine is_none_none ?_
        repeat walk_at "x"
        exact q _ _ _ _ _ _ _ B.nx .mark Y12 Z12
      rw [Bool.not_eq_true] at w4
      by_cases w5 : (r == 5) = true
      · repeat walk_at "x"
        have ef : a.frames = a.frames.dropLast ++ [a.frames.getLast hne] := (List.dropLast_concat_getLast hne).symm
        generalize a.frames.dropLast = fs at ef
        generalize a.frames.getLast hne = f at ef
        have Zf := Z.fr
        rw [ef] at Zf
        refine hide fun CCC kkk => ?_
        obtain ⟨n5, vs, p, n6, us, k5, k6, k7, k8⟩ := Zf.last
        refine kkk ?_; clear kkk
        have lfs : fs.length ≤ 40 := by have := P.hfs; rw [ef] at this; simp at this; lia
        have lf : f ∈ a.frames := by rw [ef]; simp
        refine methP B.fm ⟨n5, B.hp.at_ _ _ _ k5⟩ ?_
        dsimp only
        repeat walk_at "x"
        have X1 := B.hp
        refine popK (kd := .lfr) B k5 (by rw [k6]; lia) rfl fun h3 n3 B => ?_
        have Y1 := Y.setB B X1 k5 (by decide)
        have Z1 := Z.frTo X1 (Kp.setB B k5) (Zf.pop (n2 := n3) X1 k5) fun j hj => upd_ne (by rcases hj with rfl | rfl | rfl | rfl <;> nofun)
        have tk1 := Kp.tk (Kp.setB B k5) X1
        refine hide fun CCC kkk => ?_
        obtain ⟨nt, et⟩ := Z1.tys
        refine kkk ?_; clear kkk
        repeat walk_at "x"
        refine ended_spec (f := f) (fi := fs.length) B.fm.ok (R.deeper.le (by decide)) B.hp Z1.rows (Nat.le_trans P.hr (by decide)) (Nat.le_trans (P.hfl f lf) (by decide)) et Z1.hT P.hz (Nat.le_trans P.hT (by decide)) (upk k7) (k8.imp fun _ _ z => z.tk tk1) (P.hl f lf) fun h6 t6 σ6 H6 N6 rw6 => ?_
        have Y6 := Y1.endn B.hp N6
        have Z6 := Z1.endn B.hp N6 rw6
        replace B := B.call N6 (ag_Q rfl)
        refine hide fun CCC kkk => ?_
        obtain ⟨u5, u6, IS9⟩ := Y6.objS B.hp
        refine kkk ?_; clear kkk
        repeat walk_at "x"
        refine pop_spec (Ts := Ts) (N := 2000) (fs := fs) (f := f) B.fm.ok (R.deeper.le (by decide)) B.hp Y6 P.hs P.hh (by decide) ef (P.hfl f lf) lfs Z6.hT (fun T hT => Nat.le_trans (P.hz T hT) (by decide)) (P.hl f lf) fun h7 t7 σ7 H7 N7 Y7 => ?_
        have Z7 := Z6.scn B.hp N7 mdA_law
        replace B := B.call N7 (ag_Q rfl)
        repeat walk_at "x"
        refine is_none_none ?_
        repeat walk_at "x"
        have G := SA.Good.fin (tb := tbOf Ts) (f := f.reverse) (⟨P.hs, P.hh, rfl, ef⟩ : a.Good a.tvs (fs ++ [f]) 2000)
        have e3 : a.pop (tbOf Ts) = { a.fin (tbOf Ts) f with frames := fs } := by unfold SA.pop; rw [ef]; simp
        repeat walk_at "x"
        refine q _ _ _ _ _ _ _ B.nx (.pop fs f ef) Y7 ?_
        have e4 : (a.pop (tbOf Ts)).tvs = a.tvs := by rw [e3]; exact G.tv
        have e5 : (a.pop (tbOf Ts)).frames = fs := by rw [e3]
        rw [e4, e5]; exact Z7
      rw [Bool.not_eq_true] at w5
      by_cases w6 : (r == 6) = true
      · repeat walk_at "x"
        refine hide fun CCC kkk => ?_
        obtain ⟨n6, vs6, k6, k7, k8⟩ := Z.fr
        refine kkk ?_; clear kkk
        have hfs := P.hfs
        refine lenF B.fm ⟨_, B.hp.at_ _ _ _ k6⟩ (by lia) fun tk6 t6 => ?_
        repeat walk_at "x"
        have X6 := B.hp
        refine take_spec B.fm.ok (R.deeper.le (by decide)) B.hp Z.src (by lia) (by lia) fun h7 t7 σ7 H7 r2 tk7 N7 S7 hd0 hd1 => ?_
        replace Y := Y.take X6 N7
        replace Z := Z.take X6 N7 S7
        replace k6 := (N7.ag _ rfl : H7 .lfr = _).trans k6
        replace B := B.call N7 (ag_Q rfl)
        obtain ⟨dep, rfl⟩ : ∃ n : Nat, r2 = (n : Int) := ⟨r2.toNat, by lia⟩
        have hd : dep ≤ a.frames.length := by lia
        repeat walk_at "x"
        rename Bd _ _ _ _ _ _ _ _ _ _ => B
        have sz : vs6.length ≤ 1000000 := by lia
        have sz2 : (vs6.drop dep).length ≤ 1000000 := by rw [List.length_drop]; lia
        refine wpAny_For ?_ (fun _ => rfl)
        repeat walk_at "x"
        have X7 := B.hp
        refine sliceK (ws := vs6.drop dep) (.il 5) B ⟨n6, B.hp.at_ _ _ _ k6⟩ (.int _ _) .none .none (by decide) sz rfl (by rw [slicePick_from _ _ (by simp; lia)]) (fun D1 h2 f1 f2 B => ?_) (by with_unfolding_all rfl)
        have Y7 := Y.addB B f1 nofun
        have Z7 := Z.add3 X7 B f1 rfl
        replace k6 := keepB B k6 nofun
        repeat walk_at "x"
        have X8 := B.hp
        refine sliceK (ws := (vs6.drop dep).reverse) (.il 6) B ⟨0, put_self⟩ .none .none (.int _ _) (by decide) sz2 rfl (by rw [krv_pick]) (fun D h2 f3 f4 B => ?_) (by with_unfolding_all rfl)
        replace Y7 := Y7.addB B f3 nofun
        replace Z7 := Z7.add3 X8 B f3 rfl
        replace k6 := keepB B k6 nofun
        have PP : All2 (fun v x => ∃ j : Nat, vs6[j]? = some v ∧ a.frames[j]? = some x) (vs6.drop dep).reverse (a.frames.drop dep).reverse :=
          ((All2.of_get k7 fun i v x p q => ⟨i, p, q⟩).drop dep).reverse
        refine startList (k := .it 5) B ⟨_, put_self⟩ rfl fun it h9 oi e3 e4 B2 => ?_
        have X9 := B.hp
        have Y9 := Y7.addB B2 e3 nofun
        have Z9 := Z7.add3 X9 B2 e3 rfl
        refine loopG (n := (vs6.drop dep).reverse.length) (Itr.list (D := D) (vs := (vs6.drop dep).reverse) (k := .it 5) R.hnd tgtN)
          (fun i σ' H' m' => ∃ rows', rows' = rows ++ ((a.frames.drop dep).reverse.take i).flatMap (rowsEnd (tbOf Ts) s) ∧ Sc σ' H' c a ∧ LwP σ' H' l rows' a.tvs Ts a.frames ∧ H' (.il 6) = some (D, lisO (vs6.drop dep).reverse 0) ∧ H' .lfr = some (l.fr, lisO vs6 n6) ∧
            m' "rows" = some (.ref l.rows) ∧ m' "types" = some (.ref l.tys) ∧ m' "spot" = some (.int s ts) ∧ m' "scopes" = some (.ref c.S) ∧ m' "depth" = some (.int (dep : Nat) tk7)) B2 ?_ ?_ ⟨oi, upd_self, e4⟩ ?_ ?_ ?_ ?_ ?_
        · intro k hk; rw [of_decide_eq_true hk]; rfl
        · intro k a' o' hk e
          rw [of_decide_eq_true hk, upd_self] at e; cases e
          exact Bd.new B e3
        · exact ⟨rows, by simp, Y9, Z9, upk upd_self, upk (upk (upk k6)), rfl, rfl, rfl, rfl, rfl⟩
        · intro i σ H m σ' H' X X' kp oth zzq10
          refine hide fun CCC kkk => ?_
          obtain ⟨rows', z0, z1, z2, z3, z4, z5⟩ := zzq10
          refine kkk ?_; clear kkk
          exact ⟨rows', z0, z1.mono (kp.tk X) (fun k hk => oth k (decide_eq_false (by rintro rfl; cases hk))), z2.stay X kp (fun j hj => oth j (decide_eq_false (by rintro rfl; exact hj.2 rfl))), (oth _ rfl).trans z3, (oth _ rfl).trans z4, z5⟩
        · rintro i σ H m X ⟨rows', z0, z1, z2, z3, z4, z5⟩; exact ⟨_, X.at_ _ _ _ z3⟩
        · intro i v σ1 H1 h11 m1 t11 QQ fin hi hv zzq11 B
          refine hide fun CCC kkk => ?_
          obtain ⟨rows', z0, z1, z2, z3, z4, z5, z6, z7, z8, z9⟩ := zzq11
          refine kkk ?_; clear kkk
          replace hv : (vs6.drop dep).reverse[i]? = some v := hv
          have pp := PP.getV hv
          refine hide fun CCC kkk => ?_
          obtain ⟨f, hx, pp⟩ := pp
          refine kkk ?_; clear kkk
          refine hide fun CCC kkk => ?_
          obtain ⟨j, j1, j2⟩ := pp
          refine kkk ?_; clear kkk
          have hm : f ∈ a.frames := List.mem_of_getElem? j2
          clear Y9 Z9 B2 Y7 Z7
          have z2f := z2.fr
          refine hide fun CCC kkk => ?_
          obtain ⟨n', vs', w1, w2, w3⟩ := z2f
          refine kkk ?_; clear kkk
          rw [z4] at w1
          have ev : vs' = vs6 := by
            have := congrArg (fun o : Option (Addr × Obj) => o.map (·.2.data)) w1
            exact (by simpa using this.symm : vs' = vs6 ∧ n' = n6).1
          rw [ev] at w3
          clear w1 w2 ev
          have w6 := w3 j v f j1 j2
          refine hide fun CCC kkk => ?_
          obtain ⟨p, n1, us, ep, w4, w5⟩ := w6
          refine kkk ?_; clear kkk
          subst ep
          have lti : i < 41 := by simp at hi; lia
          have rz : rows'.length ≤ 10000 := by
            have hr := P.hr
            rw [z0, List.length_append]
            have h1 : ∀ (fs : List (List (Nat × Bool))), (∀ f ∈ fs, f.length ≤ 40) → (fs.flatMap (rowsEnd (tbOf Ts) s)).length ≤ 80 * fs.length := by
              intro fs
              induction fs with
              | nil => intro _; simp
              | cons f fs ih =>
                intro hf
                rw [List.flatMap_cons, List.length_append, List.length_cons]
                have := ih fun g hg => hf g (.tail _ hg)
                have h2 := @flatMap_len (tbOf Ts) s f.reverse
                have h3 := hf f (.head _)
                rw [List.length_reverse] at h2
                have : (rowsEnd (tbOf Ts) s f).length ≤ 2 * f.length := h2
                lia
            have := h1 ((a.frames.drop dep).reverse.take i) fun f hf => P.hfl f (List.mem_of_mem_drop (List.mem_reverse.mp (List.mem_of_mem_take hf)))
            have l2 : ((a.frames.drop dep).reverse.take i).length ≤ 40 := by rw [List.length_take, List.length_reverse, List.length_drop]; lia
            lia
          have ty := z2.tys
          refine hide fun CCC kkk => ?_
          obtain ⟨nt, et⟩ := ty
          refine kkk ?_; clear kkk
          refine wpAny_assign_Name ?_
          repeat walk_at "x"
          rename Bd _ _ _ _ _ _ _ _ _ _ => B
          refine ended_spec (f := f) (fi := j) B.fm.ok (R.deeper.le (by decide)) B.hp z2.rows rz (Nat.le_trans (P.hfl f hm) (by decide)) et z2.hT P.hz (Nat.le_trans P.hT (by decide)) w4 w5 (P.hl f hm) fun h6 t6 σ6 H6 N6 rw6 => ?_
          have Y6 := z1.endn B.hp N6
          have Z6 := z2.endn B.hp N6 rw6
          replace B := B.call N6 (ag_Q rfl)
          repeat walk_at "x"
          refine fin.nx B ⟨_, ?_, Y6, Z6, (N6.ag _ rfl).trans z3, (N6.ag _ rfl).trans z4, z5, z6, z7, z8, z9⟩ (fun k hk => ?_)
          · rw [List.take_add_one, hx, z0]; simp
          · rw [of_decide_eq_true hk]; exact N6.ag _ rfl
        · intro σ1 H1 h11 m1 t11 zzq5 B
          refine hide fun CCC kkk => ?_
          obtain ⟨rows', z0, z1, z2, z3, z4, z5, z6, z7, z8, z9⟩ := zzq5
          refine kkk ?_; clear kkk
          have IS := z1.objS B.hp
          refine hide fun CCC kkk => ?_
          obtain ⟨u1, u2, IS⟩ := IS
          refine kkk ?_; clear kkk
          repeat walk_at "x"
          refine leave_spec (Ts := Ts) (N := 2000) (dep := dep) B.fm.ok (R.deeper.le (by decide)) B.hp z1 P.hs P.hh (by decide) P.hfl P.hfs hd z2.hT (fun T hT => Nat.le_trans (P.hz T hT) (by decide)) P.hl fun h7 t7 σ7 H7 N7 Y7 => ?_
          have Z7 := z2.scn B.hp N7 mdA_law
          replace B := B.call N7 (ag_Q rfl)
          repeat walk_at "x"
          refine is_none_none ?_
          repeat walk_at "x"
          have G := fins_good (tb := tbOf Ts) (fs := (a.frames.drop dep).reverse) (fun f hf => P.hfl f (List.mem_of_mem_drop (List.mem_reverse.mp hf))) (⟨P.hs, P.hh, rfl, rfl⟩ : a.Good a.tvs a.frames 2000)
          have e4 : (a.leave (tbOf Ts) dep).tvs = a.tvs := G.tv
          have e5 : (a.leave (tbOf Ts) dep).frames = a.frames := G.fr
          rw [PP.length, List.take_length] at z0
          rw [z0] at Z7
          repeat walk_at "x"
          refine q _ _ _ _ _ _ _ B.nx (.leave dep hd) Y7 ?_
          rw [e4, e5]; exact Z7
      rw [Bool.not_eq_true] at w6
      repeat walk_at "x"
      refine new_block_spec B.fm.ok (R.deeper.le (by decide)) B.hp Y (P.hs.le (by decide)) fun h6 t6 σ6 H6 tk6 N6 Y6 => ?_
      have Z6 := Z.scn B.hp N6 mdB_law
      replace B := B.call N6 (ag_Q rfl)
      have IS6 := Y6.objS B.hp
      refine hide fun CCC kkk => ?_
      obtain ⟨u3, u4, IS6⟩ := IS6
      refine kkk ?_; clear kkk
      have hh6 : a.nblock.here < a.nblock.blocks.length := by rw [nblock_blocks]; show a.here < _; lia
      by_cases w7 : (r == 7) = true
      · repeat walk_at "x"
        rename Bd _ _ _ _ _ _ _ _ _ _ => B
        refine go_spec (b := a.blocks.length) B.fm.ok (R.deeper.le (by decide)) B.hp Y6 (P.hs.nblock.le (by decide)) hh6 fun h7 t7 σ7 H7 N7 Y7 => ?_
        have Z7 := Z6.scn B.hp N7 mdB_law
        replace B := B.call N7 (ag_Q rfl)
        have IS7 := Y7.objS B.hp
        refine hide fun CCC kkk => ?_
        obtain ⟨u5, u6, IS7⟩ := IS7
        refine kkk ?_; clear kkk
        repeat walk_at "x"
        have e7 : (((a.nblock.go a.blocks.length).here : Int) == (a.blocks.length : Int)) = true := beq_self_eq_true _
        rw [e7]
        repeat walk_at "x"
        exact q _ _ _ _ _ _ _ B.nx .go Y7 Z7
      · rw [Bool.not_eq_true] at w7
        repeat walk_at "x"
        rename Bd _ _ _ _ _ _ _ _ _ _ => B
        have X6 := B.hp
        refine newTupleB B (by exact Nat.le_of_ble_eq_true rfl) fun kg h7 f1 f2 B => ?_
        replace Y6 := Y6.ownB B f1
        replace Z6 := Z6.stay X6 (Kp.of_le (B.lp f1)) fun _ _ => rfl
        repeat walk_at "x"
        refine end_spec (x := .goto a.blocks.length) B.fm.ok (R.deeper.le (by decide)) B.hp Y6 (P.hs.nblock.le (by decide)) hh6 ⟨kg, _, _, rfl, put_self⟩ fun h8 t8 σ8 H8 N8 Y8 => ?_
        have Z8 := Z6.scn B.hp N8 mdB_law
        replace B := B.call N8 (ag_Q rfl)
        have IS8 := Y8.objS B.hp
        refine hide fun CCC kkk => ?_
        obtain ⟨u5, u6, IS8⟩ := IS8
        refine kkk ?_; clear kkk
        repeat walk_at "x"
        rename Bd _ _ _ _ _ _ _ _ _ _ => B
        have X8 := B.hp
        refine newTupleB B (by exact Nat.le_of_ble_eq_true rfl) fun kh h9 f3 f4 B => ?_
        have Y9 := Y8.ownB B f3
        have Z9 := Z8.stay X8 (Kp.of_le (B.lp f3)) fun _ _ => rfl
        have X9 := B.hp
        repeat walk_at "x"
        refine newTupleB B (by exact Nat.le_of_ble_eq_true rfl) fun ki h10 f5 f6 B => ?_
        have Y10 := Y9.ownB B f5
        have Z10 := Z9.stay X9 (Kp.of_le (B.lp f5)) fun _ _ => rfl
        repeat walk_at "x"
        have hh9 : (a.nblock.fend (.goto a.blocks.length)).here < (a.nblock.fend (.goto a.blocks.length)).blocks.length := by
          show a.nblock.blocks.length < ((a.nblock.close _).blocks ++ [_]).length
          rw [List.length_append, close_blocks]; simp
        have s9 := ((P.hs.nblock).close (.goto a.blocks.length)).nblock
        have hs9 : (a.nblock.fend (.goto a.blocks.length)).Small 2003 := ⟨s9.k, s9.s, s9.p, s9.l, s9.f, s9.i⟩
        refine put_spec (x := .mark (-1)) B.fm.ok (R.deeper.le (by decide)) B.hp Y10 (hs9.le (by decide)) hh9 ⟨ki, _, kh, _, _, _, rfl, put_self, B.lp f5 _ _ put_self⟩ fun h12 t12 σ12 H12 N12 Y12 => ?_
        have Z12 := Z10.scn B.hp N12 mdB_law
        replace B := B.call N12 (ag_Q rfl)
        repeat walk_at "x"
        have X12 := B.hp
        refine saHere2 B Y12 rfl fun h13 t13 σ13 H13 B Y13 kp13 ag13 => ?_
        have Z13 := Z12.stay X12 kp13 fun j hj => ag13 j (by rintro rfl; exact hj.1 rfl)
        repeat walk_at "x"
        have e7 : (((a.nblock.fend (.goto a.blocks.length)).here : Int) != (a.blocks.length : Int)) = true := by
          have : (a.nblock.fend (.goto a.blocks.length)).here = a.blocks.length + 1 := by show a.nblock.blocks.length = _; rw [nblock_blocks]
          rw [this]; simp; lia
        rw [e7]
        repeat walk_at "x"
        exact q _ _ _ _ _ _ _ B.nx .other Y13 Z13
    · have hemp : a.frames = [] := List.isEmpty_iff.mp hfr
      refine eqNil true B.fm (R.deeper.le (by decide)) ⟨nf, B.hp.at_ _ _ _ k1⟩ ⟨_, put_self⟩ (by rw [hemp] at k2; rw [List.eq_nil_of_length_eq_zero k2]; rfl) ?_
      clear k1 k2 k3
      repeat walk_at "x"
      refine hide fun CCC kkk => ?_
      obtain ⟨n0, vs0, k1, k2, k3⟩ := Z.fr
      refine kkk ?_; clear kkk
      refine methA B.fm ⟨n0, B.hp.at_ _ _ _ k1⟩ ?_
      dsimp only
      repeat walk_at "x"
      rename Bd _ _ _ _ _ _ _ _ _ _ => B
      have X1 := B.hp
      refine newListK (.lf a.frames.length) B (by decide) rfl fun p h3 e1 e2 B => ?_
      have Y1 := Y.addB B e1 nofun
      have Z1 := Z.frTo X1 (Kp.add e1) (Z.fr.new (o := lisO [] 0) e1) fun j hj => upd_ne (by rcases hj with rfl | rfl | rfl | rfl <;> nofun)
      have X2 := B.hp
      repeat walk_at "x"
      have k1' := keepB B k1 nofun
      have hfs := P.hfs
      refine appendK (kd := .lfr) B k1' (by lia) rfl fun h4 n4 B => ?_
      have Y2 := Y1.setB B X2 k1' (by decide)
      have Z2 := Z1.frTo X2 (Kp.setB B k1') (Z1.fr.push (n2 := n4) X2 k1' ⟨p, 0, [], rfl, upd_self, .nil⟩) fun j hj => upd_ne (by rcases hj with rfl | rfl | rfl | rfl <;> nofun)
      refine hide fun CCC kkk => ?_
      obtain ⟨u1, u2, IS⟩ := Y2.objS B.hp
      refine kkk ?_; clear kkk
      repeat walk_at "x"
      rename Bd _ _ _ _ _ _ _ _ _ _ => B
      refine push_spec B.fm.ok (R.deeper.le (by decide)) B.hp Y2 (P.hs.le (by decide)) fun h5 t5 σ5 H5 tk5 N5 Y5 => ?_
      have Z5 := Z2.scn B.hp N5 mdS_law
      replace B := B.call N5 (ag_Q rfl)
      repeat walk_at "x"
      refine hide fun CCC kkk => ?_
      obtain ⟨n6, vs6, k6, k7, k8⟩ := Z5.fr
      refine kkk ?_; clear kkk
      refine lenF B.fm ⟨_, B.hp.at_ _ _ _ k6⟩ (by rw [k7]; simp; lia) fun tk6 t6 => ?_
      repeat walk_at "x"
      rename Bd _ _ _ _ _ _ _ _ _ _ => B
      have e7 : (((a.frames.length : Nat) : Int) == ((vs6.length : Nat) : Int) - 1) = true := by rw [k7]; simp
      rw [e7]
      repeat walk_at "x"
      exact q _ _ _ _ _ _ _ B.nx .push Y5 Z5
end
/-! the plain law: along the way stand the law's rows -/
noncomputable def SA.blk (a : SA) (b : Nat) : List St × Tm := (a.blocks[b]?).getD ([], .none)
structure Inv (a : SA) (pre : List Nat) (rows : List Rw) : Prop where
  head : (pre ++ [a.here])[0]? = some 0
  inc : ∀ (i b b' : Nat), (pre ++ [a.here])[i]? = some b → (pre ++ [a.here])[i + 1]? = some b' → b < b'
  below : ∀ b ∈ pre, b < a.here
  step : ∀ (i b b' : Nat), (pre ++ [a.here])[i]? = some b → (pre ++ [a.here])[i + 1]? = some b' → ∃ x, a.blocks[b]? = some x ∧ (x.2 = .goto b' ∨ ∃ l, x.2 = .drop l b')
  open_ : ∃ ss, a.blocks[a.here]? = some (ss, .none)
  rows : rows = (pre ++ [a.here]).flatMap fun b => blkRows (a.sp b) (a.blk b)
  marks : ∀ b ∈ pre ++ [a.here], ∀ i s, (a.blk b).1[i]? = some (.mark s) → a.sp b i = some s
theorem Inv.lt {a : SA} {pre : List Nat} {rows : List Rw} (I : Inv a pre rows) : a.here < a.blocks.length := by
  obtain ⟨ss, e⟩ := I.open_; exact (List.getElem?_eq_some_iff.mp e).1
theorem Inv.same {a a' : SA} {pre : List Nat} {rows : List Rw} (I : Inv a pre rows) (h1 : a'.here = a.here) (h2 : a'.blocks = a.blocks) (h3 : a'.sp = a.sp) : Inv a' pre rows := by
  have hb : ∀ b, a'.blk b = a.blk b := fun b => by unfold SA.blk; rw [h2]
  refine ⟨?_, ?_, ?_, ?_, ?_, ?_, ?_⟩
  · rw [h1]; exact I.head
  · rw [h1]; exact I.inc
  · rw [h1]; exact I.below
  · rw [h1, h2]; exact I.step
  · rw [h1, h2]; exact I.open_
  · rw [h1, h3]; simp only [hb]; exact I.rows
  · rw [h1, h3]; simp only [hb]; exact I.marks
theorem fm_congr {α β : Type} {f g : α → List β} : ∀ {xs : List α}, (∀ x ∈ xs, f x = g x) → xs.flatMap f = xs.flatMap g
  | [], _ => rfl
  | x :: xs, h => by rw [List.flatMap_cons, List.flatMap_cons, h x (.head _), fm_congr fun y hy => h y (.tail _ hy)]
theorem blkRows_congr {sp sp' : Nat → Option Int} {x : List St × Tm} (h : ∀ i, i ≤ x.1.length → sp' i = sp i) : blkRows sp' x = blkRows sp x := by
  unfold blkRows
  congr 1
  · apply List.ext_getElem?
    intro i
    rw [List.getElem?_mapIdx, List.getElem?_mapIdx]
    cases e : x.1[i]? with
    | none => rfl
    | some s => have := (List.getElem?_eq_some_iff.mp e).1; rw [Option.map_some, Option.map_some, h i (by lia)]
  · rw [h _ (Nat.le_refl _)]
theorem Inv.put {a : SA} {pre : List Nat} {rows : List Rw} {s : St} (I : Inv a pre rows) (hm : ∀ z, s = .mark z → z = a.spot) : Inv (a.put s) pre (rows ++ [stRow (some a.spot) s]) := by
  refine hide fun CCC kkk => ?_
  obtain ⟨ss, e⟩ := I.open_
  refine kkk ?_; clear kkk
  have hsts : a.sts a.here = ss := by unfold SA.sts; rw [e]; rfl
  have hh : (a.put s).here = a.here := rfl
  have hsp : ∀ b, b ≠ a.here → (a.put s).sp b = a.sp b := fun b hb => by
    funext j; show (if b = a.here ∧ j = _ then _ else _) = _; rw [if_neg (fun z => hb z.1)]
  have hsp2 : ∀ j, (a.put s).sp a.here j = if j = ss.length then some a.spot else a.sp a.here j := fun j => by
    show (if a.here = a.here ∧ j = (a.sts a.here).length then _ else _) = _; rw [hsts]; simp
  have hbl : ∀ b, b ≠ a.here → (a.put s).blocks[b]? = a.blocks[b]? := fun b hb => by
    show (a.blocks.modify a.here _)[b]? = _; rw [List.getElem?_modify]; cases a.blocks[b]? <;> simp [Ne.symm hb]
  have hbl2 : (a.put s).blocks[a.here]? = some (ss ++ [s], .none) := by
    show (a.blocks.modify a.here _)[a.here]? = _; rw [List.getElem?_modify, e]; simp
  have hk : ∀ b, b ≠ a.here → (a.put s).blk b = a.blk b := fun b hb => by unfold SA.blk; rw [hbl b hb]
  have hk2 : (a.put s).blk a.here = (ss ++ [s], .none) := by unfold SA.blk; rw [hbl2]; rfl
  have hk3 : a.blk a.here = (ss, .none) := by unfold SA.blk; rw [e]; rfl
  refine ⟨I.head, I.inc, I.below, fun i b b' h1 h2 => ?_, ⟨_, hbl2⟩, ?_, ?_⟩
  · refine hide fun CCC kkk => ?_
    obtain ⟨x, e1, e2⟩ := I.step i b b' h1 h2
    refine kkk ?_; clear kkk
    have ne : b ≠ a.here := by rintro rfl; rw [e] at e1; cases e1; rcases e2 with e2 | ⟨l, e2⟩ <;> cases e2
    exact ⟨x, (hbl b ne).trans e1, e2⟩
  · rw [I.rows, hh]
    simp only [List.flatMap_append, List.flatMap_cons, List.flatMap_nil, List.append_nil, hk2, hk3, List.append_assoc]
    congr 1
    · exact (fm_congr fun b hb => by have := I.below b hb; rw [hk b (by lia), hsp b (by lia)]).symm
    · unfold blkRows
      simp only [tmRow, List.append_nil]
      rw [List.mapIdx_append]
      congr 1
      · apply List.ext_getElem?
        intro i
        rw [List.getElem?_mapIdx, List.getElem?_mapIdx]
        cases q : ss[i]? with
        | none => rfl
        | some z => have := (List.getElem?_eq_some_iff.mp q).1; rw [Option.map_some, Option.map_some, hsp2 i, if_neg (by lia)]
      · simp [hsp2]
  · intro b hb i z hz
    by_cases ne : b = a.here
    · subst ne
      rw [hk2] at hz
      rw [hsp2]
      rcases snoc_get hz with ⟨q, hz⟩ | ⟨q, hz⟩
      · rw [if_neg (by lia)]; exact I.marks _ hb i z (by rw [hk3]; exact hz)
      · rw [if_pos q, hm z hz.symm]
    · rw [hk b ne] at hz; rw [hsp b ne]; exact I.marks b hb i z hz
theorem Inv.move {a a' : SA} {pre : List Nat} {rows : List Rw} {n : Nat} {t : Tm} (I : Inv a pre rows) (hn : a.here < n) (ht : t = .goto n ∨ ∃ l, t = .drop l n)
    (h1 : ∀ b, b < a.here → a'.blocks[b]? = a.blocks[b]? ∧ a'.sp b = a.sp b) (h2 : a'.blocks[a.here]? = some ((a.blk a.here).1, t))
    (h3 : ∀ j, a'.sp a.here j = if j = (a.blk a.here).1.length then some a.spot else a.sp a.here j) (h4 : a'.here = n) (h5 : a'.blocks[n]? = some ([], .none)) :
    Inv a' (pre ++ [a.here]) (rows ++ tmRow (some a.spot) t) := by
  refine hide fun CCC kkk => ?_
  obtain ⟨ss, e⟩ := I.open_
  refine kkk ?_; clear kkk
  have hk3 : a.blk a.here = (ss, .none) := by unfold SA.blk; rw [e]; rfl
  rw [hk3] at h2 h3
  replace h3 : ∀ j, a'.sp a.here j = if j = ss.length then some a.spot else a.sp a.here j := h3
  have hk : ∀ b, b < a.here → a'.blk b = a.blk b := fun b hb => by unfold SA.blk; rw [(h1 b hb).1]
  have hk2 : a'.blk a.here = (ss, t) := by unfold SA.blk; rw [h2]; rfl
  have hk4 : a'.blk n = ([], .none) := by unfold SA.blk; rw [h5]; rfl
  have inc : ∀ (i b b' : Nat), (pre ++ [a.here] ++ [n])[i]? = some b → (pre ++ [a.here] ++ [n])[i + 1]? = some b' → (b < b' ∧ ∃ x, a'.blocks[b]? = some x ∧ (x.2 = .goto b' ∨ ∃ l, x.2 = .drop l b')) := fun i b b' e1 e2 => by
    rcases snoc_get e2 with ⟨q, e2⟩ | ⟨q, rfl⟩
    · rcases snoc_get e1 with ⟨_, e1⟩ | ⟨q', _⟩
      · have lt := I.inc i b b' e1 e2
        refine ⟨lt, ?_⟩
        refine hide fun CCC kkk => ?_
        obtain ⟨x, e3, e4⟩ := I.step i b b' e1 e2
        refine kkk ?_; clear kkk
        have : b' ≤ a.here := by
          rcases List.mem_append.mp (List.mem_of_getElem? e2) with hb | hb
          · exact Nat.le_of_lt (I.below b' hb)
          · rw [List.mem_singleton.mp hb]; exact Nat.le_refl _
        exact ⟨x, (h1 b (by lia)).1.trans e3, e4⟩
      · lia
    · rcases snoc_get e1 with ⟨q', e1⟩ | ⟨q', _⟩
      · have : b = a.here := by
          rcases snoc_get e1 with ⟨q2, _⟩ | ⟨_, e5⟩
          · rw [List.length_append] at q; simp at q; lia
          · exact e5
        rw [this]; exact ⟨hn, _, h2, ht⟩
      · lia
  refine ⟨?_, fun i b b' e1 e2 => ?_, fun b hb => ?_, fun i b b' e1 e2 => ?_, ?_, ?_, ?_⟩
  · rw [List.getElem?_append_left (by simp)]; exact I.head
  · rw [h4] at e1 e2; exact (inc i b b' e1 e2).1
  · rw [h4]
    rcases List.mem_append.mp hb with hb | hb
    · exact Nat.lt_trans (I.below b hb) hn
    · rw [List.mem_singleton.mp hb]; exact hn
  · rw [h4] at e1 e2; exact (inc i b b' e1 e2).2
  · rw [h4]; exact ⟨_, h5⟩
  · rw [I.rows, h4]
    simp only [List.flatMap_append, List.flatMap_cons, List.flatMap_nil, List.append_nil, hk2, hk3, hk4, List.append_assoc]
    congr 1
    · exact (fm_congr fun b hb => by rw [hk b (I.below b hb), (h1 b (I.below b hb)).2]).symm
    · have e0 : blkRows (a'.sp n) ([], .none) = [] := rfl
      rw [e0, List.append_nil]
      unfold blkRows
      simp only [tmRow, List.append_nil]
      have e1 : a'.sp a.here ss.length = some a.spot := by rw [h3]; simp
      have e2 : ss.mapIdx (fun i s => stRow (a'.sp a.here i) s) = ss.mapIdx fun i s => stRow (a.sp a.here i) s := by
        apply List.ext_getElem?
        intro i
        rw [List.getElem?_mapIdx, List.getElem?_mapIdx]
        cases q : ss[i]? with
        | none => rfl
        | some z => have := (List.getElem?_eq_some_iff.mp q).1; rw [Option.map_some, Option.map_some, h3 i, if_neg (by lia)]
      rw [e1, e2]
  · intro b hb i z hz
    rcases List.mem_append.mp hb with hb | hb
    · rcases List.mem_append.mp hb with hb' | hb'
      · have lt := I.below b hb'
        rw [hk b lt] at hz; rw [(h1 b lt).2]; exact I.marks b hb i z hz
      · have := List.mem_singleton.mp hb'
        subst this
        rw [hk2] at hz
        replace hz : ss[i]? = some (.mark z) := hz
        have li := (List.getElem?_eq_some_iff.mp hz).1
        rw [h3, if_neg (by lia)]
        exact I.marks _ hb i z (by rw [hk3]; exact hz)
    · rw [h4] at hb
      rw [List.mem_singleton.mp hb, hk4] at hz
      simp at hz
theorem Inv.blk_here {a : SA} {pre : List Nat} {rows : List Rw} (I : Inv a pre rows) : a.blocks[a.here]? = some ((a.blk a.here).1, .none) := by
  refine hide fun CCC kkk => ?_
  obtain ⟨ss, e⟩ := I.open_
  refine kkk ?_; clear kkk
  unfold SA.blk; rw [e]; rfl
theorem Inv.to {a : SA} {pre : List Nat} {rows : List Rw} {t : Tm} (I : Inv a pre rows) (ht : t = .goto a.blocks.length ∨ ∃ l, t = .drop l a.blocks.length) :
    Inv { a.nblock.close t with here := a.blocks.length } (pre ++ [a.here]) (rows ++ tmRow (some a.spot) t) := by
  have lt := I.lt
  have e := I.blk_here
  have es : a.nblock.sts a.here = (a.blk a.here).1 := by
    unfold SA.sts; show ((a.blocks ++ [([], Tm.none)])[a.here]?.map _).getD [] = _
    rw [List.getElem?_append_left lt, e]; rfl
  refine I.move (n := a.blocks.length) lt ht (fun b hb => ⟨?_, ?_⟩) ?_ (fun j => ?_) rfl ?_
  · show ((a.blocks ++ [([], Tm.none)]).modify a.here _)[b]? = _
    rw [List.getElem?_modify, List.getElem?_append_left (by lia)]
    cases a.blocks[b]? <;> simp [Nat.ne_of_gt hb]
  · funext j; show (if b = a.here ∧ j = _ then _ else _) = _; rw [if_neg (by lia)]; rfl
  · show ((a.blocks ++ [([], Tm.none)]).modify a.here _)[a.here]? = _
    rw [List.getElem?_modify, List.getElem?_append_left lt, e]; simp
  · show (if a.here = a.here ∧ j = (a.nblock.sts a.here).length then some a.spot else a.sp a.here j) = _
    rw [es]; simp
  · show ((a.blocks ++ [([], Tm.none)]).modify a.here _)[a.blocks.length]? = _
    rw [List.getElem?_modify, List.getElem?_append_right (Nat.le_refl _)]; simp [Nat.ne_of_lt lt]
theorem Inv.drop {a : SA} {pre : List Nat} {rows : List Rw} {l : Nat} (I : Inv a pre rows) : Inv (a.drop l) (pre ++ [a.here]) (rows ++ [.drop l a.spot]) := I.to (.inr ⟨l, rfl⟩)
theorem Inv.fin1 {tb : Nat → Bool} {a : SA} {pre : List Nat} {rows : List Rw} {x : Nat × Bool} (I : Inv a pre rows) : (∃ pre', Inv (a.fin1 tb x) pre' (rows ++ rowsEnd1 tb a.spot x)) ∧ (a.fin1 tb x).spot = a.spot := by
  have key : ∀ (b : SA) (p : List Nat) (r : List Rw), Inv b p r → b.spot = a.spot → (∃ pre', Inv (if x.2 = true then b.put (.dead x.1) else b) pre' (r ++ if x.2 = true then [.dead x.1 a.spot] else [])) ∧ (if x.2 = true then b.put (.dead x.1) else b).spot = a.spot := by
    intro b p r J es
    cases x.2 with
    | false => simp only [Bool.false_eq_true, if_false, List.append_nil]; exact ⟨⟨p, J⟩, es⟩
    | true =>
      simp only [if_true]
      have := J.put (s := .dead x.1) (fun z hz => by cases hz)
      rw [es] at this
      exact ⟨⟨p, this⟩, es⟩
  unfold SA.fin1 rowsEnd1
  cases tb x.1 with
  | false => simp only [Bool.false_eq_true, if_false, List.nil_append]; exact key a pre rows I rfl
  | true =>
    simp only [if_true]
    have := key (a.drop x.1) _ _ (I.drop (l := x.1)) rfl
    rw [List.append_assoc] at this
    exact this
theorem Inv.fin {tb : Nat → Bool} : ∀ {f : List (Nat × Bool)} {a : SA} {pre : List Nat} {rows : List Rw}, Inv a pre rows → (∃ pre', Inv (f.foldl (SA.fin1 tb) a) pre' (rows ++ f.flatMap (rowsEnd1 tb a.spot))) ∧ (f.foldl (SA.fin1 tb) a).spot = a.spot
  | [], a, pre, rows, I => by simp; exact ⟨pre, I⟩
  | x :: f, a, pre, rows, I => by
    refine hide fun CCC kkk => ?_
    obtain ⟨⟨p, I1⟩, e1⟩ := I.fin1 (tb := tb) (x := x)
    refine kkk ?_; clear kkk
    refine hide fun CCC kkk => ?_
    obtain ⟨⟨p2, I2⟩, e2⟩ := Inv.fin (tb := tb) (f := f) I1
    refine kkk ?_; clear kkk
    rw [e1] at I2
    rw [List.append_assoc] at I2
    refine ⟨⟨p2, ?_⟩, e2.trans e1⟩
    rw [List.flatMap_cons]
    exact I2
theorem Inv.finF {tb : Nat → Bool} {f : List (Nat × Bool)} {a : SA} {pre : List Nat} {rows : List Rw} (I : Inv a pre rows) : (∃ pre', Inv (a.fin tb f) pre' (rows ++ rowsEnd tb a.spot f)) ∧ (a.fin tb f).spot = a.spot := Inv.fin (f := f.reverse) I
theorem Inv.fins {tb : Nat → Bool} : ∀ {fs : List (List (Nat × Bool))} {a : SA} {pre : List Nat} {rows : List Rw}, Inv a pre rows → (∃ pre', Inv (fs.foldl (SA.fin tb) a) pre' (rows ++ fs.flatMap (rowsEnd tb a.spot))) ∧ (fs.foldl (SA.fin tb) a).spot = a.spot
  | [], a, pre, rows, I => by simp; exact ⟨pre, I⟩
  | x :: f, a, pre, rows, I => by
    refine hide fun CCC kkk => ?_
    obtain ⟨⟨p, I1⟩, e1⟩ := I.finF (tb := tb) (f := x)
    refine kkk ?_; clear kkk
    refine hide fun CCC kkk => ?_
    obtain ⟨⟨p2, I2⟩, e2⟩ := Inv.fins (tb := tb) (fs := f) I1
    refine kkk ?_; clear kkk
    rw [e1] at I2
    rw [List.append_assoc] at I2
    refine ⟨⟨p2, ?_⟩, e2.trans e1⟩
    rw [List.flatMap_cons]
    exact I2
theorem Deed.inv {s : Int} {a a' : SA} {rows rows' : List Rw} {Ts Ts' : List Ty} {pre : List Nat} (D : Deed s a rows Ts a' rows' Ts') (hs : a.spot = s) (I : Inv a pre rows) : ∃ pre', Inv a' pre' rows' := by
  subst hs
  cases D with
  | push => exact ⟨pre, I.same rfl rfl rfl⟩
  | decl v T _ _ =>
    have I1 : Inv (a.nlocal v) pre rows := I.same rfl rfl rfl
    exact ⟨pre, (I1.put (s := .live a.tvs.length) (fun z hz => by cases hz)).same rfl rfl rfl⟩
  | mark => exact ⟨pre, I.put (s := .mark a.spot) (fun z hz => by cases hz; rfl)⟩
  | pop fs f e =>
    refine hide fun CCC kkk => ?_
    obtain ⟨⟨p, I1⟩, _⟩ := I.finF (tb := tbOf Ts) (f := f)
    refine kkk ?_; clear kkk
    refine ⟨p, I1.same ?_ ?_ ?_⟩ <;> (unfold SA.pop; rw [e]; simp)
  | leave dep _ =>
    refine hide fun CCC kkk => ?_
    obtain ⟨⟨p, I1⟩, _⟩ := I.fins (tb := tbOf Ts) (fs := (a.frames.drop dep).reverse)
    refine kkk ?_; clear kkk
    exact ⟨p, I1⟩
  | go =>
    have := I.to (.inl rfl)
    rw [show tmRow (some a.spot) (.goto a.blocks.length) = [] from rfl, List.append_nil] at this
    exact ⟨_, this⟩
  | other =>
    refine ⟨pre ++ [a.here], ?_⟩
    have lt := I.lt
    have e := I.blk_here
    have es : a.nblock.sts a.here = (a.blk a.here).1 := by
      unfold SA.sts; show ((a.blocks ++ [([], Tm.none)])[a.here]?.map _).getD [] = _
      rw [List.getElem?_append_left lt, e]; rfl
    have en : a.nblock.blocks.length = a.blocks.length + 1 := nblock_blocks
    have hbk : ∀ b, b ≠ a.blocks.length + 1 → ({ ((a.nblock.fend (.goto a.blocks.length)).put (.mark (-1))) with here := a.blocks.length } : SA).blocks[b]? = (((a.blocks ++ [([], Tm.none)]).modify a.here fun z => (z.1, .goto a.blocks.length)) ++ [([], Tm.none)])[b]? := by
      intro b hb
      show ((((a.blocks ++ [([], Tm.none)]).modify a.here fun z => (z.1, .goto a.blocks.length)) ++ [([], Tm.none)]).modify a.nblock.blocks.length _)[b]? = _
      rw [List.getElem?_modify, en]
      cases (((a.blocks ++ [([], Tm.none)]).modify a.here fun z => (z.1, Tm.goto a.blocks.length)) ++ [([], Tm.none)])[b]? <;> simp [Ne.symm hb]
    have hl : ((a.blocks ++ [([], Tm.none)]).modify a.here fun z => (z.1, Tm.goto a.blocks.length)).length = a.blocks.length + 1 := by rw [List.length_modify, List.length_append]; rfl
    have hsp : ∀ b j, b ≠ a.blocks.length + 1 → ({ ((a.nblock.fend (.goto a.blocks.length)).put (.mark (-1))) with here := a.blocks.length } : SA).sp b j = if b = a.here ∧ j = (a.blk a.here).1.length then some a.spot else a.sp b j := by
      intro b j hb
      show (if b = a.nblock.blocks.length ∧ j = _ then _ else if b = a.here ∧ j = (a.nblock.sts a.here).length then some a.spot else a.sp b j) = _
      rw [if_neg (fun z => hb (z.1.trans en)), es]
    have := I.move (a' := { ((a.nblock.fend (.goto a.blocks.length)).put (.mark (-1))) with here := a.blocks.length }) (n := a.blocks.length) (t := .goto a.blocks.length) lt (.inl rfl) (fun b hb => ⟨?_, ?_⟩) ?_ (fun j => ?_) rfl ?_
    · rw [show tmRow (some a.spot) (.goto a.blocks.length) = [] from rfl, List.append_nil] at this
      exact this
    · rw [hbk b (by lia), List.getElem?_append_left (by rw [hl]; lia), List.getElem?_modify, List.getElem?_append_left (by lia)]
      cases a.blocks[b]? <;> simp [Nat.ne_of_gt hb]
    · funext j; rw [hsp b j (by lia), if_neg (by lia)]
    · rw [hbk _ (by lia), List.getElem?_append_left (by rw [hl]; lia), List.getElem?_modify, List.getElem?_append_left lt, e]; simp
    · rw [hsp _ j (by lia)]; simp
    · rw [hbk _ (by lia), List.getElem?_append_left (by rw [hl]; lia), List.getElem?_modify, List.getElem?_append_right (Nat.le_refl _)]; simp [Nat.ne_of_lt lt]
theorem wayRows_range {sp : Nat → Nat → Option Int} {f : Nat → List St × Tm} : ∀ n, wayRows sp 0 ((List.range n).map f) = (List.range n).flatMap fun j => blkRows (sp j) (f j)
  | 0 => rfl
  | n + 1 => by
    rw [List.range_succ, List.map_append, List.flatMap_append, List.map_cons, List.map_nil, wayRows_snoc, wayRows_range n, List.length_map, List.length_range, Nat.zero_add]
    simp
theorem flatMap_range {α β : Type} {g : α → List β} : ∀ (xs : List α), xs.flatMap g = (List.range xs.length).flatMap fun j => match xs[j]? with | some b => g b | none => []
  | [] => rfl
  | x :: xs => by
    rw [List.flatMap_cons, List.length_cons, List.range_succ_eq_map, List.flatMap_cons, List.flatMap_map, flatMap_range xs]
    rfl
theorem inc_ge {path : List Nat} (h : ∀ (i b b' : Nat), path[i]? = some b → path[i + 1]? = some b' → b < b') : ∀ (i b : Nat), path[i]? = some b → i ≤ b
  | 0, _, _ => Nat.zero_le _
  | i + 1, b, e => by
    have lt : i < path.length := by have := (List.getElem?_eq_some_iff.mp e).1; lia
    have e1 : path[i]? = some path[i] := List.getElem?_eq_getElem lt
    have := inc_ge h i _ e1
    have := h i _ _ e1 e
    lia
section
variable {a : SA} {pre : List Nat} {rows : List Rw}
theorem close_ne (b : Nat) (hb : b ≠ a.here) : (a.close .ret).blocks[b]? = a.blocks[b]? := by
  show (a.blocks.modify a.here _)[b]? = _; rw [List.getElem?_modify]; cases a.blocks[b]? <;> simp [Ne.symm hb]
theorem Inv.close_here (I : Inv a pre rows) : (a.close .ret).blocks[a.here]? = some ((a.blk a.here).1, .ret) := by
  show (a.blocks.modify a.here _)[a.here]? = _; rw [List.getElem?_modify, I.blk_here]; simp
theorem Inv.close_sp (I : Inv a pre rows) (b j : Nat) : (a.close .ret).sp b j = if b = a.here ∧ j = (a.blk a.here).1.length then some a.spot else a.sp b j := by
  have : (a.sts a.here) = (a.blk a.here).1 := by unfold SA.sts; rw [I.blk_here]; rfl
  show (if b = a.here ∧ j = (a.sts a.here).length then _ else _) = _
  rw [this]
theorem Inv.lastIs (_ : Inv a pre rows) {i b : Nat} (e : (pre ++ [a.here])[i]? = some b) (n : (pre ++ [a.here])[i + 1]? = none) : b = a.here := by
  have l : (pre ++ [a.here]).length ≤ i + 1 := by simpa using n
  rcases snoc_get e with ⟨q, _⟩ | ⟨_, q⟩
  · rw [List.length_append] at l; simp at l; lia
  · exact q
theorem Inv.notLast (I : Inv a pre rows) {i b b' : Nat} (e : (pre ++ [a.here])[i]? = some b) (n : (pre ++ [a.here])[i + 1]? = some b') : b < a.here := by
  have lt := I.inc i b b' e n
  rcases List.mem_append.mp (List.mem_of_getElem? n) with h | h
  · exact Nat.lt_trans lt (I.below _ h)
  · rw [List.mem_singleton.mp h] at lt; exact lt
theorem Inv.chain (I : Inv a pre rows) : Chain (a.close .ret).blocks (pre ++ [a.here]) := by
  refine ⟨I.head, fun i b e => ?_, I.inc⟩
  cases n : (pre ++ [a.here])[i + 1]? with
  | none =>
    have := I.lastIs e n; subst this
    exact ⟨_, I.close_here, nofun, rfl⟩
  | some b' =>
    have lt := I.notLast e n
    refine hide fun CCC kkk => ?_
    obtain ⟨x, e1, e2⟩ := I.step i b b' e n
    refine kkk ?_; clear kkk
    refine ⟨x, (close_ne b (by lia)).trans e1, ?_, ?_⟩
    · rcases e2 with e2 | ⟨l, e2⟩ <;> (rw [e2]; nofun)
    · rcases e2 with e2 | ⟨l, e2⟩ <;> (rw [e2]; rfl)
theorem Inv.len (I : Inv a pre rows) : (pre ++ [a.here]).length ≤ a.blocks.length := by
  have e : (pre ++ [a.here])[pre.length]? = some a.here := by simp
  have := inc_ge I.inc _ _ e
  have := I.lt
  rw [List.length_append]; simp; lia
theorem Inv.rows2 (I : Inv a pre rows) : ((pre ++ [a.here]).flatMap fun b => blkRows ((a.close .ret).sp b) ((a.close .ret).blk b)) = rows := by
  rw [I.rows, List.flatMap_append, List.flatMap_append]
  congr 1
  · refine fm_congr fun b hb => ?_
    have lt := I.below b hb
    have e1 : (a.close .ret).blk b = a.blk b := by unfold SA.blk; rw [close_ne b (by lia)]
    have e2 : (a.close .ret).sp b = a.sp b := by funext j; rw [I.close_sp, if_neg (by lia)]
    rw [e1, e2]
  · rw [List.flatMap_cons, List.flatMap_cons]
    congr 1
    have e1 : (a.close .ret).blk a.here = ((a.blk a.here).1, .ret) := by unfold SA.blk; rw [I.close_here]; rfl
    have e3 : a.blk a.here = ((a.blk a.here).1, .none) := by
      have := I.blk_here
      unfold SA.blk at *; rw [this]; rfl
    rw [e1]
    conv => rhs; rw [e3]
    unfold blkRows
    simp only [tmRow, List.append_nil]
    apply List.ext_getElem?
    intro i
    rw [List.getElem?_mapIdx, List.getElem?_mapIdx]
    cases q : (a.blk a.here).1[i]? with
    | none => rfl
    | some z => have := (List.getElem?_eq_some_iff.mp q).1; rw [Option.map_some, Option.map_some, I.close_sp, if_neg (by lia)]
end
theorem tmRow_map {q : Option Int} {f : Nat → Nat} {t : Tm} : tmRow q (t.map f) = tmRow q t := by cases t <;> rfl
section
variable {a : SA} {path : List Nat}
theorem nblk_some {j b : Nat} {x : List St × Tm} (e : path[j]? = some b) (e1 : a.blocks[b]? = some x) : nblk a path j = (x.1, x.2.map fun _ => j + 1) := by
  unfold nblk; rw [e, Option.bind_some, e1]
theorem nsp_at {j b y : Nat} {x : List St × Tm} (e : path[j]? = some b) (e1 : a.blocks[b]? = some x) (hy : y ≤ x.1.length) : nsp a path path.length 0 j y = a.sp b y := by
  have lt := (List.getElem?_eq_some_iff.mp e).1
  have es : (a.sts b).length = x.1.length := by unfold SA.sts; rw [e1]; rfl
  unfold nsp; rw [if_pos (.inl lt)]
  unfold full; rw [e, Option.bind_some, if_pos (by lia)]
theorem way_eq (C : Chain a.blocks path) : wayRows (nsp a path path.length 0) 0 ((List.range path.length).map (nblk a path)) = path.flatMap fun b => blkRows (a.sp b) (a.blk b) := by
  rw [wayRows_range, flatMap_range path]
  refine fm_congr fun j hj => ?_
  have lt := List.mem_range.mp hj
  have e : path[j]? = some path[j] := List.getElem?_eq_getElem lt
  refine hide fun CCC kkk => ?_
  obtain ⟨x, e1, _⟩ := C.step j _ e
  refine kkk ?_; clear kkk
  have e2 : a.blk path[j] = x := by unfold SA.blk; rw [e1]; rfl
  rw [e]
  show _ = blkRows (a.sp path[j]) (a.blk path[j])
  rw [e2, nblk_some e e1]
  have e3 : ∀ i, i ≤ x.1.length → nsp a path path.length 0 j i = a.sp path[j] i := fun i hi => nsp_at e e1 hi
  rw [blkRows_congr (sp := a.sp path[j]) (x := (x.1, x.2.map fun _ => j + 1)) e3]
  unfold blkRows
  show _ ++ tmRow _ (x.2.map _) = _
  rw [tmRow_map]
end
theorem Inv.wayOk {a : SA} {pre : List Nat} {rows : List Rw} (I : Inv a pre rows) (hs : a.Small 1999) (hr : rows.length ≤ 100000) :
    WayOk ((List.range (pre ++ [a.here]).length).map (nblk (a.close .ret) (pre ++ [a.here]))) (nsp (a.close .ret) (pre ++ [a.here]) (pre ++ [a.here]).length 0) ∧
    wayRows (nsp (a.close .ret) (pre ++ [a.here]) (pre ++ [a.here]).length 0) 0 ((List.range (pre ++ [a.here]).length).map (nblk (a.close .ret) (pre ++ [a.here]))) = rows := by
  have C := I.chain
  have e0 := (way_eq C).trans I.rows2
  have hs2 : (a.close .ret).Small 2000 := hs.close _
  have hlen := I.len
  have nth : ∀ (j : Nat) x, ((List.range (pre ++ [a.here]).length).map (nblk (a.close .ret) (pre ++ [a.here])))[j]? = some x → ∃ b y, (pre ++ [a.here])[j]? = some b ∧ (a.close .ret).blocks[b]? = some y ∧ x = (y.1, y.2.map fun _ => j + 1) := fun j x e => by
    rw [List.getElem?_map] at e
    cases q : (List.range (pre ++ [a.here]).length)[j]? with
    | none => rw [q] at e; cases e
    | some i =>
      rw [q] at e
      have li := List.getElem?_eq_some_iff.mp q
      refine hide fun CCC kkk => ?_
      obtain ⟨l1, l2⟩ := li
      refine kkk ?_; clear kkk
      rw [List.length_range] at l1
      rw [List.getElem_range] at l2
      subst l2
      have e2 : (pre ++ [a.here])[j]? = some (pre ++ [a.here])[j] := List.getElem?_eq_getElem l1
      refine hide fun CCC kkk => ?_
      obtain ⟨y, e3, _⟩ := C.step j _ e2
      refine kkk ?_; clear kkk
      refine ⟨_, y, e2, e3, ?_⟩
      rw [← nblk_some e2 e3]
      exact (Option.some.inj e).symm
  refine ⟨⟨?_, fun j x e => ?_, fun j x i s e hx => ?_, ?_, fun j x e => ?_, ?_⟩, e0⟩
  · intro z
    have := congrArg List.length z
    simp at this
  · refine hide fun CCC kkk => ?_
    obtain ⟨b, y, e1, e2, rfl⟩ := nth j x e
    refine kkk ?_; clear kkk
    rw [List.length_map, List.length_range]
    cases n : (pre ++ [a.here])[j + 1]? with
    | none =>
      have := I.lastIs e1 n; subst this
      rw [I.close_here] at e2; cases e2
      refine .inl ⟨rfl, ?_⟩
      have := (List.getElem?_eq_some_iff.mp e1).1
      have : (pre ++ [a.here]).length ≤ j + 1 := by simpa using n
      lia
    | some b' =>
      have lt := I.notLast e1 n
      refine hide fun CCC kkk => ?_
      obtain ⟨z, e3, e4⟩ := I.step j b b' e1 n
      refine kkk ?_; clear kkk
      rw [close_ne b (by lia), e3] at e2; cases e2
      refine .inr ⟨(List.getElem?_eq_some_iff.mp n).1, ?_⟩
      rcases e4 with e4 | ⟨l, e4⟩
      · exact .inl (by show y.2.map _ = _; rw [e4]; rfl)
      · exact .inr ⟨l, by show y.2.map _ = _; rw [e4]; rfl⟩
  · refine hide fun CCC kkk => ?_
    obtain ⟨b, y, e1, e2, rfl⟩ := nth j x e
    refine kkk ?_; clear kkk
    replace hx : y.1[i]? = some (.mark s) := hx
    have li := (List.getElem?_eq_some_iff.mp hx).1
    rw [nsp_at e1 e2 (by lia)]
    have hm := List.mem_of_getElem? e1
    have ey : (a.blk b).1 = y.1 := by
      by_cases q : b = a.here
      · subst q; rw [I.close_here] at e2; cases e2; rfl
      · rw [close_ne b q] at e2; unfold SA.blk; rw [e2]; rfl
    have := I.marks b hm i s (by rw [ey]; exact hx)
    rw [I.close_sp, if_neg, this]
    · rfl
    · rintro ⟨q1, q2⟩; subst q1; rw [ey] at q2; lia
  · rw [List.length_map, List.length_range]; have := hs.k; lia
  · refine hide fun CCC kkk => ?_
    obtain ⟨b, y, e1, e2, rfl⟩ := nth j x e
    refine kkk ?_; clear kkk
    exact hs2.s y (List.mem_of_getElem? e2)
  · rw [e0]; exact hr
noncomputable def items (fs : List (List (Nat × Bool))) : Nat := (fs.map List.length).sum
theorem items_app {fs gs : List (List (Nat × Bool))} : items (fs ++ gs) = items fs + items gs := by unfold items; rw [List.map_append, List.sum_append]
theorem items_mem {fs : List (List (Nat × Bool))} {f : List (Nat × Bool)} : f ∈ fs → f.length ≤ items fs := by
  induction fs with
  | nil => intro h; cases h
  | cons g fs ih =>
    intro h
    have : items (g :: fs) = g.length + items fs := rfl
    rcases List.mem_cons.mp h with rfl | h
    · lia
    · have := ih h; lia
theorem items_rev {fs : List (List (Nat × Bool))} : items fs.reverse = items fs := by
  induction fs with
  | nil => rfl
  | cons g fs ih => rw [List.reverse_cons, items_app, ih]; show _ + (g.length + 0) = g.length + items fs; lia
theorem items_drop {fs : List (List (Nat × Bool))} {n : Nat} : items (fs.drop n) ≤ items fs := by
  have := @items_app (fs.take n) (fs.drop n)
  rw [List.take_append_drop] at this; lia
structure Bn (N I F T : Nat) (a : SA) (rows : List Rw) (Ts : List Ty) : Prop where
  sm : a.Small N
  it : items a.frames ≤ I
  fl : a.frames.length ≤ F
  hl : ∀ f ∈ a.frames, ∀ x ∈ f, x.1 < Ts.length
  tl : Ts.length = a.tvs.length
  tz : Ts.length ≤ T
  hz : ∀ U ∈ Ts, U.size ≤ 64
  rz : rows.length ≤ N
theorem Bn.pre {N I F T : Nat} {a : SA} {rows : List Rw} {Ts : List Ty} (B : Bn N I F T a rows Ts) (hh : a.here < a.blocks.length) (h1 : N ≤ 2000) (h2 : I ≤ 40) (h3 : F ≤ 40) (h4 : T ≤ 100) : Pre a rows Ts :=
  ⟨B.sm.le h1, hh, fun f hf => by have := items_mem hf; have := B.it; lia, Nat.le_trans B.fl h3, B.hl, B.hz, Nat.le_trans B.rz (by lia), Nat.le_trans B.tz h4⟩
theorem Bn.le {N I F T N' I' F' T' : Nat} {a : SA} {rows : List Rw} {Ts : List Ty} (B : Bn N I F T a rows Ts) (h1 : N ≤ N') (h2 : I ≤ I') (h3 : F ≤ F') (h4 : T ≤ T') : Bn N' I' F' T' a rows Ts :=
  ⟨B.sm.le h1, Nat.le_trans B.it h2, Nat.le_trans B.fl h3, B.hl, B.tl, Nat.le_trans B.tz h4, B.hz, Nat.le_trans B.rz h1⟩
theorem fins_good2 {tvs : List Value} {F : List (List (Nat × Bool))} {tb : Nat → Bool} : ∀ {fs : List (List (Nat × Bool))} {a : SA} {N : Nat}, a.Good tvs F N → (fs.foldl (SA.fin tb) a).Good tvs F (N + 3 * items fs)
  | [], a, N, G => G
  | f :: fs, a, N, G => by
    have G1 : (a.fin tb f).Good tvs F (N + 3 * f.length) := by
      have := SA.Good.fin (tb := tb) (f := f.reverse) G
      rw [List.length_reverse] at this
      exact this
    refine (fins_good2 (fs := fs) G1).le ?_
    have : items (f :: fs) = f.length + items fs := rfl
    lia
theorem rowsEnd_len {tb : Nat → Bool} {s : Int} {f : List (Nat × Bool)} : (rowsEnd tb s f).length ≤ 2 * f.length := by
  have := @flatMap_len tb s f.reverse
  rw [List.length_reverse] at this
  exact this
theorem rowsEnds_len {tb : Nat → Bool} {s : Int} : ∀ {fs : List (List (Nat × Bool))}, (fs.flatMap (rowsEnd tb s)).length ≤ 2 * items fs
  | [] => Nat.le_refl _
  | f :: fs => by
    rw [List.flatMap_cons, List.length_append]
    have := @rowsEnd_len tb s f
    have := @rowsEnds_len tb s fs
    have : items (f :: fs) = f.length + items fs := rfl
    lia
theorem Bn.popped {N I F T : Nat} {a : SA} {rows : List Rw} {Ts : List Ty} {s : Int} {fs : List (List (Nat × Bool))} {f : List (Nat × Bool)} (B : Bn N I F T a rows Ts) (hh : a.here < a.blocks.length) (e : a.frames = fs ++ [f]) :
    Bn (N + 3 * f.length) (I - f.length) (F - 1) T (a.pop (tbOf Ts)) (rows ++ rowsEnd (tbOf Ts) s f) Ts := by
  have G := SA.Good.fin (tb := tbOf Ts) (f := f.reverse) (⟨B.sm, hh, rfl, e⟩ : a.Good a.tvs (fs ++ [f]) N)
  have e3 : a.pop (tbOf Ts) = { a.fin (tbOf Ts) f with frames := fs } := by unfold SA.pop; rw [e]; simp
  rw [List.length_reverse] at G
  have s1 := G.sm
  rw [e3]
  have it := B.it
  rw [e, items_app] at it
  have i1 : items [f] = f.length := rfl
  have fl := B.fl
  rw [e, List.length_append] at fl
  simp at fl
  refine ⟨⟨s1.k, s1.s, s1.p, s1.l, ?_, fun g hg => ?_⟩, ?_, ?_, fun g hg => B.hl g (by rw [e]; exact List.mem_append_left _ hg), ?_, B.tz, B.hz, ?_⟩
  · have := B.sm.f; rw [e, List.length_append] at this; show fs.length ≤ _; lia
  · exact Nat.le_trans (B.sm.i g (by rw [e]; exact List.mem_append_left _ hg)) (Nat.le_add_right _ _)
  · show items fs ≤ _; lia
  · show fs.length ≤ _; lia
  · rw [B.tl]; exact (congrArg List.length G.tv).symm
  · rw [List.length_append]; have := @rowsEnd_len (tbOf Ts) s f; have := B.rz; lia
theorem Deed.bn {N I F T : Nat} {s : Int} {a a' : SA} {rows rows' : List Rw} {Ts Ts' : List Ty} (D : Deed s a rows Ts a' rows' Ts') (hh : a.here < a.blocks.length) (B : Bn N I F T a rows Ts) : Bn (N + 3 * I + 4) (I + 1) (F + 1) (T + 1) a' rows' Ts' := by
  cases D with
  | push =>
    refine ⟨B.sm.push.le (by lia), ?_, ?_, fun f hf => ?_, B.tl, Nat.le_succ_of_le B.tz, B.hz, Nat.le_trans B.rz (by lia)⟩
    · show items (a.frames ++ [[]]) ≤ _; rw [items_app]; have := B.it; show items a.frames + 0 ≤ _; lia
    · show (a.frames ++ [[]]).length ≤ _; rw [List.length_append]; exact Nat.succ_le_succ B.fl
    · rcases List.mem_append.mp hf with hf | hf
      · exact B.hl f hf
      · rw [List.mem_singleton.mp hf]; intro x hx; cases hx
  | decl v U hf hU =>
    have ef : a.frames = a.frames.dropLast ++ [a.frames.getLast hf] := (List.dropLast_concat_getLast hf).symm
    have hlen : a.frames.dropLast.length = a.frames.length - 1 := by simp
    have em : ((a.nlocal v).declare a.tvs.length).frames = a.frames.dropLast ++ [a.frames.getLast hf ++ [(a.tvs.length, true)]] := by
      show a.frames.modify (a.frames.length - 1) _ = _
      apply List.ext_getElem?
      intro i
      rw [List.getElem?_modify, ← hlen]
      conv => lhs; rw [ef]
      rcases Nat.lt_trichotomy i a.frames.dropLast.length with h | h | h
      · have : a.frames.dropLast.length ≠ i := by lia
        rw [List.getElem?_append_left h, List.getElem?_append_left h]
        cases a.frames.dropLast[i]? <;> simp at this ⊢ <;> simp [this]
      · subst h; simp
      · rw [List.getElem?_eq_none (by simp at h ⊢; lia), List.getElem?_eq_none (by simp at h ⊢; lia)]; rfl
    have s2 := (B.sm.nlocal (v := v)).declare (l := a.tvs.length)
    refine ⟨s2.le (by lia), ?_, ?_, fun f hf' => ?_, ?_, ?_, fun V hV => ?_, ?_⟩
    · rw [em, items_app]
      have it := B.it
      rw [ef, items_app] at it
      have e1 : items [a.frames.getLast hf ++ [(a.tvs.length, true)]] = (a.frames.getLast hf).length + 1 := by show (_ ++ _ : List _).length + 0 = _; rw [List.length_append]; rfl
      have e2 : items [a.frames.getLast hf] = (a.frames.getLast hf).length := rfl
      lia
    · rw [em]; have := B.fl; rw [ef] at this; simp at this ⊢; lia
    · rw [em] at hf'
      rw [List.length_append]
      rcases List.mem_append.mp hf' with h | h
      · intro x hx
        have := B.hl f (by rw [ef]; exact List.mem_append_left _ h) x hx
        show _ < _ + 1; lia
      · rw [List.mem_singleton.mp h]
        intro x hx
        rcases List.mem_append.mp hx with hx | hx
        · have := B.hl _ (List.getLast_mem hf) x hx; show _ < _ + 1; lia
        · rw [List.mem_singleton.mp hx]; show a.tvs.length < _ + 1; have := B.tl; lia
    · rw [List.length_append]; show _ = (a.tvs ++ [v]).length; rw [List.length_append, B.tl]; rfl
    · rw [List.length_append]; exact Nat.succ_le_succ B.tz
    · rcases List.mem_append.mp hV with h | h
      · exact B.hz V h
      · rw [List.mem_singleton.mp h]; exact hU
    · rw [List.length_append]; have := B.rz; show _ + 1 ≤ _; lia
  | mark =>
    refine ⟨(B.sm.put _).le (by lia), Nat.le_succ_of_le B.it, Nat.le_succ_of_le B.fl, B.hl, B.tl, Nat.le_succ_of_le B.tz, B.hz, ?_⟩
    rw [List.length_append]; have := B.rz; show _ + 1 ≤ _; lia
  | pop fs f e =>
    refine (B.popped hh e).le ?_ (by lia) (by lia) (by lia)
    have := items_mem (fs := a.frames) (f := f) (by rw [e]; simp)
    have := B.it; lia
  | leave dep hd =>
    have G := fins_good2 (tb := tbOf Ts) (fs := (a.frames.drop dep).reverse) (⟨B.sm, hh, rfl, rfl⟩ : a.Good a.tvs a.frames N)
    have i1 : items (a.frames.drop dep).reverse ≤ I := by rw [items_rev]; exact Nat.le_trans items_drop B.it
    have ef : (a.leave (tbOf Ts) dep).frames = a.frames := G.fr
    refine ⟨G.sm.le (by lia), ?_, ?_, ?_, ?_, Nat.le_succ_of_le B.tz, B.hz, ?_⟩
    · rw [ef]; exact Nat.le_succ_of_le B.it
    · rw [ef]; exact Nat.le_succ_of_le B.fl
    · rw [ef]; exact B.hl
    · rw [B.tl]; exact (congrArg List.length G.tv).symm
    · rw [List.length_append]; have := @rowsEnds_len (tbOf Ts) s (a.frames.drop dep).reverse; have := B.rz; lia
  | go =>
    have s1 := B.sm.nblock.close (.goto a.blocks.length)
    refine ⟨SA.Small.le (N := N + 1 + 1) ?_ (by lia), Nat.le_succ_of_le B.it, Nat.le_succ_of_le B.fl, B.hl, B.tl, Nat.le_succ_of_le B.tz, B.hz, Nat.le_trans B.rz (by lia)⟩
    exact ⟨s1.k, s1.s, s1.p, s1.l, s1.f, s1.i⟩
  | other =>
    have s1 := (B.sm.nblock.close (.goto a.blocks.length)).nblock
    have s2 : (a.nblock.fend (.goto a.blocks.length)).Small (N + 1 + 1 + 1) := ⟨s1.k, s1.s, s1.p, s1.l, s1.f, s1.i⟩
    have s3 := s2.put (.mark (-1))
    refine ⟨SA.Small.le (N := N + 1 + 1 + 1 + 1) ?_ (by lia), Nat.le_succ_of_le B.it, Nat.le_succ_of_le B.fl, B.hl, B.tl, Nat.le_succ_of_le B.tz, B.hz, Nat.le_trans B.rz (by lia)⟩
    exact ⟨s3.k, s3.s, s3.p, s3.l, s3.f, s3.i⟩
section
variable {prog : Program} {w : World} {A : Around} {E : Value → Shared → Prop} {md : Kd → Bool} {σ₀ σ : Mp} {H₀ H : Hp} {h₀ h : Heap} {g : Array GenState} {d : Drawn} {t : Nat} {os : OsState} {L D : Addr} {m : Str → Option Value} {k : Nat}
theorem newDictB {env : Env} {pos : Pos} {Q : Value → Shared → Prop} (B : Bd w md σ₀ h₀ H₀ σ H L h m)
    (q : ∀ r h', σ r = none → Bd w md σ₀ h₀ H₀ (put σ r dicO) H L h' m → Q (.ref r) ⟨h', g, d, t, os⟩) : wpAny (model prog w) A (eval (.Dict [] [] pos) env) Q E ⟨h, g, d, t, os⟩ :=
  wpAny_Dict_empty (q _ _ B.fm.ok.fresh (B.le (Le.put B.fm.ok.fresh _) (B.fm.alloc rfl)))
theorem newDictBH {env : Env} {pos : Pos} {Q : Value → Shared → Prop} (B : Bd w md σ₀ h₀ H₀ σ H L h m)
    (q : ∀ r h', σ r = none → Hi r → Bd w md σ₀ h₀ H₀ (put σ r dicO) H L h' m → Q (.ref r) ⟨h', g, d, t, os⟩) : wpAny (model prog w) A (eval (.Dict [] [] pos) env) Q E ⟨h, g, d, t, os⟩ :=
  wpAny_Dict_empty (q _ _ B.fm.ok.fresh B.fm.ok.size (B.le (Le.put B.fm.ok.fresh _) (B.fm.alloc rfl)))
theorem Bd.newU {p : Addr} {o : Obj} (_ : Bd w md σ₀ h₀ H₀ (put σ p o) H L h m) (X : HpIn σ H) (e : σ p = none) : put σ p o p = some o ∧ Untr H p := ⟨put_self, X.untr_new e⟩
theorem world_init {x dx : Addr} {R : Result → Shared → Prop} (kd : Kd) (O : Ok w σ h) (Rm : Room 1 A) (X : HpIn σ H)
    (hx : σ x = some (instObj 357 dx)) (hd : H kd = some (dx, emptyDict))
    (q : ∀ h' t' σ' H' od am sg, Nx w (mdK [kd]) σ h H σ' h' H' → AtD od am → H' kd = some (dx, od) → am "sigs" = some (.ref sg) → σ' sg = some dicO → Untr H' sg → Hi sg → R (.ok (.ret .none)) ⟨h', g, d, t', os⟩) :
    codeAny (model prog w) A (.call (.ref 347) ⟨[.ref x], []⟩) R ⟨h, g, d, t, os⟩ := by
  refine' enterK (binds := [("self", .ref x), ("modules", .none)]) O Rm ?a1 ?a2 ?a3 ?a4 ?a5 ?_ ?a6 ?a7 ?a8
  case a1 => rfl
  case a3 => exact binds_K (o := tupO [.none]) (Ok.K (by assumption)) rfl (by kernel_rfl) rfl rfl rfl
  walk_at "entd"
  intro L h₁ F
  have B := Bd.start (md := mdK [kd]) F X
  have m1 : mdK [kd] kd = true := mdK_mem (.head _)
  have ne : x ≠ dx := by
    rintro rfl
    have := X.at_ _ _ _ hd
    rw [hx] at this
    exact absurd (congrArg Obj.cls (Option.some.inj this)) (by intro z; cases z)
  repeat walk_at "x"
  refine saK B hx hd emp_at (by decide) m1 (by kernel_rfl) fun h2 od1 t2 a1 B => ?_
  replace hx := (put_ne (o := od1) ne).trans hx
  repeat walk_at "x"
  refine newDictB B fun r1 h3 e1 B => ?_
  replace hx := B.lp e1 _ _ hx
  repeat walk_at "x"
  refine saK B hx upd_self a1 (by decide) m1 (by kernel_rfl) fun h2 od2 t2 a2 B => ?_
  replace hx := (put_ne (o := od2) ne).trans hx
  repeat walk_at "x"
  refine newDictB B fun r2 h3 e2 B => ?_
  replace hx := B.lp e2 _ _ hx
  repeat walk_at "x"
  refine saK B hx upd_self a2 (by decide) m1 (by kernel_rfl) fun h2 od3 t2 a3 B => ?_
  replace hx := (put_ne (o := od3) ne).trans hx
  repeat walk_at "x"
  have X3 := B.hp
  refine newDictBH B fun sg h3 e3 hi B => ?_
  have U := B.newU X3 e3
  replace hx := B.lp e3 _ _ hx
  repeat walk_at "x"
  refine saK B hx upd_self a3 (by decide) m1 (by kernel_rfl) fun h2 od4 t2 a4 B => ?_
  replace hx := (put_ne (o := od4) ne).trans hx
  replace U := Kp.setB B upd_self _ _ U.1 U.2
  repeat walk_at "x"
  refine newDictB B fun r5 h3 e5 B => ?_
  replace hx := B.lp e5 _ _ hx
  replace U := Kp.of_le (B.lp e5) _ _ U.1 U.2
  repeat walk_at "x"
  refine saK B hx upd_self a4 (by decide) m1 (by kernel_rfl) fun h2 od5 t2 a5 B => ?_
  replace hx := (put_ne (o := od5) ne).trans hx
  replace U := Kp.setB B upd_self _ _ U.1 U.2
  repeat walk_at "x"
  refine newListB B (by exact Nat.le_of_ble_eq_true rfl) fun r6 h3 e6 _ B => ?_
  replace hx := B.lp e6 _ _ hx
  replace U := Kp.of_le (B.lp e6) _ _ U.1 U.2
  repeat walk_at "x"
  refine saK B hx upd_self a5 (by decide) m1 (by kernel_rfl) fun h2 od6 t2 a6 B => ?_
  replace hx := (put_ne (o := od6) ne).trans hx
  replace U := Kp.setB B upd_self _ _ U.1 U.2
  repeat walk_at "x"
  refine newDictB B fun r7 h3 e7 B => ?_
  replace hx := B.lp e7 _ _ hx
  replace U := Kp.of_le (B.lp e7) _ _ U.1 U.2
  repeat walk_at "x"
  refine saK B hx upd_self a6 (by decide) m1 (by kernel_rfl) fun h2 od7 t2 a7 B => ?_
  replace hx := (put_ne (o := od7) ne).trans hx
  replace U := Kp.setB B upd_self _ _ U.1 U.2
  repeat walk_at "x"
  refine newDictB B fun r8 h3 e8 B => ?_
  replace hx := B.lp e8 _ _ hx
  replace U := Kp.of_le (B.lp e8) _ _ U.1 U.2
  repeat walk_at "x"
  refine saK B hx upd_self a7 (by decide) m1 (by kernel_rfl) fun h2 od8 t2 a8 B => ?_
  replace hx := (put_ne (o := od8) ne).trans hx
  replace U := Kp.setB B upd_self _ _ U.1 U.2
  repeat walk_at "x"
  exact q _ _ _ _ _ _ sg B.nx (a8.le (by decide)) upd_self rfl U.1 U.2 hi
end
section
variable {prog : Program} {w : World} {A : Around} {E : Value → Shared → Prop} {md : Kd → Bool} {σ₀ σ : Mp} {H₀ H : Hp} {h₀ h : Heap} {g : Array GenState} {d : Drawn} {t : Nat} {os : OsState} {L D : Addr} {m : Str → Option Value} {k : Nat}
noncomputable def tfAm (vp vl vq vr vb : Value) : Str → Option Value := fun y => if y = "body" then some vb else if y = "result" then some vr else if y = "params" then some vq else if y = "locals" then some vl else if y = "path" then some vp else none
theorem tf_init {x dx : Addr} {vp vl vq vr vb : Value} {R : Result → Shared → Prop} (kd : Kd) (O : Ok w σ h) (Rm : Room 1 A) (X : HpIn σ H)
    (hx : σ x = some (instObj 328 dx)) (hd : H kd = some (dx, emptyDict))
    (q : ∀ h' t' σ' H' od, Nx w (mdK [kd]) σ h H σ' h' H' → AtD od (tfAm vp vl vq vr vb) → H' kd = some (dx, od) → R (.ok (.ret .none)) ⟨h', g, d, t', os⟩) :
    codeAny (model prog w) A (.call (.ref 325) ⟨[.ref x, vp, vl, vq, vr, vb], []⟩) R ⟨h, g, d, t, os⟩ := by
  refine' enterK (binds := [("self", .ref x), ("path", vp), ("rows", vl), ("params", vq), ("result", vr), ("body", vb)]) O Rm ?a1 ?a2 ?a3 ?a4 ?a5 ?_ ?a6 ?a7 ?a8
  walk_at "ent"
  intro L h₁ F
  have B := Bd.start (md := mdK [kd]) F X
  have m1 : mdK [kd] kd = true := mdK_mem (.head _)
  have ne : x ≠ dx := by
    rintro rfl
    have := X.at_ _ _ _ hd
    rw [hx] at this
    exact absurd (congrArg Obj.cls (Option.some.inj this)) (by intro z; cases z)
  repeat walk_at "x"
  refine saK B hx hd emp_at (by decide) m1 (by kernel_rfl) fun h2 od1 t2 a1 B => ?_
  replace hx := (put_ne (o := od1) ne).trans hx
  repeat walk_at "x"
  refine saK B hx upd_self a1 (by decide) m1 (by kernel_rfl) fun h2 od2 t2 a2 B => ?_
  replace hx := (put_ne (o := od2) ne).trans hx
  repeat walk_at "x"
  refine saK B hx upd_self a2 (by decide) m1 (by kernel_rfl) fun h2 od3 t2 a3 B => ?_
  replace hx := (put_ne (o := od3) ne).trans hx
  repeat walk_at "x"
  refine saK B hx upd_self a3 (by decide) m1 (by kernel_rfl) fun h2 od4 t2 a4 B => ?_
  replace hx := (put_ne (o := od4) ne).trans hx
  repeat walk_at "x"
  refine saK B hx upd_self a4 (by decide) m1 (by kernel_rfl) fun h2 od5 t2 a5 B => ?_
  repeat walk_at "x"
  exact q _ _ _ _ _ B.nx (a5.le (by decide)) upd_self
theorem body_init3 {x dx lc : Addr} {nm ac : Value} {lvs : List Value} {R : Result → Shared → Prop} (kd kl kb ks : Kd) (h1 : kd ≠ kl) (h2 : kd ≠ kb) (h3 : kd ≠ ks) (h4 : kl ≠ kb) (h5 : kl ≠ ks) (h6 : kb ≠ ks) (O : Ok w σ h) (Rm : Room 1 A) (X : HpIn σ H)
    (hx : σ x = some (instObj 82 dx)) (hd : H kd = some (dx, emptyDict)) (l : LO σ lc lvs) (hz : lvs.length ≤ 1000000)
    (q : ∀ h' t' σ' H' loc blk sp od n n2, Nx w (mdK [kd, kl, kb, ks]) σ h H σ' h' H' → AtD od (boAm nm ac loc blk sp) → H' kd = some (dx, od) → H' kl = some (loc, lisO lvs n) → H' kb = some (blk, lisO [] n2) → H' ks = some (sp, dicO) → R (.ok (.ret .none)) ⟨h', g, d, t', os⟩) :
    codeAny (model prog w) A (.call (.ref 36) ⟨[.ref x, nm, ac, .ref lc], []⟩) R ⟨h, g, d, t, os⟩ := by
  refine' enterK (binds := [("self", .ref x), ("name", nm), ("arg_count", ac), ("locals_told", .ref lc), ("blocks", .none), ("spots", .none)]) O Rm ?a1 ?a2 ?a3 ?a4 ?a5 ?_ ?a6 ?a7 ?a8
  case a1 => rfl
  case a3 => exact binds_K (o := tupO [.none, .none]) (Ok.K (by assumption)) rfl (by kernel_rfl) rfl rfl rfl
  walk_at "entd"
  intro L h₁ F
  have B := Bd.start (md := mdK [kd, kl, kb, ks]) F X
  have m1 : mdK [kd, kl, kb, ks] kd = true := mdK_mem (.head _)
  have m2 : mdK [kd, kl, kb, ks] kl = true := mdK_mem (.tail _ (.head _))
  have m3 : mdK [kd, kl, kb, ks] kb = true := mdK_mem (.tail _ (.tail _ (.head _)))
  have m4 : mdK [kd, kl, kb, ks] ks = true := mdK_mem (.tail _ (.tail _ (.tail _ (.head _))))
  have ne : x ≠ dx := by
    rintro rfl
    have := X.at_ _ _ _ hd
    rw [hx] at this
    exact absurd (congrArg Obj.cls (Option.some.inj this)) (by intro z; cases z)
  repeat walk_at "x"
  refine saK B hx hd emp_at (by decide) m1 (by kernel_rfl) fun g2 od1 t2 a1 B => ?_
  replace hx := (put_ne (o := od1) ne).trans hx
  repeat walk_at "x"
  refine saK B hx upd_self a1 (by decide) m1 (by kernel_rfl) fun g2 od2 t2 a2 B => ?_
  replace hx := (put_ne (o := od2) ne).trans hx
  refine hide fun CCC kkk => ?_
  obtain ⟨ln, l⟩ := l
  refine kkk ?_; clear kkk
  have nl : lc ≠ dx := by
    rintro rfl
    have := X.at_ _ _ _ hd
    rw [l] at this
    exact absurd (show (Value.type "list" : Value) = .type "dict" from congrArg Obj.cls (Option.some.inj this)) (by decide)
  repeat walk_at "x"
  refine listCopyK kl B (vs := lvs) ⟨ln, (put_ne nl).trans ((put_ne nl).trans l)⟩ hz m2 fun loc g3 n3 e3 B => ?_
  have hk3 := keepB B upd_self h1
  have hl3 := selfB B
  have nx3 : x ≠ loc := by rintro rfl; rw [hx] at e3; cases e3
  replace hx := (put_ne (o := lisO lvs n3) nx3).trans hx
  repeat walk_at "x"
  refine saK B hx hk3 a2 (by decide) m1 (by kernel_rfl) fun g4 od3 t4 a3 B => ?_
  replace hl3 := keepB B hl3 (Ne.symm h1)
  replace hx := (put_ne (o := od3) ne).trans hx
  have hd3 := selfB B
  repeat walk_at "x"
  refine is_none_none ?_
  repeat walk_at "x"
  refine newListK kb B (by exact Nat.le_of_ble_eq_true rfl) m3 fun blk g5 e4 _ B => ?_
  replace hx := (Le.put e4 (lisO [] 0)) _ _ hx
  replace hl3 := keepB B hl3 h4
  replace hd3 := keepB B hd3 h2
  have hb := selfB B
  repeat walk_at "x"
  refine saK B hx hd3 a3 (by decide) m1 (by kernel_rfl) fun g6 od4 t5 a4 B => ?_
  replace hl3 := keepB B hl3 (Ne.symm h1)
  replace hb := keepB B hb (Ne.symm h2)
  replace hd3 := selfB B
  replace hx := (put_ne (o := od4) ne).trans hx
  repeat walk_at "x"
  refine is_none_none ?_
  repeat walk_at "x"
  refine newDictK ks B m4 fun sp g7 e5 B => ?_
  replace hx := (Le.put e5 dicO) _ _ hx
  replace hl3 := keepB B hl3 h5
  replace hb := keepB B hb h6
  replace hd3 := keepB B hd3 h3
  have hs := selfB B
  repeat walk_at "x"
  refine saK B hx hd3 a4 (by decide) m1 (by kernel_rfl) fun g8 od5 t6 a5 B => ?_
  replace hl3 := keepB B hl3 (Ne.symm h1)
  replace hb := keepB B hb (Ne.symm h2)
  replace hs := keepB B hs (Ne.symm h3)
  repeat walk_at "x"
  refine q _ _ _ _ loc blk sp od5 n3 0 B.nx ?_ upd_self hl3 hb hs
  have e : (fun y : Str => if y = "spots" then some (Value.ref sp) else if y = "blocks" then some (.ref blk) else if y = "locals" then some (.ref loc) else if y = "arg_count" then some ac else if y = "name" then some nm else none) = boAm nm ac loc blk sp := by
    funext y; unfold boAm
    by_cases c1 : y = "locals"
    · subst c1; rfl
    by_cases c2 : y = "blocks"
    · subst c2; rfl
    by_cases c3 : y = "spots"
    · subst c3; rfl
    by_cases c4 : y = "name"
    · subst c4; rfl
    simp only [c1, c2, c3, c4, if_false]
  rw [← e]
  exact a5.le (by decide)
end
section
variable {prog : Program} {w : World} {A : Around} {E : Value → Shared → Prop} {md : Kd → Bool} {σ₀ σ : Mp} {H₀ H : Hp} {h₀ h : Heap} {g : Array GenState} {d : Drawn} {t : Nat} {os : OsState} {L D a b : Addr} {m : Str → Option Value} {k : Nat}
theorem dicO_str : dicO.IsDictOf (strKind prog w) [] := by
  refine hide fun CCC kkk => ?_
  obtain ⟨o, e, r⟩ := Heap.dictOf_iff.mp (Heap.DictOf.new (knd := strKind prog w) (h := (default : Heap)))
  refine kkk ?_; clear kkk
  rw [Heap.get?_push_size _ rfl] at e; cases e; exact r
theorem inEmpty {Q : Value → Shared → Prop} {x : Str} {tx : Tok} (B : Bd w md σ₀ h₀ H₀ σ H L h m) (e : σ D = some dicO) (hD : Hi D) (q : ∀ t', Q (.bool false) ⟨h, g, d, t', os⟩) :
    wpAny (model prog w) A (compareOp .In (.str x tx) (.ref D)) Q E ⟨h, g, d, t, os⟩ := by
  have M : h.DictOf (strKind prog w) D [] := Heap.dictOf_iff.mpr ⟨_, B.fm.ok.sub _ _ e, dicO_str⟩
  exact wpAny_in_of (s := ⟨h, g, d, t, os⟩) (strKind_is prog w x tx) hD.sys M.mapOf (q _)
theorem addLisB {vs ws : List Value} {Q : Value → Shared → Prop} (B : Bd w md σ₀ h₀ H₀ σ H L h m) (ha : LO σ a vs) (hb : LO σ b ws) (hz : vs.length + ws.length ≤ 1000000)
    (q : ∀ r h' n, σ r = none → Hi r → Bd w md σ₀ h₀ H₀ (put σ r (lisO (vs ++ ws) n)) H L h' m → Q (.ref r) ⟨h', g, d, t, os⟩) :
    wpAny (model prog w) A (binaryOp .Add (.ref a) (.ref b)) Q E ⟨h, g, d, t, os⟩ := by
  have ht := B.fm.lst ha
  have hb' := B.fm.lst hb
  refine hide fun CCC kkk => ?_
  obtain ⟨⟨cls, dd, data, sl⟩, ho, hc, n, hd⟩ := id ht
  refine kkk ?_; clear kkk
  refine hide fun CCC kkk => ?_
  obtain ⟨⟨cls2, dd2, data2, sl2⟩, ho2, hc2, n2, hd2⟩ := id hb'
  refine kkk ?_; clear kkk
  simp only at hc hd hc2 hd2
  subst hc hd hc2 hd2
  have e : vs.toArray ++ ws.toArray = (vs ++ ws).toArray := by simp
  refine concat_meets (s := ⟨h, g, d, t, os⟩) ⟨_, ho, rfl⟩ ⟨_, ho2, rfl⟩ noFill_list_add seq_list_add PySem.F.slot_list_add PySem.F.entry_list_add (PySem.F.args_list_add_2 _ _) (list_addW a b vs.toArray ws.toArray n n2 dd dd2 sl sl2 (by rw [List.size_toArray, List.size_toArray, sizeLine_eq]; lia)) ⟨ho, ho2, ?_⟩
  rw [e]
  have F2 := B.fm.alloc (o := lisO (vs ++ ws) 0) rfl
  exact q _ _ 0 B.fm.ok.fresh B.fm.ok.size (B.le (Le.put B.fm.ok.fresh _) F2)
theorem nblock0_spec {S SD Bo BD blk : Addr} {am bm : Str → Option Value} {od ob : Obj} {n0 : Nat} {Q : Value → Shared → Prop} (O : Ok w σ h) (R : Room 2 A) (X : HpIn σ H)
    (s1 : H .sc = some (S, instObj 307 SD)) (s2 : H .scD = some (SD, od)) (s3 : AtD od am) (h1 : am "body" = some (.ref Bo)) (b1 : H .bo = some (Bo, instObj 82 BD)) (b2 : H .boD = some (BD, ob)) (b3 : AtD ob bm) (h2 : bm "blocks" = some (.ref blk)) (hk : H .blk = some (blk, lisO [] n0))
    (q : ∀ h' t' σ' H' s bl tk n n1 n2, Nx w mdB σ h H σ' h' H' → H' .blk = some (blk, lisO [.ref bl] n) → H' (.b 0) = some (bl, lisO [.ref s, .none] n1) → H' (.st 0) = some (s, lisO [] n2) → (∀ j, j ≠ .blk → j ≠ .b 0 → j ≠ .st 0 → H' j = H j) → Q (.int 0 tk) ⟨h', g, d, t', os⟩) :
    wpAny (model prog w) A (call (.ref 220) [.ref S]) Q E ⟨h, g, d, t, os⟩ := by
  refine' enter (binds := [("self", .ref S)]) O R ?a1 ?a2 ?a3 ?a4 ?a5 ?_ ?a6 ?a7 ?a8
  walk_at "ent"
  intro L h₁ F
  have B := Bd.start (md := mdB) F X
  have IS : ObjIs σ S SD 307 am := ⟨od, X.at_ _ _ _ s1, X.at_ _ _ _ s2, s3⟩
  have IB : ObjIs σ Bo BD 82 bm := ⟨ob, X.at_ _ _ _ b1, X.at_ _ _ _ b2, b3⟩
  repeat walk_at "s"
  refine gaF B.fm IS (by kernel_rfl) h1 rfl ?_
  repeat walk_at "s"
  refine gaF B.fm IB (by kernel_rfl) h2 rfl ?_
  refine methA B.fm ⟨n0, B.hp.at_ _ _ _ hk⟩ ?_
  dsimp only
  clear IS IB
  repeat walk_at "t"
  refine newListK (.st 0) B (by decide) rfl fun p h3 e1 e2 B => ?_
  have hk1 := keepB B hk nofun
  have s11 := keepB B s1 nofun
  have s21 := keepB B s2 nofun
  have b11 := keepB B b1 nofun
  have b21 := keepB B b2 nofun
  have ks := selfB B
  repeat walk_at "t"
  refine newListK (.b 0) B (by show 2 ≤ 1000000; decide) rfl fun p2 h4 e3 e4 B => ?_
  replace hk1 := keepB B hk1 nofun
  replace s11 := keepB B s11 nofun
  replace s21 := keepB B s21 nofun
  replace b11 := keepB B b11 nofun
  replace b21 := keepB B b21 nofun
  replace ks := keepB B ks nofun
  have kb := selfB B
  repeat walk_at "t"
  refine appendK (kd := .blk) B hk1 (by simp) rfl fun h5 n' B => ?_
  replace s11 := keepB B s11 nofun
  replace s21 := keepB B s21 nofun
  replace b11 := keepB B b11 nofun
  replace b21 := keepB B b21 nofun
  replace ks := keepB B ks nofun
  replace kb := keepB B kb nofun
  have kk := selfB B
  have IS : ObjIs _ S SD 307 am := ⟨od, B.hp.at_ _ _ _ s11, B.hp.at_ _ _ _ s21, s3⟩
  have IB : ObjIs _ Bo BD 82 bm := ⟨ob, B.hp.at_ _ _ _ b11, B.hp.at_ _ _ _ b21, b3⟩
  repeat walk_at "s"
  refine bltF B.fm ?g1 b_len ?g2 ?_ ?g3 ?g4 ?g5
  case g1 => kernel_rfl
  case g2 => exact nb rfl
  case g3 => rfl
  case g4 => rfl
  case g5 => rfl
  refine cwBi1 ?_ rfl rfl
  repeat walk_at "s"
  refine gaF B.fm IS (by kernel_rfl) h1 rfl ?_
  repeat walk_at "s"
  refine gaF B.fm IB (by kernel_rfl) h2 rfl ?_
  repeat walk_at "s"
  refine lenF B.fm ⟨n', put_self⟩ (by simp) fun tk t3 => ?_
  repeat walk_at "s"
  exact q _ _ _ _ p p2 _ n' 0 0 B.nx kk kb ks fun j x1 x2 x3 => (upd_ne x1).trans ((upd_ne x2).trans (upd_ne x3))
end
section
variable {prog : Program} {w : World} {A : Around} {E : Value → Shared → Prop} {σ : Mp} {H : Hp} {h : Heap} {g : Array GenState} {d : Drawn} {t : Nat} {os : OsState} {k : Nat}
theorem Bd.newUl {md : Kd → Bool} {σ₀ : Mp} {H₀ : Hp} {h₀ : Heap} {L p : Addr} {m : Str → Option Value} {vs : List Value} {n : Nat} (_ : Bd w md σ₀ h₀ H₀ (put σ p (lisO vs n)) H L h m) (X : HpIn σ H) (e : σ p = none) : Ul (put σ p (lisO vs n)) H p vs := Ul.new X e
theorem Bd.newT {md : Kd → Bool} {σ₀ : Mp} {H₀ : Hp} {h₀ : Heap} {L p : Addr} {m : Str → Option Value} {vs : List Value} (_ : Bd w md σ₀ h₀ H₀ (put σ p (tupO vs)) H L h m) : TO (put σ p (tupO vs)) p vs := put_self
theorem Bd.newO {md : Kd → Bool} {σ₀ : Mp} {H₀ : Hp} {h₀ : Heap} {L p : Addr} {m : Str → Option Value} {o : Obj} (_ : Bd w md σ₀ h₀ H₀ (put σ p o) H L h m) : put σ p o p = some o := put_self
theorem addLisK {md : Kd → Bool} {σ₀ : Mp} {H₀ : Hp} {h₀ : Heap} {L a b : Addr} {m : Str → Option Value} {vs ws : List Value} {Q : Value → Shared → Prop} (kd : Kd) (B : Bd w md σ₀ h₀ H₀ σ H L h m) (ha : LO σ a vs) (hb : LO σ b ws) (hz : vs.length + ws.length ≤ 1000000) (hm : md kd = true)
    (q : ∀ r h' n, σ r = none → Hi r → Bd w md σ₀ h₀ H₀ (put σ r (lisO (vs ++ ws) n)) (upd H kd r (lisO (vs ++ ws) n)) L h' m → Q (.ref r) ⟨h', g, d, t, os⟩) :
    wpAny (model prog w) A (binaryOp .Add (.ref a) (.ref b)) Q E ⟨h, g, d, t, os⟩ := by
  have ht := B.fm.lst ha
  have hb' := B.fm.lst hb
  refine hide fun CCC kkk => ?_
  obtain ⟨⟨cls, dd, data, sl⟩, ho, hc, n, hd⟩ := id ht
  refine kkk ?_; clear kkk
  refine hide fun CCC kkk => ?_
  obtain ⟨⟨cls2, dd2, data2, sl2⟩, ho2, hc2, n2, hd2⟩ := id hb'
  refine kkk ?_; clear kkk
  simp only at hc hd hc2 hd2
  subst hc hd hc2 hd2
  have e : vs.toArray ++ ws.toArray = (vs ++ ws).toArray := by simp
  refine concat_meets (s := ⟨h, g, d, t, os⟩) ⟨_, ho, rfl⟩ ⟨_, ho2, rfl⟩ noFill_list_add seq_list_add PySem.F.slot_list_add PySem.F.entry_list_add (PySem.F.args_list_add_2 _ _) (list_addW a b vs.toArray ws.toArray n n2 dd dd2 sl sl2 (by rw [List.size_toArray, List.size_toArray, sizeLine_eq]; lia)) ⟨ho, ho2, ?_⟩
  rw [e]
  have F2 := B.fm.alloc (o := lisO (vs ++ ws) 0) rfl
  exact q _ _ 0 B.fm.ok.fresh B.fm.ok.size (B.add B.fm.ok.fresh B.fm.ok.size lisO_no hm F2)
theorem asg3 {md : Kd → Bool} {σ₀ : Mp} {H₀ : Hp} {h₀ : Heap} {L a : Addr} {m : Str → Option Value} {env : Env} {x y z : Str} {px py pz pt : Pos} {x1 : Nat} {vx vy vz : Value} {Q : Unit → Shared → Prop} (B : Bd w md σ₀ h₀ H₀ σ H L h m) (ht : TO σ a [vx, vy, vz]) (hh : A.handled = none)
    (q : ∀ h', Bd w md σ₀ h₀ H₀ σ H L h' (ms z vz (ms y vy (ms x vx m))) → Q () ⟨h', g, d, t + 1 + 1 + 1, os⟩)
    (hk : env.scope.kind = .function) (hx : env.kindOf x = some .local) (hy : env.kindOf y = some .local) (hz : env.kindOf z = some .local) (hL : env.locals = L) :
    wpAny (model prog w) A (assign (.Tuple [.Name x px, .Name y py, .Name z pz] x1 pt) env (.ref a)) Q E ⟨h, g, d, t, os⟩ := by
  refine wpAny_assign_Tuple hh ⟨_, B.fm.ok.sub _ _ ht, rfl, 0, rfl⟩ rfl rfl fun h' e => ?_
  have B1 := B.with (B.fm.ext e (noneAt B.fm))
  show wpAny _ A (do holding [vy, vz] (assign (.Name x px) env vx); do holding [vz] (assign (.Name y py) env vy); do holding [] (assign (.Name z pz) env vz); pure ()) _ _ _
  refine wpAny_bind (wpAny_holding (wpAny_assign_Name (stG B1 (fun h2 B2 => ?_) hk hx hL)))
  refine wpAny_bind (wpAny_holding (wpAny_assign_Name (stG B2 (fun h3 B3 => ?_) hk hy hL)))
  exact wpAny_bind (wpAny_holding (wpAny_assign_Name (stG B3 (fun h4 B4 => wpAny_pure (q _ B4)) hk hz hL)))
theorem AtK.tok {k : Nat} {od : Obj} {f : Str → Option Value} {n : Str} {z : Int} {tk : Tok} (h : AtK k od (ms n (.int z tk) f)) : ∃ t, AtK k od (ms n (.int z t) f) := ⟨tk, h⟩
theorem mdI_A (j : Kd) (hj : mdA j = false) : mdK [.boD, .loc, .blk, .sp] j = false := by
  cases q : mdK [.boD, .loc, .blk, .sp] j with
  | false => rfl
  | true =>
    have := List.contains_iff_mem.mp q
    simp only [List.mem_cons, List.not_mem_nil, or_false] at this
    rcases this with rfl | rfl | rfl | rfl <;> cases hj
theorem mdI_no {j : Kd} (h1 : j ≠ .boD) (h2 : j ≠ .loc) (h3 : j ≠ .blk) (h4 : j ≠ .sp) : mdK [.boD, .loc, .blk, .sp] j = false := by
  cases q : mdK [.boD, .loc, .blk, .sp] j with
  | false => rfl
  | true =>
    have := List.contains_iff_mem.mp q
    simp only [List.mem_cons, List.not_mem_nil, or_false] at this
    rcases this with rfl | rfl | rfl | rfl
    · exact absurd rfl h1
    · exact absurd rfl h2
    · exact absurd rfl h3
    · exact absurd rfl h4
noncomputable def PatIs (σ : Mp) (v u : Value) : Prop := ∃ a vs, v = .ref a ∧ TO σ a vs ∧ vs[1]? = some u
noncomputable def RowIs (σ : Mp) (v u : Value) : Prop := ∃ a, v = .ref a ∧ TO σ a [.none, u, .bool true]
theorem PatIs.tk {σ τ : Mp} {v u : Value} (x : PatIs σ v u) (k : Tk σ τ) : PatIs τ v u := let ⟨a, vs, e, l, p⟩ := x; ⟨a, vs, e, k _ _ l, p⟩
theorem RowIs.tk {σ τ : Mp} {v u : Value} (x : RowIs σ v u) (k : Tk σ τ) : RowIs τ v u := let ⟨a, e, l⟩ := x; ⟨a, e, k _ _ l⟩
noncomputable def SA.first (tvs : List Value) : SA := { tvs := tvs, blocks := [([], .none)], sp := fun _ _ => none, nsp := 0, frames := [], here := 0, spot := 0 }
theorem scNames {c : Cs} {hv sv : Value} : (fun y : Str => if y = "here" then some hv else if y = "frames" then some (.ref c.frs) else if y = "alias" then some (.ref c.als) else if y = "spot" then some sv else if y = "body" then some (.ref c.B) else if y = "first_user" then some (.int c.fu c.fuT) else if y = "args" then some (.ref c.args) else if y = "bounds" then some (.ref c.bnd) else if y = "world" then some (.ref c.wld) else none) = scAm c hv sv := by
  funext y; unfold scAm
  by_cases c1 : y = "here"
  · subst c1; rfl
  by_cases c2 : y = "spot"
  · subst c2; rfl
  by_cases c3 : y = "body"
  · subst c3; rfl
  by_cases c4 : y = "frames"
  · subst c4; rfl
  by_cases c5 : y = "world"
  · subst c5; rfl
  by_cases c6 : y = "bounds"
  · subst c6; rfl
  by_cases c7 : y = "args"
  · subst c7; rfl
  by_cases c8 : y = "first_user"
  · subst c8; rfl
  simp only [c1, c2, c3, c4, c5, c6, c7, c8, if_false]
noncomputable def kpt : Kd → Bool
  | .it _ => false
  | .il i => decide (10 ≤ i)
  | _ => true
theorem scopes_init {S SD TF TFD WO WD sg lpar lrow : Addr} {tp : Tok} {ra : Addr} {pvs rvs us ws : List Value} {odT odW : Obj} {amW : Str → Option Value} {n1 n2 : Nat} {R : Result → Shared → Prop} (O : Ok w σ h) (Rm : Room 6 A) (X : HpIn σ H)
    (hS : H .sc = some (S, instObj 307 SD)) (hSD : H .scD = some (SD, emptyDict))
    (tf1 : H (.il 20) = some (TF, instObj 328 TFD)) (tf2 : H (.il 21) = some (TFD, odT)) (tf3 : AtD odT (tfAm (.str "f" tp) (.ref lrow) (.ref lpar) (.ref ra) .none))
    (wo1 : H (.il 24) = some (WO, instObj 357 WD)) (wo2 : H (.il 25) = some (WD, odW)) (wo3 : AtD odW amW) (wo4 : amW "sigs" = some (.ref sg)) (wo5 : σ sg = some dicO ∧ Untr H sg) (wo6 : Hi sg)
    (lp : H (.il 22) = some (lpar, lisO pvs n1)) (lr : H (.il 23) = some (lrow, lisO rvs n2)) (hp : All2 (PatIs σ) pvs us) (hr : All2 (RowIs σ) rvs ws) (z1' : us.length ≤ 10) (z2 : ws.length ≤ 10)
    (q : ∀ h' t' σ' H' c avs, Nx w mdA σ h H σ' h' H' → Sc σ' H' c (SA.first (.ref ra :: (us ++ ws))) → c.S = S → c.fu = us.length + 1 → handedIn c.nm = true → handedIn c.ac = true → Ul σ' H' c.args avs → All2 IsN avs (List.range' 1 us.length) →
      R (.ok (.ret .none)) ⟨h', g, d, t', os⟩) :
    codeAny (model prog w) A (.call (.ref 191) ⟨[.ref S, .ref TF, .ref WO], []⟩) R ⟨h, g, d, t, os⟩ := by
  refine' enterK (binds := [("self", .ref S), ("typed_fn", .ref TF), ("world", .ref WO)]) O Rm ?a1 ?a2 ?a3 ?a4 ?a5 ?_ ?a6 ?a7 ?a8
  walk_at "ent"
  intro L h₁ F
  have B := Bd.start (md := mdA) F X
  have ne : S ≠ SD := by
    rintro rfl
    have e1 := X.at_ _ _ _ hSD
    rw [X.at_ _ _ _ hS] at e1
    exact absurd (congrArg Obj.cls (Option.some.inj e1)) (by intro z; cases z)
  repeat walk_at "x"
  have hx := X.at_ _ _ _ hS
  refine saK (kd := .scD) B hx hSD emp_at (by decide) rfl (by kernel_rfl) fun h2 od1 t2 a1 B => ?_
  replace hx := (put_ne (o := od1) ne).trans hx
  have wo5' := Kp.setB B hSD _ _ wo5.1 wo5.2
  have tf1' := keepB B tf1 nofun
  have tf2' := keepB B tf2 nofun
  have wo1' := keepB B wo1 nofun
  have wo2' := keepB B wo2 nofun
  have IT : ObjIs _ TF TFD 328 _ := ⟨odT, B.hp.at_ _ _ _ tf1', B.hp.at_ _ _ _ tf2', tf3⟩
  have IW : ObjIs _ WO WD 357 amW := ⟨odW, B.hp.at_ _ _ _ wo1', B.hp.at_ _ _ _ wo2', wo3⟩
  repeat walk_at "x"
  refine gaF B.fm IW (by kernel_rfl) wo4 rfl ?_
  refine inEmpty B wo5'.1 wo6 fun t3 => ?_
  repeat walk_at "x"
  refine newDictB B fun bnd h3 e3 B => ?_
  replace hx := B.lp e3 _ _ hx
  have IT2 := IT.le (B.lp e3)
  clear IT IW
  repeat walk_at "x"
  replace hp := hp.imp fun _ _ z => ((z.tk (Kp.tk (Kp.set (o' := od1) hSD) X)).tk (Le.put e3 dicO).tk)
  replace hr := hr.imp fun _ _ z => ((z.tk (Kp.tk (Kp.set (o' := od1) hSD) X)).tk (Le.put e3 dicO).tk)
  have X2 := B.hp
  refine saK B hx upd_self a1 (by decide) rfl (by kernel_rfl) fun h4 od2 t4 a2 B => ?_
  replace hp := hp.imp fun _ _ z => z.tk (Kp.tk (Kp.setB B upd_self) X2)
  replace hr := hr.imp fun _ _ z => z.tk (Kp.tk (Kp.setB B upd_self) X2)
  replace hx := (put_ne (o := od2) ne).trans hx
  replace tf1' := keepB B tf1' nofun
  replace tf2' := keepB B tf2' nofun
  have hd := selfB B
  have lp' : upd (upd H .scD SD od1) .scD SD od2 (.il 22) = _ := upk (upk lp)
  have lr' : upd (upd H .scD SD od1) .scD SD od2 (.il 23) = _ := upk (upk lr)
  have IT : ObjIs _ TF TFD 328 _ := ⟨odT, B.hp.at_ _ _ _ tf1', B.hp.at_ _ _ _ tf2', tf3⟩
  clear IT2
  repeat walk_at "x"
  refine newTupleB B (by exact Nat.le_of_ble_eq_true rfl) fun t0 h5 e5 e6 B => ?_
  have lt0 := B.newT
  replace hx := B.lp e5 _ _ hx
  replace IT := IT.le (B.lp e5)
  repeat walk_at "x"
  have X5 := B.hp
  refine newListB B (by exact Nat.le_of_ble_eq_true rfl) fun l0 h6 e7 e8 B => ?_
  have U0 := B.newUl X5 e7
  replace lt0 := B.lp e7 _ _ lt0
  replace hp := hp.imp fun _ _ z => z.tk ((Le.put e5 (tupO [.ref ra, .bool true, .none])).trans (B.lp e7)).tk
  replace hr := hr.imp fun _ _ z => z.tk ((Le.put e5 (tupO [.ref ra, .bool true, .none])).trans (B.lp e7)).tk
  replace hx := B.lp e7 _ _ hx
  replace IT := IT.le (B.lp e7)
  repeat walk_at "x"
  refine listComp (closureFor_none (by decide)) rfl (by decide) ?_ (fun _ => rfl)
  repeat walk_at "x"
  refine startList (k := .it 0) B ⟨n1, B.hp.at_ _ _ _ lp'⟩ rfl fun it h7 oi e9 e10 B2 => ?_
  have K9 := Kp.add (H := upd (upd H .scD SD od1) .scD SD od2) (k := .it 0) (o := oi) e9
  have X9 := B.hp
  refine compRun (n := pvs.length) (Itr.list (D := lpar) (vs := pvs) (k := .it 0) Rm.hnd tgtN) (.il 0)
    (fun i σ' H' ys => (∀ j, kpt j = true → H' j = upd (upd H .scD SD od1) .scD SD od2 j) ∧ All2 (PatIs σ') pvs us ∧ Ul σ' H' l0 [.ref t0] ∧ TO σ' t0 [.ref ra, .bool true, .none] ∧ All2 (LocIs σ') ys (us.take i) ∧ All2 (RowIs σ') rvs ws) B2 ?_ rfl rfl ?_ ⟨oi, upd_self, e10⟩ ?_ ?_ (by decide) rfl ?_ ?_ ?_ ?_
  · intro k hk; rw [of_decide_eq_true hk]; rfl
  · intro k a' o' hk e
    rw [of_decide_eq_true hk, upd_self] at e; cases e
    exact Bd.new B e9
  · exact ⟨fun j hj => upd_ne (by rintro rfl; cases hj), hp.imp fun _ _ z => z.tk (K9.tk X9), U0.kp K9, K9.tk X9 _ _ lt0, .nil, hr.imp fun _ _ z => z.tk (K9.tk X9)⟩
  · rw [hp.length]; lia
  · intro i σ H σ' H' ys X X' kp oth zzq10
    refine hide fun CCC kkk => ?_
    obtain ⟨z1, z2, z3, z4, z5, z6⟩ := zzq10
    refine kkk ?_; clear kkk
    have tk := kp.tk X
    exact ⟨fun j hj => (oth j (decide_eq_false (by rintro rfl; cases hj)) (by rintro rfl; cases hj)).trans (z1 j hj), z2.imp fun _ _ z => z.tk tk, z3.kp kp, tk _ _ z4, z5.imp fun _ _ z => z.tk tk, z6.imp fun _ _ z => z.tk tk⟩
  · rintro i σ H ys X ⟨z1, z2, z3, z4, z5, z6⟩; exact ⟨n1, X.at_ _ _ _ ((z1 (.il 22) rfl).trans lp')⟩
  · intro i v ys σ1 H1 hb C h3 m3 t3 QQ NN fin hi hv zzq15 B
    refine hide fun CCC kkk => ?_
    obtain ⟨z1, z2, z3, z4, z5, z6⟩ := zzq15
    refine kkk ?_; clear kkk
    replace hv : pvs[i]? = some v := hv
    have pp := z2.getV hv
    refine hide fun CCC kkk => ?_
    obtain ⟨u, hu, pa, pv, rfl, p1, p2⟩ := pp
    refine kkk ?_; clear kkk
    refine wpAny_assign_Name ?_
    repeat walk_at "x"
    refine wpAny_tests_nil ?_
    repeat walk_at "x"
    rename Bd _ _ _ _ _ _ _ _ _ _ => B
    refine itemTF (i := 1) B.fm p1 p2 (by decide) ?_
    repeat walk_at "x"
    have Xc := B.hp
    refine newTupleB B (by exact Nat.le_of_ble_eq_true rfl) fun ty h9 f1 f2 B => ?_
    have tk := (B.lp f1).tk
    have lty := B.newT
    refine fin.yes B ⟨z1, z2.imp fun _ _ z => z.tk tk, z3.kp (Kp.of_le (B.lp f1)), tk _ _ z4, ?_, z6.imp fun _ _ z => z.tk tk⟩ (fun _ _ => rfl) rfl
    rw [List.take_add_one, hu]
    exact (z5.imp fun _ _ z => z.tk tk).snoc ⟨ty, _, _, rfl, lty⟩
  · intro D σ1 H1 h8 t8 ys n8 zzq7 B hD hy
    refine hide fun CCC kkk => ?_
    obtain ⟨z1, z2, z3, z4, z5, z6⟩ := zzq7
    refine kkk ?_; clear kkk
    rw [hp.length, List.take_length] at z5
    have yl : ys.length ≤ 10 := by rw [z5.length]; exact z1'
    show wpAny _ _ _ _ _ _
    have X1 := B.hp
    refine addLisK (.il 1) B z3.lo ⟨n8, B.hp.at_ _ _ _ hD⟩ (by rw [List.length_cons, List.length_nil]; lia) rfl fun rl h9 n9 f1 f2 B => ?_
    have K := Kp.add (H := H1) (k := .il 1) (o := lisO ([Value.ref t0] ++ ys) n9) f1
    have tk := K.tk X1
    replace z4 := tk _ _ z4
    replace z5 := z5.imp fun _ _ z => z.tk tk
    replace z6 := z6.imp fun _ _ z => z.tk tk
    have zr : All2 (LocIs _) ([Value.ref t0] ++ ys) (.ref ra :: us) := .cons ⟨t0, _, _, rfl, z4⟩ z5
    have zk : ∀ j, kpt j = true → upd H1 (.il 1) rl (lisO ([Value.ref t0] ++ ys) n9) j = upd (upd H .scD SD od1) .scD SD od2 j := fun j hj => (upd_ne (by rintro rfl; cases hj)).trans (z1 j hj)
    have hl := selfB B
    clear z1 z2 z3
    repeat walk_at "x"
    rename Bd _ _ _ _ _ _ _ _ _ _ => B
    have rz : ([Value.ref t0] ++ ys).length = us.length + 1 := zr.length
    have hx : _ = some (instObj 307 SD) := B.hp.at_ .sc _ _ ((zk .sc rfl).trans (upk (upk hS)))
    have hd := (zk .scD rfl).trans hd
    refine lenF B.fm ⟨n9, B.hp.at_ _ _ _ hl⟩ (by lia) fun tk1 t9 => ?_
    rw [rz]
    repeat walk_at "x"
    refine range2B B fun rg h10 t10 tk2 g1 B => ?_
    replace hx := B.lp g1 _ _ hx
    replace zr := zr.imp fun _ _ z => z.tk (B.lp g1).tk
    replace z6 := z6.imp fun _ _ z => z.tk (B.lp g1).tk
    have lrg := B.newO
    repeat walk_at "x"
    have XL := B.hp
    refine listRangeB (n := us.length) B Rm.hnd lrg (by decide) (by lia) (by lia) fun ar h11 t11 avs n11 g2 va vb B => ?_
    replace hx := B.lp g2 _ _ hx
    replace zr := zr.imp fun _ _ z => z.tk (B.lp g2).tk
    replace z6 := z6.imp fun _ _ z => z.tk (B.lp g2).tk
    have Ua := B.newUl XL g2
    have XB := B.hp
    repeat walk_at "x"
    refine saK B hx hd a2 (by decide) rfl (by kernel_rfl) fun h12 od3 t12 a3 B => ?_
    replace zr := zr.imp fun _ _ z => z.tk (Kp.tk (Kp.setB B hd) XB)
    replace z6 := z6.imp fun _ _ z => z.tk (Kp.tk (Kp.setB B hd) XB)
    replace Ua := Ua.kp (Kp.setB B hd)
    replace hx := (put_ne (o := od3) ne).trans hx
    replace hl := keepB B hl nofun
    have hd3 := selfB B
    repeat walk_at "x"
    refine lenF B.fm ⟨n9, B.hp.at_ _ _ _ hl⟩ (by lia) fun tk3 t13 => ?_
    rw [rz]
    repeat walk_at "x"
    have XA := B.hp
    refine saK B hx hd3 a3 (by decide) rfl (by kernel_rfl) fun h13 od4 t14 a4 B => ?_
    replace zr := zr.imp fun _ _ z => z.tk (Kp.tk (Kp.setB B hd3) XA)
    replace z6 := z6.imp fun _ _ z => z.tk (Kp.tk (Kp.setB B hd3) XA)
    replace Ua := Ua.kp (Kp.setB B hd3)
    replace hx := (put_ne (o := od4) ne).trans hx
    replace hl := keepB B hl nofun
    replace hd3 := selfB B
    repeat walk_at "x"
    rename Bd _ _ _ _ _ _ _ _ _ _ => B
    refine methE B.fm ⟨_, B.hp.at_ _ _ _ hl⟩ ?_
    dsimp only
    repeat walk_at "x"
    refine listComp (closureFor_none (by decide)) rfl (by decide) ?_ (fun _ => rfl)
    repeat walk_at "x"
    have zf : ∀ j, kpt j = true → j ≠ .scD → upd (upd (upd H1 (.il 1) rl (lisO ([Value.ref t0] ++ ys) n9)) .scD SD od3) .scD SD od4 j = upd (upd H .scD SD od1) .scD SD od2 j := fun j hj hn => (upd_ne hn).trans ((upd_ne hn).trans (zk j hj))
    have IT : ObjIs _ TF TFD 328 _ := ⟨odT, B.hp.at_ _ _ _ ((zf (.il 20) rfl nofun).trans tf1'), B.hp.at_ _ _ _ ((zf (.il 21) rfl nofun).trans tf2'), tf3⟩
    have lr2 := (zf (.il 23) rfl nofun).trans lr'
    refine gaF B.fm IT (by kernel_rfl) rfl rfl ?_
    refine startList (k := .it 0) B ⟨n2, B.hp.at_ _ _ _ lr2⟩ rfl fun it2 h15 oi2 g3 g4 B2 => ?_
    have XC := B.hp
    have K3 := Kp.add (H := upd (upd (upd H1 (.il 1) rl (lisO ([Value.ref t0] ++ ys) n9)) .scD SD od3) .scD SD od4) (k := .it 0) (o := oi2) g3
    refine compRun (n := rvs.length) (Itr.list (D := lrow) (vs := rvs) (k := .it 0) Rm.hnd tgtT) (.il 2)
      (fun i σ' H' ys2 => (∀ j, j ≠ .it 0 → j ≠ .il 2 → H' j = upd (upd (upd H1 (.il 1) rl (lisO ([Value.ref t0] ++ ys) n9)) .scD SD od3) .scD SD od4 j) ∧ All2 (LocIs σ') ([Value.ref t0] ++ ys) (.ref ra :: us) ∧ All2 (RowIs σ') rvs ws ∧ All2 (LocIs σ') ys2 (ws.take i) ∧ Ul σ' H' ar avs) B2 ?_ rfl rfl ?_ ⟨oi2, upd_self, g4⟩ ?_ ?_ (by decide) rfl ?_ ?_ ?_ ?_
    · intro k hk; rw [of_decide_eq_true hk]; rfl
    · intro k a' o' hk e
      rw [of_decide_eq_true hk, upd_self] at e; cases e
      exact Bd.new B g3
    · exact ⟨fun j hj _ => upd_ne hj, zr.imp fun _ _ z => z.tk (K3.tk XC), z6.imp fun _ _ z => z.tk (K3.tk XC), .nil, Ua.kp K3⟩
    · rw [hr.length]; lia
    · intro i σ H σ' H' ys X X' kp oth zzq10
      refine hide fun CCC kkk => ?_
      obtain ⟨y1, y2, y3, y4, y5⟩ := zzq10
      refine kkk ?_; clear kkk
      have tk := kp.tk X
      exact ⟨fun j hj hj2 => (oth j (decide_eq_false hj) hj2).trans (y1 j hj hj2), y2.imp fun _ _ z => z.tk tk, y3.imp fun _ _ z => z.tk tk, y4.imp fun _ _ z => z.tk tk, y5.kp kp⟩
    · rintro i σ H ys X ⟨y1, y2, y3, y4, y5⟩; exact ⟨n2, X.at_ _ _ _ ((y1 (.il 23) nofun nofun).trans lr2)⟩
    · intro i v ys2 σ2 H2 hb C h3 m3 t3 QQ NN fin hi hv zzq15 B
      refine hide fun CCC kkk => ?_
      obtain ⟨y1, y2, y3, y4, y5⟩ := zzq15
      refine kkk ?_; clear kkk
      replace hv : rvs[i]? = some v := hv
      have pp := y3.getV hv
      refine hide fun CCC kkk => ?_
      obtain ⟨u, hu, pa, rfl, p1⟩ := pp
      refine kkk ?_; clear kkk
      refine asg3 B p1 Rm.hnd (fun h16 B => ?_) rfl rfl rfl rfl rfl
      refine wpAny_tests_nil ?_
      repeat walk_at "x"
      refine newTupleB B (by exact Nat.le_of_ble_eq_true rfl) fun ty h9 f1 f2 B => ?_
      have tk := (B.lp f1).tk
      have lty := B.newT
      refine fin.yes B ⟨y1, y2.imp fun _ _ z => z.tk tk, y3.imp fun _ _ z => z.tk tk, ?_, y5.kp (Kp.of_le (B.lp f1))⟩ (fun _ _ => rfl) rfl
      rw [List.take_add_one, hu]
      exact (y4.imp fun _ _ z => z.tk tk).snoc ⟨ty, _, _, rfl, lty⟩
    · intro D2 σ2 H2 h16 t16 ys2 n16 zzq7 B hD2 hy2
      refine hide fun CCC kkk => ?_
      obtain ⟨y1, y2, y3, y4, y5⟩ := zzq7
      refine kkk ?_; clear kkk
      rw [hr.length, List.take_length] at y4
      repeat walk_at "x"
      have hl2 := (y1 (.il 1) nofun nofun).trans hl
      have XD := B.hp
      refine extendLK (kd := .il 1) B hl2 ⟨_, B.hp.at_ _ _ _ hD2⟩ (by rw [rz]; have := y4.length; lia) rfl fun h17 n17 B => ?_
      have KD := Kp.setB B hl2
      have tkd := KD.tk XD
      have zl := (y2.append y4).imp fun _ _ z => z.tk tkd
      replace y5 := y5.kp KD
      have zg : ∀ j, kpt j = true → j ≠ .scD → upd H2 (.il 1) rl (lisO (([Value.ref t0] ++ ys) ++ ys2) n17) j = upd (upd H .scD SD od1) .scD SD od2 j := fun j hj hn => (upd_ne (by rintro rfl; cases hj)).trans ((y1 j (by rintro rfl; cases hj) (by rintro rfl; cases hj)).trans (zf j hj hn))
      have hd5 := keepB B ((y1 .scD nofun nofun).trans hd3) nofun
      have hl5 := selfB B
      have hx : _ = some (instObj 307 SD) := B.hp.at_ .sc _ _ ((zg .sc rfl nofun).trans (upk (upk hS)))
      have IT : ObjIs _ TF TFD 328 _ := ⟨odT, B.hp.at_ _ _ _ ((zg (.il 20) rfl nofun).trans tf1'), B.hp.at_ _ _ _ ((zg (.il 21) rfl nofun).trans tf2'), tf3⟩
      clear KD tkd XD y1 y2 y3 y4 zf zk hl2
      repeat walk_at "x"
      have IS : ObjIs _ S SD 307 _ := ⟨od4, hx, B.hp.at_ _ _ _ hd5, a4.le (by decide)⟩
      refine gaF B.fm IS (by kernel_rfl) rfl rfl ?_
      repeat walk_at "x"
      refine lenF B.fm y5.lo (by lia) fun tk4 t18 => ?_
      rw [va]
      repeat walk_at "x"
      rename Bd _ _ _ _ _ _ _ _ _ _ => B
      have XE := B.hp
      refine classB .bo .boD B (by kernel_rfl) (fI := 36) (by kernel_rfl) (by kernel_rfl) rfl rfl fun Bo BD h18 e18 e19 B => ?_
      have KB := Kp.add2B B e18 e19
      have hl6 := keep2B B hl5 nofun nofun
      have hd6 := keep2B B hd5 nofun nofun
      have y6 := y5.kp KB
      have hbo := selfB B
      have hS6 := keep2B B ((zg .sc rfl nofun).trans (upk (upk hS))) nofun nofun
      refine body_init3 .boD .loc .blk .sp nofun nofun nofun nofun nofun nofun B.fm.ok (Rm.deeper.le (by decide) : Room 2 _).under B.hp (B.hp.at_ _ _ _ hbo) (keepB B upd_self nofun) ⟨_, B.hp.at_ _ _ _ hl6⟩ (by rw [zl.length]; simp; lia) fun h19 t19 σ9 H9 loc blk sp ob n18 n19 N b1 b2 b3 b4 b5 => ?_
      have hd7 := (N.ag .scD (mdI_no nofun nofun nofun nofun)).trans hd6
      have hS7 := (N.ag .sc (mdI_no nofun nofun nofun nofun)).trans hS6
      have hb7 := (N.ag .bo (mdI_no nofun nofun nofun nofun)).trans hbo
      replace zl := zl.imp fun _ _ z => (z.tk (KB.tk XE)).tk (N.kp.tk B.hp)
      have y7 := y6.kp N.kp
      replace B := B.call N mdI_A
      refine ⟨rfl, ?_⟩
      repeat walk_at "x"
      have XF := B.hp
      have hx : σ9 S = some (instObj 307 SD) := XF.at_ _ _ _ hS7
      refine saK B hx hd7 a4 (by decide) rfl (by kernel_rfl) fun h20 od5 t20 a5 B => ?_
      replace hx := (put_ne (o := od5) ne).trans hx
      replace zl := zl.imp fun _ _ z => z.tk (Kp.tk (Kp.setB B hd7) XF)
      replace y7 := y7.kp (Kp.setB B hd7)
      have XG := B.hp
      repeat walk_at "x"
      refine saK B hx upd_self a5 (by decide) rfl (by kernel_rfl) fun h21 od6 t21 a6 B => ?_
      replace a6 := a6.tok
      refine hide fun CCC kkk => ?_
      obtain ⟨tsp, a6⟩ := a6
      refine kkk ?_; clear kkk
      replace hx := (put_ne (o := od6) ne).trans hx
      replace zl := zl.imp fun _ _ z => z.tk (Kp.tk (Kp.setB B upd_self) XG)
      replace y7 := y7.kp (Kp.setB B upd_self)
      repeat walk_at "x"
      have XH := B.hp
      refine newDictB B fun als h22 e22 B => ?_
      replace hx := B.lp e22 _ _ hx
      replace zl := zl.imp fun _ _ z => z.tk (B.lp e22).tk
      replace y7 := y7.kp (Kp.of_le (B.lp e22))
      have XI := B.hp
      repeat walk_at "x"
      refine saK B hx upd_self a6 (by decide) rfl (by kernel_rfl) fun h23 od7 t23 a7 B => ?_
      replace hx := (put_ne (o := od7) ne).trans hx
      replace zl := zl.imp fun _ _ z => z.tk (Kp.tk (Kp.setB B upd_self) XI)
      replace y7 := y7.kp (Kp.setB B upd_self)
      repeat walk_at "x"
      have XJ := B.hp
      refine newListK .frs B (by exact Nat.le_of_ble_eq_true rfl) rfl fun frs h24 e24 _ B => ?_
      have K24 := Kp.add (H := upd (upd (upd H9 .scD SD od5) .scD SD od6) .scD SD od7) (k := .frs) (o := lisO [] 0) e24
      replace hx := (Le.put e24 (lisO [] 0)) _ _ hx
      replace zl := zl.imp fun _ _ z => z.tk (K24.tk XJ)
      replace y7 := y7.kp K24
      have hd8 := keepB B upd_self (j := .scD) nofun
      have hfr := selfB B
      have XK := B.hp
      repeat walk_at "x"
      refine saK B hx hd8 a7 (by decide) rfl (by kernel_rfl) fun h25 od8 t25 a8 B => ?_
      replace hx := (put_ne (o := od8) ne).trans hx
      replace zl := zl.imp fun _ _ z => z.tk (Kp.tk (Kp.setB B hd8) XK)
      replace y7 := y7.kp (Kp.setB B hd8)
      replace hfr := keepB B hfr nofun
      have hd9 := selfB B
      have zz : ∀ j, j ≠ .scD → j ≠ .frs → upd (upd (upd (upd (upd H9 .scD SD od5) .scD SD od6) .scD SD od7) .frs frs (lisO [] 0)) .scD SD od8 j = H9 j := fun j q1 q2 => (upd_ne q1).trans ((upd_ne q2).trans ((upd_ne q1).trans ((upd_ne q1).trans (upd_ne q1))))
      have IS9 : ObjIs _ S SD 307 _ := ⟨od8, hx, B.hp.at_ _ _ _ hd9, a8.le (by decide)⟩
      repeat walk_at "x"
      refine nblock0_spec B.fm.ok (Rm.deeper.le (by decide)) B.hp ((zz .sc nofun nofun).trans hS7) hd9 (a8.le (by decide)) rfl ((zz .bo nofun nofun).trans hb7) ((zz .boD nofun nofun).trans b2) b1 rfl ((zz .blk nofun nofun).trans b4) fun h26 t26 σa Ha s0 bl0 tk26 n26 n27 n28 Na c1 c2 c3 c4 => ?_
      have XM := B.hp
      have hx2 : σa S = some (instObj 307 SD) := Na.hp.at_ .sc _ _ ((c4 .sc nofun nofun nofun).trans ((zz .sc nofun nofun).trans hS7))
      have hdA := (c4 .scD nofun nofun nofun).trans hd9
      have hfA := (c4 .frs nofun nofun nofun).trans hfr
      replace zl := zl.imp fun _ _ z => z.tk (Na.kp.tk XM)
      replace y7 := y7.kp Na.kp
      replace B := B.call Na (fun _ e => mdB_F (mdF_A e))
      have XN := B.hp
      repeat walk_at "x"
      refine saK B hx2 hdA a8 (by decide) rfl (by kernel_rfl) fun h27 od9 t27 a9 B => ?_
      have KZ := Kp.setB B hdA
      replace zl := zl.imp fun _ _ z => z.tk (KZ.tk XN)
      replace y7 := y7.kp KZ
      have zy : ∀ j, j ≠ .scD → j ≠ .frs → j ≠ .blk → j ≠ .b 0 → j ≠ .st 0 → upd Ha .scD SD od9 j = H9 j := fun j q1 q2 q3 q4 q5 => (upd_ne q1).trans ((c4 j q3 q4 q5).trans (zz j q1 q2))
      repeat walk_at "x"
      refine q _ _ _ _ ⟨S, SD, Bo, BD, loc, blk, sp, frs, WO, bnd, ar, als, us.length + 1, tk3, .str "f" tp, .int us.length tk4⟩ avs B.nx ?_ rfl rfl rfl rfl y7 ?_
      · refine ⟨⟨(zy .sc nofun nofun nofun nofun nofun).trans hS7, od9, tk26, tsp, upd_self, ?_⟩, ⟨(zy .bo nofun nofun nofun nofun nofun).trans hb7, ob, (zy .boD nofun nofun nofun nofun nofun).trans b2, b1⟩, ⟨n18, _, (zy .loc nofun nofun nofun nofun nofun).trans b3, zl⟩, ⟨n26, _, upk c1, rfl, ?_⟩, ⟨dicO, [], (zy .sp nofun nofun nofun nofun nofun).trans b5, dicO_sp⟩, ⟨0, [], upk hfA, rfl, fun i v x hv => by simp at hv⟩⟩
        · have e : (fun y : Str => if y = "here" then some (Value.int 0 tk26) else if y = "frames" then some (.ref frs) else if y = "alias" then some (.ref als) else if y = "spot" then some (.int 0 tsp) else if y = "body" then some (.ref Bo) else if y = "first_user" then some (.int (us.length + 1 : Nat) tk3) else if y = "args" then some (.ref ar) else if y = "bounds" then some (.ref bnd) else if y = "world" then some (.ref WO) else none) = scAm ⟨S, SD, Bo, BD, loc, blk, sp, frs, WO, bnd, ar, als, us.length + 1, tk3, .str "f" tp, .int us.length tk4⟩ (.int 0 tk26) (.int 0 tsp) := scNames (c := ⟨S, SD, Bo, BD, loc, blk, sp, frs, WO, bnd, ar, als, us.length + 1, tk3, .str "f" tp, .int us.length tk4⟩)
          exact e ▸ a9.le (by decide)
        · rintro i v x hv hx
          cases i with
          | zero =>
            cases hv; cases hx
            exact ⟨bl0, s0, n27, n28, .none, [], rfl, upk c2, upk c3, .nil, rfl⟩
          | succ i => cases hv
      · refine All2.of_get (by rw [va, List.length_range']) fun i v x hv hx => ?_
        have p := vb i v hv
        refine hide fun CCC kkk => ?_
        obtain ⟨tt, p⟩ := p
        refine kkk ?_; clear kkk
        have lt := (List.getElem?_eq_some_iff.mp hv).1
        rw [va] at lt
        rw [List.getElem?_range' lt] at hx
        cases hx
        exact ⟨tt, p.trans (by congr 1; push_cast; lia)⟩
end
structure L0 (σ : Mp) (H : Hp) (a c1 c2 : Addr) (co : Obj) : Prop where
  src : SrcIs H a
  ce : Ce σ H c1 (.ref a)
  c2 : σ c2 = some co ∧ Untr H c2
  tb : TabIs σ H
section
variable {w : World} {σ σ' : Mp} {H H' : Hp} {h h' : Heap} {a c1 c2 : Addr} {co : Obj}
theorem L0.mv (Z : L0 σ H a c1 c2 co) (k : Kp σ H σ' H') (e1 : H' .src = H .src) (e2 : H' .tab = H .tab) : L0 σ' H' a c1 c2 co :=
  ⟨Z.src.mono e1, Z.ce.kp k, k _ _ Z.c2.1 Z.c2.2, Z.tb.kp k e2⟩
theorem L0.take (Z : L0 σ H a c1 c2 co) (N : Nx w mdR σ h H σ' h' H') (S : SrcIs H' a) : L0 σ' H' a c1 c2 co :=
  ⟨S, Z.ce.kp N.kp, N.kp _ _ Z.c2.1 Z.c2.2, Z.tb.kp N.kp (N.ag _ rfl)⟩
end
noncomputable def mdU : Kd → Bool := fun _ => true
noncomputable def TysAre (σ : Mp) (vs : List Value) (Ts : List Ty) : Prop := All2 (TyIs σ) vs Ts ∧ ∀ T ∈ Ts, T.size ≤ 64
theorem TysAre.tk {σ σ' : Mp} {vs : List Value} {Ts : List Ty} (X : TysAre σ vs Ts) (k : Tk σ σ') : TysAre σ' vs Ts := ⟨X.1.imp fun _ _ z => z.tk k, X.2⟩
theorem TysAre.nil {σ : Mp} : TysAre σ [] [] := ⟨.nil, fun _ h => nomatch h⟩
theorem TysAre.snoc {σ : Mp} {vs : List Value} {Ts : List Ty} {v : Value} {T : Ty} (X : TysAre σ vs Ts) (h : TyIs σ v T) (hz : T.size ≤ 64) : TysAre σ (vs ++ [v]) (Ts ++ [T]) :=
  ⟨X.1.snoc h, fun U hU => by
    rcases List.mem_append.mp hU with q | q
    · exact X.2 U q
    · cases List.mem_singleton.mp q; exact hz⟩
section
variable {prog : Program} {w : World} {A : Around} {E : Value → Shared → Prop} {Q : Value → Shared → Prop} {σ₀ σ : Mp} {h₀ h : Heap} {g : Array GenState} {d : Drawn} {t : Nat} {os : OsState} {L a b : Addr} {m : Str → Option Value} {vs ws : List Value} {k : Nat}
theorem allTrue (n : Nat) : (List.range n).all (fun _ => true) = true := List.all_eq_true.mpr fun _ _ => rfl
theorem eqRw {v u : Value} {r : Rw} (F : Fm w σ₀ h₀ σ L h m) (R : Room k A) (h1 : RwIs σ v r) (h2 : RwIs σ u r) : SeqAt.EqAt A ⟨h, g, d, t, os⟩ v u true := by
  have key : ∀ (a b : Addr) (s : Str) (t1 t2 t3 u1 u2 u3 : Tok) (x y : Int), TO σ a [.str s t1, .int x t2, .int y t3] → TO σ b [.str s u1, .int x u2, .int y u3] → SeqAt.EqAt A ⟨h, g, d, t, os⟩ (.ref a) (.ref b) true := by
    intro a b s t1 t2 t3 u1 u2 u3 x y e1 e2
    by_cases c : a = b
    · subst c; exact SeqAt.EqAt.same _
    have p := SeqAt.RcAt.tuples (A := A) (s := ⟨h, g, d, t, os⟩) (e := fun _ => true) (F.tup e1) (F.tup e2) R.units (fun j h1 h2 => by
      match j, h1, h2 with
      | 0, _, _ => have p := SeqAt.EqAt.str_str (A := A.in1) (s := ⟨h, g, d, t, os⟩) s t1 s u1; rw [beq_self_eq_true] at p; exact p
      | 1, _, _ => have p := SeqAt.EqAt.int_int (A := A.in1) (s := ⟨h, g, d, t, os⟩) x t2 x u2; rw [beq_self_eq_true] at p; exact p
      | 2, _, _ => have p := SeqAt.EqAt.int_int (A := A.in1) (s := ⟨h, g, d, t, os⟩) y t3 y u3; rw [beq_self_eq_true] at p; exact p
      | j + 3, h1, _ => exact absurd h1 (by simp))
    exact SeqAt.EqAt.of_refs c p
  cases r with
  | live l s => obtain ⟨a, _, _, _, rfl, e⟩ := h1; obtain ⟨b, _, _, _, rfl, e'⟩ := h2; exact key _ _ _ _ _ _ _ _ _ _ _ e e'
  | dead l s => obtain ⟨a, _, _, _, rfl, e⟩ := h1; obtain ⟨b, _, _, _, rfl, e'⟩ := h2; exact key _ _ _ _ _ _ _ _ _ _ _ e e'
  | drop l s => obtain ⟨a, _, _, _, rfl, e⟩ := h1; obtain ⟨b, _, _, _, rfl, e'⟩ := h2; exact key _ _ _ _ _ _ _ _ _ _ _ e e'
  | mark s => obtain ⟨a, _, _, _, rfl, e⟩ := h1; obtain ⟨b, _, _, _, rfl, e'⟩ := h2; exact key _ _ _ _ _ _ _ _ _ _ _ e e'
theorem arrGet {vs : List Value} {j : Nat} (h : j < vs.toArray.size) : vs[j]? = some vs.toArray[j] := by
  rw [List.getElem?_eq_getElem (by simpa using h)]; simp
theorem eqRows {rs : List Rw} (F : Fm w σ₀ h₀ σ L h m) (R : Room 1 A) (l1 : LO σ a vs) (l2 : LO σ b ws) (h1 : All2 (RwIs σ) vs rs) (h2 : All2 (RwIs σ) ws rs) (q : Q (.bool true) ⟨h, g, d, t, os⟩) :
    wpAny (model prog w) A (compareOp .Eq (.ref a) (.ref b)) Q E ⟨h, g, d, t, os⟩ := by
  refine SeqAt.eq_listAt (s := ⟨h, g, d, t, os⟩) (e := fun _ => true) (F.lst l1) (F.lst l2) (by simp only [List.size_toArray]; rw [h1.length, h2.length]) R.units (fun j j1 j2 => ?_) (by rw [allTrue]; exact q)
  refine hide fun CCC kkk => ?_
  obtain ⟨r, hr, p⟩ := h1.getV (arrGet j1)
  refine kkk ?_; clear kkk
  refine hide fun CCC kkk => ?_
  obtain ⟨r', hr', p'⟩ := h2.getV (arrGet j2)
  refine kkk ?_; clear kkk
  rw [hr] at hr'; cases hr'
  exact eqRw F R.in1 p p'
theorem neInts {ns : List Nat} (F : Fm w σ₀ h₀ σ L h m) (R : Room 1 A) (l1 : LO σ a vs) (l2 : LO σ b ws) (h1 : All2 IsN vs ns) (h2 : All2 IsN ws ns) (q : Q (.bool false) ⟨h, g, d, t, os⟩) :
    wpAny (model prog w) A (compareOp .NotEq (.ref a) (.ref b)) Q E ⟨h, g, d, t, os⟩ := by
  refine SeqAt.RcNeAt.lists (s := ⟨h, g, d, t, os⟩) (e := fun _ => true) (F.lst l1) (F.lst l2) (by simp only [List.size_toArray]; rw [h1.length, h2.length]) R.units (fun j j1 j2 => ?_) prog w E Q (by rw [allTrue]; exact q)
  refine hide fun CCC kkk => ?_
  obtain ⟨r, hr, tk, p⟩ := h1.getV (arrGet j1)
  refine kkk ?_; clear kkk
  refine hide fun CCC kkk => ?_
  obtain ⟨r', hr', tk', p'⟩ := h2.getV (arrGet j2)
  refine kkk ?_; clear kkk
  rw [hr] at hr'; cases hr'
  rw [p, p']
  have z := SeqAt.EqAt.int_int (A := A.in1) (s := ⟨h, g, d, t, os⟩) r tk r tk'
  rw [beq_self_eq_true] at z; exact z
theorem neSame (F : Fm w σ₀ h₀ σ L h m) (R : Room 1 A) (l1 : LO σ a vs) (l2 : LO σ b vs) (q : Q (.bool false) ⟨h, g, d, t, os⟩) :
    wpAny (model prog w) A (compareOp .NotEq (.ref a) (.ref b)) Q E ⟨h, g, d, t, os⟩ :=
  SeqAt.RcNeAt.lists (s := ⟨h, g, d, t, os⟩) (e := fun _ => true) (F.lst l1) (F.lst l2) rfl R.units (fun j j1 j2 => SeqAt.EqAt.same _) prog w E Q (by rw [allTrue]; exact q)
end
noncomputable def firstH (tvs : List Value) (fs : List (List (Nat × Bool))) : SA := { SA.first tvs with frames := fs }
noncomputable def argFr (i : Nat) : List (Nat × Bool) := (List.range' 1 i).map fun l => (l, false)
theorem argFr_len {i : Nat} : (argFr i).length = i := by unfold argFr; rw [List.length_map, List.length_range']
theorem argFr_succ {i : Nat} : argFr i ++ [(i + 1, false)] = argFr (i + 1) := by
  unfold argFr; rw [List.range'_concat, List.map_append, Nat.one_mul, Nat.add_comm 1 i]; rfl
theorem argFr_mem {i : Nat} {x : Nat × Bool} (h : x ∈ argFr i) : x.1 ≤ i := by
  refine hide fun CCC kkk => ?_
  obtain ⟨l, hl, rfl⟩ := List.mem_map.mp h
  refine kkk ?_; clear kkk
  have := List.mem_range'_1.mp hl
  show l ≤ i; lia
theorem firstH_push {tvs : List Value} : (SA.first tvs).push = firstH tvs [argFr 0] := rfl
theorem firstH_hold {tvs : List Value} {i : Nat} : (firstH tvs [argFr i]).hold (i + 1) false = firstH tvs [argFr (i + 1)] := by
  show firstH tvs [argFr i ++ [(i + 1, false)]] = _
  rw [argFr_succ]
theorem first_small {tvs : List Value} {N : Nat} (h : tvs.length ≤ N) (h1 : 1 ≤ N) : (SA.first tvs).Small N :=
  ⟨h1, fun b hb => by cases List.mem_singleton.mp hb; exact Nat.zero_le _, Nat.zero_le _, h, Nat.zero_le _, fun f hf => nomatch hf⟩
theorem firstH_small {tvs : List Value} {i N : Nat} (h : tvs.length ≤ N) (h1 : 1 ≤ N) (hi : i ≤ N) : (firstH tvs [argFr i]).Small N :=
  ⟨h1, fun b hb => by cases List.mem_singleton.mp hb; exact Nat.zero_le _, Nat.zero_le _, h, h1, fun f hf => by cases List.mem_singleton.mp hf; rw [argFr_len]; exact hi⟩
theorem firstH_inv {tvs : List Value} {fs : List (List (Nat × Bool))} : Inv (firstH tvs fs) [] [] where
  head := rfl
  inc := fun i b b' e1 e2 => by simp at e2
  below := fun b h => nomatch h
  step := fun i b b' e1 e2 => by simp at e2
  open_ := ⟨[], rfl⟩
  rows := rfl
  marks := fun b h i s e => by
    cases List.mem_singleton.mp h
    have e' : (([] : List St))[i]? = some (.mark s) := e
    simp at e'
theorem firstH_bn {tvs : List Value} {n : Nat} {Ts : List Ty} (ht : Ts.length = tvs.length) (h6 : tvs.length ≤ 6) (hn : n ≤ 2) (hl : n < Ts.length) (hz : ∀ U ∈ Ts, U.size ≤ 64) : Bn 60 2 1 6 (firstH tvs [argFr n]) [] Ts where
  sm := firstH_small (by lia) (by decide) (by lia)
  it := by show items [argFr n] ≤ 2; show (argFr n).length + 0 ≤ 2; rw [argFr_len]; lia
  fl := Nat.le_refl _
  hl := fun f hf x hx => by cases List.mem_singleton.mp hf; have := argFr_mem hx; lia
  tl := ht
  tz := by lia
  hz := hz
  rz := Nat.zero_le _
theorem Bn.spot {N I F T : Nat} {a : SA} {rows : List Rw} {Ts : List Ty} {z : Int} (B : Bn N I F T a rows Ts) : Bn N I F T { a with spot := z } rows Ts :=
  ⟨⟨B.sm.k, B.sm.s, B.sm.p, B.sm.l, B.sm.f, B.sm.i⟩, B.it, B.fl, B.hl, B.tl, B.tz, B.hz, B.rz⟩
theorem Bn.turn {i : Nat} {s : Int} {a a' : SA} {rows rows' : List Rw} {Ts Ts' : List Ty} (D : Deed s a rows Ts a' rows' Ts') (hh : a.here < a.blocks.length) (hi : i ≤ 16) (B : Bn (60 + 70 * i) (2 + i) (1 + i) (6 + i) a rows Ts) :
    Bn (60 + 70 * (i + 1)) (2 + (i + 1)) (1 + (i + 1)) (6 + (i + 1)) a' rows' Ts' := (D.bn hh B).le (by lia) (by lia) (by lia) (by lia)
theorem pop_eq {a : SA} {tb : Nat → Bool} {fs : List (List (Nat × Bool))} {f : List (Nat × Bool)} (e : a.frames = fs ++ [f]) : a.pop tb = { a.fin tb f with frames := fs } := by unfold SA.pop; rw [e]; simp
theorem pop_tvs {a : SA} {tb : Nat → Bool} {fs : List (List (Nat × Bool))} {f : List (Nat × Bool)} {N : Nat} (e : a.frames = fs ++ [f]) (hs : a.Small N) (hh : a.here < a.blocks.length) : (a.pop tb).tvs = a.tvs := by
  have G := SA.Good.fin (tb := tb) (f := f.reverse) (⟨hs, hh, rfl, e⟩ : a.Good a.tvs (fs ++ [f]) N)
  rw [pop_eq e]; exact G.tv
theorem pop_spot {a : SA} {tb : Nat → Bool} {pre : List Nat} {rows : List Rw} {fs : List (List (Nat × Bool))} {f : List (Nat × Bool)} (e : a.frames = fs ++ [f]) (I : Inv a pre rows) : (a.pop tb).spot = a.spot := by
  rw [pop_eq e]; exact (I.finF (tb := tb) (f := f)).2
structure LE (σ : Mp) (H : Hp) (l : La) (c : Cs) (c1 c2 : Addr) (s : SA) (rows : List Rw) (Ts : List Ty) : Prop where
  sc : Sc σ H c s
  w : LwP σ H l rows s.tvs Ts s.frames
  e1 : Ce σ H c1 (.ref l.src)
  e2 : Ce σ H c2 (.ref c.S)
theorem LE.kp {σ σ' : Mp} {H H' : Hp} {l : La} {c : Cs} {c1 c2 : Addr} {s : SA} {rows : List Rw} {Ts : List Ty} (Z : LE σ H l c c1 c2 s rows Ts) (X : HpIn σ H) (k : Kp σ H σ' H') (e : ∀ j : Kd, j.cl ≠ 3 → H' j = H j) : LE σ' H' l c c1 c2 s rows Ts :=
  ⟨Z.sc.mono (k.tk X) (fun j hj => e j (by rw [hj]; decide)), Z.w.stay X k (fun j hj => e j hj.2), Z.e1.kp k, Z.e2.kp k⟩
noncomputable def kpl : Kd → Bool
  | .src | .tab => true
  | .il i => i == 22 || i == 23 || i == 26 || i == 27
  | _ => false
theorem kplA {j : Kd} (h : kpl j = true) : mdA j = false := by
  cases j with
  | il i =>
    have h' : (i == 22 || i == 23 || i == 26 || i == 27) = true := h
    show decide (i < 5) = false
    simp only [Bool.or_eq_true, beq_iff_eq] at h'
    exact decide_eq_false (by lia)
  | _ => first | rfl | cases h
structure LB (σ : Mp) (H : Hp) (a c1 c2 : Addr) (co : Obj) (tvs ovs : List Value) (Tt To : List Ty) (D D2 D3 D4 : Addr) (n8 n9 n10 n11 : Nat) (pvs rvs : List Value) : Prop where
  z : L0 σ H a c1 c2 co
  tt : TysAre σ tvs Tt
  tl : H (.il 26) = some (D, lisO tvs n8)
  ot : TysAre σ ovs To
  ol : H (.il 27) = some (D2, lisO ovs n9)
  pt : All2 (PatIs σ) pvs tvs
  pl : H (.il 22) = some (D3, lisO pvs n10)
  rt : All2 (RowIs σ) rvs ovs
  rl : H (.il 23) = some (D4, lisO rvs n11)
theorem LB.kp {σ σ' : Mp} {H H' : Hp} {a c1 c2 : Addr} {co : Obj} {tvs ovs : List Value} {Tt To : List Ty} {D D2 D3 D4 : Addr} {n8 n9 n10 n11 : Nat} {pvs rvs : List Value} (Y : LB σ H a c1 c2 co tvs ovs Tt To D D2 D3 D4 n8 n9 n10 n11 pvs rvs) (X : HpIn σ H) (k : Kp σ H σ' H') (e : ∀ j, kpl j = true → H' j = H j) : LB σ' H' a c1 c2 co tvs ovs Tt To D D2 D3 D4 n8 n9 n10 n11 pvs rvs :=
  have tk := k.tk X
  ⟨Y.z.mv k (e _ rfl) (e _ rfl), Y.tt.tk tk, (e _ rfl).trans Y.tl, Y.ot.tk tk, (e _ rfl).trans Y.ol, Y.pt.imp fun _ _ z => z.tk tk, (e _ rfl).trans Y.pl, Y.rt.imp fun _ _ z => z.tk tk, (e _ rfl).trans Y.rl⟩
noncomputable def kpm : Kd → Bool
  | .src | .tab => true
  | .il i => i == 26 || i == 27
  | k => k.cl == 1
structure LC (σ : Mp) (H : Hp) (a c1 c2 : Addr) (c : Cs) (s : SA) (tvs ovs : List Value) (Tt To : List Ty) (D D2 : Addr) (n8 n9 : Nat) (avs : List Value) : Prop where
  src : SrcIs H a
  c1 : Ce σ H c1 (.ref a)
  c2 : Ce σ H c2 (.ref c.S)
  tb : TabIs σ H
  tt : TysAre σ tvs Tt
  tl : H (.il 26) = some (D, lisO tvs n8)
  ot : TysAre σ ovs To
  ol : H (.il 27) = some (D2, lisO ovs n9)
  sc : Sc σ H c s
  ar : Ul σ H c.args avs
theorem LC.kp {σ σ' : Mp} {H H' : Hp} {a c1 c2 : Addr} {c : Cs} {s : SA} {tvs ovs : List Value} {Tt To : List Ty} {D D2 : Addr} {n8 n9 : Nat} {avs : List Value} (Y : LC σ H a c1 c2 c s tvs ovs Tt To D D2 n8 n9 avs) (X : HpIn σ H) (k : Kp σ H σ' H') (e : ∀ j, kpm j = true → H' j = H j) : LC σ' H' a c1 c2 c s tvs ovs Tt To D D2 n8 n9 avs :=
  have tk := k.tk X
  ⟨Y.src.mono (e _ rfl), Y.c1.kp k, Y.c2.kp k, Y.tb.kp k (e _ rfl), Y.tt.tk tk, (e _ rfl).trans Y.tl, Y.ot.tk tk, (e _ rfl).trans Y.ol, Y.sc.mono tk (fun j hj => e j (by cases j <;> first | rfl | cases hj)), Y.ar.kp k⟩
theorem Ce.cput {σ : Mp} {H : Hp} {c ca : Addr} {v : Value} {o co : Obj} (X : Ce σ H c v) (_ : σ ca = some co) (n : c ≠ ca) : Ce (put σ ca o) H c v := let ⟨o', e', d, u⟩ := X; ⟨o', (put_ne n).trans e', d, u⟩
theorem Kp.addB {w : World} {md : Kd → Bool} {σ₀ σ : Mp} {H₀ H : Hp} {h₀ h : Heap} {L p : Addr} {o : Obj} {kd : Kd} {m : Str → Option Value} (_ : Bd w md σ₀ h₀ H₀ (put σ p o) (upd H kd p o) L h m) (e : σ p = none) : Kp σ H (put σ p o) (upd H kd p o) := Kp.add e
theorem isN_range {a n : Nat} {ai : Int} {vs : List Value} (va : vs.length = n) (vb : ∀ (i : Nat) v, vs[i]? = some v → ∃ t, v = .int (ai + i) t) (ha : ai = a) : All2 IsN vs (List.range' a n) := by
  refine All2.of_get (by rw [va, List.length_range']) fun i v x hv hx => ?_
  refine hide fun CCC kkk => ?_
  obtain ⟨tt, p⟩ := vb i v hv
  refine kkk ?_; clear kkk
  have lt := (List.getElem?_eq_some_iff.mp hv).1
  rw [va] at lt
  rw [List.getElem?_range' lt] at hx
  cases hx
  exact ⟨tt, p.trans (by rw [ha]; congr 1; push_cast; lia)⟩
theorem isN_snoc {a i : Nat} {vs : List Value} {v : Value} (h : All2 IsN vs (List.range' a i)) (e : IsN v (a + i)) : All2 IsN (vs ++ [v]) (List.range' a (i + 1)) := by
  rw [List.range'_concat, Nat.one_mul]; exact h.snoc e
theorem mdK1 {a j : Kd} (h1 : j ≠ a) : mdK [a] j = false := by
  cases q : mdK [a] j with
  | false => rfl
  | true => exact absurd (List.mem_singleton.mp (List.contains_iff_mem.mp q)) h1
section
variable {prog : Program} {w : World} {A : Around} {E : Value → Shared → Prop} {σ : Mp} {H : Hp} {h : Heap} {g : Array GenState} {d : Drawn} {t : Nat} {os : OsState} {Q : Value → Shared → Prop} {k : Nat}
theorem useName2 {md : Kd → Bool} {σ₀ : Mp} {H₀ : Hp} {h₀ : Heap} {L : Addr} {m : Str → Option Value} {env : Env} {D : Addr} {P : Heap → Nat → Prop} {y : Str} {py : Pos} {σ' : Mp} {H' : Hp} {h' : Heap} {t' : Nat} (B : Bd w md σ₀ h₀ H₀ σ' H' L h' m)
    (q : ∀ h₃, Bd w md σ₀ h₀ H₀ σ' H' L h₃ (ms y (.ref D) m) → P h₃ (t' + 1)) (hk : env.scope.kind = .function) (hl : env.kindOf y = some .local) (hL : env.locals = L) :
    wpAny (model prog w) A (assign (.Name y py) env (.ref D)) (fun _ s'' => ∃ σ₂ H₂ h₂ m₂ t₂, s'' = ⟨h₂, g, d, t₂, os⟩ ∧ Bd w md σ₀ h₀ H₀ σ₂ H₂ L h₂ m₂ ∧ (∀ C o, C ≠ L → σ' C = none → h'.get? C = some o → h₂.get? C = some o ∧ σ₂ C = none) ∧
          (∀ h₃, Bd w md σ₀ h₀ H₀ σ₂ H₂ L h₃ m₂ → P h₃ t₂)) E ⟨h', g, d, t', os⟩ := by
  subst hL
  refine wpAny_assign_Name (wpAny_storeName_local hl B.fm.ns (fun h2 hn hs => ?_) (by rw [hk]; rfl))
  exact ⟨σ', H', h2, _, _, rfl, B.with (B.fm.store hn hs), fun C o n e1 e2 => ⟨(hs.2 C n).trans e2, e1⟩, q⟩
theorem asg2G {md : Kd → Bool} {σ₀ : Mp} {H₀ : Hp} {h₀ : Heap} {L a : Addr} {m : Str → Option Value} {env : Env} {x y : Str} {px py pt : Pos} {x1 : Nat} {vx vy : Value} {Q : Unit → Shared → Prop} (B : Bd w md σ₀ h₀ H₀ σ H L h m) (ht : TO σ a [vx, vy]) (hh : A.handled = none)
    (q : ∀ h', Bd w md σ₀ h₀ H₀ σ H L h' (ms y vy (ms x vx m)) → Q () ⟨h', g, d, t + 1 + 1, os⟩)
    (hk : env.scope.kind = .function) (hx : env.kindOf x = some .local) (hy : env.kindOf y = some .local) (hL : env.locals = L) :
    wpAny (model prog w) A (assign (.Tuple [.Name x px, .Name y py] x1 pt) env (.ref a)) Q E ⟨h, g, d, t, os⟩ := by
  refine wpAny_assign_Tuple hh ⟨_, B.fm.ok.sub _ _ ht, rfl, 0, rfl⟩ rfl rfl fun h' e => ?_
  have B1 := B.with (B.fm.ext e (noneAt B.fm))
  show wpAny _ A (do holding [vy] (assign (.Name x px) env vx); do holding [] (assign (.Name y py) env vy); pure ()) _ _ _
  refine wpAny_bind (wpAny_holding (wpAny_assign_Name (stG B1 (fun h2 B2 => ?_) hk hx hL)))
  exact wpAny_bind (wpAny_holding (wpAny_assign_Name (stG B2 (fun h4 B4 => wpAny_pure (q _ B4)) hk hy hL)))
theorem law_spec {sc : Addr} {svs : List Value} (O : Ok w σ h) (R : Room 80 A) (X : HpIn σ H) (l : LO σ sc svs) (hv : ∀ v ∈ svs, ∃ i t, v = .int i t) (hz : svs.length ≤ 1000) (T : TabIs σ H)
    (q : ∀ h' t' σ' H', Nx w mdU σ h H σ' h' H' → TabIs σ' H' → Q (.bool true) ⟨h', g, d, t', os⟩) :
    wpAny (model prog w) A (call (.ref 428) [.ref sc]) Q E ⟨h, g, d, t, os⟩ := by
  refine' enterC (md := mdU) (binds := [("script", .ref sc)]) O R X ?a1 ?a2 ?a3 ?a4 ?_ ?a5 ?a6 ?a7
  case a1 => rfl
  case a2 => kernel_rfl
  case a3 => rfl
  case a4 => intro n y hy; cases List.mem_singleton.mp hy; exact .inl rfl
  case a5 => rfl
  case a6 => rfl
  case a7 => rfl
  intro L h₁ t' B cf
  refine hide fun CCC kkk => ?_
  obtain ⟨co, c1, c2, c3, c4, c5, c6⟩ := cf "source" (L + 1) rfl
  refine kkk ?_; clear kkk
  refine hide fun CCC kkk => ?_
  obtain ⟨co2, d1, d2, d3, d4, d5, d6⟩ := cf "scopes" (L + 2) rfl
  refine kkk ?_; clear kkk
  clear cf
  have ne21 : (L + 2 : Addr) ≠ L + 1 := fun e => absurd (Nat.add_left_cancel (show (L : Nat) + 2 = L + 1 from e)) (by decide)
  replace B := B.know c1 c4 c3 c5 c6
  have d4' : put σ (L + 1) co (L + 2) = none := (put_ne ne21).trans d4
  replace B := B.know d1 d4' d3 d5 d6
  have U1 : Untr H (L + 1) := X.untr_new c4
  have U2 : Untr H (L + 2) := X.untr_new d4
  have K0 : Kp σ H (put (put σ (L + 1) co) (L + 2) co2) H := (Kp.of_le (Le.put c4 _)).trans (Kp.of_le (Le.put d4' _))
  replace T := T.kp K0 rfl
  have e1 : put (put σ (L + 1) co) (L + 2) co2 (L + 1) = some co := (put_ne (Ne.symm ne21)).trans put_self
  have e2 : put (put σ (L + 1) co) (L + 2) co2 (L + 2) = some co2 := put_self
  replace l : LO (put (put σ (L + 1) co) (L + 2) co2) sc svs := l.le ((Le.put c4 _).trans (Le.put d4' _))
  repeat walk_at "x"
  refine pool_spec B.fm.ok (R.deeper.le (by decide)) B.hp l hv hz fun h2 t2 σ2 H2 a N S => ?_
  replace T := T.kp N.kp (N.ag _ rfl)
  have p1 := N.kp _ _ e1 U1
  have p2 := N.kp _ _ e2 U2
  refine hide fun CCC kkk => ?_
  obtain ⟨U1a, U1b⟩ := p1
  refine kkk ?_; clear kkk
  refine hide fun CCC kkk => ?_
  obtain ⟨U2a, U2b⟩ := p2
  refine kkk ?_; clear kkk
  replace B := B.call N (fun _ e => nomatch e)
  clear N K0 e1 e2
  repeat walk_at "x"
  refine stCe B U1a c2 U1b c4 c6 rfl ?_ rfl rfl
  intro h3 o3 hce B
  have Z : L0 _ _ a (L + 1) (L + 2) co2 := ⟨S, ⟨o3, put_self, hce, U1b⟩, ⟨(put_ne ne21).trans U2a, U2b⟩, T.cput (o := o3) U1a c2⟩
  clear T U1a U1b U2a U2b S l
  have CE := Z.ce
  repeat walk_at "x"
  refine listCompSet rfl rfl rfl (by decide) ?_ (fun _ => rfl)
  repeat walk_at "x"
  refine take_spec B.fm.ok (R.deeper.le (by decide)) B.hp Z.src (by decide) (by decide) fun h4 t4 σ4 H4 r tk N S hr0 hr1 => ?_
  replace Z := Z.take N S
  replace B := B.call N (fun _ e => nomatch e)
  clear N S CE
  repeat walk_at "x"
  refine range1B B fun rg h5 t5 u1 u3 f1 B => ?_
  replace Z := Z.mv (Kp.of_le (B.lp f1)) rfl rfl
  have lrg := B.newO
  repeat walk_at "x"
  refine hide fun CCC kkk => ?_
  obtain ⟨n, rfl⟩ := Int.eq_ofNat_of_zero_le hr0
  refine kkk ?_; clear kkk
  have X5 := B.hp
  refine startRange (k := .it 10) (n := n) B lrg (by decide) (by lia) (by lia) rfl fun it h6 f2 B2 => ?_
  have K6 := Kp.add (H := H4) (k := .it 10) (o := rngO (0 + (0 : Nat)) ((n : Int) - (0 : Nat))) f2
  refine compRun (n := n) (Itr.range (k := .it 10) (it := it) (a := 0) (n := n) R.hnd tgtN) (.il 26)
    (fun i σ' H' ys => L0 σ' H' a (L + 1) (L + 2) co2 ∧ ∃ Ts, TysAre σ' ys Ts ∧ Ts.length = i) B2 ?_ rfl rfl ?_ upd_self ?_ (by lia) (by decide) rfl ?_ ?_ ?_ ?_
  · intro k hk; rfl
  · intro k a' o' hk e
    rw [of_decide_eq_true hk, upd_self] at e; cases e
    exact Bd.new B f2
  · exact ⟨Z.mv K6 (upd_ne nofun) (upd_ne nofun), [], TysAre.nil, rfl⟩
  · intro i σ H σ' H' ys X X' kp oth zzq10
    refine hide fun CCC kkk => ?_
    obtain ⟨z1, Ts, z2, z3⟩ := zzq10
    refine kkk ?_; clear kkk
    exact ⟨z1.mv kp (oth _ rfl nofun) (oth _ rfl nofun), Ts, z2.tk (kp.tk X), z3⟩
  · rintro i σ H ys X _; trivial
  · intro i v ys σ1 H1 hb C h3 m3 t3 QQ NN fin hi zzq14 zzq15 B
    refine hide fun CCC kkk => ?_
    obtain ⟨tk, rfl⟩ := zzq14
    obtain ⟨z1, Ts, z2, z3⟩ := zzq15
    refine kkk ?_; clear kkk
    have CE := z1.ce
    refine wpAny_assign_Name ?_
    repeat walk_at "x"
    refine wpAny_tests_nil ?_
    repeat walk_at "x"
    rename Bd _ _ _ _ _ _ _ _ _ _ => B
    refine type_spec 2 B.fm.ok (R.deeper.le (by decide)) B.hp z1.src (by decide) fun h4 t4 σ4 H4 v T N S hT hTs => ?_
    have TK := N.kp.tk B.hp
    exact fin.yes (B.call N (fun _ e => nomatch e)) ⟨z1.take N S, Ts ++ [T], (z2.tk TK).snoc hT (Nat.le_trans hTs (by decide)), by simp [z3]⟩ (fun k hk => by rw [of_decide_eq_true hk]; exact N.ag _ rfl) (N.ag _ rfl)
  · intro D σ1 H1 h8 t8 tvs n8 zzq7 B hD hy
    refine hide fun CCC kkk => ?_
    obtain ⟨z1, Tt, z2, z3⟩ := zzq7
    refine kkk ?_; clear kkk
    show wpAny _ _ _ _ _ _
    refine useName2 B (fun h9 B => ?_) ?u1 ?u2 ?u3
    case u1 => rfl
    case u2 => rfl
    case u3 => rfl
    clear Z K6 X5 B2 lrg
    have CE := z1.ce
    repeat walk_at "x"
    refine listCompSet rfl rfl rfl (by decide) ?_ (fun _ => rfl)
    repeat walk_at "x"
    refine take_spec B.fm.ok (R.deeper.le (by decide)) B.hp z1.src (by decide) (by decide) fun h4 t4 σ4 H4 r2 tk2 N S hr2 hr3 => ?_
    have Z := z1.take N S
    have tv := z2.tk (N.kp.tk B.hp)
    replace hD := (N.ag (.il 26) rfl).trans hD
    replace B := B.call N (fun _ e => nomatch e)
    clear N S CE z1 z2
    repeat walk_at "x"
    refine range1B B fun rg2 h5 t5 u4 u5 f3 B => ?_
    replace Z := Z.mv (Kp.of_le (B.lp f3)) rfl rfl
    replace tv := tv.tk (B.lp f3).tk
    have lrg := B.newO
    repeat walk_at "x"
    refine hide fun CCC kkk => ?_
    obtain ⟨n2, rfl⟩ := Int.eq_ofNat_of_zero_le hr2
    refine kkk ?_; clear kkk
    have X5 := B.hp
    refine startRange (k := .it 10) (n := n2) B lrg (by decide) (by lia) (by lia) rfl fun it2 h6 f4 B2 => ?_
    have K6 := Kp.add (H := H4) (k := .it 10) (o := rngO (0 + (0 : Nat)) ((n2 : Int) - (0 : Nat))) f4
    refine compRun (n := n2) (Itr.range (k := .it 10) (it := it2) (a := 0) (n := n2) R.hnd tgtN) (.il 27)
      (fun i σ' H' ys => L0 σ' H' a (L + 1) (L + 2) co2 ∧ TysAre σ' tvs Tt ∧ H' (.il 26) = some (D, lisO tvs n8) ∧ ∃ Ts, TysAre σ' ys Ts ∧ Ts.length = i) B2 ?_ rfl rfl ?_ upd_self ?_ (by lia) (by decide) rfl ?_ ?_ ?_ ?_
    · intro k hk; rfl
    · intro k a' o' hk e
      rw [of_decide_eq_true hk, upd_self] at e; cases e
      exact Bd.new B f4
    · exact ⟨Z.mv K6 (upd_ne nofun) (upd_ne nofun), tv.tk (K6.tk X5), upk hD, [], TysAre.nil, rfl⟩
    · intro i σ H σ' H' ys X X' kp oth zzq10
      refine hide fun CCC kkk => ?_
      obtain ⟨z1, y1, y2, Ts, z2, z3⟩ := zzq10
      refine kkk ?_; clear kkk
      exact ⟨z1.mv kp (oth _ rfl nofun) (oth _ rfl nofun), y1.tk (kp.tk X), (oth (.il 26) rfl nofun).trans y2, Ts, z2.tk (kp.tk X), z3⟩
    · rintro i σ H ys X _; trivial
    · intro i v ys σ1 H1 hb C h3 m3 t3 QQ NN fin hi zzq14 zzq15 B
      refine hide fun CCC kkk => ?_
      obtain ⟨tk, rfl⟩ := zzq14
      obtain ⟨z1, y1, y2, Ts, z2, z3⟩ := zzq15
      refine kkk ?_; clear kkk
      have CE := z1.ce
      refine wpAny_assign_Name ?_
      repeat walk_at "x"
      refine wpAny_tests_nil ?_
      repeat walk_at "x"
      rename Bd _ _ _ _ _ _ _ _ _ _ => B
      refine type_spec 2 B.fm.ok (R.deeper.le (by decide)) B.hp z1.src (by decide) fun h4 t4 σ4 H4 v T N S hT hTs => ?_
      have TK := N.kp.tk B.hp
      exact fin.yes (B.call N (fun _ e => nomatch e)) ⟨z1.take N S, y1.tk TK, (N.ag (.il 26) rfl).trans y2, Ts ++ [T], (z2.tk TK).snoc hT (Nat.le_trans hTs (by decide)), by simp [z3]⟩ (fun k hk => by rw [of_decide_eq_true hk]; exact N.ag _ rfl) (N.ag _ rfl)
    · intro D2 σ1 H1 h8 t8 ovs n9 zzq7 B hD2 hy2
      refine hide fun CCC kkk => ?_
      obtain ⟨z1, y1, y2, To, z2, zo⟩ := zzq7
      refine kkk ?_; clear kkk
      show wpAny _ _ _ _ _ _
      refine useName2 B (fun h9 B => ?_) ?u1 ?u2 ?u3
      case u1 => rfl
      case u2 => rfl
      case u3 => rfl
      clear Z K6 X5 B2 lrg
      repeat walk_at "x"
      refine listCompSet rfl (closureFor_none (by decide)) rfl (by decide) ?_ (fun _ => rfl)
      repeat walk_at "x"
      have X7 := B.hp
      refine enumB (k := .it 10) (k2 := .it 11) B ⟨_, B.hp.at_ _ _ _ y2⟩ rfl rfl nofun fun en it h10 oi e7 e8 e9 BE => ?_
      have K7 := (Kp.add (H := H1) (k := .it 11) (o := oi) e7).trans (Kp.add (k := .it 10) (o := enO it 0 .none) e8)
      repeat walk_at "x"
      refine wpAny_pyIter_enum (BE.fm.ok.sub _ _ (BE.hp.at_ (.it 10) _ _ upd_self)) ?_
      have tl : tvs.length ≤ 2 := by lia
      refine compRun (n := tvs.length) (Itr.enum (D := D) (vs := tvs) (k := .it 10) (k2 := .it 11) R.hnd nofun) (.il 22)
        (fun i σ' H' ys => L0 σ' H' a (L + 1) (L + 2) co2 ∧ TysAre σ' tvs Tt ∧ H' (.il 26) = some (D, lisO tvs n8) ∧ TysAre σ' ovs To ∧ H' (.il 27) = some (D2, lisO ovs n9) ∧ All2 (PatIs σ') ys (tvs.take i)) BE ?_ rfl rfl ?_ ⟨oi, .none, upd_self, upk upd_self, e9⟩ ?_ (by lia) (by decide) rfl ?_ ?_ ?_ ?_
      · intro k hk; rfl
      · intro k a' o' hk e
        have : k = .it 10 ∨ k = .it 11 := by simpa using hk
        rcases this with rfl | rfl
        · rw [upd_self] at e; cases e
          exact Bd.new B (put_none e8)
        · have e' := (upk upd_self : upd (upd H1 (.it 11) it oi) (.it 10) en (enO it 0 .none) (.it 11) = _).symm.trans e
          cases e'
          exact Bd.new B e7
      · exact ⟨z1.mv K7 (upk (upk rfl)) (upk (upk rfl)), y1.tk (K7.tk X7), upk (upk y2), z2.tk (K7.tk X7), upk (upk hD2), .nil⟩
      · intro i σ H σ' H' ys X X' kp oth zzq10
        refine hide fun CCC kkk => ?_
        obtain ⟨z1, z2, z3, z4, z5, z6⟩ := zzq10
        refine kkk ?_; clear kkk
        exact ⟨z1.mv kp (oth _ rfl nofun) (oth _ rfl nofun), z2.tk (kp.tk X), (oth (.il 26) rfl nofun).trans z3, z4.tk (kp.tk X), (oth (.il 27) rfl nofun).trans z5, z6.imp fun _ _ z => z.tk (kp.tk X)⟩
      · rintro i σ H ys X ⟨z1, z2, z3, z4, z5, z6⟩; exact ⟨_, X.at_ _ _ _ z3⟩
      · intro i v ys σ1 H1 hb C h3 m3 t3 QQ NN fin hi zzq14 zzq15 B
        refine hide fun CCC kkk => ?_
        obtain ⟨T, tT, x, rfl, lT, hx⟩ := zzq14
        obtain ⟨z1, z2, z3, z4, z5, z6⟩ := zzq15
        refine kkk ?_; clear kkk
        refine asg2G B lT R.hnd (fun h4 B => ?_) rfl rfl rfl rfl
        refine wpAny_tests_nil ?_
        repeat walk_at "x"
        refine newTupleB B (by exact Nat.le_of_ble_eq_true rfl) fun ty h9 f1 f2 B => ?_
        have K := Kp.of_le (H := H1) (B.lp f1)
        have TK := (B.lp f1).tk
        refine fin.yes B ⟨z1.mv K rfl rfl, z2.tk TK, z3, z4.tk TK, z5, ?_⟩ (fun _ _ => rfl) rfl
        rw [List.take_add_one, hx]
        exact (z6.imp fun _ _ z => z.tk TK).snoc ⟨ty, _, rfl, B.newT, rfl⟩
      · clear z1 z2 y1 y2 hD2 hD z3 tv
        intro D3 σ1 H1 h8 t8 pvs n10 zzq7 B hD3 hy3
        refine hide fun CCC kkk => ?_
        obtain ⟨z1, z2, z3, z4, z5, z6⟩ := zzq7
        refine kkk ?_; clear kkk
        rw [List.take_length] at z6
        show wpAny _ _ _ _ _ _
        refine useName2 B (fun h9 B => ?_) ?u1 ?u2 ?u3
        case u1 => rfl
        case u2 => rfl
        case u3 => rfl
        clear K7 BE e7 e8 e9
        repeat walk_at "x"
        refine listComp (closureFor_none (by decide)) rfl (by decide) ?_ (fun _ => rfl)
        repeat walk_at "x"
        rename Bd _ _ _ _ _ _ _ _ _ _ => B
        have X8 := B.hp
        refine startList (k := .it 10) B ⟨_, B.hp.at_ _ _ _ z5⟩ rfl fun it2 h15 oi2 g3 g4 B2 => ?_
        have K8 := Kp.add (H := H1) (k := .it 10) (o := oi2) g3
        refine compRun (n := ovs.length) (Itr.list (D := D2) (vs := ovs) (k := .it 10) R.hnd tgtN) (.il 23)
          (fun i σ' H' ys => L0 σ' H' a (L + 1) (L + 2) co2 ∧ TysAre σ' tvs Tt ∧ H' (.il 26) = some (D, lisO tvs n8) ∧ TysAre σ' ovs To ∧ H' (.il 27) = some (D2, lisO ovs n9) ∧ All2 (PatIs σ') pvs tvs ∧ H' (.il 22) = some (D3, lisO pvs n10) ∧ All2 (RowIs σ') ys (ovs.take i)) B2 ?_ rfl rfl ?_ ⟨oi2, upd_self, g4⟩ ?_ (by lia) (by decide) rfl ?_ ?_ ?_ ?_
        · intro k hk; rfl
        · intro k a' o' hk e
          rw [of_decide_eq_true hk, upd_self] at e; cases e
          exact Bd.new B g3
        · exact ⟨z1.mv K8 (upk rfl) (upk rfl), z2.tk (K8.tk X8), upk z3, z4.tk (K8.tk X8), upk z5, z6.imp fun _ _ z => z.tk (K8.tk X8), upk hD3, .nil⟩
        · intro i σ H σ' H' ys X X' kp oth zzq10
          refine hide fun CCC kkk => ?_
          obtain ⟨z1, z2, z3, z4, z5, z6, z7, z8⟩ := zzq10
          refine kkk ?_; clear kkk
          exact ⟨z1.mv kp (oth _ rfl nofun) (oth _ rfl nofun), z2.tk (kp.tk X), (oth (.il 26) rfl nofun).trans z3, z4.tk (kp.tk X), (oth (.il 27) rfl nofun).trans z5, z6.imp fun _ _ z => z.tk (kp.tk X), (oth (.il 22) rfl nofun).trans z7, z8.imp fun _ _ z => z.tk (kp.tk X)⟩
        · rintro i σ H ys X ⟨z1, z2, z3, z4, z5, z6, z7, z8⟩; exact ⟨_, X.at_ _ _ _ z5⟩
        · intro i v ys σ1 H1 hb C h3 m3 t3 QQ NN fin hi hx zzq15 B
          refine hide fun CCC kkk => ?_
          obtain ⟨z1, z2, z3, z4, z5, z6, z7, z8⟩ := zzq15
          refine kkk ?_; clear kkk
          replace hx : ovs[i]? = some v := hx
          refine wpAny_assign_Name ?_
          repeat walk_at "x"
          refine wpAny_tests_nil ?_
          repeat walk_at "x"
          rename Bd _ _ _ _ _ _ _ _ _ _ => B
          refine newTupleB B (by exact Nat.le_of_ble_eq_true rfl) fun ty h9 f1 f2 B => ?_
          have K := Kp.of_le (H := H1) (B.lp f1)
          have TK := (B.lp f1).tk
          refine fin.yes B ⟨z1.mv K rfl rfl, z2.tk TK, z3, z4.tk TK, z5, z6.imp fun _ _ z => z.tk TK, z7, ?_⟩ (fun _ _ => rfl) rfl
          rw [List.take_add_one, hx]
          exact (z8.imp fun _ _ z => z.tk TK).snoc ⟨ty, rfl, B.newT⟩
        · clear z1 z2 z3 z4 z5 z6 hD3
          intro D4 σ1 H1 h8 t8 rvs n11 zzq7 B hD4 hy4
          refine hide fun CCC kkk => ?_
          obtain ⟨z1, z2, z3, z4, z5, z6, z7, z8⟩ := zzq7
          refine kkk ?_; clear kkk
          rw [List.take_length] at z8
          clear K8 B2
          show wpAny _ _ _ _ _ _
          repeat walk_at "x"
          rename Bd _ _ _ _ _ _ _ _ _ _ => B
          have Y : LB σ1 H1 a (L + 1) (L + 2) co2 tvs ovs Tt To D D2 D3 D4 n8 n9 n10 n11 pvs rvs := ⟨z1, z2, z3, z4, z5, z6, z7, z8, hD4⟩
          have ol : ovs.length ≤ 3 := by lia
          clear z1 z2 z3 z4 z5 z6 z7 z8 hD4 X8 g3 g4
          have X9 := B.hp
          refine classB (.il 20) (.il 21) B (by kernel_rfl) (fI := 325) (by kernel_rfl) (by kernel_rfl) rfl rfl fun TF TFD h18 e18 e19 B => ?_
          replace Y := Y.kp X9 (Kp.add2B B e18 e19) (fun j hj => (upd_ne (by rintro rfl; cases hj)).trans (upd_ne (by rintro rfl; cases hj)))
          have htf := selfB B
          have X10 := B.hp
          refine tf_init (.il 21) B.fm.ok (R.deeper.le (by decide) : Room 2 _).under B.hp (B.hp.at_ _ _ _ htf) (keepB B upd_self nofun) fun h19 t19 σ9 H9 odT N b1 b2 => ?_
          replace Y := Y.kp X10 N.kp (fun j hj => N.ag j (mdK1 (by rintro rfl; cases hj)))
          replace htf := (N.ag (.il 20) (mdK1 nofun)).trans htf
          replace B := B.call N (fun _ e => nomatch e)
          clear N X9 X10 e18 e19
          refine ⟨rfl, ?_⟩
          repeat walk_at "x"
          have X11 := B.hp
          refine classB (.il 24) (.il 25) B (by kernel_rfl) (fI := 347) (by kernel_rfl) (by kernel_rfl) rfl rfl fun WO WD h20 e20 e21 B => ?_
          replace Y := Y.kp X11 (Kp.add2B B e20 e21) (fun j hj => (upd_ne (by rintro rfl; cases hj)).trans (upd_ne (by rintro rfl; cases hj)))
          have hwo := selfB B
          replace htf := keep2B B htf nofun nofun
          have htd := keep2B B b2 nofun nofun
          have X12 := B.hp
          refine world_init (.il 25) B.fm.ok (R.deeper.le (by decide) : Room 2 _).under B.hp (B.hp.at_ _ _ _ hwo) (keepB B upd_self nofun) fun h21 t21 σ10 H10 odW am sg N b3 b4 b5 b6 b7 b8 => ?_
          replace Y := Y.kp X12 N.kp (fun j hj => N.ag j (mdK1 (by rintro rfl; cases hj)))
          replace htf := (N.ag (.il 20) (mdK1 nofun)).trans htf
          replace htd := (N.ag (.il 21) (mdK1 nofun)).trans htd
          replace hwo := (N.ag (.il 24) (mdK1 nofun)).trans hwo
          replace B := B.call N (fun _ e => nomatch e)
          clear N X11 X12 e20 e21 b2
          refine ⟨rfl, ?_⟩
          repeat walk_at "x"
          have X13 := B.hp
          refine classB .sc .scD B (by kernel_rfl) (fI := 191) (by kernel_rfl) (by kernel_rfl) rfl rfl fun S SD h22 e22 e23 B => ?_
          have K13 := Kp.add2B B e22 e23
          replace Y := Y.kp X13 K13 (fun j hj => (upd_ne (by rintro rfl; cases hj)).trans (upd_ne (by rintro rfl; cases hj)))
          have hS := selfB B
          replace htf := keep2B B htf nofun nofun
          replace htd := keep2B B htd nofun nofun
          replace hwo := keep2B B hwo nofun nofun
          replace b4 := keep2B B b4 nofun nofun
          have X14 := B.hp
          refine scopes_init B.fm.ok (R.deeper.le (by decide) : Room 7 _).under B.hp hS (keepB B upd_self nofun) htf htd b1 hwo b4 b3 b5 (K13 _ _ b6 b7) b8 Y.pl Y.rl Y.pt Y.rt (by lia) (by lia) fun h23 t23 σ11 H11 c avs N Ys w1 w2 w3 w4 w5 w6 => ?_
          replace Y := Y.kp X14 N.kp (fun j hj => N.ag j (kplA hj))
          replace B := B.call N (fun _ e => nomatch e)
          refine ⟨rfl, ?_⟩
          show wpAny _ _ _ _ _ _
          repeat walk_at "x"
          rename Bd _ _ _ _ _ _ _ _ _ _ => B
          refine hide fun CCC kkk => ?_
          obtain ⟨U2a, U2b⟩ := Y.z.c2
          refine kkk ?_; clear kkk
          refine stCe B U2a d2 U2b d4 d6 rfl ?_ rfl rfl
          intro h24 o4 hce2 B
          subst w1
          have Y : LC _ _ a (L + 1) (L + 2) c (SA.first (.ref 362 :: (tvs ++ ovs))) tvs ovs Tt To D D2 n8 n9 avs :=
            have tk := Tk.cput (o := o4) U2a d2
            ⟨Y.z.src, Ce.cput Y.z.ce U2a (Ne.symm ne21), ⟨o4, put_self, hce2, U2b⟩, Y.z.tb.cput U2a d2, Y.tt.tk tk, Y.tl, Y.ot.tk tk, Y.ol, Ys.cput (o := o4) U2a d2, w5.cput U2a d2⟩
          clear Ys w5 N X14 K13 hS htf htd hwo b1 b3 b4 b5 b6 b7 b8 U2a U2b X13 e22 e23
          have X15 := B.hp
          repeat walk_at "x"
          refine newListB B (by exact Nat.le_of_ble_eq_true rfl) fun l0 h25 e25 _ B => ?_
          replace Y := Y.kp X15 (Kp.of_le (B.lp e25)) (fun _ _ => rfl)
          have ll0 := B.newO
          repeat walk_at "x"
          have X16 := B.hp
          refine addLisK (.il 28) B ⟨_, ll0⟩ ⟨_, B.hp.at_ _ _ _ Y.tl⟩ (by show 1 + tvs.length ≤ 1000000; lia) rfl fun l1 h26 n26 e26 _ B => ?_
          replace Y := Y.kp X16 (Kp.addB B e26) (fun j hj => upd_ne (by rintro rfl; cases hj))
          have hl1 := selfB B
          repeat walk_at "x"
          have X17 := B.hp
          refine addLisK .tys B ⟨_, B.hp.at_ _ _ _ hl1⟩ ⟨_, B.hp.at_ _ _ _ Y.ol⟩ (by simp; lia) rfl fun l2 h27 n27 e27 _ B => ?_
          have Z : LC _ _ a (L + 1) (L + 2) c (SA.first (.ref 362 :: (tvs ++ ovs))) tvs ovs Tt To D D2 n8 n9 avs := Y.kp X17 (Kp.addB B e27) (fun j hj => upd_ne (by rintro rfl; cases hj))
          have hty : _ = some (l2, lisO (.ref 362 :: (tvs ++ ovs)) n27) := selfB B
          clear Y X15 X16 X17 hl1 ll0 e25 e26 e27
          have CE2 := Z.c2
          refine hide fun CCC kkk => ?_
          obtain ⟨g1, g2, IS⟩ := Z.sc.objS B.hp
          refine kkk ?_; clear kkk
          repeat walk_at "x"
          rename Bd _ _ _ _ _ _ _ _ _ _ => B
          refine lenF B.fm ⟨_, B.hp.at_ _ _ _ Z.tl⟩ (by lia) fun tk5 t9 => ?_
          repeat walk_at "x"
          have X18 := B.hp
          refine range2B B fun rg3 h28 t10 tk6 e28 B => ?_
          replace Z := Z.kp X18 (Kp.of_le (B.lp e28)) (fun _ _ => rfl)
          have lrg := B.newO
          repeat walk_at "x"
          have X19 := B.hp
          refine listRangeB (n := tvs.length) B R.hnd lrg (by decide) (by lia) (by lia) fun ar2 h29 t11 bvs n12 e29 va vb B => ?_
          replace Z := Z.kp X19 (Kp.of_le (B.lp e29)) (fun _ _ => rfl)
          refine neInts B.fm (R.deeper.le (by decide)) Z.ar.lo ⟨_, put_self⟩ w6 (isN_range va vb rfl) ?_
          have CE3 := Z.c2
          repeat walk_at "x"
          refine listComp rfl rfl (by decide) ?_ (fun _ => rfl)
          repeat walk_at "x"
          clear X18 X19 lrg e28 e29 va vb CE2 IS g1 g2
          refine lenF B.fm ⟨_, B.hp.at_ _ _ _ Z.ol⟩ (by lia) fun tk7 t12 => ?_
          repeat walk_at "x"
          have X20 := B.hp
          refine range1B B fun rg4 h30 t13 u6 u7 e30 B => ?_
          replace Z := Z.kp X20 (Kp.of_le (B.lp e30)) (fun _ _ => rfl)
          have lrg := B.newO
          repeat walk_at "x"
          have X21 := B.hp
          refine startRange (k := .it 10) (n := ovs.length) B lrg (by decide) (by lia) (by lia) rfl fun it5 h31 e31 B2 => ?_
          refine compRun (n := ovs.length) (Itr.range (k := .it 10) (it := it5) (a := 0) (n := ovs.length) R.hnd tgtN) (.il 29)
            (fun i σ' H' ys => LC σ' H' a (L + 1) (L + 2) c (SA.first (.ref 362 :: (tvs ++ ovs))) tvs ovs Tt To D D2 n8 n9 avs ∧ H' .tys = some (l2, lisO (.ref 362 :: (tvs ++ ovs)) n27) ∧ All2 IsN ys (List.range' (tvs.length + 1) i)) B2 ?_ rfl rfl ?_ upd_self ?_ (by lia) (by decide) rfl ?_ ?_ ?_ ?_
          · intro k hk; rfl
          · intro k a' o' hk e
            rw [of_decide_eq_true hk, upd_self] at e; cases e
            exact Bd.new B e31
          · exact ⟨Z.kp X21 (Kp.addB B2 e31) (fun j hj => upd_ne (by rintro rfl; cases hj)), upk hty, .nil⟩
          · intro i σ H σ' H' ys X X' kp oth zzq10
            refine hide fun CCC kkk => ?_
            obtain ⟨z1, z2, z3⟩ := zzq10
            refine kkk ?_; clear kkk
            exact ⟨z1.kp X kp (fun j hj => oth j (decide_eq_false (by rintro rfl; cases hj)) (by rintro rfl; cases hj)), (oth .tys rfl nofun).trans z2, z3⟩
          · rintro i σ H ys X _; trivial
          · intro i v ys σ1 H1 hb C h3 m3 t3 QQ NN fin hi zzq14 zzq15 B
            refine hide fun CCC kkk => ?_
            obtain ⟨tk, hv'⟩ := zzq14
            obtain ⟨z1, z2, z3⟩ := zzq15
            refine kkk ?_; clear kkk
            rw [Int.zero_add] at hv'; subst hv'
            have CE := z1.c2
            refine hide fun CCC kkk => ?_
            obtain ⟨g1, g2, IS⟩ := z1.sc.objS B.hp
            refine kkk ?_; clear kkk
            refine wpAny_assign_Name ?_
            repeat walk_at "x"
            refine wpAny_tests_nil ?_
            repeat walk_at "x"
            rename Bd _ _ _ _ _ _ _ _ _ _ => B
            refine user_spec B.fm.ok (R.deeper.le (by decide)) IS rfl fun h5 t5 tk8 P => ?_
            refine fin.yes (B.pure P) ⟨z1, z2, isN_snoc z3 ⟨tk8, ?_⟩⟩ (fun _ _ => rfl) rfl
            rw [w2]; rfl
          · clear Z X20 X21 lrg B2 e30 e31 hty CE3
            intro D5 σ1 H1 h8 t8 cvs n13 zzq7 B hD5 hy5
            refine hide fun CCC kkk => ?_
            obtain ⟨Z, hty, z3⟩ := zzq7
            refine kkk ?_; clear kkk
            have CE := Z.c2
            show wpAny _ _ _ _ _ _
            repeat walk_at "x"
            refine lenF B.fm ⟨_, B.hp.at_ _ _ _ Z.tl⟩ (by lia) fun tk5 t9 => ?_
            repeat walk_at "x"
            refine lenF B.fm ⟨_, B.hp.at_ _ _ _ hty⟩ (by simp; lia) fun tk6 t10 => ?_
            repeat walk_at "x"
            have X18 := B.hp
            refine range2B B fun rg3 h28 t11 tk9 e28 B => ?_
            replace Z := Z.kp X18 (Kp.of_le (B.lp e28)) (fun _ _ => rfl)
            have lrg := B.newO
            have hD5' := hD5
            repeat walk_at "x"
            have X19 := B.hp
            refine listRangeB (n := ovs.length) B R.hnd lrg (by lia) (by simp; lia) (by simp; lia) fun ar3 h29 t12 dvs n14 e29 va vb B => ?_
            replace Z := Z.kp X19 (Kp.of_le (B.lp e29)) (fun _ _ => rfl)
            refine neInts B.fm (R.deeper.le (by decide)) ⟨_, B.hp.at_ _ _ _ hD5⟩ ⟨_, put_self⟩ z3 (isN_range va vb (by push_cast; lia)) ?_
            clear X18 X19 lrg e28 e29 va vb CE hD5 hD5' z3
            have CE3 := Z.c2
            repeat walk_at "x"
            refine listComp rfl rfl (by decide) ?_ (fun _ => rfl)
            repeat walk_at "x"
            refine lenF B.fm ⟨_, B.hp.at_ _ _ _ hty⟩ (by simp; lia) fun tk7 t13 => ?_
            repeat walk_at "x"
            have X20 := B.hp
            refine range1B B fun rg4 h30 t14 u6 u7 e30 B => ?_
            replace Z := Z.kp X20 (Kp.of_le (B.lp e30)) (fun _ _ => rfl)
            have lrg := B.newO
            repeat walk_at "x"
            have X21 := B.hp
            have tz : (Value.ref 362 :: (tvs ++ ovs)).length = 1 + tvs.length + ovs.length := by simp; lia
            refine startRange (k := .it 10) (n := 1 + tvs.length + ovs.length) B lrg (by decide) (by rw [tz]; simp) (by rw [tz]; lia) rfl fun it5 h31 e31 B2 => ?_
            refine compRun (n := 1 + tvs.length + ovs.length) (Itr.range (k := .it 10) (it := it5) (a := 0) (n := 1 + tvs.length + ovs.length) R.hnd tgtN) (.il 29)
              (fun i σ' H' ys => LC σ' H' a (L + 1) (L + 2) c (SA.first (.ref 362 :: (tvs ++ ovs))) tvs ovs Tt To D D2 n8 n9 avs ∧ H' .tys = some (l2, lisO (.ref 362 :: (tvs ++ ovs)) n27) ∧ ys = (Value.ref 362 :: (tvs ++ ovs)).take i) B2 ?_ rfl rfl ?_ upd_self ?_ (by lia) (by decide) rfl ?_ ?_ ?_ ?_
            · intro k hk; rfl
            · intro k a' o' hk e
              rw [of_decide_eq_true hk, upd_self] at e; cases e
              exact Bd.new B e31
            · exact ⟨Z.kp X21 (Kp.addB B2 e31) (fun j hj => upd_ne (by rintro rfl; cases hj)), upk hty, rfl⟩
            · intro i σ H σ' H' ys X X' kp oth zzq10
              refine hide fun CCC kkk => ?_
              obtain ⟨z1, z2, z3⟩ := zzq10
              refine kkk ?_; clear kkk
              exact ⟨z1.kp X kp (fun j hj => oth j (decide_eq_false (by rintro rfl; cases hj)) (by rintro rfl; cases hj)), (oth .tys rfl nofun).trans z2, z3⟩
            · rintro i σ H ys X _; trivial
            · intro i v ys σ1 H1 hb C h3 m3 t3 QQ NN fin hi zzq14 zzq15 B
              refine hide fun CCC kkk => ?_
              obtain ⟨tk, hv'⟩ := zzq14
              obtain ⟨z1, z2, rfl⟩ := zzq15
              refine kkk ?_; clear kkk
              rw [Int.zero_add] at hv'; subst hv'
              have CE := z1.c2
              refine hide fun CCC kkk => ?_
              obtain ⟨g1, g2, IS⟩ := z1.sc.objS B.hp
              refine kkk ?_; clear kkk
              refine wpAny_assign_Name ?_
              repeat walk_at "x"
              refine wpAny_tests_nil ?_
              repeat walk_at "x"
              rename Bd _ _ _ _ _ _ _ _ _ _ => B
              have hx : ∃ v, (Value.ref 362 :: (tvs ++ ovs))[i]? = some v := ⟨_, List.getElem?_eq_getElem (by lia)⟩
              refine hide fun CCC kkk => ?_
              obtain ⟨v, hx⟩ := hx
              refine kkk ?_; clear kkk
              refine btype2_spec B.fm.ok (R.deeper.le (by decide)) B.hp z1.sc (first_small (N := 800000) (by rw [tz]; lia) (by decide)) hx fun h5 t5 P => ?_
              refine fin.yes (B.pure P) ⟨z1, z2, ?_⟩ (fun _ _ => rfl) rfl
              rw [List.take_add_one, hx]; rfl
            · clear Z X20 X21 lrg B2 e30 e31 hty CE3
              intro D5 σ1 H1 h8 t8 cvs n13 zzq7 B hD5 hy5
              refine hide fun CCC kkk => ?_
              obtain ⟨Z, hty, z3⟩ := zzq7
              refine kkk ?_; clear kkk
              rw [List.take_of_length_le (Nat.le_of_eq tz)] at z3
              have CE := Z.c2
              show wpAny _ _ _ _ _ _
              repeat walk_at "x"
              refine neSame B.fm (R.deeper.le (by decide)) ⟨_, B.hp.at_ _ _ _ hD5⟩ ⟨_, z3 ▸ B.hp.at_ _ _ _ hty⟩ ?_
              clear hD5 z3
              repeat walk_at "x"
              refine Assign_Tuple_swapped (names := ["frames", "rows"]) ?_ (by rfl) (by with_unfolding_all rfl)
              repeat walk_at "x"
              have X22 := B.hp
              refine newListK (.lf 0) B (by exact Nat.le_of_ble_eq_true rfl) rfl fun f0 h32 e32 _ B => ?_
              replace Z := Z.kp X22 (Kp.addB B e32) (fun j hj => upd_ne (by rintro rfl; cases hj))
              replace hty := keepB B hty nofun
              have hf0 := selfB B
              repeat walk_at "x"
              have X23 := B.hp
              refine newListK .lfr B (by exact Nat.le_of_ble_eq_true rfl) rfl fun fr h33 e33 _ B => ?_
              replace Z := Z.kp X23 (Kp.addB B e33) (fun j hj => upd_ne (by rintro rfl; cases hj))
              replace hty := keepB B hty nofun
              replace hf0 := keepB B hf0 nofun
              have hfr := selfB B
              repeat walk_at "x"
              have X24 := B.hp
              refine newListK .rows B (by exact Nat.le_of_ble_eq_true rfl) rfl fun rws h34 e34 _ B => ?_
              replace Z := Z.kp X24 (Kp.addB B e34) (fun j hj => upd_ne (by rintro rfl; cases hj))
              replace hty := keepB B hty nofun
              replace hf0 := keepB B hf0 nofun
              replace hfr := keepB B hfr nofun
              have hrw := selfB B
              repeat walk_at "x"
              have X25 := B.hp
              refine newTupleB B (by exact Nat.le_of_ble_eq_true rfl) fun ta h35 e35 _ B => ?_
              replace Z := Z.kp X25 (Kp.of_le (B.lp e35)) (fun _ _ => rfl)
              refine unpack2 (x := "frames") (y := "rows") B put_self ?gh ?g0 ?g1 ?g2 ?g3 ?g4
              case gh => exact R.2.2
              case g1 => rfl
              case g2 => rfl
              case g3 => rfl
              case g4 => rfl
              intro h36 B
              have W : LwP _ _ ⟨a, l2, rws, fr⟩ [] (.ref 362 :: (tvs ++ ovs)) (.int :: (Tt ++ To)) [[]] := ⟨Z.src, ⟨0, [], hrw, .nil⟩, ⟨_, hty⟩, .cons (tyInt B.fm.ok.base) (Z.tt.1.append Z.ot.1),
                ⟨0, [.ref f0], hfr, rfl, fun i v x e1 e2 => by
                  cases i with
                  | zero => cases e1; cases e2; exact ⟨f0, 0, [], rfl, hf0, .nil⟩
                  | succ i => simp at e1⟩, Z.tb⟩
              have Tz : ∀ U ∈ Ty.int :: (Tt ++ To), U.size ≤ 64 := fun U hU => by
                rcases List.mem_cons.mp hU with q | q
                · rw [q]; decide
                · rcases List.mem_append.mp q with q | q
                  · exact Z.tt.2 U q
                  · exact Z.ot.2 U q
              have Tl1 := Z.tt.1.length
              have Tl2 := Z.ot.1.length
              have Y := Z.sc
              have e1 := Z.c1
              have CE := Z.c2
              have ar := Z.ar
              clear Z hty hf0 hfr hrw X22 X23 X24 X25 e32 e33 e34 e35
              refine hide fun CCC kkk => ?_
              obtain ⟨g1, g2, IS⟩ := Y.objS B.hp
              refine kkk ?_; clear kkk
              repeat walk_at "x"
              have X26 := B.hp
              refine push_spec B.fm.ok (R.deeper.le (by decide)) B.hp Y (first_small (N := 800000) (by rw [tz]; lia) (by decide)) fun h37 t37 σ12 H12 tk12 N Y2 => ?_
              replace W := W.scn X26 N mdS_law
              replace e1 := e1.kp N.kp
              have CE2 := CE.kp N.kp
              replace ar := ar.kp N.kp
              replace B := B.call N (fun _ e => nomatch e)
              clear N Y X26 CE IS g1 g2
              repeat walk_at "x"
              have LE0 : LE _ _ ⟨a, l2, rws, fr⟩ c (L + 1) (L + 2) (firstH (.ref 362 :: (tvs ++ ovs)) [argFr 0]) [] (.int :: (Tt ++ To)) := ⟨Y2, W, e1, CE2⟩
              refine hide fun CCC kkk => ?_
              obtain ⟨g1, g2, IS⟩ := Y2.objS B.hp
              refine kkk ?_; clear kkk
              refine wpAny_For ?_ (fun _ => rfl)
              repeat walk_at "x"
              rename Bd _ _ _ _ _ _ _ _ _ _ => B
              have X27 := B.hp
              refine startList (k := .it 10) B ar.lo rfl fun it6 h38 oi6 e38 e39 B2 => ?_
              have K27 := Kp.addB B2 e38
              have al : avs.length = tvs.length := by rw [w6.length, List.length_range']
              refine loopG (n := avs.length) (Itr.list (D := c.args) (vs := avs) (k := .it 10) R.hnd tgtN)
                (fun i σ' H' m' => LE σ' H' ⟨a, l2, rws, fr⟩ c (L + 1) (L + 2) (firstH (.ref 362 :: (tvs ++ ovs)) [argFr i]) [] (.int :: (Tt ++ To)) ∧ Ul σ' H' c.args avs ∧ m' "types" = some (.ref l2) ∧ m' "frames" = some (.ref fr) ∧ m' "rows" = some (.ref rws)) B2 ?_ ?_ ⟨oi6, upd_self, e39⟩ ?_ ?_ ?_ ?_ ?_
              · intro k hk; rfl
              · intro k a' o' hk e
                rw [of_decide_eq_true hk, upd_self] at e; cases e
                exact Bd.new B e38
              · exact ⟨LE0.kp X27 K27 (fun j hj => upd_ne (by rintro rfl; exact hj rfl)), ar.kp K27, rfl, rfl, rfl⟩
              · intro i σ H m σ' H' X X' kp oth zzq10
                refine hide fun CCC kkk => ?_
                obtain ⟨z1, z2, z3, z4, z5⟩ := zzq10
                refine kkk ?_; clear kkk
                exact ⟨z1.kp X kp (fun j hj => oth j (decide_eq_false (by rintro rfl; exact hj rfl))), z2.kp kp, z3, z4, z5⟩
              · rintro i σ H m X ⟨z1, z2, z3, z4, z5⟩; exact z2.lo
              · clear LE0 K27 X27 W e1 CE2 ar IS g1 g2 B B2
                intro i v σ1 H1 h5 m1 t5 QQ fin hi hvi zzq11 B
                refine hide fun CCC kkk => ?_
                obtain ⟨z1, z2, z3, z4, z5⟩ := zzq11
                refine kkk ?_; clear kkk
                replace hvi : avs[i]? = some v := hvi
                have pv := w6.getV hvi
                refine hide fun CCC kkk => ?_
                obtain ⟨nv, hnv, tn, rfl⟩ := pv
                refine kkk ?_; clear kkk
                rw [List.getElem?_range' (by lia)] at hnv
                have en : nv = i + 1 := by cases hnv; lia
                subst en
                have CE := z1.e2
                refine hide fun CCC kkk => ?_
                obtain ⟨g1, g2, IS⟩ := z1.sc.objS B.hp
                refine kkk ?_; clear kkk
                refine wpAny_assign_Name ?_
                repeat walk_at "x"
                rename Bd _ _ _ _ _ _ _ _ _ _ => B
                have X1 := B.hp
                refine hold_spec (l := i + 1) B.fm.ok (R.deeper.le (by decide)) B.hp z1.sc (firstH_small (by rw [tz]; lia) (by decide) (by lia)) nofun fun h6 t6 σ2 H2 N Y2 => ?_
                rw [firstH_hold] at Y2
                have W2 := z1.w.scn X1 N mdS_law
                have e1 := z1.e1.kp N.kp
                have e2 := z1.e2.kp N.kp
                replace z2 := z2.kp N.kp
                replace B := B.call N (fun _ e => nomatch e)
                repeat walk_at "x"
                rename Bd _ _ _ _ _ _ _ _ _ _ => B
                have pl := FrL.last (fs := []) (f := argFr i) W2.fr
                refine hide fun CCC kkk => ?_
                obtain ⟨n5, vs5, p5, n6, us5, k1, k2, k3, k4⟩ := pl
                refine kkk ?_; clear kkk
                cases List.eq_nil_of_length_eq_zero k2
                refine itemLF (i := 0) B.fm ⟨n5, B.hp.at_ _ _ _ k1⟩ rfl (by decide) ?_
                refine methA B.fm ⟨n6, B.hp.at_ _ _ _ k3⟩ ?_
                dsimp only
                repeat walk_at "x"
                rename Bd _ _ _ _ _ _ _ _ _ _ => B
                have X6 := B.hp
                refine newTupleB B (by exact Nat.le_of_ble_eq_true rfl) fun kb h7 e3 e4 B => ?_
                have Y6 := Y2.ownB B e3
                have K6 := Kp.of_le (H := H2) (B.lp e3)
                have W6 := W2.stay X6 K6 fun _ _ => rfl
                replace e1 := e1.kp K6
                replace e2 := e2.kp K6
                replace z2 := z2.kp K6
                have X7 := B.hp
                repeat walk_at "x"
                refine appendK (kd := .lf 0) B k3 (by rw [k4.length, argFr_len]; lia) rfl fun h8 n7 B => ?_
                have K7 := Kp.setB B k3
                have Y7 := Y6.setB B X7 k3 nofun
                have W7 := W6.frTo X7 K7 (W6.fr.add (n2 := n7) (y := (i + 1, false)) (i := 0) X7 k3 ⟨kb, _, rfl, put_self⟩) fun j hj => upd_ne (by rcases hj with rfl | rfl | rfl | rfl <;> nofun)
                repeat walk_at "x"
                refine fin.nx B ⟨⟨Y7, ?_, e1.kp K7, e2.kp K7⟩, z2.kp K7, z3, z4, z5⟩ (fun k hk => ?_)
                · rw [← argFr_succ]; exact W7
                · rw [of_decide_eq_true hk]
                  exact upk (N.ag (.it 10) rfl)
              · clear LE0 K27 X27 W e1 CE2 ar IS g1 g2 B B2
                intro σ1 H1 h5 m1 t5 zzq5 B
                refine hide fun CCC kkk => ?_
                obtain ⟨z1, z2, z3, z4, z5⟩ := zzq5
                refine kkk ?_; clear kkk
                rw [al] at z1
                have CE := z1.e1
                repeat walk_at "x"
                refine wpAny_For ?_ (fun _ => rfl)
                repeat walk_at "x"
                rename Bd _ _ _ _ _ _ _ _ _ _ => B
                have X1 := B.hp
                refine take_spec B.fm.ok (R.deeper.le (by decide)) B.hp z1.w.src (by decide) (by decide) fun h6 t6 σ2 H2 r9 tk9 N S hr0 hr1 => ?_
                have LE1 : LE σ2 H2 ⟨a, l2, rws, fr⟩ c (L + 1) (L + 2) (firstH (.ref 362 :: (tvs ++ ovs)) [argFr tvs.length]) [] (.int :: (Tt ++ To)) := ⟨z1.sc.take X1 N, z1.w.take X1 N S, z1.e1.kp N.kp, z1.e2.kp N.kp⟩
                replace B := B.call N (fun _ e => nomatch e)
                clear z1 z2 CE N S X1
                repeat walk_at "x"
                refine hide fun CCC kkk => ?_
                obtain ⟨nt, rfl⟩ := Int.eq_ofNat_of_zero_le hr0
                refine kkk ?_; clear kkk
                have X1 := B.hp
                refine range1B B fun rg9 h7 t7 u8 u9 e9 B => ?_
                replace LE1 := LE1.kp X1 (Kp.of_le (B.lp e9)) (fun _ _ => rfl)
                have lrg := B.newO
                repeat walk_at "x"
                have X2 := B.hp
                refine startRange (k := .it 10) (n := 8 + nt) B lrg (by decide) (by push_cast; lia) (by lia) rfl fun it7 h8 e10 B2 => ?_
                have K2 := Kp.addB B2 e10
                refine loopG (n := 8 + nt) (Itr.range (k := .it 10) (it := it7) (a := 0) (n := 8 + nt) R.hnd tgtN)
                  (fun i σ' H' m' => (∃ s rows Ts pre, LE σ' H' ⟨a, l2, rws, fr⟩ c (L + 1) (L + 2) s rows Ts ∧ Inv s pre rows ∧ Bn (60 + 70 * i) (2 + i) (1 + i) (6 + i) s rows Ts) ∧ m' "types" = some (.ref l2) ∧ m' "frames" = some (.ref fr) ∧ m' "rows" = some (.ref rws)) B2 ?_ ?_ upd_self ?_ ?_ ?_ ?_ ?_
                · intro k hk; rfl
                · intro k a' o' hk e
                  rw [of_decide_eq_true hk, upd_self] at e; cases e
                  exact Bd.new B e10
                · exact ⟨⟨_, [], _, [], LE1.kp X2 K2 (fun j hj => upd_ne (by rintro rfl; exact hj rfl)), firstH_inv, firstH_bn (by simp; lia) (by rw [tz]; lia) (by lia) (by simp; lia) Tz⟩, z3, z4, z5⟩
                · intro i σ H m σ' H' X X' kp oth zzq10
                  refine hide fun CCC kkk => ?_
                  obtain ⟨⟨s, rows, Ts, pre, z1, z2⟩, z3, z4, z5⟩ := zzq10
                  refine kkk ?_; clear kkk
                  exact ⟨⟨s, rows, Ts, pre, z1.kp X kp (fun j hj => oth j (decide_eq_false (by rintro rfl; exact hj rfl))), z2⟩, z3, z4, z5⟩
                · rintro i σ H m X _; trivial
                · clear LE1 lrg X1 X2 K2 B2 B
                  intro i v σ1 H1 h5 m1 t5 QQ fin hi zzq10 zzq11 B
                  refine hide fun CCC kkk => ?_
                  obtain ⟨tk, hv'⟩ := zzq10
                  obtain ⟨⟨s, rows, Ts, pre, z1, I, Bb⟩, z3, z4, z5⟩ := zzq11
                  refine kkk ?_; clear kkk
                  rw [Int.zero_add] at hv'; subst hv'
                  have CE := z1.e2
                  refine wpAny_assign_Name ?_
                  repeat walk_at "x"
                  rename Bd _ _ _ _ _ _ _ _ _ _ => B
                  have X0 := B.hp
                  refine saSpot2 B z1.sc rfl fun h6 t6 σ2 H2 B Y2 kp ag => ?_
                  have W2 : LwP σ2 H2 ⟨a, l2, rws, fr⟩ rows s.tvs Ts s.frames := z1.w.stay X0 kp fun j hj => ag j (by rintro rfl; exact hj.1 rfl)
                  have e1 := z1.e1.kp kp
                  have CE2 := z1.e2.kp kp
                  have I2 : Inv { s with spot := 10 + (i : Int) } pre rows := I.same rfl rfl rfl
                  clear z1 CE I
                  repeat walk_at "x"
                  rename Bd _ _ _ _ _ _ _ _ _ _ => B
                  have B2 := Bb.spot (z := 10 + (i : Int))
                  refine deed_spec (l := ⟨a, l2, rws, fr⟩) (c := c) B.fm.ok (R.deeper.le (by decide)) B.hp Y2 W2 (B2.pre I2.lt (by lia) (by lia) (by lia) (by lia)) fun h7 t7 σ3 H3 s' rows' Ts' N D Y3 W3 => ?_
                  have pI := D.inv rfl I2
                  refine hide fun CCC kkk => ?_
                  obtain ⟨pre', I3⟩ := pI
                  refine kkk ?_; clear kkk
                  replace e1 := e1.kp N.kp
                  have e2 := CE2.kp N.kp
                  replace B := B.call N (fun _ e => nomatch e)
                  repeat walk_at "x"
                  refine fin.nx B ⟨⟨s', rows', Ts', pre', ⟨Y3, W3, e1, e2⟩, I3, Bn.turn D I2.lt (by lia) B2⟩, z3, z4, z5⟩ (fun k hk => ?_)
                  rw [of_decide_eq_true hk]
                  exact (N.ag (.it 10) rfl).trans (ag _ nofun)
                · clear LE1 lrg X1 X2 K2 B2 B
                  intro σ1 H1 h5 m1 t5 zzq5 B
                  refine hide fun CCC kkk => ?_
                  obtain ⟨⟨s, rows, Ts, pre, z1, I, Bb⟩, z3, z4, z5⟩ := zzq5
                  refine kkk ?_; clear kkk
                  have CE := z1.e2
                  have X0 := B.hp
                  repeat walk_at "x"
                  refine saSpot2 B z1.sc rfl fun h6 t6 σ2 H2 B Y2 kp ag => ?_
                  have LE2 : LE σ2 H2 ⟨a, l2, rws, fr⟩ c (L + 1) (L + 2) { s with spot := 9 } rows Ts := ⟨Y2, z1.w.stay X0 kp fun j hj => ag j (by rintro rfl; exact hj.1 rfl), z1.e1.kp kp, z1.e2.kp kp⟩
                  have I2 : Inv { s with spot := 9 } pre rows := I.same rfl rfl rfl
                  clear z1 CE I Y2
                  repeat walk_at "x"
                  rename Bd _ _ _ _ _ _ _ _ _ _ => B
                  refine whileB (fun n σ' H' m' => ∃ s rows Ts pre N I, n = s.frames.length ∧ LE σ' H' ⟨a, l2, rws, fr⟩ c (L + 1) (L + 2) s rows Ts ∧ Inv s pre rows ∧ s.spot = 9 ∧ Bn N I 17 22 s rows Ts ∧ N + 3 * I ≤ 1400 ∧ I ≤ 18 ∧
                    m' "types" = some (.ref l2) ∧ m' "frames" = some (.ref fr) ∧ m' "rows" = some (.ref rws)) s.frames.length B ⟨{ s with spot := 9 }, rows, Ts, pre, 60 + 70 * (8 + nt), 2 + (8 + nt), rfl, LE2, I2, rfl, (Bb.spot (z := 9)).le (Nat.le_refl _) (Nat.le_refl _) (by lia) (by lia), by lia, by lia, z3, z4, z5⟩ ?_
                  clear LE2 I2 Bb z3 z4 z5 B
                  intro n σ1 H1 h5 m1 t5 QQ fin zzq8 B
                  refine hide fun CCC kkk => ?_
                  obtain ⟨s, rows, Ts, pre, N, I, rfl, z1, Iv, hsp, Bb, hNI, hI, z3, z4, z5⟩ := zzq8
                  refine kkk ?_; clear kkk
                  repeat walk_at "x"
                  have X0 := B.hp
                  refine newListB B (by exact Nat.le_of_ble_eq_true rfl) fun nl h6 e9 _ B => ?_
                  have K9 := Kp.of_le (H := H1) (B.lp e9)
                  replace z1 := z1.kp X0 K9 (fun _ _ => rfl)
                  have lnil : LO _ nl [] := ⟨_, B.newO⟩
                  have pc := snoc_cases s.frames
                  rcases pc with ef | ⟨fs, f, ef⟩
                  · have Zf := z1.w.fr
                    rw [ef] at Zf
                    refine hide fun CCC kkk => ?_
                    obtain ⟨n5, vs5, k5, k6, k7⟩ := Zf
                    refine kkk ?_; clear kkk
                    cases List.eq_nil_of_length_eq_zero k6
                    refine neNil false B.fm (R.deeper.le (by decide)) ⟨n5, B.hp.at_ _ _ _ k5⟩ lnil rfl ?_
                    repeat walk_at "x"
                    have CE2 := z1.e2
                    refine hide fun CCC kkk => ?_
                    obtain ⟨g1, g2, IS⟩ := z1.sc.objS B.hp
                    refine kkk ?_; clear kkk
                    repeat walk_at "x"
                    have X1 := B.hp
                    refine newTupleB B (by exact Nat.le_of_ble_eq_true rfl) fun ka h7 e10 _ B => ?_
                    replace z1 := z1.kp X1 (Kp.of_le (B.lp e10)) (fun _ _ => rfl)
                    repeat walk_at "x"
                    refine close_spec (x := .ret) B.fm.ok (R.deeper.le (by decide)) B.hp z1.sc (Bb.sm.le (by lia)) Iv.lt ⟨ka, _, rfl, put_self⟩ fun h8 t8 σ2 H2 N2 Y2 => ?_
                    have W2 := z1.w.scn B.hp N2 mdB_law
                    have CE3 := z1.e2.kp N2.kp
                    replace B := B.call N2 (fun _ e => nomatch e)
                    refine hide fun CCC kkk => ?_
                    obtain ⟨g3, g4, IS2⟩ := Y2.objS B.hp
                    refine kkk ?_; clear kkk
                    clear z1 CE2 IS N2 X1
                    have WO := Iv.wayOk (Bb.sm.le (by lia)) (Nat.le_trans Bb.rz (by lia))
                    have pl := Iv.len
                    have bk := Bb.sm.k
                    repeat walk_at "x"
                    have X2 := B.hp
                    refine finished_spec (path := pre ++ [s.here]) B.fm.ok (R.deeper.le (by decide)) B.hp Y2 (SA.Small.le (SA.Small.close (Bb.sm.le (by lia : N ≤ 1999)) .ret) (by decide)) Iv.chain (by lia) W2.tb w3 w4 fun h9 t9 σ3 H3 B2 N3 tb3 nb => ?_
                    have rw3 := W2.rows.mono (N3.kp.tk X2) (N3.ag .rows rfl)
                    replace B := B.call N3 (fun _ e => nomatch e)
                    clear Y2 W2 N3 X2
                    repeat walk_at "x"
                    refine way_spec B.fm.ok (R.deeper.le (by decide)) nb WO.1 fun h10 t10 σ4 r vs P lr hr => ?_
                    replace rw3 := rw3.mono P.le.tk rfl
                    replace tb3 := tb3.kp (Kp.of_le P.le) rfl
                    replace B := B.pure P
                    rw [WO.2] at hr
                    refine hide fun CCC kkk => ?_
                    obtain ⟨nr, rvs2, rl, rr⟩ := rw3
                    refine kkk ?_; clear kkk
                    repeat walk_at "x"
                    refine eqRows B.fm (R.deeper.le (by decide)) lr ⟨_, B.hp.at_ _ _ _ rl⟩ hr rr ?_
                    repeat walk_at "x"
                    exact q _ _ _ _ B.nx tb3
                  · have Zf := z1.w.fr
                    rw [ef] at Zf
                    have pl := Zf.last
                    refine hide fun CCC kkk => ?_
                    obtain ⟨n5, vs5, p5, n6, us5, k5, k6, k7, k8⟩ := pl
                    refine kkk ?_; clear kkk
                    refine neNil true B.fm (R.deeper.le (by decide)) ⟨n5, B.hp.at_ _ _ _ k5⟩ lnil (by simp) ?_
                    repeat walk_at "x"
                    have P := Bb.pre Iv.lt (by lia) (by lia) (by decide) (by decide)
                    have lfs : fs.length ≤ 40 := by have := P.hfs; rw [ef] at this; simp at this; lia
                    have lf : f ∈ s.frames := by rw [ef]; simp
                    refine methP B.fm ⟨n5, B.hp.at_ _ _ _ k5⟩ ?_
                    dsimp only
                    repeat walk_at "x"
                    have X1 := B.hp
                    refine popK (kd := .lfr) B k5 (by rw [k6]; lia) rfl fun h7 n3 B => ?_
                    have KP := Kp.setB B k5
                    have Y1 := z1.sc.setB B X1 k5 (by decide)
                    have Z1 := z1.w.frTo X1 KP (Zf.pop (n2 := n3) X1 k5) fun j hj => upd_ne (by rcases hj with rfl | rfl | rfl | rfl <;> nofun)
                    have tk1 := KP.tk X1
                    have e1 := z1.e1.kp KP
                    have e2 := z1.e2.kp KP
                    refine hide fun CCC kkk => ?_
                    obtain ⟨nt1, et⟩ := Z1.tys
                    refine kkk ?_; clear kkk
                    repeat walk_at "x"
                    have X2 := B.hp
                    refine ended_spec (f := f) (fi := fs.length) B.fm.ok (R.deeper.le (by decide)) B.hp Z1.rows (Nat.le_trans P.hr (by decide)) (Nat.le_trans (P.hfl f lf) (by decide)) et Z1.hT P.hz (Nat.le_trans P.hT (by decide)) (upk k7) (k8.imp fun _ _ z => z.tk tk1) (P.hl f lf) fun h8 t8 σ6 H6 N6 rw6 => ?_
                    have Y6 := Y1.endn X2 N6
                    have Z6 := Z1.endn X2 N6 rw6
                    replace e1 := e1.kp N6.kp
                    have CE2 := e2.kp N6.kp
                    replace B := B.call N6 (fun _ e => nomatch e)
                    refine hide fun CCC kkk => ?_
                    obtain ⟨g1, g2, IS⟩ := Y6.objS B.hp
                    refine kkk ?_; clear kkk
                    clear Y1 Z1 N6 X2 e2 z1 tk1 KP
                    repeat walk_at "x"
                    have X3 := B.hp
                    refine pop_spec (Ts := Ts) (N := 2000) (fs := fs) (f := f) B.fm.ok (R.deeper.le (by decide)) B.hp Y6 P.hs P.hh (by decide) ef (P.hfl f lf) lfs Z6.hT (fun T hT => Nat.le_trans (P.hz T hT) (by decide)) (P.hl f lf) fun h9 t9 σ7 H7 N7 Y7 => ?_
                    have Z7 := Z6.scn X3 N7 mdA_law
                    replace e1 := e1.kp N7.kp
                    have e2 := CE2.kp N7.kp
                    replace B := B.call N7 (fun _ e => nomatch e)
                    repeat walk_at "x"
                    have D : Deed 9 s rows Ts _ _ _ := .pop fs f ef
                    have pI := D.inv hsp Iv
                    refine hide fun CCC kkk => ?_
                    obtain ⟨pre', I3⟩ := pI
                    refine kkk ?_; clear kkk
                    have it := items_mem lf
                    have hit := Bb.it
                    refine fin.nx (n' := fs.length) (by rw [ef]; simp) B ⟨s.pop (tbOf Ts), rows ++ rowsEnd (tbOf Ts) 9 f, Ts, pre', N + 3 * f.length, I - f.length, by rw [pop_eq ef], ⟨Y7, ?_, e1, e2⟩, I3, (pop_spot ef Iv).trans hsp, (Bb.popped Iv.lt ef).le (Nat.le_refl _) (Nat.le_refl _) (by decide) (Nat.le_refl _), by lia, by lia, z3, z4, z5⟩
                    have e4 : (s.pop (tbOf Ts)).frames = fs := by rw [pop_eq ef]
                    rw [pop_tvs ef P.hs P.hh, e4]; exact Z7
end
noncomputable def HT : Hp := fun k => match k with | .tab => some (105, tabObj #[]) | _ => none
theorem HT_in {h : Heap} (e : h.get? 105 = some (tabObj #[])) : HpIn h.get? HT where
  at_ := fun k a o q => by cases k <;> first | (cases q; exact e) | cases q
  hi := fun k a o q => by cases k <;> first | (cases q; exact .inr rfl) | cases q
  no := fun k a o q => by
    cases k <;> first | (cases q; intro z; exact absurd (show (Value.none : Value) = .type "tuple" from z) (by decide)) | cases q
  inj := fun k j a o o' q r => by
    cases k <;> first | cases q | skip
    cases j <;> first | rfl | cases r
theorem HT_un {a : Addr} (h : a ≠ 105) : Untr HT a := fun k o q => by cases k <;> first | (cases q; exact h rfl) | cases q
theorem old_of {w : World} {h h' : Heap} {σ' : Mp} {H' : Hp} (e : h.get? 105 = some (tabObj #[])) (c : isCodeTable h 105) (N : Nx w mdU h.get? h HT σ' h' H') (T : TabIs σ' H') : OldK h h' := by
  have key : ∀ a o, h.get? a = some o → a ≠ 105 → h'.get? a = some o := fun a o q n => N.ok.sub _ _ (N.kp a o q (HT_un n)).1
  refine hide fun CCC kkk => ?_
  obtain ⟨ps, t1, t2⟩ := T
  refine kkk ?_; clear kkk
  have t3 := N.ok.sub _ _ (N.hp.at_ _ _ _ t1)
  refine ⟨fun b o q => ?_, fun b o q => ?_⟩
  · by_cases n : b = 105
    · subst n
      rw [e] at q; cases q
      exact .inr (.inl ⟨c, rfl, #[], ps, rfl, by rw [t3]; simp⟩)
    · exact .inl (key b o q n)
  · by_cases n : b = 105
    · subst n; exact ⟨_, t3⟩
    · exact ⟨o, key b o q n⟩
theorem wellInts {P : Params} {h : Heap} : ∀ {xs : List Int} {vs : List Value}, WellAll P h vs (ofPys (xs.map PyData.int)) → vs.length = xs.length ∧ ∀ v ∈ vs, ∃ i t, v = .int i t
  | [], vs, e => by
    change WellAll P h vs [] at e
    cases e; exact ⟨rfl, fun _ q => nomatch q⟩
  | x :: xs, vs, e => by
    change WellAll P h vs (ofPy (.int x) :: ofPys (xs.map PyData.int)) at e
    cases e with
    | cons a b =>
      have p := wellInts b
      change Well P h _ (.int x) at a
      cases a
      refine ⟨by rw [List.length_cons, List.length_cons, p.1], fun v q => ?_⟩
      rcases List.mem_cons.mp q with q | q
      · exact ⟨_, _, q⟩
      · exact p.2 v q
end Mine
open Mine in
theorem PySem.Challenge.cw_nu0384_01_holds : PySem.Challenge.rw_nu0384_01.Holds := by
  refine hd ?_
  intro w s₀ s₁ mg mb G Y fa o pm cd doc dV kV ho hd' hcd hD hmg hg args vals as hpre hlay hrd hwl hlo
  have KX := km_in_of Y
  have T8 := km_tabs_of Y 105 (.head _)
  have T := G.T
  have e428 : fa = 428 := by
    have e := mg_of KX T.g (gl_all (w := w) (x := "law") (a := 428) rfl)
    rw [dName] at hmg
    rw [hmg] at e
    cases e; rfl
  have bm := T.bmain
  refine hide fun CCC kkk => ?_
  obtain ⟨bm, ob, b1, b2, b3, b4, b5, b6⟩ := bm
  refine kkk ?_; clear kkk
  have e4 : bm = 4 := by
    have e := mg_of KX T.g (show nsIn (KH w) mainGlobals "__builtins__" = some (some (.ref 4)) by kernel_rfl)
    rw [b1] at e
    cases e; rfl
  have ct : isCodeTable s₁.heap 105 := by
    have e := codeHd_of_K (c := 109) (P := 105) KX (by kernel_rfl)
    refine hide fun CCC kkk => ?_
    obtain ⟨o', vs, _, _, _, _, _, _, _, x1, x2, x3, x4, _⟩ := e
    refine kkk ?_; clear kkk
    exact ⟨109, o', vs, x1, x2, x3, x4⟩
  subst e428 e4
  have BS : Bs w s₁.heap.get? := by
    refine hide fun CCC kkk => ?_
    obtain ⟨ob', es, ep, p1, p2, p3, p4⟩ := T.b
    refine kkk ?_; clear kkk
    exact ⟨KX, ⟨ob', es, ep, p1, p2, p3, fun x hx => (p4 x).trans (T.builtins x hx)⟩, ⟨ob, b3, b4, b5, b6⟩⟩
  clear ho hd' hcd hD hmg Y T G b1 b2 b3 b4 b5 b6
  wrow_args hpre hlay hrd hwl hlo
  rename Well _ _ _ _ => wl
  rename IntsAre _ _ => hI
  rename ¬ _ => hlen
  refine hide fun CCC kkk => ?_
  obtain ⟨h, gs, dr, tk, os⟩ := s₁
  refine kkk ?_; clear kkk
  dsimp only at hg
  subst hg
  cases wl with
  | list e wa =>
    have hlen2 := hlen
    refine law_spec (σ := h.get?) (H := HT) ⟨BS, fun _ _ e => e⟩ ⟨by decide, by decide, rfl⟩ (HT_in T8) ⟨0, e⟩ ?_ ?_ ⟨#[], rfl, .inl rfl⟩ fun h' t' σ' H' N T => ?_
    · exact (wellInts wa).2
    · rw [(wellInts wa).1]
      have : ¬ ((63 : Int) < _) := hlen2
      lia
    · refine ⟨.inl ⟨.bool true, .bool true, [], rfl, raisesW_false (by wrow_none_raised), .bool true, ?_, fun _ => ⟨List.nodup_nil, fun _ q => nomatch q⟩⟩, old_of T8 ct N T, rfl, AllBare.empty⟩
      first | rfl | wrow_post
