import PyProof.Rows.All
import Wide.All
import OpenK.AllK
import Wide.FinOn
import Lean
import PySem.Challenge.RW_xm0944_01
open PySem PySem.W PyProof.Rows PySem.Calls
set_option Elab.async false
namespace Mine
set_option maxRecDepth 100000
set_option maxHeartbeats 8000000

noncomputable abbrev dE (P : Params) (k : String) (t : Tok) (v : Value) : DictEntry := ⟨PyData.keyHash P (Str.ofString k), .str (Str.ofString k) t, v⟩
noncomputable def stmtAt (i : Nat) (j : Option Nat) : Stmt := match Challenge.pw_xm0944_01.main.body[i]? with
  | some (.ClassDef a b c body d e f g h k l) => (match j with
    | some n => (match body[n]? with
      | some s => s
      | none => .ClassDef a b c body d e f g h k l)
    | none => .ClassDef a b c body d e f g h k l)
  | some s => s
  | none => .Pass ⟨0, 0, 0, 0⟩
noncomputable abbrev fnE {nm : Str} {ps : Arguments} {d : Stmt} {r : List Stmt} {de : List PySem.Expr} {rt : Option PySem.Expr} {tp : List TypeParam} {sc : Scope} {ts : Option Scope} {bi : Str} {po : Pos} {b : Stmt} (_ : b = .FunctionDef nm ps (d :: r) de rt tp sc ts bi po)
    (qual : Str) (dV kV doc pm : Value) (an : Option Addr) (cd ct : Value) : Obj := ⟨.type "function", none, .func (fnOf nm qual ps (d :: r) sc dV kV doc pm an cd ct), #[]⟩
noncomputable def fnP (b : Stmt) (qual : Str) (dV kV doc pm : Value) (an : Option Addr) (cd ct : Value) : Obj := match b with
  | .FunctionDef nm ps body _ _ _ sc _ _ _ => ⟨.type "function", none, .func (fnOf nm qual ps body sc dV kV doc pm an cd ct), #[]⟩
  | _ => ⟨.none, none, .plain, #[]⟩
noncomputable abbrev o2 (P : Params) : Obj := ⟨.none, none, (.dict #[dE P "type.__subclasses__.Exception.0" 219 (.int (34) 0), dE P "type.__subclasses__.Exception.n" 220 (.int (1) 0)] 2), #[]⟩
noncomputable abbrev o3 (P : Params) : Obj := ⟨(.type "dict"), none, (.dict #[dE P "__name__" 165 (.str (Str.ofString "law_xm0944_01") 513), dE P "__doc__" 166 .none, dE P "__package__" 167 .none, dE P "__loader__" 168 (.builtin "__main__.__loader__#opaque"), dE P "__spec__" 169 .none, dE P "__annotations__" 170 (.ref 6), dE P "__builtins__" 171 (.ref 4), dE P "__file__" 173 (.str (Str.ofString "/claim/cut.py") 172), dE P "__cached__" 174 .none, dE P "SnobolError" 222 (.ref 34), dE P "Pattern" 251 (.ref 54), dE P "Delayed" 280 (.ref 75), dE P "Code" 309 (.ref 96), dE P "NameRef" 342 (.ref 117), dE P "Holder" 374 (.ref 138), dE P "kind_of" 381 (.ref 149), dE P "Array" 413 (.ref 166), dE P "Table" 440 (.ref 185), dE P "Data" 469 (.ref 204), dE P "size_of_bounds" 479 (.ref 213), dE P "field_ref" 487 (.ref 220), dE P "slot_get" 494 (.ref 227), dE P "slot_set" 502 (.ref 234), dE P "data_made" 512 (.ref 241), dE P "_law_of" 522 (.ref 248), dE P "_law_put" 533 (.ref 255), dE P "_law_read" 540 (.ref 262), dE P "_law_due" 546 (.ref 267), dE P "_law_order" 556 (.ref 274), dE P "law" 562 (.ref 279)] 30), #[]⟩
noncomputable abbrev o113 : Obj := ⟨(.type "code"), none, (.fields #[(.str (Str.ofString "__init__") 322), (.str (Str.ofString "NameRef.__init__") 323), (.str (Str.ofString "/claim/cut.py") 324), (.int (22) 0), (.int (4) 0), (.int (0) 0), (.int (0) 0), (.int (3) 0), (.ref 108), (.bool true), (.int (181) 0), (.ref 109), .none, (.ref 110), (.ref 111), (.ref 112), (.int (329) 0), (.int (22) 0), (.str (Str.ofString "/claim/cut.py") 330)]), #[]⟩
noncomputable abbrev o116 (P : Params) : Obj := ⟨(.type "dict"), none, (.dict #[dE P "__module__" 317 (.str (Str.ofString "snobol.values") 187), dE P "__firstlineno__" 321 (.int (20) 320), dE P "__init__" 331 (.ref 114), dE P "__static_attributes__" 335 (.ref 115), dE P "__dict__" 337 (.ref 118), dE P "__weakref__" 339 (.ref 119), dE P "__doc__" 340 .none] 4), #[]⟩
noncomputable abbrev o117 : Obj := ⟨(.type "type"), none, (.cls ⟨(Str.ofString "NameRef"), [(.type "object")], [(.ref 117), (.type "object")], 116, (Str.ofString "NameRef"), true, [], [], false, none, false⟩), #[none, none, (some (.str (Str.ofString "NameRef") 310)), (some (.str (Str.ofString "NameRef") 318)), (some (.builtin "object.__new__")), (some (.bool true))]⟩
noncomputable abbrev o134 : Obj := ⟨(.type "code"), none, (.fields #[(.str (Str.ofString "__init__") 355), (.str (Str.ofString "Holder.__init__") 356), (.str (Str.ofString "/claim/cut.py") 357), (.int (28) 0), (.int (3) 0), (.int (0) 0), (.int (0) 0), (.int (3) 0), (.ref 129), (.bool true), (.int (181) 0), (.ref 130), .none, (.ref 131), (.ref 132), (.ref 133), (.int (361) 0), (.int (28) 0), (.str (Str.ofString "/claim/cut.py") 362)]), #[]⟩
noncomputable abbrev o137 (P : Params) : Obj := ⟨(.type "dict"), none, (.dict #[dE P "__module__" 350 (.str (Str.ofString "snobol.values") 187), dE P "__firstlineno__" 354 (.int (26) 353), dE P "__init__" 363 (.ref 135), dE P "__static_attributes__" 367 (.ref 136), dE P "__dict__" 369 (.ref 139), dE P "__weakref__" 371 (.ref 140), dE P "__doc__" 372 .none] 4), #[]⟩
noncomputable abbrev o138 : Obj := ⟨(.type "type"), none, (.cls ⟨(Str.ofString "Holder"), [(.type "object")], [(.ref 138), (.type "object")], 137, (Str.ofString "Holder"), true, [], [(.ref 166), (.ref 185), (.ref 204)], false, none, false⟩), #[none, none, (some (.str (Str.ofString "Holder") 343)), (some (.str (Str.ofString "Holder") 351)), (some (.builtin "object.__new__")), (some (.bool true))]⟩
noncomputable abbrev o165 (P : Params) : Obj := ⟨(.type "dict"), none, (.dict #[dE P "__module__" 391 (.str (Str.ofString "snobol.aggregates") 382), dE P "__firstlineno__" 395 (.int (47) 394), dE P "__init__" 406 (.ref 163), dE P "__static_attributes__" 410 (.ref 164), dE P "__doc__" 411 .none] 2), #[]⟩
noncomputable abbrev o166 : Obj := ⟨(.type "type"), none, (.cls ⟨(Str.ofString "Array"), [(.ref 138)], [(.ref 166), (.ref 138), (.type "object")], 165, (Str.ofString "Array"), true, [], [], false, none, false⟩), #[(some (.ref 150)), none, (some (.str (Str.ofString "Array") 384)), (some (.str (Str.ofString "Array") 392)), (some (.builtin "object.__new__")), (some (.bool true))]⟩
noncomputable abbrev o184 (P : Params) : Obj := ⟨(.type "dict"), none, (.dict #[dE P "__module__" 421 (.str (Str.ofString "snobol.aggregates") 382), dE P "__firstlineno__" 425 (.int (54) 424), dE P "__init__" 433 (.ref 182), dE P "__static_attributes__" 437 (.ref 183), dE P "__doc__" 438 .none] 2), #[]⟩
noncomputable abbrev o185 : Obj := ⟨(.type "type"), none, (.cls ⟨(Str.ofString "Table"), [(.ref 138)], [(.ref 185), (.ref 138), (.type "object")], 184, (Str.ofString "Table"), true, [], [], false, none, false⟩), #[(some (.ref 169)), none, (some (.str (Str.ofString "Table") 414)), (some (.str (Str.ofString "Table") 422)), (some (.builtin "object.__new__")), (some (.bool true))]⟩
noncomputable abbrev o200 : Obj := ⟨(.type "code"), none, (.fields #[(.str (Str.ofString "__init__") 453), (.str (Str.ofString "Data.__init__") 454), (.str (Str.ofString "/claim/cut.py") 455), (.int (63) 0), (.int (5) 0), (.int (0) 0), (.int (0) 0), (.int (3) 0), (.ref 195), (.bool true), (.int (181) 0), (.ref 196), .none, (.ref 197), (.ref 198), (.ref 199), (.int (461) 0), (.int (63) 0), (.str (Str.ofString "/claim/cut.py") 462)]), #[]⟩
noncomputable abbrev o203 (P : Params) : Obj := ⟨(.type "dict"), none, (.dict #[dE P "__module__" 448 (.str (Str.ofString "snobol.aggregates") 382), dE P "__firstlineno__" 452 (.int (61) 451), dE P "__init__" 463 (.ref 201), dE P "__static_attributes__" 466 (.ref 202), dE P "__doc__" 467 .none] 2), #[]⟩
noncomputable abbrev o204 : Obj := ⟨(.type "type"), none, (.cls ⟨(Str.ofString "Data"), [(.ref 138)], [(.ref 204), (.ref 138), (.type "object")], 203, (Str.ofString "Data"), true, [], [], false, none, false⟩), #[(some (.ref 188)), none, (some (.str (Str.ofString "Data") 441)), (some (.str (Str.ofString "Data") 449)), (some (.builtin "object.__new__")), (some (.bool true))]⟩
noncomputable abbrev o219 : Obj := ⟨(.type "code"), none, (.fields #[(.str (Str.ofString "field_ref") 480), (.str (Str.ofString "field_ref") 481), (.str (Str.ofString "/claim/cut.py") 482), (.int (72) 0), (.int (2) 0), (.int (0) 0), (.int (0) 0), (.int (3) 0), (.ref 214), (.bool true), (.int (181) 0), (.ref 215), .none, (.ref 216), (.ref 217), (.ref 218), (.int (485) 0), (.int (72) 0), (.str (Str.ofString "/claim/cut.py") 486)]), #[]⟩
noncomputable abbrev o226 : Obj := ⟨(.type "code"), none, (.fields #[(.str (Str.ofString "slot_get") 488), (.str (Str.ofString "slot_get") 489), (.str (Str.ofString "/claim/cut.py") 490), (.int (78) 0), (.int (1) 0), (.int (0) 0), (.int (0) 0), (.int (3) 0), (.ref 221), (.bool true), (.int (181) 0), (.ref 222), .none, (.ref 223), (.ref 224), (.ref 225), (.int (492) 0), (.int (78) 0), (.str (Str.ofString "/claim/cut.py") 493)]), #[]⟩
noncomputable abbrev o233 : Obj := ⟨(.type "code"), none, (.fields #[(.str (Str.ofString "slot_set") 495), (.str (Str.ofString "slot_set") 496), (.str (Str.ofString "/claim/cut.py") 497), (.int (84) 0), (.int (2) 0), (.int (0) 0), (.int (0) 0), (.int (3) 0), (.ref 228), (.bool true), (.int (181) 0), (.ref 229), .none, (.ref 230), (.ref 231), (.ref 232), (.int (500) 0), (.int (84) 0), (.str (Str.ofString "/claim/cut.py") 501)]), #[]⟩
noncomputable abbrev o240 : Obj := ⟨(.type "code"), none, (.fields #[(.str (Str.ofString "data_made") 503), (.str (Str.ofString "data_made") 504), (.str (Str.ofString "/claim/cut.py") 505), (.int (91) 0), (.int (4) 0), (.int (0) 0), (.int (0) 0), (.int (3) 0), (.ref 235), (.bool true), (.int (181) 0), (.ref 236), .none, (.ref 237), (.ref 238), (.ref 239), (.int (510) 0), (.int (91) 0), (.str (Str.ofString "/claim/cut.py") 511)]), #[]⟩
noncomputable abbrev o247 : Obj := ⟨(.type "code"), none, (.fields #[(.str (Str.ofString "_law_of") 515), (.str (Str.ofString "_law_of") 516), (.str (Str.ofString "/claim/cut.py") 517), (.int (94) 0), (.int (2) 0), (.int (0) 0), (.int (0) 0), (.int (3) 0), (.ref 242), (.bool true), (.int (181) 0), (.ref 243), .none, (.ref 244), (.ref 245), (.ref 246), (.int (520) 0), (.int (94) 0), (.str (Str.ofString "/claim/cut.py") 521)]), #[]⟩
noncomputable abbrev o254 : Obj := ⟨(.type "code"), none, (.fields #[(.str (Str.ofString "_law_put") 523), (.str (Str.ofString "_law_put") 524), (.str (Str.ofString "/claim/cut.py") 525), (.int (96) 0), (.int (2) 0), (.int (0) 0), (.int (0) 0), (.int (3) 0), (.ref 249), (.bool true), (.int (181) 0), (.ref 250), .none, (.ref 251), (.ref 252), (.ref 253), (.int (531) 0), (.int (96) 0), (.str (Str.ofString "/claim/cut.py") 532)]), #[]⟩
noncomputable abbrev o261 : Obj := ⟨(.type "code"), none, (.fields #[(.str (Str.ofString "_law_read") 534), (.str (Str.ofString "_law_read") 535), (.str (Str.ofString "/claim/cut.py") 536), (.int (107) 0), (.int (1) 0), (.int (0) 0), (.int (0) 0), (.int (3) 0), (.ref 256), (.bool true), (.int (181) 0), (.ref 257), .none, (.ref 258), (.ref 259), (.ref 260), (.int (538) 0), (.int (107) 0), (.str (Str.ofString "/claim/cut.py") 539)]), #[]⟩
noncomputable abbrev o266 : Obj := ⟨(.type "code"), none, (.fields #[(.str (Str.ofString "_law_due") 541), (.str (Str.ofString "_law_due") 542), (.str (Str.ofString "/claim/cut.py") 543), (.int (111) 0), (.int (2) 0), (.int (0) 0), (.int (0) 0), (.int (3) 0), (.ref 263), (.bool true), (.int (181) 0), (.ref 264), .none, .none, .none, (.ref 265), (.int (544) 0), (.int (111) 0), (.str (Str.ofString "/claim/cut.py") 545)]), #[]⟩
noncomputable abbrev o273 : Obj := ⟨(.type "code"), none, (.fields #[(.str (Str.ofString "_law_order") 547), (.str (Str.ofString "_law_order") 548), (.str (Str.ofString "/claim/cut.py") 549), (.int (119) 0), (.int (2) 0), (.int (0) 0), (.int (0) 0), (.int (3) 0), (.ref 268), (.bool true), (.int (181) 0), (.ref 269), .none, (.ref 270), (.ref 271), (.ref 272), (.int (554) 0), (.int (119) 0), (.str (Str.ofString "/claim/cut.py") 555)]), #[]⟩
noncomputable def K0 : Params → Frag := fun P => (nat_lit 2, o2 P) :: (nat_lit 3, o3 P) :: (nat_lit 113, o113) :: (nat_lit 114, fnE (b := stmtAt 5 (some 0)) rfl (Str.ofString "NameRef.__init__") .none .none .none (.str (Str.ofString "snobol.values") 187) none (.ref 113) .none) :: (nat_lit 116, o116 P) :: (nat_lit 117, o117) :: (nat_lit 134, o134) :: (nat_lit 135, fnE (b := stmtAt 6 (some 0)) rfl (Str.ofString "Holder.__init__") .none .none .none (.str (Str.ofString "snobol.values") 187) none (.ref 134) .none) :: (nat_lit 137, o137 P) :: (nat_lit 138, o138) :: (nat_lit 165, o165 P) :: (nat_lit 166, o166) :: (nat_lit 184, o184 P) :: (nat_lit 185, o185) :: (nat_lit 200, o200) :: (nat_lit 201, fnE (b := stmtAt 11 (some 0)) rfl (Str.ofString "Data.__init__") .none .none .none (.str (Str.ofString "snobol.aggregates") 382) none (.ref 200) .none) :: (nat_lit 203, o203 P) :: (nat_lit 204, o204) :: (nat_lit 219, o219) :: (nat_lit 220, fnE (b := stmtAt 13 none) rfl (Str.ofString "field_ref") .none .none .none (.str (Str.ofString "snobol.aggregates") 382) none (.ref 219) .none) :: (nat_lit 226, o226) :: (nat_lit 227, fnE (b := stmtAt 14 none) rfl (Str.ofString "slot_get") .none .none .none (.str (Str.ofString "snobol.aggregates") 382) none (.ref 226) .none) :: (nat_lit 233, o233) :: (nat_lit 234, fnE (b := stmtAt 15 none) rfl (Str.ofString "slot_set") .none .none .none (.str (Str.ofString "snobol.aggregates") 382) none (.ref 233) .none) :: (nat_lit 240, o240) :: (nat_lit 241, fnE (b := stmtAt 16 none) rfl (Str.ofString "data_made") .none .none .none (.str (Str.ofString "snobol.aggregates") 382) none (.ref 240) .none) :: (nat_lit 247, o247) :: (nat_lit 248, fnE (b := stmtAt 18 none) rfl (Str.ofString "_law_of") .none .none .none (.str (Str.ofString "law_xm0944_01") 513) none (.ref 247) .none) :: (nat_lit 254, o254) :: (nat_lit 255, fnE (b := stmtAt 19 none) rfl (Str.ofString "_law_put") .none .none .none (.str (Str.ofString "law_xm0944_01") 513) none (.ref 254) .none) :: (nat_lit 261, o261) :: (nat_lit 262, fnE (b := stmtAt 20 none) rfl (Str.ofString "_law_read") .none .none .none (.str (Str.ofString "law_xm0944_01") 513) none (.ref 261) .none) :: (nat_lit 266, o266) :: (nat_lit 267, fnE (b := stmtAt 21 none) rfl (Str.ofString "_law_due") .none .none .none (.str (Str.ofString "law_xm0944_01") 513) none (.ref 266) .none) :: (nat_lit 273, o273) :: (nat_lit 274, fnE (b := stmtAt 22 none) rfl (Str.ofString "_law_order") .none .none .none (.str (Str.ofString "law_xm0944_01") 513) none (.ref 273) .none) :: []
noncomputable def K2 : Params → Frag := fun P => (nat_lit 2, o2 P) :: (nat_lit 3, o3 P) :: (nat_lit 113, o113) :: (nat_lit 114, fnP (stmtAt 5 (some 0)) (Str.ofString "NameRef.__init__") .none .none .none (.str (Str.ofString "snobol.values") 187) none (.ref 113) .none) :: (nat_lit 116, o116 P) :: (nat_lit 117, o117) :: (nat_lit 134, o134) :: (nat_lit 135, fnP (stmtAt 6 (some 0)) (Str.ofString "Holder.__init__") .none .none .none (.str (Str.ofString "snobol.values") 187) none (.ref 134) .none) :: (nat_lit 137, o137 P) :: (nat_lit 138, o138) :: (nat_lit 165, o165 P) :: (nat_lit 166, o166) :: (nat_lit 184, o184 P) :: (nat_lit 185, o185) :: (nat_lit 200, o200) :: (nat_lit 201, fnP (stmtAt 11 (some 0)) (Str.ofString "Data.__init__") .none .none .none (.str (Str.ofString "snobol.aggregates") 382) none (.ref 200) .none) :: (nat_lit 203, o203 P) :: (nat_lit 204, o204) :: (nat_lit 219, o219) :: (nat_lit 220, fnP (stmtAt 13 none) (Str.ofString "field_ref") .none .none .none (.str (Str.ofString "snobol.aggregates") 382) none (.ref 219) .none) :: (nat_lit 226, o226) :: (nat_lit 227, fnP (stmtAt 14 none) (Str.ofString "slot_get") .none .none .none (.str (Str.ofString "snobol.aggregates") 382) none (.ref 226) .none) :: (nat_lit 233, o233) :: (nat_lit 234, fnP (stmtAt 15 none) (Str.ofString "slot_set") .none .none .none (.str (Str.ofString "snobol.aggregates") 382) none (.ref 233) .none) :: (nat_lit 240, o240) :: (nat_lit 241, fnP (stmtAt 16 none) (Str.ofString "data_made") .none .none .none (.str (Str.ofString "snobol.aggregates") 382) none (.ref 240) .none) :: (nat_lit 247, o247) :: (nat_lit 248, fnP (stmtAt 18 none) (Str.ofString "_law_of") .none .none .none (.str (Str.ofString "law_xm0944_01") 513) none (.ref 247) .none) :: (nat_lit 254, o254) :: (nat_lit 255, fnP (stmtAt 19 none) (Str.ofString "_law_put") .none .none .none (.str (Str.ofString "law_xm0944_01") 513) none (.ref 254) .none) :: (nat_lit 261, o261) :: (nat_lit 262, fnP (stmtAt 20 none) (Str.ofString "_law_read") .none .none .none (.str (Str.ofString "law_xm0944_01") 513) none (.ref 261) .none) :: (nat_lit 266, o266) :: (nat_lit 267, fnP (stmtAt 21 none) (Str.ofString "_law_due") .none .none .none (.str (Str.ofString "law_xm0944_01") 513) none (.ref 266) .none) :: (nat_lit 273, o273) :: (nat_lit 274, fnP (stmtAt 22 none) (Str.ofString "_law_order") .none .none .none (.str (Str.ofString "law_xm0944_01") 513) none (.ref 273) .none) :: []
theorem k02 (P : Params) : K2 P = K0 P := rfl

theorem fill_all : (Challenge.rw_xm0944_01 = Challenge.rw_xm0944_01 ∧ K0 = K0) := by k_fill; exact ⟨rfl, rfl⟩

noncomputable abbrev tA (dp un : Nat) (gd : Option (List Code)) (env : Env) (outer : List Env) : Around := { handled := none, depth := dp, frames := some (env :: outer), guards := gd, units := un }

structure Nd where
  x : Addr
  dx : Addr
  fl : Addr
  vl : Addr
  nb : Int
  hs : Nat → Int
  ts : Nat → Tok
  nd : Nat
  nf : Nat
noncomputable abbrev Nd.ox (z : Nd) : Addr × Obj := (z.x, instObj 204 z.dx)
noncomputable abbrev Nd.od (z : Nd) : Addr × Obj := (z.dx, dictOf [⟨z.hs 0, .str (Str.ofString "word") (z.ts 0), .str (Str.ofString "NODE") (z.ts 5)⟩, ⟨z.hs 1, .str (Str.ofString "number") (z.ts 1), .int z.nb (z.ts 6)⟩, ⟨z.hs 2, .str (Str.ofString "mark") (z.ts 2), .int 0 (z.ts 7)⟩, ⟨z.hs 3, .str (Str.ofString "fields") (z.ts 3), .ref z.fl⟩, ⟨z.hs 4, .str (Str.ofString "values") (z.ts 4), .ref z.vl⟩] z.nd)
noncomputable abbrev Nd.of (z : Nd) : Addr × Obj := (z.fl, listOf #[.str (Str.ofString "K") (z.ts 8), .str (Str.ofString "C") (z.ts 9), .str (Str.ofString "L") (z.ts 10), .str (Str.ofString "R") (z.ts 11)] z.nf)
theorem le_room {a k m c : Nat} (h : a + m < c) (e : Nat.ble k m = true) : a + k < c := Nat.lt_of_le_of_lt (Nat.add_le_add_left (Nat.le_of_ble_eq_true e) a) h
theorem le_roomS {a j k m c : Nat} (h : a + m < c) (e : Nat.ble (j + k) m = true) : a + j + k < c := by
  rw [Nat.add_assoc]
  exact le_room h e
theorem sz_room {a k s m c : Nat} (h : a + m < c) (hs : s < 5) (e : Nat.ble (k * 6) m = true) : a + k * (s + 1) < c :=
  Nat.lt_of_le_of_lt (Nat.add_le_add_left (Nat.le_trans (Nat.mul_le_mul_left k (Nat.le_succ_of_le hs)) (Nat.le_of_ble_eq_true e)) a) h
theorem sz_room1 {a k s m c : Nat} (h : a + m < c) (hs : s ≤ 5) (e : Nat.ble (k * 6) m = true) : a + k * (s + 1) < c :=
  Nat.lt_of_le_of_lt (Nat.add_le_add_left (Nat.le_trans (Nat.mul_le_mul_left k (Nat.succ_le_succ hs)) (Nat.le_of_ble_eq_true e)) a) h
theorem sz_room2 {a k s s' m c : Nat} (h : a + m < c) (e1 : s' = s + 1) (hs : s < 5) (e : Nat.ble (k * 6) m = true) : a + k * (s' + 1) < c := sz_room1 h (e1 ▸ hs) e
theorem in_room {a j k n s c : Nat} (h : a + k * (s + 1) < c) (e : Nat.ble (j + n) k = true) : a + j + n < c := by
  rw [Nat.add_assoc]
  exact Nat.lt_of_le_of_lt (Nat.add_le_add_left (Nat.le_trans (Nat.le_of_ble_eq_true e) (Nat.le_mul_of_pos_right k (Nat.succ_pos s))) a) h
theorem lt_ne {d e : Addr} {l : List (Addr × Obj)} (h : ∀ p ∈ l, p.1 < d) (k : d ≤ e) : ∀ p ∈ l, p.1 ≠ e := fun p hp => Nat.ne_of_lt (Nat.lt_of_lt_of_le (h p hp) k)
theorem lt_room {a m c : Nat} (h : a + m < c) : a < c := Nat.lt_of_le_of_lt (Nat.le_add_right a m) h
theorem fuel_room {a j k p c : Nat} (h : a + k * (p + 1 + 1) < c) (e : Nat.ble j k = true) : a + j + k * (p + 1) < c := by
  refine Nat.lt_of_le_of_lt ?_ h
  rw [Nat.mul_succ k (p + 1), Nat.add_assoc, Nat.add_comm j]
  exact Nat.add_le_add_left (Nat.add_le_add_left (Nat.le_of_ble_eq_true e) _) _
theorem subL_room {a j k p q c : Nat} (h : a + k * (p + q + 1 + 1) < c) (e : Nat.ble j k = true) : a + j + k * (p + 1) < c :=
  Nat.lt_of_le_of_lt (Nat.add_le_add_left (Nat.mul_le_mul_left k (Nat.add_le_add_right (Nat.le_add_right p q) 1)) _) (fuel_room h e)
theorem subR_room {a j k p q c : Nat} (h : a + k * (p + q + 1 + 1) < c) (e : Nat.ble j k = true) : a + j + k * (q + 1) < c :=
  Nat.lt_of_le_of_lt (Nat.add_le_add_left (Nat.mul_le_mul_left k (Nat.add_le_add_right (Nat.le_add_left q p) 1)) _) (fuel_room h e)

local macro_rules | `(tactic| k_mem) => `(tactic| first | assumption | ((change (_ : Addr × Obj) ∈ (_ : List (Addr × Obj))); ktr_member) | (refine' List.mem_append_right _ ?a; (case a => k_mem)) | (refine' List.mem_append_left _ ?a; (case a => k_mem)))
local macro_rules | `(tactic| k_room) => `(tactic| first | exact le_room (by assumption) (by exact rfl) | exact le_roomS (by assumption) (by exact rfl) | exact sz_room (by assumption) (by assumption) (by exact rfl) | exact sz_room1 (by assumption) (by assumption) (by exact rfl) | exact sz_room2 (by assumption) (by assumption) (by assumption) (by exact rfl) | exact in_room (by assumption) (by exact rfl) | exact fuel_room (by assumption) (by exact rfl) | exact subL_room (by assumption) (by exact rfl) | exact subR_room (by assumption) (by exact rfl) | ((try simp only [depth_under_make, depth_under_kw, depth_in1, depth_deeper, depth_caller, units_in1, units_deeper, Around.mark_units, units_caller]); (try dsimp only [tA]); omega))
local macro_rules | `(tactic| k_units) => `(tactic| k_room)

inductive FI : Nat → Str → Prop
  | K : FI 0 (Str.ofString "K")
  | C : FI 1 (Str.ofString "C")
  | L : FI 2 (Str.ofString "L")
  | R : FI 3 (Str.ofString "R")
theorem FI.lt {i f} (h : FI i f) : i < 4 := by cases h <;> decide

theorem strs4 (a b c d : Str) (t1 t2 t3 t4 : Tok) : StrsAre [Value.str a t1, .str b t2, .str c t3, .str d t4] [a, b, c, d] := .cons _ _ (.cons _ _ (.cons _ _ (.cons _ _ .nil)))

theorem notin_fields {w : World} {A : Around} {s : Shared} {h₀ : Heap} {L : Addr} {news : List (Addr × Obj)} {z : Nd} {i : Nat} {f : Str} {t : Tok} {Q E : Value → Shared → Prop} {prog : Program}
    (N : News h₀ L s.heap news) (m : z.of ∈ news) (hi : FI i f) (h : Q (.bool false) s) : wpAny (model prog w) A (compareOp .NotIn (.str f t) (.ref z.fl)) Q E s := by
  refine notin_list_strs (vs := [.str (Str.ofString "K") (z.ts 8), .str (Str.ofString "C") (z.ts 9), .str (Str.ofString "L") (z.ts 10), .str (Str.ofString "R") (z.ts 11)]) (N.isList m) (strs4 _ _ _ _ _ _ _ _) ?_
  have e : (!([Str.ofString "K", Str.ofString "C", Str.ofString "L", Str.ofString "R"].any (· == f))) = false := by cases hi <;> decide
  rw [e]; exact h

theorem index_fields {w : World} {A : Around} {s : Shared} {h₀ : Heap} {L : Addr} {news : List (Addr × Obj)} {z : Nd} {i : Nat} {f : Str} {t : Tok} {Q E : Value → Shared → Prop} {prog : Program}
    (N : News h₀ L s.heap news) (m : z.of ∈ news) (hi : FI i f) (h : Q (.int i s.toks) { s with toks := s.toks + 1 }) : wpAny (model prog w) A (call (.builtin "list.index") [.ref z.fl, .str f t]) Q E s := by
  have ho := (N _ m).1
  refine call_meets PySem.F.slot_list_index ⟨_, ho, rfl⟩ PySem.F.entry_list_index (PySem.F.args_list_index_2 _ _)
    (PySem.SeqAt.list_indexAt z.fl _ z.nf none #[] (.str f t) (isStrOf f) i ?_ ?_ ?_ ?_) ⟨ho, fun y hy => (eq_isStrOf f t (strs4 _ _ _ _ _ _ _ _) y (by simpa using hy)).at _ _, h⟩
  · exact hi.lt
  · have := hi.lt; omega
  · cases hi <;> rfl
  · intro j h1 h2
    cases hi
    · omega
    · have : j = 0 := by omega
      subst this; show (Str.ofString "K" == Str.ofString "C") = false; decide
    · have : j = 0 ∨ j = 1 := by omega
      rcases this with rfl | rfl
      · show (Str.ofString "K" == Str.ofString "L") = false; decide
      · show (Str.ofString "C" == Str.ofString "L") = false; decide
    · have : j = 0 ∨ j = 1 ∨ j = 2 := by omega
      rcases this with rfl | rfl | rfl
      · show (Str.ofString "K" == Str.ofString "R") = false; decide
      · show (Str.ofString "C" == Str.ofString "R") = false; decide
      · show (Str.ofString "L" == Str.ofString "R") = false; decide

theorem item_list {prog : Program} {w : World} {A : Around} {s : Shared} {h₀ : Heap} {L : Addr} {news : List (Addr × Obj)} {value slice : PySem.Expr} {l : Addr} {vs : Array Value} {n i : Nat} {u : Tok} {v : Value} {Q E : Value → Shared → Prop}
    (N : News h₀ L s.heap news) (m : (l, listOf vs n) ∈ news) (hi : i < 4) (hv : vs[i]? = some v) (h : Q v s)
    (hs : subscripted slice false (.ref l) (.int (i : Int) u) = operate [.ref l, .int (i : Int) u] (getItem (.ref l) (.int (i : Int) u)) := by with_unfolding_all rfl) :
    wpAny (model prog w) A (subscriptTail value slice (.ref l) (.int (i : Int) u)) Q E s :=
  have hl : s.heap.IsList l vs := ⟨_, (N _ m).1, rfl, n, rfl⟩
  tail_any hl.typeIs slot_list_getitem.lookup (wpAny_getItem_list hl (Int.natCast_nonneg i) (by omega) (by simpa using hv) h) hs

theorem set_node {prog : Program} {w : World} {A : Around} {s : Shared} {h₀ : Heap} {L : Addr} {m : Str → Option Value} {news : List (Addr × Obj)} {D : Addr} {vs : Array Value} {n i : Nat} {t : Tok} {v : Value} {Q : Unit → Shared → Prop} {E : Value → Shared → Prop}
    (F : Fr h₀ L s.heap m) (N : News h₀ L s.heap ((D, listOf vs n) :: news)) (hne : ∀ p ∈ news, p.1 ≠ D) (hi : i < 4) (hvs : i < vs.size)
    (h : ∀ h', Fr h₀ L h' m → News h₀ L h' ((D, listOf (vs.setIfInBounds i v) n) :: news) → Q () { s with heap := h' }) :
    wpAny (model prog w) A (setItem (.ref D) (.int (i : Int) t) v) Q E s := by
  have z := N (D, listOf vs n) (.head _)
  refine ki_setAt z.1 (Int.natCast_nonneg i) (by omega) (by omega) (h _ (F.change (Heap.SameBut.update ..) z.2.1 z.2.2) (ki_turn (pre := []) _ N (fun _ h => nomatch h) hne ?_ ?_))
  · rfl
  · simp

section


theorem fref_spec {w : World} {dp un : Nat} {gd : Option (List Code)} {env : Env} {outer : List Env} {A₀ : Around} {base h₀ : Heap} {L : Addr} {m mg mb : Str → Option Value} {mean : ExcName → Option Value} {vq : Program} {vl : List Str} {s : Shared} {Q E : Value → Shared → Prop} {news : List (Addr × Obj)} {z : Nd} {tk : Tok} {i : Nat} {f : Str}
    (B : Below A₀ base outer h₀) (F : Fr h₀ L s.heap m) (X : (K0 w.params).In h₀) (N : News h₀ L s.heap (news)) (T : Top vq vl mean mg mb h₀)
    (hf : env.frame = some L) (hke : env.scope.kind = .function) (hdp : dp + 8 < recursionLimit) (hun : un + 80 < cLine)
    (m1 : z.ox ∈ news) (m2 : z.od ∈ news) (m3 : z.of ∈ news) (hfi : FI i f)
    (hret : ∀ h' tk' r dr hk ho hk2 kt1 kt2 kt3 kt4 kt5 nr, Fr h₀ L h' m → News h₀ L h' ((r, instObj 117 dr) :: (dr, dictOf [⟨hk, .str (Str.ofString "kind") kt1, .str (Str.ofString "field") kt2⟩, ⟨ho, .str (Str.ofString "owner") kt3, .ref z.x⟩, ⟨hk2, .str (Str.ofString "key") kt4, .int (i : Int) kt5⟩] nr) :: news) →
      (∀ p ∈ news, p.1 < dr) → dr < r → Q (.ref r) { s with heap := h', toks := tk' }) :
    wpAny (model Challenge.rw_xm0944_01.row.prog w) (tA dp un gd env outer) (call (.ref 220) [.ref z.x, .str f tk]) Q E s := by
  have m3' := m3
  dsimp only [Nd.ox, Nd.od, Nd.of] at m1 m2 m3
  refine wpAny_call ?_
  k_dflt (refine' code_def ?k1 ?k2 ?k3 ?k4 ?k5 ?kA ?kF ?kK ?k6 ?k7 ?k8 ?k9 ?kB ?_ ?c2 ?c3 ?c4 ?c5; (case kA => exact rfl); (case kF => assumption); (case kK => assumption); (case k1 => k_asm); (case k2 => k_asm); (case k3 => k_asm); (case k4 => k_asm); (case k5 => k_asm); (case k6 => k_is); (case k7 => k_is); (case k8 => first | exact lt_room (by assumption) | (dsimp only [tA]; omega)); (case k9 => exact BindsTo.of_eq rfl); (case c5 => decide); (case kB => exact locs rfl); (case c2 => exact rfl); (case c3 => exact rfl); (case c4 => exact rfl); k_whole)
  intro g' L' h' FG' F' N' B' X' T'
  try dsimp only
  try k_fold
  repeat' (first | (k_unfold; (try dsimp only)) | (k_end; wrow_close) | ((with_reducible show wpAny _ _ (setItem (Value.ref _) (Value.int _ _) _) _ _ _); k_dflt (refine' set_node ?F ?N ?e ?i ?v ?_; (case F => k_asm); (case N => k_asm); (case e => assumption); (case i => assumption); (case v => assumption); k_whole); intro h' F' N'; (try k_sweep)) | ((with_reducible show wpAny _ _ (subscriptTail _ _ (Value.ref _) (Value.int (Nat.cast _) _)) _ _ _); k_dflt (refine' item_list ?N ?m ?i ?v ?_ ?s; (case N => k_asm); (case m => k_mem); (case i => exact FI.lt (by assumption)); (case v => assumption); (case s => with_unfolding_all rfl); k_whole)) | ((with_reducible show wpAny _ _ (call (Value.builtin "list.index") _) _ _ _); k_dflt (refine' index_fields ?N ?m ?i ?_; (case N => k_asm); (case m => assumption); (case i => assumption); k_whole)) | ((with_reducible show wpAny _ _ (compareOp CmpOp.NotIn (Value.str _ _) (Value.ref _)) _ _ _); k_dflt (refine' notin_fields ?N ?m ?i ?_; (case N => k_asm); (case m => assumption); (case i => assumption); k_whole)) | walk1 | (dsimp only; first | ((with_reducible show wpAny _ _ (setItem (Value.ref _) (Value.int _ _) _) _ _ _); k_dflt (refine' set_node ?F ?N ?e ?i ?v ?_; (case F => k_asm); (case N => k_asm); (case e => assumption); (case i => assumption); (case v => assumption); k_whole); intro h' F' N'; (try k_sweep)) | ((with_reducible show wpAny _ _ (subscriptTail _ _ (Value.ref _) (Value.int (Nat.cast _) _)) _ _ _); k_dflt (refine' item_list ?N ?m ?i ?v ?_ ?s; (case N => k_asm); (case m => k_mem); (case i => exact FI.lt (by assumption)); (case v => assumption); (case s => with_unfolding_all rfl); k_whole)) | ((with_reducible show wpAny _ _ (call (Value.builtin "list.index") _) _ _ _); k_dflt (refine' index_fields ?N ?m ?i ?_; (case N => k_asm); (case m => assumption); (case i => assumption); k_whole)) | ((with_reducible show wpAny _ _ (compareOp CmpOp.NotIn (Value.str _ _) (Value.ref _)) _ _ _); k_dflt (refine' notin_fields ?N ?m ?i ?_; (case N => k_asm); (case m => assumption); (case i => assumption); k_whole)) | walk1) | (leave1; walk_say "STEP leave1"; try dsimp only) | fail "no step")
  exact hret _ _ _ _ _ _ _ _ _ _ _ _ _ (by assumption) (by assumption) (by assumption) (by assumption)

theorem of_spec {w : World} {dp un : Nat} {gd : Option (List Code)} {env : Env} {outer : List Env} {A₀ : Around} {base h₀ : Heap} {L : Addr} {m mg mb : Str → Option Value} {mean : ExcName → Option Value} {vq : Program} {vl : List Str} {s : Shared} {Q E : Value → Shared → Prop} {news : List (Addr × Obj)} {z : Nd} {vs : Array Value} {v : Value} {nv : Nat} {tk : Tok} {i : Nat} {f : Str}
    (B : Below A₀ base outer h₀) (F : Fr h₀ L s.heap m) (X : (K0 w.params).In h₀) (N : News h₀ L s.heap (news)) (T : Top vq vl mean mg mb h₀)
    (hf : env.frame = some L) (hke : env.scope.kind = .function) (hdp : dp + 10 < recursionLimit) (hun : un + 100 < cLine)
    (m1 : z.ox ∈ news) (m2 : z.od ∈ news) (m3 : z.of ∈ news) (m4 : (z.vl, listOf vs nv) ∈ news) (hfi : FI i f) (hv : vs[i]? = some v)
    (hret : ∀ h' tk', Fr h₀ L h' m → News h₀ L h' news → Q v { s with heap := h', toks := tk' }) :
    wpAny (model Challenge.rw_xm0944_01.row.prog w) (tA dp un gd env outer) (call (.ref 248) [.ref z.x, .str f tk]) Q E s := by
  have m3' := m3
  dsimp only [Nd.ox, Nd.od, Nd.of] at m1 m2 m3
  refine wpAny_call ?_
  k_dflt (refine' code_def ?k1 ?k2 ?k3 ?k4 ?k5 ?kA ?kF ?kK ?k6 ?k7 ?k8 ?k9 ?kB ?_ ?c2 ?c3 ?c4 ?c5; (case kA => exact rfl); (case kF => assumption); (case kK => assumption); (case k1 => k_asm); (case k2 => k_asm); (case k3 => k_asm); (case k4 => k_asm); (case k5 => k_asm); (case k6 => k_is); (case k7 => k_is); (case k8 => first | exact lt_room (by assumption) | (dsimp only [tA]; omega)); (case k9 => exact BindsTo.of_eq rfl); (case c5 => decide); (case kB => exact locs rfl); (case c2 => exact rfl); (case c3 => exact rfl); (case c4 => exact rfl); k_whole)
  intro g' L' h' FG' F' N' B' X' T'
  try dsimp only
  try k_fold
  repeat' (first | (k_unfold; (try dsimp only)) | (k_end; wrow_close) | ((with_reducible show wpAny _ _ (call (Value.ref 220) _) _ _ _); k_dflt (refine' fref_spec ?B ?F ?X ?N ?T ?hf ?hke ?hdp ?hun ?m1 ?m2 ?m3 ?hfi ?_; (case B => k_asm); (case F => k_asm); (case X => k_asm); (case N => k_asm); (case T => k_asm); (case hf => rfl); (case hke => rfl); (case hdp => k_room); (case hun => k_units); (case m1 => k_mem); (case m2 => k_mem); (case m3 => k_mem); (case hfi => first | assumption | constructor); k_whole); intro h' tk' r' dr' hk' ho' hkk' kt1' kt2' kt3' kt4' kt5' nr' F' N' l1' l2'; (try k_sweep)) | ((with_reducible show wpAny _ _ (call (Value.ref 248) _) _ _ _); k_dflt (first | (refine' of_K ?B ?F ?X ?N ?T ?hf ?hke ?hdp ?hun ?m1 ?m2 ?m3 ?m4 ?_; (case B => k_asm); (case F => k_asm); (case X => k_asm); (case N => k_asm); (case T => k_asm); (case hf => rfl); (case hke => rfl); (case hdp => k_room); (case hun => k_units); (case m1 => k_mem); (case m2 => k_mem); (case m3 => k_mem); (case m4 => k_mem); k_whole) | (refine' of_C ?B ?F ?X ?N ?T ?hf ?hke ?hdp ?hun ?m1 ?m2 ?m3 ?m4 ?_; (case B => k_asm); (case F => k_asm); (case X => k_asm); (case N => k_asm); (case T => k_asm); (case hf => rfl); (case hke => rfl); (case hdp => k_room); (case hun => k_units); (case m1 => k_mem); (case m2 => k_mem); (case m3 => k_mem); (case m4 => k_mem); k_whole) | (refine' of_L ?B ?F ?X ?N ?T ?hf ?hke ?hdp ?hun ?m1 ?m2 ?m3 ?m4 ?_; (case B => k_asm); (case F => k_asm); (case X => k_asm); (case N => k_asm); (case T => k_asm); (case hf => rfl); (case hke => rfl); (case hdp => k_room); (case hun => k_units); (case m1 => k_mem); (case m2 => k_mem); (case m3 => k_mem); (case m4 => k_mem); k_whole) | (refine' of_R ?B ?F ?X ?N ?T ?hf ?hke ?hdp ?hun ?m1 ?m2 ?m3 ?m4 ?_; (case B => k_asm); (case F => k_asm); (case X => k_asm); (case N => k_asm); (case T => k_asm); (case hf => rfl); (case hke => rfl); (case hdp => k_room); (case hun => k_units); (case m1 => k_mem); (case m2 => k_mem); (case m3 => k_mem); (case m4 => k_mem); k_whole)); intro h' tk' F' N'; (try k_sweep)) | ((with_reducible show wpAny _ _ (setItem (Value.ref _) (Value.int _ _) _) _ _ _); k_dflt (refine' set_node ?F ?N ?e ?i ?v ?_; (case F => k_asm); (case N => k_asm); (case e => assumption); (case i => assumption); (case v => assumption); k_whole); intro h' F' N'; (try k_sweep)) | ((with_reducible show wpAny _ _ (subscriptTail _ _ (Value.ref _) (Value.int (Nat.cast _) _)) _ _ _); k_dflt (refine' item_list ?N ?m ?i ?v ?_ ?s; (case N => k_asm); (case m => k_mem); (case i => exact FI.lt (by assumption)); (case v => assumption); (case s => with_unfolding_all rfl); k_whole)) | ((with_reducible show wpAny _ _ (call (Value.builtin "list.index") _) _ _ _); k_dflt (refine' index_fields ?N ?m ?i ?_; (case N => k_asm); (case m => assumption); (case i => assumption); k_whole)) | ((with_reducible show wpAny _ _ (compareOp CmpOp.NotIn (Value.str _ _) (Value.ref _)) _ _ _); k_dflt (refine' notin_fields ?N ?m ?i ?_; (case N => k_asm); (case m => assumption); (case i => assumption); k_whole)) | walk1 | (dsimp only; first | ((with_reducible show wpAny _ _ (call (Value.ref 220) _) _ _ _); k_dflt (refine' fref_spec ?B ?F ?X ?N ?T ?hf ?hke ?hdp ?hun ?m1 ?m2 ?m3 ?hfi ?_; (case B => k_asm); (case F => k_asm); (case X => k_asm); (case N => k_asm); (case T => k_asm); (case hf => rfl); (case hke => rfl); (case hdp => k_room); (case hun => k_units); (case m1 => k_mem); (case m2 => k_mem); (case m3 => k_mem); (case hfi => first | assumption | constructor); k_whole); intro h' tk' r' dr' hk' ho' hkk' kt1' kt2' kt3' kt4' kt5' nr' F' N' l1' l2'; (try k_sweep)) | ((with_reducible show wpAny _ _ (call (Value.ref 248) _) _ _ _); k_dflt (first | (refine' of_K ?B ?F ?X ?N ?T ?hf ?hke ?hdp ?hun ?m1 ?m2 ?m3 ?m4 ?_; (case B => k_asm); (case F => k_asm); (case X => k_asm); (case N => k_asm); (case T => k_asm); (case hf => rfl); (case hke => rfl); (case hdp => k_room); (case hun => k_units); (case m1 => k_mem); (case m2 => k_mem); (case m3 => k_mem); (case m4 => k_mem); k_whole) | (refine' of_C ?B ?F ?X ?N ?T ?hf ?hke ?hdp ?hun ?m1 ?m2 ?m3 ?m4 ?_; (case B => k_asm); (case F => k_asm); (case X => k_asm); (case N => k_asm); (case T => k_asm); (case hf => rfl); (case hke => rfl); (case hdp => k_room); (case hun => k_units); (case m1 => k_mem); (case m2 => k_mem); (case m3 => k_mem); (case m4 => k_mem); k_whole) | (refine' of_L ?B ?F ?X ?N ?T ?hf ?hke ?hdp ?hun ?m1 ?m2 ?m3 ?m4 ?_; (case B => k_asm); (case F => k_asm); (case X => k_asm); (case N => k_asm); (case T => k_asm); (case hf => rfl); (case hke => rfl); (case hdp => k_room); (case hun => k_units); (case m1 => k_mem); (case m2 => k_mem); (case m3 => k_mem); (case m4 => k_mem); k_whole) | (refine' of_R ?B ?F ?X ?N ?T ?hf ?hke ?hdp ?hun ?m1 ?m2 ?m3 ?m4 ?_; (case B => k_asm); (case F => k_asm); (case X => k_asm); (case N => k_asm); (case T => k_asm); (case hf => rfl); (case hke => rfl); (case hdp => k_room); (case hun => k_units); (case m1 => k_mem); (case m2 => k_mem); (case m3 => k_mem); (case m4 => k_mem); k_whole)); intro h' tk' F' N'; (try k_sweep)) | ((with_reducible show wpAny _ _ (setItem (Value.ref _) (Value.int _ _) _) _ _ _); k_dflt (refine' set_node ?F ?N ?e ?i ?v ?_; (case F => k_asm); (case N => k_asm); (case e => assumption); (case i => assumption); (case v => assumption); k_whole); intro h' F' N'; (try k_sweep)) | ((with_reducible show wpAny _ _ (subscriptTail _ _ (Value.ref _) (Value.int (Nat.cast _) _)) _ _ _); k_dflt (refine' item_list ?N ?m ?i ?v ?_ ?s; (case N => k_asm); (case m => k_mem); (case i => exact FI.lt (by assumption)); (case v => assumption); (case s => with_unfolding_all rfl); k_whole)) | ((with_reducible show wpAny _ _ (call (Value.builtin "list.index") _) _ _ _); k_dflt (refine' index_fields ?N ?m ?i ?_; (case N => k_asm); (case m => assumption); (case i => assumption); k_whole)) | ((with_reducible show wpAny _ _ (compareOp CmpOp.NotIn (Value.str _ _) (Value.ref _)) _ _ _); k_dflt (refine' notin_fields ?N ?m ?i ?_; (case N => k_asm); (case m => assumption); (case i => assumption); k_whole)) | walk1) | (leave1; walk_say "STEP leave1"; try dsimp only) | fail "no step")
  refine hret _ _ (by assumption) ?_
  rename News h₀ L _ _ => lN
  exact fun p hp => lN p (by repeat (first | exact hp | refine List.mem_cons_of_mem _ ?_))

theorem set_spec0 {w : World} {dp un : Nat} {gd : Option (List Code)} {env : Env} {outer : List Env} {A₀ : Around} {base h₀ : Heap} {L : Addr} {m mg mb : Str → Option Value} {mean : ExcName → Option Value} {vq : Program} {vl : List Str} {s : Shared} {Q E : Value → Shared → Prop} {news : List (Addr × Obj)} {z : Nd} {vs : Array Value} {v : Value} {nv : Nat} {i : Nat} {r dr : Addr} {hk ho hk2 : Int} {kt1 kt2 kt3 kt4 kt5 : Tok} {nr : Nat}
    (B : Below A₀ base outer h₀) (F : Fr h₀ L s.heap m) (X : (K0 w.params).In h₀) (N : News h₀ L s.heap ((z.vl, listOf vs nv) :: news)) (T : Top vq vl mean mg mb h₀)
    (hf : env.frame = some L) (hke : env.scope.kind = .function) (hdp : dp + 10 < recursionLimit) (hun : un + 100 < cLine)
    (hne : ∀ p ∈ news, p.1 ≠ z.vl)
    (m1 : z.ox ∈ news) (m2 : z.od ∈ news) (m3 : z.of ∈ news)
    (m4 : (r, instObj 117 dr) ∈ news) (m5 : (dr, dictOf [⟨hk, .str (Str.ofString "kind") kt1, .str (Str.ofString "field") kt2⟩, ⟨ho, .str (Str.ofString "owner") kt3, .ref z.x⟩, ⟨hk2, .str (Str.ofString "key") kt4, .int (i : Int) kt5⟩] nr) ∈ news)
    (hi4 : i < 4) (hvs : i < vs.size)
    (hret : ∀ h' tk', Fr h₀ L h' m → News h₀ L h' ((z.vl, listOf (vs.setIfInBounds i v) nv) :: news) → Q .none { s with heap := h', toks := tk' }) :
    wpAny (model Challenge.rw_xm0944_01.row.prog w) (tA dp un gd env outer) (call (.ref 234) [.ref r, v]) Q E s := by
  have m3' := m3
  dsimp only [Nd.ox, Nd.od, Nd.of] at m1 m2 m3
  refine wpAny_call ?_
  k_dflt (refine' code_def ?k1 ?k2 ?k3 ?k4 ?k5 ?kA ?kF ?kK ?k6 ?k7 ?k8 ?k9 ?kB ?_ ?c2 ?c3 ?c4 ?c5; (case kA => exact rfl); (case kF => assumption); (case kK => assumption); (case k1 => k_asm); (case k2 => k_asm); (case k3 => k_asm); (case k4 => k_asm); (case k5 => k_asm); (case k6 => k_is); (case k7 => k_is); (case k8 => first | exact lt_room (by assumption) | (dsimp only [tA]; omega)); (case k9 => exact BindsTo.of_eq rfl); (case c5 => decide); (case kB => exact locs rfl); (case c2 => exact rfl); (case c3 => exact rfl); (case c4 => exact rfl); k_whole)
  intro g' L' h' FG' F' N' B' X' T'
  try dsimp only
  try k_fold
  repeat' (first | (k_unfold; (try dsimp only)) | (k_end; wrow_close) | ((with_reducible show wpAny _ _ (setItem (Value.ref _) (Value.int _ _) _) _ _ _); k_dflt (refine' set_node ?F ?N ?e ?i ?v ?_; (case F => k_asm); (case N => k_asm); (case e => assumption); (case i => assumption); (case v => assumption); k_whole); intro h' F' N'; (try k_sweep)) | ((with_reducible show wpAny _ _ (subscriptTail _ _ (Value.ref _) (Value.int (Nat.cast _) _)) _ _ _); k_dflt (refine' item_list ?N ?m ?i ?v ?_ ?s; (case N => k_asm); (case m => k_mem); (case i => exact FI.lt (by assumption)); (case v => assumption); (case s => with_unfolding_all rfl); k_whole)) | ((with_reducible show wpAny _ _ (call (Value.builtin "list.index") _) _ _ _); k_dflt (refine' index_fields ?N ?m ?i ?_; (case N => k_asm); (case m => assumption); (case i => assumption); k_whole)) | ((with_reducible show wpAny _ _ (compareOp CmpOp.NotIn (Value.str _ _) (Value.ref _)) _ _ _); k_dflt (refine' notin_fields ?N ?m ?i ?_; (case N => k_asm); (case m => assumption); (case i => assumption); k_whole)) | walk1 | (dsimp only; first | ((with_reducible show wpAny _ _ (setItem (Value.ref _) (Value.int _ _) _) _ _ _); k_dflt (refine' set_node ?F ?N ?e ?i ?v ?_; (case F => k_asm); (case N => k_asm); (case e => assumption); (case i => assumption); (case v => assumption); k_whole); intro h' F' N'; (try k_sweep)) | ((with_reducible show wpAny _ _ (subscriptTail _ _ (Value.ref _) (Value.int (Nat.cast _) _)) _ _ _); k_dflt (refine' item_list ?N ?m ?i ?v ?_ ?s; (case N => k_asm); (case m => k_mem); (case i => exact FI.lt (by assumption)); (case v => assumption); (case s => with_unfolding_all rfl); k_whole)) | ((with_reducible show wpAny _ _ (call (Value.builtin "list.index") _) _ _ _); k_dflt (refine' index_fields ?N ?m ?i ?_; (case N => k_asm); (case m => assumption); (case i => assumption); k_whole)) | ((with_reducible show wpAny _ _ (compareOp CmpOp.NotIn (Value.str _ _) (Value.ref _)) _ _ _); k_dflt (refine' notin_fields ?N ?m ?i ?_; (case N => k_asm); (case m => assumption); (case i => assumption); k_whole)) | walk1) | (leave1; walk_say "STEP leave1"; try dsimp only) | fail "no step")
  exact hret _ _ (by assumption) (by assumption)

theorem set_spec {w : World} {dp un : Nat} {gd : Option (List Code)} {env : Env} {outer : List Env} {A₀ : Around} {base h₀ : Heap} {L : Addr} {m mg mb : Str → Option Value} {mean : ExcName → Option Value} {vq : Program} {vl : List Str} {s : Shared} {Q E : Value → Shared → Prop} {news : List (Addr × Obj)} {z : Nd} {vs : Array Value} {v : Value} {nv : Nat} {i : Nat} {r dr : Addr} {hk ho hk2 : Int} {kt1 kt2 kt3 kt4 kt5 : Tok} {nr : Nat}
    (B : Below A₀ base outer h₀) (F : Fr h₀ L s.heap m) (X : (K0 w.params).In h₀) (N : News h₀ L s.heap ((r, instObj 117 dr) :: (dr, dictOf [⟨hk, .str (Str.ofString "kind") kt1, .str (Str.ofString "field") kt2⟩, ⟨ho, .str (Str.ofString "owner") kt3, .ref z.x⟩, ⟨hk2, .str (Str.ofString "key") kt4, .int (i : Int) kt5⟩] nr) :: news)) (T : Top vq vl mean mg mb h₀)
    (hf : env.frame = some L) (hke : env.scope.kind = .function) (hdp : dp + 10 < recursionLimit) (hun : un + 100 < cLine)
    (l1 : ∀ p ∈ news, p.1 < dr) (l2 : dr < r)
    (others : List (Addr × Obj)) (hsub : ∀ p ∈ others, p ∈ news) (hne : ∀ p ∈ others, p.1 ≠ z.vl)
    (m0 : (z.vl, listOf vs nv) ∈ news) (m1 : z.ox ∈ others) (m2 : z.od ∈ others) (m3 : z.of ∈ others)
    (hi4 : i < 4) (hvs : i < vs.size)
    (hret : ∀ h' tk', Fr h₀ L h' m → News h₀ L h' ((z.vl, listOf (vs.setIfInBounds i v) nv) :: others) → Q .none { s with heap := h', toks := tk' }) :
    wpAny (model Challenge.rw_xm0944_01.row.prog w) (tA dp un gd env outer) (call (.ref 234) [.ref r, v]) Q E s := by
  have hz := l1 _ m0
  dsimp only at hz
  refine set_spec0 (z := z) (nv := nv) (news := (r, instObj 117 dr) :: (dr, dictOf [⟨hk, .str (Str.ofString "kind") kt1, .str (Str.ofString "field") kt2⟩, ⟨ho, .str (Str.ofString "owner") kt3, .ref z.x⟩, ⟨hk2, .str (Str.ofString "key") kt4, .int (i : Int) kt5⟩] nr) :: others)
    B F X ?_ T hf hke hdp hun ?_ ?_ ?_ ?_ (.head _) (.tail _ (.head _)) hi4 hvs ?_
  · intro p hp
    rcases List.mem_cons.mp hp with rfl | hp
    · exact N _ (.tail _ (.tail _ m0))
    rcases List.mem_cons.mp hp with rfl | hp
    · exact N _ (.head _)
    rcases List.mem_cons.mp hp with rfl | hp
    · exact N _ (.tail _ (.head _))
    exact N _ (.tail _ (.tail _ (hsub _ hp)))
  · intro p hp
    rcases List.mem_cons.mp hp with rfl | hp
    · exact Nat.ne_of_gt (Nat.lt_trans hz l2)
    rcases List.mem_cons.mp hp with rfl | hp
    · exact Nat.ne_of_gt hz
    exact hne _ hp
  · exact .tail _ (.tail _ m1)
  · exact .tail _ (.tail _ m2)
  · exact .tail _ (.tail _ m3)
  · intro h' tk' F' N'
    refine hret h' tk' F' fun p hp => N' p ?_
    rcases List.mem_cons.mp hp with rfl | hp
    · exact .head _
    · exact .tail _ (.tail _ (.tail _ hp))

end

theorem of_K {w : World} {dp un : Nat} {gd : Option (List Code)} {env : Env} {outer : List Env} {A₀ : Around} {base h₀ : Heap} {L : Addr} {m mg mb : Str → Option Value} {mean : ExcName → Option Value} {vq : Program} {vl : List Str} {s : Shared} {Q E : Value → Shared → Prop} {news : List (Addr × Obj)} {z : Nd} {v0 v1 v2 v3 : Value} {nv : Nat} {tk : Tok}
    (B : Below A₀ base outer h₀) (F : Fr h₀ L s.heap m) (X : (K0 w.params).In h₀) (N : News h₀ L s.heap (news)) (T : Top vq vl mean mg mb h₀)
    (hf : env.frame = some L) (hke : env.scope.kind = .function) (hdp : dp + 10 < recursionLimit) (hun : un + 100 < cLine)
    (m1 : z.ox ∈ news) (m2 : z.od ∈ news) (m3 : z.of ∈ news) (m4 : (z.vl, listOf #[v0, v1, v2, v3] nv) ∈ news)
    (hret : ∀ h' tk', Fr h₀ L h' m → News h₀ L h' news → Q v0 { s with heap := h', toks := tk' }) :
    wpAny (model Challenge.rw_xm0944_01.row.prog w) (tA dp un gd env outer) (call (.ref 248) [.ref z.x, .str (Str.ofString "K") tk]) Q E s :=
  of_spec B F X N T hf hke hdp hun m1 m2 m3 m4 FI.K rfl hret
theorem of_C {w : World} {dp un : Nat} {gd : Option (List Code)} {env : Env} {outer : List Env} {A₀ : Around} {base h₀ : Heap} {L : Addr} {m mg mb : Str → Option Value} {mean : ExcName → Option Value} {vq : Program} {vl : List Str} {s : Shared} {Q E : Value → Shared → Prop} {news : List (Addr × Obj)} {z : Nd} {v0 v1 v2 v3 : Value} {nv : Nat} {tk : Tok}
    (B : Below A₀ base outer h₀) (F : Fr h₀ L s.heap m) (X : (K0 w.params).In h₀) (N : News h₀ L s.heap (news)) (T : Top vq vl mean mg mb h₀)
    (hf : env.frame = some L) (hke : env.scope.kind = .function) (hdp : dp + 10 < recursionLimit) (hun : un + 100 < cLine)
    (m1 : z.ox ∈ news) (m2 : z.od ∈ news) (m3 : z.of ∈ news) (m4 : (z.vl, listOf #[v0, v1, v2, v3] nv) ∈ news)
    (hret : ∀ h' tk', Fr h₀ L h' m → News h₀ L h' news → Q v1 { s with heap := h', toks := tk' }) :
    wpAny (model Challenge.rw_xm0944_01.row.prog w) (tA dp un gd env outer) (call (.ref 248) [.ref z.x, .str (Str.ofString "C") tk]) Q E s :=
  of_spec B F X N T hf hke hdp hun m1 m2 m3 m4 FI.C rfl hret
theorem of_L {w : World} {dp un : Nat} {gd : Option (List Code)} {env : Env} {outer : List Env} {A₀ : Around} {base h₀ : Heap} {L : Addr} {m mg mb : Str → Option Value} {mean : ExcName → Option Value} {vq : Program} {vl : List Str} {s : Shared} {Q E : Value → Shared → Prop} {news : List (Addr × Obj)} {z : Nd} {v0 v1 v2 v3 : Value} {nv : Nat} {tk : Tok}
    (B : Below A₀ base outer h₀) (F : Fr h₀ L s.heap m) (X : (K0 w.params).In h₀) (N : News h₀ L s.heap (news)) (T : Top vq vl mean mg mb h₀)
    (hf : env.frame = some L) (hke : env.scope.kind = .function) (hdp : dp + 10 < recursionLimit) (hun : un + 100 < cLine)
    (m1 : z.ox ∈ news) (m2 : z.od ∈ news) (m3 : z.of ∈ news) (m4 : (z.vl, listOf #[v0, v1, v2, v3] nv) ∈ news)
    (hret : ∀ h' tk', Fr h₀ L h' m → News h₀ L h' news → Q v2 { s with heap := h', toks := tk' }) :
    wpAny (model Challenge.rw_xm0944_01.row.prog w) (tA dp un gd env outer) (call (.ref 248) [.ref z.x, .str (Str.ofString "L") tk]) Q E s :=
  of_spec B F X N T hf hke hdp hun m1 m2 m3 m4 FI.L rfl hret
theorem of_R {w : World} {dp un : Nat} {gd : Option (List Code)} {env : Env} {outer : List Env} {A₀ : Around} {base h₀ : Heap} {L : Addr} {m mg mb : Str → Option Value} {mean : ExcName → Option Value} {vq : Program} {vl : List Str} {s : Shared} {Q E : Value → Shared → Prop} {news : List (Addr × Obj)} {z : Nd} {v0 v1 v2 v3 : Value} {nv : Nat} {tk : Tok}
    (B : Below A₀ base outer h₀) (F : Fr h₀ L s.heap m) (X : (K0 w.params).In h₀) (N : News h₀ L s.heap (news)) (T : Top vq vl mean mg mb h₀)
    (hf : env.frame = some L) (hke : env.scope.kind = .function) (hdp : dp + 10 < recursionLimit) (hun : un + 100 < cLine)
    (m1 : z.ox ∈ news) (m2 : z.od ∈ news) (m3 : z.of ∈ news) (m4 : (z.vl, listOf #[v0, v1, v2, v3] nv) ∈ news)
    (hret : ∀ h' tk', Fr h₀ L h' m → News h₀ L h' news → Q v3 { s with heap := h', toks := tk' }) :
    wpAny (model Challenge.rw_xm0944_01.row.prog w) (tA dp un gd env outer) (call (.ref 248) [.ref z.x, .str (Str.ofString "R") tk]) Q E s :=
  of_spec B F X N T hf hke hdp hun m1 m2 m3 m4 FI.R rfl hret

inductive Tr where
  | leaf (t : Tok)
  | node (z : Nd) (k c : Int) (tk tc : Tok) (nv : Nat) (l r : Tr)
noncomputable def Tr.val : Tr → Value
  | .leaf t => .str (Str.ofString "") t
  | .node z _ _ _ _ _ _ _ => .ref z.x
noncomputable def Tr.led : Tr → List (Addr × Obj)
  | .leaf _ => []
  | .node z k c tk tc nv l r => (z.vl, listOf #[.int k tk, .int c tc, l.val, r.val] nv) :: z.ox :: z.od :: z.of :: (l.led ++ r.led)
theorem Tr.val_leaf (t : Tok) : (Tr.leaf t).val = .str (Str.ofString "") t := rfl
theorem Tr.val_node (z : Nd) (k c : Int) (tk tc : Tok) (nv : Nat) (l r : Tr) : (Tr.node z k c tk tc nv l r).val = .ref z.x := rfl
noncomputable def Tr.size : Tr → Nat
  | .leaf _ => 0
  | .node _ _ _ _ _ _ l r => l.size + r.size + 1

structure Bn where
  z : Nd
  k : Int
  c : Int
  tk : Tok
  tc : Tok
  nv : Nat
  t1 : Tok
  t2 : Tok
noncomputable abbrev Bn.tr (b : Bn) : Tr := .node b.z b.k b.c b.tk b.tc b.nv (.leaf b.t1) (.leaf b.t2)

noncomputable def upL (z : Nd) (k c : Int) (tk tc : Tok) (nv : Nat) (r : Tr) : Tr → Tr
  | .leaf t => .node z k c tk tc nv (.leaf t) r
  | .node z' k' c' tk' tc' nv' l' r' => if c' < c then .node z k c tk tc nv (.node z' k' c' tk' tc' nv' l' r') r else .node z' k' c' tk' tc' nv' l' (.node z k c tk tc nv r' r)
noncomputable def upR (z : Nd) (k c : Int) (tk tc : Tok) (nv : Nat) (l : Tr) : Tr → Tr
  | .leaf t => .node z k c tk tc nv l (.leaf t)
  | .node z' k' c' tk' tc' nv' l' r' => if c' < c then .node z k c tk tc nv l (.node z' k' c' tk' tc' nv' l' r') else .node z' k' c' tk' tc' nv' (.node z k c tk tc nv l l') r'
noncomputable def ins (b : Bn) : Tr → Tr
  | .leaf _ => b.tr
  | .node z k c tk tc nv l r => if b.k < k then upL z k c tk tc nv r (ins b l) else upR z k c tk tc nv l (ins b r)

theorem up_ne (z : Nd) (k c : Int) (tk tc : Tok) (nv : Nat) (r : Tr) (t0 : Tok) : ∀ t : Tr, upL z k c tk tc nv r t ≠ .leaf t0 ∧ upR z k c tk tc nv r t ≠ .leaf t0
  | .leaf _ => ⟨nofun, nofun⟩
  | .node _ _ _ _ _ _ _ _ => by rw [upL, upR]; split <;> exact ⟨nofun, nofun⟩
theorem ins_ne (b : Bn) (t0 : Tok) : ∀ t : Tr, ins b t ≠ .leaf t0
  | .leaf _ => nofun
  | .node z k c tk tc nv l r => by
    rw [ins]
    split
    · exact (up_ne ..).1
    · exact (up_ne ..).2
theorem ins_node (b : Bn) (t : Tr) : ∃ z k c tk tc nv l r, ins b t = .node z k c tk tc nv l r := by
  cases h : ins b t with
  | leaf t0 => exact absurd h (ins_ne b t0 t)
  | node z k c tk tc nv l r => exact ⟨z, k, c, tk, tc, nv, l, r, rfl⟩

noncomputable def NodupL (l : List (Addr × Obj)) : Prop := (l.map Prod.fst).Nodup
theorem NodupL.perm {l l' : List (Addr × Obj)} (h : NodupL l) (e : ∀ a, (l.map Prod.fst).count a = (l'.map Prod.fst).count a) : NodupL l' :=
  (List.perm_iff_count.mpr e).nodup_iff.mp h
theorem NodupL.ne {a : Addr} {o : Obj} {l : List (Addr × Obj)} (h : NodupL ((a, o) :: l)) : ∀ p ∈ l, p.1 ≠ a := fun p hp e => by
  have := (List.nodup_cons.mp h).1
  exact this (List.mem_map.mpr ⟨p, hp, e⟩)

theorem NodupL.permL {l l' : List (Addr × Obj)} (h : NodupL l) (e : (l.map Prod.fst).Perm (l'.map Prod.fst)) : NodupL l' := e.nodup_iff.mp h
noncomputable def zA (z : Nd) : List Addr := [z.vl, z.x, z.dx, z.fl]
noncomputable def Tr.ad (t : Tr) : List Addr := t.led.map Prod.fst
theorem ad_node (z : Nd) (k c : Int) (tk tc : Tok) (nv : Nat) (l r : Tr) : (Tr.node z k c tk tc nv l r).ad = zA z ++ (l.ad ++ r.ad) := by
  rw [Tr.ad, Tr.ad, Tr.ad, ← List.map_append]; rfl
theorem pm {α : Type} (A B : List α) {V V' : List α} (h : V.Perm (B ++ V')) : (A ++ V).Perm (B ++ (A ++ V')) := (h.append_left A).trans (List.perm_append_comm_assoc A B V')
theorem up_L (z : Nd) (k c : Int) (tk tc : Tok) (nv : Nat) (r : Tr) : ∀ t : Tr, (upL z k c tk tc nv r t).ad.Perm (zA z ++ (t.ad ++ r.ad))
  | .leaf t => by rw [upL, ad_node]
  | .node z' k' c' tk' tc' nv' l' r' => by
    rw [upL]
    split
    · rw [ad_node]
    · rw [ad_node, ad_node, ad_node, List.append_assoc, List.append_assoc]
      exact pm _ _ (List.perm_append_comm_assoc ..)
theorem up_R (z : Nd) (k c : Int) (tk tc : Tok) (nv : Nat) (l : Tr) : ∀ t : Tr, (upR z k c tk tc nv l t).ad.Perm (zA z ++ (l.ad ++ t.ad))
  | .leaf t => by rw [upR, ad_node]
  | .node z' k' c' tk' tc' nv' l' r' => by
    rw [upR]
    split
    · rw [ad_node]
    · rw [ad_node, ad_node, ad_node, List.append_assoc, List.append_assoc]
      exact (pm _ _ (List.perm_append_comm_assoc ..)).symm
theorem led_perm (b : Bn) : ∀ t : Tr, (ins b t).ad.Perm (b.tr.ad ++ t.ad)
  | .leaf _ => by rw [ins]; exact .of_eq (List.append_nil _).symm
  | .node z k c tk tc nv l r => by
    rw [ins]
    split
    · refine (up_L ..).trans ?_
      rw [ad_node z k c tk tc nv l r]
      refine (((led_perm b l).append_right _).append_left _).trans ?_
      rw [List.append_assoc]
      exact List.perm_append_comm_assoc ..
    · refine (up_R ..).trans ?_
      rw [ad_node z k c tk tc nv l r]
      refine (((led_perm b r).append_left _).append_left _).trans ?_
      exact pm _ _ (List.perm_append_comm_assoc ..)
theorem nd_ins {b : Bn} {t : Tr} {Y : List (Addr × Obj)} (h : NodupL (b.tr.led ++ (t.led ++ Y))) : NodupL ((ins b t).led ++ Y) := by
  refine h.permL ?_
  rw [List.map_append, List.map_append, List.map_append, ← List.append_assoc]
  exact (led_perm b t).symm.append_right _
theorem mv1 {α : Type} (B Z l R : List α) : (B ++ (l ++ (Z ++ R))).Perm (B ++ (Z ++ (l ++ R))) := (List.perm_append_comm_assoc l Z R).append_left B
theorem mv2 {α : Type} (Z' l' r' Z R : List α) : ((Z' ++ (l' ++ r')) ++ (Z ++ R)).Perm (Z ++ (Z' ++ (l' ++ (r' ++ R)))) := by
  rw [List.append_assoc, List.append_assoc]
  exact pm _ _ (pm _ _ (List.perm_append_comm_assoc ..))
theorem mv3 {α : Type} (B Z l r R : List α) : (B ++ (r ++ (Z ++ (l ++ R)))).Perm (B ++ (Z ++ (l ++ (r ++ R)))) :=
  ((List.perm_append_comm_assoc r Z (l ++ R)).trans ((List.perm_append_comm_assoc r l R).append_left Z)).append_left B

/-- an entry taken out of a ledger -/
inductive Rem (e : Addr × Obj) : List (Addr × Obj) → List (Addr × Obj) → Prop
  | head {r} : Rem e (e :: r) r
  | tail {p r r'} : Rem e r r' → Rem e (p :: r) (p :: r')
theorem Rem.mem {e : Addr × Obj} : ∀ {l l'}, Rem e l l' → e ∈ l
  | _, _, .head => .head _
  | _, _, .tail h => .tail _ h.mem
theorem Rem.sub {e : Addr × Obj} : ∀ {l l'}, Rem e l l' → ∀ p ∈ l', p ∈ l
  | _, _, .head, _, hp => .tail _ hp
  | _, _, .tail h, p, hp => by
    rcases List.mem_cons.mp hp with rfl | hp
    · exact .head _
    · exact .tail _ (h.sub p hp)
theorem Rem.count {e : Addr × Obj} (a : Addr) : ∀ {l l'}, Rem e l l' → (l.map Prod.fst).count a = ((e :: l').map Prod.fst).count a
  | _, _, .head => rfl
  | _, _, .tail h => by have := h.count a; simp only [List.map_cons, List.count_cons] at this ⊢; omega

theorem setL_spec {w : World} {dp un : Nat} {gd : Option (List Code)} {env : Env} {outer : List Env} {A₀ : Around} {base h₀ : Heap} {L : Addr} {m mg mb : Str → Option Value} {mean : ExcName → Option Value} {vq : Program} {vl : List Str} {s : Shared} {Q E : Value → Shared → Prop} {cur news others : List (Addr × Obj)} {z : Nd} {v0 v1 v2 v3 v : Value} {nv : Nat} {r dr : Addr} {hk ho hk2 : Int} {kt1 kt2 kt3 kt4 kt5 : Tok} {nr : Nat}
    (B : Below A₀ base outer h₀) (F : Fr h₀ L s.heap m) (X : (K0 w.params).In h₀) (N : News h₀ L s.heap ((r, instObj 117 dr) :: (dr, dictOf [⟨hk, .str (Str.ofString "kind") kt1, .str (Str.ofString "field") kt2⟩, ⟨ho, .str (Str.ofString "owner") kt3, .ref z.x⟩, ⟨hk2, .str (Str.ofString "key") kt4, .int ((2 : Nat) : Int) kt5⟩] nr) :: cur)) (T : Top vq vl mean mg mb h₀)
    (hf : env.frame = some L) (hke : env.scope.kind = .function) (hdp : dp + 10 < recursionLimit) (hun : un + 100 < cLine)
    (l1 : ∀ p ∈ cur, p.1 < dr) (l2 : dr < r) (hnd : NodupL news) (hsub : ∀ p ∈ news, p ∈ cur) (hrem : Rem (z.vl, listOf #[v0, v1, v2, v3] nv) news others)
    (m1 : z.ox ∈ others) (m2 : z.od ∈ others) (m3 : z.of ∈ others)
    (hret : ∀ h' tk', Fr h₀ L h' m → News h₀ L h' ((z.vl, listOf #[v0, v1, v, v3] nv) :: others) → NodupL ((z.vl, listOf #[v0, v1, v, v3] nv) :: others) → Q .none { s with heap := h', toks := tk' }) :
    wpAny (model Challenge.rw_xm0944_01.row.prog w) (tA dp un gd env outer) (call (.ref 234) [.ref r, v]) Q E s := by
  have hnd' : NodupL ((z.vl, listOf #[v0, v1, v, v3] nv) :: others) := hnd.perm fun a => (hrem.count a).trans rfl
  exact set_spec (z := z) (vs := #[v0, v1, v2, v3]) (nv := nv) (i := 2) B F X N T hf hke hdp hun l1 l2 others (fun p hp => hsub p (hrem.sub p hp)) hnd'.ne (hsub _ hrem.mem) m1 m2 m3 (by decide) (by decide : 2 < 4)
    (fun h' tk' F' N' => hret h' tk' F' N' hnd')
theorem setR_spec {w : World} {dp un : Nat} {gd : Option (List Code)} {env : Env} {outer : List Env} {A₀ : Around} {base h₀ : Heap} {L : Addr} {m mg mb : Str → Option Value} {mean : ExcName → Option Value} {vq : Program} {vl : List Str} {s : Shared} {Q E : Value → Shared → Prop} {cur news others : List (Addr × Obj)} {z : Nd} {v0 v1 v2 v3 v : Value} {nv : Nat} {r dr : Addr} {hk ho hk2 : Int} {kt1 kt2 kt3 kt4 kt5 : Tok} {nr : Nat}
    (B : Below A₀ base outer h₀) (F : Fr h₀ L s.heap m) (X : (K0 w.params).In h₀) (N : News h₀ L s.heap ((r, instObj 117 dr) :: (dr, dictOf [⟨hk, .str (Str.ofString "kind") kt1, .str (Str.ofString "field") kt2⟩, ⟨ho, .str (Str.ofString "owner") kt3, .ref z.x⟩, ⟨hk2, .str (Str.ofString "key") kt4, .int ((3 : Nat) : Int) kt5⟩] nr) :: cur)) (T : Top vq vl mean mg mb h₀)
    (hf : env.frame = some L) (hke : env.scope.kind = .function) (hdp : dp + 10 < recursionLimit) (hun : un + 100 < cLine)
    (l1 : ∀ p ∈ cur, p.1 < dr) (l2 : dr < r) (hnd : NodupL news) (hsub : ∀ p ∈ news, p ∈ cur) (hrem : Rem (z.vl, listOf #[v0, v1, v2, v3] nv) news others)
    (m1 : z.ox ∈ others) (m2 : z.od ∈ others) (m3 : z.of ∈ others)
    (hret : ∀ h' tk', Fr h₀ L h' m → News h₀ L h' ((z.vl, listOf #[v0, v1, v2, v] nv) :: others) → NodupL ((z.vl, listOf #[v0, v1, v2, v] nv) :: others) → Q .none { s with heap := h', toks := tk' }) :
    wpAny (model Challenge.rw_xm0944_01.row.prog w) (tA dp un gd env outer) (call (.ref 234) [.ref r, v]) Q E s := by
  have hnd' : NodupL ((z.vl, listOf #[v0, v1, v2, v] nv) :: others) := hnd.perm fun a => (hrem.count a).trans rfl
  exact set_spec (z := z) (vs := #[v0, v1, v2, v3]) (nv := nv) (i := 3) B F X N T hf hke hdp hun l1 l2 others (fun p hp => hsub p (hrem.sub p hp)) hnd'.ne (hsub _ hrem.mem) m1 m2 m3 (by decide) (by decide : 3 < 4)
    (fun h' tk' F' N' => hret h' tk' F' N' hnd')

noncomputable def PutOK (w : World) (b : Bn) (t : Tr) : Prop := ∀ {dp un : Nat} {gd : Option (List Code)} {env : Env} {outer : List Env} {A₀ : Around} {base h₀ : Heap} {L : Addr} {m mg mb : Str → Option Value} {mean : ExcName → Option Value} {vq : Program} {vl : List Str} {s : Shared} {Q E : Value → Shared → Prop} {rest : List (Addr × Obj)}
    (B : Below A₀ base outer h₀) (F : Fr h₀ L s.heap m) (X : (K0 w.params).In h₀) (N : News h₀ L s.heap (b.tr.led ++ (t.led ++ rest))) (T : Top vq vl mean mg mb h₀)
    (hf : env.frame = some L) (hke : env.scope.kind = .function) (_hdp : dp + 20 * (t.size + 1) < recursionLimit) (_hun : un + 200 * (t.size + 1) < cLine) (_hnd : NodupL (b.tr.led ++ (t.led ++ rest)))
    (_hret : ∀ h' tk', Fr h₀ L h' m → News h₀ L h' ((ins b t).led ++ rest) → Q (ins b t).val { s with heap := h', toks := tk' }),
    wpAny (model Challenge.rw_xm0944_01.row.prog w) (tA dp un gd env outer) (call (.ref 255) [t.val, .ref b.z.x]) Q E s

noncomputable abbrev Bn.l4 (b : Bn) (rest : List (Addr × Obj)) : List (Addr × Obj) := (b.z.vl, listOf #[.int b.k b.tk, .int b.c b.tc, .str (Str.ofString "") b.t1, .str (Str.ofString "") b.t2] b.nv) :: b.z.ox :: b.z.od :: b.z.of :: rest

noncomputable abbrev blk (z : Nd) (k c : Int) (tk tc : Tok) (nv : Nat) (lv rv : Value) : List (Addr × Obj) := [(z.vl, listOf #[.int k tk, .int c tc, lv, rv] nv), z.ox, z.od, z.of]

theorem put_left {w : World} {dp un : Nat} {gd : Option (List Code)} {env : Env} {outer : List Env} {A₀ : Around} {base h₀ : Heap} {L : Addr} {m mg mb : Str → Option Value} {mean : ExcName → Option Value} {vq : Program} {vl : List Str} {s : Shared} {Q E : Value → Shared → Prop} {b : Bn} {z : Nd} {k c : Int} {tk tc : Tok} {nv : Nat} {l r : Tr} {cur rest : List (Addr × Obj)} (ih : PutOK w b l)
    (B : Below A₀ base outer h₀) (F : Fr h₀ L s.heap m) (X : (K0 w.params).In h₀) (N : News h₀ L s.heap (cur)) (T : Top vq vl mean mg mb h₀)
    (hf : env.frame = some L) (hke : env.scope.kind = .function) (hdp : dp + 20 * (l.size + 1) < recursionLimit) (hun : un + 200 * (l.size + 1) < cLine)
    (hnd : NodupL ((b.z.vl, listOf #[.int b.k b.tk, .int b.c b.tc, .str (Str.ofString "") b.t1, .str (Str.ofString "") b.t2] b.nv) :: b.z.ox :: b.z.od :: b.z.of :: (z.vl, listOf #[.int k tk, .int c tc, l.val, r.val] nv) :: z.ox :: z.od :: z.of :: (l.led ++ (r.led ++ rest))))
    (hsub : ∀ p ∈ ((b.z.vl, listOf #[.int b.k b.tk, .int b.c b.tc, .str (Str.ofString "") b.t1, .str (Str.ofString "") b.t2] b.nv) :: b.z.ox :: b.z.od :: b.z.of :: (z.vl, listOf #[.int k tk, .int c tc, l.val, r.val] nv) :: z.ox :: z.od :: z.of :: (l.led ++ (r.led ++ rest))), p ∈ cur)
    (hret : ∀ h' tk' z' k' c' tt' tc' nv' l' r', ins b l = .node z' k' c' tt' tc' nv' l' r' → Fr h₀ L h' m →
      News h₀ L h' ((z.vl, listOf #[.int k tk, .int c tc, l.val, r.val] nv) :: z.ox :: z.od :: z.of :: (z'.vl, listOf #[.int k' tt', .int c' tc', l'.val, r'.val] nv') :: z'.ox :: z'.od :: z'.of :: (l'.led ++ (r'.led ++ (r.led ++ rest)))) →
      NodupL ((z.vl, listOf #[.int k tk, .int c tc, l.val, r.val] nv) :: z.ox :: z.od :: z.of :: (z'.vl, listOf #[.int k' tt', .int c' tc', l'.val, r'.val] nv') :: z'.ox :: z'.od :: z'.of :: (l'.led ++ (r'.led ++ (r.led ++ rest)))) →
      Q (.ref z'.x) { s with heap := h', toks := tk' }) :
    wpAny (model Challenge.rw_xm0944_01.row.prog w) (tA dp un gd env outer) (call (.ref 255) [l.val, .ref b.z.x]) Q E s := by
  obtain ⟨z', k', c', tt', tc', nv', l', r', e⟩ := ins_node b l
  have M := mv1 (b.l4 []) (blk z k c tk tc nv l.val r.val) l.led (r.led ++ rest)
  have hnd' := hnd.permL (M.symm.map _)
  refine ih (rest := blk z k c tk tc nv l.val r.val ++ (r.led ++ rest)) B F X (fun p hp => N p (hsub p (M.mem_iff.mp hp))) T hf hke hdp hun hnd' ?_
  intro h' tk' F' N'
  have hn2 := nd_ins (t := l) hnd'
  rw [e] at N' hn2 ⊢
  have M2 := mv2 (blk z' k' c' tt' tc' nv' l'.val r'.val) l'.led r'.led (blk z k c tk tc nv l.val r.val) (r.led ++ rest)
  exact hret h' tk' z' k' c' tt' tc' nv' l' r' e F' (fun p hp => N' p (M2.mem_iff.mpr hp)) (hn2.permL (M2.map _))

theorem put_right {w : World} {dp un : Nat} {gd : Option (List Code)} {env : Env} {outer : List Env} {A₀ : Around} {base h₀ : Heap} {L : Addr} {m mg mb : Str → Option Value} {mean : ExcName → Option Value} {vq : Program} {vl : List Str} {s : Shared} {Q E : Value → Shared → Prop} {b : Bn} {z : Nd} {k c : Int} {tk tc : Tok} {nv : Nat} {l r : Tr} {cur rest : List (Addr × Obj)} (ih : PutOK w b r)
    (B : Below A₀ base outer h₀) (F : Fr h₀ L s.heap m) (X : (K0 w.params).In h₀) (N : News h₀ L s.heap (cur)) (T : Top vq vl mean mg mb h₀)
    (hf : env.frame = some L) (hke : env.scope.kind = .function) (hdp : dp + 20 * (r.size + 1) < recursionLimit) (hun : un + 200 * (r.size + 1) < cLine)
    (hnd : NodupL ((b.z.vl, listOf #[.int b.k b.tk, .int b.c b.tc, .str (Str.ofString "") b.t1, .str (Str.ofString "") b.t2] b.nv) :: b.z.ox :: b.z.od :: b.z.of :: (z.vl, listOf #[.int k tk, .int c tc, l.val, r.val] nv) :: z.ox :: z.od :: z.of :: (l.led ++ (r.led ++ rest))))
    (hsub : ∀ p ∈ ((b.z.vl, listOf #[.int b.k b.tk, .int b.c b.tc, .str (Str.ofString "") b.t1, .str (Str.ofString "") b.t2] b.nv) :: b.z.ox :: b.z.od :: b.z.of :: (z.vl, listOf #[.int k tk, .int c tc, l.val, r.val] nv) :: z.ox :: z.od :: z.of :: (l.led ++ (r.led ++ rest))), p ∈ cur)
    (hret : ∀ h' tk' z' k' c' tt' tc' nv' l' r', ins b r = .node z' k' c' tt' tc' nv' l' r' → Fr h₀ L h' m →
      News h₀ L h' ((z.vl, listOf #[.int k tk, .int c tc, l.val, r.val] nv) :: z.ox :: z.od :: z.of :: (z'.vl, listOf #[.int k' tt', .int c' tc', l'.val, r'.val] nv') :: z'.ox :: z'.od :: z'.of :: (l'.led ++ (r'.led ++ (l.led ++ rest)))) →
      NodupL ((z.vl, listOf #[.int k tk, .int c tc, l.val, r.val] nv) :: z.ox :: z.od :: z.of :: (z'.vl, listOf #[.int k' tt', .int c' tc', l'.val, r'.val] nv') :: z'.ox :: z'.od :: z'.of :: (l'.led ++ (r'.led ++ (l.led ++ rest)))) →
      Q (.ref z'.x) { s with heap := h', toks := tk' }) :
    wpAny (model Challenge.rw_xm0944_01.row.prog w) (tA dp un gd env outer) (call (.ref 255) [r.val, .ref b.z.x]) Q E s := by
  obtain ⟨z', k', c', tt', tc', nv', l', r', e⟩ := ins_node b r
  have M := mv3 (b.l4 []) (blk z k c tk tc nv l.val r.val) l.led r.led rest
  have hnd' := hnd.permL (M.symm.map _)
  refine ih (rest := blk z k c tk tc nv l.val r.val ++ (l.led ++ rest)) B F X (fun p hp => N p (hsub p (M.mem_iff.mp hp))) T hf hke hdp hun hnd' ?_
  intro h' tk' F' N'
  have hn2 := nd_ins (t := r) hnd'
  rw [e] at N' hn2 ⊢
  have M2 := mv2 (blk z' k' c' tt' tc' nv' l'.val r'.val) l'.led r'.led (blk z k c tk tc nv l.val r.val) (l.led ++ rest)
  exact hret h' tk' z' k' c' tt' tc' nv' l' r' e F' (fun p hp => N' p (M2.mem_iff.mpr hp)) (hn2.permL (M2.map _))



section
local macro_rules | `(tactic| k_upd) => `(tactic| first | exact Rem.head | (refine' Rem.tail ?a; (case a => k_upd)))

theorem mvB {α : Type} (a : α) (T l Z W : List α) : (a :: (T ++ (l ++ (Z ++ W)))).Perm (a :: (Z ++ (T ++ (l ++ W)))) := (pm T Z (List.perm_append_comm_assoc l Z W)).cons a
theorem mvC {α : Type} (Z l Z' l' r' R : List α) : (Z ++ (l ++ (Z' ++ (l' ++ (r' ++ R))))).Perm (Z ++ (Z' ++ (l' ++ (r' ++ (l ++ R))))) :=
  (pm l Z' (.refl _) |>.trans ((pm l l' (.refl _) |>.trans ((List.perm_append_comm_assoc l r' R).append_left l')).append_left Z')).append_left Z
theorem mvD {α : Type} (a : α) (T Z l l' r' R : List α) : (a :: (T ++ (Z ++ (l ++ (l' ++ (r' ++ R)))))).Perm (a :: (Z ++ (T ++ (l' ++ (r' ++ (l ++ R)))))) :=
  ((pm T Z (.refl _)).trans (((pm l l' (.refl _) |>.trans ((List.perm_append_comm_assoc l r' R).append_left l')).append_left T).append_left Z)).cons a
theorem put_leaf (w : World) (b : Bn) (t0 : Tok) : PutOK w b (.leaf t0) := by
  intro dp un gd env outer A₀ base h₀ L m mg mb mean vq vl s Q E rest B F X N T hf hke hdp hun hnd hret
  simp only [Tr.led, Tr.val_leaf, Tr.val_node, List.cons_append, List.nil_append, List.append_assoc, ins] at N hret hnd ⊢
  refine wpAny_call ?_
  k_dflt (refine' code_def ?k1 ?k2 ?k3 ?k4 ?k5 ?kA ?kF ?kK ?k6 ?k7 ?k8 ?k9 ?kB ?_ ?c2 ?c3 ?c4 ?c5; (case kA => exact rfl); (case kF => assumption); (case kK => assumption); (case k1 => k_asm); (case k2 => k_asm); (case k3 => k_asm); (case k4 => k_asm); (case k5 => k_asm); (case k6 => k_is); (case k7 => k_is); (case k8 => first | exact lt_room (by assumption) | (dsimp only [tA]; omega)); (case k9 => exact BindsTo.of_eq rfl); (case c5 => decide); (case kB => exact locs rfl); (case c2 => exact rfl); (case c3 => exact rfl); (case c4 => exact rfl); k_whole)
  intro g' L' h' FG' F' N' B' X' T'
  try dsimp only
  try k_fold
  repeat' (first | (k_unfold; (try dsimp only)) | (k_end; wrow_close) | ((with_reducible show wpAny _ _ (call (Value.ref 255) _) _ _ _); k_dflt (first | (refine' put_left ?ih ?B ?F ?X ?N ?T ?hf ?hke ?hdp ?hun ?hnd ?hsub ?_; (case ih => assumption); (case B => k_asm); (case F => k_asm); (case X => k_asm); (case N => k_asm); (case T => k_asm); (case hf => rfl); (case hke => rfl); (case hnd => assumption); (case hdp => k_room); (case hun => k_units); (case hsub => exact fun p hp => by repeat (first | exact hp | refine List.mem_cons_of_mem _ ?_)); k_whole) | (refine' put_right ?ih ?B ?F ?X ?N ?T ?hf ?hke ?hdp ?hun ?hnd ?hsub ?_; (case ih => assumption); (case B => k_asm); (case F => k_asm); (case X => k_asm); (case N => k_asm); (case T => k_asm); (case hf => rfl); (case hke => rfl); (case hnd => assumption); (case hdp => k_room); (case hun => k_units); (case hsub => exact fun p hp => by repeat (first | exact hp | refine List.mem_cons_of_mem _ ?_)); k_whole)); intro h' tk' zz' kk' cc' tt' tc' nn' ll' rr' ee' F' N' hnd'; (try k_sweep)) | ((with_reducible show wpAny _ _ (call (Value.ref 234) _) _ _ _); k_dflt (first | (refine' setL_spec ?B ?F ?X ?N ?T ?hf ?hke ?hdp ?hun ?l1 ?l2 ?hnd ?hsub ?hrem ?m1 ?m2 ?m3 ?_; (case B => k_asm); (case F => k_asm); (case X => k_asm); (case N => k_asm); (case T => k_asm); (case hf => rfl); (case hke => rfl); (case hdp => k_room); (case hun => k_units); (case l1 => k_asm); (case l2 => k_asm); (case hnd => k_asm); (case hsub => exact fun p hp => by repeat (first | exact hp | refine List.mem_cons_of_mem _ ?_)); (case hrem => k_upd); (case m1 => k_mem); (case m2 => k_mem); (case m3 => k_mem); k_whole) | (refine' setR_spec ?B ?F ?X ?N ?T ?hf ?hke ?hdp ?hun ?l1 ?l2 ?hnd ?hsub ?hrem ?m1 ?m2 ?m3 ?_; (case B => k_asm); (case F => k_asm); (case X => k_asm); (case N => k_asm); (case T => k_asm); (case hf => rfl); (case hke => rfl); (case hdp => k_room); (case hun => k_units); (case l1 => k_asm); (case l2 => k_asm); (case hnd => k_asm); (case hsub => exact fun p hp => by repeat (first | exact hp | refine List.mem_cons_of_mem _ ?_)); (case hrem => k_upd); (case m1 => k_mem); (case m2 => k_mem); (case m3 => k_mem); k_whole)); intro h' tk' F' N' hnd'; (try k_sweep)) | ((with_reducible show wpAny _ _ (call (Value.ref 220) _) _ _ _); k_dflt (refine' fref_spec ?B ?F ?X ?N ?T ?hf ?hke ?hdp ?hun ?m1 ?m2 ?m3 ?hfi ?_; (case B => k_asm); (case F => k_asm); (case X => k_asm); (case N => k_asm); (case T => k_asm); (case hf => rfl); (case hke => rfl); (case hdp => k_room); (case hun => k_units); (case m1 => k_mem); (case m2 => k_mem); (case m3 => k_mem); (case hfi => first | assumption | constructor); k_whole); intro h' tk' r' dr' hk' ho' hkk' kt1' kt2' kt3' kt4' kt5' nr' F' N' l1' l2'; (try k_sweep)) | ((with_reducible show wpAny _ _ (call (Value.ref 248) _) _ _ _); k_dflt (first | (refine' of_K ?B ?F ?X ?N ?T ?hf ?hke ?hdp ?hun ?m1 ?m2 ?m3 ?m4 ?_; (case B => k_asm); (case F => k_asm); (case X => k_asm); (case N => k_asm); (case T => k_asm); (case hf => rfl); (case hke => rfl); (case hdp => k_room); (case hun => k_units); (case m1 => k_mem); (case m2 => k_mem); (case m3 => k_mem); (case m4 => k_mem); k_whole) | (refine' of_C ?B ?F ?X ?N ?T ?hf ?hke ?hdp ?hun ?m1 ?m2 ?m3 ?m4 ?_; (case B => k_asm); (case F => k_asm); (case X => k_asm); (case N => k_asm); (case T => k_asm); (case hf => rfl); (case hke => rfl); (case hdp => k_room); (case hun => k_units); (case m1 => k_mem); (case m2 => k_mem); (case m3 => k_mem); (case m4 => k_mem); k_whole) | (refine' of_L ?B ?F ?X ?N ?T ?hf ?hke ?hdp ?hun ?m1 ?m2 ?m3 ?m4 ?_; (case B => k_asm); (case F => k_asm); (case X => k_asm); (case N => k_asm); (case T => k_asm); (case hf => rfl); (case hke => rfl); (case hdp => k_room); (case hun => k_units); (case m1 => k_mem); (case m2 => k_mem); (case m3 => k_mem); (case m4 => k_mem); k_whole) | (refine' of_R ?B ?F ?X ?N ?T ?hf ?hke ?hdp ?hun ?m1 ?m2 ?m3 ?m4 ?_; (case B => k_asm); (case F => k_asm); (case X => k_asm); (case N => k_asm); (case T => k_asm); (case hf => rfl); (case hke => rfl); (case hdp => k_room); (case hun => k_units); (case m1 => k_mem); (case m2 => k_mem); (case m3 => k_mem); (case m4 => k_mem); k_whole)); intro h' tk' F' N'; (try k_sweep)) | walk1 | (dsimp only; first | ((with_reducible show wpAny _ _ (call (Value.ref 255) _) _ _ _); k_dflt (first | (refine' put_left ?ih ?B ?F ?X ?N ?T ?hf ?hke ?hdp ?hun ?hnd ?hsub ?_; (case ih => assumption); (case B => k_asm); (case F => k_asm); (case X => k_asm); (case N => k_asm); (case T => k_asm); (case hf => rfl); (case hke => rfl); (case hnd => assumption); (case hdp => k_room); (case hun => k_units); (case hsub => exact fun p hp => by repeat (first | exact hp | refine List.mem_cons_of_mem _ ?_)); k_whole) | (refine' put_right ?ih ?B ?F ?X ?N ?T ?hf ?hke ?hdp ?hun ?hnd ?hsub ?_; (case ih => assumption); (case B => k_asm); (case F => k_asm); (case X => k_asm); (case N => k_asm); (case T => k_asm); (case hf => rfl); (case hke => rfl); (case hnd => assumption); (case hdp => k_room); (case hun => k_units); (case hsub => exact fun p hp => by repeat (first | exact hp | refine List.mem_cons_of_mem _ ?_)); k_whole)); intro h' tk' zz' kk' cc' tt' tc' nn' ll' rr' ee' F' N' hnd'; (try k_sweep)) | ((with_reducible show wpAny _ _ (call (Value.ref 234) _) _ _ _); k_dflt (first | (refine' setL_spec ?B ?F ?X ?N ?T ?hf ?hke ?hdp ?hun ?l1 ?l2 ?hnd ?hsub ?hrem ?m1 ?m2 ?m3 ?_; (case B => k_asm); (case F => k_asm); (case X => k_asm); (case N => k_asm); (case T => k_asm); (case hf => rfl); (case hke => rfl); (case hdp => k_room); (case hun => k_units); (case l1 => k_asm); (case l2 => k_asm); (case hnd => k_asm); (case hsub => exact fun p hp => by repeat (first | exact hp | refine List.mem_cons_of_mem _ ?_)); (case hrem => k_upd); (case m1 => k_mem); (case m2 => k_mem); (case m3 => k_mem); k_whole) | (refine' setR_spec ?B ?F ?X ?N ?T ?hf ?hke ?hdp ?hun ?l1 ?l2 ?hnd ?hsub ?hrem ?m1 ?m2 ?m3 ?_; (case B => k_asm); (case F => k_asm); (case X => k_asm); (case N => k_asm); (case T => k_asm); (case hf => rfl); (case hke => rfl); (case hdp => k_room); (case hun => k_units); (case l1 => k_asm); (case l2 => k_asm); (case hnd => k_asm); (case hsub => exact fun p hp => by repeat (first | exact hp | refine List.mem_cons_of_mem _ ?_)); (case hrem => k_upd); (case m1 => k_mem); (case m2 => k_mem); (case m3 => k_mem); k_whole)); intro h' tk' F' N' hnd'; (try k_sweep)) | ((with_reducible show wpAny _ _ (call (Value.ref 220) _) _ _ _); k_dflt (refine' fref_spec ?B ?F ?X ?N ?T ?hf ?hke ?hdp ?hun ?m1 ?m2 ?m3 ?hfi ?_; (case B => k_asm); (case F => k_asm); (case X => k_asm); (case N => k_asm); (case T => k_asm); (case hf => rfl); (case hke => rfl); (case hdp => k_room); (case hun => k_units); (case m1 => k_mem); (case m2 => k_mem); (case m3 => k_mem); (case hfi => first | assumption | constructor); k_whole); intro h' tk' r' dr' hk' ho' hkk' kt1' kt2' kt3' kt4' kt5' nr' F' N' l1' l2'; (try k_sweep)) | ((with_reducible show wpAny _ _ (call (Value.ref 248) _) _ _ _); k_dflt (first | (refine' of_K ?B ?F ?X ?N ?T ?hf ?hke ?hdp ?hun ?m1 ?m2 ?m3 ?m4 ?_; (case B => k_asm); (case F => k_asm); (case X => k_asm); (case N => k_asm); (case T => k_asm); (case hf => rfl); (case hke => rfl); (case hdp => k_room); (case hun => k_units); (case m1 => k_mem); (case m2 => k_mem); (case m3 => k_mem); (case m4 => k_mem); k_whole) | (refine' of_C ?B ?F ?X ?N ?T ?hf ?hke ?hdp ?hun ?m1 ?m2 ?m3 ?m4 ?_; (case B => k_asm); (case F => k_asm); (case X => k_asm); (case N => k_asm); (case T => k_asm); (case hf => rfl); (case hke => rfl); (case hdp => k_room); (case hun => k_units); (case m1 => k_mem); (case m2 => k_mem); (case m3 => k_mem); (case m4 => k_mem); k_whole) | (refine' of_L ?B ?F ?X ?N ?T ?hf ?hke ?hdp ?hun ?m1 ?m2 ?m3 ?m4 ?_; (case B => k_asm); (case F => k_asm); (case X => k_asm); (case N => k_asm); (case T => k_asm); (case hf => rfl); (case hke => rfl); (case hdp => k_room); (case hun => k_units); (case m1 => k_mem); (case m2 => k_mem); (case m3 => k_mem); (case m4 => k_mem); k_whole) | (refine' of_R ?B ?F ?X ?N ?T ?hf ?hke ?hdp ?hun ?m1 ?m2 ?m3 ?m4 ?_; (case B => k_asm); (case F => k_asm); (case X => k_asm); (case N => k_asm); (case T => k_asm); (case hf => rfl); (case hke => rfl); (case hdp => k_room); (case hun => k_units); (case m1 => k_mem); (case m2 => k_mem); (case m3 => k_mem); (case m4 => k_mem); k_whole)); intro h' tk' F' N'; (try k_sweep)) | walk1) | (leave1; walk_say "STEP leave1"; try dsimp only) | fail "no step")
  exact hret _ _ (by assumption) (by assumption)
theorem put_node (w : World) (b : Bn) (z : Nd) (k c : Int) (tk tc : Tok) (nv : Nat) (l r : Tr) (ihl : PutOK w b l) (ihr : PutOK w b r) : PutOK w b (.node z k c tk tc nv l r) := by
  intro dp un gd env outer A₀ base h₀ L m mg mb mean vq vl s Q E rest B F X N T hf hke hdp hun hnd hret
  simp only [Tr.led, Tr.val_leaf, Tr.val_node, List.cons_append, List.nil_append, List.append_assoc] at N hret hnd ⊢
  simp only [Tr.size] at hdp hun
  rw [show ins b (.node z k c tk tc nv l r) = if b.k < k then upL z k c tk tc nv r (ins b l) else upR z k c tk tc nv l (ins b r) from rfl] at hret
  refine wpAny_call ?_
  k_dflt (refine' code_def ?k1 ?k2 ?k3 ?k4 ?k5 ?kA ?kF ?kK ?k6 ?k7 ?k8 ?k9 ?kB ?_ ?c2 ?c3 ?c4 ?c5; (case kA => exact rfl); (case kF => assumption); (case kK => assumption); (case k1 => k_asm); (case k2 => k_asm); (case k3 => k_asm); (case k4 => k_asm); (case k5 => k_asm); (case k6 => k_is); (case k7 => k_is); (case k8 => first | exact lt_room (by assumption) | (dsimp only [tA]; omega)); (case k9 => exact BindsTo.of_eq rfl); (case c5 => decide); (case kB => exact locs rfl); (case c2 => exact rfl); (case c3 => exact rfl); (case c4 => exact rfl); k_whole)
  intro g' L' h' FG' F' N' B' X' T'
  try dsimp only
  try k_fold
  repeat' (first | (k_unfold; (try dsimp only)) | (k_end; wrow_close) | ((with_reducible show wpAny _ _ (call (Value.ref 255) _) _ _ _); k_dflt (first | (refine' put_left ?ih ?B ?F ?X ?N ?T ?hf ?hke ?hdp ?hun ?hnd ?hsub ?_; (case ih => assumption); (case B => k_asm); (case F => k_asm); (case X => k_asm); (case N => k_asm); (case T => k_asm); (case hf => rfl); (case hke => rfl); (case hnd => assumption); (case hdp => k_room); (case hun => k_units); (case hsub => exact fun p hp => by repeat (first | exact hp | refine List.mem_cons_of_mem _ ?_)); k_whole) | (refine' put_right ?ih ?B ?F ?X ?N ?T ?hf ?hke ?hdp ?hun ?hnd ?hsub ?_; (case ih => assumption); (case B => k_asm); (case F => k_asm); (case X => k_asm); (case N => k_asm); (case T => k_asm); (case hf => rfl); (case hke => rfl); (case hnd => assumption); (case hdp => k_room); (case hun => k_units); (case hsub => exact fun p hp => by repeat (first | exact hp | refine List.mem_cons_of_mem _ ?_)); k_whole)); intro h' tk' zz' kk' cc' tt' tc' nn' ll' rr' ee' F' N' hnd'; (try k_sweep)) | ((with_reducible show wpAny _ _ (call (Value.ref 234) _) _ _ _); k_dflt (first | (refine' setL_spec ?B ?F ?X ?N ?T ?hf ?hke ?hdp ?hun ?l1 ?l2 ?hnd ?hsub ?hrem ?m1 ?m2 ?m3 ?_; (case B => k_asm); (case F => k_asm); (case X => k_asm); (case N => k_asm); (case T => k_asm); (case hf => rfl); (case hke => rfl); (case hdp => k_room); (case hun => k_units); (case l1 => k_asm); (case l2 => k_asm); (case hnd => k_asm); (case hsub => exact fun p hp => by repeat (first | exact hp | refine List.mem_cons_of_mem _ ?_)); (case hrem => k_upd); (case m1 => k_mem); (case m2 => k_mem); (case m3 => k_mem); k_whole) | (refine' setR_spec ?B ?F ?X ?N ?T ?hf ?hke ?hdp ?hun ?l1 ?l2 ?hnd ?hsub ?hrem ?m1 ?m2 ?m3 ?_; (case B => k_asm); (case F => k_asm); (case X => k_asm); (case N => k_asm); (case T => k_asm); (case hf => rfl); (case hke => rfl); (case hdp => k_room); (case hun => k_units); (case l1 => k_asm); (case l2 => k_asm); (case hnd => k_asm); (case hsub => exact fun p hp => by repeat (first | exact hp | refine List.mem_cons_of_mem _ ?_)); (case hrem => k_upd); (case m1 => k_mem); (case m2 => k_mem); (case m3 => k_mem); k_whole)); intro h' tk' F' N' hnd'; (try k_sweep)) | ((with_reducible show wpAny _ _ (call (Value.ref 220) _) _ _ _); k_dflt (refine' fref_spec ?B ?F ?X ?N ?T ?hf ?hke ?hdp ?hun ?m1 ?m2 ?m3 ?hfi ?_; (case B => k_asm); (case F => k_asm); (case X => k_asm); (case N => k_asm); (case T => k_asm); (case hf => rfl); (case hke => rfl); (case hdp => k_room); (case hun => k_units); (case m1 => k_mem); (case m2 => k_mem); (case m3 => k_mem); (case hfi => first | assumption | constructor); k_whole); intro h' tk' r' dr' hk' ho' hkk' kt1' kt2' kt3' kt4' kt5' nr' F' N' l1' l2'; (try k_sweep)) | ((with_reducible show wpAny _ _ (call (Value.ref 248) _) _ _ _); k_dflt (first | (refine' of_K ?B ?F ?X ?N ?T ?hf ?hke ?hdp ?hun ?m1 ?m2 ?m3 ?m4 ?_; (case B => k_asm); (case F => k_asm); (case X => k_asm); (case N => k_asm); (case T => k_asm); (case hf => rfl); (case hke => rfl); (case hdp => k_room); (case hun => k_units); (case m1 => k_mem); (case m2 => k_mem); (case m3 => k_mem); (case m4 => k_mem); k_whole) | (refine' of_C ?B ?F ?X ?N ?T ?hf ?hke ?hdp ?hun ?m1 ?m2 ?m3 ?m4 ?_; (case B => k_asm); (case F => k_asm); (case X => k_asm); (case N => k_asm); (case T => k_asm); (case hf => rfl); (case hke => rfl); (case hdp => k_room); (case hun => k_units); (case m1 => k_mem); (case m2 => k_mem); (case m3 => k_mem); (case m4 => k_mem); k_whole) | (refine' of_L ?B ?F ?X ?N ?T ?hf ?hke ?hdp ?hun ?m1 ?m2 ?m3 ?m4 ?_; (case B => k_asm); (case F => k_asm); (case X => k_asm); (case N => k_asm); (case T => k_asm); (case hf => rfl); (case hke => rfl); (case hdp => k_room); (case hun => k_units); (case m1 => k_mem); (case m2 => k_mem); (case m3 => k_mem); (case m4 => k_mem); k_whole) | (refine' of_R ?B ?F ?X ?N ?T ?hf ?hke ?hdp ?hun ?m1 ?m2 ?m3 ?m4 ?_; (case B => k_asm); (case F => k_asm); (case X => k_asm); (case N => k_asm); (case T => k_asm); (case hf => rfl); (case hke => rfl); (case hdp => k_room); (case hun => k_units); (case m1 => k_mem); (case m2 => k_mem); (case m3 => k_mem); (case m4 => k_mem); k_whole)); intro h' tk' F' N'; (try k_sweep)) | walk1 | (dsimp only; first | ((with_reducible show wpAny _ _ (call (Value.ref 255) _) _ _ _); k_dflt (first | (refine' put_left ?ih ?B ?F ?X ?N ?T ?hf ?hke ?hdp ?hun ?hnd ?hsub ?_; (case ih => assumption); (case B => k_asm); (case F => k_asm); (case X => k_asm); (case N => k_asm); (case T => k_asm); (case hf => rfl); (case hke => rfl); (case hnd => assumption); (case hdp => k_room); (case hun => k_units); (case hsub => exact fun p hp => by repeat (first | exact hp | refine List.mem_cons_of_mem _ ?_)); k_whole) | (refine' put_right ?ih ?B ?F ?X ?N ?T ?hf ?hke ?hdp ?hun ?hnd ?hsub ?_; (case ih => assumption); (case B => k_asm); (case F => k_asm); (case X => k_asm); (case N => k_asm); (case T => k_asm); (case hf => rfl); (case hke => rfl); (case hnd => assumption); (case hdp => k_room); (case hun => k_units); (case hsub => exact fun p hp => by repeat (first | exact hp | refine List.mem_cons_of_mem _ ?_)); k_whole)); intro h' tk' zz' kk' cc' tt' tc' nn' ll' rr' ee' F' N' hnd'; (try k_sweep)) | ((with_reducible show wpAny _ _ (call (Value.ref 234) _) _ _ _); k_dflt (first | (refine' setL_spec ?B ?F ?X ?N ?T ?hf ?hke ?hdp ?hun ?l1 ?l2 ?hnd ?hsub ?hrem ?m1 ?m2 ?m3 ?_; (case B => k_asm); (case F => k_asm); (case X => k_asm); (case N => k_asm); (case T => k_asm); (case hf => rfl); (case hke => rfl); (case hdp => k_room); (case hun => k_units); (case l1 => k_asm); (case l2 => k_asm); (case hnd => k_asm); (case hsub => exact fun p hp => by repeat (first | exact hp | refine List.mem_cons_of_mem _ ?_)); (case hrem => k_upd); (case m1 => k_mem); (case m2 => k_mem); (case m3 => k_mem); k_whole) | (refine' setR_spec ?B ?F ?X ?N ?T ?hf ?hke ?hdp ?hun ?l1 ?l2 ?hnd ?hsub ?hrem ?m1 ?m2 ?m3 ?_; (case B => k_asm); (case F => k_asm); (case X => k_asm); (case N => k_asm); (case T => k_asm); (case hf => rfl); (case hke => rfl); (case hdp => k_room); (case hun => k_units); (case l1 => k_asm); (case l2 => k_asm); (case hnd => k_asm); (case hsub => exact fun p hp => by repeat (first | exact hp | refine List.mem_cons_of_mem _ ?_)); (case hrem => k_upd); (case m1 => k_mem); (case m2 => k_mem); (case m3 => k_mem); k_whole)); intro h' tk' F' N' hnd'; (try k_sweep)) | ((with_reducible show wpAny _ _ (call (Value.ref 220) _) _ _ _); k_dflt (refine' fref_spec ?B ?F ?X ?N ?T ?hf ?hke ?hdp ?hun ?m1 ?m2 ?m3 ?hfi ?_; (case B => k_asm); (case F => k_asm); (case X => k_asm); (case N => k_asm); (case T => k_asm); (case hf => rfl); (case hke => rfl); (case hdp => k_room); (case hun => k_units); (case m1 => k_mem); (case m2 => k_mem); (case m3 => k_mem); (case hfi => first | assumption | constructor); k_whole); intro h' tk' r' dr' hk' ho' hkk' kt1' kt2' kt3' kt4' kt5' nr' F' N' l1' l2'; (try k_sweep)) | ((with_reducible show wpAny _ _ (call (Value.ref 248) _) _ _ _); k_dflt (first | (refine' of_K ?B ?F ?X ?N ?T ?hf ?hke ?hdp ?hun ?m1 ?m2 ?m3 ?m4 ?_; (case B => k_asm); (case F => k_asm); (case X => k_asm); (case N => k_asm); (case T => k_asm); (case hf => rfl); (case hke => rfl); (case hdp => k_room); (case hun => k_units); (case m1 => k_mem); (case m2 => k_mem); (case m3 => k_mem); (case m4 => k_mem); k_whole) | (refine' of_C ?B ?F ?X ?N ?T ?hf ?hke ?hdp ?hun ?m1 ?m2 ?m3 ?m4 ?_; (case B => k_asm); (case F => k_asm); (case X => k_asm); (case N => k_asm); (case T => k_asm); (case hf => rfl); (case hke => rfl); (case hdp => k_room); (case hun => k_units); (case m1 => k_mem); (case m2 => k_mem); (case m3 => k_mem); (case m4 => k_mem); k_whole) | (refine' of_L ?B ?F ?X ?N ?T ?hf ?hke ?hdp ?hun ?m1 ?m2 ?m3 ?m4 ?_; (case B => k_asm); (case F => k_asm); (case X => k_asm); (case N => k_asm); (case T => k_asm); (case hf => rfl); (case hke => rfl); (case hdp => k_room); (case hun => k_units); (case m1 => k_mem); (case m2 => k_mem); (case m3 => k_mem); (case m4 => k_mem); k_whole) | (refine' of_R ?B ?F ?X ?N ?T ?hf ?hke ?hdp ?hun ?m1 ?m2 ?m3 ?m4 ?_; (case B => k_asm); (case F => k_asm); (case X => k_asm); (case N => k_asm); (case T => k_asm); (case hf => rfl); (case hke => rfl); (case hdp => k_room); (case hun => k_units); (case m1 => k_mem); (case m2 => k_mem); (case m3 => k_mem); (case m4 => k_mem); k_whole)); intro h' tk' F' N'; (try k_sweep)) | walk1) | (leave1; walk_say "STEP leave1"; try dsimp only) | fail "no step")
  all_goals (rename ins b _ = _ => ee)
  all_goals (first | (rename b.k < k => hb; rw [if_pos hb] at hret) | (rename ¬ b.k < k => hb; rw [if_neg hb] at hret))
  all_goals rw [ee] at hret
  all_goals (first | (rename _ < c => hc; simp only [upL, upR, if_pos hc] at hret) | (rename ¬ _ < c => hc; simp only [upL, upR, if_neg hc] at hret))
  all_goals refine hret _ _ (by assumption) ?_
  all_goals (rename News h₀ L _ _ => lN; refine fun p hp => lN p ?_)
  all_goals (simp only [Tr.led, Tr.val_node, List.cons_append, List.nil_append, List.append_assoc] at hp; first | exact hp | exact (mvB _ [_, _, _] _ [_, _, _, _] _).mem_iff.mp hp | exact (mvC [_, _, _, _] _ [_, _, _, _] _ _ _).mem_iff.mp hp | exact (mvD _ [_, _, _] [_, _, _, _] _ _ _ _).mem_iff.mp hp)

theorem put_spec (w : World) (b : Bn) : ∀ t : Tr, PutOK w b t
  | .leaf t0 => put_leaf w b t0
  | .node z k c tk tc nv l r => put_node w b z k c tk tc nv l r (put_spec w b l) (put_spec w b r)

end

theorem ord_start {n : Int} {told : Int} (ht : 0 ≤ told) : 0 ≤ told ∧ (rangeKs 0 (n - 0).toNat).length + ([] : List Int).length = n.toNat ∧ (rangeKs 0 (n - 0).toNat ++ ([] : List Int)).Perm ((List.range n.toNat).map Int.ofNat) := by
  have e : rangeKs 0 (n - 0).toNat = (List.range n.toNat).map Int.ofNat := by
    simp [rangeKs]
  rw [e]
  refine ⟨ht, by simp, by simp⟩
theorem ints_erase : ∀ {vs : List Value} {ns : List Int}, IntsAre vs ns → ∀ i, IntsAre (vs.eraseIdx i) (ns.eraseIdx i)
  | _, _, .nil, _ => .nil
  | _, _, .cons _ _ h, 0 => h
  | _, _, .cons a t h, i + 1 => .cons a t (ints_erase h i)
theorem perm_getD_erase : ∀ {ns : List Int} {i : Nat}, i < ns.length → ns.Perm (ns.getD i 0 :: ns.eraseIdx i)
  | [], i, h => absurd h (Nat.not_lt_zero _)
  | a :: r, 0, _ => .refl _
  | a :: r, i + 1, h => ((perm_getD_erase (ns := r) (i := i) (Nat.lt_of_succ_lt_succ h)).cons a).trans (.swap _ _ _)
theorem mod_in {told : Int} {ns : List Int} (hne : decide (ns = []) = false) (ht : 0 ≤ told) : 0 ≤ told.fmod ns.length ∧ told.fmod ns.length < ns.length := by
  have h1 : (0 : Int) < ns.length := by
    cases ns with
    | nil => simp at hne
    | cons a r => simp only [List.length_cons]; omega
  exact ⟨Int.fmod_nonneg_of_pos _ h1, Int.fmod_lt_of_pos _ h1⟩
theorem pop_mod {prog : Program} {w : World} {A : Around} {s : Shared} {h₀ : Heap} {L D : Addr} {m : Str → Option Value} {news news' : List (Addr × Obj)} {vs : List Value} {ns : List Int} {n : Nat} {told : Int} {u : Tok} {Q E : Value → Shared → Prop}
    (F : Fr h₀ L s.heap m) (N : News h₀ L s.heap news) (hi : IntsAre vs ns) (hne : decide (ns = []) = false) (ht : 0 ≤ told) (hlen : ns.length ≤ 64)
    (U : Upd D (listOf vs.toArray n) (listOf (vs.eraseIdx (told.fmod ns.length).toNat).toArray (n + 1)) news news')
    (h : ∀ h' t, Fr h₀ L h' m → News h₀ L h' news' → IntsAre (vs.eraseIdx (told.fmod ns.length).toNat) (ns.eraseIdx (told.fmod ns.length).toNat) → Q (.int (ns.getD (told.fmod ns.length).toNat 0) t) { s with heap := h' }) :
    wpAny (model prog w) A (call (.builtin "list.pop") [.ref D, .int (told.fmod ns.length) u]) Q E s := by
  obtain ⟨h0, h1⟩ := mod_in hne ht
  obtain ⟨pre, post, rfl, rfl, a, b⟩ := U.split
  have z := N (D, listOf vs.toArray n) (List.mem_append.mpr (.inr (.head _)))
  have hl := hi.length
  generalize hk : told.fmod ns.length = k at *
  have hkn : k.toNat < ns.length := by omega
  obtain ⟨t, ht'⟩ := hi.get k.toNat (ns.getD k.toNat 0) (by rw [List.getD_eq_getElem?_getD, List.getElem?_eq_getElem hkn]; rfl)
  refine call_meets PySem.F.slot_list_pop ⟨_, z.1, rfl⟩ PySem.F.entry_list_pop (PySem.F.args_list_pop_2 _ _)
    (MeetsSeq.list_pop_at D vs.toArray n k u k.toNat (.int (ns.getD k.toNat 0) t) ?_ ?_ ?_ ?_) ⟨z.1, h _ t (F.change (Heap.SameBut.update ..) z.2.1 z.2.2) (ki_turn _ N a b ?_ ?_) (ints_erase hi _)⟩
  · unfold Builtin.List.listFitsIndex
    simp only [Bool.and_eq_true, decide_eq_true_eq]; omega
  · unfold seqIndex?
    have : ¬ k < 0 := by omega
    simp [this, h0]; omega
  · simpa using ht'
  · rw [List.size_toArray, sizeLine_eq]; omega
  · show vs.toArray.eraseIdxIfInBounds k.toNat = (vs.eraseIdx k.toNat).toArray
    simp
  · have hkv : k.toNat < vs.length := by omega
    have e : (vs.eraseIdx k.toNat).length ≠ vs.length := by rw [List.length_eraseIdx_of_lt hkv]; omega
    simp [e]
theorem len_erase {prog : Program} {w : World} {A : Around} {s : Shared} {h₀ : Heap} {L D : Addr} {news : List (Addr × Obj)} {vs : List Value} {ns : List Int} {n j : Nat} {Q E : Value → Shared → Prop}
    (N : News h₀ L s.heap news) (hm : (D, listOf (vs.eraseIdx j).toArray n) ∈ news) (hi : IntsAre vs ns) (hlen : ns.length ≤ 64)
    (h : (ns.eraseIdx j).length ≤ ns.length → Q (.int (ns.eraseIdx j).length (s.toks + 1)) { s with toks := s.toks + 1 + 1 }) :
    wpAny (model prog w) A (call (.builtin "len") [.ref D]) Q E s := by
  have hl := (ints_erase hi j).length
  have h2 := List.length_eraseIdx_le vs j
  have h3 := hi.length
  have e : (vs.eraseIdx j).toArray.size = (ns.eraseIdx j).length := by rw [List.size_toArray]; exact hl
  refine len_list (PySem.IsL.isList (n := n) (N _ hm).1) ?_ ?_
  · rw [List.size_toArray]; omega
  · rw [e]; exact h (List.length_eraseIdx_le ..)
theorem ord_turn {n told : Int} {rest found : List Int} (hne : decide (rest = []) = false) (h : 0 ≤ told) (hlen : rest.length + found.length = n.toNat) (hp : (rest ++ found).Perm ((List.range n.toNat).map Int.ofNat)) :
    (rest.eraseIdx (told.fmod rest.length).toNat).length + (found ++ [rest.getD (told.fmod rest.length).toNat 0]).length = n.toNat ∧ (rest.eraseIdx (told.fmod rest.length).toNat ++ (found ++ [rest.getD (told.fmod rest.length).toNat 0])).Perm ((List.range n.toNat).map Int.ofNat) := by
  obtain ⟨h0, h1⟩ := mod_in hne h
  generalize told.fmod rest.length = k at *
  have hk : k.toNat < rest.length := by omega
  refine ⟨?_, ?_⟩
  · rw [List.length_eraseIdx_of_lt hk, List.length_append, List.length_singleton]; omega
  · refine .trans ?_ hp
    rw [← List.append_assoc]
    refine .trans (List.perm_append_comm) ?_
    show (rest.getD k.toNat 0 :: (rest.eraseIdx k.toNat ++ found)).Perm _
    exact ((perm_getD_erase hk).symm.append_right found)

theorem ord_less {told : Int} {rest : List Int} (hne : decide (rest = []) = false) (h : 0 ≤ told) : (rest.eraseIdx (told.fmod rest.length).toNat).length < rest.length := by
  obtain ⟨h0, h1⟩ := mod_in hne h
  generalize told.fmod rest.length = k at *
  have hk : k.toNat < rest.length := by omega
  rw [List.length_eraseIdx_of_lt hk]; omega
theorem ord_end {rest found l : List Int} (hne : decide (rest = []) = true) (hp : (rest ++ found).Perm l) : found.Perm l := by
  have : rest = [] := of_decide_eq_true hne
  subst this
  exact hp
theorem ord_absurd {rest : List Int} (hne : decide (rest = []) = false) (h : (rest.length : Int) = 0) : False := by
  cases rest with
  | nil => simp at hne
  | cons => simp only [List.length_cons] at h; omega
theorem News.one {h₀ h : Heap} {L : Addr} {news : List (Addr × Obj)} {p : Addr × Obj} (N : News h₀ L h news) (hm : p ∈ news) : News h₀ L h [p] := fun q hq => by
  rw [List.mem_singleton.mp hq]; exact N p hm

theorem allLt_mem {d : Addr} {l : List (Addr × Obj)} (h : AllLt d l) : ∀ p ∈ l, p.1 < d := by
  induction l with
  | nil => intro p hp; exact absurd hp (List.not_mem_nil)
  | cons q r ih =>
    intro p hp
    rcases List.mem_cons.mp hp with rfl | hp
    · exact h.1
    · exact ih h.2 p hp
theorem allLt_ne {d e : Addr} {l : List (Addr × Obj)} (h : AllLt d l) (k : d ≤ e) : ∀ p ∈ l, p.1 ≠ e := fun p hp => Nat.ne_of_lt (Nat.lt_of_lt_of_le (allLt_mem h p hp) k)
theorem News.keep1 {h₀ h : Heap} {L : Addr} {cur news : List (Addr × Obj)} {p : Addr × Obj} (N : News h₀ L h cur) (hm : p ∈ cur) (hs : ∀ q ∈ news, q ∈ cur) : News h₀ L h (p :: news) := fun q hq => by
  rcases List.mem_cons.mp hq with rfl | hq
  · exact N _ hm
  · exact N _ (hs _ hq)
structure OS where
  vs : List Value
  ns : List Int
  a : Nat
  fs : List Value
  fns : List Int
  b : Nat
  told : Int
  tk : Tok
noncomputable abbrev OS.led (lF lR : Addr) (news : List (Addr × Obj)) (c : OS) : List (Addr × Obj) := (lF, listOf c.fs.toArray c.b) :: (lR, listOf c.vs.toArray c.a) :: news
noncomputable abbrev OS.ps (c : OS) : List (Str × Value) := [(Str.ofString "told", .int c.told c.tk)]
noncomputable abbrev OS.facts (c : OS) : Prop := IntsAre c.vs c.ns ∧ IntsAre c.fs c.fns
noncomputable abbrev OS.ok (n : Int) (c : OS) : Prop := 0 ≤ c.told ∧ c.ns.length + c.fns.length = n.toNat ∧ (c.ns ++ c.fns).Perm ((List.range n.toNat).map Int.ofNat)
noncomputable def OrdPost (h₀ : Heap) (L : Addr) (s : Shared) (lF lR : Addr) (news : List (Addr × Obj)) (m₀ : Str → Option Value) (n : Int) (Q : Flow → Shared → Prop) (c : OS) (f : Flow) (s₂ : Shared) : Prop :=
  KswPost h₀ L s (OS.led lF lR news) OS.ps OS.facts [] m₀ (OS.ok n) (fun c => c.ns.length) Q c f s₂
theorem ord_loop {prog : Program} {w : World} {A : Around} {E : Value → Shared → Prop} {Q : Flow → Shared → Prop} {s : Shared} {env : Env} {h₀ : Heap} {L : Addr} {test : PySem.Expr} {body : List Stmt} {pos : Pos} {m₀ : Str → Option Value}
    {lF lR tu : Addr} {ot : Obj} {news : List (Addr × Obj)} {vs : List Value} {a : Nat} {n told : Int} {tk : Tok}
    (F : Fr h₀ L s.heap m₀) (N : News h₀ L s.heap ((tu, ot) :: (lF, listOf #[] 0) :: (lR, listOf vs.toArray a) :: news)) (hI : IntsAre vs (rangeKs 0 (n - 0).toNat)) (ht : 0 ≤ told) (hk : m₀ (Str.ofString "told") = some (.int told tk))
    (turn : ∀ (c : OS) (u : Str → Option Value) h tk, IntsAre c.vs c.ns → IntsAre c.fs c.fns → 0 ≤ c.told → c.ns.length + c.fns.length = n.toNat → (c.ns ++ c.fns).Perm ((List.range n.toNat).map Int.ofNat) →
      Fr h₀ L h (fun y => if y = Str.ofString "told" then some (.int c.told c.tk) else m₀ y) → News h₀ L h ((lF, listOf c.fs.toArray c.b) :: (lR, listOf c.vs.toArray c.a) :: news) →
      wpAny (model prog w) A (isTrue test env (eval test env)) (fun b s₂ =>
        if b = true then wpAny (model prog w) A (execs body env) (OrdPost h₀ L s lF lR news m₀ n Q c) E s₂ else Q .next s₂) E { s with heap := h, toks := tk })
    (hE : PassesOwn (model prog w) A env E) :
    wpAny (model prog w) A (exec (.While test body [] pos) env) Q E s := by
  refine ksw_while (OS.led lF lR news) OS.ps OS.facts [] (OS.ok n) (fun c => c.ns.length) ⟨vs, rangeKs 0 (n - 0).toNat, a, [], [], 0, told, tk⟩ F (fun p hp => N p (.tail _ hp)) ⟨hI, .nil⟩ ?_ (ord_start ht) ?_ hE
  · intro p hp
    rw [List.mem_singleton.mp hp]; exact hk
  · rintro c u h tk ⟨f1, f2⟩ ⟨p1, p2, p3⟩ F' N'
    have e : kstB (fun z => if ([] : List Str).contains z then u z else m₀ z) (OS.ps c) = (fun y => if y = Str.ofString "told" then some (.int c.told c.tk) else m₀ y) := by
      funext y
      simp only [kstB, OS.ps, List.contains_nil, Bool.false_eq_true, if_false]
    rw [e] at F'
    exact turn c u h tk f1 f2 p1 p2 p3 F' N'
theorem ord_post {h₀ : Heap} {L : Addr} {s : Shared} {lF lR : Addr} {news news' : List (Addr × Obj)} {m₀ m' : Str → Option Value} {n : Int} {Q : Flow → Shared → Prop} {c : OS} {h' : Heap} {tk' a' b' : Nat} {u : Tok} {t : Tok} {k : Int}
    (f1 : IntsAre c.vs c.ns) (f2 : IntsAre c.fs c.fns) (p1 : 0 ≤ c.told) (p2 : c.ns.length + c.fns.length = n.toNat) (p3 : (c.ns ++ c.fns).Perm ((List.range n.toNat).map Int.ofNat)) (hne : decide (c.ns = []) = false)
    (F : Fr h₀ L h' m')
    (N : News h₀ L h' news') (hm1 : (lF, listOf (c.fs.toArray.push (.int (c.ns.getD (c.told.fmod c.ns.length).toNat 0) t)) b') ∈ news') (hm2 : (lR, listOf (c.vs.eraseIdx (c.told.fmod c.ns.length).toNat).toArray a') ∈ news') (hsub : ∀ p ∈ news, p ∈ news')
    (hm : m' = (fun y => if y = Str.ofString "told" then some (.int k u) else if y = Str.ofString "told" then some (.int c.told c.tk) else m₀ y)) (hk : 0 ≤ k) :
    OrdPost h₀ L s lF lR news m₀ n Q c .next { s with heap := h', toks := tk' } := by
  unfold OrdPost KswPost
  subst hm
  refine ksw_end ⟨c.vs.eraseIdx (c.told.fmod c.ns.length).toNat, c.ns.eraseIdx (c.told.fmod c.ns.length).toNat, a', c.fs ++ [.int (c.ns.getD (c.told.fmod c.ns.length).toNat 0) t], c.fns ++ [c.ns.getD (c.told.fmod c.ns.length).toNat 0], b', k, u⟩
    F N ?_ ⟨ints_erase f1 _, f2.append (.cons _ _ .nil)⟩ ?_ ?_ ⟨hk, ord_turn hne p1 p2 p3⟩ (ord_less hne p1)
  · intro p hp
    rcases List.mem_cons.mp hp with rfl | hp
    · rw [List.push_toArray] at hm1; exact hm1
    rcases List.mem_cons.mp hp with rfl | hp
    · exact hm2
    exact hsub p hp
  · intro p hp
    rw [List.mem_singleton.mp hp]; simp
  · intro z h1 _
    have : z ≠ Str.ofString "told" := h1 _ (.head _)
    simp [this]

local macro_rules | `(tactic| k_all) => `(tactic| first | assumption | exact lt_ne (by assumption) (Nat.le_succ _) | exact allLt_ne (by assumption) (by omega))

section


theorem order_spec {w : World} {dp un : Nat} {gd : Option (List Code)} {env : Env} {outer : List Env} {A₀ : Around} {base h₀ : Heap} {L : Addr} {m mg mb : Str → Option Value} {mean : ExcName → Option Value} {vq : Program} {vl : List Str} {s : Shared} {Q E : Value → Shared → Prop} {news : List (Addr × Obj)} {n : Int} {t1 t2 : Tok} {told : Int}
    (B : Below A₀ base outer h₀) (F : Fr h₀ L s.heap m) (X : (K0 w.params).In h₀) (N : News h₀ L s.heap (news)) (T : Top vq vl mean mg mb h₀)
    (hf : env.frame = some L) (hke : env.scope.kind = .function) (hdp : dp + 10 < recursionLimit) (hun : un + 100 < cLine) (hn0 : 0 < n) (hn5 : n ≤ 5) (ht : 0 ≤ told) 
    (hret : ∀ h' tk' l vs ns nn, Fr h₀ L h' m → News h₀ L h' ((l, listOf (List.toArray vs) nn) :: news) → IntsAre vs ns → ns.Perm ((List.range n.toNat).map Int.ofNat) → Q (.ref l) { s with heap := h', toks := tk' }) :
    wpAny (model Challenge.rw_xm0944_01.row.prog w) (tA dp un gd env outer) (call (.ref 274) [.int n t1, .int told t2]) Q E s := by
  refine wpAny_call ?_
  k_dflt (refine' code_def ?k1 ?k2 ?k3 ?k4 ?k5 ?kA ?kF ?kK ?k6 ?k7 ?k8 ?k9 ?kB ?_ ?c2 ?c3 ?c4 ?c5; (case kA => exact rfl); (case kF => assumption); (case kK => assumption); (case k1 => k_asm); (case k2 => k_asm); (case k3 => k_asm); (case k4 => k_asm); (case k5 => k_asm); (case k6 => k_is); (case k7 => k_is); (case k8 => first | exact lt_room (by assumption) | (dsimp only [tA]; omega)); (case k9 => exact BindsTo.of_eq rfl); (case c5 => decide); (case kB => exact locs rfl); (case c2 => exact rfl); (case c3 => exact rfl); (case c4 => exact rfl); k_whole)
  intro g' L' h' FG' F' N' B' X' T'
  try dsimp only
  try k_fold
  repeat' (first | (k_unfold; (try dsimp only)) | (k_end; wrow_close) | ((with_reducible show wpAny _ _ (exec (Stmt.While _ _ _ _) _) _ _ _); (rename Fr _ _ _ _ => lF'); (rename News _ _ _ _ => lN'); (rename IntsAre _ _ => lI'); (k_dflt (refine' ord_loop lF' lN' lI' ?ht ?hk ?_ ?hE; (case ht => assumption); (case hk => exact rfl); (case hE => (first | passes_own | with_unfolding_all passes_own)); k_whole)); (clear lF' lN' lI'); intro c' u' h' tk' i1 i2 q1 q2 q3 F' N'; (try k_fold)) | ((with_reducible show wpAny _ _ (call (Value.builtin "len") _) _ _ _); (with_reducible show wpAny _ _ (call (Value.builtin _) [Value.ref _]) _ _ _); k_dflt (refine' len_erase ?N ?m ?hi ?hl ?_; (case N => k_asm); (case m => k_mem); (case hi => k_asm); (case hl => omega); k_whole); intro le') | ((with_reducible show wpAny _ _ (call (Value.builtin "list.pop") _) _ _ _); (with_reducible show wpAny _ _ (call (Value.builtin _) [Value.ref _, Value.int _ _]) _ _ _); k_dflt (refine' pop_mod ?F ?N ?hi ?ne ?ht ?hl ?U ?_; (case F => k_asm); (case N => k_asm); (case hi => k_asm); (case ne => k_asm); (case ht => k_asm); (case hl => omega); (case U => k_upd); k_whole); intro h' t' F' N' I'; (try k_sweep)) | walk1 | (dsimp only; first | ((with_reducible show wpAny _ _ (exec (Stmt.While _ _ _ _) _) _ _ _); (rename Fr _ _ _ _ => lF'); (rename News _ _ _ _ => lN'); (rename IntsAre _ _ => lI'); (k_dflt (refine' ord_loop lF' lN' lI' ?ht ?hk ?_ ?hE; (case ht => assumption); (case hk => exact rfl); (case hE => (first | passes_own | with_unfolding_all passes_own)); k_whole)); (clear lF' lN' lI'); intro c' u' h' tk' i1 i2 q1 q2 q3 F' N'; (try k_fold)) | ((with_reducible show wpAny _ _ (call (Value.builtin "len") _) _ _ _); (with_reducible show wpAny _ _ (call (Value.builtin _) [Value.ref _]) _ _ _); k_dflt (refine' len_erase ?N ?m ?hi ?hl ?_; (case N => k_asm); (case m => k_mem); (case hi => k_asm); (case hl => omega); k_whole); intro le') | ((with_reducible show wpAny _ _ (call (Value.builtin "list.pop") _) _ _ _); (with_reducible show wpAny _ _ (call (Value.builtin _) [Value.ref _, Value.int _ _]) _ _ _); k_dflt (refine' pop_mod ?F ?N ?hi ?ne ?ht ?hl ?U ?_; (case F => k_asm); (case N => k_asm); (case hi => k_asm); (case ne => k_asm); (case ht => k_asm); (case hl => omega); (case U => k_upd); k_whole); intro h' t' F' N' I'; (try k_sweep)) | walk1) | (leave1; walk_say "STEP leave1"; try dsimp only) | fail "no step")
  · exact hret _ _ _ _ _ _ (by assumption) (News.keep1 (by assumption) (by k_mem) (fun p hp => by repeat (first | exact hp | refine List.mem_cons_of_mem _ ?_))) (by assumption) (ord_end (by assumption) (by assumption))
  · exact (ord_absurd (by assumption) (by assumption)).elim
  · exact ord_post (by assumption) (by assumption) (by assumption) (by assumption) (by assumption) (by assumption) (by assumption) (by assumption) (by k_mem) (by k_mem) (fun p hp => by repeat (first | exact hp | refine List.mem_cons_of_mem _ ?_)) rfl (Int.fdiv_nonneg (by assumption) (by omega))

end

inductive Sh where
  | leaf
  | node (k : Int) (l r : Sh)
inductive TT where
  | leaf (t : Tok)
  | node (a : Addr) (k : Int) (tk : Tok) (l r : TT)
noncomputable def TT.val : TT → Value
  | .leaf t => .str (Str.ofString "") t
  | .node a _ _ _ _ => .ref a
theorem TT.val_leaf (t : Tok) : (TT.leaf t).val = .str (Str.ofString "") t := rfl
theorem TT.val_node (a : Addr) (k : Int) (tk : Tok) (l r : TT) : (TT.node a k tk l r).val = .ref a := rfl
noncomputable abbrev tupO (vs : List Value) : Obj := { cls := .type "tuple", data := .seq vs.toArray }
noncomputable def TT.led : TT → List (Addr × Obj)
  | .leaf _ => []
  | .node a k tk l r => (a, tupO [l.val, .int k tk, r.val]) :: (l.led ++ r.led)
noncomputable def TT.sh : TT → Sh
  | .leaf _ => .leaf
  | .node _ k _ l r => .node k l.sh r.sh
noncomputable def Tr.sh : Tr → Sh
  | .leaf _ => .leaf
  | .node _ k _ _ _ _ l r => .node k l.sh r.sh

noncomputable def Sub (a b : List (Addr × Obj)) : Prop := ∀ p ∈ a, p ∈ b
theorem Sub.refl (a : List (Addr × Obj)) : Sub a a := fun _ h => h
theorem Sub.app {a b c : List (Addr × Obj)} (h : Sub a b) : Sub a (c ++ b) := fun p hp => List.mem_append.mpr (.inr (h p hp))
theorem Sub.cons {a b : List (Addr × Obj)} {e : Addr × Obj} (h : Sub a b) : Sub a (e :: b) := fun p hp => .tail _ (h p hp)
theorem Sub.of {a b : List (Addr × Obj)} (h : Sub a b) {p : Addr × Obj} (hp : p ∈ a) : p ∈ b := h p hp

noncomputable def ReadOK (w : World) (t : Tr) : Prop := ∀ {dp un : Nat} {gd : Option (List Code)} {env : Env} {outer : List Env} {A₀ : Around} {base h₀ : Heap} {L : Addr} {m mg mb : Str → Option Value} {mean : ExcName → Option Value} {vq : Program} {vl : List Str} {s : Shared} {Q E : Value → Shared → Prop} {news : List (Addr × Obj)}
    (B : Below A₀ base outer h₀) (F : Fr h₀ L s.heap m) (X : (K0 w.params).In h₀) (N : News h₀ L s.heap (news)) (T : Top vq vl mean mg mb h₀)
    (hf : env.frame = some L) (hke : env.scope.kind = .function) (_hdp : dp + 20 * (t.size + 1) < recursionLimit) (_hun : un + 200 * (t.size + 1) < cLine) (_hs : Sub t.led news)
    (_hret : ∀ h' tk' T, T.sh = t.sh → Fr h₀ L h' m → News h₀ L h' (TT.led T ++ news) → Q T.val { s with heap := h', toks := tk' }),
    wpAny (model Challenge.rw_xm0944_01.row.prog w) (tA dp un gd env outer) (call (.ref 262) [t.val]) Q E s
theorem read_use {w : World} {dp un : Nat} {gd : Option (List Code)} {env : Env} {outer : List Env} {A₀ : Around} {base h₀ : Heap} {L : Addr} {m mg mb : Str → Option Value} {mean : ExcName → Option Value} {vq : Program} {vl : List Str} {s : Shared} {Q E : Value → Shared → Prop} {t : Tr} {news : List (Addr × Obj)} (ih : ReadOK w t)
    (B : Below A₀ base outer h₀) (F : Fr h₀ L s.heap m) (X : (K0 w.params).In h₀) (N : News h₀ L s.heap (news)) (T : Top vq vl mean mg mb h₀)
    (hf : env.frame = some L) (hke : env.scope.kind = .function) (hdp : dp + 20 * (t.size + 1) < recursionLimit) (hun : un + 200 * (t.size + 1) < cLine) (hs : Sub t.led news)
    (hret : ∀ h' tk' T, T.sh = t.sh → Fr h₀ L h' m → News h₀ L h' (TT.led T ++ news) → Q T.val { s with heap := h', toks := tk' }) :
    wpAny (model Challenge.rw_xm0944_01.row.prog w) (tA dp un gd env outer) (call (.ref 262) [t.val]) Q E s := ih B F X N T hf hke hdp hun hs hret
theorem read_end {z : Nd} {k c : Int} {tk tc : Tok} {nv : Nat} {l r : Tr} {a : Addr} {T1 T2 : TT} (e1 : T1.sh = l.sh) (e2 : T2.sh = r.sh) : (TT.node a k tk T1 T2).sh = (Tr.node z k c tk tc nv l r).sh := by
  simp only [TT.sh, Tr.sh, e1, e2]
theorem read_news {h₀ h : Heap} {L a : Addr} {k : Int} {tk : Tok} {T1 T2 : TT} {news : List (Addr × Obj)} (N : News h₀ L h ((a, tupO [T1.val, .int k tk, T2.val]) :: (T2.led ++ (T1.led ++ news)))) : News h₀ L h ((TT.node a k tk T1 T2).led ++ news) := fun p hp => N p (by
  simp only [TT.led, List.cons_append, List.append_assoc, List.mem_cons, List.mem_append] at hp ⊢
  grind)



theorem read_leaf (w : World) (t0 : Tok) : ReadOK w (.leaf t0) := by
  intro dp un gd env outer A₀ base h₀ L m mg mb mean vq vl s Q E news B F X N T hf hke hdp hun hs hret
  simp only [Tr.val_leaf, Tr.size] at hdp hun ⊢
  refine wpAny_call ?_
  k_dflt (refine' code_def ?k1 ?k2 ?k3 ?k4 ?k5 ?kA ?kF ?kK ?k6 ?k7 ?k8 ?k9 ?kB ?_ ?c2 ?c3 ?c4 ?c5; (case kA => exact rfl); (case kF => assumption); (case kK => assumption); (case k1 => k_asm); (case k2 => k_asm); (case k3 => k_asm); (case k4 => k_asm); (case k5 => k_asm); (case k6 => k_is); (case k7 => k_is); (case k8 => first | exact lt_room (by assumption) | (dsimp only [tA]; omega)); (case k9 => exact BindsTo.of_eq rfl); (case c5 => decide); (case kB => exact locs rfl); (case c2 => exact rfl); (case c3 => exact rfl); (case c4 => exact rfl); k_whole)
  intro g' L' h' FG' F' N' B' X' T'
  try dsimp only
  try k_fold
  repeat' (first | (k_unfold; (try dsimp only)) | (k_end; wrow_close) | ((with_reducible show wpAny _ _ (call (Value.ref 262) _) _ _ _); k_dflt (refine' read_use ?ih ?B ?F ?X ?N ?T ?hf ?hke ?hdp ?hun ?hs ?_; (case ih => assumption); (case B => k_asm); (case F => k_asm); (case X => k_asm); (case N => k_asm); (case T => k_asm); (case hf => rfl); (case hke => rfl); (case hdp => k_room); (case hun => k_units); (case hs => repeat (first | assumption | refine Sub.app ?_ | refine Sub.cons ?_)); k_whole); intro h' tk' T' e' F' N'; (try k_sweep)) | ((with_reducible show wpAny _ _ (call (Value.ref 220) _) _ _ _); k_dflt (refine' fref_spec ?B ?F ?X ?N ?T ?hf ?hke ?hdp ?hun ?m1 ?m2 ?m3 ?hfi ?_; (case B => k_asm); (case F => k_asm); (case X => k_asm); (case N => k_asm); (case T => k_asm); (case hf => rfl); (case hke => rfl); (case hdp => k_room); (case hun => k_units); (case m1 => k_mem); (case m2 => k_mem); (case m3 => k_mem); (case hfi => first | assumption | constructor); k_whole); intro h' tk' r' dr' hk' ho' hkk' kt1' kt2' kt3' kt4' kt5' nr' F' N' l1' l2'; (try k_sweep)) | ((with_reducible show wpAny _ _ (call (Value.ref 248) _) _ _ _); k_dflt (first | (refine' of_K ?B ?F ?X ?N ?T ?hf ?hke ?hdp ?hun ?m1 ?m2 ?m3 ?m4 ?_; (case B => k_asm); (case F => k_asm); (case X => k_asm); (case N => k_asm); (case T => k_asm); (case hf => rfl); (case hke => rfl); (case hdp => k_room); (case hun => k_units); (case m1 => k_mem); (case m2 => k_mem); (case m3 => k_mem); (case m4 => k_mem); k_whole) | (refine' of_C ?B ?F ?X ?N ?T ?hf ?hke ?hdp ?hun ?m1 ?m2 ?m3 ?m4 ?_; (case B => k_asm); (case F => k_asm); (case X => k_asm); (case N => k_asm); (case T => k_asm); (case hf => rfl); (case hke => rfl); (case hdp => k_room); (case hun => k_units); (case m1 => k_mem); (case m2 => k_mem); (case m3 => k_mem); (case m4 => k_mem); k_whole) | (refine' of_L ?B ?F ?X ?N ?T ?hf ?hke ?hdp ?hun ?m1 ?m2 ?m3 ?m4 ?_; (case B => k_asm); (case F => k_asm); (case X => k_asm); (case N => k_asm); (case T => k_asm); (case hf => rfl); (case hke => rfl); (case hdp => k_room); (case hun => k_units); (case m1 => k_mem); (case m2 => k_mem); (case m3 => k_mem); (case m4 => k_mem); k_whole) | (refine' of_R ?B ?F ?X ?N ?T ?hf ?hke ?hdp ?hun ?m1 ?m2 ?m3 ?m4 ?_; (case B => k_asm); (case F => k_asm); (case X => k_asm); (case N => k_asm); (case T => k_asm); (case hf => rfl); (case hke => rfl); (case hdp => k_room); (case hun => k_units); (case m1 => k_mem); (case m2 => k_mem); (case m3 => k_mem); (case m4 => k_mem); k_whole)); intro h' tk' F' N'; (try k_sweep)) | walk1 | (dsimp only; first | ((with_reducible show wpAny _ _ (call (Value.ref 262) _) _ _ _); k_dflt (refine' read_use ?ih ?B ?F ?X ?N ?T ?hf ?hke ?hdp ?hun ?hs ?_; (case ih => assumption); (case B => k_asm); (case F => k_asm); (case X => k_asm); (case N => k_asm); (case T => k_asm); (case hf => rfl); (case hke => rfl); (case hdp => k_room); (case hun => k_units); (case hs => repeat (first | assumption | refine Sub.app ?_ | refine Sub.cons ?_)); k_whole); intro h' tk' T' e' F' N'; (try k_sweep)) | ((with_reducible show wpAny _ _ (call (Value.ref 220) _) _ _ _); k_dflt (refine' fref_spec ?B ?F ?X ?N ?T ?hf ?hke ?hdp ?hun ?m1 ?m2 ?m3 ?hfi ?_; (case B => k_asm); (case F => k_asm); (case X => k_asm); (case N => k_asm); (case T => k_asm); (case hf => rfl); (case hke => rfl); (case hdp => k_room); (case hun => k_units); (case m1 => k_mem); (case m2 => k_mem); (case m3 => k_mem); (case hfi => first | assumption | constructor); k_whole); intro h' tk' r' dr' hk' ho' hkk' kt1' kt2' kt3' kt4' kt5' nr' F' N' l1' l2'; (try k_sweep)) | ((with_reducible show wpAny _ _ (call (Value.ref 248) _) _ _ _); k_dflt (first | (refine' of_K ?B ?F ?X ?N ?T ?hf ?hke ?hdp ?hun ?m1 ?m2 ?m3 ?m4 ?_; (case B => k_asm); (case F => k_asm); (case X => k_asm); (case N => k_asm); (case T => k_asm); (case hf => rfl); (case hke => rfl); (case hdp => k_room); (case hun => k_units); (case m1 => k_mem); (case m2 => k_mem); (case m3 => k_mem); (case m4 => k_mem); k_whole) | (refine' of_C ?B ?F ?X ?N ?T ?hf ?hke ?hdp ?hun ?m1 ?m2 ?m3 ?m4 ?_; (case B => k_asm); (case F => k_asm); (case X => k_asm); (case N => k_asm); (case T => k_asm); (case hf => rfl); (case hke => rfl); (case hdp => k_room); (case hun => k_units); (case m1 => k_mem); (case m2 => k_mem); (case m3 => k_mem); (case m4 => k_mem); k_whole) | (refine' of_L ?B ?F ?X ?N ?T ?hf ?hke ?hdp ?hun ?m1 ?m2 ?m3 ?m4 ?_; (case B => k_asm); (case F => k_asm); (case X => k_asm); (case N => k_asm); (case T => k_asm); (case hf => rfl); (case hke => rfl); (case hdp => k_room); (case hun => k_units); (case m1 => k_mem); (case m2 => k_mem); (case m3 => k_mem); (case m4 => k_mem); k_whole) | (refine' of_R ?B ?F ?X ?N ?T ?hf ?hke ?hdp ?hun ?m1 ?m2 ?m3 ?m4 ?_; (case B => k_asm); (case F => k_asm); (case X => k_asm); (case N => k_asm); (case T => k_asm); (case hf => rfl); (case hke => rfl); (case hdp => k_room); (case hun => k_units); (case m1 => k_mem); (case m2 => k_mem); (case m3 => k_mem); (case m4 => k_mem); k_whole)); intro h' tk' F' N'; (try k_sweep)) | walk1) | (leave1; walk_say "STEP leave1"; try dsimp only) | fail "no step")
  exact hret _ _ (.leaf t0) rfl (by assumption) (by assumption)
theorem read_node (w : World) (z : Nd) (k c : Int) (tk tc : Tok) (nv : Nat) (l r : Tr) (ihl : ReadOK w l) (ihr : ReadOK w r) : ReadOK w (.node z k c tk tc nv l r) := by
  intro dp un gd env outer A₀ base h₀ L m mg mb mean vq vl s Q E news B F X N T hf hke hdp hun hs hret
  have m1 : z.ox ∈ news := hs _ (by simp only [Tr.led, List.mem_cons, true_or, or_true])
  have m2 : z.od ∈ news := hs _ (by simp only [Tr.led, List.mem_cons, true_or, or_true])
  have m3 : z.of ∈ news := hs _ (by simp only [Tr.led, List.mem_cons, true_or, or_true])
  have m4 : (z.vl, listOf #[.int k tk, .int c tc, l.val, r.val] nv) ∈ news := hs _ (by simp only [Tr.led, List.mem_cons, true_or, or_true])
  have sl : Sub l.led news := fun p hp => hs _ (by simp only [Tr.led, List.mem_cons, List.mem_append, hp, true_or, or_true])
  have sr : Sub r.led news := fun p hp => hs _ (by simp only [Tr.led, List.mem_cons, List.mem_append, hp, true_or, or_true])
  simp only [Tr.val_node, Tr.size] at hdp hun ⊢
  refine wpAny_call ?_
  k_dflt (refine' code_def ?k1 ?k2 ?k3 ?k4 ?k5 ?kA ?kF ?kK ?k6 ?k7 ?k8 ?k9 ?kB ?_ ?c2 ?c3 ?c4 ?c5; (case kA => exact rfl); (case kF => assumption); (case kK => assumption); (case k1 => k_asm); (case k2 => k_asm); (case k3 => k_asm); (case k4 => k_asm); (case k5 => k_asm); (case k6 => k_is); (case k7 => k_is); (case k8 => first | exact lt_room (by assumption) | (dsimp only [tA]; omega)); (case k9 => exact BindsTo.of_eq rfl); (case c5 => decide); (case kB => exact locs rfl); (case c2 => exact rfl); (case c3 => exact rfl); (case c4 => exact rfl); k_whole)
  intro g' L' h' FG' F' N' B' X' T'
  try dsimp only
  try k_fold
  repeat' (first | (k_unfold; (try dsimp only)) | (k_end; wrow_close) | ((with_reducible show wpAny _ _ (call (Value.ref 262) _) _ _ _); k_dflt (refine' read_use ?ih ?B ?F ?X ?N ?T ?hf ?hke ?hdp ?hun ?hs ?_; (case ih => assumption); (case B => k_asm); (case F => k_asm); (case X => k_asm); (case N => k_asm); (case T => k_asm); (case hf => rfl); (case hke => rfl); (case hdp => k_room); (case hun => k_units); (case hs => repeat (first | assumption | refine Sub.app ?_ | refine Sub.cons ?_)); k_whole); intro h' tk' T' e' F' N'; (try k_sweep)) | ((with_reducible show wpAny _ _ (call (Value.ref 220) _) _ _ _); k_dflt (refine' fref_spec ?B ?F ?X ?N ?T ?hf ?hke ?hdp ?hun ?m1 ?m2 ?m3 ?hfi ?_; (case B => k_asm); (case F => k_asm); (case X => k_asm); (case N => k_asm); (case T => k_asm); (case hf => rfl); (case hke => rfl); (case hdp => k_room); (case hun => k_units); (case m1 => k_mem); (case m2 => k_mem); (case m3 => k_mem); (case hfi => first | assumption | constructor); k_whole); intro h' tk' r' dr' hk' ho' hkk' kt1' kt2' kt3' kt4' kt5' nr' F' N' l1' l2'; (try k_sweep)) | ((with_reducible show wpAny _ _ (call (Value.ref 248) _) _ _ _); k_dflt (first | (refine' of_K ?B ?F ?X ?N ?T ?hf ?hke ?hdp ?hun ?m1 ?m2 ?m3 ?m4 ?_; (case B => k_asm); (case F => k_asm); (case X => k_asm); (case N => k_asm); (case T => k_asm); (case hf => rfl); (case hke => rfl); (case hdp => k_room); (case hun => k_units); (case m1 => k_mem); (case m2 => k_mem); (case m3 => k_mem); (case m4 => k_mem); k_whole) | (refine' of_C ?B ?F ?X ?N ?T ?hf ?hke ?hdp ?hun ?m1 ?m2 ?m3 ?m4 ?_; (case B => k_asm); (case F => k_asm); (case X => k_asm); (case N => k_asm); (case T => k_asm); (case hf => rfl); (case hke => rfl); (case hdp => k_room); (case hun => k_units); (case m1 => k_mem); (case m2 => k_mem); (case m3 => k_mem); (case m4 => k_mem); k_whole) | (refine' of_L ?B ?F ?X ?N ?T ?hf ?hke ?hdp ?hun ?m1 ?m2 ?m3 ?m4 ?_; (case B => k_asm); (case F => k_asm); (case X => k_asm); (case N => k_asm); (case T => k_asm); (case hf => rfl); (case hke => rfl); (case hdp => k_room); (case hun => k_units); (case m1 => k_mem); (case m2 => k_mem); (case m3 => k_mem); (case m4 => k_mem); k_whole) | (refine' of_R ?B ?F ?X ?N ?T ?hf ?hke ?hdp ?hun ?m1 ?m2 ?m3 ?m4 ?_; (case B => k_asm); (case F => k_asm); (case X => k_asm); (case N => k_asm); (case T => k_asm); (case hf => rfl); (case hke => rfl); (case hdp => k_room); (case hun => k_units); (case m1 => k_mem); (case m2 => k_mem); (case m3 => k_mem); (case m4 => k_mem); k_whole)); intro h' tk' F' N'; (try k_sweep)) | walk1 | (dsimp only; first | ((with_reducible show wpAny _ _ (call (Value.ref 262) _) _ _ _); k_dflt (refine' read_use ?ih ?B ?F ?X ?N ?T ?hf ?hke ?hdp ?hun ?hs ?_; (case ih => assumption); (case B => k_asm); (case F => k_asm); (case X => k_asm); (case N => k_asm); (case T => k_asm); (case hf => rfl); (case hke => rfl); (case hdp => k_room); (case hun => k_units); (case hs => repeat (first | assumption | refine Sub.app ?_ | refine Sub.cons ?_)); k_whole); intro h' tk' T' e' F' N'; (try k_sweep)) | ((with_reducible show wpAny _ _ (call (Value.ref 220) _) _ _ _); k_dflt (refine' fref_spec ?B ?F ?X ?N ?T ?hf ?hke ?hdp ?hun ?m1 ?m2 ?m3 ?hfi ?_; (case B => k_asm); (case F => k_asm); (case X => k_asm); (case N => k_asm); (case T => k_asm); (case hf => rfl); (case hke => rfl); (case hdp => k_room); (case hun => k_units); (case m1 => k_mem); (case m2 => k_mem); (case m3 => k_mem); (case hfi => first | assumption | constructor); k_whole); intro h' tk' r' dr' hk' ho' hkk' kt1' kt2' kt3' kt4' kt5' nr' F' N' l1' l2'; (try k_sweep)) | ((with_reducible show wpAny _ _ (call (Value.ref 248) _) _ _ _); k_dflt (first | (refine' of_K ?B ?F ?X ?N ?T ?hf ?hke ?hdp ?hun ?m1 ?m2 ?m3 ?m4 ?_; (case B => k_asm); (case F => k_asm); (case X => k_asm); (case N => k_asm); (case T => k_asm); (case hf => rfl); (case hke => rfl); (case hdp => k_room); (case hun => k_units); (case m1 => k_mem); (case m2 => k_mem); (case m3 => k_mem); (case m4 => k_mem); k_whole) | (refine' of_C ?B ?F ?X ?N ?T ?hf ?hke ?hdp ?hun ?m1 ?m2 ?m3 ?m4 ?_; (case B => k_asm); (case F => k_asm); (case X => k_asm); (case N => k_asm); (case T => k_asm); (case hf => rfl); (case hke => rfl); (case hdp => k_room); (case hun => k_units); (case m1 => k_mem); (case m2 => k_mem); (case m3 => k_mem); (case m4 => k_mem); k_whole) | (refine' of_L ?B ?F ?X ?N ?T ?hf ?hke ?hdp ?hun ?m1 ?m2 ?m3 ?m4 ?_; (case B => k_asm); (case F => k_asm); (case X => k_asm); (case N => k_asm); (case T => k_asm); (case hf => rfl); (case hke => rfl); (case hdp => k_room); (case hun => k_units); (case m1 => k_mem); (case m2 => k_mem); (case m3 => k_mem); (case m4 => k_mem); k_whole) | (refine' of_R ?B ?F ?X ?N ?T ?hf ?hke ?hdp ?hun ?m1 ?m2 ?m3 ?m4 ?_; (case B => k_asm); (case F => k_asm); (case X => k_asm); (case N => k_asm); (case T => k_asm); (case hf => rfl); (case hke => rfl); (case hdp => k_room); (case hun => k_units); (case m1 => k_mem); (case m2 => k_mem); (case m3 => k_mem); (case m4 => k_mem); k_whole)); intro h' tk' F' N'; (try k_sweep)) | walk1) | (leave1; walk_say "STEP leave1"; try dsimp only) | fail "no step")
  exact hret _ _ (.node _ _ _ _ _) (read_end (by assumption) (by assumption)) (by assumption) (read_news (by assumption))

theorem read_spec (w : World) : ∀ t : Tr, ReadOK w t
  | .leaf t0 => read_leaf w t0
  | .node z k c tk tc nv l r => read_node w z k c tk tc nv l r (read_spec w l) (read_spec w r)

noncomputable def gTop (cs : List Int) (a n : Int) : Int := if cs.getD a.toNat 0 < cs.getD n.toNat 0 then n else a
noncomputable def topOf (cs : List Int) (k : Int) (ks : List Int) : Int := ks.foldl (gTop cs) k
noncomputable def due (cs : List Int) : Nat → List Int → Sh
  | _, [] => .leaf
  | 0, _ :: _ => .leaf
  | n + 1, k :: r => .node (topOf cs k (k :: r)) (due cs n ((k :: r).filter fun x => decide (x < topOf cs k (k :: r)))) (due cs n ((k :: r).filter fun x => decide (topOf cs k (k :: r) < x)))
theorem due_nil_eq (cs : List Int) : ∀ n, due cs n [] = .leaf
  | 0 => rfl
  | _ + 1 => rfl
theorem gTop_mem (cs : List Int) (a n : Int) : gTop cs a n = a ∨ gTop cs a n = n := by
  unfold gTop; split
  · exact .inr rfl
  · exact .inl rfl
theorem foldTop_mem (cs : List Int) {S : List Int} : ∀ (ks : List Int) (a : Int), a ∈ S → (∀ k ∈ ks, k ∈ S) → ks.foldl (gTop cs) a ∈ S
  | [], _, ha, _ => ha
  | k :: r, a, ha, hk => by
    refine foldTop_mem cs r _ ?_ fun x hx => hk x (.tail _ hx)
    rcases gTop_mem cs a k with e | e <;> rw [e]
    · exact ha
    · exact hk k (.head _)
noncomputable def AllIn (cs ks : List Int) : Prop := ∀ k ∈ ks, 0 ≤ k ∧ k < (cs.length : Int)

noncomputable def TopJ (m₀ : Str → Option Value) (l : Addr) (vs : List Value) (nn : Nat) (cT : Addr) (news : List (Addr × Obj)) (v : Int) (m' : Str → Option Value) (nx : List (Addr × Obj)) : Prop :=
  (l, listOf vs.toArray nn) ∈ nx ∧ (∃ o t, nx = (cT, o) :: news ∧ o.data = .cell (some (.int v t))) ∧ ∀ z, z ≠ Str.ofString "key" → m' z = m₀ z
noncomputable def TopPost (h₀ : Heap) (env : Env) (m₀ : Str → Option Value) (l : Addr) (vs : List Value) (nn : Nat) (cT : Addr) (news own : List (Addr × Obj)) (v : Int) (s : Shared) (Q : Flow → Shared → Prop) (f : Flow) (s₂ : Shared) : Prop :=
  InvPostN h₀ env.locals (TopJ m₀ l vs nn cT news v) own (cT :: news.map (·.1)) s Q f s₂
theorem iter_top {prog : Program} {w : World} {A : Around} {E : Value → Shared → Prop} {s : Shared} {env : Env} {h₀ : Heap} {body : List Stmt} {Q : Flow → Shared → Prop} {l : Addr} {vs : List Value} {ns cs : List Int} {nn : Nat} {m₀ : Str → Option Value} {news cur : List (Addr × Obj)} {a₀ : Int} {t₀ : Tok} {cT : Addr} {o0 : Obj}
    (hh : A.handled = none) (hl : (l, listOf vs.toArray nn) ∈ news) (hi : IntsAre vs ns) (hb : AllIn cs ns) (h0 : a₀ ∈ ns) (hne : ∀ p ∈ news, p.1 ≠ cT) (F : Fr h₀ env.locals s.heap m₀) (N : News h₀ env.locals s.heap cur) (hm : (cT, o0) ∈ cur) (hsub : ∀ p ∈ news, p ∈ cur) (hy : o0.data = .cell (some (.int a₀ t₀)))
    (turn : ∀ n t a ta o h tk own, 0 ≤ n → n < (cs.length : Int) → 0 ≤ a → a < (cs.length : Int) → o.data = .cell (some (.int a ta)) → (∀ p ∈ news ++ own, p.1 ≠ cT) → Fr h₀ env.locals h (fun z => if z = Str.ofString "key" then some (.int n t) else m₀ z) → News h₀ env.locals h ((cT, o) :: (news ++ own)) →
      wpAny (model prog w) A (execs body env) (TopPost h₀ env m₀ l vs nn cT news own (gTop cs a n) { s with heap := h, toks := tk } Q) E { s with heap := h, toks := tk })
    (done : ∀ (u : Str → Option Value) t o h tk, o.data = .cell (some (.int (ns.foldl (gTop cs) a₀) t)) → Fr h₀ env.locals h (fun z => if z = Str.ofString "key" then u z else m₀ z) → News h₀ env.locals h ((cT, o) :: news) → Q .next { s with heap := h, toks := tk }) :
    wpAny (model prog w) A (pyIter (.ref l)) (fun it s₂ => LoopAtV prog w A h₀ env (Str.ofString "key") body Q E it s₂) E s := by
  refine iter_invNL (fun i m nx => (∃ o t, nx = (cT, o) :: news ∧ o.data = .cell (some (.int ((ns.take i).foldl (gTop cs) a₀) t))) ∧ ∀ z, z ≠ Str.ofString "key" → m z = m₀ z) hh (.tail _ hl) hi F (News.keep1 N hm hsub) ⟨⟨o0, t₀, rfl, hy⟩, fun _ _ => rfl⟩ ?_ ?_
  · rintro i n t m₁ news₁ h tk own hn _ hoff _ ⟨⟨o, ta, rfl, hm⟩, ho⟩ F₁ N₁
    have hnm : n ∈ ns := List.mem_of_getElem? hn
    have ham : (ns.take i).foldl (gTop cs) a₀ ∈ ns := foldTop_mem cs _ _ h0 fun k hk => List.mem_of_mem_take hk
    have hmap : (fun z => if z = Str.ofString "key" then some (Value.int n t) else m₁ z) = fun z => if z = Str.ofString "key" then some (.int n t) else m₀ z := by
      funext z; by_cases h1 : z = Str.ofString "key" <;> simp only [h1, if_true, if_false]
      exact ho z h1
    rw [hmap] at F₁
    have hs : (ns.take (i + 1)).foldl (gTop cs) a₀ = gTop cs ((ns.take i).foldl (gTop cs) a₀) n := by
      rw [List.take_add_one, hn]; simp
    rw [hs]
    have hoff' : ∀ p ∈ news ++ own, p.1 ≠ cT := fun p hp => (List.mem_append.mp hp).elim (hne p) fun hp => hoff p hp cT (.head _)
    exact turn n t _ ta o h tk own (hb n hnm).1 (hb n hnm).2 (hb _ ham).1 (hb _ ham).2 hm hoff' F₁ N₁
  · rintro m₁ news₁ h tk _ ⟨⟨o, t, rfl, hm⟩, ho⟩ F₁ N₁
    rw [List.take_length] at hm
    refine done m₁ t o h tk hm ?_ N₁
    have hmap : (fun z => if z = Str.ofString "key" then m₁ z else m₀ z) = m₁ := by
      funext z; by_cases h1 : z = Str.ofString "key" <;> simp only [h1, if_true, if_false]
      exact (ho z h1).symm
    rw [hmap]; exact F₁
theorem top_post {h₀ : Heap} {env : Env} {m₀ m' : Str → Option Value} {l cT : Addr} {vs : List Value} {nn : Nat} {news own cur : List (Addr × Obj)} {v v' : Int} {s : Shared} {Q : Flow → Shared → Prop} {h' : Heap} {tk : Nat} {t : Tok} {o : Obj}
    (hd : o.data = .cell (some (.int v' t))) (F : Fr h₀ env.locals h' m') (N : News h₀ env.locals h' cur) (hc : (cT, o) ∈ cur) (hl : (l, listOf vs.toArray nn) ∈ news) (hn : ∀ p ∈ news, p ∈ cur) (ho : ∀ p ∈ own, p ∈ cur) (hz : ∀ z, z ≠ Str.ofString "key" → m' z = m₀ z) (hv : v' = v) :
    TopPost h₀ env m₀ l vs nn cT news own v s Q .next { s with heap := h', toks := tk } := by
  subst hv
  refine InvEndN.intro F N ⟨.tail _ hl, ⟨o, t, rfl, hd⟩, hz⟩ rfl ?_ ho
  intro p hp
  rcases List.mem_cons.mp hp with rfl | hp
  · exact hc
  · exact hn p hp

theorem eq_cons_nil {prog : Program} {w : World} {A : Around} {s : Shared} {h₀ : Heap} {L l e : Addr} {news : List (Addr × Obj)} {v : Value} {vk : List Value} {n n' : Nat} {Q E : Value → Shared → Prop}
    (N : News h₀ L s.heap news) (m1 : (l, listOf (v :: vk).toArray n) ∈ news) (m2 : (e, listOf #[] n') ∈ news) (hu : A.units < cLine) (h : Q (.bool false) s) : wpAny (model prog w) A (compareOp .Eq (.ref l) (.ref e)) Q E s :=
  PySem.SeqAt.eq_list_lengthsAt (PySem.IsL.isList (n := n) (N _ m1).1) (PySem.IsL.isList (n := n') (N _ m2).1) (by simp) hu h

theorem comp_rest {prog : Program} {w : World} {A : Around} {h₀ : Heap} {L : Addr} {m : Str → Option Value} {env : Env} {ct elt : PySem.Expr} {scope : Scope} {cl : List (Str × Addr)} {s : Shared} {ax : Addr} {vs : List Value} {ks : List Int} {news : List (Addr × Obj)} {Fin : List Value → List (Addr × Obj) → Prop} {cT : Addr} {oT : Obj} {tv : Int} {tt : Tok}
    (f : Int → Int → Bool) (hi : IntsAre vs ks) (hS : LCg.SrcAt h₀ ax vs.toArray news) (mT : (cT, oT) ∈ news) (hd : oT.data = .cell (some (.int tv tt)))
    (tst : ∀ k t I oI C oC D ys m₂ h tk (Q' : Bool → Shared → Prop) (E' : Value → Shared → Prop), LCg.NsObj oC m₂ → m₂ (Str.ofString "key") = some (.int k t) → Fr h₀ L h m → News h₀ L h ((I, oI) :: (C, oC) :: (D, LCg.lst ys) :: news) → (∀ tk', Q' (f tv k) { s with heap := h, toks := tk' }) →
      wpAny (model prog w) A (isTrue ct (compEnvC scope cl C env) (eval ct (compEnvC scope cl C env))) Q' E' { s with heap := h, toks := tk })
    (el : ∀ k t I oI C oC D ys m₂ h tk (Q' : Value → Shared → Prop) (E' : Value → Shared → Prop), LCg.NsObj oC m₂ → m₂ (Str.ofString "key") = some (.int k t) → Fr h₀ L h m → News h₀ L h ((I, oI) :: (C, oC) :: (D, LCg.lst ys) :: news) → (∀ tk', Q' (.int k t) { s with heap := h, toks := tk' }) →
      wpAny (model prog w) A (eval elt (compEnvC scope cl C env)) Q' E' { s with heap := h, toks := tk })
    (fin : ∀ ys, IntsAre ys (ks.filter (f tv)) → Fin ys news) :
    LCt.CompRestT prog w A h₀ L m env ct elt (Str.ofString "key") scope cl s (LCg.SrcAt h₀ ax vs.toArray) (fun i v => vs.toArray[i]? = some v) Fin vs.toArray.size 0 [] news := by
  have main : ∀ (n i : Nat) (ys : List Value), i + n = ks.length → IntsAre ys ((ks.take i).filter (f tv)) → LCt.CompRestT prog w A h₀ L m env ct elt (Str.ofString "key") scope cl s (LCg.SrcAt h₀ ax vs.toArray) (fun i v => vs.toArray[i]? = some v) Fin n i ys news := by
    intro n
    induction n with
    | zero =>
      intro i ys hin hys
      refine LCt.CompRestT.zero (fin ys ?_)
      rw [show i = ks.length by omega, List.take_length] at hys
      exact hys
    | succ n ih =>
      intro i ys hin hys
      refine LCt.CompRestT.succ fun v I oI C oC D m₂ h tk E' hv hC hx F N off ne => ?_
      have hlt : i < ks.length := by omega
      obtain ⟨t, ht⟩ := hi.get i ks[i] (by simp [hlt])
      have hv' : v = .int ks[i] t := by
        have : vs[i]? = some v := by simpa using hv
        rw [ht] at this; exact (Option.some.inj this).symm
      subst hv'
      have tk1 : ks.take (i + 1) = ks.take i ++ [ks[i]] := by rw [List.take_add_one]; simp [hlt]
      refine tst _ _ _ _ _ _ _ _ _ _ _ _ _ hC hx F N fun tk' => ?_
      cases hb : f tv ks[i] with
      | true =>
        simp only [if_true]
        refine el _ _ _ _ _ _ _ _ _ _ _ _ _ hC hx F N fun tk' => ?_
        refine LCg.CompEnd.intro F N news (fun p hp => hp) off hS (ih (i + 1) _ (by omega) ?_)
        rw [tk1, List.filter_append, List.filter_cons_of_pos (by simpa using hb), List.filter_nil]
        exact hys.append (.cons _ _ .nil)
      | false =>
        simp only [Bool.false_eq_true, if_false]
        refine LCg.CompEnd.intro F N news (fun p hp => hp) off hS (ih (i + 1) _ (by omega) ?_)
        rw [tk1, List.filter_append, List.filter_cons_of_neg (by simpa using hb), List.filter_nil, List.append_nil]
        exact hys
  have hl : vs.toArray.size = ks.length := by rw [List.size_toArray]; exact hi.length
  rw [hl]
  exact main _ 0 [] (by omega) .nil

theorem comp_lt {prog : Program} {w : World} {A : Around} {h₀ : Heap} {L : Addr} {m : Str → Option Value} {env : Env} {p1 p2 p3 p4 : Pos} {scope : Scope} {cl : List (Str × Addr)} {s₁ : Shared} {ax : Addr} {vs : List Value} {ks : List Int} {n : Nat} {news : List (Addr × Obj)} {Fin : Shared → List Value → List (Addr × Obj) → Prop} {cT : Addr} {oT : Obj} {tv : Int} {tt : Tok}
    (hh : A.handled = none) (F : Fr h₀ L s₁.heap m) (N : News h₀ L s₁.heap news) (hm : (ax, listOf vs.toArray n) ∈ news) (hi : IntsAre vs ks) (hlen : ks.length ≤ 64) (hd : oT.data = .cell (some (.int tv tt))) (mT : (cT, oT) ∈ news)
    (hk : ∀ C, (compEnvC scope cl C env).scope.kind = .function) (hl : ∀ C, (compEnvC scope cl C env).kindOf (Str.ofString "key") = some .local) (hf : ∀ C, (compEnvC scope cl C env).kindOf (Str.ofString "top") = some .cell) (hc : cl.lookup (Str.ofString "top") = some cT)
    (fin : ∀ g ys, IntsAre ys (ks.filter fun k => decide (k < tv)) → Fin { s₁ with heap := g } ys news) :
    LCt.CompSrcT prog w A h₀ L m env (.Compare (.Name (Str.ofString "key") p1) [CmpOp.Lt] [.Name (Str.ofString "top") p2] p3) (.Name (Str.ofString "key") p4) (Str.ofString "key") scope cl Fin (.ref ax) s₁ := by
  refine LCt.CompSrcT.ledger hh F N hm (by rw [List.size_toArray, sizeLine_eq, hi.length]; omega) fun g =>
    comp_rest (fun tv k => decide (k < tv)) hi (.inr ⟨_, hm, rfl, _, rfl⟩) mT hd ?_ ?_ (fin g)
  · intro k t I oI C oC D ys m₂ h tk Q' E' hC hx F' N' hq
    refine wpAny_isTrue_Compare1 (LCgL.ld_own N' (.tail _ (.head _)) hC hx ?_ (hk C) (hl C))
    refine lcf_cell N' hc (.tail _ (.tail _ (.tail _ mT))) hd ?_ (hk C) (hf C)
    exact PyProof.Rows.lt_int (wpAny_truthy_bool (hq _))
  · intro k t I oI C oC D ys m₂ h tk Q' E' hC hx F' N' hq
    exact LCgL.ld_own N' (.tail _ (.head _)) hC hx (hq _) (hk C) (hl C)

theorem comp_gt {prog : Program} {w : World} {A : Around} {h₀ : Heap} {L : Addr} {m : Str → Option Value} {env : Env} {p1 p2 p3 p4 : Pos} {scope : Scope} {cl : List (Str × Addr)} {s₁ : Shared} {ax : Addr} {vs : List Value} {ks : List Int} {n : Nat} {news : List (Addr × Obj)} {Fin : Shared → List Value → List (Addr × Obj) → Prop} {cT : Addr} {oT : Obj} {tv : Int} {tt : Tok}
    (hh : A.handled = none) (F : Fr h₀ L s₁.heap m) (N : News h₀ L s₁.heap news) (hm : (ax, listOf vs.toArray n) ∈ news) (hi : IntsAre vs ks) (hlen : ks.length ≤ 64) (hd : oT.data = .cell (some (.int tv tt))) (mT : (cT, oT) ∈ news)
    (hk : ∀ C, (compEnvC scope cl C env).scope.kind = .function) (hl : ∀ C, (compEnvC scope cl C env).kindOf (Str.ofString "key") = some .local) (hf : ∀ C, (compEnvC scope cl C env).kindOf (Str.ofString "top") = some .cell) (hc : cl.lookup (Str.ofString "top") = some cT)
    (fin : ∀ g ys, IntsAre ys (ks.filter fun k => decide (tv < k)) → Fin { s₁ with heap := g } ys news) :
    LCt.CompSrcT prog w A h₀ L m env (.Compare (.Name (Str.ofString "key") p1) [CmpOp.Gt] [.Name (Str.ofString "top") p2] p3) (.Name (Str.ofString "key") p4) (Str.ofString "key") scope cl Fin (.ref ax) s₁ := by
  refine LCt.CompSrcT.ledger hh F N hm (by rw [List.size_toArray, sizeLine_eq, hi.length]; omega) fun g =>
    comp_rest (fun tv k => decide (tv < k)) hi (.inr ⟨_, hm, rfl, _, rfl⟩) mT hd ?_ ?_ (fin g)
  · intro k t I oI C oC D ys m₂ h tk Q' E' hC hx F' N' hq
    refine wpAny_isTrue_Compare1 (LCgL.ld_own N' (.tail _ (.head _)) hC hx ?_ (hk C) (hl C))
    refine lcf_cell N' hc (.tail _ (.tail _ (.tail _ mT))) hd ?_ (hk C) (hf C)
    exact PyProof.Rows.gt_int (wpAny_truthy_bool (hq _))
  · intro k t I oI C oC D ys m₂ h tk Q' E' hC hx F' N' hq
    exact LCgL.ld_own N' (.tail _ (.head _)) hC hx (hq _) (hk C) (hl C)

noncomputable def DueOK (w : World) (fuel : Nat) : Prop := ∀ {dp un : Nat} {gd : Option (List Code)} {env : Env} {outer : List Env} {A₀ : Around} {base h₀ : Heap} {L : Addr} {m mg mb : Str → Option Value} {mean : ExcName → Option Value} {vq : Program} {vl : List Str} {s : Shared} {Q E : Value → Shared → Prop} {news : List (Addr × Obj)}
    {lk lc : Addr} {vk vc : List Value} {nk nc : Nat} {ks cs : List Int}
    (B : Below A₀ base outer h₀) (F : Fr h₀ L s.heap m) (X : (K0 w.params).In h₀) (N : News h₀ L s.heap (news)) (T : Top vq vl mean mg mb h₀)
    (hf : env.frame = some L) (hke : env.scope.kind = .function) (_hdp : dp + 20 * (fuel + 1) < recursionLimit) (_hun : un + 200 * (fuel + 1) < cLine) (_mk : (lk, listOf vk.toArray nk) ∈ news) (_mc : (lc, listOf vc.toArray nc) ∈ news) (_ik : IntsAre vk ks) (_ic : IntsAre vc cs) (_hb : AllIn cs ks) (_hl : ks.length ≤ fuel) (_h64 : cs.length ≤ 64) (_hf64 : fuel ≤ 64)
    (_hret : ∀ h' tk' T, T.sh = due cs fuel ks → Fr h₀ L h' m → News h₀ L h' (TT.led T ++ news) → Q T.val { s with heap := h', toks := tk' }),
    wpAny (model Challenge.rw_xm0944_01.row.prog w) (tA dp un gd env outer) (call (.ref 267) [.ref lk, .ref lc]) Q E s
theorem due_use {w : World} {dp un : Nat} {gd : Option (List Code)} {env : Env} {outer : List Env} {A₀ : Around} {base h₀ : Heap} {L : Addr} {m mg mb : Str → Option Value} {mean : ExcName → Option Value} {vq : Program} {vl : List Str} {s : Shared} {Q E : Value → Shared → Prop} {fuel : Nat} {news : List (Addr × Obj)} {lk lc : Addr} {vk vc : List Value} {nk nc : Nat} {ks cs : List Int} (ih : DueOK w fuel)
    (B : Below A₀ base outer h₀) (F : Fr h₀ L s.heap m) (X : (K0 w.params).In h₀) (N : News h₀ L s.heap (news)) (T : Top vq vl mean mg mb h₀)
    (hf : env.frame = some L) (hke : env.scope.kind = .function) (hdp : dp + 20 * (fuel + 1) < recursionLimit) (hun : un + 200 * (fuel + 1) < cLine) (mk : (lk, listOf vk.toArray nk) ∈ news) (mc : (lc, listOf vc.toArray nc) ∈ news) (ik : IntsAre vk ks) (ic : IntsAre vc cs) (hb : AllIn cs ks) (hl : ks.length ≤ fuel) (h64 : cs.length ≤ 64) (hf64 : fuel ≤ 64)
    (hret : ∀ h' tk' T, T.sh = due cs fuel ks → Fr h₀ L h' m → News h₀ L h' (TT.led T ++ news) → Q T.val { s with heap := h', toks := tk' }) :
    wpAny (model Challenge.rw_xm0944_01.row.prog w) (tA dp un gd env outer) (call (.ref 267) [.ref lk, .ref lc]) Q E s := ih B F X N T hf hke hdp hun mk mc ik ic hb hl h64 hf64 hret
theorem filt_lt {p : Int → Bool} {t : Int} (ht : p t = false) : ∀ {l : List Int}, t ∈ l → (l.filter p).length < l.length
  | x :: r, h => by
    rcases List.mem_cons.mp h with rfl | h
    · rw [List.filter_cons_of_neg (by simp [ht])]
      exact Nat.lt_succ_of_le (List.length_filter_le ..)
    · have ih := filt_lt ht h
      cases hp : p x with
      | true => rw [List.filter_cons_of_pos hp]; simpa using ih
      | false => rw [List.filter_cons_of_neg (by simp [hp])]; exact Nat.lt_succ_of_lt ih
theorem due_lt {cs : List Int} {k a : Int} {r : List Int} {fuel : Nat} (ha : a ∈ k :: r) (h : (k :: r).length ≤ fuel + 1) : ((k :: r).filter fun x => decide (x < (k :: r).foldl (gTop cs) a)).length ≤ fuel := by
  have := filt_lt (p := fun x => decide (x < (k :: r).foldl (gTop cs) a)) (by simp) (foldTop_mem cs (k :: r) a ha fun x hx => hx)
  omega
theorem due_gt {cs : List Int} {k a : Int} {r : List Int} {fuel : Nat} (ha : a ∈ k :: r) (h : (k :: r).length ≤ fuel + 1) : ((k :: r).filter fun x => decide ((k :: r).foldl (gTop cs) a < x)).length ≤ fuel := by
  have := filt_lt (p := fun x => decide ((k :: r).foldl (gTop cs) a < x)) (by simp) (foldTop_mem cs (k :: r) a ha fun x hx => hx)
  omega
theorem allIn_filter {cs ks : List Int} {p : Int → Bool} (h : AllIn cs ks) : AllIn cs (ks.filter p) := fun k hk => h k ((List.mem_filter.mp hk).1)
theorem due_end {cs : List Int} {fuel : Nat} {k : Int} {r : List Int} {a : Addr} {tk : Tok} {T1 T2 : TT} (e1 : T1.sh = due cs fuel ((k :: r).filter fun x => decide (x < (k :: r).foldl (gTop cs) k))) (e2 : T2.sh = due cs fuel ((k :: r).filter fun x => decide ((k :: r).foldl (gTop cs) k < x))) :
    (TT.node a ((k :: r).foldl (gTop cs) k) tk T1 T2).sh = due cs (fuel + 1) (k :: r) := by
  show Sh.node _ T1.sh T2.sh = _
  rw [e1, e2]
  rfl
theorem Sub.left (a b : List (Addr × Obj)) : Sub a (a ++ b) := fun _ h => List.mem_append.mpr (.inl h)
theorem tt_news {h₀ h : Heap} {L a : Addr} {k : Int} {tk : Tok} {T1 T2 : TT} {cur news : List (Addr × Obj)} (N : News h₀ L h cur) (hm : (a, tupO [T1.val, .int k tk, T2.val]) ∈ cur) (s1 : Sub T1.led cur) (s2 : Sub T2.led cur) (s3 : Sub news cur) : News h₀ L h ((TT.node a k tk T1 T2).led ++ news) := fun p hp => N p (by
  simp only [TT.led, List.cons_append, List.append_assoc, List.mem_cons, List.mem_append] at hp
  rcases hp with rfl | hp | hp | hp
  · exact hm
  · exact s1 p hp
  · exact s2 p hp
  · exact s3 p hp)

theorem due_nil {w : World} {dp un : Nat} {gd : Option (List Code)} {env : Env} {outer : List Env} {A₀ : Around} {base h₀ : Heap} {L : Addr} {m mg mb : Str → Option Value} {mean : ExcName → Option Value} {vq : Program} {vl : List Str} {s : Shared} {Q E : Value → Shared → Prop} {fuel : Nat} {news : List (Addr × Obj)} {lk lc : Addr} {nk : Nat} {cs : List Int}
    (B : Below A₀ base outer h₀) (F : Fr h₀ L s.heap m) (X : (K0 w.params).In h₀) (N : News h₀ L s.heap (news)) (T : Top vq vl mean mg mb h₀)
    (hf : env.frame = some L) (hke : env.scope.kind = .function) (hdp : dp + 20 * (fuel + 1) < recursionLimit) (hun : un + 200 * (fuel + 1) < cLine) (mk : (lk, listOf (([] : List Value).toArray) nk) ∈ news) 
    (hret : ∀ h' tk' T, T.sh = due cs fuel [] → Fr h₀ L h' m → News h₀ L h' (TT.led T ++ news) → Q T.val { s with heap := h', toks := tk' }) :
    wpAny (model Challenge.rw_xm0944_01.row.prog w) (tA dp un gd env outer) (call (.ref 267) [.ref lk, .ref lc]) Q E s := by
  have ik : IntsAre ([] : List Value) [] := .nil
  refine wpAny_call ?_
  k_dflt (refine' code_defC ?k1 ?k2 ?k3 ?k4 ?k5 ?kA ?kF ?kK ?k6 ?k7 ?k8 ?k9 ?kB ?kD ?_ ?c2 ?c3 ?c4; (case kA => exact rfl); (case kF => assumption); (case kK => assumption); (case k1 => k_asm); (case k2 => k_asm); (case k3 => k_asm); (case k4 => k_asm); (case k5 => k_asm); (case k6 => k_is); (case k7 => k_is); (case k8 => first | exact lt_room (by assumption) | (dsimp only [tA]; omega)); (case k9 => exact BindsTo.of_eq rfl); (case kB => exact rfl); (case kD => decide +kernel); (case c2 => exact rfl); (case c3 => exact rfl); (case c4 => exact rfl); k_whole)
  intro g' L' h' tk' cells' FG' F' N' Y' B' X' T' l1
  try k_lt l1
  k_cells Y'
  try simp only [List.cons_append, List.nil_append] at N'
  try dsimp only
  try k_fold
  repeat' (first | (k_unfold; (try dsimp only)) | (k_end; wrow_close) | ((with_reducible show wpAny _ _ (call (Value.ref 262) _) _ _ _); k_dflt (refine' read_use ?ih ?B ?F ?X ?N ?T ?hf ?hke ?hdp ?hun ?hs ?_; (case ih => assumption); (case B => k_asm); (case F => k_asm); (case X => k_asm); (case N => k_asm); (case T => k_asm); (case hf => rfl); (case hke => rfl); (case hdp => k_room); (case hun => k_units); (case hs => repeat (first | assumption | refine Sub.app ?_ | refine Sub.cons ?_)); k_whole); intro h' tk' T' e' F' N'; (try k_sweep)) | walk1 | (dsimp only; first | ((with_reducible show wpAny _ _ (call (Value.ref 262) _) _ _ _); k_dflt (refine' read_use ?ih ?B ?F ?X ?N ?T ?hf ?hke ?hdp ?hun ?hs ?_; (case ih => assumption); (case B => k_asm); (case F => k_asm); (case X => k_asm); (case N => k_asm); (case T => k_asm); (case hf => rfl); (case hke => rfl); (case hdp => k_room); (case hun => k_units); (case hs => repeat (first | assumption | refine Sub.app ?_ | refine Sub.cons ?_)); k_whole); intro h' tk' T' e' F' N'; (try k_sweep)) | walk1) | (leave1; walk_say "STEP leave1"; try dsimp only) | fail "no step")
  refine hret _ _ (.leaf _) (due_nil_eq cs fuel).symm (by assumption) ?_
  rename News h₀ L _ _ => lN
  exact fun p hp => lN p (by repeat (first | exact hp | refine List.mem_cons_of_mem _ ?_))

section




theorem due_cons {w : World} {dp un : Nat} {gd : Option (List Code)} {env : Env} {outer : List Env} {A₀ : Around} {base h₀ : Heap} {L : Addr} {m mg mb : Str → Option Value} {mean : ExcName → Option Value} {vq : Program} {vl : List Str} {s : Shared} {Q E : Value → Shared → Prop} {fuel : Nat} (ih : DueOK w fuel) {news : List (Addr × Obj)} {lk lc : Addr} {k : Int} {tk0 : Tok} {r : List Int} {vk vc : List Value} {nk nc : Nat} {cs : List Int}
    (B : Below A₀ base outer h₀) (F : Fr h₀ L s.heap m) (X : (K0 w.params).In h₀) (N : News h₀ L s.heap (news)) (T : Top vq vl mean mg mb h₀)
    (hf : env.frame = some L) (hke : env.scope.kind = .function) (hdp : dp + 20 * (fuel + 1 + 1) < recursionLimit) (hun : un + 200 * (fuel + 1 + 1) < cLine) (mk : (lk, listOf (Value.int k tk0 :: vk).toArray nk) ∈ news) (mc : (lc, listOf vc.toArray nc) ∈ news) (ic : IntsAre vc cs) (ik : IntsAre (Value.int k tk0 :: vk) (k :: r)) (hb : AllIn cs (k :: r)) (hl : (k :: r).length ≤ fuel + 1) (h64 : cs.length ≤ 64) (hf64 : fuel + 1 ≤ 64)
    (hret : ∀ h' tk' T, T.sh = due cs (fuel + 1) (k :: r) → Fr h₀ L h' m → News h₀ L h' (TT.led T ++ news) → Q T.val { s with heap := h', toks := tk' }) :
    wpAny (model Challenge.rw_xm0944_01.row.prog w) (tA dp un gd env outer) (call (.ref 267) [.ref lk, .ref lc]) Q E s := by
  refine wpAny_call ?_
  k_dflt (refine' code_defC ?k1 ?k2 ?k3 ?k4 ?k5 ?kA ?kF ?kK ?k6 ?k7 ?k8 ?k9 ?kB ?kD ?_ ?c2 ?c3 ?c4; (case kA => exact rfl); (case kF => assumption); (case kK => assumption); (case k1 => k_asm); (case k2 => k_asm); (case k3 => k_asm); (case k4 => k_asm); (case k5 => k_asm); (case k6 => k_is); (case k7 => k_is); (case k8 => first | exact lt_room (by assumption) | (dsimp only [tA]; omega)); (case k9 => exact BindsTo.of_eq rfl); (case kB => exact rfl); (case kD => decide +kernel); (case c2 => exact rfl); (case c3 => exact rfl); (case c4 => exact rfl); k_whole)
  intro g' L' h' tk' cells' FG' F' N' Y' B' X' T' l1
  try k_lt l1
  k_cells Y'
  try simp only [List.cons_append, List.nil_append] at N'
  try dsimp only
  try k_fold
  iterate 85 (first | (k_unfold; (try dsimp only)) | (k_end; wrow_close) | ((with_reducible show wpAny _ _ (call (Value.ref 267) _) _ _ _); k_dflt (refine' due_use ?ih ?B ?F ?X ?N ?T ?hf ?hke ?hdp ?hun ?mk ?mc ?ik ?ic ?hb ?hl ?h64 ?hf64 ?_; (case ih => assumption); (case B => k_asm); (case F => k_asm); (case X => k_asm); (case N => k_asm); (case T => k_asm); (case hf => rfl); (case hke => rfl); (case hdp => k_room); (case hun => k_units); (case mk => k_mem); (case mc => k_mem); (case ik => assumption); (case ic => assumption); (case hb => exact allIn_filter (by assumption)); (case hl => first | exact due_lt (List.Mem.head _) (by assumption) | exact due_gt (List.Mem.head _) (by assumption)); (case h64 => assumption); (case hf64 => omega); k_whole); intro h' tk' T' e' F' N'; (try k_sweep)) | ((with_reducible show LCt.CompSrcT _ _ _ _ _ _ _ _ _ _ _ _ _ _ _); k_dflt (refine' comp_gt ?hh ?F ?N ?hm ?hi ?hlen ?hd ?mT ?hk ?hl ?hf ?hc ?_; (case hh => rfl); (case F => k_asm); (case N => k_asm); (case hm => k_mem); (case hi => assumption); (case hlen => exact Nat.le_trans (by assumption) (by assumption)); (case hd => assumption); (case mT => k_mem); (case hk => exact fun _ => rfl); (case hl => exact fun _ => rfl); (case hf => exact fun _ => rfl); (case hc => rfl); k_whole); intro gC yC iC) | ((with_reducible show LCt.CompSrcT _ _ _ _ _ _ _ _ _ _ _ _ _ _ _); k_dflt (refine' comp_lt ?hh ?F ?N ?hm ?hi ?hlen ?hd ?mT ?hk ?hl ?hf ?hc ?_; (case hh => rfl); (case F => k_asm); (case N => k_asm); (case hm => k_mem); (case hi => assumption); (case hlen => exact Nat.le_trans (by assumption) (by assumption)); (case hd => assumption); (case mT => k_mem); (case hk => exact fun _ => rfl); (case hl => exact fun _ => rfl); (case hf => exact fun _ => rfl); (case hc => rfl); k_whole); intro gC yC iC) | ((with_reducible show wpAny _ _ (eval (PySem.Expr.ListComp _ _ _ _) _) _ _ _); k_dflt (refine LCt.ListComp_T (F₀ := by k_asm) (by with_unfolding_all rfl) (by decide) (by rfl) (by decide) (by rfl) ?_)) | ((with_reducible show wpAny _ _ (compareOp CmpOp.Eq (Value.ref _) (Value.ref _)) _ _ _); k_dflt (refine' eq_cons_nil ?N ?m1 ?m2 ?hu ?_; (case N => k_asm); (case m1 => k_mem); (case m2 => k_mem); (case hu => k_units); k_whole)) | ((with_reducible show wpAny _ _ (pyIter (Value.ref _)) (fun it s₂ => LoopAtV _ _ _ _ _ _ _ _ _ it s₂) _ _); (k_dflt (refine' iter_top ?hh ?hl ?hi ?hb ?h0 ?hne ?F ?N ?hm ?hsub ?hy ?turn ?done; (case hh => rfl); (case hi => assumption); (case hb => assumption); (case hl => assumption); (case F => k_asm); (case N => k_asm); (case hy => assumption); (case h0 => exact List.Mem.head _); (case hm => k_mem); (case hsub => exact fun p hp => by repeat (first | exact hp | refine List.mem_cons_of_mem _ ?_)); (case hne => k_all); k_whole)); (case' turn => (intro n' t' a' ta' o' h' tk' own' b1 b2 b3 b4 d1 n1 F' N'; (try k_fold))); (case' done => (intro u' t' o' h' tk' d1 F' N'; (try k_fold)))) | ((with_reducible show wpAny _ _ (exec (Stmt.For (PySem.Expr.Name _ _) (PySem.Expr.Name _ _) _ _ _) _) _ _ _); (rename Fr _ _ _ _ => lF'); (with_unfolding_all refine' For_invVF lF' ?k1 ?k2 ?_; (case k1 => exact rfl); (case k2 => exact rfl); k_whole)) | ((with_reducible show wpAny _ _ (call (Value.ref 262) _) _ _ _); k_dflt (refine' read_use ?ih ?B ?F ?X ?N ?T ?hf ?hke ?hdp ?hun ?hs ?_; (case ih => assumption); (case B => k_asm); (case F => k_asm); (case X => k_asm); (case N => k_asm); (case T => k_asm); (case hf => rfl); (case hke => rfl); (case hdp => k_room); (case hun => k_units); (case hs => repeat (first | assumption | refine Sub.app ?_ | refine Sub.cons ?_)); k_whole); intro h' tk' T' e' F' N'; (try k_sweep)) | walk1 | (dsimp only; first | ((with_reducible show wpAny _ _ (call (Value.ref 267) _) _ _ _); k_dflt (refine' due_use ?ih ?B ?F ?X ?N ?T ?hf ?hke ?hdp ?hun ?mk ?mc ?ik ?ic ?hb ?hl ?h64 ?hf64 ?_; (case ih => assumption); (case B => k_asm); (case F => k_asm); (case X => k_asm); (case N => k_asm); (case T => k_asm); (case hf => rfl); (case hke => rfl); (case hdp => k_room); (case hun => k_units); (case mk => k_mem); (case mc => k_mem); (case ik => assumption); (case ic => assumption); (case hb => exact allIn_filter (by assumption)); (case hl => first | exact due_lt (List.Mem.head _) (by assumption) | exact due_gt (List.Mem.head _) (by assumption)); (case h64 => assumption); (case hf64 => omega); k_whole); intro h' tk' T' e' F' N'; (try k_sweep)) | ((with_reducible show LCt.CompSrcT _ _ _ _ _ _ _ _ _ _ _ _ _ _ _); k_dflt (refine' comp_gt ?hh ?F ?N ?hm ?hi ?hlen ?hd ?mT ?hk ?hl ?hf ?hc ?_; (case hh => rfl); (case F => k_asm); (case N => k_asm); (case hm => k_mem); (case hi => assumption); (case hlen => exact Nat.le_trans (by assumption) (by assumption)); (case hd => assumption); (case mT => k_mem); (case hk => exact fun _ => rfl); (case hl => exact fun _ => rfl); (case hf => exact fun _ => rfl); (case hc => rfl); k_whole); intro gC yC iC) | ((with_reducible show LCt.CompSrcT _ _ _ _ _ _ _ _ _ _ _ _ _ _ _); k_dflt (refine' comp_lt ?hh ?F ?N ?hm ?hi ?hlen ?hd ?mT ?hk ?hl ?hf ?hc ?_; (case hh => rfl); (case F => k_asm); (case N => k_asm); (case hm => k_mem); (case hi => assumption); (case hlen => exact Nat.le_trans (by assumption) (by assumption)); (case hd => assumption); (case mT => k_mem); (case hk => exact fun _ => rfl); (case hl => exact fun _ => rfl); (case hf => exact fun _ => rfl); (case hc => rfl); k_whole); intro gC yC iC) | ((with_reducible show wpAny _ _ (eval (PySem.Expr.ListComp _ _ _ _) _) _ _ _); k_dflt (refine LCt.ListComp_T (F₀ := by k_asm) (by with_unfolding_all rfl) (by decide) (by rfl) (by decide) (by rfl) ?_)) | ((with_reducible show wpAny _ _ (compareOp CmpOp.Eq (Value.ref _) (Value.ref _)) _ _ _); k_dflt (refine' eq_cons_nil ?N ?m1 ?m2 ?hu ?_; (case N => k_asm); (case m1 => k_mem); (case m2 => k_mem); (case hu => k_units); k_whole)) | ((with_reducible show wpAny _ _ (pyIter (Value.ref _)) (fun it s₂ => LoopAtV _ _ _ _ _ _ _ _ _ it s₂) _ _); (k_dflt (refine' iter_top ?hh ?hl ?hi ?hb ?h0 ?hne ?F ?N ?hm ?hsub ?hy ?turn ?done; (case hh => rfl); (case hi => assumption); (case hb => assumption); (case hl => assumption); (case F => k_asm); (case N => k_asm); (case hy => assumption); (case h0 => exact List.Mem.head _); (case hm => k_mem); (case hsub => exact fun p hp => by repeat (first | exact hp | refine List.mem_cons_of_mem _ ?_)); (case hne => k_all); k_whole)); (case' turn => (intro n' t' a' ta' o' h' tk' own' b1 b2 b3 b4 d1 n1 F' N'; (try k_fold))); (case' done => (intro u' t' o' h' tk' d1 F' N'; (try k_fold)))) | ((with_reducible show wpAny _ _ (exec (Stmt.For (PySem.Expr.Name _ _) (PySem.Expr.Name _ _) _ _ _) _) _ _ _); (rename Fr _ _ _ _ => lF'); (with_unfolding_all refine' For_invVF lF' ?k1 ?k2 ?_; (case k1 => exact rfl); (case k2 => exact rfl); k_whole)) | ((with_reducible show wpAny _ _ (call (Value.ref 262) _) _ _ _); k_dflt (refine' read_use ?ih ?B ?F ?X ?N ?T ?hf ?hke ?hdp ?hun ?hs ?_; (case ih => assumption); (case B => k_asm); (case F => k_asm); (case X => k_asm); (case N => k_asm); (case T => k_asm); (case hf => rfl); (case hke => rfl); (case hdp => k_room); (case hun => k_units); (case hs => repeat (first | assumption | refine Sub.app ?_ | refine Sub.cons ?_)); k_whole); intro h' tk' T' e' F' N'; (try k_sweep)) | walk1) | (leave1; walk_say "STEP leave1"; try dsimp only) | skip)
  · refine hret _ _ (.node _ _ _ _ _) (due_end (by assumption) (by assumption)) (by assumption) (tt_news (by assumption) (by k_mem) ?_ ?_ ?_)
    all_goals repeat (first | assumption | exact Sub.left _ _ | exact Sub.refl _ | refine Sub.app ?_ | refine Sub.cons ?_)
  · repeat' (first | (k_unfold; (try dsimp only)) | (k_end; wrow_close) | ((with_reducible show wpAny _ _ (call (Value.ref 267) _) _ _ _); k_dflt (refine' due_use ?ih ?B ?F ?X ?N ?T ?hf ?hke ?hdp ?hun ?mk ?mc ?ik ?ic ?hb ?hl ?h64 ?hf64 ?_; (case ih => assumption); (case B => k_asm); (case F => k_asm); (case X => k_asm); (case N => k_asm); (case T => k_asm); (case hf => rfl); (case hke => rfl); (case hdp => k_room); (case hun => k_units); (case mk => k_mem); (case mc => k_mem); (case ik => assumption); (case ic => assumption); (case hb => exact allIn_filter (by assumption)); (case hl => first | exact due_lt (List.Mem.head _) (by assumption) | exact due_gt (List.Mem.head _) (by assumption)); (case h64 => assumption); (case hf64 => omega); k_whole); intro h' tk' T' e' F' N'; (try k_sweep)) | ((with_reducible show LCt.CompSrcT _ _ _ _ _ _ _ _ _ _ _ _ _ _ _); k_dflt (refine' comp_gt ?hh ?F ?N ?hm ?hi ?hlen ?hd ?mT ?hk ?hl ?hf ?hc ?_; (case hh => rfl); (case F => k_asm); (case N => k_asm); (case hm => k_mem); (case hi => assumption); (case hlen => exact Nat.le_trans (by assumption) (by assumption)); (case hd => assumption); (case mT => k_mem); (case hk => exact fun _ => rfl); (case hl => exact fun _ => rfl); (case hf => exact fun _ => rfl); (case hc => rfl); k_whole); intro gC yC iC) | ((with_reducible show LCt.CompSrcT _ _ _ _ _ _ _ _ _ _ _ _ _ _ _); k_dflt (refine' comp_lt ?hh ?F ?N ?hm ?hi ?hlen ?hd ?mT ?hk ?hl ?hf ?hc ?_; (case hh => rfl); (case F => k_asm); (case N => k_asm); (case hm => k_mem); (case hi => assumption); (case hlen => exact Nat.le_trans (by assumption) (by assumption)); (case hd => assumption); (case mT => k_mem); (case hk => exact fun _ => rfl); (case hl => exact fun _ => rfl); (case hf => exact fun _ => rfl); (case hc => rfl); k_whole); intro gC yC iC) | ((with_reducible show wpAny _ _ (eval (PySem.Expr.ListComp _ _ _ _) _) _ _ _); k_dflt (refine LCt.ListComp_T (F₀ := by k_asm) (by with_unfolding_all rfl) (by decide) (by rfl) (by decide) (by rfl) ?_)) | ((with_reducible show wpAny _ _ (compareOp CmpOp.Eq (Value.ref _) (Value.ref _)) _ _ _); k_dflt (refine' eq_cons_nil ?N ?m1 ?m2 ?hu ?_; (case N => k_asm); (case m1 => k_mem); (case m2 => k_mem); (case hu => k_units); k_whole)) | ((with_reducible show wpAny _ _ (pyIter (Value.ref _)) (fun it s₂ => LoopAtV _ _ _ _ _ _ _ _ _ it s₂) _ _); (k_dflt (refine' iter_top ?hh ?hl ?hi ?hb ?h0 ?hne ?F ?N ?hm ?hsub ?hy ?turn ?done; (case hh => rfl); (case hi => assumption); (case hb => assumption); (case hl => assumption); (case F => k_asm); (case N => k_asm); (case hy => assumption); (case h0 => exact List.Mem.head _); (case hm => k_mem); (case hsub => exact fun p hp => by repeat (first | exact hp | refine List.mem_cons_of_mem _ ?_)); (case hne => k_all); k_whole)); (case' turn => (intro n' t' a' ta' o' h' tk' own' b1 b2 b3 b4 d1 n1 F' N'; (try k_fold))); (case' done => (intro u' t' o' h' tk' d1 F' N'; (try k_fold)))) | ((with_reducible show wpAny _ _ (exec (Stmt.For (PySem.Expr.Name _ _) (PySem.Expr.Name _ _) _ _ _) _) _ _ _); (rename Fr _ _ _ _ => lF'); (with_unfolding_all refine' For_invVF lF' ?k1 ?k2 ?_; (case k1 => exact rfl); (case k2 => exact rfl); k_whole)) | ((with_reducible show wpAny _ _ (call (Value.ref 262) _) _ _ _); k_dflt (refine' read_use ?ih ?B ?F ?X ?N ?T ?hf ?hke ?hdp ?hun ?hs ?_; (case ih => assumption); (case B => k_asm); (case F => k_asm); (case X => k_asm); (case N => k_asm); (case T => k_asm); (case hf => rfl); (case hke => rfl); (case hdp => k_room); (case hun => k_units); (case hs => repeat (first | assumption | refine Sub.app ?_ | refine Sub.cons ?_)); k_whole); intro h' tk' T' e' F' N'; (try k_sweep)) | walk1 | (dsimp only; first | ((with_reducible show wpAny _ _ (call (Value.ref 267) _) _ _ _); k_dflt (refine' due_use ?ih ?B ?F ?X ?N ?T ?hf ?hke ?hdp ?hun ?mk ?mc ?ik ?ic ?hb ?hl ?h64 ?hf64 ?_; (case ih => assumption); (case B => k_asm); (case F => k_asm); (case X => k_asm); (case N => k_asm); (case T => k_asm); (case hf => rfl); (case hke => rfl); (case hdp => k_room); (case hun => k_units); (case mk => k_mem); (case mc => k_mem); (case ik => assumption); (case ic => assumption); (case hb => exact allIn_filter (by assumption)); (case hl => first | exact due_lt (List.Mem.head _) (by assumption) | exact due_gt (List.Mem.head _) (by assumption)); (case h64 => assumption); (case hf64 => omega); k_whole); intro h' tk' T' e' F' N'; (try k_sweep)) | ((with_reducible show LCt.CompSrcT _ _ _ _ _ _ _ _ _ _ _ _ _ _ _); k_dflt (refine' comp_gt ?hh ?F ?N ?hm ?hi ?hlen ?hd ?mT ?hk ?hl ?hf ?hc ?_; (case hh => rfl); (case F => k_asm); (case N => k_asm); (case hm => k_mem); (case hi => assumption); (case hlen => exact Nat.le_trans (by assumption) (by assumption)); (case hd => assumption); (case mT => k_mem); (case hk => exact fun _ => rfl); (case hl => exact fun _ => rfl); (case hf => exact fun _ => rfl); (case hc => rfl); k_whole); intro gC yC iC) | ((with_reducible show LCt.CompSrcT _ _ _ _ _ _ _ _ _ _ _ _ _ _ _); k_dflt (refine' comp_lt ?hh ?F ?N ?hm ?hi ?hlen ?hd ?mT ?hk ?hl ?hf ?hc ?_; (case hh => rfl); (case F => k_asm); (case N => k_asm); (case hm => k_mem); (case hi => assumption); (case hlen => exact Nat.le_trans (by assumption) (by assumption)); (case hd => assumption); (case mT => k_mem); (case hk => exact fun _ => rfl); (case hl => exact fun _ => rfl); (case hf => exact fun _ => rfl); (case hc => rfl); k_whole); intro gC yC iC) | ((with_reducible show wpAny _ _ (eval (PySem.Expr.ListComp _ _ _ _) _) _ _ _); k_dflt (refine LCt.ListComp_T (F₀ := by k_asm) (by with_unfolding_all rfl) (by decide) (by rfl) (by decide) (by rfl) ?_)) | ((with_reducible show wpAny _ _ (compareOp CmpOp.Eq (Value.ref _) (Value.ref _)) _ _ _); k_dflt (refine' eq_cons_nil ?N ?m1 ?m2 ?hu ?_; (case N => k_asm); (case m1 => k_mem); (case m2 => k_mem); (case hu => k_units); k_whole)) | ((with_reducible show wpAny _ _ (pyIter (Value.ref _)) (fun it s₂ => LoopAtV _ _ _ _ _ _ _ _ _ it s₂) _ _); (k_dflt (refine' iter_top ?hh ?hl ?hi ?hb ?h0 ?hne ?F ?N ?hm ?hsub ?hy ?turn ?done; (case hh => rfl); (case hi => assumption); (case hb => assumption); (case hl => assumption); (case F => k_asm); (case N => k_asm); (case hy => assumption); (case h0 => exact List.Mem.head _); (case hm => k_mem); (case hsub => exact fun p hp => by repeat (first | exact hp | refine List.mem_cons_of_mem _ ?_)); (case hne => k_all); k_whole)); (case' turn => (intro n' t' a' ta' o' h' tk' own' b1 b2 b3 b4 d1 n1 F' N'; (try k_fold))); (case' done => (intro u' t' o' h' tk' d1 F' N'; (try k_fold)))) | ((with_reducible show wpAny _ _ (exec (Stmt.For (PySem.Expr.Name _ _) (PySem.Expr.Name _ _) _ _ _) _) _ _ _); (rename Fr _ _ _ _ => lF'); (with_unfolding_all refine' For_invVF lF' ?k1 ?k2 ?_; (case k1 => exact rfl); (case k2 => exact rfl); k_whole)) | ((with_reducible show wpAny _ _ (call (Value.ref 262) _) _ _ _); k_dflt (refine' read_use ?ih ?B ?F ?X ?N ?T ?hf ?hke ?hdp ?hun ?hs ?_; (case ih => assumption); (case B => k_asm); (case F => k_asm); (case X => k_asm); (case N => k_asm); (case T => k_asm); (case hf => rfl); (case hke => rfl); (case hdp => k_room); (case hun => k_units); (case hs => repeat (first | assumption | refine Sub.app ?_ | refine Sub.cons ?_)); k_whole); intro h' tk' T' e' F' N'; (try k_sweep)) | walk1) | (leave1; walk_say "STEP leave1"; try dsimp only) | fail "no step")
    all_goals exact top_post (by assumption) (by assumption) (by assumption) (by k_mem) (by assumption) (fun p hp => List.mem_cons_of_mem _ (List.mem_append.mpr (.inl hp))) (fun p hp => List.mem_cons_of_mem _ (List.mem_append.mpr (.inr hp))) (fun z hz => if_neg hz) (by unfold gTop; first | rw [if_pos (by assumption)] | rw [if_neg (by assumption)])

theorem due_zero (w : World) : DueOK w 0 := by
  intro dp un gd env outer A₀ base h₀ L m mg mb mean vq vl s Q E news lk lc vk vc nk nc ks cs B F X N T hf hke hdp hun mk mc ik ic hb hl h64 hf64 hret
  cases ik with
  | nil => exact due_nil B F X N T hf hke hdp hun mk hret
  | cons => simp at hl
theorem due_succ (w : World) (fuel : Nat) (ih : DueOK w fuel) : DueOK w (fuel + 1) := by
  intro dp un gd env outer A₀ base h₀ L m mg mb mean vq vl s Q E news lk lc vk vc nk nc ks cs B F X N T hf hke hdp hun mk mc ik ic hb hl h64 hf64 hret
  cases ik with
  | nil => exact due_nil B F X N T hf hke hdp hun mk hret
  | cons k tk0 ik' => exact due_cons ih B F X N T hf hke hdp hun mk mc ic (.cons k tk0 ik') hb hl h64 hf64 hret
theorem due_spec (w : World) (fuel : Nat) : DueOK w fuel := by
  induction fuel with
  | zero => exact due_zero w
  | succ n ih => exact due_succ w n ih

end

/-! the plain law: one tree only for given keys and chances -/
inductive Sh.In (x : Int) : Sh → Prop
  | here {l r} : Sh.In x (.node x l r)
  | left {k l r} : Sh.In x l → Sh.In x (.node k l r)
  | right {k l r} : Sh.In x r → Sh.In x (.node k l r)
/-- lesser keys left, greater right, the greatest chance on top -/
inductive Good (cs : List Int) : Sh → Prop
  | leaf : Good cs .leaf
  | node {k l r} : Good cs l → Good cs r → (∀ x, Sh.In x l → x < k ∧ cs.getD x.toNat 0 < cs.getD k.toNat 0) → (∀ x, Sh.In x r → k < x ∧ cs.getD x.toNat 0 < cs.getD k.toNat 0) → Good cs (.node k l r)
theorem in_node {x k : Int} {l r : Sh} : Sh.In x (.node k l r) ↔ x = k ∨ Sh.In x l ∨ Sh.In x r := by
  constructor
  · intro h
    cases h with
    | here => exact .inl rfl
    | left h => exact .inr (.inl h)
    | right h => exact .inr (.inr h)
  · rintro (rfl | h | h)
    · exact .here
    · exact .left h
    · exact .right h
theorem not_in_leaf {x : Int} (h : Sh.In x .leaf) : False := by cases h
theorem good_unique (cs : List Int) : ∀ (a b : Sh), Good cs a → Good cs b → (∀ x, Sh.In x a ↔ Sh.In x b) → a = b := by
  intro a
  induction a with
  | leaf =>
    intro b _ _ h
    cases b with
    | leaf => rfl
    | node k l r => exact (not_in_leaf ((h k).mpr .here)).elim
  | node k l r ihl ihr =>
    intro b ga gb h
    cases b with
    | leaf => exact (not_in_leaf ((h k).mp .here)).elim
    | node k' l' r' =>
      cases ga with
      | node gl gr hl hr =>
        cases gb with
        | node gl' gr' hl' hr' =>
          have hk : k = k' := by
            have h1 := in_node.mp ((h k).mp .here)
            have h2 := in_node.mp ((h k').mpr .here)
            rcases h1 with e | h1 | h1
            · exact e
            · rcases h2 with e | h2 | h2
              · exact e.symm
              · have := (hl' k h1).2; have := (hl k' h2).2; omega
              · have := (hl' k h1).2; have := (hr k' h2).2; omega
            · rcases h2 with e | h2 | h2
              · exact e.symm
              · have := (hr' k h1).2; have := (hl k' h2).2; omega
              · have := (hr' k h1).2; have := (hr k' h2).2; omega
          subst hk
          have el : l = l' := ihl l' gl gl' fun x => by
            constructor
            · intro hx
              have h1 := hl x hx
              rcases in_node.mp ((h x).mp (.left hx)) with e | q | q
              · omega
              · exact q
              · have := hr' x q; omega
            · intro hx
              have h1 := hl' x hx
              rcases in_node.mp ((h x).mpr (.left hx)) with e | q | q
              · omega
              · exact q
              · have := hr x q; omega
          have er : r = r' := ihr r' gr gr' fun x => by
            constructor
            · intro hx
              have h1 := hr x hx
              rcases in_node.mp ((h x).mp (.right hx)) with e | q | q
              · omega
              · have := hl' x q; omega
              · exact q
            · intro hx
              have h1 := hr' x hx
              rcases in_node.mp ((h x).mpr (.right hx)) with e | q | q
              · omega
              · have := hl x q; omega
              · exact q
          rw [el, er]

/-- chances unlike -/
noncomputable def Inj (cs ks : List Int) : Prop := ∀ x ∈ ks, ∀ y ∈ ks, cs.getD x.toNat 0 = cs.getD y.toNat 0 → x = y
theorem foldTop_ge (cs : List Int) : ∀ (ks : List Int) (a : Int), cs.getD a.toNat 0 ≤ cs.getD (ks.foldl (gTop cs) a).toNat 0 ∧ ∀ k ∈ ks, cs.getD k.toNat 0 ≤ cs.getD (ks.foldl (gTop cs) a).toNat 0
  | [], a => ⟨Int.le_refl _, fun _ h => nomatch h⟩
  | k :: r, a => by
    have ih := foldTop_ge cs r (gTop cs a k)
    have hg : cs.getD a.toNat 0 ≤ cs.getD (gTop cs a k).toNat 0 ∧ cs.getD k.toNat 0 ≤ cs.getD (gTop cs a k).toNat 0 := by
      unfold gTop; split <;> omega
    refine ⟨?_, fun x hx => ?_⟩
    · show _ ≤ cs.getD (r.foldl (gTop cs) (gTop cs a k)).toNat 0
      omega
    · show _ ≤ cs.getD (r.foldl (gTop cs) (gTop cs a k)).toNat 0
      rcases List.mem_cons.mp hx with rfl | hx
      · omega
      · exact ih.2 x hx
theorem due_good (cs : List Int) : ∀ (fuel : Nat) (ks : List Int), ks.length ≤ fuel → Inj cs ks → Good cs (due cs fuel ks) ∧ ∀ x, Sh.In x (due cs fuel ks) ↔ x ∈ ks := by
  intro fuel
  induction fuel with
  | zero =>
    intro ks h _
    cases ks with
    | nil => exact ⟨.leaf, fun x => ⟨fun h => (not_in_leaf h).elim, fun h => nomatch h⟩⟩
    | cons => simp at h
  | succ n ih =>
    intro ks h hinj
    cases ks with
    | nil => exact ⟨.leaf, fun x => ⟨fun h => (not_in_leaf h).elim, fun h => nomatch h⟩⟩
    | cons k r =>
      have hm : topOf cs k (k :: r) ∈ k :: r := foldTop_mem cs (k :: r) k (.head _) fun x hx => hx
      have hge := (foldTop_ge cs (k :: r) k).2
      have h1 := ih ((k :: r).filter fun x => decide (x < topOf cs k (k :: r))) (due_lt (.head _) h) fun x hx y hy => hinj x (List.mem_filter.mp hx).1 y (List.mem_filter.mp hy).1
      have h2 := ih ((k :: r).filter fun x => decide (topOf cs k (k :: r) < x)) (due_gt (.head _) h) fun x hx y hy => hinj x (List.mem_filter.mp hx).1 y (List.mem_filter.mp hy).1
      have lt : ∀ x ∈ k :: r, x ≠ topOf cs k (k :: r) → cs.getD x.toNat 0 < cs.getD (topOf cs k (k :: r)).toNat 0 := fun x hx hne => by
        have a := hge x hx
        have b : cs.getD x.toNat 0 ≠ cs.getD (topOf cs k (k :: r)).toNat 0 := fun e => hne (hinj x hx _ hm e)
        unfold topOf at b ⊢
        omega
      refine ⟨.node h1.1 h2.1 (fun x hx => ?_) (fun x hx => ?_), fun x => ?_⟩
      · have q := List.mem_filter.mp ((h1.2 x).mp hx)
        have q2 : x < topOf cs k (k :: r) := by simpa using q.2
        exact ⟨q2, lt x q.1 (by omega)⟩
      · have q := List.mem_filter.mp ((h2.2 x).mp hx)
        have q2 : topOf cs k (k :: r) < x := by simpa using q.2
        exact ⟨q2, lt x q.1 (by omega)⟩
      · show Sh.In x (.node (topOf cs k (k :: r)) _ _) ↔ _
        rw [in_node, h1.2, h2.2, List.mem_filter, List.mem_filter]
        constructor
        · rintro (rfl | q | q)
          · exact hm
          · exact q.1
          · exact q.1
        · intro hx
          by_cases e : x = topOf cs k (k :: r)
          · exact .inl e
          · by_cases l : x < topOf cs k (k :: r)
            · exact .inr (.inl ⟨hx, by simpa using l⟩)
            · exact .inr (.inr ⟨hx, by simp; omega⟩)

/-- a tree's chances are those of the list -/
inductive Fits (cs : List Int) : Tr → Prop
  | leaf {t} : Fits cs (.leaf t)
  | node {z k c tk tc nv l r} : c = cs.getD k.toNat 0 → Fits cs l → Fits cs r → Fits cs (.node z k c tk tc nv l r)
theorem or5 {a b c d e : Prop} : (a ∨ b ∨ c ∨ d ∨ e) ↔ (c ∨ (a ∨ b ∨ d) ∨ e) :=
  ⟨fun h => h.elim (fun x => .inr (.inl (.inl x))) fun h => h.elim (fun x => .inr (.inl (.inr (.inl x)))) fun h => h.elim .inl fun h => h.elim (fun x => .inr (.inl (.inr (.inr x)))) fun x => .inr (.inr x),
    fun h => h.elim (fun x => .inr (.inr (.inl x))) fun h => h.elim (fun h => h.elim .inl fun h => h.elim (fun x => .inr (.inl x)) fun x => .inr (.inr (.inr (.inl x)))) fun x => .inr (.inr (.inr (.inr x)))⟩
theorem or5' {a b c d e : Prop} : (a ∨ (b ∨ c ∨ d) ∨ e) ↔ (b ∨ c ∨ (a ∨ d ∨ e)) :=
  ⟨fun h => h.elim (fun x => .inr (.inr (.inl x))) fun h => h.elim (fun h => h.elim .inl fun h => h.elim (fun x => .inr (.inl x)) fun x => .inr (.inr (.inr (.inl x)))) fun x => .inr (.inr (.inr (.inr x))),
    fun h => h.elim (fun x => .inr (.inl (.inl x))) fun h => h.elim (fun x => .inr (.inl (.inr (.inl x)))) fun h => h.elim .inl fun h => h.elim (fun x => .inr (.inl (.inr (.inr x)))) fun x => .inr (.inr x)⟩
theorem upL_size (z : Nd) (k c : Int) (tk tc : Tok) (nv : Nat) (r : Tr) : ∀ t : Tr, (upL z k c tk tc nv r t).size = t.size + r.size + 1
  | .leaf _ => rfl
  | .node z' k' c' tk' tc' nv' l' r' => by
    rw [upL]
    split
    · rfl
    · simp only [Tr.size]; omega
theorem upR_size (z : Nd) (k c : Int) (tk tc : Tok) (nv : Nat) (l : Tr) : ∀ t : Tr, (upR z k c tk tc nv l t).size = l.size + t.size + 1
  | .leaf _ => rfl
  | .node z' k' c' tk' tc' nv' l' r' => by
    rw [upR]
    split
    · rfl
    · simp only [Tr.size]; omega
theorem ins_size (b : Bn) : ∀ t : Tr, (ins b t).size = t.size + 1
  | .leaf _ => rfl
  | .node z k c tk tc nv l r => by
    rw [ins]
    split
    · rw [upL_size, ins_size b l, Nat.add_right_comm l.size 1 r.size]; rfl
    · rw [upR_size, ins_size b r]; rfl
theorem upL_in (x : Int) (z : Nd) (k c : Int) (tk tc : Tok) (nv : Nat) (r : Tr) : ∀ t : Tr, Sh.In x (upL z k c tk tc nv r t).sh ↔ x = k ∨ Sh.In x t.sh ∨ Sh.In x r.sh
  | .leaf _ => in_node
  | .node z' k' c' tk' tc' nv' l' r' => by
    rw [upL]
    split
    · exact in_node
    · simp only [Tr.sh, in_node]
      exact or5
theorem upR_in (x : Int) (z : Nd) (k c : Int) (tk tc : Tok) (nv : Nat) (l : Tr) : ∀ t : Tr, Sh.In x (upR z k c tk tc nv l t).sh ↔ x = k ∨ Sh.In x l.sh ∨ Sh.In x t.sh
  | .leaf _ => in_node
  | .node z' k' c' tk' tc' nv' l' r' => by
    rw [upR]
    split
    · exact in_node
    · simp only [Tr.sh, in_node]
      exact or5'
theorem ins_in (b : Bn) (x : Int) : ∀ t : Tr, Sh.In x (ins b t).sh ↔ x = b.k ∨ Sh.In x t.sh
  | .leaf _ => in_node.trans (or_congr_right (or_iff_left not_in_leaf))
  | .node z k c tk tc nv l r => by
    rw [ins]
    show _ ↔ x = b.k ∨ Sh.In x (.node k l.sh r.sh)
    rw [in_node]
    split
    · rw [upL_in, ins_in b x l, or_assoc, or_left_comm]
    · rw [upR_in, ins_in b x r, or_left_comm (a := Sh.In x l.sh), or_left_comm]
theorem ins_fits {cs : List Int} {b : Bn} (hb : b.c = cs.getD b.k.toNat 0) : ∀ {t : Tr}, Fits cs t → Fits cs (ins b t)
  | .leaf _, _ => .node hb .leaf .leaf
  | .node z k c tk tc nv l r, h => by
    cases h with
    | node hc hl hr =>
      have h1 := ins_fits hb hl
      have h2 := ins_fits hb hr
      unfold ins
      split
      · obtain ⟨z', k', c', tt', tc', nv', l', r', e⟩ := ins_node b l
        rw [e] at h1 ⊢
        cases h1 with
        | node hc' hl' hr' =>
          by_cases q : c' < c
          · simp only [upL, q, if_true]; exact .node hc (.node hc' hl' hr') hr
          · simp only [upL, q, if_false]; exact .node hc' hl' (.node hc hr' hr)
      · obtain ⟨z', k', c', tt', tc', nv', l', r', e⟩ := ins_node b r
        rw [e] at h2 ⊢
        cases h2 with
        | node hc' hl' hr' =>
          by_cases q : c' < c
          · simp only [upR, q, if_true]; exact .node hc hl (.node hc' hl' hr')
          · simp only [upR, q, if_false]; exact .node hc' (.node hc hl hl') hr'

theorem ins_good {cs : List Int} {b : Bn} (hb : b.c = cs.getD b.k.toNat 0) : ∀ {t : Tr}, Fits cs t → Good cs t.sh → (∀ x, Sh.In x t.sh → x ≠ b.k ∧ cs.getD x.toNat 0 ≠ cs.getD b.k.toNat 0) → Good cs (ins b t).sh
  | .leaf _, _, _, _ => .node .leaf .leaf (fun x h => (not_in_leaf h).elim) (fun x h => (not_in_leaf h).elim)
  | .node z k c tk tc nv l r, hf, hg, hne => by
    cases hf with
    | node hc hfl hfr =>
      have hg' : Good cs (.node k l.sh r.sh) := hg
      cases hg' with
      | node gl gr hl hr =>
        have hk := hne k .here
        by_cases hlt : b.k < k
        · have ih := ins_good hb hfl gl fun x hx => hne x (.left hx)
          have hin := fun x => ins_in b x l
          have hft := ins_fits hb hfl
          obtain ⟨z', k', c', tt', tc', nv', l', r', e⟩ := ins_node b l
          have er : ins b (.node z k c tk tc nv l r) = upL z k c tk tc nv r (ins b l) := by show (if b.k < k then _ else _) = _; rw [if_pos hlt]
          rw [er]
          rw [e] at ih hin hft ⊢
          have ih' : Good cs (.node k' l'.sh r'.sh) := ih
          cases ih' with
          | node gl' gr' hl' hr' =>
            cases hft with
            | node hc' hfl' hfr' =>
              have mem : ∀ x, Sh.In x (.node k' l'.sh r'.sh) ↔ x = b.k ∨ Sh.In x l.sh := hin
              have below : ∀ x, Sh.In x (.node k' l'.sh r'.sh) → x < k := fun x hx => by
                rcases (mem x).mp hx with q | q
                · rw [q]; exact hlt
                · exact (hl x q).1
              by_cases q : c' < c
              · simp only [upL, q, if_true]
                refine .node ih gr (fun x hx => ⟨below x hx, ?_⟩) hr
                rw [← hc]
                have q' : cs.getD k'.toNat 0 < c := by rw [← hc']; exact q
                have hx' := in_node.mp (show Sh.In x (.node k' l'.sh r'.sh) from hx)
                rcases hx' with e1 | e1 | e1
                · subst e1; exact q'
                · exact Int.lt_trans (hl' x e1).2 q'
                · exact Int.lt_trans (hr' x e1).2 q'
              · simp only [upL, q, if_false]
                have q' : cs.getD k.toNat 0 ≤ cs.getD k'.toNat 0 := by rw [← hc, ← hc']; exact Int.not_lt.mp q
                have kk : k' = b.k := by
                  rcases (mem k').mp .here with e1 | e1
                  · exact e1
                  · exact absurd (hl k' e1).2 (Int.not_lt.mpr q')
                have top : cs.getD k.toNat 0 < cs.getD k'.toNat 0 := Int.lt_iff_le_and_ne.mpr (And.intro q' (by rw [kk]; exact hk.2))
                have inr : ∀ x, Sh.In x r'.sh → Sh.In x l.sh := fun x hx => by
                  rcases (mem x).mp (.right hx) with e1 | e1
                  · exact absurd (hr' x hx).1 (by rw [e1, kk]; exact Int.lt_irrefl _)
                  · exact e1
                refine .node gl' (.node gr' gr (fun x hx => hl x (inr x hx)) hr) hl' (fun x hx => ?_)
                rcases in_node.mp (show Sh.In x (.node k r'.sh r.sh) from hx) with e1 | e1 | e1
                · subst e1; exact ⟨by rw [kk]; exact hlt, top⟩
                · exact hr' x e1
                · exact ⟨Int.lt_trans (by rw [kk]; exact hlt) (hr x e1).1, Int.lt_trans (hr x e1).2 top⟩
        · have ih := ins_good hb hfr gr fun x hx => hne x (.right hx)
          have hin := fun x => ins_in b x r
          have hft := ins_fits hb hfr
          have hgt : k < b.k := Int.lt_iff_le_and_ne.mpr (And.intro (Int.not_lt.mp hlt) hk.1)
          obtain ⟨z', k', c', tt', tc', nv', l', r', e⟩ := ins_node b r
          have er : ins b (.node z k c tk tc nv l r) = upR z k c tk tc nv l (ins b r) := by show (if b.k < k then _ else _) = _; rw [if_neg hlt]
          rw [er]
          rw [e] at ih hin hft ⊢
          have ih' : Good cs (.node k' l'.sh r'.sh) := ih
          cases ih' with
          | node gl' gr' hl' hr' =>
            cases hft with
            | node hc' hfl' hfr' =>
              have mem : ∀ x, Sh.In x (.node k' l'.sh r'.sh) ↔ x = b.k ∨ Sh.In x r.sh := hin
              have above : ∀ x, Sh.In x (.node k' l'.sh r'.sh) → k < x := fun x hx => by
                rcases (mem x).mp hx with q | q
                · rw [q]; exact hgt
                · exact (hr x q).1
              by_cases q : c' < c
              · simp only [upR, q, if_true]
                refine .node gl ih hl (fun x hx => ⟨above x hx, ?_⟩)
                rw [← hc]
                have q' : cs.getD k'.toNat 0 < c := by rw [← hc']; exact q
                have hx' := in_node.mp (show Sh.In x (.node k' l'.sh r'.sh) from hx)
                rcases hx' with e1 | e1 | e1
                · subst e1; exact q'
                · exact Int.lt_trans (hl' x e1).2 q'
                · exact Int.lt_trans (hr' x e1).2 q'
              · simp only [upR, q, if_false]
                have q' : cs.getD k.toNat 0 ≤ cs.getD k'.toNat 0 := by rw [← hc, ← hc']; exact Int.not_lt.mp q
                have kk : k' = b.k := by
                  rcases (mem k').mp .here with e1 | e1
                  · exact e1
                  · exact absurd (hr k' e1).2 (Int.not_lt.mpr q')
                have top : cs.getD k.toNat 0 < cs.getD k'.toNat 0 := Int.lt_iff_le_and_ne.mpr (And.intro q' (by rw [kk]; exact hk.2))
                have inl : ∀ x, Sh.In x l'.sh → Sh.In x r.sh := fun x hx => by
                  rcases (mem x).mp (.left hx) with e1 | e1
                  · exact absurd (hl' x hx).1 (by rw [e1, kk]; exact Int.lt_irrefl _)
                  · exact e1
                refine .node (.node gl gl' hl (fun x hx => hr x (inl x hx))) gr' (fun x hx => ?_) hr'
                rcases in_node.mp (show Sh.In x (.node k l.sh l'.sh) from hx) with e1 | e1 | e1
                · subst e1; exact ⟨by rw [kk]; exact hgt, top⟩
                · exact ⟨Int.lt_trans (hl x e1).1 (by rw [kk]; exact hgt), Int.lt_trans (hl x e1).2 top⟩
                · exact hl' x e1
/-- what a tree that was built of keys ks is -/
structure Built (cs ks : List Int) (t : Tr) : Prop where
  fits : Fits cs t
  good : Good cs t.sh
  mem : ∀ x, Sh.In x t.sh ↔ x ∈ ks
  size : t.size = ks.length
theorem built_nil (cs : List Int) (t : Tok) : Built cs [] (.leaf t) := ⟨.leaf, .leaf, fun x => ⟨fun h => (not_in_leaf h).elim, fun h => nomatch h⟩, rfl⟩
theorem built_ins {cs ks : List Int} {t : Tr} {b : Bn} (h : Built cs ks t) (hb : b.c = cs.getD b.k.toNat 0) (hn : b.k ∉ ks) (hi : Inj cs (ks ++ [b.k])) : Built cs (ks ++ [b.k]) (ins b t) := by
  refine ⟨ins_fits hb h.fits, ins_good hb h.fits h.good fun x hx => ?_, fun x => ?_, ?_⟩
  · have hx' := (h.mem x).mp hx
    have ne : x ≠ b.k := fun e => hn (e ▸ hx')
    exact ⟨ne, fun e => ne (hi x (by simp [hx']) b.k (by simp) e)⟩
  · rw [ins_in, h.mem, List.mem_append, List.mem_singleton]; exact Or.comm
  · rw [ins_size, h.size, List.length_append, List.length_singleton]
theorem built_due {cs ks : List Int} {t : Tr} (h : Built cs ks t) (hi : Inj cs ks) {fuel : Nat} (hl : ks.length ≤ fuel) : t.sh = due cs fuel ks :=
  have d := due_good cs fuel ks hl hi
  good_unique cs _ _ h.good d.1 fun x => (h.mem x).trans (d.2 x).symm
theorem built_one {cs ks ks' : List Int} {t t' : Tr} (h : Built cs ks t) (h' : Built cs ks' t') (p : ∀ x, x ∈ ks ↔ x ∈ ks') : t.sh = t'.sh :=
  good_unique cs _ _ h.good h'.good fun x => (h.mem x).trans ((p x).trans (h'.mem x).symm)
theorem inj_perm {n : Nat} {cs : List Int} (h : cs.Perm ((List.range n).map Int.ofNat)) {ks : List Int} (hk : ∀ k ∈ ks, 0 ≤ k ∧ k < (n : Int)) : Inj cs ks := by
  intro x hx y hy e
  have hl : cs.length = n := by rw [h.length_eq]; simp
  have nd : cs.Nodup := h.nodup_iff.mpr (List.Pairwise.map Int.ofNat (fun a b hab e => hab (Int.ofNat.inj e)) List.nodup_range)
  have hx1 := hk x hx
  have hy1 := hk y hy
  have a1 : x.toNat < cs.length := by omega
  have a2 : y.toNat < cs.length := by omega
  rw [List.getD_eq_getElem?_getD, List.getD_eq_getElem?_getD, List.getElem?_eq_getElem a1, List.getElem?_eq_getElem a2, Option.getD_some, Option.getD_some] at e
  have pw := List.pairwise_iff_getElem.mp nd
  rcases Nat.lt_trichotomy x.toNat y.toNat with q | q | q
  · exact absurd e (pw _ _ a1 a2 q)
  · omega
  · exact absurd e.symm (pw _ _ a2 a1 q)

noncomputable def Sh.data : Sh → PyData
  | .leaf => .str (Str.ofString "")
  | .node k l r => .tuple [l.data, .int k, r.data]
noncomputable def Sh.size : Sh → Nat
  | .leaf => 0
  | .node _ l r => l.size + r.size + 1
theorem sh_lay : ∀ a : Sh, a.data.canLay0 = true
  | .leaf => by simp only [Sh.data, PyData.canLay0]; decide +kernel
  | .node k l r => by simp only [Sh.data, PyData.canLay0, PyData.canLayAll0, sh_lay l, sh_lay r, Bool.and_self]
theorem sh_depth : ∀ a : Sh, a.data.depth ≤ a.size
  | .leaf => Nat.le_refl _
  | .node k l r => by
    have h1 := sh_depth l
    have h2 := sh_depth r
    simp only [Sh.data, PyData.depth, PyData.depthAll, Sh.size]
    omega
theorem tr_size : ∀ t : Tr, t.sh.size = t.size
  | .leaf _ => rfl
  | .node _ _ _ _ _ _ l r => by simp only [Tr.sh, Sh.size, Tr.size, tr_size l, tr_size r]
theorem tt_reads {h : Heap} : ∀ T : TT, (∀ p ∈ T.led, h.get? p.1 = some p.2) → ∃ as, Reads h T.val T.sh.data as
  | .leaf t, _ => ⟨[], .str _ t⟩
  | .node a k tk l r, hp => by
    obtain ⟨as, h1⟩ := tt_reads l fun p hq => hp p (by simp only [TT.led, List.mem_cons, List.mem_append, hq, true_or, or_true])
    obtain ⟨bs, h2⟩ := tt_reads r fun p hq => hp p (by simp only [TT.led, List.mem_cons, List.mem_append, hq, true_or, or_true])
    exact ⟨_, .tuple (hp (a, tupO [l.val, .int k tk, r.val]) (by simp only [TT.led, List.mem_cons, true_or])) rfl rfl (.cons h1 (.cons (.int k tk) (.cons h2 .nil)))⟩
theorem ne_tt {prog : Program} {w : World} {A : Around} {s : Shared} {h₀ : Heap} {L : Addr} {news : List (Addr × Obj)} {T1 T2 : TT} {Q E : Value → Shared → Prop}
    (N : News h₀ L s.heap news) (s1 : Sub T1.led news) (s2 : Sub T2.led news) (e : T1.sh = T2.sh) (hsz : T1.sh.size ≤ 6) (hu : A.units + 6 < cLine) (h : Q (.bool false) s) : wpAny (model prog w) A (compareOp .NotEq T1.val T2.val) Q E s := by
  obtain ⟨as, r1⟩ := tt_reads (h := s.heap) T1 fun p hp => (N p (s1 p hp)).1
  obtain ⟨bs, r2⟩ := tt_reads (h := s.heap) T2 fun p hp => (N p (s2 p hp)).1
  rw [← e] at r2
  refine cmp_ofNotEq (PySem.SeqAt.neOverData prog w A E s _ _ _ _ as bs Q r1 r2 (sh_lay _) (sh_lay _) ?_ ?_)
  · have := sh_depth T1.sh; omega
  · rw [PySem.SeqAt.eqv_refl _ (sh_lay _)]; exact h
theorem eq_tt {prog : Program} {w : World} {A : Around} {s : Shared} {h₀ : Heap} {L : Addr} {news : List (Addr × Obj)} {T1 T2 : TT} {Q E : Value → Shared → Prop}
    (N : News h₀ L s.heap news) (s1 : Sub T1.led news) (s2 : Sub T2.led news) (e : T1.sh = T2.sh) (hsz : T1.sh.size ≤ 6) (hu : A.units + 6 < cLine) (h : Q (.bool true) s) : wpAny (model prog w) A (compareOp .Eq T1.val T2.val) Q E s := by
  obtain ⟨as, r1⟩ := tt_reads (h := s.heap) T1 fun p hp => (N p (s1 p hp)).1
  obtain ⟨bs, r2⟩ := tt_reads (h := s.heap) T2 fun p hp => (N p (s2 p hp)).1
  rw [← e] at r2
  refine cmp_ofEq (PySem.SeqAt.eqOverData prog w A E s _ _ _ _ as bs Q r1 r2 (sh_lay _) (sh_lay _) ?_ ?_)
  · have := sh_depth T1.sh; omega
  · rw [PySem.SeqAt.eqv_refl _ (sh_lay _)]; exact h

noncomputable def mkNd (x dx fl vl : Addr) (nb : Int) (h0 h1 h2 h3 h4 : Int) (t0 t1 t2 t3 t4 t5 t6 t7 t8 t9 t10 t11 : Tok) (nd nf : Nat) : Nd :=
  ⟨x, dx, fl, vl, nb, fun i => match i with | 0 => h0 | 1 => h1 | 2 => h2 | 3 => h3 | _ => h4, fun i => match i with | 0 => t0 | 1 => t1 | 2 => t2 | 3 => t3 | 4 => t4 | 5 => t5 | 6 => t6 | 7 => t7 | 8 => t8 | 9 => t9 | 10 => t10 | _ => t11, nd, nf⟩
theorem nodup4 {a b c d : Addr} {o1 o2 o3 o4 : Obj} {news : List (Addr × Obj)} (h : NodupL news) (l1 : ∀ p ∈ news, p.1 < d) (h1 : d < a) (h2 : d < b) (h3 : d < c) (n1 : a ≠ b) (n2 : a ≠ c) (n3 : b ≠ c) : NodupL ((a, o1) :: (b, o2) :: (c, o3) :: (d, o4) :: news) := by
  have off : ∀ x : Addr, d ≤ x → x ∉ news.map Prod.fst := fun x hx hm => by
    obtain ⟨p, hp, e⟩ := List.mem_map.mp hm
    have := l1 p hp
    rw [e] at this
    exact absurd this (Nat.not_lt.mpr hx)
  unfold NodupL at h ⊢
  simp only [List.map_cons, List.nodup_cons, List.mem_cons, not_or]
  exact ⟨⟨n1, n2, Nat.ne_of_gt h1, off a (Nat.le_of_lt h1)⟩, ⟨n3, Nat.ne_of_gt h2, off b (Nat.le_of_lt h2)⟩, ⟨Nat.ne_of_gt h3, off c (Nat.le_of_lt h3)⟩, off d (Nat.le_refl _), h⟩
theorem made_end {h₀ h : Heap} {L : Addr} {cur news : List (Addr × Obj)} {x dx fl vl : Addr} {nb : Int} {h0 h1 h2 h3 h4 : Int} {t0 t1 t2 t3 t4 t5 t6 t7 t8 t9 t10 t11 : Tok} {nd nf nv : Nat} {v0 v1 v2 v3 : Value}
    (N : News h₀ L h cur) (m1 : (x, instObj 204 dx) ∈ cur)
    (m2 : (dx, dictOf [⟨h0, .str (Str.ofString "word") t0, .str (Str.ofString "NODE") t5⟩, ⟨h1, .str (Str.ofString "number") t1, .int nb t6⟩, ⟨h2, .str (Str.ofString "mark") t2, .int 0 t7⟩, ⟨h3, .str (Str.ofString "fields") t3, .ref fl⟩, ⟨h4, .str (Str.ofString "values") t4, .ref vl⟩] nd) ∈ cur)
    (m3 : (fl, listOf #[.str (Str.ofString "K") t8, .str (Str.ofString "C") t9, .str (Str.ofString "L") t10, .str (Str.ofString "R") t11] nf) ∈ cur) (m4 : (vl, listOf #[v0, v1, v2, v3] nv) ∈ cur) (hs : ∀ p ∈ news, p ∈ cur) :
    News h₀ L h (((mkNd x dx fl vl nb h0 h1 h2 h3 h4 t0 t1 t2 t3 t4 t5 t6 t7 t8 t9 t10 t11 nd nf).vl, listOf #[v0, v1, v2, v3] nv) :: (mkNd x dx fl vl nb h0 h1 h2 h3 h4 t0 t1 t2 t3 t4 t5 t6 t7 t8 t9 t10 t11 nd nf).ox :: (mkNd x dx fl vl nb h0 h1 h2 h3 h4 t0 t1 t2 t3 t4 t5 t6 t7 t8 t9 t10 t11 nd nf).od :: (mkNd x dx fl vl nb h0 h1 h2 h3 h4 t0 t1 t2 t3 t4 t5 t6 t7 t8 t9 t10 t11 nd nf).of :: news) := by
  intro p hp
  rcases List.mem_cons.mp hp with rfl | hp
  · exact N _ m4
  rcases List.mem_cons.mp hp with rfl | hp
  · exact N _ m1
  rcases List.mem_cons.mp hp with rfl | hp
  · exact N _ m2
  rcases List.mem_cons.mp hp with rfl | hp
  · exact N _ m3
  · exact N _ (hs _ hp)
theorem mul4 {prog : Program} {w : World} {A : Around} {s : Shared} {h₀ : Heap} {L l : Addr} {m : Str → Option Value} {news : List (Addr × Obj)} {v : Value} {n : Nat} {u : Tok} {Q E : Value → Shared → Prop}
    (F : Fr h₀ L s.heap m) (N : News h₀ L s.heap news) (hm : (l, listOf #[v] n) ∈ news) (h : ∀ D h', Fr h₀ L h' m → News h₀ L h' ((D, listOf #[v, v, v, v] 0) :: news) → (∀ p ∈ news, p.1 < D) → Q (.ref D) { s with heap := h' }) :
    wpAny (model prog w) A (binaryOp .Mult (.ref l) (.int 4 u)) Q E s :=
  KMa.mul (vs := [v]) (ws := [v, v, v, v]) F N (PySem.IsL.isList (n := n) (N _ hm).1) (by decide) (by decide) (by show 1 * Int.toNat 4 ≤ 256; decide) rfl h

section


theorem made_spec {w : World} {dp un : Nat} {gd : Option (List Code)} {env : Env} {outer : List Env} {A₀ : Around} {base h₀ : Heap} {L : Addr} {m mg mb : Str → Option Value} {mean : ExcName → Option Value} {vq : Program} {vl : List Str} {s : Shared} {Q E : Value → Shared → Prop} {news : List (Addr × Obj)} {nb : Int} {tn tw ta tb tc td tk tv : Tok} {fl vl0 : Addr} {k c : Int} {nf n0 : Nat}
    (B : Below A₀ base outer h₀) (F : Fr h₀ L s.heap m) (X : (K0 w.params).In h₀) (N : News h₀ L s.heap ((vl0, listOf #[.int k tk, .int c tv] n0) :: (fl, listOf #[.str (Str.ofString "K") ta, .str (Str.ofString "C") tb, .str (Str.ofString "L") tc, .str (Str.ofString "R") td] nf) :: news)) (T : Top vq vl mean mg mb h₀)
    (hf : env.frame = some L) (hke : env.scope.kind = .function) (hdp : dp + 10 < recursionLimit) (hun : un + 100 < cLine)
    (l1 : ∀ p ∈ news, p.1 < fl) (l2 : fl < vl0) (hnd : NodupL news)
    (hret : ∀ h' tk' z nv t1 t2, Fr h₀ L h' m → News h₀ L h' ((Nd.vl z, listOf #[.int k tk, .int c tv, .str (Str.ofString "") t1, .str (Str.ofString "") t2] nv) :: z.ox :: z.od :: z.of :: news) → NodupL ((Nd.vl z, listOf #[.int k tk, .int c tv, .str (Str.ofString "") t1, .str (Str.ofString "") t2] nv) :: z.ox :: z.od :: z.of :: news) → Q (.ref z.x) { s with heap := h', toks := tk' }) :
    wpAny (model Challenge.rw_xm0944_01.row.prog w) (tA dp un gd env outer) (call (.ref 241) [.int nb tn, .str (Str.ofString "NODE") tw, .ref fl, .ref vl0]) Q E s := by
  refine wpAny_call ?_
  k_dflt (refine' code_def ?k1 ?k2 ?k3 ?k4 ?k5 ?kA ?kF ?kK ?k6 ?k7 ?k8 ?k9 ?kB ?_ ?c2 ?c3 ?c4 ?c5; (case kA => exact rfl); (case kF => assumption); (case kK => assumption); (case k1 => k_asm); (case k2 => k_asm); (case k3 => k_asm); (case k4 => k_asm); (case k5 => k_asm); (case k6 => k_is); (case k7 => k_is); (case k8 => first | exact lt_room (by assumption) | (dsimp only [tA]; omega)); (case k9 => exact BindsTo.of_eq rfl); (case c5 => decide); (case kB => exact locs rfl); (case c2 => exact rfl); (case c3 => exact rfl); (case c4 => exact rfl); k_whole)
  intro g' L' h' FG' F' N' B' X' T'
  try dsimp only
  try k_fold
  repeat' (first | (k_unfold; (try dsimp only)) | (k_end; wrow_close) | ((with_reducible show wpAny _ _ (binaryOp Operator.Mult (Value.ref _) (Value.int _ _)) _ _ _); k_dflt (refine' mul4 ?F ?N ?m ?_; (case F => k_asm); (case N => k_asm); (case m => k_mem); k_whole); intro D' h' F' N' lH1; (try k_lt lH1); (try k_sweep)) | walk1 | (dsimp only; first | ((with_reducible show wpAny _ _ (binaryOp Operator.Mult (Value.ref _) (Value.int _ _)) _ _ _); k_dflt (refine' mul4 ?F ?N ?m ?_; (case F => k_asm); (case N => k_asm); (case m => k_mem); k_whole); intro D' h' F' N' lH1; (try k_lt lH1); (try k_sweep)) | walk1) | (leave1; walk_say "STEP leave1"; try dsimp only) | fail "no step")
  refine hret _ _ (mkNd _ _ _ _ _ _ _ _ _ _ _ _ _ _ _ _ _ _ _ _ _ _ _ _) _ _ _ (by assumption) (made_end (by assumption) (by k_mem) (by k_mem) (by k_mem) (by k_mem) (fun p hp => by repeat (first | exact hp | refine List.mem_cons_of_mem _ ?_))) (nodup4 hnd l1 ?_ ?_ ?_ ?_ ?_ ?_)
  all_goals (first | (refine ltN ?_; (try dsimp only [mkNd]); omega) | (refine neN ?_; (try dsimp only [mkNd]); omega))

end

section
variable {prog : Program} {w : World} {A : Around} {E : Value → Shared → Prop} {s : Shared} {env : Env} {h₀ : Heap} {x : Str} {body : List Stmt} {Q : Flow → Shared → Prop}
noncomputable def EndO (h₀ : Heap) (L : Addr) (J : (Str → Option Value) → List (Addr × Obj) → Prop) (pI : Addr × Obj) (pl : Addr × Obj) (s₁ s₂ : Shared) : Prop :=
  ∃ h' tk m' nx, s₂ = { s₁ with heap := h', toks := tk } ∧ Fr h₀ L h' m' ∧ News h₀ L h' (pI :: nx) ∧ (∀ p ∈ nx, p.1 ≠ pI.1) ∧ pl ∈ nx ∧ J m' nx
noncomputable def PostO (h₀ : Heap) (L : Addr) (J : (Str → Option Value) → List (Addr × Obj) → Prop) (pI pl : Addr × Obj) (s₁ : Shared) (Q : Flow → Shared → Prop) (f : Flow) (s₂ : Shared) : Prop :=
  match f with
  | .ret v => Q (.ret v) s₂
  | .brk => Q .next s₂
  | _ => EndO h₀ L J pI pl s₁ s₂
theorem iter_O {l : Addr} {vs : List Value} {ns : List Int} {nn : Nat} {m₀ : Str → Option Value} {news : List (Addr × Obj)} (J : Nat → (Str → Option Value) → List (Addr × Obj) → Prop)
    (hh : A.handled = none) (hl : (l, listOf vs.toArray nn) ∈ news) (hi : IntsAre vs ns) (F : Fr h₀ env.locals s.heap m₀) (N : News h₀ env.locals s.heap news) (hj : J 0 m₀ news)
    (turn : ∀ i n t m₁ nx h tk I oI, ns[i]? = some n → oI.cls ≠ .type "tuple" → (∀ p ∈ nx, p.1 ≠ I) → (l, listOf vs.toArray nn) ∈ nx → J i m₁ nx → Fr h₀ env.locals h (fun y => if y = x then some (.int n t) else m₁ y) → News h₀ env.locals h ((I, oI) :: nx) →
      wpAny (model prog w) A (execs body env) (PostO h₀ env.locals (J (i + 1)) (I, oI) (l, listOf vs.toArray nn) { s with heap := h, toks := tk } Q) E { s with heap := h, toks := tk })
    (done : ∀ m₁ nx h tk, (l, listOf vs.toArray nn) ∈ nx → J ns.length m₁ nx → Fr h₀ env.locals h m₁ → News h₀ env.locals h nx → Q .next { s with heap := h, toks := tk }) :
    wpAny (model prog w) A (pyIter (.ref l)) (fun it s₂ => LoopAtV prog w A h₀ env x body Q E it s₂) E s := by
  have hol : s.heap.get? l = some (listOf vs.toArray nn) := (N _ hl).1
  have hls : s.heap.IsList l vs.toArray := ⟨_, hol, rfl, nn, rfl⟩
  have hne : l ≠ s.heap.objs.size := Nat.ne_of_lt (Heap.lt_size hol)
  refine wpAny_pyIter_list hls ?_
  have W := Walks.list (prog := prog) (w := w) hh s.heap.objs.size l hne vs.toArray
  have hlen : vs.toArray.size = ns.length := by simp [hi.length]
  rw [hlen] at W
  refine ⟨_, _, _, ns.length, _, _, m₀, news, (fun i m nx => (l, listOf vs.toArray nn) ∈ nx ∧ J i m nx), rfl, W, ?_, ?_, ?_, ⟨⟨_, Heap.get?_push_size _ rfl, rfl, rfl⟩, hls.at fun o e => Heap.get?_push_of_some _ e⟩, F.push _, (fun p hp => ⟨Heap.get?_push_of_some _ (N p hp).1, (N p hp).2⟩), ⟨hl, hj⟩, ?_, ?_⟩
  · intro hm
    rcases List.mem_cons.mp hm with e | hm
    · exact absurd F.ns.lt (e ▸ Nat.lt_irrefl _)
    · exact (N _ hl).2.1 ((List.mem_singleton.mp hm).symm)
  · intro b hb
    rw [List.mem_singleton.mp hb]
    exact next_is_new F
  · intro p hp hI
    exact absurd (Heap.lt_size (N p hp).1) ((List.mem_singleton.mp hI) ▸ Nat.lt_irrefl _)
  · rintro i v m₁ news₁ s₁ own ⟨hh', tk', rfl⟩ hin hP ⟨hl₁, hJ⟩ hoff hown hget hfp hst F₁ N₁
    have hI0 : h₀.get? s.heap.objs.size = none := next_is_new F
    obtain ⟨⟨oI, hoI, hcI0, _⟩, _⟩ := id hst
    have hcI : oI.cls ≠ .type "tuple" := by rw [hcI0]; intro q; injection q with q; exact absurd q (by decide)
    have hIown : (s.heap.objs.size, oI) ∈ own := hfp _ (List.mem_cons.mpr (.inl rfl)) hI0 _ hoI
    have hlt' : i < ns.length := hin
    obtain ⟨t, hx⟩ := hi.get i ns[i] (by simp [hlt'])
    have hv : v = .int ns[i] t := by
      have hP' : vs[i]? = some v := by simpa using hP
      rw [hx] at hP'; exact (Option.some.inj hP').symm
    subst hv
    have N₂ : News h₀ env.locals hh' ((s.heap.objs.size, oI) :: news₁) := fun p hp => by
      rcases List.mem_cons.mp hp with rfl | hp
      · exact N₁ _ (List.mem_append.mpr (.inl hIown))
      · exact N₁ _ (List.mem_append.mpr (.inr hp))
    have hlo : hh'.get? l = some (listOf vs.toArray nn) := (N₁ _ (List.mem_append.mpr (.inr hl₁))).1
    refine wpAny_mono (turn i ns[i] t m₁ news₁ hh' tk' _ oI (by simp [hlt']) hcI (fun p hp e => hoff p hp (List.mem_singleton.mpr e)) hl₁ hJ F₁ N₂) (fun f s₂ p => ?_) fun _ _ e => e
    have fin : EndO h₀ env.locals (J (i + 1)) (s.heap.objs.size, oI) (l, listOf vs.toArray nn) { s with heap := hh', toks := tk' } s₂ →
        LoopStepU h₀ env.locals [s.heap.objs.size] own (fun m nx => (l, listOf vs.toArray nn) ∈ nx ∧ J (i + 1) m nx) { s with heap := hh', toks := tk' } .next s₂ := by
      rintro ⟨h', tk, m', nx, e, F', N', hI, hl', hm⟩
      refine ⟨rfl, h', tk, m', nx, e, F', fun p hp => ?_, fun p hp hq => hI p hp (List.mem_singleton.mp hq), hl', hm⟩
      rcases List.mem_append.mp hp with h | h
      · have h2 : hh'.get? p.1 = some p.2 := hget p h
        rcases List.mem_cons.mp (hown p h) with h1 | h1
        · rw [h1, hoI] at h2
          have h3 : p = (s.heap.objs.size, oI) := Prod.ext h1 (Option.some.inj h2).symm
          rw [h3]; exact N' _ (.head _)
        · have h1 := List.mem_singleton.mp h1
          rw [h1, hlo] at h2
          have h3 : p = (l, listOf vs.toArray nn) := Prod.ext h1 (Option.some.inj h2).symm
          rw [h3]; exact N' _ (.tail _ hl')
      · exact N' p (.tail _ h)
    cases f with
    | ret v => exact .ret p
    | brk => exact .brk p
    | next => exact .next (fin p)
    | cont => exact .cont (fin p)
  · rintro h' tk m' news' F' N' _ ⟨hl', hJ⟩
    exact done m' news' h' tk hl' hJ F' N'
end

theorem dedup (l : List (Addr × Obj)) (hf : ∀ p ∈ l, ∀ q ∈ l, p.1 = q.1 → p = q) : ∃ l', NodupL l' ∧ ∀ p, p ∈ l' ↔ p ∈ l := by
  induction l with
  | nil => exact ⟨[], List.nodup_nil, fun _ => Iff.rfl⟩
  | cons p r ih =>
    obtain ⟨l', h1, h2⟩ := ih fun a ha b hb => hf a (.tail _ ha) b (.tail _ hb)
    by_cases hm : p.1 ∈ l'.map Prod.fst
    · refine ⟨l', h1, fun q => ⟨fun hq => .tail _ ((h2 q).mp hq), fun hq => ?_⟩⟩
      rcases List.mem_cons.mp hq with rfl | hq
      · obtain ⟨q', hq', e⟩ := List.mem_map.mp hm
        have := hf q' (.tail _ ((h2 q').mp hq')) q (.head _) e
        exact this ▸ hq'
      · exact (h2 q).mpr hq
    · refine ⟨p :: l', List.nodup_cons.mpr ⟨hm, h1⟩, fun q => ?_⟩
      rw [List.mem_cons, List.mem_cons, h2]
theorem News.fun {h₀ h : Heap} {L : Addr} {l : List (Addr × Obj)} (N : News h₀ L h l) : ∀ p ∈ l, ∀ q ∈ l, p.1 = q.1 → p = q := fun p hp q hq e => by
  have h1 := (N p hp).1
  have h2 := (N q hq).1
  rw [e, h2] at h1
  exact Prod.ext e (Option.some.inj h1).symm
noncomputable abbrev rangeI (n : Nat) : List Int := (List.range n).map Int.ofNat
theorem mem_rangeI {n : Nat} {k : Int} : k ∈ rangeI n ↔ 0 ≤ k ∧ k < (n : Int) := by
  constructor
  · intro h
    obtain ⟨i, hi, rfl⟩ := List.mem_map.mp h
    have := List.mem_range.mp hi
    exact ⟨Int.natCast_nonneg i, by show ((i : Nat) : Int) < n; omega⟩
  · rintro ⟨h0, h1⟩
    exact List.mem_map.mpr ⟨k.toNat, List.mem_range.mpr (by omega), by show ((k.toNat : Nat) : Int) = k; omega⟩
theorem nodup_rangeI (n : Nat) : (rangeI n).Nodup := List.Pairwise.map Int.ofNat (fun a b hab e => hab (Int.ofNat.inj e)) List.nodup_range
theorem len_perm {cs : List Int} {n : Nat} (h : cs.Perm (rangeI n)) : cs.length = n := by rw [h.length_eq]; simp

noncomputable def Mark (_l : List (Addr × Obj)) : Prop := True
noncomputable def InJ (cs : List Int) (base : List (Addr × Obj)) (m₀ : Str → Option Value) (ks : List Int) (m : Str → Option Value) (nx : List (Addr × Obj)) : Prop :=
  ∃ (t : Tr) (lk : Addr) (vk : List Value) (nk : Nat) (bs : List (Addr × Obj)), nx = t.led ++ bs ∧ NodupL nx ∧ Sub base bs ∧ (lk, listOf vk.toArray nk) ∈ bs ∧ Built cs ks t ∧ IntsAre vk ks ∧ m (Str.ofString "tree") = some t.val ∧ m (Str.ofString "keys") = some (.ref lk) ∧
    ∀ z, z ≠ Str.ofString "key" → z ≠ Str.ofString "tree" → z ≠ Str.ofString "keys" → z ≠ Str.ofString "thing" → m z = m₀ z
noncomputable def InPost (h₀ : Heap) (L : Addr) (cs : List Int) (base : List (Addr × Obj)) (m₀ : Str → Option Value) (ks : List Int) (pI pl : Addr × Obj) (s₁ : Shared) (Q : Flow → Shared → Prop) (f : Flow) (s₂ : Shared) : Prop :=
  PostO h₀ L (InJ cs base m₀ ks) pI pl s₁ Q f s₂
theorem iter_in {prog : Program} {w : World} {A : Around} {E : Value → Shared → Prop} {s : Shared} {env : Env} {h₀ : Heap} {body : List Stmt} {Q : Flow → Shared → Prop} {l lk0 lc : Addr} {vs vc : List Value} {ns cs : List Int} {nn nk0 nc n : Nat} {m₀ : Str → Option Value} {cur base : List (Addr × Obj)} {t0 : Tok}
    (_hM : Mark base) (_hlc : m₀ (Str.ofString "chances") = some (.ref lc)) (_hic : IntsAre vc cs) (hh : A.handled = none) (hl : (l, listOf vs.toArray nn) ∈ cur) (hi : IntsAre vs ns) (hns : ns.Perm (rangeI n)) (hcs : cs.Perm (rangeI n)) (hn : n ≤ 5) (mc : (lc, listOf vc.toArray nc) ∈ base) (F : Fr h₀ env.locals s.heap m₀) (N : News h₀ env.locals s.heap cur) (hsub : ∀ p ∈ base, p ∈ cur)
    (ht : m₀ (Str.ofString "tree") = some (.str (Str.ofString "") t0)) (hk : m₀ (Str.ofString "keys") = some (.ref lk0)) (hk0 : (lk0, listOf #[] nk0) ∈ cur)
    (turn : ∀ (mm : Str → Option Value) (bb : List (Addr × Obj)), mm (Str.ofString "chances") = some (.ref lc) → (l, listOf vs.toArray nn) ∈ bb → ∀ (t : Tr) lk vk nk ks key tkey bs (u : Str → Option Value) h tk I oI, Built cs ks t → IntsAre vk ks → key ∉ ks → AllIn cs (ks ++ [key]) → Inj cs (ks ++ [key]) → ks.length < 5 → 0 ≤ key → key < (cs.length : Int) → cs.length ≤ 64 → t.size < 5 → (lk, listOf (List.toArray vk) nk) ∈ bs → (lc, listOf vc.toArray nc) ∈ bs → Sub bb bs →
      NodupL (t.led ++ ((I, oI) :: bs)) → Fr h₀ env.locals h (fun z => if z = Str.ofString "key" then some (.int key tkey) else if z = Str.ofString "tree" then some t.val else if z = Str.ofString "keys" then some (.ref lk) else if z = Str.ofString "thing" then u z else mm z) → News h₀ env.locals h (t.led ++ ((I, oI) :: bs)) →
      wpAny (model prog w) A (execs body env) (InPost h₀ env.locals cs bb mm (ks ++ [key]) (I, oI) (l, listOf vs.toArray nn) { s with heap := h, toks := tk } Q) E { s with heap := h, toks := tk })
    (done : ∀ (t : Tr) lk bs (u : Str → Option Value) h tk, Built cs ns t → t.size ≤ 5 → Sub base bs → Fr h₀ env.locals h (fun z => if z = Str.ofString "key" then u z else if z = Str.ofString "tree" then some t.val else if z = Str.ofString "keys" then some (.ref lk) else if z = Str.ofString "thing" then u z else m₀ z) → News h₀ env.locals h (t.led ++ bs) → Q .next { s with heap := h, toks := tk }) :
    wpAny (model prog w) A (pyIter (.ref l)) (fun it s₂ => LoopAtV prog w A h₀ env (Str.ofString "key") body Q E it s₂) E s := by
  obtain ⟨bs0, hd0, hm0⟩ := dedup cur (News.fun N)
  have hlen : ns.length = n := len_perm hns
  have hclen : cs.length = n := len_perm hcs
  have nd : ns.Nodup := hns.nodup_iff.mpr (nodup_rangeI n)
  have rng : ∀ k ∈ ns, 0 ≤ k ∧ k < (n : Int) := fun k hk => mem_rangeI.mp (hns.mem_iff.mp hk)
  have fm : ∀ (t : Tr) (lk : Addr) (m : Str → Option Value), m (Str.ofString "tree") = some t.val → m (Str.ofString "keys") = some (.ref lk) → (∀ z, z ≠ Str.ofString "key" → z ≠ Str.ofString "tree" → z ≠ Str.ofString "keys" → z ≠ Str.ofString "thing" → m z = m₀ z) → ∀ v : Str → Option Value,
      (fun z => if z = Str.ofString "key" then v z else m z) = (fun z => if z = Str.ofString "key" then v z else if z = Str.ofString "tree" then some t.val else if z = Str.ofString "keys" then some (.ref lk) else if z = Str.ofString "thing" then m z else m₀ z) := by
    intro t lk m h1 h2 h3 v
    funext z
    by_cases q1 : z = Str.ofString "key" <;> simp only [q1, if_true, if_false]
    by_cases q2 : z = Str.ofString "tree"
    · subst q2; simpa using h1
    · simp only [q2, if_false]
      by_cases q3 : z = Str.ofString "keys"
      · subst q3; simpa using h2
      · simp only [q3, if_false]
        by_cases q4 : z = Str.ofString "thing"
        · simp only [q4, if_true]
        · simp only [q4, if_false]; exact h3 z q1 q2 q3 q4
  refine iter_O (fun i m nx => InJ cs ((l, listOf vs.toArray nn) :: base) m₀ (ns.take i) m nx) hh ((hm0 _).mpr hl) hi F (fun p hp => N p ((hm0 p).mp hp)) ⟨.leaf t0, lk0, [], nk0, bs0, rfl, hd0, fun p hp => (hm0 p).mpr ((List.mem_cons.mp hp).elim (fun e => e ▸ hl) (hsub p)), (hm0 _).mpr hk0, built_nil cs t0, .nil, ht, hk, fun _ _ _ _ _ => rfl⟩ ?_ ?_
  · rintro i key tkey m₁ nx h tk I oI hn' _ hI hl' ⟨t, lk, vk, nk, bs, rfl, hnd, hsb, hkm, hB, hik, h1, h2, h3⟩ F₁ N₁
    have hlt : i < ns.length := by
      rcases Nat.lt_or_ge i ns.length with q | q
      · exact q
      · rw [List.getElem?_eq_none q] at hn'; cases hn'
    have hkey : ns[i] = key := by rw [List.getElem?_eq_getElem hlt] at hn'; exact Option.some.inj hn'
    have htk : ns.take (i + 1) = ns.take i ++ [key] := by rw [List.take_add_one, hn']; simp
    have hmem : key ∈ ns := hkey ▸ List.getElem_mem hlt
    have hall : ∀ k ∈ ns.take i ++ [key], k ∈ ns := fun k hk => by
      rcases List.mem_append.mp hk with q | q
      · exact List.mem_of_mem_take q
      · rw [List.mem_singleton.mp q]; exact hmem
    have hnot : key ∉ ns.take i := fun hk => by
      have : (ns.take i ++ [key]).Nodup := htk ▸ (List.take_sublist (i + 1) ns).nodup nd
      exact (List.nodup_append.mp this).2.2 key hk key (List.mem_singleton.mpr rfl) rfl
    have hli : (ns.take i).length = i := by rw [List.length_take]; omega
    have hkr := rng key hmem
    rw [fm t lk m₁ h1 h2 h3] at F₁
    rw [htk]
    have hperm : NodupL ((I, oI) :: (t.led ++ bs)) := List.nodup_cons.mpr ⟨fun hm => by obtain ⟨p, hp, e⟩ := List.mem_map.mp hm; exact hI p hp e, hnd⟩
    refine turn m₀ ((l, listOf vs.toArray nn) :: base) _hlc (.head _) t lk vk nk (ns.take i) key tkey bs _ h tk I oI hB hik hnot (fun k hk => ?_) (inj_perm (n := n) hcs fun k hk => rng k (hall k hk)) (by omega) hkr.1 (by omega) (by omega) (by rw [hB.size]; omega) hkm (hsb _ (.tail _ mc)) hsb (hperm.permL (List.perm_middle.map _).symm) F₁ (fun p hp => N₁ p (List.perm_middle.mem_iff.mp hp))
    · have := rng k (hall k hk); omega
  · rintro m₁ nx h tk _ ⟨t, lk, vk, nk, bs, rfl, hnd, hsb, hkm, hB, hik, h1, h2, h3⟩ F₁ N₁
    rw [List.take_length] at hB
    refine done t lk bs m₁ h tk hB (by rw [hB.size]; omega) (fun p hp => hsb p (.tail _ hp)) ?_ N₁
    have e : (fun z => if z = Str.ofString "key" then m₁ z else m₁ z) = m₁ := by funext z; split <;> rfl
    rw [← fm t lk m₁ h1 h2 h3 m₁, e]
    exact F₁
theorem map_at {m : Str → Option Value} {x : Str} {v : Value} (h : m x = some v) : m = fun z => if z = x then some v else m z := by
  funext z
  by_cases q : z = x
  · subst q; simpa using h
  · simp only [q, if_false]
theorem in_post {h₀ h' : Heap} {L : Addr} {cs : List Int} {base bs cur : List (Addr × Obj)} {m₀ m' : Str → Option Value} {ks : List Int} {I l : Addr} {oI ol : Obj} {s₁ : Shared} {Q : Flow → Shared → Prop} {tk' : Nat} {t : Tr} {lk : Addr} {vk : List Value} {nk : Nat}
    (hB : Built cs ks t) (F : Fr h₀ L h' m') (N : News h₀ L h' cur) (hnd : NodupL (t.led ++ ((I, oI) :: bs))) (hk : (lk, listOf vk.toArray nk) ∈ cur) (hfr : ∀ p ∈ t.led ++ ((I, oI) :: bs), p.1 < lk) (hsub : ∀ p ∈ t.led ++ ((I, oI) :: bs), p ∈ cur) (hik : IntsAre vk ks) (hsb : Sub base bs) (hl : (l, ol) ∈ base)
    (h1 : m' (Str.ofString "tree") = some t.val) (h2 : m' (Str.ofString "keys") = some (.ref lk)) (h3 : ∀ z, z ≠ Str.ofString "key" → z ≠ Str.ofString "tree" → z ≠ Str.ofString "keys" → z ≠ Str.ofString "thing" → m' z = m₀ z) :
    InPost h₀ L cs base m₀ ks (I, oI) (l, ol) s₁ Q .next { s₁ with heap := h', toks := tk' } := by
  have hnd' : NodupL ((I, oI) :: (t.led ++ ((lk, listOf vk.toArray nk) :: bs))) := by
    have a : NodupL ((lk, listOf vk.toArray nk) :: (t.led ++ ((I, oI) :: bs))) := List.nodup_cons.mpr ⟨fun hm => by
      obtain ⟨p, hp, e⟩ := List.mem_map.mp hm
      exact absurd (hfr p hp) (by rw [e]; exact Nat.lt_irrefl _), hnd⟩
    exact a.permL (((List.perm_middle.cons _).trans ((List.Perm.swap _ _ _).trans (List.perm_middle.symm.cons _))).map _)
  refine ⟨h', tk', m', t.led ++ ((lk, listOf vk.toArray nk) :: bs), rfl, F, fun p hp => ?_, hnd'.ne, List.mem_append.mpr (.inr (.tail _ (hsb _ hl))), t, lk, vk, nk, (lk, listOf vk.toArray nk) :: bs, rfl, (List.nodup_cons.mp hnd').2, hsb.cons, .head _, hB, hik, h1, h2, h3⟩
  simp only [List.mem_append, List.mem_cons] at hp
  rcases hp with rfl | hp | rfl | hp
  · exact N _ (hsub _ (List.mem_append.mpr (.inr (.head _))))
  · exact N _ (hsub _ (List.mem_append.mpr (.inl hp)))
  · exact N _ hk
  · exact N _ (hsub _ (List.mem_append.mpr (.inr (.tail _ hp))))

theorem put_use {w : World} {dp un : Nat} {gd : Option (List Code)} {env : Env} {outer : List Env} {A₀ : Around} {base h₀ : Heap} {L : Addr} {m mg mb : Str → Option Value} {mean : ExcName → Option Value} {vq : Program} {vl : List Str} {s : Shared} {Q E : Value → Shared → Prop} {z : Nd} {k c : Int} {tk tc : Tok} {nv : Nat} {t1 t2 : Tok} {t : Tr} {rest cur : List (Addr × Obj)}
    (B : Below A₀ base outer h₀) (F : Fr h₀ L s.heap m) (X : (K0 w.params).In h₀) (N : News h₀ L s.heap (cur)) (T : Top vq vl mean mg mb h₀)
    (hf : env.frame = some L) (hke : env.scope.kind = .function) (hdp : dp + 20 * (t.size + 1) < recursionLimit) (hun : un + 200 * (t.size + 1) < cLine)
    (hnd : NodupL ((z.vl, listOf #[.int k tk, .int c tc, .str (Str.ofString "") t1, .str (Str.ofString "") t2] nv) :: z.ox :: z.od :: z.of :: (t.led ++ rest)))
    (hsub : ∀ p ∈ ((z.vl, listOf #[.int k tk, .int c tc, .str (Str.ofString "") t1, .str (Str.ofString "") t2] nv) :: z.ox :: z.od :: z.of :: (t.led ++ rest)), p ∈ cur)
    (hret : ∀ h' tk' t', t' = ins ⟨z, k, c, tk, tc, nv, t1, t2⟩ t → t'.size = t.size + 1 → Fr h₀ L h' m → News h₀ L h' (t'.led ++ rest) → NodupL (t'.led ++ rest) → Q t'.val { s with heap := h', toks := tk' }) :
    wpAny (model Challenge.rw_xm0944_01.row.prog w) (tA dp un gd env outer) (call (.ref 255) [t.val, .ref z.x]) Q E s := by
  refine put_spec w ⟨z, k, c, tk, tc, nv, t1, t2⟩ t (rest := rest) B F X (fun p hp => N p (hsub p hp)) T hf hke hdp hun hnd ?_
  intro h' tk' F' N'
  refine hret h' tk' _ rfl (ins_size _ _) F' N' (nd_ins hnd)
theorem built_turn {cs ks : List Int} {t t' : Tr} {z : Nd} {key : Int} {tk tc : Tok} {nv : Nat} {t1 t2 : Tok} (h : Built cs ks t) (e : t' = ins ⟨z, key, cs.getD key.toNat 0, tk, tc, nv, t1, t2⟩ t) (hn : key ∉ ks) (hi : Inj cs (ks ++ [key])) : Built cs (ks ++ [key]) t' := by
  subst e
  exact built_ins (b := ⟨z, key, cs.getD key.toNat 0, tk, tc, nv, t1, t2⟩) h rfl hn hi
theorem turn_same {cs ks : List Int} {t' : Tr} {T1 T2 : TT} (e1 : T1.sh = t'.sh) (e2 : T2.sh = due cs 5 ks) (h : Built cs ks t') (hi : Inj cs ks) (hl : ks.length ≤ 5) : T1.sh = T2.sh := by
  rw [e1, e2]; exact built_due h hi hl

theorem tt_cls : ∀ T : TT, ∀ p ∈ T.led, p.2.cls = .type "tuple"
  | .leaf _, _, h => nomatch h
  | .node a k tk l r, p, h => by
    simp only [TT.led, List.mem_cons, List.mem_append] at h
    rcases h with rfl | h | h
    · rfl
    · exact tt_cls l p h
    · exact tt_cls r p h
noncomputable def OutJ (Same : TT → Prop) (lt : Addr) (base : List (Addr × Obj)) (m₀ : Str → Option Value) (Ts : List TT) (m : Str → Option Value) (nx : List (Addr × Obj)) : Prop :=
  ∃ (bs : List (Addr × Obj)) (n : Nat), nx = (lt, listOf (Ts.map TT.val).toArray n) :: bs ∧ (∀ p ∈ bs, p.1 ≠ lt) ∧ Sub base bs ∧ (∀ T ∈ Ts, Sub (TT.led T) bs ∧ Same T) ∧
    ∀ z, [Str.ofString "told", Str.ofString "tree", Str.ofString "keys", Str.ofString "key", Str.ofString "thing"].contains z = false → m z = m₀ z
noncomputable def OutPost (h₀ : Heap) (L : Addr) (Same : TT → Prop) (lt : Addr) (base : List (Addr × Obj)) (m₀ : Str → Option Value) (i : Nat) (pI pl : Addr × Obj) (s₁ : Shared) (Q : Flow → Shared → Prop) (f : Flow) (s₂ : Shared) : Prop :=
  PostO h₀ L (fun m nx => ∃ Ts : List TT, Ts.length = i ∧ OutJ Same lt base m₀ Ts m nx) pI pl s₁ Q f s₂
theorem iter_out {prog : Program} {w : World} {A : Around} {E : Value → Shared → Prop} {s : Shared} {env : Env} {h₀ : Heap} {body : List Stmt} {Q : Flow → Shared → Prop} {l lt lc : Addr} {vc : List Value} {nn nt nc : Nat} {m₀ : Str → Option Value} {cur : List (Addr × Obj)} {c1 c3 : Int} {u1 u3 : Tok} (Same : TT → Prop)
    (hh : A.handled = none) (hlt : m₀ (Str.ofString "trees") = some (.ref lt)) (hlc : m₀ (Str.ofString "chances") = some (.ref lc)) (hl : (l, listOf [Value.int c1 u1, Value.int c3 u3].toArray nn) ∈ cur) (mt : (lt, listOf #[] nt) ∈ cur) (mc : (lc, listOf vc.toArray nc) ∈ cur) (n1 : l ≠ lt) (n2 : lc ≠ lt) (h1 : 0 ≤ c1) (h3 : 0 ≤ c3) (F : Fr h₀ env.locals s.heap m₀) (N : News h₀ env.locals s.heap cur)
    (turn : ∀ (Ts : List TT) (told : Int) t (u : Str → Option Value) bs n h tk I oI i, Ts.length = i → Ts.length < 2 → 0 ≤ told → (∀ p ∈ bs, p.1 ≠ lt) → I ≠ lt → oI.cls ≠ .type "tuple" → (lc, listOf vc.toArray nc) ∈ bs → Sub [(l, listOf [Value.int c1 u1, Value.int c3 u3].toArray nn), (lc, listOf vc.toArray nc)] bs → (∀ T ∈ Ts, Sub (TT.led T) bs ∧ Same T) → (∀ p ∈ bs, p.1 ≠ I) → Mark ((I, oI) :: (lt, listOf (Ts.map TT.val).toArray n) :: bs) →
      Fr h₀ env.locals h (fun z => if z = Str.ofString "told" then some (.int told t) else if [Str.ofString "told", Str.ofString "tree", Str.ofString "keys", Str.ofString "key", Str.ofString "thing"].contains z then u z else m₀ z) →
      News h₀ env.locals h ((I, oI) :: (lt, listOf (Ts.map TT.val).toArray n) :: bs) →
      wpAny (model prog w) A (execs body env) (OutPost h₀ env.locals Same lt [(l, listOf [Value.int c1 u1, Value.int c3 u3].toArray nn), (lc, listOf vc.toArray nc)] m₀ (i + 1) (I, oI) (l, listOf [Value.int c1 u1, Value.int c3 u3].toArray nn) { s with heap := h, toks := tk } Q) E { s with heap := h, toks := tk })
    (done : ∀ (T1 T2 : TT) (u : Str → Option Value) bs n h tk, Same T1 → Same T2 → Sub T1.led bs → Sub T2.led bs → Fr h₀ env.locals h (fun z => if [Str.ofString "told", Str.ofString "tree", Str.ofString "keys", Str.ofString "key", Str.ofString "thing"].contains z then u z else m₀ z) → News h₀ env.locals h ((lt, listOf #[T1.val, T2.val] n) :: bs) → Q .next { s with heap := h, toks := tk }) :
    wpAny (model prog w) A (pyIter (.ref l)) (fun it s₂ => LoopAtV prog w A h₀ env (Str.ofString "told") body Q E it s₂) E s := by
  have fm : ∀ (m : Str → Option Value), (∀ z, [Str.ofString "told", Str.ofString "tree", Str.ofString "keys", Str.ofString "key", Str.ofString "thing"].contains z = false → m z = m₀ z) →
      m = (fun z => if [Str.ofString "told", Str.ofString "tree", Str.ofString "keys", Str.ofString "key", Str.ofString "thing"].contains z then m z else m₀ z) := by
    intro m hm
    funext z
    by_cases q : [Str.ofString "told", Str.ofString "tree", Str.ofString "keys", Str.ofString "key", Str.ofString "thing"].contains z = true
    · simp only [q, if_true]
    · have q' := Bool.eq_false_iff.mpr q
      rw [q']; simp only [Bool.false_eq_true, if_false]; exact hm z q'
  refine iter_O (ns := [c1, c3]) (news := (lt, listOf #[] nt) :: cur.filter fun p => decide (p.1 ≠ lt)) (fun i m nx => ∃ Ts : List TT, Ts.length = i ∧ OutJ Same lt [(l, listOf [Value.int c1 u1, Value.int c3 u3].toArray nn), (lc, listOf vc.toArray nc)] m₀ Ts m nx) hh (.tail _ (List.mem_filter.mpr ⟨hl, by simpa using n1⟩)) (.cons _ _ (.cons _ _ .nil)) F
    (fun p hp => ?_) ⟨[], rfl, cur.filter fun p => decide (p.1 ≠ lt), nt, rfl, fun p hp => by simpa using (List.mem_filter.mp hp).2, fun p hp => ?_, (fun _ h => nomatch h), fun _ _ => rfl⟩ ?_ ?_
  · rcases List.mem_cons.mp hp with rfl | hp
    · exact N _ mt
    · exact N _ (List.mem_filter.mp hp).1
  · rcases List.mem_cons.mp hp with rfl | hp
    · exact List.mem_filter.mpr ⟨hl, by simpa using n1⟩
    · rw [List.mem_singleton.mp hp]; exact List.mem_filter.mpr ⟨mc, by simpa using n2⟩
  · rintro i told t m₁ nx h tk I oI hn hcI hI hl' ⟨Ts, hTs, bs, n, rfl, hb, hsb, hT, hm⟩ F₁ N₁
    have ht : 0 ≤ told := by
      have : told ∈ [c1, c3] := List.mem_of_getElem? hn
      simp only [List.mem_cons, List.not_mem_nil, or_false] at this
      rcases this with rfl | rfl <;> assumption
    have e : (fun z => if z = Str.ofString "told" then some (Value.int told t) else m₁ z) = (fun z => if z = Str.ofString "told" then some (.int told t) else if [Str.ofString "told", Str.ofString "tree", Str.ofString "keys", Str.ofString "key", Str.ofString "thing"].contains z then m₁ z else m₀ z) := by
      funext z
      by_cases q : z = Str.ofString "told"
      · simp only [q, if_true]
      · simp only [q, if_false]; exact congrFun (fm m₁ hm) z
    rw [e] at F₁
    have h2 : Ts.length < 2 := by
      rw [hTs]
      rcases Nat.lt_or_ge i 2 with q | q
      · exact q
      · rw [List.getElem?_eq_none (by simpa using q)] at hn; cases hn
    exact turn Ts told t m₁ bs n h tk I oI i hTs h2 ht hb (fun q => hI _ (.head _) q.symm) hcI (hsb _ (.tail _ (.head _))) hsb hT (fun p hp => hI p (.tail _ hp)) trivial F₁ N₁
  · rintro m₁ nx h tk _ ⟨Ts, hTs, bs, n, rfl, hb, hsb, hT, hm⟩ F₁ N₁
    rw [fm m₁ hm] at F₁
    match Ts, hTs with
    | [T1, T2], _ => exact done T1 T2 m₁ bs n h tk (hT T1 (.head _)).2 (hT T2 (.tail _ (.head _))).2 (hT T1 (.head _)).1 (hT T2 (.tail _ (.head _))).1 F₁ N₁
theorem out_post {h₀ h' : Heap} {L : Addr} {Same : TT → Prop} {lt I l : Addr} {oI ol : Obj} {base bs : List (Addr × Obj)} {m₀ m' : Str → Option Value} {Ts : List TT} {i n tk' : Nat} {T : TT} {s₁ : Shared} {Q : Flow → Shared → Prop}
    (hTs : Ts.length = i) (hT : ∀ T ∈ Ts, Sub (TT.led T) bs ∧ Same T) (hS : Same T) (hb : ∀ p ∈ bs, p.1 ≠ lt) (hIl : I ≠ lt) (hsb : Sub base bs) (hl : (l, ol) ∈ base) (hbI : ∀ p ∈ bs, p.1 ≠ I) (F : Fr h₀ L h' m')
    (N : News h₀ L h' ((lt, listOf ((Ts.map TT.val).toArray.push T.val) n) :: (I, oI) :: (T.led ++ bs))) (hcI : oI.cls ≠ .type "tuple") (hTl : ∀ p ∈ T.led, p.1 ≠ lt)
    (hm : ∀ z, [Str.ofString "told", Str.ofString "tree", Str.ofString "keys", Str.ofString "key", Str.ofString "thing"].contains z = false → m' z = m₀ z) :
    OutPost h₀ L Same lt base m₀ (i + 1) (I, oI) (l, ol) s₁ Q .next { s₁ with heap := h', toks := tk' } := by
  have hTI : ∀ p ∈ T.led, p.1 ≠ I := fun p hp e => by
    have h1 := (N p (.tail _ (.tail _ (List.mem_append.mpr (.inl hp))))).1
    have h2 := (N _ (.tail _ (.head _))).1
    rw [e, h2] at h1
    have h3 := tt_cls T p hp
    rw [← Option.some.inj h1] at h3
    exact hcI h3
  refine ⟨h', tk', m', (lt, listOf ((Ts ++ [T]).map TT.val).toArray n) :: (T.led ++ bs), rfl, F, fun p hp => ?_, fun p hp => ?_, .tail _ (List.mem_append.mpr (.inr (hsb _ hl))), Ts ++ [T], by rw [List.length_append, hTs]; rfl, T.led ++ bs, n, rfl, fun p hp => ?_, hsb.app, fun T' hT' => ?_, hm⟩
  · rcases List.mem_cons.mp hp with rfl | hp
    · exact N _ (.tail _ (.head _))
    rcases List.mem_cons.mp hp with rfl | hp
    · have := N _ (.head _)
      rw [List.push_toArray] at this
      rw [List.map_append]; exact this
    · exact N _ (.tail _ (.tail _ hp))
  · rcases List.mem_cons.mp hp with rfl | hp
    · exact fun e => hIl e.symm
    · exact (List.mem_append.mp hp).elim (hTI p) (hbI p)
  · exact (List.mem_append.mp hp).elim (hTl p) (hb p)
  · rcases List.mem_append.mp hT' with q | q
    · exact ⟨(hT T' q).1.app, (hT T' q).2⟩
    · rw [List.mem_singleton.mp q]; exact ⟨Sub.left _ _, hS⟩
theorem same_of {cs ns : List Int} {n : Nat} {t : Tr} {T : TT} (hB : Built cs ns t) (hns : ns.Perm (rangeI n)) (hcs : cs.Perm (rangeI n)) (hn : n ≤ 5) (e : T.sh = t.sh) : T.sh = due cs 5 (rangeI n) := by
  have d := due_good cs 5 (rangeI n) (by simpa using hn) (inj_perm hcs fun k hk => mem_rangeI.mp hk)
  rw [e]
  exact good_unique cs _ _ hB.good d.1 fun x => (hB.mem x).trans (hns.mem_iff.trans (d.2 x).symm)
theorem sh_len {cs ns : List Int} {t : Tr} (hB : Built cs ns t) : t.sh.size = ns.length := by rw [tr_size, hB.size]

noncomputable def lawStmts : List Stmt := match Challenge.pw_xm0944_01.main.body.getLast? with
  | some (.FunctionDef _ _ body _ _ _ _ _ _ _) => body
  | _ => []
noncomputable def lawScope : Scope := match Challenge.pw_xm0944_01.main.body.getLast? with
  | some (.FunctionDef _ _ _ _ _ _ sc _ _ _) => sc
  | _ => default
theorem execs_head {M : Model} {A : Around} {b rest : List Stmt} {d : Stmt} {env : Env} {Q : Flow → Shared → Prop} {E : Value → Shared → Prop} {s : Shared} (e : b = d :: rest) (h : wpAny M A (execs (d :: rest) env) Q E s) : wpAny M A (execs b env) Q E s := by rw [e]; exact h
theorem scope_head {P : Scope → Prop} {sc : Scope} {k : ScopeKind} {n : List (Str × NameKind)} {g c : Bool} {mo : List (Str × Const)} (e : sc = ⟨k, n, g, c, mo⟩) (h : P ⟨k, n, g, c, mo⟩) : P sc := by rw [e]; exact h
theorem cell_item {prog : Program} {w : World} {A : Around} {s : Shared} {h₀ : Heap} {L : Addr} {news : List (Addr × Obj)} {value slice : PySem.Expr} {l : Addr} {vs : List Value} {ns : List Int} {n : Nat} {k : Int} {u : Tok} {Q E : Value → Shared → Prop}
    (N : News h₀ L s.heap news) (m : (l, listOf vs.toArray n) ∈ news) (hi : IntsAre vs ns) (h4 : 4 ≤ ns.length) (hp : ∀ x ∈ ns, 0 ≤ x) (h0 : 0 ≤ k) (hk : k < 4) (h : ∀ x t, 0 ≤ x → Q (.int x t) s)
    (hs : subscripted slice false (.ref l) (.int k u) = operate [.ref l, .int k u] (getItem (.ref l) (.int k u)) := by with_unfolding_all rfl) :
    wpAny (model prog w) A (subscriptTail value slice (.ref l) (.int k u)) Q E s := by
  have hj : k.toNat < ns.length := by omega
  obtain ⟨t, ht⟩ := hi.get k.toNat ns[k.toNat] (by simp [hj])
  have hl : s.heap.IsList l vs.toArray := ⟨_, (N _ m).1, rfl, n, rfl⟩
  exact tail_any hl.typeIs slot_list_getitem.lookup (wpAny_getItem_list hl h0 (by omega) (by simpa using ht) (h _ _ (hp _ (List.getElem_mem hj)))) hs
noncomputable def SameT (cs : List Int) (n : Nat) (T : TT) : Prop := T.sh = due cs 5 (rangeI n) ∧ T.sh.size ≤ 5
noncomputable def sameOf {cs : List Int} {n : Nat} (_ : cs.Perm (rangeI n)) : TT → Prop := SameT cs n
theorem same_post {cs ns : List Int} {n : Nat} {t : Tr} {T : TT} (hcs : cs.Perm (rangeI n)) (hB : Built cs ns t) (hns : ns.Perm (rangeI n)) (hn : n ≤ 5) (e : T.sh = t.sh) : sameOf hcs T :=
  ⟨same_of hB hns hcs hn e, by rw [e, sh_len hB, len_perm hns]; exact hn⟩
theorem same_eq {cs : List Int} {n : Nat} {hcs : cs.Perm (rangeI n)} {T1 T2 : TT} (h1 : sameOf hcs T1) (h2 : sameOf hcs T2) : T1.sh = T2.sh := h1.1.trans h2.1.symm
theorem append_T {prog : Program} {w : World} {A : Around} {s : Shared} {h₀ : Heap} {L lt I : Addr} {m : Str → Option Value} {X bs : List (Addr × Obj)} {its : Array Value} {n : Nat} {oI : Obj} {T : TT} {Q E : Value → Shared → Prop}
    (hM : Mark ((I, oI) :: (lt, listOf its n) :: bs)) (F : Fr h₀ L s.heap m) (N : News h₀ L s.heap (T.led ++ X)) (hs : Sub ((I, oI) :: (lt, listOf its n) :: bs) X) (hb : ∀ p ∈ bs, p.1 ≠ lt) (hI : I ≠ lt) (hsz : its.size ≤ 64)
    (h : ∀ h', (∀ p ∈ T.led, p.1 ≠ lt) → Fr h₀ L h' m → News h₀ L h' ((lt, listOf (its.push T.val) (n + 1)) :: (I, oI) :: (T.led ++ bs)) → Q .none { s with heap := h' }) :
    wpAny (model prog w) A (call (.builtin "list.append") [.ref lt, T.val]) Q E s := by
  have ml : (lt, listOf its n) ∈ T.led ++ X := List.mem_append.mpr (.inr (hs _ (.tail _ (.head _))))
  have hT : ∀ p ∈ T.led, p.1 ≠ lt := fun p hp e => by
    have h1 := (N p (List.mem_append.mpr (.inl hp))).1
    have h2 := (N _ ml).1
    rw [e, h2] at h1
    have := tt_cls T p hp
    rw [← Option.some.inj h1] at this
    injection this with q
    exact absurd q (by decide)
  refine append_K (D := lt) (its := its) (n := n) F (News.keep1 N ml (news := (I, oI) :: (T.led ++ bs)) ?_) (.head ?_) (fun h' F' N' => h h' hT F' N') (by rw [sizeLine_eq]; omega)
  · intro p hp
    rcases List.mem_cons.mp hp with rfl | hp
    · exact List.mem_append.mpr (.inr (hs _ (.head _)))
    · exact (List.mem_append.mp hp).elim (fun q => List.mem_append.mpr (.inl q)) fun q => List.mem_append.mpr (.inr (hs _ (.tail _ (.tail _ q))))
  · intro p hp
    rcases List.mem_cons.mp hp with rfl | hp
    · exact hI
    · exact (List.mem_append.mp hp).elim (hT p) (hb p)
theorem same_size {cs : List Int} {n : Nat} {hcs : cs.Perm (rangeI n)} {T : TT} (h : sameOf hcs T) : T.sh.size ≤ 6 := Nat.le_trans h.2 (by decide)
theorem read_size {T : TT} {t : Tr} (e : T.sh = t.sh) (h : t.size ≤ 6) : T.sh.size ≤ 6 := by rw [e, tr_size]; exact h
theorem done_sub {led bs : List (Addr × Obj)} (p1 p2 : Addr × Obj) : Sub (p1 :: p2 :: bs) (p1 :: p2 :: (led ++ bs)) := fun p hp => by
  rcases List.mem_cons.mp hp with rfl | hp
  · exact .head _
  rcases List.mem_cons.mp hp with rfl | hp
  · exact .tail _ (.head _)
  · exact .tail _ (.tail _ (List.mem_append.mpr (.inr hp)))
theorem done_lit {h₀ h : Heap} {L : Addr} {led bs' bs : List (Addr × Obj)} {p1 p2 : Addr × Obj} (N : News h₀ L h (led ++ bs')) (hs : Sub (p1 :: p2 :: bs) bs') : News h₀ L h (p1 :: p2 :: (led ++ bs)) ∧ Sub (p1 :: p2 :: bs) (p1 :: p2 :: (led ++ bs)) := by
  refine ⟨fun p hp => ?_, done_sub p1 p2⟩
  rcases List.mem_cons.mp hp with rfl | hp
  · exact N _ (List.mem_append.mpr (.inr (hs _ (.head _))))
  rcases List.mem_cons.mp hp with rfl | hp
  · exact N _ (List.mem_append.mpr (.inr (hs _ (.tail _ (.head _)))))
  rcases List.mem_append.mp hp with hp | hp
  · exact N _ (List.mem_append.mpr (.inl hp))
  · exact N _ (List.mem_append.mpr (.inr (hs _ (.tail _ (.tail _ hp)))))
theorem five_ne {z : Str} (h : [Str.ofString "told", Str.ofString "tree", Str.ofString "keys", Str.ofString "key", Str.ofString "thing"].contains z = false) :
    z ≠ Str.ofString "told" ∧ z ≠ Str.ofString "tree" ∧ z ≠ Str.ofString "keys" ∧ z ≠ Str.ofString "key" ∧ z ≠ Str.ofString "thing" := by
  refine ⟨?_, ?_, ?_, ?_, ?_⟩ <;> (rintro rfl; exact absurd h (by decide +kernel))
theorem allLt_of {P : Prop} {D : Addr} {l : List (Addr × Obj)} (h : P ∧ AllLt D l) : ∀ p ∈ l, p.1 < D := allLt_mem h.2

section
local macro_rules | `(tactic| passes_own) => `(tactic| assumption)

theorem law_tail {w : World} {dp un : Nat} {gd : Option (List Code)} {env : Env} {outer : List Env} {A₀ : Around} {base h₀ : Heap} {L : Addr} {m mg mb : Str → Option Value} {mean : ExcName → Option Value} {vq : Program} {vl : List Str} {s : Shared} {Q E : Value → Shared → Prop} {nm : Str} {fa : Addr} {cd : Value} {news : List (Addr × Obj)} {n : Int} {tn : Tok} {lce : Addr} {vce : List Value} {nce : Nat} {ces : List Int} {R : Flow → Shared → Prop}
    (B : Below A₀ base outer h₀) (F : Fr h₀ L s.heap m) (X : (K0 w.params).In h₀) (N : News h₀ L s.heap news) (T : Top vq vl mean mg mb h₀)
    (hdp : dp + 400 < recursionLimit) (hun : un + 4000 < cLine)
    (hm1 : m (Str.ofString "many") = some (.int n tn)) (hm2 : m (Str.ofString "cells") = some (.ref lce)) (mce : (lce, listOf vce.toArray nce) ∈ news) (ice : IntsAre vce ces) (h4 : 4 ≤ ces.length) (hp : ∀ x ∈ ces, 0 ≤ x) (hn0 : 0 < n) (hn5 : n ≤ 5)
    (hPO : PassesOwn (model Challenge.rw_xm0944_01.row.prog w) (tA dp un gd (envOf nm lawScope L fa cd) outer) (envOf nm lawScope L fa cd) E)
    (hret : ∀ h' tk' m', Fr h₀ L h' m' → R (.ret (.bool true)) { s with heap := h', toks := tk' }) :
    wpAny (model Challenge.rw_xm0944_01.row.prog w) (tA dp un gd (envOf nm lawScope L fa cd) outer) (execs (lawStmts.drop 3) (envOf nm lawScope L fa cd)) R E s := by
  refine execs_head rfl ?_
  revert hPO
  refine scope_head (P := fun sc => PassesOwn (model Challenge.rw_xm0944_01.row.prog w) (tA dp un gd (envOf nm sc L fa cd) outer) (envOf nm sc L fa cd) E → wpAny (model Challenge.rw_xm0944_01.row.prog w) (tA dp un gd (envOf nm sc L fa cd) outer) (execs _ (envOf nm sc L fa cd)) R E s) (sc := lawScope) rfl ?_
  intro hPO
  have hn5' : n.toNat ≤ 5 := by omega
  have em : m = (fun z => if z = Str.ofString "many" then some (.int n tn) else if z = Str.ofString "cells" then some (.ref lce) else m z) := by
    funext z
    by_cases q1 : z = Str.ofString "many"
    · subst q1; simpa using hm1
    · simp only [q1, if_false]
      by_cases q2 : z = Str.ofString "cells"
      · subst q2; simpa using hm2
      · simp only [q2, if_false]
  rw [em] at F
  clear hm1 hm2
  try k_fold
  iterate 64 (first | (k_unfold; (try dsimp only)) | (k_end; wrow_close) | ((with_reducible show wpAny _ _ (call (Value.builtin "list.append") _) _ _ _); (with_reducible show wpAny _ _ (call (Value.builtin _) [Value.ref _, TT.val _]) _ _ _); k_dflt (refine' append_T ?hM ?F ?N ?hs ?hb ?hI ?hsz ?_; (case hM => assumption); (case F => k_asm); (case N => k_asm); (case hs => repeat (first | assumption | exact Sub.left _ _ | refine Sub.app ?_ | refine Sub.cons ?_)); (case hb => assumption); (case hI => assumption); (case hsz => (rw [List.size_toArray, List.length_map]; omega)); k_whole); intro h' hTl' F' N'; (try k_sweep)) | ((with_reducible show wpAny _ _ (compareOp CmpOp.Eq (TT.val _) (TT.val _)) _ _ _); k_dflt (refine' eq_tt ?N ?s1 ?s2 ?e ?hsz ?hu ?_; (case N => k_asm); (case s1 => repeat (first | assumption | exact Sub.left _ _ | refine Sub.app ?_ | refine Sub.cons ?_)); (case s2 => repeat (first | assumption | exact Sub.left _ _ | refine Sub.app ?_ | refine Sub.cons ?_)); (case e => exact same_eq (by assumption) (by assumption)); (case hsz => exact same_size (by assumption)); (case hu => k_units); k_whole)) | ((with_reducible show wpAny _ _ (compareOp CmpOp.NotEq (TT.val _) (TT.val _)) _ _ _); k_dflt (refine' ne_tt ?N ?s1 ?s2 ?e ?hsz ?hu ?_; (case N => k_asm); (case s1 => repeat (first | assumption | exact Sub.left _ _ | refine Sub.app ?_ | refine Sub.cons ?_)); (case s2 => repeat (first | assumption | exact Sub.left _ _ | refine Sub.app ?_ | refine Sub.cons ?_)); (case e => exact turn_same (by assumption) (by assumption) (built_turn (by assumption) (by assumption) (by assumption) (by assumption)) (by assumption) (by rw [List.length_append, List.length_singleton]; omega)); (case hsz => exact read_size (by assumption) (by omega)); (case hu => k_units); k_whole)) | ((with_reducible show wpAny _ _ (pyIter (Value.ref _)) (fun it s₂ => LoopAtV _ _ _ _ _ (Str.ofString "key") _ _ _ it s₂) _ _); (k_dflt (refine' iter_in ?hM ?hlc ?hic ?hh ?hl ?hi ?hns ?hcs ?hn ?mc ?F ?N ?hsub ?ht ?hk ?hk0 ?turn2 ?done2; (case hM => assumption); (case hh => rfl); (case F => k_asm); (case N => k_asm); (case hlc => rfl); (case mc => k_mem); (case hic => assumption); (case hl => k_mem); (case hi => assumption); (case hns => assumption); (case hcs => assumption); (case hn => assumption); (case hsub => exact (fun p hp => by repeat (first | exact hp | refine List.mem_cons_of_mem _ ?_))); (case ht => rfl); (case hk => rfl); (case hk0 => k_mem); k_whole)); (case' turn2 => (intro mm' bb' hmm' hbb' t' lk' vk' nk' ks' key' tkey' bs' u' h' tk' I' oI' hB' hik' hnot' hall' hinj' hlt' hk0' hk1' hc64' hts' mk' mc' hsb' nd' F' N'; (have hem' := map_at hmm'); (rw [hem'] at F'); (try k_fold))); (case' done2 => (intro t' lk' bs' u' h' tk' hB' hts' hsb' F' N'; (have hNX' := done_lit N' hsb'); (clear N'); (obtain ⟨N', hX'⟩ := hNX'); (try k_fold)))) | ((with_reducible show wpAny _ _ (pyIter (Value.ref _)) (fun it s₂ => LoopAtV _ _ _ _ _ (Str.ofString "told") _ _ _ it s₂) _ _); (rename List.Perm _ (List.map Int.ofNat (List.range _)) => pc'); (k_dflt (refine' iter_out (sameOf pc') ?hh ?hlt ?hlc ?hl ?mt ?mc ?n1 ?n2 ?h1 ?h3 ?F ?N ?turn ?done; (case hh => rfl); (case F => k_asm); (case N => k_asm); (case hlt => rfl); (case hlc => rfl); (case hl => k_mem); (case mt => k_mem); (case mc => k_mem); (case n1 => (refine neN ?_; omega)); (case n2 => (refine neN ?_; omega)); (case h1 => assumption); (case h3 => assumption); k_whole)); (case' turn => (intro Ts' told' t' u' bs' n' h' tk' I' oI' i' hTs' hT2' ht' hb' hI' hcI' mc' hsb' hT' hbI' hM' F' N'; (try k_fold))); (case' done => (intro T1' T2' u' bs' n' h' tk' s1' s2' b1' b2' F' N'; (try k_fold)))) | ((with_reducible show wpAny _ _ (exec (Stmt.For (PySem.Expr.Name _ _) (PySem.Expr.Call _ _ _ _) _ _ _) _) _ _ _); (rename Fr _ _ _ _ => lF'); (with_unfolding_all refine' For_invVF lF' ?k1 ?k2 ?_; (case k1 => exact rfl); (case k2 => exact rfl); k_whole)) | ((with_reducible show wpAny _ _ (exec (Stmt.For (PySem.Expr.Name _ _) (PySem.Expr.List _ _) _ _ _) _) _ _ _); (rename Fr _ _ _ _ => lF'); (with_unfolding_all refine' For_invVF lF' ?k1 ?k2 ?_; (case k1 => exact rfl); (case k2 => exact rfl); k_whole)) | ((with_reducible show wpAny _ _ (subscriptTail _ _ (Value.ref _) (Value.int _ _)) _ _ _); k_dflt (refine' cell_item ?N ?m ?i ?h4 ?hp ?h0 ?hk ?_ ?s; (case N => k_asm); (case h4 => assumption); (case i => assumption); (case m => k_mem); (case hp => assumption); (case h0 => decide); (case hk => decide); (case s => with_unfolding_all rfl); k_whole); intro xC tC pC) | ((with_reducible show wpAny _ _ (call (Value.ref 267) _) _ _ _); k_dflt (refine' due_use (due_spec _ 5) ?B ?F ?X ?N ?T ?hf ?hke ?hdp ?hun ?mk ?mc ?ik ?ic ?hb ?hl ?h64 ?hf64 ?_; (case B => k_asm); (case F => k_asm); (case X => k_asm); (case N => k_asm); (case T => k_asm); (case hf => rfl); (case hke => rfl); (case hdp => k_room); (case hun => k_units); (case mk => k_mem); (case mc => k_mem); (case ik => first | assumption | exact IntsAre.append (by assumption) (.cons _ _ .nil)); (case ic => assumption); (case hb => assumption); (case hl => (rw [List.length_append, List.length_singleton]; omega)); (case h64 => assumption); (case hf64 => decide); k_whole); intro h' tk' T' e' F' N'; (try k_sweep)) | ((with_reducible show wpAny _ _ (call (Value.ref 262) _) _ _ _); k_dflt (refine' read_use (read_spec _ _) ?B ?F ?X ?N ?T ?hf ?hke ?hdp ?hun ?hs ?_; (case B => k_asm); (case F => k_asm); (case X => k_asm); (case N => k_asm); (case T => k_asm); (case hf => rfl); (case hke => rfl); (case hdp => k_room); (case hun => k_units); (case hs => repeat (first | assumption | exact Sub.left _ _ | refine Sub.app ?_ | refine Sub.cons ?_)); k_whole); intro h' tk' T' e' F' N'; (try k_sweep)) | ((with_reducible show wpAny _ _ (call (Value.ref 255) _) _ _ _); k_dflt (refine' put_use ?B ?F ?X ?N ?T ?hf ?hke ?hdp ?hun ?hnd ?hsub ?_; (case B => k_asm); (case F => k_asm); (case X => k_asm); (case N => k_asm); (case T => k_asm); (case hf => rfl); (case hke => rfl); (case hnd => assumption); (case hdp => k_room); (case hun => k_units); (case hsub => exact fun p hp => by repeat (first | exact hp | refine List.mem_cons_of_mem _ ?_)); k_whole); intro h' tk' tP eP sP F' N' nd'; (try k_sweep)) | ((with_reducible show wpAny _ _ (call (Value.ref 241) _) _ _ _); k_dflt (refine' made_spec ?B ?F ?X ?N ?T ?hf ?hke ?hdp ?hun ?l1 ?l2 ?hnd ?_; (case B => k_asm); (case F => k_asm); (case X => k_asm); (case N => k_asm); (case T => k_asm); (case hf => rfl); (case hke => rfl); (case hdp => k_room); (case hun => k_units); (case l1 => first | assumption | exact allLt_mem (by assumption)); (case l2 => refine ltN ?_; omega); (case hnd => assumption); k_whole); intro h' tk' zM nM tM uM F' N' nd'; (try k_sweep)) | ((with_reducible show wpAny _ _ (call (Value.ref 274) _) _ _ _); k_dflt (refine' order_spec ?B ?F ?X ?N ?T ?hf ?hke ?hdp ?hun ?h0 ?h5 ?ht ?_; (case B => k_asm); (case F => k_asm); (case X => k_asm); (case N => k_asm); (case T => k_asm); (case hf => rfl); (case hke => rfl); (case hdp => k_room); (case hun => k_units); (case h0 => assumption); (case h5 => assumption); (case ht => assumption); k_whole); intro h' tk' lO vO nO mO F' N' iO pO; (try k_sweep)) | walk1 | (dsimp only; first | ((with_reducible show wpAny _ _ (call (Value.builtin "list.append") _) _ _ _); (with_reducible show wpAny _ _ (call (Value.builtin _) [Value.ref _, TT.val _]) _ _ _); k_dflt (refine' append_T ?hM ?F ?N ?hs ?hb ?hI ?hsz ?_; (case hM => assumption); (case F => k_asm); (case N => k_asm); (case hs => repeat (first | assumption | exact Sub.left _ _ | refine Sub.app ?_ | refine Sub.cons ?_)); (case hb => assumption); (case hI => assumption); (case hsz => (rw [List.size_toArray, List.length_map]; omega)); k_whole); intro h' hTl' F' N'; (try k_sweep)) | ((with_reducible show wpAny _ _ (compareOp CmpOp.Eq (TT.val _) (TT.val _)) _ _ _); k_dflt (refine' eq_tt ?N ?s1 ?s2 ?e ?hsz ?hu ?_; (case N => k_asm); (case s1 => repeat (first | assumption | exact Sub.left _ _ | refine Sub.app ?_ | refine Sub.cons ?_)); (case s2 => repeat (first | assumption | exact Sub.left _ _ | refine Sub.app ?_ | refine Sub.cons ?_)); (case e => exact same_eq (by assumption) (by assumption)); (case hsz => exact same_size (by assumption)); (case hu => k_units); k_whole)) | ((with_reducible show wpAny _ _ (compareOp CmpOp.NotEq (TT.val _) (TT.val _)) _ _ _); k_dflt (refine' ne_tt ?N ?s1 ?s2 ?e ?hsz ?hu ?_; (case N => k_asm); (case s1 => repeat (first | assumption | exact Sub.left _ _ | refine Sub.app ?_ | refine Sub.cons ?_)); (case s2 => repeat (first | assumption | exact Sub.left _ _ | refine Sub.app ?_ | refine Sub.cons ?_)); (case e => exact turn_same (by assumption) (by assumption) (built_turn (by assumption) (by assumption) (by assumption) (by assumption)) (by assumption) (by rw [List.length_append, List.length_singleton]; omega)); (case hsz => exact read_size (by assumption) (by omega)); (case hu => k_units); k_whole)) | ((with_reducible show wpAny _ _ (pyIter (Value.ref _)) (fun it s₂ => LoopAtV _ _ _ _ _ (Str.ofString "key") _ _ _ it s₂) _ _); (k_dflt (refine' iter_in ?hM ?hlc ?hic ?hh ?hl ?hi ?hns ?hcs ?hn ?mc ?F ?N ?hsub ?ht ?hk ?hk0 ?turn2 ?done2; (case hM => assumption); (case hh => rfl); (case F => k_asm); (case N => k_asm); (case hlc => rfl); (case mc => k_mem); (case hic => assumption); (case hl => k_mem); (case hi => assumption); (case hns => assumption); (case hcs => assumption); (case hn => assumption); (case hsub => exact (fun p hp => by repeat (first | exact hp | refine List.mem_cons_of_mem _ ?_))); (case ht => rfl); (case hk => rfl); (case hk0 => k_mem); k_whole)); (case' turn2 => (intro mm' bb' hmm' hbb' t' lk' vk' nk' ks' key' tkey' bs' u' h' tk' I' oI' hB' hik' hnot' hall' hinj' hlt' hk0' hk1' hc64' hts' mk' mc' hsb' nd' F' N'; (have hem' := map_at hmm'); (rw [hem'] at F'); (try k_fold))); (case' done2 => (intro t' lk' bs' u' h' tk' hB' hts' hsb' F' N'; (have hNX' := done_lit N' hsb'); (clear N'); (obtain ⟨N', hX'⟩ := hNX'); (try k_fold)))) | ((with_reducible show wpAny _ _ (pyIter (Value.ref _)) (fun it s₂ => LoopAtV _ _ _ _ _ (Str.ofString "told") _ _ _ it s₂) _ _); (rename List.Perm _ (List.map Int.ofNat (List.range _)) => pc'); (k_dflt (refine' iter_out (sameOf pc') ?hh ?hlt ?hlc ?hl ?mt ?mc ?n1 ?n2 ?h1 ?h3 ?F ?N ?turn ?done; (case hh => rfl); (case F => k_asm); (case N => k_asm); (case hlt => rfl); (case hlc => rfl); (case hl => k_mem); (case mt => k_mem); (case mc => k_mem); (case n1 => (refine neN ?_; omega)); (case n2 => (refine neN ?_; omega)); (case h1 => assumption); (case h3 => assumption); k_whole)); (case' turn => (intro Ts' told' t' u' bs' n' h' tk' I' oI' i' hTs' hT2' ht' hb' hI' hcI' mc' hsb' hT' hbI' hM' F' N'; (try k_fold))); (case' done => (intro T1' T2' u' bs' n' h' tk' s1' s2' b1' b2' F' N'; (try k_fold)))) | ((with_reducible show wpAny _ _ (exec (Stmt.For (PySem.Expr.Name _ _) (PySem.Expr.Call _ _ _ _) _ _ _) _) _ _ _); (rename Fr _ _ _ _ => lF'); (with_unfolding_all refine' For_invVF lF' ?k1 ?k2 ?_; (case k1 => exact rfl); (case k2 => exact rfl); k_whole)) | ((with_reducible show wpAny _ _ (exec (Stmt.For (PySem.Expr.Name _ _) (PySem.Expr.List _ _) _ _ _) _) _ _ _); (rename Fr _ _ _ _ => lF'); (with_unfolding_all refine' For_invVF lF' ?k1 ?k2 ?_; (case k1 => exact rfl); (case k2 => exact rfl); k_whole)) | ((with_reducible show wpAny _ _ (subscriptTail _ _ (Value.ref _) (Value.int _ _)) _ _ _); k_dflt (refine' cell_item ?N ?m ?i ?h4 ?hp ?h0 ?hk ?_ ?s; (case N => k_asm); (case h4 => assumption); (case i => assumption); (case m => k_mem); (case hp => assumption); (case h0 => decide); (case hk => decide); (case s => with_unfolding_all rfl); k_whole); intro xC tC pC) | ((with_reducible show wpAny _ _ (call (Value.ref 267) _) _ _ _); k_dflt (refine' due_use (due_spec _ 5) ?B ?F ?X ?N ?T ?hf ?hke ?hdp ?hun ?mk ?mc ?ik ?ic ?hb ?hl ?h64 ?hf64 ?_; (case B => k_asm); (case F => k_asm); (case X => k_asm); (case N => k_asm); (case T => k_asm); (case hf => rfl); (case hke => rfl); (case hdp => k_room); (case hun => k_units); (case mk => k_mem); (case mc => k_mem); (case ik => first | assumption | exact IntsAre.append (by assumption) (.cons _ _ .nil)); (case ic => assumption); (case hb => assumption); (case hl => (rw [List.length_append, List.length_singleton]; omega)); (case h64 => assumption); (case hf64 => decide); k_whole); intro h' tk' T' e' F' N'; (try k_sweep)) | ((with_reducible show wpAny _ _ (call (Value.ref 262) _) _ _ _); k_dflt (refine' read_use (read_spec _ _) ?B ?F ?X ?N ?T ?hf ?hke ?hdp ?hun ?hs ?_; (case B => k_asm); (case F => k_asm); (case X => k_asm); (case N => k_asm); (case T => k_asm); (case hf => rfl); (case hke => rfl); (case hdp => k_room); (case hun => k_units); (case hs => repeat (first | assumption | exact Sub.left _ _ | refine Sub.app ?_ | refine Sub.cons ?_)); k_whole); intro h' tk' T' e' F' N'; (try k_sweep)) | ((with_reducible show wpAny _ _ (call (Value.ref 255) _) _ _ _); k_dflt (refine' put_use ?B ?F ?X ?N ?T ?hf ?hke ?hdp ?hun ?hnd ?hsub ?_; (case B => k_asm); (case F => k_asm); (case X => k_asm); (case N => k_asm); (case T => k_asm); (case hf => rfl); (case hke => rfl); (case hnd => assumption); (case hdp => k_room); (case hun => k_units); (case hsub => exact fun p hp => by repeat (first | exact hp | refine List.mem_cons_of_mem _ ?_)); k_whole); intro h' tk' tP eP sP F' N' nd'; (try k_sweep)) | ((with_reducible show wpAny _ _ (call (Value.ref 241) _) _ _ _); k_dflt (refine' made_spec ?B ?F ?X ?N ?T ?hf ?hke ?hdp ?hun ?l1 ?l2 ?hnd ?_; (case B => k_asm); (case F => k_asm); (case X => k_asm); (case N => k_asm); (case T => k_asm); (case hf => rfl); (case hke => rfl); (case hdp => k_room); (case hun => k_units); (case l1 => first | assumption | exact allLt_mem (by assumption)); (case l2 => refine ltN ?_; omega); (case hnd => assumption); k_whole); intro h' tk' zM nM tM uM F' N' nd'; (try k_sweep)) | ((with_reducible show wpAny _ _ (call (Value.ref 274) _) _ _ _); k_dflt (refine' order_spec ?B ?F ?X ?N ?T ?hf ?hke ?hdp ?hun ?h0 ?h5 ?ht ?_; (case B => k_asm); (case F => k_asm); (case X => k_asm); (case N => k_asm); (case T => k_asm); (case hf => rfl); (case hke => rfl); (case hdp => k_room); (case hun => k_units); (case h0 => assumption); (case h5 => assumption); (case ht => assumption); k_whole); intro h' tk' lO vO nO mO F' N' iO pO; (try k_sweep)) | walk1) | (leave1; walk_say "STEP leave1"; try dsimp only) | skip)
  · exact hret _ _ _ (by assumption)
  · iterate 33 (first | (k_unfold; (try dsimp only)) | (k_end; wrow_close) | ((with_reducible show wpAny _ _ (call (Value.builtin "list.append") _) _ _ _); (with_reducible show wpAny _ _ (call (Value.builtin _) [Value.ref _, TT.val _]) _ _ _); k_dflt (refine' append_T ?hM ?F ?N ?hs ?hb ?hI ?hsz ?_; (case hM => assumption); (case F => k_asm); (case N => k_asm); (case hs => repeat (first | assumption | exact Sub.left _ _ | refine Sub.app ?_ | refine Sub.cons ?_)); (case hb => assumption); (case hI => assumption); (case hsz => (rw [List.size_toArray, List.length_map]; omega)); k_whole); intro h' hTl' F' N'; (try k_sweep)) | ((with_reducible show wpAny _ _ (compareOp CmpOp.Eq (TT.val _) (TT.val _)) _ _ _); k_dflt (refine' eq_tt ?N ?s1 ?s2 ?e ?hsz ?hu ?_; (case N => k_asm); (case s1 => repeat (first | assumption | exact Sub.left _ _ | refine Sub.app ?_ | refine Sub.cons ?_)); (case s2 => repeat (first | assumption | exact Sub.left _ _ | refine Sub.app ?_ | refine Sub.cons ?_)); (case e => exact same_eq (by assumption) (by assumption)); (case hsz => exact same_size (by assumption)); (case hu => k_units); k_whole)) | ((with_reducible show wpAny _ _ (compareOp CmpOp.NotEq (TT.val _) (TT.val _)) _ _ _); k_dflt (refine' ne_tt ?N ?s1 ?s2 ?e ?hsz ?hu ?_; (case N => k_asm); (case s1 => repeat (first | assumption | exact Sub.left _ _ | refine Sub.app ?_ | refine Sub.cons ?_)); (case s2 => repeat (first | assumption | exact Sub.left _ _ | refine Sub.app ?_ | refine Sub.cons ?_)); (case e => exact turn_same (by assumption) (by assumption) (built_turn (by assumption) (by assumption) (by assumption) (by assumption)) (by assumption) (by rw [List.length_append, List.length_singleton]; omega)); (case hsz => exact read_size (by assumption) (by omega)); (case hu => k_units); k_whole)) | ((with_reducible show wpAny _ _ (pyIter (Value.ref _)) (fun it s₂ => LoopAtV _ _ _ _ _ (Str.ofString "key") _ _ _ it s₂) _ _); (k_dflt (refine' iter_in ?hM ?hlc ?hic ?hh ?hl ?hi ?hns ?hcs ?hn ?mc ?F ?N ?hsub ?ht ?hk ?hk0 ?turn2 ?done2; (case hM => assumption); (case hh => rfl); (case F => k_asm); (case N => k_asm); (case hlc => rfl); (case mc => k_mem); (case hic => assumption); (case hl => k_mem); (case hi => assumption); (case hns => assumption); (case hcs => assumption); (case hn => assumption); (case hsub => exact (fun p hp => by repeat (first | exact hp | refine List.mem_cons_of_mem _ ?_))); (case ht => rfl); (case hk => rfl); (case hk0 => k_mem); k_whole)); (case' turn2 => (intro mm' bb' hmm' hbb' t' lk' vk' nk' ks' key' tkey' bs' u' h' tk' I' oI' hB' hik' hnot' hall' hinj' hlt' hk0' hk1' hc64' hts' mk' mc' hsb' nd' F' N'; (have hem' := map_at hmm'); (rw [hem'] at F'); (try k_fold))); (case' done2 => (intro t' lk' bs' u' h' tk' hB' hts' hsb' F' N'; (have hNX' := done_lit N' hsb'); (clear N'); (obtain ⟨N', hX'⟩ := hNX'); (try k_fold)))) | ((with_reducible show wpAny _ _ (pyIter (Value.ref _)) (fun it s₂ => LoopAtV _ _ _ _ _ (Str.ofString "told") _ _ _ it s₂) _ _); (rename List.Perm _ (List.map Int.ofNat (List.range _)) => pc'); (k_dflt (refine' iter_out (sameOf pc') ?hh ?hlt ?hlc ?hl ?mt ?mc ?n1 ?n2 ?h1 ?h3 ?F ?N ?turn ?done; (case hh => rfl); (case F => k_asm); (case N => k_asm); (case hlt => rfl); (case hlc => rfl); (case hl => k_mem); (case mt => k_mem); (case mc => k_mem); (case n1 => (refine neN ?_; omega)); (case n2 => (refine neN ?_; omega)); (case h1 => assumption); (case h3 => assumption); k_whole)); (case' turn => (intro Ts' told' t' u' bs' n' h' tk' I' oI' i' hTs' hT2' ht' hb' hI' hcI' mc' hsb' hT' hbI' hM' F' N'; (try k_fold))); (case' done => (intro T1' T2' u' bs' n' h' tk' s1' s2' b1' b2' F' N'; (try k_fold)))) | ((with_reducible show wpAny _ _ (exec (Stmt.For (PySem.Expr.Name _ _) (PySem.Expr.Call _ _ _ _) _ _ _) _) _ _ _); (rename Fr _ _ _ _ => lF'); (with_unfolding_all refine' For_invVF lF' ?k1 ?k2 ?_; (case k1 => exact rfl); (case k2 => exact rfl); k_whole)) | ((with_reducible show wpAny _ _ (exec (Stmt.For (PySem.Expr.Name _ _) (PySem.Expr.List _ _) _ _ _) _) _ _ _); (rename Fr _ _ _ _ => lF'); (with_unfolding_all refine' For_invVF lF' ?k1 ?k2 ?_; (case k1 => exact rfl); (case k2 => exact rfl); k_whole)) | ((with_reducible show wpAny _ _ (subscriptTail _ _ (Value.ref _) (Value.int _ _)) _ _ _); k_dflt (refine' cell_item ?N ?m ?i ?h4 ?hp ?h0 ?hk ?_ ?s; (case N => k_asm); (case h4 => assumption); (case i => assumption); (case m => k_mem); (case hp => assumption); (case h0 => decide); (case hk => decide); (case s => with_unfolding_all rfl); k_whole); intro xC tC pC) | ((with_reducible show wpAny _ _ (call (Value.ref 267) _) _ _ _); k_dflt (refine' due_use (due_spec _ 5) ?B ?F ?X ?N ?T ?hf ?hke ?hdp ?hun ?mk ?mc ?ik ?ic ?hb ?hl ?h64 ?hf64 ?_; (case B => k_asm); (case F => k_asm); (case X => k_asm); (case N => k_asm); (case T => k_asm); (case hf => rfl); (case hke => rfl); (case hdp => k_room); (case hun => k_units); (case mk => k_mem); (case mc => k_mem); (case ik => first | assumption | exact IntsAre.append (by assumption) (.cons _ _ .nil)); (case ic => assumption); (case hb => assumption); (case hl => (rw [List.length_append, List.length_singleton]; omega)); (case h64 => assumption); (case hf64 => decide); k_whole); intro h' tk' T' e' F' N'; (try k_sweep)) | ((with_reducible show wpAny _ _ (call (Value.ref 262) _) _ _ _); k_dflt (refine' read_use (read_spec _ _) ?B ?F ?X ?N ?T ?hf ?hke ?hdp ?hun ?hs ?_; (case B => k_asm); (case F => k_asm); (case X => k_asm); (case N => k_asm); (case T => k_asm); (case hf => rfl); (case hke => rfl); (case hdp => k_room); (case hun => k_units); (case hs => repeat (first | assumption | exact Sub.left _ _ | refine Sub.app ?_ | refine Sub.cons ?_)); k_whole); intro h' tk' T' e' F' N'; (try k_sweep)) | ((with_reducible show wpAny _ _ (call (Value.ref 255) _) _ _ _); k_dflt (refine' put_use ?B ?F ?X ?N ?T ?hf ?hke ?hdp ?hun ?hnd ?hsub ?_; (case B => k_asm); (case F => k_asm); (case X => k_asm); (case N => k_asm); (case T => k_asm); (case hf => rfl); (case hke => rfl); (case hnd => assumption); (case hdp => k_room); (case hun => k_units); (case hsub => exact fun p hp => by repeat (first | exact hp | refine List.mem_cons_of_mem _ ?_)); k_whole); intro h' tk' tP eP sP F' N' nd'; (try k_sweep)) | ((with_reducible show wpAny _ _ (call (Value.ref 241) _) _ _ _); k_dflt (refine' made_spec ?B ?F ?X ?N ?T ?hf ?hke ?hdp ?hun ?l1 ?l2 ?hnd ?_; (case B => k_asm); (case F => k_asm); (case X => k_asm); (case N => k_asm); (case T => k_asm); (case hf => rfl); (case hke => rfl); (case hdp => k_room); (case hun => k_units); (case l1 => first | assumption | exact allLt_mem (by assumption)); (case l2 => refine ltN ?_; omega); (case hnd => assumption); k_whole); intro h' tk' zM nM tM uM F' N' nd'; (try k_sweep)) | ((with_reducible show wpAny _ _ (call (Value.ref 274) _) _ _ _); k_dflt (refine' order_spec ?B ?F ?X ?N ?T ?hf ?hke ?hdp ?hun ?h0 ?h5 ?ht ?_; (case B => k_asm); (case F => k_asm); (case X => k_asm); (case N => k_asm); (case T => k_asm); (case hf => rfl); (case hke => rfl); (case hdp => k_room); (case hun => k_units); (case h0 => assumption); (case h5 => assumption); (case ht => assumption); k_whole); intro h' tk' lO vO nO mO F' N' iO pO; (try k_sweep)) | walk1 | (dsimp only; first | ((with_reducible show wpAny _ _ (call (Value.builtin "list.append") _) _ _ _); (with_reducible show wpAny _ _ (call (Value.builtin _) [Value.ref _, TT.val _]) _ _ _); k_dflt (refine' append_T ?hM ?F ?N ?hs ?hb ?hI ?hsz ?_; (case hM => assumption); (case F => k_asm); (case N => k_asm); (case hs => repeat (first | assumption | exact Sub.left _ _ | refine Sub.app ?_ | refine Sub.cons ?_)); (case hb => assumption); (case hI => assumption); (case hsz => (rw [List.size_toArray, List.length_map]; omega)); k_whole); intro h' hTl' F' N'; (try k_sweep)) | ((with_reducible show wpAny _ _ (compareOp CmpOp.Eq (TT.val _) (TT.val _)) _ _ _); k_dflt (refine' eq_tt ?N ?s1 ?s2 ?e ?hsz ?hu ?_; (case N => k_asm); (case s1 => repeat (first | assumption | exact Sub.left _ _ | refine Sub.app ?_ | refine Sub.cons ?_)); (case s2 => repeat (first | assumption | exact Sub.left _ _ | refine Sub.app ?_ | refine Sub.cons ?_)); (case e => exact same_eq (by assumption) (by assumption)); (case hsz => exact same_size (by assumption)); (case hu => k_units); k_whole)) | ((with_reducible show wpAny _ _ (compareOp CmpOp.NotEq (TT.val _) (TT.val _)) _ _ _); k_dflt (refine' ne_tt ?N ?s1 ?s2 ?e ?hsz ?hu ?_; (case N => k_asm); (case s1 => repeat (first | assumption | exact Sub.left _ _ | refine Sub.app ?_ | refine Sub.cons ?_)); (case s2 => repeat (first | assumption | exact Sub.left _ _ | refine Sub.app ?_ | refine Sub.cons ?_)); (case e => exact turn_same (by assumption) (by assumption) (built_turn (by assumption) (by assumption) (by assumption) (by assumption)) (by assumption) (by rw [List.length_append, List.length_singleton]; omega)); (case hsz => exact read_size (by assumption) (by omega)); (case hu => k_units); k_whole)) | ((with_reducible show wpAny _ _ (pyIter (Value.ref _)) (fun it s₂ => LoopAtV _ _ _ _ _ (Str.ofString "key") _ _ _ it s₂) _ _); (k_dflt (refine' iter_in ?hM ?hlc ?hic ?hh ?hl ?hi ?hns ?hcs ?hn ?mc ?F ?N ?hsub ?ht ?hk ?hk0 ?turn2 ?done2; (case hM => assumption); (case hh => rfl); (case F => k_asm); (case N => k_asm); (case hlc => rfl); (case mc => k_mem); (case hic => assumption); (case hl => k_mem); (case hi => assumption); (case hns => assumption); (case hcs => assumption); (case hn => assumption); (case hsub => exact (fun p hp => by repeat (first | exact hp | refine List.mem_cons_of_mem _ ?_))); (case ht => rfl); (case hk => rfl); (case hk0 => k_mem); k_whole)); (case' turn2 => (intro mm' bb' hmm' hbb' t' lk' vk' nk' ks' key' tkey' bs' u' h' tk' I' oI' hB' hik' hnot' hall' hinj' hlt' hk0' hk1' hc64' hts' mk' mc' hsb' nd' F' N'; (have hem' := map_at hmm'); (rw [hem'] at F'); (try k_fold))); (case' done2 => (intro t' lk' bs' u' h' tk' hB' hts' hsb' F' N'; (have hNX' := done_lit N' hsb'); (clear N'); (obtain ⟨N', hX'⟩ := hNX'); (try k_fold)))) | ((with_reducible show wpAny _ _ (pyIter (Value.ref _)) (fun it s₂ => LoopAtV _ _ _ _ _ (Str.ofString "told") _ _ _ it s₂) _ _); (rename List.Perm _ (List.map Int.ofNat (List.range _)) => pc'); (k_dflt (refine' iter_out (sameOf pc') ?hh ?hlt ?hlc ?hl ?mt ?mc ?n1 ?n2 ?h1 ?h3 ?F ?N ?turn ?done; (case hh => rfl); (case F => k_asm); (case N => k_asm); (case hlt => rfl); (case hlc => rfl); (case hl => k_mem); (case mt => k_mem); (case mc => k_mem); (case n1 => (refine neN ?_; omega)); (case n2 => (refine neN ?_; omega)); (case h1 => assumption); (case h3 => assumption); k_whole)); (case' turn => (intro Ts' told' t' u' bs' n' h' tk' I' oI' i' hTs' hT2' ht' hb' hI' hcI' mc' hsb' hT' hbI' hM' F' N'; (try k_fold))); (case' done => (intro T1' T2' u' bs' n' h' tk' s1' s2' b1' b2' F' N'; (try k_fold)))) | ((with_reducible show wpAny _ _ (exec (Stmt.For (PySem.Expr.Name _ _) (PySem.Expr.Call _ _ _ _) _ _ _) _) _ _ _); (rename Fr _ _ _ _ => lF'); (with_unfolding_all refine' For_invVF lF' ?k1 ?k2 ?_; (case k1 => exact rfl); (case k2 => exact rfl); k_whole)) | ((with_reducible show wpAny _ _ (exec (Stmt.For (PySem.Expr.Name _ _) (PySem.Expr.List _ _) _ _ _) _) _ _ _); (rename Fr _ _ _ _ => lF'); (with_unfolding_all refine' For_invVF lF' ?k1 ?k2 ?_; (case k1 => exact rfl); (case k2 => exact rfl); k_whole)) | ((with_reducible show wpAny _ _ (subscriptTail _ _ (Value.ref _) (Value.int _ _)) _ _ _); k_dflt (refine' cell_item ?N ?m ?i ?h4 ?hp ?h0 ?hk ?_ ?s; (case N => k_asm); (case h4 => assumption); (case i => assumption); (case m => k_mem); (case hp => assumption); (case h0 => decide); (case hk => decide); (case s => with_unfolding_all rfl); k_whole); intro xC tC pC) | ((with_reducible show wpAny _ _ (call (Value.ref 267) _) _ _ _); k_dflt (refine' due_use (due_spec _ 5) ?B ?F ?X ?N ?T ?hf ?hke ?hdp ?hun ?mk ?mc ?ik ?ic ?hb ?hl ?h64 ?hf64 ?_; (case B => k_asm); (case F => k_asm); (case X => k_asm); (case N => k_asm); (case T => k_asm); (case hf => rfl); (case hke => rfl); (case hdp => k_room); (case hun => k_units); (case mk => k_mem); (case mc => k_mem); (case ik => first | assumption | exact IntsAre.append (by assumption) (.cons _ _ .nil)); (case ic => assumption); (case hb => assumption); (case hl => (rw [List.length_append, List.length_singleton]; omega)); (case h64 => assumption); (case hf64 => decide); k_whole); intro h' tk' T' e' F' N'; (try k_sweep)) | ((with_reducible show wpAny _ _ (call (Value.ref 262) _) _ _ _); k_dflt (refine' read_use (read_spec _ _) ?B ?F ?X ?N ?T ?hf ?hke ?hdp ?hun ?hs ?_; (case B => k_asm); (case F => k_asm); (case X => k_asm); (case N => k_asm); (case T => k_asm); (case hf => rfl); (case hke => rfl); (case hdp => k_room); (case hun => k_units); (case hs => repeat (first | assumption | exact Sub.left _ _ | refine Sub.app ?_ | refine Sub.cons ?_)); k_whole); intro h' tk' T' e' F' N'; (try k_sweep)) | ((with_reducible show wpAny _ _ (call (Value.ref 255) _) _ _ _); k_dflt (refine' put_use ?B ?F ?X ?N ?T ?hf ?hke ?hdp ?hun ?hnd ?hsub ?_; (case B => k_asm); (case F => k_asm); (case X => k_asm); (case N => k_asm); (case T => k_asm); (case hf => rfl); (case hke => rfl); (case hnd => assumption); (case hdp => k_room); (case hun => k_units); (case hsub => exact fun p hp => by repeat (first | exact hp | refine List.mem_cons_of_mem _ ?_)); k_whole); intro h' tk' tP eP sP F' N' nd'; (try k_sweep)) | ((with_reducible show wpAny _ _ (call (Value.ref 241) _) _ _ _); k_dflt (refine' made_spec ?B ?F ?X ?N ?T ?hf ?hke ?hdp ?hun ?l1 ?l2 ?hnd ?_; (case B => k_asm); (case F => k_asm); (case X => k_asm); (case N => k_asm); (case T => k_asm); (case hf => rfl); (case hke => rfl); (case hdp => k_room); (case hun => k_units); (case l1 => first | assumption | exact allLt_mem (by assumption)); (case l2 => refine ltN ?_; omega); (case hnd => assumption); k_whole); intro h' tk' zM nM tM uM F' N' nd'; (try k_sweep)) | ((with_reducible show wpAny _ _ (call (Value.ref 274) _) _ _ _); k_dflt (refine' order_spec ?B ?F ?X ?N ?T ?hf ?hke ?hdp ?hun ?h0 ?h5 ?ht ?_; (case B => k_asm); (case F => k_asm); (case X => k_asm); (case N => k_asm); (case T => k_asm); (case hf => rfl); (case hke => rfl); (case hdp => k_room); (case hun => k_units); (case h0 => assumption); (case h5 => assumption); (case ht => assumption); k_whole); intro h' tk' lO vO nO mO F' N' iO pO; (try k_sweep)) | walk1) | (leave1; walk_say "STEP leave1"; try dsimp only) | skip)
    · iterate 21 (first | (k_unfold; (try dsimp only)) | (k_end; wrow_close) | ((with_reducible show wpAny _ _ (call (Value.builtin "list.append") _) _ _ _); (with_reducible show wpAny _ _ (call (Value.builtin _) [Value.ref _, TT.val _]) _ _ _); k_dflt (refine' append_T ?hM ?F ?N ?hs ?hb ?hI ?hsz ?_; (case hM => assumption); (case F => k_asm); (case N => k_asm); (case hs => repeat (first | assumption | exact Sub.left _ _ | refine Sub.app ?_ | refine Sub.cons ?_)); (case hb => assumption); (case hI => assumption); (case hsz => (rw [List.size_toArray, List.length_map]; omega)); k_whole); intro h' hTl' F' N'; (try k_sweep)) | ((with_reducible show wpAny _ _ (compareOp CmpOp.Eq (TT.val _) (TT.val _)) _ _ _); k_dflt (refine' eq_tt ?N ?s1 ?s2 ?e ?hsz ?hu ?_; (case N => k_asm); (case s1 => repeat (first | assumption | exact Sub.left _ _ | refine Sub.app ?_ | refine Sub.cons ?_)); (case s2 => repeat (first | assumption | exact Sub.left _ _ | refine Sub.app ?_ | refine Sub.cons ?_)); (case e => exact same_eq (by assumption) (by assumption)); (case hsz => exact same_size (by assumption)); (case hu => k_units); k_whole)) | ((with_reducible show wpAny _ _ (compareOp CmpOp.NotEq (TT.val _) (TT.val _)) _ _ _); k_dflt (refine' ne_tt ?N ?s1 ?s2 ?e ?hsz ?hu ?_; (case N => k_asm); (case s1 => repeat (first | assumption | exact Sub.left _ _ | refine Sub.app ?_ | refine Sub.cons ?_)); (case s2 => repeat (first | assumption | exact Sub.left _ _ | refine Sub.app ?_ | refine Sub.cons ?_)); (case e => exact turn_same (by assumption) (by assumption) (built_turn (by assumption) (by assumption) (by assumption) (by assumption)) (by assumption) (by rw [List.length_append, List.length_singleton]; omega)); (case hsz => exact read_size (by assumption) (by omega)); (case hu => k_units); k_whole)) | ((with_reducible show wpAny _ _ (pyIter (Value.ref _)) (fun it s₂ => LoopAtV _ _ _ _ _ (Str.ofString "key") _ _ _ it s₂) _ _); (k_dflt (refine' iter_in ?hM ?hlc ?hic ?hh ?hl ?hi ?hns ?hcs ?hn ?mc ?F ?N ?hsub ?ht ?hk ?hk0 ?turn2 ?done2; (case hM => assumption); (case hh => rfl); (case F => k_asm); (case N => k_asm); (case hlc => rfl); (case mc => k_mem); (case hic => assumption); (case hl => k_mem); (case hi => assumption); (case hns => assumption); (case hcs => assumption); (case hn => assumption); (case hsub => exact (fun p hp => by repeat (first | exact hp | refine List.mem_cons_of_mem _ ?_))); (case ht => rfl); (case hk => rfl); (case hk0 => k_mem); k_whole)); (case' turn2 => (intro mm' bb' hmm' hbb' t' lk' vk' nk' ks' key' tkey' bs' u' h' tk' I' oI' hB' hik' hnot' hall' hinj' hlt' hk0' hk1' hc64' hts' mk' mc' hsb' nd' F' N'; (have hem' := map_at hmm'); (rw [hem'] at F'); (try k_fold))); (case' done2 => (intro t' lk' bs' u' h' tk' hB' hts' hsb' F' N'; (have hNX' := done_lit N' hsb'); (clear N'); (obtain ⟨N', hX'⟩ := hNX'); (try k_fold)))) | ((with_reducible show wpAny _ _ (pyIter (Value.ref _)) (fun it s₂ => LoopAtV _ _ _ _ _ (Str.ofString "told") _ _ _ it s₂) _ _); (rename List.Perm _ (List.map Int.ofNat (List.range _)) => pc'); (k_dflt (refine' iter_out (sameOf pc') ?hh ?hlt ?hlc ?hl ?mt ?mc ?n1 ?n2 ?h1 ?h3 ?F ?N ?turn ?done; (case hh => rfl); (case F => k_asm); (case N => k_asm); (case hlt => rfl); (case hlc => rfl); (case hl => k_mem); (case mt => k_mem); (case mc => k_mem); (case n1 => (refine neN ?_; omega)); (case n2 => (refine neN ?_; omega)); (case h1 => assumption); (case h3 => assumption); k_whole)); (case' turn => (intro Ts' told' t' u' bs' n' h' tk' I' oI' i' hTs' hT2' ht' hb' hI' hcI' mc' hsb' hT' hbI' hM' F' N'; (try k_fold))); (case' done => (intro T1' T2' u' bs' n' h' tk' s1' s2' b1' b2' F' N'; (try k_fold)))) | ((with_reducible show wpAny _ _ (exec (Stmt.For (PySem.Expr.Name _ _) (PySem.Expr.Call _ _ _ _) _ _ _) _) _ _ _); (rename Fr _ _ _ _ => lF'); (with_unfolding_all refine' For_invVF lF' ?k1 ?k2 ?_; (case k1 => exact rfl); (case k2 => exact rfl); k_whole)) | ((with_reducible show wpAny _ _ (exec (Stmt.For (PySem.Expr.Name _ _) (PySem.Expr.List _ _) _ _ _) _) _ _ _); (rename Fr _ _ _ _ => lF'); (with_unfolding_all refine' For_invVF lF' ?k1 ?k2 ?_; (case k1 => exact rfl); (case k2 => exact rfl); k_whole)) | ((with_reducible show wpAny _ _ (subscriptTail _ _ (Value.ref _) (Value.int _ _)) _ _ _); k_dflt (refine' cell_item ?N ?m ?i ?h4 ?hp ?h0 ?hk ?_ ?s; (case N => k_asm); (case h4 => assumption); (case i => assumption); (case m => k_mem); (case hp => assumption); (case h0 => decide); (case hk => decide); (case s => with_unfolding_all rfl); k_whole); intro xC tC pC) | ((with_reducible show wpAny _ _ (call (Value.ref 267) _) _ _ _); k_dflt (refine' due_use (due_spec _ 5) ?B ?F ?X ?N ?T ?hf ?hke ?hdp ?hun ?mk ?mc ?ik ?ic ?hb ?hl ?h64 ?hf64 ?_; (case B => k_asm); (case F => k_asm); (case X => k_asm); (case N => k_asm); (case T => k_asm); (case hf => rfl); (case hke => rfl); (case hdp => k_room); (case hun => k_units); (case mk => k_mem); (case mc => k_mem); (case ik => first | assumption | exact IntsAre.append (by assumption) (.cons _ _ .nil)); (case ic => assumption); (case hb => assumption); (case hl => (rw [List.length_append, List.length_singleton]; omega)); (case h64 => assumption); (case hf64 => decide); k_whole); intro h' tk' T' e' F' N'; (try k_sweep)) | ((with_reducible show wpAny _ _ (call (Value.ref 262) _) _ _ _); k_dflt (refine' read_use (read_spec _ _) ?B ?F ?X ?N ?T ?hf ?hke ?hdp ?hun ?hs ?_; (case B => k_asm); (case F => k_asm); (case X => k_asm); (case N => k_asm); (case T => k_asm); (case hf => rfl); (case hke => rfl); (case hdp => k_room); (case hun => k_units); (case hs => repeat (first | assumption | exact Sub.left _ _ | refine Sub.app ?_ | refine Sub.cons ?_)); k_whole); intro h' tk' T' e' F' N'; (try k_sweep)) | ((with_reducible show wpAny _ _ (call (Value.ref 255) _) _ _ _); k_dflt (refine' put_use ?B ?F ?X ?N ?T ?hf ?hke ?hdp ?hun ?hnd ?hsub ?_; (case B => k_asm); (case F => k_asm); (case X => k_asm); (case N => k_asm); (case T => k_asm); (case hf => rfl); (case hke => rfl); (case hnd => assumption); (case hdp => k_room); (case hun => k_units); (case hsub => exact fun p hp => by repeat (first | exact hp | refine List.mem_cons_of_mem _ ?_)); k_whole); intro h' tk' tP eP sP F' N' nd'; (try k_sweep)) | ((with_reducible show wpAny _ _ (call (Value.ref 241) _) _ _ _); k_dflt (refine' made_spec ?B ?F ?X ?N ?T ?hf ?hke ?hdp ?hun ?l1 ?l2 ?hnd ?_; (case B => k_asm); (case F => k_asm); (case X => k_asm); (case N => k_asm); (case T => k_asm); (case hf => rfl); (case hke => rfl); (case hdp => k_room); (case hun => k_units); (case l1 => first | assumption | exact allLt_mem (by assumption)); (case l2 => refine ltN ?_; omega); (case hnd => assumption); k_whole); intro h' tk' zM nM tM uM F' N' nd'; (try k_sweep)) | ((with_reducible show wpAny _ _ (call (Value.ref 274) _) _ _ _); k_dflt (refine' order_spec ?B ?F ?X ?N ?T ?hf ?hke ?hdp ?hun ?h0 ?h5 ?ht ?_; (case B => k_asm); (case F => k_asm); (case X => k_asm); (case N => k_asm); (case T => k_asm); (case hf => rfl); (case hke => rfl); (case hdp => k_room); (case hun => k_units); (case h0 => assumption); (case h5 => assumption); (case ht => assumption); k_whole); intro h' tk' lO vO nO mO F' N' iO pO; (try k_sweep)) | walk1 | (dsimp only; first | ((with_reducible show wpAny _ _ (call (Value.builtin "list.append") _) _ _ _); (with_reducible show wpAny _ _ (call (Value.builtin _) [Value.ref _, TT.val _]) _ _ _); k_dflt (refine' append_T ?hM ?F ?N ?hs ?hb ?hI ?hsz ?_; (case hM => assumption); (case F => k_asm); (case N => k_asm); (case hs => repeat (first | assumption | exact Sub.left _ _ | refine Sub.app ?_ | refine Sub.cons ?_)); (case hb => assumption); (case hI => assumption); (case hsz => (rw [List.size_toArray, List.length_map]; omega)); k_whole); intro h' hTl' F' N'; (try k_sweep)) | ((with_reducible show wpAny _ _ (compareOp CmpOp.Eq (TT.val _) (TT.val _)) _ _ _); k_dflt (refine' eq_tt ?N ?s1 ?s2 ?e ?hsz ?hu ?_; (case N => k_asm); (case s1 => repeat (first | assumption | exact Sub.left _ _ | refine Sub.app ?_ | refine Sub.cons ?_)); (case s2 => repeat (first | assumption | exact Sub.left _ _ | refine Sub.app ?_ | refine Sub.cons ?_)); (case e => exact same_eq (by assumption) (by assumption)); (case hsz => exact same_size (by assumption)); (case hu => k_units); k_whole)) | ((with_reducible show wpAny _ _ (compareOp CmpOp.NotEq (TT.val _) (TT.val _)) _ _ _); k_dflt (refine' ne_tt ?N ?s1 ?s2 ?e ?hsz ?hu ?_; (case N => k_asm); (case s1 => repeat (first | assumption | exact Sub.left _ _ | refine Sub.app ?_ | refine Sub.cons ?_)); (case s2 => repeat (first | assumption | exact Sub.left _ _ | refine Sub.app ?_ | refine Sub.cons ?_)); (case e => exact turn_same (by assumption) (by assumption) (built_turn (by assumption) (by assumption) (by assumption) (by assumption)) (by assumption) (by rw [List.length_append, List.length_singleton]; omega)); (case hsz => exact read_size (by assumption) (by omega)); (case hu => k_units); k_whole)) | ((with_reducible show wpAny _ _ (pyIter (Value.ref _)) (fun it s₂ => LoopAtV _ _ _ _ _ (Str.ofString "key") _ _ _ it s₂) _ _); (k_dflt (refine' iter_in ?hM ?hlc ?hic ?hh ?hl ?hi ?hns ?hcs ?hn ?mc ?F ?N ?hsub ?ht ?hk ?hk0 ?turn2 ?done2; (case hM => assumption); (case hh => rfl); (case F => k_asm); (case N => k_asm); (case hlc => rfl); (case mc => k_mem); (case hic => assumption); (case hl => k_mem); (case hi => assumption); (case hns => assumption); (case hcs => assumption); (case hn => assumption); (case hsub => exact (fun p hp => by repeat (first | exact hp | refine List.mem_cons_of_mem _ ?_))); (case ht => rfl); (case hk => rfl); (case hk0 => k_mem); k_whole)); (case' turn2 => (intro mm' bb' hmm' hbb' t' lk' vk' nk' ks' key' tkey' bs' u' h' tk' I' oI' hB' hik' hnot' hall' hinj' hlt' hk0' hk1' hc64' hts' mk' mc' hsb' nd' F' N'; (have hem' := map_at hmm'); (rw [hem'] at F'); (try k_fold))); (case' done2 => (intro t' lk' bs' u' h' tk' hB' hts' hsb' F' N'; (have hNX' := done_lit N' hsb'); (clear N'); (obtain ⟨N', hX'⟩ := hNX'); (try k_fold)))) | ((with_reducible show wpAny _ _ (pyIter (Value.ref _)) (fun it s₂ => LoopAtV _ _ _ _ _ (Str.ofString "told") _ _ _ it s₂) _ _); (rename List.Perm _ (List.map Int.ofNat (List.range _)) => pc'); (k_dflt (refine' iter_out (sameOf pc') ?hh ?hlt ?hlc ?hl ?mt ?mc ?n1 ?n2 ?h1 ?h3 ?F ?N ?turn ?done; (case hh => rfl); (case F => k_asm); (case N => k_asm); (case hlt => rfl); (case hlc => rfl); (case hl => k_mem); (case mt => k_mem); (case mc => k_mem); (case n1 => (refine neN ?_; omega)); (case n2 => (refine neN ?_; omega)); (case h1 => assumption); (case h3 => assumption); k_whole)); (case' turn => (intro Ts' told' t' u' bs' n' h' tk' I' oI' i' hTs' hT2' ht' hb' hI' hcI' mc' hsb' hT' hbI' hM' F' N'; (try k_fold))); (case' done => (intro T1' T2' u' bs' n' h' tk' s1' s2' b1' b2' F' N'; (try k_fold)))) | ((with_reducible show wpAny _ _ (exec (Stmt.For (PySem.Expr.Name _ _) (PySem.Expr.Call _ _ _ _) _ _ _) _) _ _ _); (rename Fr _ _ _ _ => lF'); (with_unfolding_all refine' For_invVF lF' ?k1 ?k2 ?_; (case k1 => exact rfl); (case k2 => exact rfl); k_whole)) | ((with_reducible show wpAny _ _ (exec (Stmt.For (PySem.Expr.Name _ _) (PySem.Expr.List _ _) _ _ _) _) _ _ _); (rename Fr _ _ _ _ => lF'); (with_unfolding_all refine' For_invVF lF' ?k1 ?k2 ?_; (case k1 => exact rfl); (case k2 => exact rfl); k_whole)) | ((with_reducible show wpAny _ _ (subscriptTail _ _ (Value.ref _) (Value.int _ _)) _ _ _); k_dflt (refine' cell_item ?N ?m ?i ?h4 ?hp ?h0 ?hk ?_ ?s; (case N => k_asm); (case h4 => assumption); (case i => assumption); (case m => k_mem); (case hp => assumption); (case h0 => decide); (case hk => decide); (case s => with_unfolding_all rfl); k_whole); intro xC tC pC) | ((with_reducible show wpAny _ _ (call (Value.ref 267) _) _ _ _); k_dflt (refine' due_use (due_spec _ 5) ?B ?F ?X ?N ?T ?hf ?hke ?hdp ?hun ?mk ?mc ?ik ?ic ?hb ?hl ?h64 ?hf64 ?_; (case B => k_asm); (case F => k_asm); (case X => k_asm); (case N => k_asm); (case T => k_asm); (case hf => rfl); (case hke => rfl); (case hdp => k_room); (case hun => k_units); (case mk => k_mem); (case mc => k_mem); (case ik => first | assumption | exact IntsAre.append (by assumption) (.cons _ _ .nil)); (case ic => assumption); (case hb => assumption); (case hl => (rw [List.length_append, List.length_singleton]; omega)); (case h64 => assumption); (case hf64 => decide); k_whole); intro h' tk' T' e' F' N'; (try k_sweep)) | ((with_reducible show wpAny _ _ (call (Value.ref 262) _) _ _ _); k_dflt (refine' read_use (read_spec _ _) ?B ?F ?X ?N ?T ?hf ?hke ?hdp ?hun ?hs ?_; (case B => k_asm); (case F => k_asm); (case X => k_asm); (case N => k_asm); (case T => k_asm); (case hf => rfl); (case hke => rfl); (case hdp => k_room); (case hun => k_units); (case hs => repeat (first | assumption | exact Sub.left _ _ | refine Sub.app ?_ | refine Sub.cons ?_)); k_whole); intro h' tk' T' e' F' N'; (try k_sweep)) | ((with_reducible show wpAny _ _ (call (Value.ref 255) _) _ _ _); k_dflt (refine' put_use ?B ?F ?X ?N ?T ?hf ?hke ?hdp ?hun ?hnd ?hsub ?_; (case B => k_asm); (case F => k_asm); (case X => k_asm); (case N => k_asm); (case T => k_asm); (case hf => rfl); (case hke => rfl); (case hnd => assumption); (case hdp => k_room); (case hun => k_units); (case hsub => exact fun p hp => by repeat (first | exact hp | refine List.mem_cons_of_mem _ ?_)); k_whole); intro h' tk' tP eP sP F' N' nd'; (try k_sweep)) | ((with_reducible show wpAny _ _ (call (Value.ref 241) _) _ _ _); k_dflt (refine' made_spec ?B ?F ?X ?N ?T ?hf ?hke ?hdp ?hun ?l1 ?l2 ?hnd ?_; (case B => k_asm); (case F => k_asm); (case X => k_asm); (case N => k_asm); (case T => k_asm); (case hf => rfl); (case hke => rfl); (case hdp => k_room); (case hun => k_units); (case l1 => first | assumption | exact allLt_mem (by assumption)); (case l2 => refine ltN ?_; omega); (case hnd => assumption); k_whole); intro h' tk' zM nM tM uM F' N' nd'; (try k_sweep)) | ((with_reducible show wpAny _ _ (call (Value.ref 274) _) _ _ _); k_dflt (refine' order_spec ?B ?F ?X ?N ?T ?hf ?hke ?hdp ?hun ?h0 ?h5 ?ht ?_; (case B => k_asm); (case F => k_asm); (case X => k_asm); (case N => k_asm); (case T => k_asm); (case hf => rfl); (case hke => rfl); (case hdp => k_room); (case hun => k_units); (case h0 => assumption); (case h5 => assumption); (case ht => assumption); k_whole); intro h' tk' lO vO nO mO F' N' iO pO; (try k_sweep)) | walk1) | (leave1; walk_say "STEP leave1"; try dsimp only) | skip)
      refine' out_post ?hTs ?hT ?hS ?hb ?hIl ?hsb ?hl ?hbI ?F ?N ?hcI ?hTl ?hm
      (case F => assumption)
      (case N => assumption)
      (case hTs => assumption)
      (case hT => assumption)
      (case hS => exact same_post _ (by assumption) (by assumption) hn5' (by assumption))
      (case hb => assumption)
      (case hIl => assumption)
      (case hsb => assumption)
      (case hl => exact .head _)
      (case hbI => assumption)
      (case hcI => assumption)
      (case hTl => assumption)
      (case hm => (intro z hz; obtain ⟨a, b, c, d, e⟩ := five_ne hz; simp only [a, b, c, d, e, hz, if_false, Bool.false_eq_true]))
    · iterate 103 (first | (k_unfold; (try dsimp only)) | (k_end; wrow_close) | ((with_reducible show wpAny _ _ (call (Value.builtin "list.append") _) _ _ _); (with_reducible show wpAny _ _ (call (Value.builtin _) [Value.ref _, TT.val _]) _ _ _); k_dflt (refine' append_T ?hM ?F ?N ?hs ?hb ?hI ?hsz ?_; (case hM => assumption); (case F => k_asm); (case N => k_asm); (case hs => repeat (first | assumption | exact Sub.left _ _ | refine Sub.app ?_ | refine Sub.cons ?_)); (case hb => assumption); (case hI => assumption); (case hsz => (rw [List.size_toArray, List.length_map]; omega)); k_whole); intro h' hTl' F' N'; (try k_sweep)) | ((with_reducible show wpAny _ _ (compareOp CmpOp.Eq (TT.val _) (TT.val _)) _ _ _); k_dflt (refine' eq_tt ?N ?s1 ?s2 ?e ?hsz ?hu ?_; (case N => k_asm); (case s1 => repeat (first | assumption | exact Sub.left _ _ | refine Sub.app ?_ | refine Sub.cons ?_)); (case s2 => repeat (first | assumption | exact Sub.left _ _ | refine Sub.app ?_ | refine Sub.cons ?_)); (case e => exact same_eq (by assumption) (by assumption)); (case hsz => exact same_size (by assumption)); (case hu => k_units); k_whole)) | ((with_reducible show wpAny _ _ (compareOp CmpOp.NotEq (TT.val _) (TT.val _)) _ _ _); k_dflt (refine' ne_tt ?N ?s1 ?s2 ?e ?hsz ?hu ?_; (case N => k_asm); (case s1 => repeat (first | assumption | exact Sub.left _ _ | refine Sub.app ?_ | refine Sub.cons ?_)); (case s2 => repeat (first | assumption | exact Sub.left _ _ | refine Sub.app ?_ | refine Sub.cons ?_)); (case e => exact turn_same (by assumption) (by assumption) (built_turn (by assumption) (by assumption) (by assumption) (by assumption)) (by assumption) (by rw [List.length_append, List.length_singleton]; omega)); (case hsz => exact read_size (by assumption) (by omega)); (case hu => k_units); k_whole)) | ((with_reducible show wpAny _ _ (pyIter (Value.ref _)) (fun it s₂ => LoopAtV _ _ _ _ _ (Str.ofString "key") _ _ _ it s₂) _ _); (k_dflt (refine' iter_in ?hM ?hlc ?hic ?hh ?hl ?hi ?hns ?hcs ?hn ?mc ?F ?N ?hsub ?ht ?hk ?hk0 ?turn2 ?done2; (case hM => assumption); (case hh => rfl); (case F => k_asm); (case N => k_asm); (case hlc => rfl); (case mc => k_mem); (case hic => assumption); (case hl => k_mem); (case hi => assumption); (case hns => assumption); (case hcs => assumption); (case hn => assumption); (case hsub => exact (fun p hp => by repeat (first | exact hp | refine List.mem_cons_of_mem _ ?_))); (case ht => rfl); (case hk => rfl); (case hk0 => k_mem); k_whole)); (case' turn2 => (intro mm' bb' hmm' hbb' t' lk' vk' nk' ks' key' tkey' bs' u' h' tk' I' oI' hB' hik' hnot' hall' hinj' hlt' hk0' hk1' hc64' hts' mk' mc' hsb' nd' F' N'; (have hem' := map_at hmm'); (rw [hem'] at F'); (try k_fold))); (case' done2 => (intro t' lk' bs' u' h' tk' hB' hts' hsb' F' N'; (have hNX' := done_lit N' hsb'); (clear N'); (obtain ⟨N', hX'⟩ := hNX'); (try k_fold)))) | ((with_reducible show wpAny _ _ (pyIter (Value.ref _)) (fun it s₂ => LoopAtV _ _ _ _ _ (Str.ofString "told") _ _ _ it s₂) _ _); (rename List.Perm _ (List.map Int.ofNat (List.range _)) => pc'); (k_dflt (refine' iter_out (sameOf pc') ?hh ?hlt ?hlc ?hl ?mt ?mc ?n1 ?n2 ?h1 ?h3 ?F ?N ?turn ?done; (case hh => rfl); (case F => k_asm); (case N => k_asm); (case hlt => rfl); (case hlc => rfl); (case hl => k_mem); (case mt => k_mem); (case mc => k_mem); (case n1 => (refine neN ?_; omega)); (case n2 => (refine neN ?_; omega)); (case h1 => assumption); (case h3 => assumption); k_whole)); (case' turn => (intro Ts' told' t' u' bs' n' h' tk' I' oI' i' hTs' hT2' ht' hb' hI' hcI' mc' hsb' hT' hbI' hM' F' N'; (try k_fold))); (case' done => (intro T1' T2' u' bs' n' h' tk' s1' s2' b1' b2' F' N'; (try k_fold)))) | ((with_reducible show wpAny _ _ (exec (Stmt.For (PySem.Expr.Name _ _) (PySem.Expr.Call _ _ _ _) _ _ _) _) _ _ _); (rename Fr _ _ _ _ => lF'); (with_unfolding_all refine' For_invVF lF' ?k1 ?k2 ?_; (case k1 => exact rfl); (case k2 => exact rfl); k_whole)) | ((with_reducible show wpAny _ _ (exec (Stmt.For (PySem.Expr.Name _ _) (PySem.Expr.List _ _) _ _ _) _) _ _ _); (rename Fr _ _ _ _ => lF'); (with_unfolding_all refine' For_invVF lF' ?k1 ?k2 ?_; (case k1 => exact rfl); (case k2 => exact rfl); k_whole)) | ((with_reducible show wpAny _ _ (subscriptTail _ _ (Value.ref _) (Value.int _ _)) _ _ _); k_dflt (refine' cell_item ?N ?m ?i ?h4 ?hp ?h0 ?hk ?_ ?s; (case N => k_asm); (case h4 => assumption); (case i => assumption); (case m => k_mem); (case hp => assumption); (case h0 => decide); (case hk => decide); (case s => with_unfolding_all rfl); k_whole); intro xC tC pC) | ((with_reducible show wpAny _ _ (call (Value.ref 267) _) _ _ _); k_dflt (refine' due_use (due_spec _ 5) ?B ?F ?X ?N ?T ?hf ?hke ?hdp ?hun ?mk ?mc ?ik ?ic ?hb ?hl ?h64 ?hf64 ?_; (case B => k_asm); (case F => k_asm); (case X => k_asm); (case N => k_asm); (case T => k_asm); (case hf => rfl); (case hke => rfl); (case hdp => k_room); (case hun => k_units); (case mk => k_mem); (case mc => k_mem); (case ik => first | assumption | exact IntsAre.append (by assumption) (.cons _ _ .nil)); (case ic => assumption); (case hb => assumption); (case hl => (rw [List.length_append, List.length_singleton]; omega)); (case h64 => assumption); (case hf64 => decide); k_whole); intro h' tk' T' e' F' N'; (try k_sweep)) | ((with_reducible show wpAny _ _ (call (Value.ref 262) _) _ _ _); k_dflt (refine' read_use (read_spec _ _) ?B ?F ?X ?N ?T ?hf ?hke ?hdp ?hun ?hs ?_; (case B => k_asm); (case F => k_asm); (case X => k_asm); (case N => k_asm); (case T => k_asm); (case hf => rfl); (case hke => rfl); (case hdp => k_room); (case hun => k_units); (case hs => repeat (first | assumption | exact Sub.left _ _ | refine Sub.app ?_ | refine Sub.cons ?_)); k_whole); intro h' tk' T' e' F' N'; (try k_sweep)) | ((with_reducible show wpAny _ _ (call (Value.ref 255) _) _ _ _); k_dflt (refine' put_use ?B ?F ?X ?N ?T ?hf ?hke ?hdp ?hun ?hnd ?hsub ?_; (case B => k_asm); (case F => k_asm); (case X => k_asm); (case N => k_asm); (case T => k_asm); (case hf => rfl); (case hke => rfl); (case hnd => assumption); (case hdp => k_room); (case hun => k_units); (case hsub => exact fun p hp => by repeat (first | exact hp | refine List.mem_cons_of_mem _ ?_)); k_whole); intro h' tk' tP eP sP F' N' nd'; (try k_sweep)) | ((with_reducible show wpAny _ _ (call (Value.ref 241) _) _ _ _); k_dflt (refine' made_spec ?B ?F ?X ?N ?T ?hf ?hke ?hdp ?hun ?l1 ?l2 ?hnd ?_; (case B => k_asm); (case F => k_asm); (case X => k_asm); (case N => k_asm); (case T => k_asm); (case hf => rfl); (case hke => rfl); (case hdp => k_room); (case hun => k_units); (case l1 => first | assumption | exact allLt_mem (by assumption)); (case l2 => refine ltN ?_; omega); (case hnd => assumption); k_whole); intro h' tk' zM nM tM uM F' N' nd'; (try k_sweep)) | ((with_reducible show wpAny _ _ (call (Value.ref 274) _) _ _ _); k_dflt (refine' order_spec ?B ?F ?X ?N ?T ?hf ?hke ?hdp ?hun ?h0 ?h5 ?ht ?_; (case B => k_asm); (case F => k_asm); (case X => k_asm); (case N => k_asm); (case T => k_asm); (case hf => rfl); (case hke => rfl); (case hdp => k_room); (case hun => k_units); (case h0 => assumption); (case h5 => assumption); (case ht => assumption); k_whole); intro h' tk' lO vO nO mO F' N' iO pO; (try k_sweep)) | walk1 | (dsimp only; first | ((with_reducible show wpAny _ _ (call (Value.builtin "list.append") _) _ _ _); (with_reducible show wpAny _ _ (call (Value.builtin _) [Value.ref _, TT.val _]) _ _ _); k_dflt (refine' append_T ?hM ?F ?N ?hs ?hb ?hI ?hsz ?_; (case hM => assumption); (case F => k_asm); (case N => k_asm); (case hs => repeat (first | assumption | exact Sub.left _ _ | refine Sub.app ?_ | refine Sub.cons ?_)); (case hb => assumption); (case hI => assumption); (case hsz => (rw [List.size_toArray, List.length_map]; omega)); k_whole); intro h' hTl' F' N'; (try k_sweep)) | ((with_reducible show wpAny _ _ (compareOp CmpOp.Eq (TT.val _) (TT.val _)) _ _ _); k_dflt (refine' eq_tt ?N ?s1 ?s2 ?e ?hsz ?hu ?_; (case N => k_asm); (case s1 => repeat (first | assumption | exact Sub.left _ _ | refine Sub.app ?_ | refine Sub.cons ?_)); (case s2 => repeat (first | assumption | exact Sub.left _ _ | refine Sub.app ?_ | refine Sub.cons ?_)); (case e => exact same_eq (by assumption) (by assumption)); (case hsz => exact same_size (by assumption)); (case hu => k_units); k_whole)) | ((with_reducible show wpAny _ _ (compareOp CmpOp.NotEq (TT.val _) (TT.val _)) _ _ _); k_dflt (refine' ne_tt ?N ?s1 ?s2 ?e ?hsz ?hu ?_; (case N => k_asm); (case s1 => repeat (first | assumption | exact Sub.left _ _ | refine Sub.app ?_ | refine Sub.cons ?_)); (case s2 => repeat (first | assumption | exact Sub.left _ _ | refine Sub.app ?_ | refine Sub.cons ?_)); (case e => exact turn_same (by assumption) (by assumption) (built_turn (by assumption) (by assumption) (by assumption) (by assumption)) (by assumption) (by rw [List.length_append, List.length_singleton]; omega)); (case hsz => exact read_size (by assumption) (by omega)); (case hu => k_units); k_whole)) | ((with_reducible show wpAny _ _ (pyIter (Value.ref _)) (fun it s₂ => LoopAtV _ _ _ _ _ (Str.ofString "key") _ _ _ it s₂) _ _); (k_dflt (refine' iter_in ?hM ?hlc ?hic ?hh ?hl ?hi ?hns ?hcs ?hn ?mc ?F ?N ?hsub ?ht ?hk ?hk0 ?turn2 ?done2; (case hM => assumption); (case hh => rfl); (case F => k_asm); (case N => k_asm); (case hlc => rfl); (case mc => k_mem); (case hic => assumption); (case hl => k_mem); (case hi => assumption); (case hns => assumption); (case hcs => assumption); (case hn => assumption); (case hsub => exact (fun p hp => by repeat (first | exact hp | refine List.mem_cons_of_mem _ ?_))); (case ht => rfl); (case hk => rfl); (case hk0 => k_mem); k_whole)); (case' turn2 => (intro mm' bb' hmm' hbb' t' lk' vk' nk' ks' key' tkey' bs' u' h' tk' I' oI' hB' hik' hnot' hall' hinj' hlt' hk0' hk1' hc64' hts' mk' mc' hsb' nd' F' N'; (have hem' := map_at hmm'); (rw [hem'] at F'); (try k_fold))); (case' done2 => (intro t' lk' bs' u' h' tk' hB' hts' hsb' F' N'; (have hNX' := done_lit N' hsb'); (clear N'); (obtain ⟨N', hX'⟩ := hNX'); (try k_fold)))) | ((with_reducible show wpAny _ _ (pyIter (Value.ref _)) (fun it s₂ => LoopAtV _ _ _ _ _ (Str.ofString "told") _ _ _ it s₂) _ _); (rename List.Perm _ (List.map Int.ofNat (List.range _)) => pc'); (k_dflt (refine' iter_out (sameOf pc') ?hh ?hlt ?hlc ?hl ?mt ?mc ?n1 ?n2 ?h1 ?h3 ?F ?N ?turn ?done; (case hh => rfl); (case F => k_asm); (case N => k_asm); (case hlt => rfl); (case hlc => rfl); (case hl => k_mem); (case mt => k_mem); (case mc => k_mem); (case n1 => (refine neN ?_; omega)); (case n2 => (refine neN ?_; omega)); (case h1 => assumption); (case h3 => assumption); k_whole)); (case' turn => (intro Ts' told' t' u' bs' n' h' tk' I' oI' i' hTs' hT2' ht' hb' hI' hcI' mc' hsb' hT' hbI' hM' F' N'; (try k_fold))); (case' done => (intro T1' T2' u' bs' n' h' tk' s1' s2' b1' b2' F' N'; (try k_fold)))) | ((with_reducible show wpAny _ _ (exec (Stmt.For (PySem.Expr.Name _ _) (PySem.Expr.Call _ _ _ _) _ _ _) _) _ _ _); (rename Fr _ _ _ _ => lF'); (with_unfolding_all refine' For_invVF lF' ?k1 ?k2 ?_; (case k1 => exact rfl); (case k2 => exact rfl); k_whole)) | ((with_reducible show wpAny _ _ (exec (Stmt.For (PySem.Expr.Name _ _) (PySem.Expr.List _ _) _ _ _) _) _ _ _); (rename Fr _ _ _ _ => lF'); (with_unfolding_all refine' For_invVF lF' ?k1 ?k2 ?_; (case k1 => exact rfl); (case k2 => exact rfl); k_whole)) | ((with_reducible show wpAny _ _ (subscriptTail _ _ (Value.ref _) (Value.int _ _)) _ _ _); k_dflt (refine' cell_item ?N ?m ?i ?h4 ?hp ?h0 ?hk ?_ ?s; (case N => k_asm); (case h4 => assumption); (case i => assumption); (case m => k_mem); (case hp => assumption); (case h0 => decide); (case hk => decide); (case s => with_unfolding_all rfl); k_whole); intro xC tC pC) | ((with_reducible show wpAny _ _ (call (Value.ref 267) _) _ _ _); k_dflt (refine' due_use (due_spec _ 5) ?B ?F ?X ?N ?T ?hf ?hke ?hdp ?hun ?mk ?mc ?ik ?ic ?hb ?hl ?h64 ?hf64 ?_; (case B => k_asm); (case F => k_asm); (case X => k_asm); (case N => k_asm); (case T => k_asm); (case hf => rfl); (case hke => rfl); (case hdp => k_room); (case hun => k_units); (case mk => k_mem); (case mc => k_mem); (case ik => first | assumption | exact IntsAre.append (by assumption) (.cons _ _ .nil)); (case ic => assumption); (case hb => assumption); (case hl => (rw [List.length_append, List.length_singleton]; omega)); (case h64 => assumption); (case hf64 => decide); k_whole); intro h' tk' T' e' F' N'; (try k_sweep)) | ((with_reducible show wpAny _ _ (call (Value.ref 262) _) _ _ _); k_dflt (refine' read_use (read_spec _ _) ?B ?F ?X ?N ?T ?hf ?hke ?hdp ?hun ?hs ?_; (case B => k_asm); (case F => k_asm); (case X => k_asm); (case N => k_asm); (case T => k_asm); (case hf => rfl); (case hke => rfl); (case hdp => k_room); (case hun => k_units); (case hs => repeat (first | assumption | exact Sub.left _ _ | refine Sub.app ?_ | refine Sub.cons ?_)); k_whole); intro h' tk' T' e' F' N'; (try k_sweep)) | ((with_reducible show wpAny _ _ (call (Value.ref 255) _) _ _ _); k_dflt (refine' put_use ?B ?F ?X ?N ?T ?hf ?hke ?hdp ?hun ?hnd ?hsub ?_; (case B => k_asm); (case F => k_asm); (case X => k_asm); (case N => k_asm); (case T => k_asm); (case hf => rfl); (case hke => rfl); (case hnd => assumption); (case hdp => k_room); (case hun => k_units); (case hsub => exact fun p hp => by repeat (first | exact hp | refine List.mem_cons_of_mem _ ?_)); k_whole); intro h' tk' tP eP sP F' N' nd'; (try k_sweep)) | ((with_reducible show wpAny _ _ (call (Value.ref 241) _) _ _ _); k_dflt (refine' made_spec ?B ?F ?X ?N ?T ?hf ?hke ?hdp ?hun ?l1 ?l2 ?hnd ?_; (case B => k_asm); (case F => k_asm); (case X => k_asm); (case N => k_asm); (case T => k_asm); (case hf => rfl); (case hke => rfl); (case hdp => k_room); (case hun => k_units); (case l1 => first | assumption | exact allLt_mem (by assumption)); (case l2 => refine ltN ?_; omega); (case hnd => assumption); k_whole); intro h' tk' zM nM tM uM F' N' nd'; (try k_sweep)) | ((with_reducible show wpAny _ _ (call (Value.ref 274) _) _ _ _); k_dflt (refine' order_spec ?B ?F ?X ?N ?T ?hf ?hke ?hdp ?hun ?h0 ?h5 ?ht ?_; (case B => k_asm); (case F => k_asm); (case X => k_asm); (case N => k_asm); (case T => k_asm); (case hf => rfl); (case hke => rfl); (case hdp => k_room); (case hun => k_units); (case h0 => assumption); (case h5 => assumption); (case ht => assumption); k_whole); intro h' tk' lO vO nO mO F' N' iO pO; (try k_sweep)) | walk1) | (leave1; walk_say "STEP leave1"; try dsimp only) | skip)
      refine' in_post ?hB ?F ?N ?hnd ?hk ?hfr ?hsub ?hik ?hsb ?hl ?h1 ?h2 ?h3
      (case F => assumption)
      (case N => assumption)
      (case h1 => exact rfl)
      (case h2 => exact rfl)
      (case hnd => assumption)
      (case hik => assumption)
      (case hk => k_mem)
      (case hfr => exact allLt_of (by assumption))
      (case hsub => exact fun p hp => by repeat (first | exact hp | refine List.mem_cons_of_mem _ ?_ | refine List.mem_append_right _ ?_))
      (case hsb => assumption)
      (case hl => assumption)
      (case hB => exact built_turn (by assumption) (by assumption) (by assumption) (by assumption))
      (case h3 => (intro z a b c d; simp only [a, b, c, d, if_false]; exact (congrFun hem' z).symm))

theorem tail_use {w : World} {dp un : Nat} {gd : Option (List Code)} {outer : List Env} {A₀ : Around} {base h₀ : Heap} {L : Addr} {m mg mb : Str → Option Value} {mean : ExcName → Option Value} {vq : Program} {vl : List Str} {s : Shared} {E : Value → Shared → Prop} {nm : Str} {fa : Addr} {cd : Value} {news : List (Addr × Obj)} {lce : Addr} {vce : List Value} {nce : Nat} {ces : List Int} {R : Flow → Shared → Prop} {n : Int} {tn : Tok} {b : List Stmt} {sc : Scope} (eb : b = lawStmts.drop 3) (es : sc = lawScope)
    (B : Below A₀ base outer h₀) (F : Fr h₀ L s.heap m) (X : (K0 w.params).In h₀) (N : News h₀ L s.heap news) (T : Top vq vl mean mg mb h₀)
    (hdp : dp + 400 < recursionLimit) (hun : un + 4000 < cLine)
    (hm1 : m (Str.ofString "many") = some (.int n tn)) (hm2 : m (Str.ofString "cells") = some (.ref lce)) (mce : (lce, listOf vce.toArray nce) ∈ news) (ice : IntsAre vce ces) (h4 : 4 ≤ ces.length) (hp : ∀ x ∈ ces, 0 ≤ x) (hn0 : 0 < n) (hn5 : n ≤ 5)
    (hPO : PassesOwn (model Challenge.rw_xm0944_01.row.prog w) (tA dp un gd (envOf nm sc L fa cd) outer) (envOf nm sc L fa cd) E)
    (hret : ∀ h' tk' m', Fr h₀ L h' m' → R (.ret (.bool true)) { s with heap := h', toks := tk' }) :
    wpAny (model Challenge.rw_xm0944_01.row.prog w) (tA dp un gd (envOf nm sc L fa cd) outer) (execs b (envOf nm sc L fa cd)) R E s := by
  subst eb; subst es
  exact law_tail (env := envOf nm lawScope L fa cd) (Q := E) B F X N T hdp hun hm1 hm2 mce ice h4 hp hn0 hn5 hPO hret
theorem law_many {w : World} {dp un : Nat} {gd : Option (List Code)} {outer : List Env} {A₀ : Around} {base h₀ : Heap} {L : Addr} {m mg mb : Str → Option Value} {mean : ExcName → Option Value} {vq : Program} {vl : List Str} {s : Shared} {E : Value → Shared → Prop} {nm : Str} {fa : Addr} {cd : Value} {news : List (Addr × Obj)} {lce : Addr} {vce : List Value} {nce : Nat} {ces : List Int} {R : Flow → Shared → Prop}
    (B : Below A₀ base outer h₀) (F : Fr h₀ L s.heap m) (X : (K0 w.params).In h₀) (N : News h₀ L s.heap news) (T : Top vq vl mean mg mb h₀)
    (hdp : dp + 400 < recursionLimit) (hun : un + 4000 < cLine)
    (hm2 : m (Str.ofString "cells") = some (.ref lce)) (mce : (lce, listOf vce.toArray nce) ∈ news) (ice : IntsAre vce ces) (h4 : 4 ≤ ces.length) (hp : ∀ x ∈ ces, 0 ≤ x)
    (hPO : PassesOwn (model Challenge.rw_xm0944_01.row.prog w) (tA dp un gd (envOf nm lawScope L fa cd) outer) (envOf nm lawScope L fa cd) E)
    (hret : ∀ h' tk' m', Fr h₀ L h' m' → R (.ret (.bool true)) { s with heap := h', toks := tk' }) :
    wpAny (model Challenge.rw_xm0944_01.row.prog w) (tA dp un gd (envOf nm lawScope L fa cd) outer) (execs (lawStmts.drop 2) (envOf nm lawScope L fa cd)) R E s := by
  refine execs_head rfl ?_
  revert hPO
  refine scope_head (P := fun sc => PassesOwn (model Challenge.rw_xm0944_01.row.prog w) (tA dp un gd (envOf nm sc L fa cd) outer) (envOf nm sc L fa cd) E → wpAny (model Challenge.rw_xm0944_01.row.prog w) (tA dp un gd (envOf nm sc L fa cd) outer) (execs _ (envOf nm sc L fa cd)) R E s) (sc := lawScope) rfl ?_
  intro hPO
  have em : m = (fun z => if z = Str.ofString "cells" then some (.ref lce) else m z) := by
    funext z
    by_cases q2 : z = Str.ofString "cells"
    · subst q2; simpa using hm2
    · simp only [q2, if_false]
  rw [em] at F
  clear hm2
  try k_fold
  iterate 13 (first | (k_unfold; (try dsimp only)) | (k_end; wrow_close) | ((with_reducible show wpAny _ _ (subscriptTail _ _ (Value.ref _) (Value.int _ _)) _ _ _); k_dflt (refine' cell_item ?N ?m ?i ?h4 ?hp ?h0 ?hk ?_ ?s; (case N => k_asm); (case h4 => assumption); (case i => assumption); (case m => k_mem); (case hp => assumption); (case h0 => decide); (case hk => decide); (case s => with_unfolding_all rfl); k_whole); intro xC tC pC) | walk1 | (dsimp only; first | ((with_reducible show wpAny _ _ (subscriptTail _ _ (Value.ref _) (Value.int _ _)) _ _ _); k_dflt (refine' cell_item ?N ?m ?i ?h4 ?hp ?h0 ?hk ?_ ?s; (case N => k_asm); (case h4 => assumption); (case i => assumption); (case m => k_mem); (case hp => assumption); (case h0 => decide); (case hk => decide); (case s => with_unfolding_all rfl); k_whole); intro xC tC pC) | walk1) | (leave1; walk_say "STEP leave1"; try dsimp only) | skip)
  refine' tail_use ?eb ?es ?B ?F ?X ?N ?T ?hdp ?hun ?hm1 ?hm2 ?mce ?ice ?h4 ?hp ?hn0 ?hn5 ?hPO ?hret
  (case eb => exact rfl)
  (case es => exact rfl)
  (case B => exact B)
  (case F => assumption)
  (case X => exact X)
  (case N => assumption)
  (case T => exact T)
  (case hdp => exact hdp)
  (case hun => exact hun)
  (case hm1 => exact rfl)
  (case hm2 => exact rfl)
  (case mce => exact mce)
  (case ice => exact ice)
  (case h4 => exact h4)
  (case hp => exact hp)
  (case hPO => exact hPO)
  (case hret => exact hret)
  all_goals (rw [Int.fmod_eq_emod_of_nonneg _ (by decide)]; omega)
theorem many_use {w : World} {dp un : Nat} {gd : Option (List Code)} {outer : List Env} {A₀ : Around} {base h₀ : Heap} {L : Addr} {m mg mb : Str → Option Value} {mean : ExcName → Option Value} {vq : Program} {vl : List Str} {s : Shared} {E : Value → Shared → Prop} {nm : Str} {fa : Addr} {cd : Value} {news : List (Addr × Obj)} {lce : Addr} {vce : List Value} {nce : Nat} {ces : List Int} {R : Flow → Shared → Prop} {b : List Stmt} {sc : Scope} {A : Around} (eb : b = lawStmts.drop 2) (es : sc = lawScope) (eA : A = tA dp un gd (envOf nm sc L fa cd) outer)
    (B : Below A₀ base outer h₀) (F : Fr h₀ L s.heap m) (X : (K0 w.params).In h₀) (N : News h₀ L s.heap news) (T : Top vq vl mean mg mb h₀)
    (hdp : dp + 400 < recursionLimit) (hun : un + 4000 < cLine)
    (hm2 : m (Str.ofString "cells") = some (.ref lce)) (mce : (lce, listOf vce.toArray nce) ∈ news) (ice : IntsAre vce ces) (h4 : 4 ≤ ces.length) (hp : ∀ x ∈ ces, 0 ≤ x)
    (hPO : PassesOwn (model Challenge.rw_xm0944_01.row.prog w) A (envOf nm sc L fa cd) E)
    (hret : ∀ h' tk' m', Fr h₀ L h' m' → R (.ret (.bool true)) { s with heap := h', toks := tk' }) :
    wpAny (model Challenge.rw_xm0944_01.row.prog w) A (execs b (envOf nm sc L fa cd)) R E s := by
  subst eA; subst eb; subst es
  exact law_many B F X N T hdp hun hm2 mce ice h4 hp hPO hret
theorem cells_four (xs : List Int) : 4 ≤ (((xs.take 4).map fun k => if k < 0 then -k else k) ++ [2, 4, 5, 0].drop (((xs.take 4).length : Nat) : Int).toNat).length := by
  simp only [List.length_append, List.length_map, List.length_drop, List.length_take, List.length_cons, List.length_nil]
  omega
theorem cells_pos (xs : List Int) : ∀ x ∈ (((xs.take 4).map fun k => if k < 0 then -k else k) ++ [2, 4, 5, 0].drop (((xs.take 4).length : Nat) : Int).toNat : List Int), 0 ≤ x := by
  intro x hx
  rcases List.mem_append.mp hx with h | h
  · obtain ⟨k, _, rfl⟩ := List.mem_map.mp h
    show 0 ≤ (if k < 0 then -k else k)
    split <;> omega
  · have := List.mem_of_mem_drop h
    simp only [List.mem_cons, List.not_mem_nil, or_false] at this
    omega

end

theorem ints4 (a b c d : Tok) : IntsAre [.int 2 a, .int 4 b, .int 5 c, .int 0 d] [2, 4, 5, 0] := .cons _ _ (.cons _ _ (.cons _ _ (.cons _ _ .nil)))

theorem whole : PySem.Challenge.rw_xm0944_01.Holds := by
  w_on
  o_law
  o_head (kHook K2 [2, 3, 113, 114, 116, 117, 134, 135, 137, 138, 165, 166, 184, 185, 200, 201, 203, 204, 219, 220, 226, 227, 233, 234, 240, 241, 247, 248, 254, 255, 261, 262, 266, 267, 273, 274] (fun _ => by kernel_rfl))
  (case hw => w_witness2)
  w_strict (
    k_go0
    all_goals try k_fold
    rename (K2 _).In _ => KXo
    have KXn : (K0 _).In _ := KXo
    clear KXo
    iterate 61 (first | (k_unfold; (try dsimp only)) | (k_end; wrow_close) | ((with_reducible show wpAny _ _ (subscriptTail _ (PySem.Expr.Slice (some _) none none _) (Value.ref _) (Value.ref _)) _ _ _); k_dflt (refine' kmk_slice_ints ?F8 ?N8 ?l8 ?p8 ?q8 ?i8 ?m8 ?c8 ?_ ?s8 ?t8 ?z8; (case F8 => k_asm); (case N8 => k_asm); (case l8 => exact News.isList (by k_asm) (by k_mem)); (case p8 => exact IsPart.int _ _); (case q8 => exact IsPart.none); (case i8 => exact ints4 _ _ _ _); (case m8 => exact kmk_from (ints4 _ _ _ _) (Int.natCast_nonneg _)); (case c8 => exact rfl); (case s8 => with_unfolding_all rfl); (case t8 => kmk_pure); (case z8 => exact Nat.le_of_ble_eq_true rfl); k_whole); intro D' ws' h' F' N' l1 hI' hC' hL'; (try k_lt l1); (try k_sweep)) | walk1 | (dsimp only; first | ((with_reducible show wpAny _ _ (subscriptTail _ (PySem.Expr.Slice (some _) none none _) (Value.ref _) (Value.ref _)) _ _ _); k_dflt (refine' kmk_slice_ints ?F8 ?N8 ?l8 ?p8 ?q8 ?i8 ?m8 ?c8 ?_ ?s8 ?t8 ?z8; (case F8 => k_asm); (case N8 => k_asm); (case l8 => exact News.isList (by k_asm) (by k_mem)); (case p8 => exact IsPart.int _ _); (case q8 => exact IsPart.none); (case i8 => exact ints4 _ _ _ _); (case m8 => exact kmk_from (ints4 _ _ _ _) (Int.natCast_nonneg _)); (case c8 => exact rfl); (case s8 => with_unfolding_all rfl); (case t8 => kmk_pure); (case z8 => exact Nat.le_of_ble_eq_true rfl); k_whole); intro D' ws' h' F' N' l1 hI' hC' hL'; (try k_lt l1); (try k_sweep)) | walk1) | (leave1; walk_say "STEP leave1"; try dsimp only) | skip)
    refine' many_use (dp := 302) (un := 7) (gd := some []) (outer := []) ?eb9 ?es9 ?eA9 ?B9 ?F9 ?X9 ?N9 ?T9 ?hdp9 ?hun9 ?hm29 ?mce9 ?ice9 ?h49 ?hp9 ?hPO9 ?hret9
    (case eb9 => exact rfl)
    (case es9 => exact rfl)
    (case eA9 => exact rfl)
    (case F9 => k_asm)
    (case X9 => k_asm)
    (case N9 => k_asm)
    (case T9 => k_asm)
    (case B9 => k_asm)
    (case hdp9 => decide)
    (case hun9 => decide)
    (case hm29 => exact rfl)
    (case mce9 => k_mem)
    (case ice9 => assumption)
    (case h49 => exact cells_four _)
    (case hp9 => exact cells_pos _)
    (case hPO9 => passes_own)
    (case hret9 => (intro h' tk' m' F'; k_end; wrow_close)))

end Mine

theorem PySem.Challenge.cw_xm0944_01_holds : PySem.Challenge.rw_xm0944_01.Holds :=
  Mine.whole
