import PyProof.Rows.All
import Wide.All
import OpenK.AllK
import Wide.FinOn
import KE.KItem
import Lean
import PySem.Challenge.RW_ok0158_01
set_option Elab.async false
set_option linter.all false
set_option maxRecDepth 100000
set_option maxHeartbeats 0
set_option bootstrap.genMatcherCode false
set_option genInjectivity false
set_option genSizeOf false
set_option genSizeOfSpec false
set_option tactic.hygienic false
set_option backward.match.sparseCases false
set_option compiler.extract_closed false
open PySem PySem.W PySem.Calls PyProof.Rows
namespace Mine
noncomputable def hv : Program := view PySem.Challenge.pw_ok0158_01 [1,2,3,4,6,7,8,9,11,13,14,15,16,17,18,19,20,22,23,24,25,26,27,28,29,30,31,32,33]
theorem Zlw : OpenLaw.wellSaid PySem.Challenge.rw_ok0158_01 = true := by kernel_rfl
noncomputable def ZT (ws : List Value) (n : Nat) : Obj := { cls := .type "tuple", data := .seq ws.toArray n }
noncomputable def Zh : List Stmt := PySem.Challenge.pw_ok0158_01.main.body
noncomputable def hUn {α : Type} (o : Option Stmt) (d : α) (f : Str → Arguments → List Stmt → Scope → α) : α := match o with
 | some (.FunctionDef n a b _ _ _ s _ _ _) => f n a b s
 | _ => d
noncomputable def Zdx (o : Option Stmt) : List Stmt := hUn o [] fun _ _ b _ => b
noncomputable def ZgH (o : Option Stmt) : List (Str × NameKind) := hUn o [] fun _ _ _ s => s.names
noncomputable def hIn (k j : Nat) : Option Stmt := match Zh[k]? with
 | some (.ClassDef _ _ _ b _ _ _ _ _ _ _) => b[j]?
 | _ => none
noncomputable def hVs (x : String) (t : Nat) : Value := .str (Str.ofString x) t
noncomputable def hMB : Value := hVs "ringgate.basics" 187
noncomputable def hMX : Value := hVs "ringgate.x86rows" 253
noncomputable def hML : Value := hVs "law_ok0158_01" 416
noncomputable def hEn (P : Params) (n : String) (t : Nat) (v : Value) : DictEntry := ⟨PyData.keyHash P (Str.ofString n), hVs n t, v⟩
noncomputable def hDb (es : List DictEntry) (n : Nat) : Obj := ⟨.type "dict", none, .dict es.toArray n, #[]⟩
noncomputable def hFd (o : Option Stmt) (q : String) (d md : Value) (c : Nat) : FuncData := ⟨hUn o Str.empty fun n _ _ _ => n, Str.ofString q, hUn o ⟨[], [], none, [], [], none, []⟩ fun _ a _ _ => a, .stmts (Zdx o), hUn o default fun _ _ _ s => s, 3, [], d, .none, .none, md, none, .ref c, .none, 0⟩
noncomputable def hFo (o : Option Stmt) (q : String) (d md : Value) (c : Nat) : Obj := ⟨.type "function", none, .func (hFd o q d md c), #[]⟩
noncomputable def hCo (o : Option Stmt) (q : String) (a b t ln n e : Nat) (x y : Value) : Obj := ⟨.type "code", none, .fields #[.str (hUn o Str.empty fun n _ _ _ => n) t, hVs q (t + 1), hVs "/claim/cut.py" (t + 2), .int (Int.ofNat ln) 0, .int (Int.ofNat n) 0, .int 0 0, .int 0 0, .int 3 0, .ref b, .bool true, .int 181 0, .ref (b + 1), .none, x, y, .ref a, .int (Int.ofNat e) 0, .int (Int.ofNat ln) 0, hVs "/claim/cut.py" (e + 1)], #[]⟩
noncomputable def hK (P : Params) : Frag := [
 (3, hDb [hEn P "__name__" 165 hML, hEn P "__doc__" 166 .none, hEn P "__package__" 167 .none, hEn P "__loader__" 168 (.builtin "__main__.__loader__#opaque"), hEn P "__spec__" 169 .none, hEn P "__annotations__" 170 (.ref 6), hEn P "__builtins__" 171 (.ref 4), hEn P "__file__" 173 (hVs "/claim/cut.py" 172), hEn P "__cached__" 174 .none, hEn P "U64" 190 (.int 18446744073709551615 189), hEn P "GateError" 228 (.ref 39), hEn P "RowError" 244 (.ref 52), hEn P "fits_signed" 252 (.ref 61), hEn P "MOST_LABEL" 256 (.int 1000000 255), hEn P "Row" 294 (.ref 85), hEn P "row_shapes" 302 (.ref 96), hEn P "conditions" 308 (.ref 103), hEn P "register_name" 318 (.ref 111), hEn P "part_fits" 327 (.ref 118), hEn P "check_row" 338 (.ref 126), hEn P "is_mark" 345 (.ref 133), hEn P "goal_of" 352 (.ref 140), hEn P "marks_of" 362 (.ref 147), hEn P "check_rows" 373 (.ref 154), hEn P "place_text" 381 (.ref 161), hEn P "memory_text" 392 (.ref 168), hEn P "goal_text" 400 (.ref 175), hEn P "show_row" 415 (.ref 182), hEn P "_law_wholes" 434 (.ref 183), hEn P "_law_halves" 451 (.ref 184), hEn P "_law_pen" 457 (.ref 189), hEn P "_law_draw" 466 (.ref 196), hEn P "_law_pick" 474 (.ref 203), hEn P "_law_reg" 482 (.ref 210), hEn P "_law_spot" 490 (.ref 217), hEn P "_law_case" 511 (.ref 224), hEn P "_law_is_refused" 519 (.ref 231), hEn P "_law_row_holds" 532 (.ref 238), hEn P "_law_ways_hold" 538 (.ref 243), hEn P "law" 544 (.ref 248)] 40),
 (22, ZT [.none] 0),
 (28, hCo (hIn 2 0) "GateError.__init__" 27 23 203 5 3 209 (.ref 25) (.ref 26)),
 (29, hFo (hIn 2 0) "GateError.__init__" (.ref 22) hMB 28),
 (38, hDb [hEn P "__module__" 198 hMB, hEn P "__firstlineno__" 202 (.int 3 201), hEn P "__init__" 211 (.ref 29), hEn P "told" 218 (.ref 36), hEn P "__static_attributes__" 221 (.ref 37), hEn P "__weakref__" 223 (.ref 40), hEn P "__doc__" 224 .none] 3),
 (39, ⟨.type "type", none, .cls { name := Str.ofString "GateError", bases := [(.type "Exception")], mro := [(.ref 39), (.type "Exception"), (.type "BaseException"), (.type "object")], ns := 38, qualname := Str.ofString "GateError", hasDict := true, slotNames := [], subclasses := [(.ref 52)], abstract := false, collection := none, hasDel := false }, #[some (.ref 15), none, some (hVs "GateError" 191), some (hVs "GateError" 199), some (.builtin "Exception.__new__"), some (.bool true)]⟩),
 (40, ⟨.type "getset_descriptor", none, .fields #[(hVs "__weakref__" 222), (.ref 39), (.builtin "ExceptionGroup.__weakref__"), .none], #[]⟩),
 (51, hDb [hEn P "__module__" 236 hMB, hEn P "__firstlineno__" 240 (.int 12 239), hEn P "__static_attributes__" 241 (.ref 50), hEn P "__doc__" 242 .none] 2),
 (52, ⟨.type "type", none, .cls { name := Str.ofString "RowError", bases := [(.ref 39)], mro := [(.ref 52), (.ref 39), (.type "Exception"), (.type "BaseException"), (.type "object")], ns := 51, qualname := Str.ofString "RowError", hasDict := true, slotNames := [], subclasses := [], abstract := false, collection := none, hasDel := false }, #[some (.ref 43), none, some (hVs "RowError" 229), some (hVs "RowError" 237), some (.builtin "Exception.__new__"), some (.bool true)]⟩),
 (60, hCo Zh[4]? "fits_signed" 59 55 245 14 2 250 (.ref 57) (.ref 58)),
 (61, hFo Zh[4]? "fits_signed" .none hMB 60),
 (74, hCo (hIn 7 0) "Row.__init__" 73 69 269 20 3 275 (.ref 71) (.ref 72)),
 (75, hFo (hIn 7 0) "Row.__init__" .none hMX 74),
 (81, hCo (hIn 7 1) "Row.told" 80 76 278 24 1 282 (.ref 78) (.ref 79)),
 (82, hFo (hIn 7 1) "Row.told" .none hMX 81),
 (84, hDb [hEn P "__module__" 264 hMX, hEn P "__firstlineno__" 268 (.int 18 267), hEn P "__init__" 277 (.ref 75), hEn P "told" 284 (.ref 82), hEn P "__static_attributes__" 287 (.ref 83), hEn P "__dict__" 289 (.ref 86), hEn P "__weakref__" 291 (.ref 87), hEn P "__doc__" 292 .none] 4),
 (85, ⟨.type "type", none, .cls { name := Str.ofString "Row", bases := [(.type "object")], mro := [(.ref 85), (.type "object")], ns := 84, qualname := Str.ofString "Row", hasDict := true, slotNames := [], subclasses := [], abstract := false, collection := none, hasDel := false }, #[none, none, some (hVs "Row" 257), some (hVs "Row" 265), some (.builtin "object.__new__"), some (.bool true)]⟩),
 (86, ⟨.type "getset_descriptor", none, .fields #[(hVs "__dict__" 288), (.ref 85), (.builtin "function.__dict__"), (.builtin "function.__dict__#set")], #[]⟩),
 (87, ⟨.type "getset_descriptor", none, .fields #[(hVs "__weakref__" 290), (.ref 85), (.builtin "ExceptionGroup.__weakref__"), .none], #[]⟩),
 (95, hCo Zh[8]? "row_shapes" 94 90 295 26 0 300 (.ref 92) (.ref 93)),
 (96, hFo Zh[8]? "row_shapes" .none hMX 95),
 (102, hCo Zh[9]? "conditions" 101 97 303 50 0 306 (.ref 99) (.ref 100)),
 (103, hFo Zh[9]? "conditions" .none hMX 102),
 (104, ZT [(.int 64 309)] 0),
 (110, hCo Zh[10]? "register_name" 109 105 310 52 2 316 (.ref 107) (.ref 108)),
 (111, hFo Zh[10]? "register_name" (.ref 104) hMX 110),
 (117, hCo Zh[11]? "part_fits" 116 112 319 59 3 325 (.ref 114) (.ref 115)),
 (118, hFo Zh[11]? "part_fits" .none hMX 117),
 (119, ZT [.none] 0),
 (125, hCo Zh[12]? "check_row" 124 120 328 79 2 336 (.ref 122) (.ref 123)),
 (126, hFo Zh[12]? "check_row" (.ref 119) hMX 125),
 (132, hCo Zh[13]? "is_mark" 131 127 339 91 1 343 (.ref 129) (.ref 130)),
 (133, hFo Zh[13]? "is_mark" .none hMX 132),
 (139, hCo Zh[14]? "goal_of" 138 134 346 93 1 350 (.ref 136) (.ref 137)),
 (140, hFo Zh[14]? "goal_of" .none hMX 139),
 (146, hCo Zh[15]? "marks_of" 145 141 353 101 1 360 (.ref 143) (.ref 144)),
 (147, hFo Zh[15]? "marks_of" .none hMX 146),
 (153, hCo Zh[16]? "check_rows" 152 148 363 110 1 371 (.ref 150) (.ref 151)),
 (154, hFo Zh[16]? "check_rows" .none hMX 153),
 (160, hCo Zh[17]? "place_text" 159 155 374 118 2 379 (.ref 157) (.ref 158)),
 (161, hFo Zh[17]? "place_text" .none hMX 160),
 (167, hCo Zh[18]? "memory_text" 166 162 382 122 1 390 (.ref 164) (.ref 165)),
 (168, hFo Zh[18]? "memory_text" .none hMX 167),
 (174, hCo Zh[19]? "goal_text" 173 169 393 131 2 398 (.ref 171) (.ref 172)),
 (175, hFo Zh[19]? "goal_text" .none hMX 174),
 (181, hCo Zh[20]? "show_row" 180 176 401 133 1 413 (.ref 178) (.ref 179)),
 (182, hFo Zh[20]? "show_row" .none hMX 181),
 (183, ZT [(hVs "rax" 418), (hVs "rcx" 419), (hVs "rdx" 420), (hVs "rbx" 421), (hVs "rsp" 422), (hVs "rbp" 423), (hVs "rsi" 424), (hVs "rdi" 425), (hVs "r8" 426), (hVs "r9" 427), (hVs "r10" 428), (hVs "r11" 429), (hVs "r12" 430), (hVs "r13" 431), (hVs "r14" 432), (hVs "r15" 433)] 0),
 (184, ZT [(hVs "eax" 435), (hVs "ecx" 436), (hVs "edx" 437), (hVs "ebx" 438), (hVs "esp" 439), (hVs "ebp" 440), (hVs "esi" 441), (hVs "edi" 442), (hVs "r8d" 443), (hVs "r9d" 444), (hVs "r10d" 445), (hVs "r11d" 446), (hVs "r12d" 447), (hVs "r13d" 448), (hVs "r14d" 449), (hVs "r15d" 450)] 0),
 (188, hCo Zh[24]? "_law_pen" 187 185 452 156 1 455 .none .none),
 (189, hFo Zh[24]? "_law_pen" .none hML 188),
 (195, hCo Zh[25]? "_law_draw" 194 190 458 158 2 464 (.ref 192) (.ref 193)),
 (196, hFo Zh[25]? "_law_draw" .none hML 195),
 (202, hCo Zh[26]? "_law_pick" 201 197 467 165 2 472 (.ref 199) (.ref 200)),
 (203, hFo Zh[26]? "_law_pick" .none hML 202),
 (209, hCo Zh[27]? "_law_reg" 208 204 475 167 2 480 (.ref 206) (.ref 207)),
 (210, hFo Zh[27]? "_law_reg" .none hML 209),
 (216, hCo Zh[28]? "_law_spot" 215 211 483 169 2 488 (.ref 213) (.ref 214)),
 (217, hFo Zh[28]? "_law_spot" .none hML 216),
 (223, hCo Zh[29]? "_law_case" 222 218 491 171 1 509 (.ref 220) (.ref 221)),
 (224, hFo Zh[29]? "_law_case" .none hML 223),
 (230, hCo Zh[30]? "_law_is_refused" 229 225 512 214 2 517 (.ref 227) (.ref 228)),
 (231, hFo Zh[30]? "_law_is_refused" .none hML 230),
 (237, hCo Zh[31]? "_law_row_holds" 236 232 520 220 1 530 (.ref 234) (.ref 235)),
 (238, hFo Zh[31]? "_law_row_holds" .none hML 237),
 (242, hCo Zh[32]? "_law_ways_hold" 241 239 533 229 1 536 .none .none),
 (243, hFo Zh[32]? "_law_ways_hold" .none hML 242),
 (247, hCo Zh[33]? "law" 246 244 539 253 1 542 .none .none),
 (248, hFo Zh[33]? "law" .none hML 247)]
noncomputable def hA : List Addr := [3, 22, 28, 29, 38, 39, 40, 51, 52, 60, 61, 74, 75, 81, 82, 84, 85, 86, 87, 95, 96, 102, 103, 104, 110, 111, 117, 118, 119, 125, 126, 132, 133, 139, 140, 146, 147, 153, 154, 160, 161, 167, 168, 174, 175, 181, 182, 183, 184, 188, 189, 195, 196, 202, 203, 209, 210, 216, 217, 223, 224, 230, 231, 237, 238, 242, 243, 247, 248]
noncomputable def hH : Hook := kHook hK hA fun _ => by kernel_rfl
theorem hl0 (w : World) : (openEnds treeTable PySem.Challenge.rw_ok0158_01.row.prog w 3272).map (fun s => (openSeen hv [Str.ofString "GateError", Str.ofString "register_name", Str.ofString "check_row"] (importedModules PySem.Challenge.rw_ok0158_01.row.prog.main.body) (fun s => xlAt hv [] s && recOk [] s) true s, hH.obs s)) = some (openGood hv [Str.ofString "GateError", Str.ofString "register_name", Str.ofString "check_row"], hH.val w) := by kernel_rfl
theorem eqE {α : Sort _} {a b : α} {p : Prop} (h : a = b) (k : a = b → p) : p := k h
theorem si {α : Type _} {a b : α} {p : Prop} (h : some a = some b) (k : a = b → p) : p := k (Option.some.inj h)
theorem xI {α : Type _} {a b : α} (h : some a = some b) : a = b := Option.some.inj h
theorem xN {α : Type _} {a : α} {p : Prop} (h : none = some a) : p := nomatch h
theorem xS {α : Type _} {a : α} {p : Prop} (h : some a = none) : p := nomatch h
theorem xF {p : Prop} (h : false = true) : p := nomatch h
theorem xT {p : Prop} (h : true = false) : p := nomatch h
theorem xC {α : Type _} {a : α} {l : List α} {p : Prop} (h : [] = a :: l) : p := nomatch h
theorem xD {α : Type _} {a : α} {l : List α} {p : Prop} (h : a :: l = []) : p := nomatch h
theorem Zn6  {A0 A1 : Prop} {G : Prop} (h : A0 ∧ A1) (k : A0 → A1 → G) : G := k  h.1 h.2
theorem Zn2  {A0 A1 : Prop}  (h0 : A0) (h1 : A1) : A0 ∧ A1 := ⟨h0, h1⟩
theorem Zn5  {A0 A1 A2 : Prop} {G : Prop} (h : A0 ∧ A1 ∧ A2) (k : A0 → A1 → A2 → G) : G := k  h.1 h.2.1 h.2.2
theorem Zn1  {A0 A1 A2 : Prop}  (h0 : A0) (h1 : A1) (h2 : A2) : A0 ∧ A1 ∧ A2 := ⟨h0, h1, h2⟩
theorem Zn4  {A0 A1 A2 A3 : Prop} {G : Prop} (h : A0 ∧ A1 ∧ A2 ∧ A3) (k : A0 → A1 → A2 → A3 → G) : G := k  h.1 h.2.1 h.2.2.1 h.2.2.2
theorem Zn0  {A0 A1 A2 A3 : Prop}  (h0 : A0) (h1 : A1) (h2 : A2) (h3 : A3) : A0 ∧ A1 ∧ A2 ∧ A3 := ⟨h0, h1, h2, h3⟩
theorem Zn3  {A0 A1 A2 A3 A4 A5 : Prop} {G : Prop} (h : A0 ∧ A1 ∧ A2 ∧ A3 ∧ A4 ∧ A5) (k : A0 → A1 → A2 → A3 → A4 → A5 → G) : G := k  h.1 h.2.1 h.2.2.1 h.2.2.2.1 h.2.2.2.2.1 h.2.2.2.2.2
theorem ZnW  {A0 A1 A2 A3 A4 A5 A6 A7 A8 A9 A10 : Prop} {G : Prop} (h : A0 ∧ A1 ∧ A2 ∧ A3 ∧ A4 ∧ A5 ∧ A6 ∧ A7 ∧ A8 ∧ A9 ∧ A10) (k : A0 → A1 → A2 → A3 → A4 → A5 → A6 → A7 → A8 → A9 → A10 → G) : G := k  h.1 h.2.1 h.2.2.1 h.2.2.2.1 h.2.2.2.2.1 h.2.2.2.2.2.1 h.2.2.2.2.2.2.1 h.2.2.2.2.2.2.2.1 h.2.2.2.2.2.2.2.2.1 h.2.2.2.2.2.2.2.2.2.1 h.2.2.2.2.2.2.2.2.2.2
theorem ZnU  {A0 A1 A2 A3 A4 A5 A6 A7 A8 A9 A10 : Prop}  (h0 : A0) (h1 : A1) (h2 : A2) (h3 : A3) (h4 : A4) (h5 : A5) (h6 : A6) (h7 : A7) (h8 : A8) (h9 : A9) (h10 : A10) : A0 ∧ A1 ∧ A2 ∧ A3 ∧ A4 ∧ A5 ∧ A6 ∧ A7 ∧ A8 ∧ A9 ∧ A10 := ⟨h0, h1, h2, h3, h4, h5, h6, h7, h8, h9, h10⟩
theorem e1a1.{u0} {a0 : Sort u0} {A0 : a0 → Prop} {G : Prop} (h : ∃ x0, A0 x0) (k : ∀ x0, A0 x0 → G) : G := h.elim fun x0 h => k x0 h
theorem i1a1.{u0} {a0 : Sort u0} {A0 : a0 → Prop} (x0 : a0) (h0 : A0 x0) : ∃ x0, A0 x0 := ⟨x0, h0⟩
theorem e1a2.{u0} {a0 : Sort u0} {A0 A1 : a0 → Prop} {G : Prop} (h : ∃ x0, A0 x0 ∧ A1 x0) (k : ∀ x0, A0 x0 → A1 x0 → G) : G := h.elim fun x0 h => k x0 h.1 h.2
theorem i1a2.{u0} {a0 : Sort u0} {A0 A1 : a0 → Prop} (x0 : a0) (h0 : A0 x0) (h1 : A1 x0) : ∃ x0, A0 x0 ∧ A1 x0 := ⟨x0, h0, h1⟩
theorem e1a3.{u0} {a0 : Sort u0} {A0 A1 A2 : a0 → Prop} {G : Prop} (h : ∃ x0, A0 x0 ∧ A1 x0 ∧ A2 x0) (k : ∀ x0, A0 x0 → A1 x0 → A2 x0 → G) : G := h.elim fun x0 h => k x0 h.1 h.2.1 h.2.2
theorem i1a3.{u0} {a0 : Sort u0} {A0 A1 A2 : a0 → Prop} (x0 : a0) (h0 : A0 x0) (h1 : A1 x0) (h2 : A2 x0) : ∃ x0, A0 x0 ∧ A1 x0 ∧ A2 x0 := ⟨x0, h0, h1, h2⟩
theorem e1a4.{u0} {a0 : Sort u0} {A0 A1 A2 A3 : a0 → Prop} {G : Prop} (h : ∃ x0, A0 x0 ∧ A1 x0 ∧ A2 x0 ∧ A3 x0) (k : ∀ x0, A0 x0 → A1 x0 → A2 x0 → A3 x0 → G) : G := h.elim fun x0 h => k x0 h.1 h.2.1 h.2.2.1 h.2.2.2
theorem i1a4.{u0} {a0 : Sort u0} {A0 A1 A2 A3 : a0 → Prop} (x0 : a0) (h0 : A0 x0) (h1 : A1 x0) (h2 : A2 x0) (h3 : A3 x0) : ∃ x0, A0 x0 ∧ A1 x0 ∧ A2 x0 ∧ A3 x0 := ⟨x0, h0, h1, h2, h3⟩
theorem e1a5.{u0} {a0 : Sort u0} {A0 A1 A2 A3 A4 : a0 → Prop} {G : Prop} (h : ∃ x0, A0 x0 ∧ A1 x0 ∧ A2 x0 ∧ A3 x0 ∧ A4 x0) (k : ∀ x0, A0 x0 → A1 x0 → A2 x0 → A3 x0 → A4 x0 → G) : G := h.elim fun x0 h => k x0 h.1 h.2.1 h.2.2.1 h.2.2.2.1 h.2.2.2.2
theorem e2a1.{u0, u1} {a0 : Sort u0} {a1 : Sort u1} {A0 : a0 → a1 → Prop} {G : Prop} (h : ∃ x0 x1, A0 x0 x1) (k : ∀ x0 x1, A0 x0 x1 → G) : G := h.elim fun x0 h => h.elim fun x1 h => k x0 x1 h
theorem i2a1.{u0, u1} {a0 : Sort u0} {a1 : Sort u1} {A0 : a0 → a1 → Prop} (x0 : a0) (x1 : a1) (h0 : A0 x0 x1) : ∃ x0 x1, A0 x0 x1 := ⟨x0, x1, h0⟩
theorem e2a2.{u0, u1} {a0 : Sort u0} {a1 : Sort u1} {A0 A1 : a0 → a1 → Prop} {G : Prop} (h : ∃ x0 x1, A0 x0 x1 ∧ A1 x0 x1) (k : ∀ x0 x1, A0 x0 x1 → A1 x0 x1 → G) : G := h.elim fun x0 h => h.elim fun x1 h => k x0 x1 h.1 h.2
theorem i2a2.{u0, u1} {a0 : Sort u0} {a1 : Sort u1} {A0 A1 : a0 → a1 → Prop} (x0 : a0) (x1 : a1) (h0 : A0 x0 x1) (h1 : A1 x0 x1) : ∃ x0 x1, A0 x0 x1 ∧ A1 x0 x1 := ⟨x0, x1, h0, h1⟩
theorem e2a3.{u0, u1} {a0 : Sort u0} {a1 : Sort u1} {A0 A1 A2 : a0 → a1 → Prop} {G : Prop} (h : ∃ x0 x1, A0 x0 x1 ∧ A1 x0 x1 ∧ A2 x0 x1) (k : ∀ x0 x1, A0 x0 x1 → A1 x0 x1 → A2 x0 x1 → G) : G := h.elim fun x0 h => h.elim fun x1 h => k x0 x1 h.1 h.2.1 h.2.2
theorem i2a3.{u0, u1} {a0 : Sort u0} {a1 : Sort u1} {A0 A1 A2 : a0 → a1 → Prop} (x0 : a0) (x1 : a1) (h0 : A0 x0 x1) (h1 : A1 x0 x1) (h2 : A2 x0 x1) : ∃ x0 x1, A0 x0 x1 ∧ A1 x0 x1 ∧ A2 x0 x1 := ⟨x0, x1, h0, h1, h2⟩
theorem e2a4.{u0, u1} {a0 : Sort u0} {a1 : Sort u1} {A0 A1 A2 A3 : a0 → a1 → Prop} {G : Prop} (h : ∃ x0 x1, A0 x0 x1 ∧ A1 x0 x1 ∧ A2 x0 x1 ∧ A3 x0 x1) (k : ∀ x0 x1, A0 x0 x1 → A1 x0 x1 → A2 x0 x1 → A3 x0 x1 → G) : G := h.elim fun x0 h => h.elim fun x1 h => k x0 x1 h.1 h.2.1 h.2.2.1 h.2.2.2
theorem i2a4.{u0, u1} {a0 : Sort u0} {a1 : Sort u1} {A0 A1 A2 A3 : a0 → a1 → Prop} (x0 : a0) (x1 : a1) (h0 : A0 x0 x1) (h1 : A1 x0 x1) (h2 : A2 x0 x1) (h3 : A3 x0 x1) : ∃ x0 x1, A0 x0 x1 ∧ A1 x0 x1 ∧ A2 x0 x1 ∧ A3 x0 x1 := ⟨x0, x1, h0, h1, h2, h3⟩
theorem e2a5.{u0, u1} {a0 : Sort u0} {a1 : Sort u1} {A0 A1 A2 A3 A4 : a0 → a1 → Prop} {G : Prop} (h : ∃ x0 x1, A0 x0 x1 ∧ A1 x0 x1 ∧ A2 x0 x1 ∧ A3 x0 x1 ∧ A4 x0 x1) (k : ∀ x0 x1, A0 x0 x1 → A1 x0 x1 → A2 x0 x1 → A3 x0 x1 → A4 x0 x1 → G) : G := h.elim fun x0 h => h.elim fun x1 h => k x0 x1 h.1 h.2.1 h.2.2.1 h.2.2.2.1 h.2.2.2.2
theorem i2a5.{u0, u1} {a0 : Sort u0} {a1 : Sort u1} {A0 A1 A2 A3 A4 : a0 → a1 → Prop} (x0 : a0) (x1 : a1) (h0 : A0 x0 x1) (h1 : A1 x0 x1) (h2 : A2 x0 x1) (h3 : A3 x0 x1) (h4 : A4 x0 x1) : ∃ x0 x1, A0 x0 x1 ∧ A1 x0 x1 ∧ A2 x0 x1 ∧ A3 x0 x1 ∧ A4 x0 x1 := ⟨x0, x1, h0, h1, h2, h3, h4⟩
theorem e2a6.{u0, u1} {a0 : Sort u0} {a1 : Sort u1} {A0 A1 A2 A3 A4 A5 : a0 → a1 → Prop} {G : Prop} (h : ∃ x0 x1, A0 x0 x1 ∧ A1 x0 x1 ∧ A2 x0 x1 ∧ A3 x0 x1 ∧ A4 x0 x1 ∧ A5 x0 x1) (k : ∀ x0 x1, A0 x0 x1 → A1 x0 x1 → A2 x0 x1 → A3 x0 x1 → A4 x0 x1 → A5 x0 x1 → G) : G := h.elim fun x0 h => h.elim fun x1 h => k x0 x1 h.1 h.2.1 h.2.2.1 h.2.2.2.1 h.2.2.2.2.1 h.2.2.2.2.2
theorem i2a6.{u0, u1} {a0 : Sort u0} {a1 : Sort u1} {A0 A1 A2 A3 A4 A5 : a0 → a1 → Prop} (x0 : a0) (x1 : a1) (h0 : A0 x0 x1) (h1 : A1 x0 x1) (h2 : A2 x0 x1) (h3 : A3 x0 x1) (h4 : A4 x0 x1) (h5 : A5 x0 x1) : ∃ x0 x1, A0 x0 x1 ∧ A1 x0 x1 ∧ A2 x0 x1 ∧ A3 x0 x1 ∧ A4 x0 x1 ∧ A5 x0 x1 := ⟨x0, x1, h0, h1, h2, h3, h4, h5⟩
theorem e2a8.{u0, u1} {a0 : Sort u0} {a1 : Sort u1} {A0 A1 A2 A3 A4 A5 A6 A7 : a0 → a1 → Prop} {G : Prop} (h : ∃ x0 x1, A0 x0 x1 ∧ A1 x0 x1 ∧ A2 x0 x1 ∧ A3 x0 x1 ∧ A4 x0 x1 ∧ A5 x0 x1 ∧ A6 x0 x1 ∧ A7 x0 x1) (k : ∀ x0 x1, A0 x0 x1 → A1 x0 x1 → A2 x0 x1 → A3 x0 x1 → A4 x0 x1 → A5 x0 x1 → A6 x0 x1 → A7 x0 x1 → G) : G := h.elim fun x0 h => h.elim fun x1 h => k x0 x1 h.1 h.2.1 h.2.2.1 h.2.2.2.1 h.2.2.2.2.1 h.2.2.2.2.2.1 h.2.2.2.2.2.2.1 h.2.2.2.2.2.2.2
theorem i2a8.{u0, u1} {a0 : Sort u0} {a1 : Sort u1} {A0 A1 A2 A3 A4 A5 A6 A7 : a0 → a1 → Prop} (x0 : a0) (x1 : a1) (h0 : A0 x0 x1) (h1 : A1 x0 x1) (h2 : A2 x0 x1) (h3 : A3 x0 x1) (h4 : A4 x0 x1) (h5 : A5 x0 x1) (h6 : A6 x0 x1) (h7 : A7 x0 x1) : ∃ x0 x1, A0 x0 x1 ∧ A1 x0 x1 ∧ A2 x0 x1 ∧ A3 x0 x1 ∧ A4 x0 x1 ∧ A5 x0 x1 ∧ A6 x0 x1 ∧ A7 x0 x1 := ⟨x0, x1, h0, h1, h2, h3, h4, h5, h6, h7⟩
theorem e2a12.{u0, u1} {a0 : Sort u0} {a1 : Sort u1} {A0 A1 A2 A3 A4 A5 A6 A7 A8 A9 A10 A11 : a0 → a1 → Prop} {G : Prop} (h : ∃ x0 x1, A0 x0 x1 ∧ A1 x0 x1 ∧ A2 x0 x1 ∧ A3 x0 x1 ∧ A4 x0 x1 ∧ A5 x0 x1 ∧ A6 x0 x1 ∧ A7 x0 x1 ∧ A8 x0 x1 ∧ A9 x0 x1 ∧ A10 x0 x1 ∧ A11 x0 x1) (k : ∀ x0 x1, A0 x0 x1 → A1 x0 x1 → A2 x0 x1 → A3 x0 x1 → A4 x0 x1 → A5 x0 x1 → A6 x0 x1 → A7 x0 x1 → A8 x0 x1 → A9 x0 x1 → A10 x0 x1 → A11 x0 x1 → G) : G := h.elim fun x0 h => h.elim fun x1 h => k x0 x1 h.1 h.2.1 h.2.2.1 h.2.2.2.1 h.2.2.2.2.1 h.2.2.2.2.2.1 h.2.2.2.2.2.2.1 h.2.2.2.2.2.2.2.1 h.2.2.2.2.2.2.2.2.1 h.2.2.2.2.2.2.2.2.2.1 h.2.2.2.2.2.2.2.2.2.2.1 h.2.2.2.2.2.2.2.2.2.2.2
theorem e3a1.{u0, u1, u2} {a0 : Sort u0} {a1 : Sort u1} {a2 : Sort u2} {A0 : a0 → a1 → a2 → Prop} {G : Prop} (h : ∃ x0 x1 x2, A0 x0 x1 x2) (k : ∀ x0 x1 x2, A0 x0 x1 x2 → G) : G := h.elim fun x0 h => h.elim fun x1 h => h.elim fun x2 h => k x0 x1 x2 h
theorem i3a1.{u0, u1, u2} {a0 : Sort u0} {a1 : Sort u1} {a2 : Sort u2} {A0 : a0 → a1 → a2 → Prop} (x0 : a0) (x1 : a1) (x2 : a2) (h0 : A0 x0 x1 x2) : ∃ x0 x1 x2, A0 x0 x1 x2 := ⟨x0, x1, x2, h0⟩
theorem e3a2.{u0, u1, u2} {a0 : Sort u0} {a1 : Sort u1} {a2 : Sort u2} {A0 A1 : a0 → a1 → a2 → Prop} {G : Prop} (h : ∃ x0 x1 x2, A0 x0 x1 x2 ∧ A1 x0 x1 x2) (k : ∀ x0 x1 x2, A0 x0 x1 x2 → A1 x0 x1 x2 → G) : G := h.elim fun x0 h => h.elim fun x1 h => h.elim fun x2 h => k x0 x1 x2 h.1 h.2
theorem i3a2.{u0, u1, u2} {a0 : Sort u0} {a1 : Sort u1} {a2 : Sort u2} {A0 A1 : a0 → a1 → a2 → Prop} (x0 : a0) (x1 : a1) (x2 : a2) (h0 : A0 x0 x1 x2) (h1 : A1 x0 x1 x2) : ∃ x0 x1 x2, A0 x0 x1 x2 ∧ A1 x0 x1 x2 := ⟨x0, x1, x2, h0, h1⟩
theorem e3a3.{u0, u1, u2} {a0 : Sort u0} {a1 : Sort u1} {a2 : Sort u2} {A0 A1 A2 : a0 → a1 → a2 → Prop} {G : Prop} (h : ∃ x0 x1 x2, A0 x0 x1 x2 ∧ A1 x0 x1 x2 ∧ A2 x0 x1 x2) (k : ∀ x0 x1 x2, A0 x0 x1 x2 → A1 x0 x1 x2 → A2 x0 x1 x2 → G) : G := h.elim fun x0 h => h.elim fun x1 h => h.elim fun x2 h => k x0 x1 x2 h.1 h.2.1 h.2.2
theorem i3a3.{u0, u1, u2} {a0 : Sort u0} {a1 : Sort u1} {a2 : Sort u2} {A0 A1 A2 : a0 → a1 → a2 → Prop} (x0 : a0) (x1 : a1) (x2 : a2) (h0 : A0 x0 x1 x2) (h1 : A1 x0 x1 x2) (h2 : A2 x0 x1 x2) : ∃ x0 x1 x2, A0 x0 x1 x2 ∧ A1 x0 x1 x2 ∧ A2 x0 x1 x2 := ⟨x0, x1, x2, h0, h1, h2⟩
theorem e3a4.{u0, u1, u2} {a0 : Sort u0} {a1 : Sort u1} {a2 : Sort u2} {A0 A1 A2 A3 : a0 → a1 → a2 → Prop} {G : Prop} (h : ∃ x0 x1 x2, A0 x0 x1 x2 ∧ A1 x0 x1 x2 ∧ A2 x0 x1 x2 ∧ A3 x0 x1 x2) (k : ∀ x0 x1 x2, A0 x0 x1 x2 → A1 x0 x1 x2 → A2 x0 x1 x2 → A3 x0 x1 x2 → G) : G := h.elim fun x0 h => h.elim fun x1 h => h.elim fun x2 h => k x0 x1 x2 h.1 h.2.1 h.2.2.1 h.2.2.2
theorem i3a4.{u0, u1, u2} {a0 : Sort u0} {a1 : Sort u1} {a2 : Sort u2} {A0 A1 A2 A3 : a0 → a1 → a2 → Prop} (x0 : a0) (x1 : a1) (x2 : a2) (h0 : A0 x0 x1 x2) (h1 : A1 x0 x1 x2) (h2 : A2 x0 x1 x2) (h3 : A3 x0 x1 x2) : ∃ x0 x1 x2, A0 x0 x1 x2 ∧ A1 x0 x1 x2 ∧ A2 x0 x1 x2 ∧ A3 x0 x1 x2 := ⟨x0, x1, x2, h0, h1, h2, h3⟩
theorem e3a5.{u0, u1, u2} {a0 : Sort u0} {a1 : Sort u1} {a2 : Sort u2} {A0 A1 A2 A3 A4 : a0 → a1 → a2 → Prop} {G : Prop} (h : ∃ x0 x1 x2, A0 x0 x1 x2 ∧ A1 x0 x1 x2 ∧ A2 x0 x1 x2 ∧ A3 x0 x1 x2 ∧ A4 x0 x1 x2) (k : ∀ x0 x1 x2, A0 x0 x1 x2 → A1 x0 x1 x2 → A2 x0 x1 x2 → A3 x0 x1 x2 → A4 x0 x1 x2 → G) : G := h.elim fun x0 h => h.elim fun x1 h => h.elim fun x2 h => k x0 x1 x2 h.1 h.2.1 h.2.2.1 h.2.2.2.1 h.2.2.2.2
theorem e3a6.{u0, u1, u2} {a0 : Sort u0} {a1 : Sort u1} {a2 : Sort u2} {A0 A1 A2 A3 A4 A5 : a0 → a1 → a2 → Prop} {G : Prop} (h : ∃ x0 x1 x2, A0 x0 x1 x2 ∧ A1 x0 x1 x2 ∧ A2 x0 x1 x2 ∧ A3 x0 x1 x2 ∧ A4 x0 x1 x2 ∧ A5 x0 x1 x2) (k : ∀ x0 x1 x2, A0 x0 x1 x2 → A1 x0 x1 x2 → A2 x0 x1 x2 → A3 x0 x1 x2 → A4 x0 x1 x2 → A5 x0 x1 x2 → G) : G := h.elim fun x0 h => h.elim fun x1 h => h.elim fun x2 h => k x0 x1 x2 h.1 h.2.1 h.2.2.1 h.2.2.2.1 h.2.2.2.2.1 h.2.2.2.2.2
theorem i3a6.{u0, u1, u2} {a0 : Sort u0} {a1 : Sort u1} {a2 : Sort u2} {A0 A1 A2 A3 A4 A5 : a0 → a1 → a2 → Prop} (x0 : a0) (x1 : a1) (x2 : a2) (h0 : A0 x0 x1 x2) (h1 : A1 x0 x1 x2) (h2 : A2 x0 x1 x2) (h3 : A3 x0 x1 x2) (h4 : A4 x0 x1 x2) (h5 : A5 x0 x1 x2) : ∃ x0 x1 x2, A0 x0 x1 x2 ∧ A1 x0 x1 x2 ∧ A2 x0 x1 x2 ∧ A3 x0 x1 x2 ∧ A4 x0 x1 x2 ∧ A5 x0 x1 x2 := ⟨x0, x1, x2, h0, h1, h2, h3, h4, h5⟩
theorem e3a7.{u0, u1, u2} {a0 : Sort u0} {a1 : Sort u1} {a2 : Sort u2} {A0 A1 A2 A3 A4 A5 A6 : a0 → a1 → a2 → Prop} {G : Prop} (h : ∃ x0 x1 x2, A0 x0 x1 x2 ∧ A1 x0 x1 x2 ∧ A2 x0 x1 x2 ∧ A3 x0 x1 x2 ∧ A4 x0 x1 x2 ∧ A5 x0 x1 x2 ∧ A6 x0 x1 x2) (k : ∀ x0 x1 x2, A0 x0 x1 x2 → A1 x0 x1 x2 → A2 x0 x1 x2 → A3 x0 x1 x2 → A4 x0 x1 x2 → A5 x0 x1 x2 → A6 x0 x1 x2 → G) : G := h.elim fun x0 h => h.elim fun x1 h => h.elim fun x2 h => k x0 x1 x2 h.1 h.2.1 h.2.2.1 h.2.2.2.1 h.2.2.2.2.1 h.2.2.2.2.2.1 h.2.2.2.2.2.2
theorem i3a7.{u0, u1, u2} {a0 : Sort u0} {a1 : Sort u1} {a2 : Sort u2} {A0 A1 A2 A3 A4 A5 A6 : a0 → a1 → a2 → Prop} (x0 : a0) (x1 : a1) (x2 : a2) (h0 : A0 x0 x1 x2) (h1 : A1 x0 x1 x2) (h2 : A2 x0 x1 x2) (h3 : A3 x0 x1 x2) (h4 : A4 x0 x1 x2) (h5 : A5 x0 x1 x2) (h6 : A6 x0 x1 x2) : ∃ x0 x1 x2, A0 x0 x1 x2 ∧ A1 x0 x1 x2 ∧ A2 x0 x1 x2 ∧ A3 x0 x1 x2 ∧ A4 x0 x1 x2 ∧ A5 x0 x1 x2 ∧ A6 x0 x1 x2 := ⟨x0, x1, x2, h0, h1, h2, h3, h4, h5, h6⟩
theorem e4a1.{u0, u1, u2, u3} {a0 : Sort u0} {a1 : Sort u1} {a2 : Sort u2} {a3 : Sort u3} {A0 : a0 → a1 → a2 → a3 → Prop} {G : Prop} (h : ∃ x0 x1 x2 x3, A0 x0 x1 x2 x3) (k : ∀ x0 x1 x2 x3, A0 x0 x1 x2 x3 → G) : G := h.elim fun x0 h => h.elim fun x1 h => h.elim fun x2 h => h.elim fun x3 h => k x0 x1 x2 x3 h
theorem i4a1.{u0, u1, u2, u3} {a0 : Sort u0} {a1 : Sort u1} {a2 : Sort u2} {a3 : Sort u3} {A0 : a0 → a1 → a2 → a3 → Prop} (x0 : a0) (x1 : a1) (x2 : a2) (x3 : a3) (h0 : A0 x0 x1 x2 x3) : ∃ x0 x1 x2 x3, A0 x0 x1 x2 x3 := ⟨x0, x1, x2, x3, h0⟩
theorem e4a2.{u0, u1, u2, u3} {a0 : Sort u0} {a1 : Sort u1} {a2 : Sort u2} {a3 : Sort u3} {A0 A1 : a0 → a1 → a2 → a3 → Prop} {G : Prop} (h : ∃ x0 x1 x2 x3, A0 x0 x1 x2 x3 ∧ A1 x0 x1 x2 x3) (k : ∀ x0 x1 x2 x3, A0 x0 x1 x2 x3 → A1 x0 x1 x2 x3 → G) : G := h.elim fun x0 h => h.elim fun x1 h => h.elim fun x2 h => h.elim fun x3 h => k x0 x1 x2 x3 h.1 h.2
theorem e4a3.{u0, u1, u2, u3} {a0 : Sort u0} {a1 : Sort u1} {a2 : Sort u2} {a3 : Sort u3} {A0 A1 A2 : a0 → a1 → a2 → a3 → Prop} {G : Prop} (h : ∃ x0 x1 x2 x3, A0 x0 x1 x2 x3 ∧ A1 x0 x1 x2 x3 ∧ A2 x0 x1 x2 x3) (k : ∀ x0 x1 x2 x3, A0 x0 x1 x2 x3 → A1 x0 x1 x2 x3 → A2 x0 x1 x2 x3 → G) : G := h.elim fun x0 h => h.elim fun x1 h => h.elim fun x2 h => h.elim fun x3 h => k x0 x1 x2 x3 h.1 h.2.1 h.2.2
theorem e4a4.{u0, u1, u2, u3} {a0 : Sort u0} {a1 : Sort u1} {a2 : Sort u2} {a3 : Sort u3} {A0 A1 A2 A3 : a0 → a1 → a2 → a3 → Prop} {G : Prop} (h : ∃ x0 x1 x2 x3, A0 x0 x1 x2 x3 ∧ A1 x0 x1 x2 x3 ∧ A2 x0 x1 x2 x3 ∧ A3 x0 x1 x2 x3) (k : ∀ x0 x1 x2 x3, A0 x0 x1 x2 x3 → A1 x0 x1 x2 x3 → A2 x0 x1 x2 x3 → A3 x0 x1 x2 x3 → G) : G := h.elim fun x0 h => h.elim fun x1 h => h.elim fun x2 h => h.elim fun x3 h => k x0 x1 x2 x3 h.1 h.2.1 h.2.2.1 h.2.2.2
theorem i4a4.{u0, u1, u2, u3} {a0 : Sort u0} {a1 : Sort u1} {a2 : Sort u2} {a3 : Sort u3} {A0 A1 A2 A3 : a0 → a1 → a2 → a3 → Prop} (x0 : a0) (x1 : a1) (x2 : a2) (x3 : a3) (h0 : A0 x0 x1 x2 x3) (h1 : A1 x0 x1 x2 x3) (h2 : A2 x0 x1 x2 x3) (h3 : A3 x0 x1 x2 x3) : ∃ x0 x1 x2 x3, A0 x0 x1 x2 x3 ∧ A1 x0 x1 x2 x3 ∧ A2 x0 x1 x2 x3 ∧ A3 x0 x1 x2 x3 := ⟨x0, x1, x2, x3, h0, h1, h2, h3⟩
theorem e4a5.{u0, u1, u2, u3} {a0 : Sort u0} {a1 : Sort u1} {a2 : Sort u2} {a3 : Sort u3} {A0 A1 A2 A3 A4 : a0 → a1 → a2 → a3 → Prop} {G : Prop} (h : ∃ x0 x1 x2 x3, A0 x0 x1 x2 x3 ∧ A1 x0 x1 x2 x3 ∧ A2 x0 x1 x2 x3 ∧ A3 x0 x1 x2 x3 ∧ A4 x0 x1 x2 x3) (k : ∀ x0 x1 x2 x3, A0 x0 x1 x2 x3 → A1 x0 x1 x2 x3 → A2 x0 x1 x2 x3 → A3 x0 x1 x2 x3 → A4 x0 x1 x2 x3 → G) : G := h.elim fun x0 h => h.elim fun x1 h => h.elim fun x2 h => h.elim fun x3 h => k x0 x1 x2 x3 h.1 h.2.1 h.2.2.1 h.2.2.2.1 h.2.2.2.2
theorem e4a6.{u0, u1, u2, u3} {a0 : Sort u0} {a1 : Sort u1} {a2 : Sort u2} {a3 : Sort u3} {A0 A1 A2 A3 A4 A5 : a0 → a1 → a2 → a3 → Prop} {G : Prop} (h : ∃ x0 x1 x2 x3, A0 x0 x1 x2 x3 ∧ A1 x0 x1 x2 x3 ∧ A2 x0 x1 x2 x3 ∧ A3 x0 x1 x2 x3 ∧ A4 x0 x1 x2 x3 ∧ A5 x0 x1 x2 x3) (k : ∀ x0 x1 x2 x3, A0 x0 x1 x2 x3 → A1 x0 x1 x2 x3 → A2 x0 x1 x2 x3 → A3 x0 x1 x2 x3 → A4 x0 x1 x2 x3 → A5 x0 x1 x2 x3 → G) : G := h.elim fun x0 h => h.elim fun x1 h => h.elim fun x2 h => h.elim fun x3 h => k x0 x1 x2 x3 h.1 h.2.1 h.2.2.1 h.2.2.2.1 h.2.2.2.2.1 h.2.2.2.2.2
theorem e4a7.{u0, u1, u2, u3} {a0 : Sort u0} {a1 : Sort u1} {a2 : Sort u2} {a3 : Sort u3} {A0 A1 A2 A3 A4 A5 A6 : a0 → a1 → a2 → a3 → Prop} {G : Prop} (h : ∃ x0 x1 x2 x3, A0 x0 x1 x2 x3 ∧ A1 x0 x1 x2 x3 ∧ A2 x0 x1 x2 x3 ∧ A3 x0 x1 x2 x3 ∧ A4 x0 x1 x2 x3 ∧ A5 x0 x1 x2 x3 ∧ A6 x0 x1 x2 x3) (k : ∀ x0 x1 x2 x3, A0 x0 x1 x2 x3 → A1 x0 x1 x2 x3 → A2 x0 x1 x2 x3 → A3 x0 x1 x2 x3 → A4 x0 x1 x2 x3 → A5 x0 x1 x2 x3 → A6 x0 x1 x2 x3 → G) : G := h.elim fun x0 h => h.elim fun x1 h => h.elim fun x2 h => h.elim fun x3 h => k x0 x1 x2 x3 h.1 h.2.1 h.2.2.1 h.2.2.2.1 h.2.2.2.2.1 h.2.2.2.2.2.1 h.2.2.2.2.2.2
theorem i4a7.{u0, u1, u2, u3} {a0 : Sort u0} {a1 : Sort u1} {a2 : Sort u2} {a3 : Sort u3} {A0 A1 A2 A3 A4 A5 A6 : a0 → a1 → a2 → a3 → Prop} (x0 : a0) (x1 : a1) (x2 : a2) (x3 : a3) (h0 : A0 x0 x1 x2 x3) (h1 : A1 x0 x1 x2 x3) (h2 : A2 x0 x1 x2 x3) (h3 : A3 x0 x1 x2 x3) (h4 : A4 x0 x1 x2 x3) (h5 : A5 x0 x1 x2 x3) (h6 : A6 x0 x1 x2 x3) : ∃ x0 x1 x2 x3, A0 x0 x1 x2 x3 ∧ A1 x0 x1 x2 x3 ∧ A2 x0 x1 x2 x3 ∧ A3 x0 x1 x2 x3 ∧ A4 x0 x1 x2 x3 ∧ A5 x0 x1 x2 x3 ∧ A6 x0 x1 x2 x3 := ⟨x0, x1, x2, x3, h0, h1, h2, h3, h4, h5, h6⟩
theorem e4a8.{u0, u1, u2, u3} {a0 : Sort u0} {a1 : Sort u1} {a2 : Sort u2} {a3 : Sort u3} {A0 A1 A2 A3 A4 A5 A6 A7 : a0 → a1 → a2 → a3 → Prop} {G : Prop} (h : ∃ x0 x1 x2 x3, A0 x0 x1 x2 x3 ∧ A1 x0 x1 x2 x3 ∧ A2 x0 x1 x2 x3 ∧ A3 x0 x1 x2 x3 ∧ A4 x0 x1 x2 x3 ∧ A5 x0 x1 x2 x3 ∧ A6 x0 x1 x2 x3 ∧ A7 x0 x1 x2 x3) (k : ∀ x0 x1 x2 x3, A0 x0 x1 x2 x3 → A1 x0 x1 x2 x3 → A2 x0 x1 x2 x3 → A3 x0 x1 x2 x3 → A4 x0 x1 x2 x3 → A5 x0 x1 x2 x3 → A6 x0 x1 x2 x3 → A7 x0 x1 x2 x3 → G) : G := h.elim fun x0 h => h.elim fun x1 h => h.elim fun x2 h => h.elim fun x3 h => k x0 x1 x2 x3 h.1 h.2.1 h.2.2.1 h.2.2.2.1 h.2.2.2.2.1 h.2.2.2.2.2.1 h.2.2.2.2.2.2.1 h.2.2.2.2.2.2.2
theorem i4a8.{u0, u1, u2, u3} {a0 : Sort u0} {a1 : Sort u1} {a2 : Sort u2} {a3 : Sort u3} {A0 A1 A2 A3 A4 A5 A6 A7 : a0 → a1 → a2 → a3 → Prop} (x0 : a0) (x1 : a1) (x2 : a2) (x3 : a3) (h0 : A0 x0 x1 x2 x3) (h1 : A1 x0 x1 x2 x3) (h2 : A2 x0 x1 x2 x3) (h3 : A3 x0 x1 x2 x3) (h4 : A4 x0 x1 x2 x3) (h5 : A5 x0 x1 x2 x3) (h6 : A6 x0 x1 x2 x3) (h7 : A7 x0 x1 x2 x3) : ∃ x0 x1 x2 x3, A0 x0 x1 x2 x3 ∧ A1 x0 x1 x2 x3 ∧ A2 x0 x1 x2 x3 ∧ A3 x0 x1 x2 x3 ∧ A4 x0 x1 x2 x3 ∧ A5 x0 x1 x2 x3 ∧ A6 x0 x1 x2 x3 ∧ A7 x0 x1 x2 x3 := ⟨x0, x1, x2, x3, h0, h1, h2, h3, h4, h5, h6, h7⟩
theorem i5a2.{u0, u1, u2, u3, u4} {a0 : Sort u0} {a1 : Sort u1} {a2 : Sort u2} {a3 : Sort u3} {a4 : Sort u4} {A0 A1 : a0 → a1 → a2 → a3 → a4 → Prop} (x0 : a0) (x1 : a1) (x2 : a2) (x3 : a3) (x4 : a4) (h0 : A0 x0 x1 x2 x3 x4) (h1 : A1 x0 x1 x2 x3 x4) : ∃ x0 x1 x2 x3 x4, A0 x0 x1 x2 x3 x4 ∧ A1 x0 x1 x2 x3 x4 := ⟨x0, x1, x2, x3, x4, h0, h1⟩
theorem e5a4.{u0, u1, u2, u3, u4} {a0 : Sort u0} {a1 : Sort u1} {a2 : Sort u2} {a3 : Sort u3} {a4 : Sort u4} {A0 A1 A2 A3 : a0 → a1 → a2 → a3 → a4 → Prop} {G : Prop} (h : ∃ x0 x1 x2 x3 x4, A0 x0 x1 x2 x3 x4 ∧ A1 x0 x1 x2 x3 x4 ∧ A2 x0 x1 x2 x3 x4 ∧ A3 x0 x1 x2 x3 x4) (k : ∀ x0 x1 x2 x3 x4, A0 x0 x1 x2 x3 x4 → A1 x0 x1 x2 x3 x4 → A2 x0 x1 x2 x3 x4 → A3 x0 x1 x2 x3 x4 → G) : G := h.elim fun x0 h => h.elim fun x1 h => h.elim fun x2 h => h.elim fun x3 h => h.elim fun x4 h => k x0 x1 x2 x3 x4 h.1 h.2.1 h.2.2.1 h.2.2.2
theorem e6a2.{u0, u1, u2, u3, u4, u5} {a0 : Sort u0} {a1 : Sort u1} {a2 : Sort u2} {a3 : Sort u3} {a4 : Sort u4} {a5 : Sort u5} {A0 A1 : a0 → a1 → a2 → a3 → a4 → a5 → Prop} {G : Prop} (h : ∃ x0 x1 x2 x3 x4 x5, A0 x0 x1 x2 x3 x4 x5 ∧ A1 x0 x1 x2 x3 x4 x5) (k : ∀ x0 x1 x2 x3 x4 x5, A0 x0 x1 x2 x3 x4 x5 → A1 x0 x1 x2 x3 x4 x5 → G) : G := h.elim fun x0 h => h.elim fun x1 h => h.elim fun x2 h => h.elim fun x3 h => h.elim fun x4 h => h.elim fun x5 h => k x0 x1 x2 x3 x4 x5 h.1 h.2
theorem i6a2.{u0, u1, u2, u3, u4, u5} {a0 : Sort u0} {a1 : Sort u1} {a2 : Sort u2} {a3 : Sort u3} {a4 : Sort u4} {a5 : Sort u5} {A0 A1 : a0 → a1 → a2 → a3 → a4 → a5 → Prop} (x0 : a0) (x1 : a1) (x2 : a2) (x3 : a3) (x4 : a4) (x5 : a5) (h0 : A0 x0 x1 x2 x3 x4 x5) (h1 : A1 x0 x1 x2 x3 x4 x5) : ∃ x0 x1 x2 x3 x4 x5, A0 x0 x1 x2 x3 x4 x5 ∧ A1 x0 x1 x2 x3 x4 x5 := ⟨x0, x1, x2, x3, x4, x5, h0, h1⟩
theorem e6a3.{u0, u1, u2, u3, u4, u5} {a0 : Sort u0} {a1 : Sort u1} {a2 : Sort u2} {a3 : Sort u3} {a4 : Sort u4} {a5 : Sort u5} {A0 A1 A2 : a0 → a1 → a2 → a3 → a4 → a5 → Prop} {G : Prop} (h : ∃ x0 x1 x2 x3 x4 x5, A0 x0 x1 x2 x3 x4 x5 ∧ A1 x0 x1 x2 x3 x4 x5 ∧ A2 x0 x1 x2 x3 x4 x5) (k : ∀ x0 x1 x2 x3 x4 x5, A0 x0 x1 x2 x3 x4 x5 → A1 x0 x1 x2 x3 x4 x5 → A2 x0 x1 x2 x3 x4 x5 → G) : G := h.elim fun x0 h => h.elim fun x1 h => h.elim fun x2 h => h.elim fun x3 h => h.elim fun x4 h => h.elim fun x5 h => k x0 x1 x2 x3 x4 x5 h.1 h.2.1 h.2.2
theorem i6a3.{u0, u1, u2, u3, u4, u5} {a0 : Sort u0} {a1 : Sort u1} {a2 : Sort u2} {a3 : Sort u3} {a4 : Sort u4} {a5 : Sort u5} {A0 A1 A2 : a0 → a1 → a2 → a3 → a4 → a5 → Prop} (x0 : a0) (x1 : a1) (x2 : a2) (x3 : a3) (x4 : a4) (x5 : a5) (h0 : A0 x0 x1 x2 x3 x4 x5) (h1 : A1 x0 x1 x2 x3 x4 x5) (h2 : A2 x0 x1 x2 x3 x4 x5) : ∃ x0 x1 x2 x3 x4 x5, A0 x0 x1 x2 x3 x4 x5 ∧ A1 x0 x1 x2 x3 x4 x5 ∧ A2 x0 x1 x2 x3 x4 x5 := ⟨x0, x1, x2, x3, x4, x5, h0, h1, h2⟩
theorem e6a7.{u0, u1, u2, u3, u4, u5} {a0 : Sort u0} {a1 : Sort u1} {a2 : Sort u2} {a3 : Sort u3} {a4 : Sort u4} {a5 : Sort u5} {A0 A1 A2 A3 A4 A5 A6 : a0 → a1 → a2 → a3 → a4 → a5 → Prop} {G : Prop} (h : ∃ x0 x1 x2 x3 x4 x5, A0 x0 x1 x2 x3 x4 x5 ∧ A1 x0 x1 x2 x3 x4 x5 ∧ A2 x0 x1 x2 x3 x4 x5 ∧ A3 x0 x1 x2 x3 x4 x5 ∧ A4 x0 x1 x2 x3 x4 x5 ∧ A5 x0 x1 x2 x3 x4 x5 ∧ A6 x0 x1 x2 x3 x4 x5) (k : ∀ x0 x1 x2 x3 x4 x5, A0 x0 x1 x2 x3 x4 x5 → A1 x0 x1 x2 x3 x4 x5 → A2 x0 x1 x2 x3 x4 x5 → A3 x0 x1 x2 x3 x4 x5 → A4 x0 x1 x2 x3 x4 x5 → A5 x0 x1 x2 x3 x4 x5 → A6 x0 x1 x2 x3 x4 x5 → G) : G := h.elim fun x0 h => h.elim fun x1 h => h.elim fun x2 h => h.elim fun x3 h => h.elim fun x4 h => h.elim fun x5 h => k x0 x1 x2 x3 x4 x5 h.1 h.2.1 h.2.2.1 h.2.2.2.1 h.2.2.2.2.1 h.2.2.2.2.2.1 h.2.2.2.2.2.2
theorem i6a7.{u0, u1, u2, u3, u4, u5} {a0 : Sort u0} {a1 : Sort u1} {a2 : Sort u2} {a3 : Sort u3} {a4 : Sort u4} {a5 : Sort u5} {A0 A1 A2 A3 A4 A5 A6 : a0 → a1 → a2 → a3 → a4 → a5 → Prop} (x0 : a0) (x1 : a1) (x2 : a2) (x3 : a3) (x4 : a4) (x5 : a5) (h0 : A0 x0 x1 x2 x3 x4 x5) (h1 : A1 x0 x1 x2 x3 x4 x5) (h2 : A2 x0 x1 x2 x3 x4 x5) (h3 : A3 x0 x1 x2 x3 x4 x5) (h4 : A4 x0 x1 x2 x3 x4 x5) (h5 : A5 x0 x1 x2 x3 x4 x5) (h6 : A6 x0 x1 x2 x3 x4 x5) : ∃ x0 x1 x2 x3 x4 x5, A0 x0 x1 x2 x3 x4 x5 ∧ A1 x0 x1 x2 x3 x4 x5 ∧ A2 x0 x1 x2 x3 x4 x5 ∧ A3 x0 x1 x2 x3 x4 x5 ∧ A4 x0 x1 x2 x3 x4 x5 ∧ A5 x0 x1 x2 x3 x4 x5 ∧ A6 x0 x1 x2 x3 x4 x5 := ⟨x0, x1, x2, x3, x4, x5, h0, h1, h2, h3, h4, h5, h6⟩
theorem e6a8.{u0, u1, u2, u3, u4, u5} {a0 : Sort u0} {a1 : Sort u1} {a2 : Sort u2} {a3 : Sort u3} {a4 : Sort u4} {a5 : Sort u5} {A0 A1 A2 A3 A4 A5 A6 A7 : a0 → a1 → a2 → a3 → a4 → a5 → Prop} {G : Prop} (h : ∃ x0 x1 x2 x3 x4 x5, A0 x0 x1 x2 x3 x4 x5 ∧ A1 x0 x1 x2 x3 x4 x5 ∧ A2 x0 x1 x2 x3 x4 x5 ∧ A3 x0 x1 x2 x3 x4 x5 ∧ A4 x0 x1 x2 x3 x4 x5 ∧ A5 x0 x1 x2 x3 x4 x5 ∧ A6 x0 x1 x2 x3 x4 x5 ∧ A7 x0 x1 x2 x3 x4 x5) (k : ∀ x0 x1 x2 x3 x4 x5, A0 x0 x1 x2 x3 x4 x5 → A1 x0 x1 x2 x3 x4 x5 → A2 x0 x1 x2 x3 x4 x5 → A3 x0 x1 x2 x3 x4 x5 → A4 x0 x1 x2 x3 x4 x5 → A5 x0 x1 x2 x3 x4 x5 → A6 x0 x1 x2 x3 x4 x5 → A7 x0 x1 x2 x3 x4 x5 → G) : G := h.elim fun x0 h => h.elim fun x1 h => h.elim fun x2 h => h.elim fun x3 h => h.elim fun x4 h => h.elim fun x5 h => k x0 x1 x2 x3 x4 x5 h.1 h.2.1 h.2.2.1 h.2.2.2.1 h.2.2.2.2.1 h.2.2.2.2.2.1 h.2.2.2.2.2.2.1 h.2.2.2.2.2.2.2
theorem e7a7.{u0, u1, u2, u3, u4, u5, u6} {a0 : Sort u0} {a1 : Sort u1} {a2 : Sort u2} {a3 : Sort u3} {a4 : Sort u4} {a5 : Sort u5} {a6 : Sort u6} {A0 A1 A2 A3 A4 A5 A6 : a0 → a1 → a2 → a3 → a4 → a5 → a6 → Prop} {G : Prop} (h : ∃ x0 x1 x2 x3 x4 x5 x6, A0 x0 x1 x2 x3 x4 x5 x6 ∧ A1 x0 x1 x2 x3 x4 x5 x6 ∧ A2 x0 x1 x2 x3 x4 x5 x6 ∧ A3 x0 x1 x2 x3 x4 x5 x6 ∧ A4 x0 x1 x2 x3 x4 x5 x6 ∧ A5 x0 x1 x2 x3 x4 x5 x6 ∧ A6 x0 x1 x2 x3 x4 x5 x6) (k : ∀ x0 x1 x2 x3 x4 x5 x6, A0 x0 x1 x2 x3 x4 x5 x6 → A1 x0 x1 x2 x3 x4 x5 x6 → A2 x0 x1 x2 x3 x4 x5 x6 → A3 x0 x1 x2 x3 x4 x5 x6 → A4 x0 x1 x2 x3 x4 x5 x6 → A5 x0 x1 x2 x3 x4 x5 x6 → A6 x0 x1 x2 x3 x4 x5 x6 → G) : G := h.elim fun x0 h => h.elim fun x1 h => h.elim fun x2 h => h.elim fun x3 h => h.elim fun x4 h => h.elim fun x5 h => h.elim fun x6 h => k x0 x1 x2 x3 x4 x5 x6 h.1 h.2.1 h.2.2.1 h.2.2.2.1 h.2.2.2.2.1 h.2.2.2.2.2.1 h.2.2.2.2.2.2
theorem i7a7.{u0, u1, u2, u3, u4, u5, u6} {a0 : Sort u0} {a1 : Sort u1} {a2 : Sort u2} {a3 : Sort u3} {a4 : Sort u4} {a5 : Sort u5} {a6 : Sort u6} {A0 A1 A2 A3 A4 A5 A6 : a0 → a1 → a2 → a3 → a4 → a5 → a6 → Prop} (x0 : a0) (x1 : a1) (x2 : a2) (x3 : a3) (x4 : a4) (x5 : a5) (x6 : a6) (h0 : A0 x0 x1 x2 x3 x4 x5 x6) (h1 : A1 x0 x1 x2 x3 x4 x5 x6) (h2 : A2 x0 x1 x2 x3 x4 x5 x6) (h3 : A3 x0 x1 x2 x3 x4 x5 x6) (h4 : A4 x0 x1 x2 x3 x4 x5 x6) (h5 : A5 x0 x1 x2 x3 x4 x5 x6) (h6 : A6 x0 x1 x2 x3 x4 x5 x6) : ∃ x0 x1 x2 x3 x4 x5 x6, A0 x0 x1 x2 x3 x4 x5 x6 ∧ A1 x0 x1 x2 x3 x4 x5 x6 ∧ A2 x0 x1 x2 x3 x4 x5 x6 ∧ A3 x0 x1 x2 x3 x4 x5 x6 ∧ A4 x0 x1 x2 x3 x4 x5 x6 ∧ A5 x0 x1 x2 x3 x4 x5 x6 ∧ A6 x0 x1 x2 x3 x4 x5 x6 := ⟨x0, x1, x2, x3, x4, x5, x6, h0, h1, h2, h3, h4, h5, h6⟩
theorem e7a8.{u0, u1, u2, u3, u4, u5, u6} {a0 : Sort u0} {a1 : Sort u1} {a2 : Sort u2} {a3 : Sort u3} {a4 : Sort u4} {a5 : Sort u5} {a6 : Sort u6} {A0 A1 A2 A3 A4 A5 A6 A7 : a0 → a1 → a2 → a3 → a4 → a5 → a6 → Prop} {G : Prop} (h : ∃ x0 x1 x2 x3 x4 x5 x6, A0 x0 x1 x2 x3 x4 x5 x6 ∧ A1 x0 x1 x2 x3 x4 x5 x6 ∧ A2 x0 x1 x2 x3 x4 x5 x6 ∧ A3 x0 x1 x2 x3 x4 x5 x6 ∧ A4 x0 x1 x2 x3 x4 x5 x6 ∧ A5 x0 x1 x2 x3 x4 x5 x6 ∧ A6 x0 x1 x2 x3 x4 x5 x6 ∧ A7 x0 x1 x2 x3 x4 x5 x6) (k : ∀ x0 x1 x2 x3 x4 x5 x6, A0 x0 x1 x2 x3 x4 x5 x6 → A1 x0 x1 x2 x3 x4 x5 x6 → A2 x0 x1 x2 x3 x4 x5 x6 → A3 x0 x1 x2 x3 x4 x5 x6 → A4 x0 x1 x2 x3 x4 x5 x6 → A5 x0 x1 x2 x3 x4 x5 x6 → A6 x0 x1 x2 x3 x4 x5 x6 → A7 x0 x1 x2 x3 x4 x5 x6 → G) : G := h.elim fun x0 h => h.elim fun x1 h => h.elim fun x2 h => h.elim fun x3 h => h.elim fun x4 h => h.elim fun x5 h => h.elim fun x6 h => k x0 x1 x2 x3 x4 x5 x6 h.1 h.2.1 h.2.2.1 h.2.2.2.1 h.2.2.2.2.1 h.2.2.2.2.2.1 h.2.2.2.2.2.2.1 h.2.2.2.2.2.2.2
theorem i7a8.{u0, u1, u2, u3, u4, u5, u6} {a0 : Sort u0} {a1 : Sort u1} {a2 : Sort u2} {a3 : Sort u3} {a4 : Sort u4} {a5 : Sort u5} {a6 : Sort u6} {A0 A1 A2 A3 A4 A5 A6 A7 : a0 → a1 → a2 → a3 → a4 → a5 → a6 → Prop} (x0 : a0) (x1 : a1) (x2 : a2) (x3 : a3) (x4 : a4) (x5 : a5) (x6 : a6) (h0 : A0 x0 x1 x2 x3 x4 x5 x6) (h1 : A1 x0 x1 x2 x3 x4 x5 x6) (h2 : A2 x0 x1 x2 x3 x4 x5 x6) (h3 : A3 x0 x1 x2 x3 x4 x5 x6) (h4 : A4 x0 x1 x2 x3 x4 x5 x6) (h5 : A5 x0 x1 x2 x3 x4 x5 x6) (h6 : A6 x0 x1 x2 x3 x4 x5 x6) (h7 : A7 x0 x1 x2 x3 x4 x5 x6) : ∃ x0 x1 x2 x3 x4 x5 x6, A0 x0 x1 x2 x3 x4 x5 x6 ∧ A1 x0 x1 x2 x3 x4 x5 x6 ∧ A2 x0 x1 x2 x3 x4 x5 x6 ∧ A3 x0 x1 x2 x3 x4 x5 x6 ∧ A4 x0 x1 x2 x3 x4 x5 x6 ∧ A5 x0 x1 x2 x3 x4 x5 x6 ∧ A6 x0 x1 x2 x3 x4 x5 x6 ∧ A7 x0 x1 x2 x3 x4 x5 x6 := ⟨x0, x1, x2, x3, x4, x5, x6, h0, h1, h2, h3, h4, h5, h6, h7⟩
theorem e11a8.{u0, u1, u2, u3, u4, u5, u6, u7, u8, u9, u10} {a0 : Sort u0} {a1 : Sort u1} {a2 : Sort u2} {a3 : Sort u3} {a4 : Sort u4} {a5 : Sort u5} {a6 : Sort u6} {a7 : Sort u7} {a8 : Sort u8} {a9 : Sort u9} {a10 : Sort u10} {A0 A1 A2 A3 A4 A5 A6 A7 : a0 → a1 → a2 → a3 → a4 → a5 → a6 → a7 → a8 → a9 → a10 → Prop} {G : Prop} (h : ∃ x0 x1 x2 x3 x4 x5 x6 x7 x8 x9 x10, A0 x0 x1 x2 x3 x4 x5 x6 x7 x8 x9 x10 ∧ A1 x0 x1 x2 x3 x4 x5 x6 x7 x8 x9 x10 ∧ A2 x0 x1 x2 x3 x4 x5 x6 x7 x8 x9 x10 ∧ A3 x0 x1 x2 x3 x4 x5 x6 x7 x8 x9 x10 ∧ A4 x0 x1 x2 x3 x4 x5 x6 x7 x8 x9 x10 ∧ A5 x0 x1 x2 x3 x4 x5 x6 x7 x8 x9 x10 ∧ A6 x0 x1 x2 x3 x4 x5 x6 x7 x8 x9 x10 ∧ A7 x0 x1 x2 x3 x4 x5 x6 x7 x8 x9 x10) (k : ∀ x0 x1 x2 x3 x4 x5 x6 x7 x8 x9 x10, A0 x0 x1 x2 x3 x4 x5 x6 x7 x8 x9 x10 → A1 x0 x1 x2 x3 x4 x5 x6 x7 x8 x9 x10 → A2 x0 x1 x2 x3 x4 x5 x6 x7 x8 x9 x10 → A3 x0 x1 x2 x3 x4 x5 x6 x7 x8 x9 x10 → A4 x0 x1 x2 x3 x4 x5 x6 x7 x8 x9 x10 → A5 x0 x1 x2 x3 x4 x5 x6 x7 x8 x9 x10 → A6 x0 x1 x2 x3 x4 x5 x6 x7 x8 x9 x10 → A7 x0 x1 x2 x3 x4 x5 x6 x7 x8 x9 x10 → G) : G := h.elim fun x0 h => h.elim fun x1 h => h.elim fun x2 h => h.elim fun x3 h => h.elim fun x4 h => h.elim fun x5 h => h.elim fun x6 h => h.elim fun x7 h => h.elim fun x8 h => h.elim fun x9 h => h.elim fun x10 h => k x0 x1 x2 x3 x4 x5 x6 x7 x8 x9 x10 h.1 h.2.1 h.2.2.1 h.2.2.2.1 h.2.2.2.2.1 h.2.2.2.2.2.1 h.2.2.2.2.2.2.1 h.2.2.2.2.2.2.2
theorem i11a8.{u0, u1, u2, u3, u4, u5, u6, u7, u8, u9, u10} {a0 : Sort u0} {a1 : Sort u1} {a2 : Sort u2} {a3 : Sort u3} {a4 : Sort u4} {a5 : Sort u5} {a6 : Sort u6} {a7 : Sort u7} {a8 : Sort u8} {a9 : Sort u9} {a10 : Sort u10} {A0 A1 A2 A3 A4 A5 A6 A7 : a0 → a1 → a2 → a3 → a4 → a5 → a6 → a7 → a8 → a9 → a10 → Prop} (x0 : a0) (x1 : a1) (x2 : a2) (x3 : a3) (x4 : a4) (x5 : a5) (x6 : a6) (x7 : a7) (x8 : a8) (x9 : a9) (x10 : a10) (h0 : A0 x0 x1 x2 x3 x4 x5 x6 x7 x8 x9 x10) (h1 : A1 x0 x1 x2 x3 x4 x5 x6 x7 x8 x9 x10) (h2 : A2 x0 x1 x2 x3 x4 x5 x6 x7 x8 x9 x10) (h3 : A3 x0 x1 x2 x3 x4 x5 x6 x7 x8 x9 x10) (h4 : A4 x0 x1 x2 x3 x4 x5 x6 x7 x8 x9 x10) (h5 : A5 x0 x1 x2 x3 x4 x5 x6 x7 x8 x9 x10) (h6 : A6 x0 x1 x2 x3 x4 x5 x6 x7 x8 x9 x10) (h7 : A7 x0 x1 x2 x3 x4 x5 x6 x7 x8 x9 x10) : ∃ x0 x1 x2 x3 x4 x5 x6 x7 x8 x9 x10, A0 x0 x1 x2 x3 x4 x5 x6 x7 x8 x9 x10 ∧ A1 x0 x1 x2 x3 x4 x5 x6 x7 x8 x9 x10 ∧ A2 x0 x1 x2 x3 x4 x5 x6 x7 x8 x9 x10 ∧ A3 x0 x1 x2 x3 x4 x5 x6 x7 x8 x9 x10 ∧ A4 x0 x1 x2 x3 x4 x5 x6 x7 x8 x9 x10 ∧ A5 x0 x1 x2 x3 x4 x5 x6 x7 x8 x9 x10 ∧ A6 x0 x1 x2 x3 x4 x5 x6 x7 x8 x9 x10 ∧ A7 x0 x1 x2 x3 x4 x5 x6 x7 x8 x9 x10 := ⟨x0, x1, x2, x3, x4, x5, x6, x7, x8, x9, x10, h0, h1, h2, h3, h4, h5, h6, h7⟩
theorem e12a5.{u0, u1, u2, u3, u4, u5, u6, u7, u8, u9, u10, u11} {a0 : Sort u0} {a1 : Sort u1} {a2 : Sort u2} {a3 : Sort u3} {a4 : Sort u4} {a5 : Sort u5} {a6 : Sort u6} {a7 : Sort u7} {a8 : Sort u8} {a9 : Sort u9} {a10 : Sort u10} {a11 : Sort u11} {A0 A1 A2 A3 A4 : a0 → a1 → a2 → a3 → a4 → a5 → a6 → a7 → a8 → a9 → a10 → a11 → Prop} {G : Prop} (h : ∃ x0 x1 x2 x3 x4 x5 x6 x7 x8 x9 x10 x11, A0 x0 x1 x2 x3 x4 x5 x6 x7 x8 x9 x10 x11 ∧ A1 x0 x1 x2 x3 x4 x5 x6 x7 x8 x9 x10 x11 ∧ A2 x0 x1 x2 x3 x4 x5 x6 x7 x8 x9 x10 x11 ∧ A3 x0 x1 x2 x3 x4 x5 x6 x7 x8 x9 x10 x11 ∧ A4 x0 x1 x2 x3 x4 x5 x6 x7 x8 x9 x10 x11) (k : ∀ x0 x1 x2 x3 x4 x5 x6 x7 x8 x9 x10 x11, A0 x0 x1 x2 x3 x4 x5 x6 x7 x8 x9 x10 x11 → A1 x0 x1 x2 x3 x4 x5 x6 x7 x8 x9 x10 x11 → A2 x0 x1 x2 x3 x4 x5 x6 x7 x8 x9 x10 x11 → A3 x0 x1 x2 x3 x4 x5 x6 x7 x8 x9 x10 x11 → A4 x0 x1 x2 x3 x4 x5 x6 x7 x8 x9 x10 x11 → G) : G := h.elim fun x0 h => h.elim fun x1 h => h.elim fun x2 h => h.elim fun x3 h => h.elim fun x4 h => h.elim fun x5 h => h.elim fun x6 h => h.elim fun x7 h => h.elim fun x8 h => h.elim fun x9 h => h.elim fun x10 h => h.elim fun x11 h => k x0 x1 x2 x3 x4 x5 x6 x7 x8 x9 x10 x11 h.1 h.2.1 h.2.2.1 h.2.2.2.1 h.2.2.2.2
theorem i12a5.{u0, u1, u2, u3, u4, u5, u6, u7, u8, u9, u10, u11} {a0 : Sort u0} {a1 : Sort u1} {a2 : Sort u2} {a3 : Sort u3} {a4 : Sort u4} {a5 : Sort u5} {a6 : Sort u6} {a7 : Sort u7} {a8 : Sort u8} {a9 : Sort u9} {a10 : Sort u10} {a11 : Sort u11} {A0 A1 A2 A3 A4 : a0 → a1 → a2 → a3 → a4 → a5 → a6 → a7 → a8 → a9 → a10 → a11 → Prop} (x0 : a0) (x1 : a1) (x2 : a2) (x3 : a3) (x4 : a4) (x5 : a5) (x6 : a6) (x7 : a7) (x8 : a8) (x9 : a9) (x10 : a10) (x11 : a11) (h0 : A0 x0 x1 x2 x3 x4 x5 x6 x7 x8 x9 x10 x11) (h1 : A1 x0 x1 x2 x3 x4 x5 x6 x7 x8 x9 x10 x11) (h2 : A2 x0 x1 x2 x3 x4 x5 x6 x7 x8 x9 x10 x11) (h3 : A3 x0 x1 x2 x3 x4 x5 x6 x7 x8 x9 x10 x11) (h4 : A4 x0 x1 x2 x3 x4 x5 x6 x7 x8 x9 x10 x11) : ∃ x0 x1 x2 x3 x4 x5 x6 x7 x8 x9 x10 x11, A0 x0 x1 x2 x3 x4 x5 x6 x7 x8 x9 x10 x11 ∧ A1 x0 x1 x2 x3 x4 x5 x6 x7 x8 x9 x10 x11 ∧ A2 x0 x1 x2 x3 x4 x5 x6 x7 x8 x9 x10 x11 ∧ A3 x0 x1 x2 x3 x4 x5 x6 x7 x8 x9 x10 x11 ∧ A4 x0 x1 x2 x3 x4 x5 x6 x7 x8 x9 x10 x11 := ⟨x0, x1, x2, x3, x4, x5, x6, x7, x8, x9, x10, x11, h0, h1, h2, h3, h4⟩
local macro_rules
 | `(tactic| obtain ⟨$p0, $ps,*⟩ := $e) => do
  let ps := #[p0] ++ ps.getElems
  let k := ps.size
  let mut t ← `(tactic| fail)
  for N in [0:k] do
   t ← `(tactic| first | refine $(Lean.mkIdent (.str `Mine s!"e{N}a{k-N}")) $e ?_ | $t:tactic)
  for p in (if e.raw.isIdent then #[e.raw] else #[]) ++ ps.map (·.raw) do
   if let some s := p.find? (·.isIdent) then
    if s.getId != `rfl then t ← `(tactic| ($t:tactic; try clear $(⟨s⟩):ident))
  let mut r ← `(tactic| skip)
  for p in ps do
   let q := p.raw[0][0]
   if q.getNumArgs == 1 && q[0].isOfKind ``Lean.Parser.Tactic.rcasesPat.tuple && q[0][1].getNumArgs > 1 then
    r ← `(tactic| ($r:tactic <;> (intro hh; obtain $(⟨q[0]⟩):rcasesPat := hh)))
   else r ← `(tactic| ($r:tactic <;> rintro ($p:rcasesPatLo)))
  `(tactic| first | ($t:tactic; $r) | rcases $e:term with ⟨$ps,*⟩)
 | `(tactic| obtain $p0:rcasesPat | $p1:rcasesPat := $e) => do
  let c ← if e.raw.isIdent then `(tactic| (try clear $e)) else `(tactic| skip)
  let f (p : Lean.TSyntax `rcasesPat) := if p.raw.isOfKind ``Lean.Parser.Tactic.rcasesPat.tuple then `(tactic| (intro h; obtain $p:rcasesPat := h)) else `(tactic| rintro $p:rcasesPat)
  `(tactic| first | (refine Or.elim $e ?l ?r; (case' r => ($c; $(← f p1))); (case' l => ($c; $(← f p0)))) | rcases $e:term with $p0:rcasesPat | $p1:rcasesPat)
local macro_rules
 | `(tactic| cases $x:ident $alts:inductionAlts) => do
  let mut t ← `(tactic| cases ($x:ident) $alts:inductionAlts)
  for c in [`Int.casesOn, `PySem.Operator.casesOn, `PySem.CmpOp.casesOn, `PySem.NameKind.casesOn, `Mine.Tag.casesOn, `Mine.CR.casesOn, `Mine.MR.casesOn, `PySem.Data.casesOn, `Mine.Src.casesOn, `Mine.BI.casesOn, `Mine.TY.casesOn, `Mine.Kd.casesOn, `Mine.WR.casesOn, `Exists.casesOn, `Sum.casesOn, `PySem.Const.casesOn, `And.casesOn, `Prod.casesOn, `Mine.D.casesOn, `PySem.Stmt.casesOn, `Nat.casesOn, `Mine.AO.casesOn, `PySem.Value.casesOn, `PySem.Expr.casesOn, `Bool.casesOn, `Option.casesOn, `Or.casesOn, `List.casesOn, `Mine.AV.casesOn] do t ← `(tactic| first | induction $x:ident using $(Lean.mkIdent c) $alts:inductionAlts | $t:tactic)
  return t
local macro_rules
 | `(tactic| exact ⟨$p0, $ps,*⟩) => do
  let ps := #[p0] ++ ps.getElems
  let mut t ← `(tactic| exact (⟨$ps,*⟩))
  for N in [0:ps.size] do
   t ← `(tactic| first | exact $(Lean.mkIdent (.str `Mine s!"i{N}a{ps.size-N}")) $ps* | $t:tactic)
  return t
 | `(tactic| refine ⟨$p0, $ps,*⟩) => do
  let ps := #[p0] ++ ps.getElems
  let mut t ← `(tactic| refine (⟨$ps,*⟩))
  for N in [0:ps.size] do
   t ← `(tactic| first | refine $(Lean.mkIdent (.str `Mine s!"i{N}a{ps.size-N}")) $ps* | $t:tactic)
  return t
section
variable {prog : Program} {w : World} {A : Around} {E : Value → Shared → Prop} {s : Shared}
theorem Zb1 {it l : Addr} {i : Nat} {items} {x : Value} {Q : Value → Shared → Prop} (hit : s.heap.IsTupleIter it l i)
  (hl : s.heap.IsTuple l items) (hx : items[i]? = some x)
  (hQ : ∀ h', h'.IsTupleIter it l (i + 1) → Heap.SameBut it s.heap h' → Q x { s with heap := h' }) :
  wpAny (model prog w) A (Builtin.SmallTypes.nextOf (.ref it)) Q E s := by
 obtain ⟨o, ho, hc, hd⟩ := id hit
 obtain ⟨ol, hol, _, nl, hdl⟩ := hl
 refine wpAny_bind (wpAny_callSpecial?_slot (name := Str.ofString "__next__") hit.typeIs PySem.F.slot_tuple_iterator_next
  (wpAny_call_entry PySem.F.slot_tuple_iterator_next hit.typeIs PySem.F.entry_tuple_iterator_next ?_ (PySem.F.args_tuple_iterator_next_1 _)))
 show wpAny _ _ (field (.ref it) 0 >>= _) _ _ s
 refine wpAny_bind (wpAny_field ho hd (x := .ref l) rfl ?_)
 rw [if_neg (show ¬ ((Value.ref l == Value.none) = true) from Bool.false_ne_true)]
 refine wpAny_bind (wpAny_field ho hd (x := .int i 0) rfl ?_)
 refine wpAny_bind (wpAny_seqItems hol hdl ?_)
 simp only [Int.toNat_natCast, hx]
 refine wpAny_bind (wpAny_setField ho hd (by simp) (wpAny_pure ⟨x, rfl, wpAny_pure (hQ _ ?_ (Heap.SameBut.update ..))⟩))
 exact ⟨_, Heap.get?_update_self _ ho (Obj.isFreed_of_fields (Obj.data_mapFields hd _)), (Obj.cls_mapFields ..).trans hc, by
  rw [Obj.data_mapFields hd]; simp [rawInt]⟩
structure ZA (z TI TO i1 i2 l2 : Addr) : Prop where
 TIz : TI ≠ z
 TOz : TO ≠ z
 i1z : i1 ≠ z
 i2z : i2 ≠ z
 TITO : TI ≠ TO
 TIi1 : TI ≠ i1
 TIi2 : TI ≠ i2
 TOi1 : TO ≠ i1
 TOi2 : TO ≠ i2
 i12 : i1 ≠ i2
 l2z : l2 ≠ z
 l2TO : l2 ≠ TO
 l2i1 : l2 ≠ i1
 l2i2 : l2 ≠ i2
theorem YS {h h' : Heap} {a b : Addr} {x : Str} {t : Tok} {i : Nat} {T : String} (X : h.IsStrIter a T x t i) (hs : Heap.ExtBut b h h') (hab : a ≠ b) : h'.IsStrIter a T x t i :=
 let ⟨o, ho, r⟩ := X; ⟨o, hs a o hab ho, r⟩
theorem Xf {h h' : Heap} {a b l : Addr} {i : Nat} (X : h.IsTupleIter a l i) (hs : Heap.ExtBut b h h') (hab : a ≠ b) : h'.IsTupleIter a l i :=
 let ⟨o, ho, r⟩ := X; ⟨o, hs a o hab ho, r⟩
theorem Vo {h h' : Heap} {a b : Addr} {items : Array Value} (X : h.IsTuple a items) (hs : Heap.ExtBut b h h') (hab : a ≠ b) : h'.IsTuple a items :=
 let ⟨o, ho, r⟩ := X; ⟨o, hs a o hab ho, r⟩
theorem ZeN {z TI TO i1 i2 l2 : Addr} {k1 k2 c : Nat} {x : Str} {t : Tok} {ys : Array Value} {y a b : Value} {Q : Value → Shared → Prop} (D : ZA z TI TO i1 i2 l2)
  (hz : IsZip s.heap z TI TO .none) (hTI : IsPair s.heap TI (.ref i1) (.ref i2)) (hTO : IsPair s.heap TO a b)
  (h1 : s.heap.IsStrIter i1 "str_ascii_iterator" x t k1) (h2 : s.heap.IsTupleIter i2 l2 k2) (hl2 : s.heap.IsTuple l2 ys) (hx : x.cps[k1]? = some c) (hy : ys[k2]? = some y)
  (hQ : ∀ h' u, IsZip h' z TI TO (rawInt s.heap.objs.size) → IsPair h' TO (.str ⟨#[c]⟩ u) y → h'.IsStrIter i1 "str_ascii_iterator" x t (k1 + 1) → h'.IsTupleIter i2 l2 (k2 + 1) → IsPair h' s.heap.objs.size (.str ⟨#[c]⟩ u) y → h'.objs.size = s.heap.objs.size + 1 →
   (∀ e o, e ≠ z → e ≠ TO → e ≠ i1 → e ≠ i2 → s.heap.get? e = some o → h'.get? e = some o) → Q (.ref s.heap.objs.size) { s with heap := h', toks := s.toks + 1 }) :
  wpAny (model prog w) A (Builtin.«zip.__next__» ⟨[.ref z], []⟩) (fun fin s' => ∃ v, fin = .done (.ret v) ∧ Q v s') E s := by
 show wpAny _ _ (field (.ref z) 2 >>= _) _ _ _
 refine wpAny_bind (wpAny_field hz rfl (x := .bool false) rfl ?_)
 refine wpAny_bind (wpAny_field hz rfl (x := .ref TI) rfl ?_)
 refine wpAny_bind (wpAny_seqItems hTI rfl ?_)
 refine wpAny_bind ?_
 refine wpAny_bind (wpAny_field hz rfl (x := .none) rfl (wpAny_pure ?_))
 refine wpAny_bind (wpAny_rule ?_)
 refine wpAny_bind (wpAny_field hz rfl (x := .ref TO) rfl ?_)
 refine wpAny_bind (wpAny_setField_rec hz (by simp) fun h₁ hz₁ hs₁ => ?_)
 replace hz₁ : IsZip h₁ z TI TO .ellipsis := hz₁
 refine wpAny_bind ?_
 refine wpAny_bind (wpAny_bind (wpAny_onRaise ?_))
 refine wpAny_bind (wpAny_nextOf_ascii_item (YS h1 hs₁.extBut D.i1z) hx fun h₂ h1₂ hs₂ => wpAny_pure ?_)
 have hTO₂ : IsPair h₂ TO a b := hs₂.extBut _ _ D.TOi1 (hs₁.extBut _ _ D.TOz hTO)
 refine wpAny_bind (wpAny_seqItems hTO₂ rfl ?_)
 refine wpAny_bind (wpAny_updateSeq_pair hTO₂ fun h₃ hTO₃ hs₃ => ?_)
 replace hTO₃ : IsPair h₃ TO (.str ⟨#[c]⟩ s.toks) b := hTO₃
 refine wpAny_bind (wpAny_letGo (wpAny_pure ?_))
 refine wpAny_bind (wpAny_bind (wpAny_onRaise ?_))
 refine wpAny_bind (Zb1 (Xf (Xf (Xf h2 hs₁.extBut D.i2z) hs₂.extBut D.i12.symm) hs₃.extBut D.TOi2.symm)
  (Vo (Vo (Vo hl2 hs₁.extBut D.l2z) hs₂.extBut D.l2i1) hs₃.extBut D.l2TO) hy fun h₄ h2₄ hs₄ => wpAny_pure ?_)
 have hTO₄ : IsPair h₄ TO (.str ⟨#[c]⟩ s.toks) b := hs₄.extBut _ _ D.TOi2 hTO₃
 refine wpAny_bind (wpAny_seqItems hTO₄ rfl ?_)
 refine wpAny_bind (wpAny_updateSeq_pair hTO₄ fun h₅ hTO₅ hs₅ => ?_)
 replace hTO₅ : IsPair h₅ TO (.str ⟨#[c]⟩ s.toks) y := hTO₅
 refine wpAny_bind (wpAny_letGo (wpAny_pure (wpAny_pure ?_)))
 refine wpAny_bind (wpAny_seqItems hTO₅ rfl ?_)
 refine wpAny_bind (wpAny_newTuple ?_)
 have hsz : h₅.objs.size = s.heap.objs.size := by rw [hs₅.1, hs₄.1, hs₃.1, hs₂.1, hs₁.1]
 have hz₅ : IsZip h₅ z TI TO .ellipsis := hs₅.extBut _ _ D.TOz.symm (hs₄.extBut _ _ D.i2z.symm (hs₃.extBut _ _ D.TOz.symm (hs₂.extBut _ _ D.i1z.symm hz₁)))
 have hk₅ : ∀ e o, e ≠ z → e ≠ TO → e ≠ i1 → e ≠ i2 → s.heap.get? e = some o → h₅.get? e = some o := fun e o c1 c2 c3 c4 q =>
  hs₅.extBut _ _ c2 (hs₄.extBut _ _ c4 (hs₃.extBut _ _ c2 (hs₂.extBut _ _ c3 (hs₁.extBut _ _ c1 q))))
 have h1₅ : h₅.IsStrIter i1 "str_ascii_iterator" x t (k1 + 1) := YS (YS (YS h1₂ hs₃.extBut D.TOi1.symm) hs₄.extBut D.i12) hs₅.extBut D.TOi1.symm
 have h2₅ : h₅.IsTupleIter i2 l2 (k2 + 1) := Xf h2₄ hs₅.extBut D.TOi2.symm
 have hzlt : z < h₅.objs.size := Heap.lt_size hz₅
 have hTOlt : TO < h₅.objs.size := Heap.lt_size hTO₅
 refine wpAny_bind ?_
 have hz₆ : IsZip (h₅.push { cls := .type "tuple", data := .seq #[.str ⟨#[c]⟩ s.toks, y] }) z TI TO .ellipsis := Heap.get?_push_of_some _ hz₅
 refine wpAny_bind (wpAny_setField_rec hz₆ (by simp) fun h₇ hz₇ hs₇ => ?_)
 replace hz₇ : IsZip h₇ z TI TO (rawInt h₅.objs.size) := hz₇
 refine wpAny_setField_rec hz₇ (by simp) fun h₈ hz₈ hs₈ => ?_
 replace hz₈ : IsZip h₈ z TI TO (rawInt h₅.objs.size) := hz₈
 have up : ∀ e o, e ≠ z → h₅.get? e = some o → h₈.get? e = some o := fun e o c1 q => hs₈.extBut _ _ c1 (hs₇.extBut _ _ c1 (Heap.get?_push_of_some _ q))
 have hT₈ : IsPair h₈ h₅.objs.size (.str ⟨#[c]⟩ s.toks) y := hs₈.extBut _ _ (Nat.ne_of_gt hzlt) (hs₇.extBut _ _ (Nat.ne_of_gt hzlt) (Heap.get?_push_size _ rfl))
 have hz8 : h₈.objs.size = h₅.objs.size + 1 := by rw [hs₈.1, hs₇.1, Heap.size_push]
 rw [hsz] at hz₈ hT₈ hz8
 refine wpAny_pure ⟨_, rfl, ?_⟩
 rw [hsz]
 exact hQ h₈ s.toks hz₈ (up _ _ D.TOz hTO₅) (let ⟨o, e, r⟩ := h1₅; ⟨o, up _ o D.i1z e, r⟩) (let ⟨o, e, r⟩ := h2₅; ⟨o, up _ o D.i2z e, r⟩) hT₈ hz8 fun e o c1 c2 c3 c4 q => up e o c1 (hk₅ e o c1 c2 c3 c4 q)
theorem Zhc {z TI TO i1 i2 l2 : Addr} {k1 : Nat} {x : Str} {t : Tok} {a b : Value} {Q : Fin → Shared → Prop} (hh : A.handled = none) (D : ZA z TI TO i1 i2 l2)
  (hz : IsZip s.heap z TI TO .none) (hTI : IsPair s.heap TI (.ref i1) (.ref i2)) (hTO : IsPair s.heap TO a b)
  (h1 : s.heap.IsStrIter i1 "str_ascii_iterator" x t k1) (hx : x.cps[k1]? = none)
  (hE : ∀ h' e, (∀ c o, c ≠ z → c ≠ TO → c ≠ i1 → c ≠ i2 → s.heap.get? c = some o → h'.get? c = some o) → (∃ o, h'.get? e = some o ∧ o.cls = .type "StopIteration") → E (.ref e) { s with heap := h' }) :
  wpAny (model prog w) A (Builtin.«zip.__next__» ⟨[.ref z], []⟩) Q E s := by
 show wpAny _ _ (field (.ref z) 2 >>= _) _ _ _
 refine wpAny_bind (wpAny_field hz rfl (x := .bool false) rfl ?_)
 refine wpAny_bind (wpAny_field hz rfl (x := .ref TI) rfl ?_)
 refine wpAny_bind (wpAny_seqItems hTI rfl ?_)
 refine wpAny_bind ?_
 refine wpAny_bind (wpAny_field hz rfl (x := .none) rfl (wpAny_pure ?_))
 refine wpAny_bind (wpAny_rule ?_)
 refine wpAny_bind (wpAny_field hz rfl (x := .ref TO) rfl ?_)
 refine wpAny_bind (wpAny_setField_rec hz (by simp) fun h₁ hz₁ hs₁ => ?_)
 replace hz₁ : IsZip h₁ z TI TO .ellipsis := hz₁
 refine wpAny_bind ?_
 refine wpAny_bind (wpAny_bind (wpAny_onRaise ?_))
 refine wpAny_bind (wpAny_nextOf_ascii_end hh (YS h1 hs₁.extBut D.i1z) hx fun h₂ e hs₂ he => ?_)
 obtain ⟨oe, hoe, hce⟩ := he
 have hz₂ : IsZip h₂ z TI TO .ellipsis := hs₂ _ _ D.i1z.symm hz₁
 have hez : e ≠ z := fun q => by subst q; rw [hz₂] at hoe; (replace hoe := xI hoe; cases hoe); simp at hce
 refine wpAny_setField_rec hz₂ (by simp) fun h₃ _ hs₃ => hE h₃ e (fun c o c1 _ c3 _ q => hs₃.extBut _ _ c1 (hs₂ _ _ c3 (hs₁.extBut _ _ c1 q))) ⟨oe, hs₃.extBut _ _ hez hoe, hce⟩
theorem ZbW {z TI TO i1 i2 l2 : Addr} {k1 k2 c : Nat} {x : Str} {t : Tok} {ys : Array Value} {y a b : Value} {Q : Option Value → Shared → Prop} (D : ZA z TI TO i1 i2 l2)
  (hz : IsZip s.heap z TI TO .none) (hTI : IsPair s.heap TI (.ref i1) (.ref i2)) (hTO : IsPair s.heap TO a b)
  (h1 : s.heap.IsStrIter i1 "str_ascii_iterator" x t k1) (h2 : s.heap.IsTupleIter i2 l2 k2) (hl2 : s.heap.IsTuple l2 ys) (hx : x.cps[k1]? = some c) (hy : ys[k2]? = some y)
  (hQ : ∀ h' u, IsZip h' z TI TO (rawInt s.heap.objs.size) → IsPair h' TO (.str ⟨#[c]⟩ u) y → h'.IsStrIter i1 "str_ascii_iterator" x t (k1 + 1) → h'.IsTupleIter i2 l2 (k2 + 1) → IsPair h' s.heap.objs.size (.str ⟨#[c]⟩ u) y → h'.objs.size = s.heap.objs.size + 1 →
   (∀ e o, e ≠ z → e ≠ TO → e ≠ i1 → e ≠ i2 → s.heap.get? e = some o → h'.get? e = some o) → Q (some (.ref s.heap.objs.size)) { s with heap := h', toks := s.toks + 1 }) :
  wpAny (model prog w) A (pyNext (.ref z)) Q E s := by
 have hT : s.TypeIs (.ref z) "zip" := ⟨_, hz, rfl⟩
 exact wpAny_bind (wpAny_attempt (wpAny_callSpecial?_slot (name := Str.ofString "__next__") hT PySem.F.slot_zip_next
  (wpAny_call_entry PySem.F.slot_zip_next hT PySem.F.entry_zip_next
   (ZeN D hz hTI hTO h1 h2 hl2 hx hy fun h' u a1 a2 a3 a4 a5 a6 a7 => wpAny_pure (hQ h' u a1 a2 a3 a4 a5 a6 a7)) (PySem.F.args_zip_next_1 _))))
theorem JJ {z TI TO i1 i2 l2 : Addr} {k1 : Nat} {x : Str} {t : Tok} {a b : Value} {Q : Option Value → Shared → Prop} (hh : A.handled = none) (D : ZA z TI TO i1 i2 l2)
  (hz : IsZip s.heap z TI TO .none) (hTI : IsPair s.heap TI (.ref i1) (.ref i2)) (hTO : IsPair s.heap TO a b)
  (h1 : s.heap.IsStrIter i1 "str_ascii_iterator" x t k1) (hx : x.cps[k1]? = none)
  (hQ : ∀ h', (∀ c o, c ≠ z → c ≠ TO → c ≠ i1 → c ≠ i2 → s.heap.get? c = some o → h'.get? c = some o) → Q none { s with heap := h' }) : wpAny (model prog w) A (pyNext (.ref z)) Q E s := by
 have hT : s.TypeIs (.ref z) "zip" := ⟨_, hz, rfl⟩
 refine wpAny_bind (wpAny_attempt (wpAny_callSpecial?_slot (name := Str.ofString "__next__") hT PySem.F.slot_zip_next
  (wpAny_call_entry PySem.F.slot_zip_next hT PySem.F.entry_zip_next (Zhc hh D hz hTI hTO h1 hx fun h' e hk he => ?_) (PySem.F.args_zip_next_1 _))))
 obtain ⟨o, ho, hc⟩ := he
 refine wpAny_bind (wpAny_isInstance (T := "StopIteration") (b := true) ⟨o, ho, hc⟩ isSubtype_stop ?_)
 exact wpAny_pure (hQ _ hk)
noncomputable abbrev zA1 (h : Heap) (x : Str) (t : Tok) : Heap := h.push { cls := .type "str_ascii_iterator", data := .fields #[.str x t, .int 0 0] }
noncomputable abbrev zA2 (h : Heap) (x : Str) (t : Tok) (l2 : Addr) : Heap := (zA1 h x t).push { cls := .type "tuple_iterator", data := .fields #[.ref l2, .int 0 0] }
noncomputable abbrev zA3 (h : Heap) (x : Str) (t : Tok) (l2 : Addr) : Heap := (zA2 h x t l2).push { cls := .type "tuple", data := .seq #[.ref h.objs.size, .ref (zA1 h x t).objs.size] }
noncomputable abbrev zA4 (h : Heap) (x : Str) (t : Tok) (l2 : Addr) : Heap := (zA3 h x t l2).push { cls := .type "tuple", data := .seq #[.none, .none] }
noncomputable abbrev zA5 (h : Heap) (x : Str) (t : Tok) (l2 : Addr) : Heap := (zA4 h x t l2).push { cls := .type "zip", data := .fields #[.none, .bool false, .bool false, .ref (zA2 h x t l2).objs.size, .ref (zA3 h x t l2).objs.size] }
set_option maxHeartbeats 4000000 in
theorem Zag (x : Str) (t : Tok) (l2 : Addr) (ys : Array Value) (ha : x.cps.all (· < 128) = true) :
  Meets (Builtin.«zip.__new__» ⟨[.type "zip", .str x t, .ref l2], []⟩) (fun _ R s => s.heap.IsTuple l2 ys ∧
   R (.ok (.ret (.ref (zA4 s.heap x t l2).objs.size))) { s with heap := zA5 s.heap x t l2 }) :=
 .of_wp fun prog w A R s h => by
  obtain ⟨hp, g, d, tk, os⟩ := s; obtain ⟨hl2, h⟩ := h
  have hsub := sub_zip
  have hL2 : Heap.IsTuple (Shared.heap ⟨hp.push { cls := .type "str_ascii_iterator", data := .fields #[.str x t, .int 0 0] }, g, d, tk, os⟩) l2 ys := let ⟨o, e, r⟩ := hl2; ⟨o, Heap.get?_push_of_some _ e, r⟩
  wp_walk using wpAny_pyIter_ascii ha, wpAny_pyIter_tuple hL2
  exact ⟨_, rfl, h⟩
theorem Zbq {x : Str} {t : Tok} {l2 : Addr} {ys : Array Value} {Q : Value → Shared → Prop} (ha : x.cps.all (· < 128) = true) (hl2 : s.heap.IsTuple l2 ys)
  (h : Q (.ref (zA4 s.heap x t l2).objs.size) { s with heap := zA5 s.heap x t l2 }) : wpAny (model prog w) A (call (.type "zip") [.str x t, .ref l2]) Q E s :=
 callType_new PySem.F.called_zip (by decide) (PySem.F.typeCall_zip_2 _ _) (PySem.F.newCall_zip_2 _ _) (fun obj => PySem.F.args_object_init_3 obj _ _) PySem.F.entry_zip_new
  (Zag x t l2 ys ha) ⟨hl2, ⟨_, Heap.get?_push_size _ rfl, rfl⟩, h⟩
end
section
theorem ZY {α : Type} {l l' : List α} (p : l <+: l') {k : Nat} {a : α} (h : l[k]? = some a) : l'[k]? = some a := by
 obtain ⟨t, rfl⟩ := p
 have hk : k < l.length := (List.getElem?_eq_some_iff.mp h).1
 rw [List.getElem?_append_left hk]; exact h
noncomputable abbrev TK := Str ⊕ Int
section
variable {prog : Program} {w : World} {A : Around} {E : Value → Shared → Prop} {s : Shared} {Q : Bool → Shared → Prop}
theorem ZeB {x : Str} {t : Tok} {i : Int} {u : Tok} (h : Q false s) : wpAny (model prog w) A (PySem.eqBool (.str x t) (.int i u)) Q E s := by
 refine wpAny_holding ?_
 have e : (Value.str x t == Value.int i u) = false := beq_eq_false_iff_ne.mpr (fun h => nomatch h)
 rw [e]
 refine wpAny_bind (show wpAny (model prog w) A (richCompare .Eq (.str x t) (.int i u)) _ E s from EqMixed.eq_str_int ?_)
 exact wpAny_truthy_bool h
theorem ZeC {x : Str} {t : Tok} {i : Int} {u : Tok} (h : Q false s) : wpAny (model prog w) A (PySem.eqBool (.int i u) (.str x t)) Q E s := by
 refine wpAny_holding ?_
 have e : (Value.int i u == Value.str x t) = false := beq_eq_false_iff_ne.mpr (fun h => nomatch h)
 rw [e]
 refine wpAny_bind (show wpAny (model prog w) A (richCompare .Eq (.int i u) (.str x t)) _ E s from EqMixed.eq_int_str ?_)
 exact wpAny_truthy_bool h
end
noncomputable def Jo : TK → Value → Bool
 | .inl x, v => Value.isStrOf x v
 | .inr i, v => Value.isInt i v
theorem X8 {x : Str} {v : Value} (h : Jo (.inl x) v = true) : ∃ t, v = .str x t := Value.isStrOf_shape (x := x) (v := v) h
theorem X9 {i : Int} {v : Value} (h : Jo (.inr i) v = true) : ∃ t, v = .int i t := Value.isInt_shape (k := i) (v := v) h
theorem ZjA (v : Value) (a b : TK) (ha : Jo a v = true) (hb : Jo b v = true) : a = b := by
 cases a with
 | inl x =>
  obtain ⟨t, rfl⟩ := X8 ha
  cases b with
  | inl y => obtain ⟨t', e⟩ := X8 hb; injection e with e; rw [e]
  | inr j => obtain ⟨t', e⟩ := X9 hb; (exfalso; cases e)
 | inr i =>
  obtain ⟨t, rfl⟩ := X9 ha
  cases b with
  | inl y => obtain ⟨t', e⟩ := X8 hb; (exfalso; cases e)
  | inr j => obtain ⟨t', e⟩ := X9 hb; injection e with e; rw [e]
noncomputable def Ze7 (w : World) : TK → Int
 | .inl x => hashStr w x
 | .inr i => hashInt i
theorem ZdP {prog : Program} {w : World} {A : Around} {E : Value → Shared → Prop} {s : Shared} {k : TK} {v : Value} {Q : Int → Shared → Prop} (hv : Jo k v = true) (h : Q (Ze7 w k) { s with toks := s.toks + 1 }) :
  wpAny (model prog w) A (PySem.pyHash v) Q E s := by
 cases k with
 | inl x => obtain ⟨t, rfl⟩ := X8 hv; exact wpAny_pyHash_str h
 | inr i => obtain ⟨t, rfl⟩ := X9 hv; exact wpAny_pyHash_int h
theorem ZdQ {prog : Program} {w : World} {A : Around} {E : Value → Shared → Prop} {s : Shared} {a b : TK} {u v : Value} {Q : Bool → Shared → Prop} (hu : Jo a u = true) (hv : Jo b v = true) (h : Q (decide (a = b)) s) :
  wpAny (model prog w) A (PySem.eqBool u v) Q E s := by
 cases a with
 | inl x =>
  obtain ⟨t, rfl⟩ := X8 hu
  cases b with
  | inl y => obtain ⟨t', rfl⟩ := X8 hv; exact wpAny_eqBool_str (by simpa using h)
  | inr j => obtain ⟨t', rfl⟩ := X9 hv; exact ZeB (by simpa using h)
 | inr i =>
  obtain ⟨t, rfl⟩ := X9 hu
  cases b with
  | inl y => obtain ⟨t', rfl⟩ := X8 hv; exact ZeC (by simpa using h)
  | inr j =>
   obtain ⟨t', rfl⟩ := X9 hv
   refine wpAny_eqBool_int ?_
   have e : (i == j) = decide ((Sum.inr i : TK) = Sum.inr j) := by by_cases q : i = j <;> simp [q]
   rw [e]; exact h
theorem Zhm (k : TK) (x : Str) (t : Tok) (v : Value) (h : Jo k (.str x t) = true) : Jo k v = v.isStr x := by
 cases k with
 | inl y =>
  obtain ⟨u, hu⟩ := X8 h
  injection hu with hx
  subst hx
  cases v <;> rfl
 | inr i => obtain ⟨u, hu⟩ := X9 h; (exfalso; cases hu)
theorem ZbI (k : TK) (v : Value) (h : Jo k v = true) : carriedByValue v = true := by
 cases k with
 | inl x => obtain ⟨t, rfl⟩ := X8 h; rfl
 | inr i => obtain ⟨t, rfl⟩ := X9 h; rfl
noncomputable def Xi (prog : Program) (w : World) : KeyKind prog w TK where
 is := Jo
 hash := Ze7 w
 inj := ZjA
 byValue := ZbI
 pyHash := ZdP
 eqBool := ZdQ
 «strs» := Zhm
inductive BI where
 | len | isinstance | abs | min
inductive TY where
 | bool | int | str | tuple | range | zip | enumerate
noncomputable def BI.nm : BI → String
 | .len => "len" | .isinstance => "isinstance" | .abs => "abs" | .min => "min"
noncomputable def TY.nm : TY → String
 | .bool => "bool" | .int => "int" | .str => "str" | .tuple => "tuple" | .range => "range" | .zip => "zip" | .enumerate => "enumerate"
inductive AV where
 | none | bool (b : Bool) | int (i : Int) | str (s : Str)
 | tup (vs : List AV) | lst (vs : List AV) | row (name : Str) (parts : List AV)
 | dss (es : List (Str × Str)) | dmk (es : List ((Str × Int) × Int))
 | ref (k : Nat) | pen | old (a : Nat) | bi (n : BI) | ty (n : TY)
 | exc (a : AV) | cel (c : Addr) (a : AV)
inductive Tag where
 | free | frz (o : Obj) | led (k : Nat) | hid (o : Obj) | frm (o : Obj) | cur | pen | penq
noncomputable abbrev Lay := Addr → Tag
noncomputable def Lay.up (Λ : Lay) (a : Addr) (t : Tag) : Lay := fun b => if b = a then t else Λ b
theorem Lay.up_self (Λ : Lay) (a : Addr) (t : Tag) : Λ.up a t a = t := if_pos rfl
theorem Lay.up_ne (Λ : Lay) {a b : Addr} (t : Tag) (h : b ≠ a) : Λ.up a t b = Λ b := if_neg h
noncomputable def Zn (ws : List Value) (n : Nat) : Obj := { cls := .type "list", data := .seq ws.toArray n }
noncomputable def ZjI : Addr := 85
noncomputable def ZG : Str := Str.ofString "name"
noncomputable def Zu : Str := Str.ofString "parts"
noncomputable def YJ (m : Str × Int) : List TK := [.inl m.1, .inr m.2]
noncomputable def SSs : List (Str × Str) → List (Str × Value) → Prop
 | [], kvs => kvs = []
 | (k, v) :: es, kvs => ∃ t r, kvs = (k, .str v t) :: r ∧ SSs es r
noncomputable def MKs (Λ : Lay) : List ((Str × Int) × Int) → List (List TK × Addr × Value) → Prop
 | [], xs => xs = []
 | (m, i) :: es, xs => ∃ a n t t' t'' r, xs = (YJ m, a, .int i t) :: r ∧ Λ a = .frz (ZT [.str m.1 t', .int m.2 t''] n) ∧ MKs Λ es r
section
variable (prog : Program) (w : World)
noncomputable def DSS (es : List (Str × Str)) (o : Obj) : Prop := ∃ kvs, SSs es kvs ∧ o.IsDictOf (strKind prog w) kvs
noncomputable def DMK (Λ : Lay) (es : List ((Str × Int) × Int)) (o : Obj) : Prop :=
 ∃ xs ds ep, MKs Λ es xs ∧ o.ExactDict ∧ o.data = .dict ds ep ∧ ds.toList = xs.map (entryOfKey (tupleKind (Xi prog w))) ∧ (es.map (·.1)).Nodup
end
mutual
inductive VT (prog : Program) (w : World) (Λ : Lay) : AV → Value → Prop
 | none : VT prog w Λ .none .none
 | bool (b : Bool) : VT prog w Λ (.bool b) (.bool b)
 | int (i : Int) (t : Tok) : VT prog w Λ (.int i) (.int i t)
 | str (s : Str) (t : Tok) : VT prog w Λ (.str s) (.str s t)
 | tup {vs ws a n} : Λ a = .frz (ZT ws n) → VTs prog w Λ vs ws → VT prog w Λ (.tup vs) (.ref a)
 | lst {vs ws a n} : Λ a = .frz (Zn ws n) → VTs prog w Λ vs ws → VT prog w Λ (.lst vs) (.ref a)
 | row {name t parts ws a d p n od} : Λ a = .frz (instObj ZjI d) → Λ d = .frz od → od.IsDictOf (strKind prog w) [(ZG, .str name t), (Zu, .ref p)] → Λ p = .frz (ZT ws n) → VTs prog w Λ parts ws →
   VT prog w Λ (.row name parts) (.ref a)
 | dss {es a o} : (a == sysModules) = false → Λ a = .frz o → DSS prog w es o → VT prog w Λ (.dss es) (.ref a)
 | dmk {es a o} : (a == sysModules) = false → Λ a = .frz o → DMK prog w Λ es o → VT prog w Λ (.dmk es) (.ref a)
 | pen {a} : Λ a = .pen → VT prog w Λ .pen (.ref a)
 | old (a : Nat) : VT prog w Λ (.old a) (.ref a)
 | bi (n : BI) : VT prog w Λ (.bi n) (.builtin n.nm)
 | ty (n : TY) : VT prog w Λ (.ty n) (.type n.nm)
 | exc {v e oe d od kvs x} : Λ e = .frz oe → oe.cls = .ref 52 → notCls oe = true → oe.dict = some d → Λ d = .frz od → od.IsDictOf (strKind prog w) kvs → valueAt kvs (Str.ofString "at") = some x → VT prog w Λ v x → VT prog w Λ (.exc v) (.ref e)
inductive VTs (prog : Program) (w : World) (Λ : Lay) : List AV → List Value → Prop
 | nil : VTs prog w Λ [] []
 | cons {a v as vs} : VT prog w Λ a v → VTs prog w Λ as vs → VTs prog w Λ (a :: as) (v :: vs)
end
noncomputable def VR (prog : Program) (w : World) (Λ : Lay) (ρ : List Addr) (v : AV) (x : Value) : Prop := VT prog w Λ v x ∨ ∃ k a, v = .ref k ∧ x = .ref a ∧ ρ[k]? = some a
noncomputable def Lay.le (Λ Λ' : Lay) : Prop := ∀ a, Λ' a = Λ a ∨ Λ a = .free ∨ ∃ k, Λ a = .led k
theorem Lay.le.refl (Λ : Lay) : Λ.le Λ := fun _ => .inl rfl
theorem Lay.le.trans {Λ Λ' Λ'' : Lay} (h : Λ.le Λ') (g : Λ'.le Λ'') : Λ.le Λ'' := fun a => by
 obtain e | e | e := h a
 ·obtain e' | e' | e' := g a
  ·exact .inl (e'.trans e)
  ·exact .inr (.inl (e ▸ e'))
  ·exact .inr (.inr (e ▸ e'))
 ·exact .inr (.inl e)
 ·exact .inr (.inr e)
theorem Lay.le.frz {Λ Λ' : Lay} (h : Λ.le Λ') {a : Addr} {o : Obj} (e : Λ a = .frz o) : Λ' a = .frz o := by
 obtain q | q | ⟨k, q⟩ := h a
 ·exact q.trans e
 ·rw [e] at q; (exfalso; cases q)
 ·rw [e] at q; (exfalso; cases q)
theorem Lay.le.hid {Λ Λ' : Lay} (h : Λ.le Λ') {a : Addr} {o : Obj} (e : Λ a = .hid o) : Λ' a = .hid o := by
 obtain q | q | ⟨k, q⟩ := h a
 ·exact q.trans e
 ·rw [e] at q; (exfalso; cases q)
 ·rw [e] at q; (exfalso; cases q)
theorem Lay.le.frm {Λ Λ' : Lay} (h : Λ.le Λ') {a : Addr} {o : Obj} (e : Λ a = .frm o) : Λ' a = .frm o := by
 obtain q | q | ⟨k, q⟩ := h a
 ·exact q.trans e
 ·rw [e] at q; (exfalso; cases q)
 ·rw [e] at q; (exfalso; cases q)
theorem Lay.le.pen {Λ Λ' : Lay} (h : Λ.le Λ') {a : Addr} (e : Λ a = .pen) : Λ' a = .pen := by
 obtain q | q | ⟨k, q⟩ := h a
 ·exact q.trans e
 ·rw [e] at q; (exfalso; cases q)
 ·rw [e] at q; (exfalso; cases q)
theorem Lay.le_up {Λ : Lay} {a : Addr} (t : Tag) (h : Λ a = .free ∨ ∃ k, Λ a = .led k) : Λ.le (Λ.up a t) := fun b => by
 by_cases q : b = a
 ·subst q; exact .inr h
 ·exact .inl (Lay.up_ne _ _ q)
structure Z2 (Λ Λ' : Lay) : Prop where
 frz : ∀ a o, Λ a = .frz o → Λ' a = .frz o
 pen : ∀ a, Λ a = .pen → Λ' a = .pen
theorem Lay.le.sees {Λ Λ' : Lay} (h : Λ.le Λ') : Z2 Λ Λ' := ⟨fun _ _ => h.frz, fun _ => h.pen⟩
theorem MKs.mono {Λ Λ' : Lay} (p : Z2 Λ Λ') : ∀ {es xs}, MKs Λ es xs → MKs Λ' es xs
 | [], _, h => h
 | _ :: _, _, h => by obtain ⟨a, n, t, t', t'', r, e, h, g⟩ := h; exact ⟨a, n, t, t', t'', r, e, p.frz _ _ h, g.mono p⟩
theorem MKs.keys {Λ : Lay} : ∀ {es xs}, MKs Λ es xs → xs.map (·.1) = es.map fun e => YJ e.1
 | [], _, h => by cases (h : _ = _); rfl
 | _ :: _, _, h => by obtain ⟨_, _, _, _, _, _, e, _, g⟩ := h; subst e; simp only [List.map_cons, g.keys]
theorem DMK.mono {prog : Program} {w : World} {Λ Λ' : Lay} (p : Z2 Λ Λ') {es o} (h : DMK prog w Λ es o) : DMK prog w Λ' es o :=
 let ⟨xs, ds, ep, h, r⟩ := h; ⟨xs, ds, ep, h.mono p, r⟩
section
variable {prog : Program} {w : World} {Λ Λ' : Lay} {ρ ρ' : List Addr}
theorem VT.mono (q : Z2 Λ Λ') {a : AV} {v : Value} (h : VT prog w Λ a v) : VT prog w Λ' a v := by
 refine VT.rec (motive_1 := fun a v _ => VT prog w Λ' a v) (motive_2 := fun a v _ => VTs prog w Λ' a v) ?_ ?_ ?_ ?_ ?_ ?_ ?_ ?_ ?_ ?_ ?_ ?_ ?_ ?_ ?_ ?_ h
 ·exact .none
 ·exact .bool
 ·exact .int
 ·exact .str
 ·intro vs ws a n h _ g; exact .tup (q.frz _ _ h) g
 ·intro vs ws a n h _ g; exact .lst (q.frz _ _ h) g
 ·intro name t parts ws a d p' n od h1 h2 h3 h4 _ g; exact .row (q.frz _ _ h1) (q.frz _ _ h2) h3 (q.frz _ _ h4) g
 ·intro es a o z h g; exact .dss z (q.frz _ _ h) g
 ·intro es a o z h g; exact .dmk z (q.frz _ _ h) (g.mono q)
 ·intro a h; exact .pen (q.pen _ h)
 ·exact .old
 ·exact .bi
 ·exact .ty
 ·intro v e oe d od kvs x h1 h2 hn h3 h4 h5 h6 _ g; exact .exc (q.frz _ _ h1) h2 hn h3 (q.frz _ _ h4) h5 h6 g
 ·exact .nil
 ·intro a v as vs _ _ h g; exact .cons h g
noncomputable def VTI (prog : Program) (w : World) (Λ : Lay) (a : AV) (x : Value) : Prop := match a with
 | .none => x = .none
 | .bool b => x = .bool b
 | .int i => ∃ t, x = .int i t
 | .str s => ∃ t, x = .str s t
 | .tup vs => ∃ a ws n, x = .ref a ∧ Λ a = .frz (ZT ws n) ∧ VTs prog w Λ vs ws
 | .lst vs => ∃ a ws n, x = .ref a ∧ Λ a = .frz (Zn ws n) ∧ VTs prog w Λ vs ws
 | .dss es => ∃ a o, x = .ref a ∧ (a == sysModules) = false ∧ Λ a = .frz o ∧ DSS prog w es o
 | .dmk es => ∃ a o, x = .ref a ∧ (a == sysModules) = false ∧ Λ a = .frz o ∧ DMK prog w Λ es o
 | .old a => x = .ref a
 | .bi n => x = .builtin n.nm
 | .ty n => x = .type n.nm
 | .ref _ => False
 | .cel _ _ => False
 | _ => True
theorem VT.inv {a : AV} {x : Value} (h : VT prog w Λ a x) : VTI prog w Λ a x := by
 induction h using VT.casesOn with
 | tup h g => exact ⟨_, _, _, rfl, h, g⟩
 | lst h g => exact ⟨_, _, _, rfl, h, g⟩
 | dss z h g => exact ⟨_, _, rfl, z, h, g⟩
 | dmk z h g => exact ⟨_, _, rfl, z, h, g⟩
 | int i t => exact .intro t rfl
 | str i t => exact .intro t rfl
 | row => trivial
 | pen => trivial
 | exc => trivial
 | _ => rfl
theorem VT.none_ {x : Value} (h : VT prog w Λ .none x) : x = .none := h.inv
theorem VT.bool_ {b : Bool} {x : Value} (h : VT prog w Λ (.bool b) x) : x = .bool b := h.inv
theorem VT.int_ {i : Int} {x : Value} (h : VT prog w Λ (.int i) x) : ∃ t, x = .int i t := h.inv
theorem VT.str_ {i : Str} {x : Value} (h : VT prog w Λ (.str i) x) : ∃ t, x = .str i t := h.inv
theorem VT.old_ {a : Nat} {x : Value} (h : VT prog w Λ (.old a) x) : x = .ref a := h.inv
theorem VT.bi_ {n : BI} {x : Value} (h : VT prog w Λ (.bi n) x) : x = .builtin n.nm := h.inv
theorem VT.ty_ {n : TY} {x : Value} (h : VT prog w Λ (.ty n) x) : x = .type n.nm := h.inv
theorem VT.noref {k : Nat} {x : Value} {p : Prop} (h : VT prog w Λ (.ref k) x) : p := False.elim (VT.inv h)
theorem VT.nocel {c : Addr} {u : AV} {x : Value} {p : Prop} (h : VT prog w Λ (.cel c u) x) : p := False.elim (VT.inv h)
theorem VTs.uncons {a : AV} {as : List AV} {ws : List Value} (h : VTs prog w Λ (a :: as) ws) : ∃ v vs, ws = v :: vs ∧ VT prog w Λ a v ∧ VTs prog w Λ as vs := by
 cases h with
 | cons h1 h2 => exact ⟨_, _, rfl, h1, h2⟩
theorem VTs.unnil {ws : List Value} (h : VTs prog w Λ [] ws) : ws = [] := by
 cases (h); rfl
theorem VTs.mono (q : Z2 Λ Λ') {as : List AV} {vs : List Value} (h : VTs prog w Λ as vs) : VTs prog w Λ' as vs := by
 induction as generalizing vs with
 | nil => (have hh := VTs.unnil h; clear h; subst hh); exact .nil
 | cons a as ih => obtain ⟨_, _, rfl, h, g⟩ := h.uncons; exact .cons (h.mono q) (ih g)
theorem VTs.length {as : List AV} {vs : List Value} (h : VTs prog w Λ as vs) : vs.length = as.length := by
 induction as generalizing vs with
 | nil => (have hh := VTs.unnil h; clear h; subst hh); rfl
 | cons a as ih => obtain ⟨_, _, rfl, h, g⟩ := h.uncons; rw [List.length_cons, List.length_cons, ih g]
theorem VTs.get {as : List AV} {vs : List Value} (h : VTs prog w Λ as vs) : ∀ {i : Nat} {a : AV}, as[i]? = some a → ∃ v, vs[i]? = some v ∧ VT prog w Λ a v := by
 induction as generalizing vs with
 | nil => intro i a e; exact xN e
 | cons b as ih =>
  intro i a e
  obtain ⟨_, _, rfl, h, g⟩ := h.uncons
  cases i with
  | zero => (replace e := xI e; cases e); exact ⟨_, rfl, h⟩
  | succ i => exact ih g (by simpa using e)
theorem VTs.append {as bs : List AV} {vs ws : List Value} (h : VTs prog w Λ as vs) (g : VTs prog w Λ bs ws) : VTs prog w Λ (as ++ bs) (vs ++ ws) := by
 induction as generalizing vs with
 | nil => (have hh := VTs.unnil h; clear h; subst hh); exact g
 | cons a as ih => obtain ⟨_, _, rfl, h, g'⟩ := h.uncons; exact .cons h (ih g')
theorem VR.mono (q : Z2 Λ Λ') (p : ρ <+: ρ') {a : AV} {v : Value} (h : VR prog w Λ ρ a v) : VR prog w Λ' ρ' a v := by
 obtain h | ⟨k, b, e1, e2, e3⟩ := h
 ·exact .inl (h.mono q)
 ·exact .inr ⟨k, b, e1, e2, ZY p e3⟩
end
inductive AO where
 | lst (vs : List AV)
 | dsv (es : List (Str × AV))
 | div (es : List (Int × AV))
 | dmk (es : List ((Str × Int) × Int))
 | cell (v : AV)
 | ali (v : AV)
 | dead
theorem ZdK {D : AV → Prop} (v : AV) (h : D v) (hh : ∀ v, Nat.beq (v.ctorIdx) 0 = false → D v → False := by intro v q h; cases v <;> first | exact h | exact xT q) : v = .none := by
 cases v with
 | none => rfl
 | _ => exact (hh _ rfl h).elim
theorem Gk {D : AV → Prop} (v : AV) (h : D v) (hh : ∀ v, Nat.beq (v.ctorIdx) 2 = false → D v → False := by intro v q h; cases v <;> first | exact h | exact xT q) : ∃ a, v = .int a := by
 cases v with
 | int a => exact ⟨a, rfl⟩
 | _ => exact (hh _ rfl h).elim
theorem Zlg {D : AV → Prop} (v : AV) (h : D v) (hh : ∀ v, Nat.beq (v.ctorIdx) 11 = false → D v → False := by intro v q h; cases v <;> first | exact h | exact xT q) : ∃ a, v = .old a := by
 cases v with
 | old a => exact ⟨a, rfl⟩
 | _ => exact (hh _ rfl h).elim
theorem Vc {D : Expr → Prop} (v : Expr) (h : D v) (hh : ∀ v, Nat.beq (v.ctorIdx) 23 = false → D v → False := by intro v q h; cases v <;> first | exact h | exact xT q) : ∃ a b, v = .Name a b := by
 cases v with
 | Name a b => exact ⟨a, b, rfl⟩
 | _ => exact (hh _ rfl h).elim
theorem ZeI {D : Expr → Prop} (v : Expr) (h : D v) (hh : ∀ v, Nat.beq (v.ctorIdx) 16 = false → D v → False := by intro v q h; cases v <;> first | exact h | exact xT q) : ∃ a b c d, v = .Call a b c d := by
 cases v with
 | Call a b c d => exact ⟨a, b, c, d, rfl⟩
 | _ => exact (hh _ rfl h).elim
theorem Vk {D : Expr → Prop} (v : Expr) (h : D v) (hh : ∀ v, Nat.beq (v.ctorIdx) 19 = false → D v → False := by intro v q h; cases v <;> first | exact h | exact xT q) : ∃ a b c, v = .Constant a b c := by
 cases v with
 | Constant a b c => exact ⟨a, b, c, rfl⟩
 | _ => exact (hh _ rfl h).elim
theorem ZeK {D : Const → Prop} (v : Const) (h : D v) (hh : ∀ v, Nat.beq (v.ctorIdx) 5 = false → D v → False := by intro v q h; cases v <;> first | exact h | exact xT q) : ∃ a, v = .str a := by
 cases v with
 | str a => exact ⟨a, rfl⟩
 | _ => exact (hh _ rfl h).elim
theorem ZeL {D : Const → Prop} (v : Const) (h : D v) (hh : ∀ v, Nat.beq (v.ctorIdx) 2 = false → D v → False := by intro v q h; cases v <;> first | exact h | exact xT q) : ∃ a, v = .int a := by
 cases v with
 | int a => exact ⟨a, rfl⟩
 | _ => exact (hh _ rfl h).elim
theorem Zg7 {α : Type _} {D : List α → Prop} (v : List α) (h : D v) (hh : ∀ a l, D (a :: l) → False := by intros; assumption) : v = [] := by
 cases v with
 | nil => rfl
 | cons a l => exact (hh a l h).elim
inductive KVs {K : Type} (prog : Program) (w : World) (Λ : Lay) : List (K × AV) → List (K × Value) → Prop
 | nil : KVs prog w Λ [] []
 | cons {k a v es fs} : VT prog w Λ a v → KVs prog w Λ es fs → KVs prog w Λ ((k, a) :: es) ((k, v) :: fs)
section
variable {K : Type} {prog : Program} {w : World} {Λ Λ' : Lay}
theorem KVs.uncons {a : K × AV} {as : List (K × AV)} {ws : List (K × Value)} (h : KVs prog w Λ (a :: as) ws) : ∃ v vs, ws = (a.1, v) :: vs ∧ VT prog w Λ a.2 v ∧ KVs prog w Λ as vs := by
 cases h with
 | cons h1 h2 => exact ⟨_, _, rfl, h1, h2⟩
theorem KVs.mono (q : Z2 Λ Λ') {es : List (K × AV)} {fs} (h : KVs prog w Λ es fs) : KVs prog w Λ' es fs := by
 induction h with
 | nil => exact .nil
 | cons h _ ih => exact .cons (h.mono q) ih
theorem KVs.length {es : List (K × AV)} {fs} (h : KVs prog w Λ es fs) : fs.length = es.length := by
 induction h with
 | nil => rfl
 | cons _ _ ih => rw [List.length_cons, List.length_cons, ih]
theorem KVs.keys {es : List (K × AV)} {fs} (h : KVs prog w Λ es fs) : fs.map (·.1) = es.map (·.1) := by
 induction h with
 | nil => rfl
 | cons _ _ ih => rw [List.map_cons, List.map_cons, ih]
end
noncomputable def OR (prog : Program) (w : World) (Λ : Lay) : AO → Obj → Prop
 | .lst vs, o => ∃ ws n, VTs prog w Λ vs ws ∧ o = Zn ws n
 | .dsv es, o => ∃ kvs, KVs prog w Λ es kvs ∧ o.IsDictOf (strKind prog w) kvs
 | .div es, o => ∃ kvs, KVs prog w Λ es kvs ∧ o.IsDictOf (intKind prog w) kvs
 | .dmk es, o => DMK prog w Λ es o
 | .cell v, o => ∃ x, VT prog w Λ v x ∧ o = { cls := .type "cell", data := .cell (some x) }
 | .ali _, _ => False
 | .dead, _ => False
theorem OR.mono {prog : Program} {w : World} {Λ Λ' : Lay} (q : Z2 Λ Λ') {a : AO} {o : Obj} (h : OR prog w Λ a o) : OR prog w Λ' a o := by
 cases a with
 | lst vs => obtain ⟨ws, n, h, e⟩ := h; exact ⟨ws, n, h.mono q, e⟩
 | dsv es => obtain ⟨k, h, e⟩ := h; exact ⟨k, h.mono q, e⟩
 | div es => obtain ⟨k, h, e⟩ := h; exact ⟨k, h.mono q, e⟩
 | dmk es => exact DMK.mono q h
 | cell v => obtain ⟨x, h, e⟩ := h; exact ⟨x, h.mono q, e⟩
 | ali v => exact h
 | dead => exact h
noncomputable def UX (prog : Program) (w : World) (Λ : Lay) (ρ : List Addr) (h : Heap) (k : Nat) : AO → Prop
 | .ali v => ∃ a, ρ[k]? = some a ∧ VT prog w Λ v (.ref a)
 | .dead => True
 | ao => ∃ a o, ρ[k]? = some a ∧ Λ a = .led k ∧ h.get? a = some o ∧ OR prog w Λ ao o
noncomputable def ZdJ (Λ : Lay) (o : Obj) : Prop := ∃ q c t u t' n, Λ q = .penq ∧ o = Zn [.ref q, .int c t, .int u t'] n
noncomputable def Zle (o : Obj) : Prop := ∃ ws ns n, IntsAre ws ns ∧ ws.length ≤ 1000 ∧ o = Zn ws n
theorem ZdJ.mono {Λ Λ' : Lay} (h : ∀ a, Λ a = .penq → Λ' a = .penq) {o : Obj} (p : ZdJ Λ o) : ZdJ Λ' o :=
 let ⟨q, c, t, u, t', n, e, r⟩ := p; ⟨q, c, t, u, t', n, h _ e, r⟩
noncomputable def Ud (h : Heap) (Λ : Lay) (a : Addr) : Tag → Prop
 | .frz o => h.get? a = some o
 | .hid o => h.get? a = some o
 | .frm o => ∃ sl, h.get? a = some { o with slots := sl }
 | .pen => ∃ o, h.get? a = some o ∧ ZdJ Λ o
 | .penq => ∃ o, h.get? a = some o ∧ Zle o
 | .cur => ∃ o, h.get? a = some o
 | .led _ => True
 | .free => True
structure Rep0 (prog : Program) (w : World) (B₀ : Heap) (Λ : Lay) (σ : List AO) (ρ : List Addr) (h : Heap) : Prop where
 b0 : ∀ a o, B₀.get? a = some o → Λ a = .frz o
 tag : ∀ a, Ud h Λ a (Λ a)
 len : ρ.length = σ.length
 led : ∀ k ao, σ[k]? = some ao → UX prog w Λ ρ h k ao
 z0 : 0 < B₀.objs.size ∧ ∃ o, B₀.get? (B₀.objs.size - 1) = some o
 sm : ∃ o, B₀.get? sysModules = some o
noncomputable def Yp (prog : Program) (w : World) (Λ : Lay) (ρ : List Addr) (loc : List (Str × AV)) (m : Str → Option Value) : Prop := ∀ x, match loc.lookup x with
 | some a => (∃ v, m x = some v ∧ VR prog w Λ ρ a v) ∨ ∃ c u o y, a = .cel c u ∧ Λ c = .frz o ∧ o.data = .cell (some y) ∧ VT prog w Λ u y
 | none => True
theorem Yp.mono {prog : Program} {w : World} {Λ Λ' : Lay} {ρ ρ' : List Addr} (q : Z2 Λ Λ') (p : ρ <+: ρ') {loc m} (h : Yp prog w Λ ρ loc m) : Yp prog w Λ' ρ' loc m := fun x => by
 have := h x
 cases e : loc.lookup x with
 | none => rw [e] at this; exact this
 | some a =>
  rw [e] at this
  obtain ⟨v, h1, h2⟩ | ⟨c, u, o, y, h1, h2, h3, h4⟩ := this
  ·exact .inl ⟨v, h1, h2.mono q p⟩
  ·exact .inr ⟨c, u, o, y, h1, q.frz _ _ h2, h3, h4.mono q⟩
noncomputable def WW (Λ : Lay) (l : List Env) : Prop := ∀ env ∈ l, env.scope.kind ≠ .module ∧ ∃ L o, env.frame = some L ∧ Λ L = .frm o ∧ ∀ vs, o.data ≠ .fields vs
structure Rep (prog : Program) (w : World) (B₀ : Heap) (outs : List Env) (L : Addr) (loc : List (Str × AV)) (Λ : Lay) (σ : List AO) (ρ : List Addr) (h : Heap) : Prop extends Rep0 prog w B₀ Λ σ ρ h where
 out : WW Λ outs
 cur : Λ L = .cur
 ns : ∃ m, h.Ns L m ∧ Yp prog w Λ ρ loc m
 lA : B₀.objs.size ≤ L
section
variable {prog : Program} {w : World} {B₀ : Heap} {Λ Λ' : Lay} {σ : List AO} {ρ : List Addr} {h h' : Heap} {L : Addr} {loc : List (Str × AV)}
theorem Rep0.keep (R : Rep0 prog w B₀ Λ σ ρ h) : B₀.StaysIn h := fun a o e => by
 have := R.tag a; rw [R.b0 a o e] at this; exact this
theorem Rep0.free (R : Rep0 prog w B₀ Λ σ ρ h) {a : Addr} (ha : h.get? a = none) : Λ a = .free ∨ ∃ k, Λ a = .led k := by
 have := R.tag a
 cases e : Λ a with
 | free => exact .inl rfl
 | led k => exact .inr ⟨k, rfl⟩
 | frz o => rw [e] at this; rw [show h.get? a = some o from this] at ha; exact xS ha
 | hid o => rw [e] at this; rw [show h.get? a = some o from this] at ha; exact xS ha
 | frm o => rw [e] at this; obtain ⟨sl, q⟩ := this; rw [q] at ha; exact xS ha
 | cur => rw [e] at this; obtain ⟨o, q⟩ := this; rw [q] at ha; exact xS ha
 | pen => rw [e] at this; obtain ⟨o, q, _⟩ := this; rw [q] at ha; exact xS ha
 | penq => rw [e] at this; obtain ⟨o, q, _⟩ := this; rw [q] at ha; exact xS ha
theorem Rep0.size (R : Rep0 prog w B₀ Λ σ ρ h) : B₀.objs.size ≤ h.objs.size := by
 obtain ⟨z, o, e⟩ := R.z0
 have q : (B₀.objs.size - 1 : Nat) < h.objs.size := Heap.lt_size (R.keep _ _ e)
 exact Nat.le_of_pred_lt q
theorem Rep0.at (R : Rep0 prog w B₀ Λ σ ρ h) {k : Nat} {ao : AO} (e : σ[k]? = some ao) : UX prog w Λ ρ h k ao := R.led k ao e
theorem Ud.grow {a : Addr} {t : Tag} (s : ∀ o, h.get? a = some o → h'.get? a = some o) (p : ∀ q, Λ q = .penq → Λ' q = .penq) (H : Ud h Λ a t) : Ud h' Λ' a t := by
 cases t with
 | frz o => exact s _ H
 | hid o => exact s _ H
 | frm o => obtain ⟨sl, e⟩ := H; exact ⟨sl, s _ e⟩
 | pen => obtain ⟨o, e, q⟩ := H; exact ⟨o, s _ e, q.mono p⟩
 | penq => obtain ⟨o, e, q⟩ := H; exact ⟨o, s _ e, q⟩
 | cur => obtain ⟨o, e⟩ := H; exact ⟨o, s _ e⟩
 | led _ => trivial
 | free => trivial
theorem UX.grow {k : Nat} {ao : AO} (s : ∀ a o, Λ a = .led k → h.get? a = some o → h'.get? a = some o) (H : UX prog w Λ ρ h k ao) : UX prog w Λ ρ h' k ao := by
 cases ao <;> first | exact H | (obtain ⟨a, o, h1, h2, h3, h4⟩ := H; exact ⟨a, o, h1, h2, s _ _ h2 h3, h4⟩)
theorem UX.up {ρ' : List Addr} {k : Nat} {ao : AO} (q : Z2 Λ Λ') (p : ρ <+: ρ') (g : ∀ a, Λ a = .led k → Λ' a = .led k) (H : UX prog w Λ ρ h k ao) : UX prog w Λ' ρ' h k ao := by
 cases ao with
 | ali v => obtain ⟨a, h1, h2⟩ := H; exact ⟨a, ZY p h1, h2.mono q⟩
 | dead => trivial
 | _ => obtain ⟨a, o, h1, h2, h3, h4⟩ := H; exact ⟨a, o, ZY p h1, g _ h2, h3, h4.mono q⟩
theorem Rep0.grow (R : Rep0 prog w B₀ Λ σ ρ h) (s : ∀ a o, Λ a ≠ .free → h.get? a = some o → h'.get? a = some o) : Rep0 prog w B₀ Λ σ ρ h' where
 b0 := R.b0
 tag := fun a => by
  cases e : Λ a with
  | free => trivial
  | _ => have := R.tag a; rw [e] at this; exact this.grow (fun o q => s a o (by rw [e]; exact nofun) q) fun _ q => q
 len := R.len
 led := fun k ao e => (R.led k ao e).grow fun a o q => s a o (by rw [q]; exact nofun)
 z0 := R.z0
 sm := R.sm
theorem Rep0.settle (R : Rep0 prog w B₀ Λ σ ρ h) {a : Addr} {t : Tag} (ha : Λ a = .free) (ht : Ud h (Λ.up a t) a t) : Rep0 prog w B₀ (Λ.up a t) σ ρ h := by
 have le : Λ.le (Λ.up a t) := Lay.le_up t (.inl ha)
 refine ⟨fun b o e => le.frz (R.b0 b o e), fun b => ?_, R.len, fun k ao e => ?_, R.z0, R.sm⟩
 ·by_cases q : b = a
  ·subst q; rw [Lay.up_self]; exact ht
  ·rw [Lay.up_ne _ _ q]
   exact (R.tag b).grow (fun _ e => e) fun c e => by
    obtain z | z | ⟨_, z⟩ := le c
    ·exact z.trans e
    ·rw [e] at z; (exfalso; cases z)
    ·rw [e] at z; (exfalso; cases z)
 ·refine (R.led k ao e).up le.sees (List.prefix_refl _) fun b z => ?_
  have : b ≠ a := fun q => by rw [q, ha] at z; (exfalso; cases z)
  rw [Lay.up_ne _ _ this]; exact z
theorem Rep0.enter (R : Rep0 prog w B₀ Λ σ ρ h) {a : Addr} {ao : AO} {o : Obj} (ha : Λ a = .free) (ho : h.get? a = some o) (hr : OR prog w (Λ.up a (.led σ.length)) ao o) :
  Rep0 prog w B₀ (Λ.up a (.led σ.length)) (σ ++ [ao]) (ρ ++ [a]) h := by
 have R' := R.settle (t := .led σ.length) ha trivial
 have p : ρ <+: ρ ++ [a] := List.prefix_append _ _
 refine ⟨R'.b0, R'.tag, by simp [R.len], fun k x e => ?_, R.z0, R.sm⟩
 obtain hi | hi := Nat.lt_or_ge k σ.length
 ·rw [List.getElem?_append_left hi] at e
  exact (R'.led k x e).up ⟨fun _ _ q => q, fun _ q => q⟩ p fun _ q => q
 ·rw [List.getElem?_append_right hi] at e
  cases hz : k - σ.length with
  | succ j => rw [hz] at e; simp at e
  | zero =>
   rw [hz] at e
   (replace e := xI e; cases e)
   have hk : k = σ.length := Nat.le_antisymm (Nat.sub_eq_zero_iff_le.mp hz) hi
   subst hk
   have e1 : (ρ ++ [a])[σ.length]? = some a := by rw [← R.len]; simp
   cases ao with
   | ali v => exact hr.elim
   | dead => trivial
   | _ => exact ⟨a, o, e1, Lay.up_self .., ho, hr⟩
theorem Rep0.set (R : Rep0 prog w B₀ Λ σ ρ h) {k : Nat} {a : Addr} {ao : AO} {o : Obj} (ha : ρ[k]? = some a) (hl : Λ a = .led k) (hs : ∀ b o, b ≠ a → h.get? b = some o → h'.get? b = some o) (ho : h'.get? a = some o)
  (hr : OR prog w Λ ao o) : Rep0 prog w B₀ Λ (σ.set k ao) ρ h' := by
 refine ⟨R.b0, fun b => ?_, by simp [R.len], fun i x e => ?_, R.z0, R.sm⟩
 ·by_cases q : b = a
  ·subst q; rw [hl]; trivial
  ·exact (R.tag b).grow (hs b · q) fun _ e => e
 ·by_cases hi : i = k
  ·subst hi
   have hk : i < σ.length := by rw [← R.len]; exact (List.getElem?_eq_some_iff.mp ha).1
   rw [List.getElem?_set_self hk] at e; (replace e := xI e; cases e)
   cases ao with
   | ali v => exact hr.elim
   | dead => trivial
   | _ => exact ⟨a, o, ha, hl, ho, hr⟩
  ·rw [List.getElem?_set_ne (fun q => hi q.symm)] at e
   exact (R.led i x e).grow fun b o z => hs b o fun q => by rw [q, hl] at z; cases z; exact hi rfl
theorem Rep0.freeze (R : Rep0 prog w B₀ Λ σ ρ h) {k : Nat} {a : Addr} {v : AV} {o : Obj} (ha : ρ[k]? = some a) (hl : Λ a = .led k) (ho : h.get? a = some o)
  (hr : VT prog w (Λ.up a (.frz o)) v (.ref a)) : Rep0 prog w B₀ (Λ.up a (.frz o)) (σ.set k (.ali v)) ρ h := by
 have le : Λ.le (Λ.up a (.frz o)) := Lay.le_up _ (.inr ⟨k, hl⟩)
 refine ⟨fun b o e => le.frz (R.b0 b o e), fun b => ?_, by simp [R.len], fun i x e => ?_, R.z0, R.sm⟩
 ·by_cases q : b = a
  ·subst q; rw [Lay.up_self]; exact ho
  ·rw [Lay.up_ne _ _ q]
   exact (R.tag b).grow (fun _ e => e) fun c e => by
    obtain z | z | ⟨_, z⟩ := le c
    ·exact z.trans e
    ·rw [e] at z; (exfalso; cases z)
    ·rw [e] at z; (exfalso; cases z)
 ·by_cases hi : i = k
  ·subst hi
   have hk : i < σ.length := by rw [← R.len]; exact (List.getElem?_eq_some_iff.mp ha).1
   rw [List.getElem?_set_self hk] at e; (replace e := xI e; cases e)
   exact ⟨a, ha, hr⟩
  ·rw [List.getElem?_set_ne (fun q => hi q.symm)] at e
   refine (R.led i x e).up le.sees (List.prefix_refl _) fun b z => ?_
   have : b ≠ a := fun q => by rw [q, hl] at z; cases z; exact hi rfl
   rw [Lay.up_ne _ _ this]; exact z
end
end
section
variable {prog : Program} {w : World} {B₀ : Heap} {outs : List Env} {L : Addr} {loc : List (Str × AV)} {Λ Λ' : Lay} {σ : List AO} {ρ : List Addr} {h h' : Heap}
theorem WW.mono (q : Λ.le Λ') {l : List Env} (f : WW Λ l) : WW Λ' l := fun env he =>
 let ⟨k, L, o, e, t, d⟩ := f env he; ⟨k, L, o, e, q.frm t, d⟩
theorem Rep.move (R : Rep prog w B₀ outs L loc Λ σ ρ h) {m' : Str → Option Value} {loc' : List (Str × AV)} (s : ∀ b o, b ≠ L → h.get? b = some o → h'.get? b = some o) (hn : h'.Ns L m') (hl : Yp prog w Λ ρ loc' m') :
  Rep prog w B₀ outs L loc' Λ σ ρ h' where
 b0 := R.b0
 tag := fun a => by
  by_cases q : a = L
  ·subst q; rw [R.cur]; obtain ⟨o, _, _, ho, _⟩ := hn; exact ⟨o, ho⟩
  ·exact (R.tag a).grow (fun o => s a o q) fun _ q => q
 len := R.len
 led := fun k ao e => (R.led k ao e).grow fun a o z => s a o fun q => by rw [q, R.cur] at z; (exfalso; cases z)
 z0 := R.z0
 sm := R.sm
 cur := R.cur
 ns := ⟨m', hn, hl⟩
 lA := R.lA
 out := R.out
theorem Rep.grow (R : Rep prog w B₀ outs L loc Λ σ ρ h) (s : ∀ b o, h.get? b = some o → h'.get? b = some o) : Rep prog w B₀ outs L loc Λ σ ρ h' := by
 obtain ⟨m, n, l⟩ := R.ns
 exact R.move (fun b o _ => s b o) (n.at' (s _)) l
theorem Rep.settle (R : Rep prog w B₀ outs L loc Λ σ ρ h) {a : Addr} {t : Tag} (ha : Λ a = .free) (ht : Ud h (Λ.up a t) a t) : Rep prog w B₀ outs L loc (Λ.up a t) σ ρ h where
 toRep0 := R.toRep0.settle ha ht
 cur := by rw [Lay.up_ne _ _ fun q => by rw [← q, R.cur] at ha; (exfalso; cases ha)]; exact R.cur
 ns := let ⟨m, n, l⟩ := R.ns; ⟨m, n, l.mono (Lay.le_up t (.inl ha)).sees (List.prefix_refl _)⟩
 lA := R.lA
 out := R.out.mono (Lay.le_up t (.inl ha))
theorem Rep.enter (R : Rep prog w B₀ outs L loc Λ σ ρ h) {a : Addr} {ao : AO} {o : Obj} (ha : Λ a = .free) (ho : h.get? a = some o) (hr : OR prog w (Λ.up a (.led σ.length)) ao o) :
  Rep prog w B₀ outs L loc (Λ.up a (.led σ.length)) (σ ++ [ao]) (ρ ++ [a]) h where
 toRep0 := R.toRep0.enter ha ho hr
 cur := by rw [Lay.up_ne _ _ fun q => by rw [← q, R.cur] at ha; (exfalso; cases ha)]; exact R.cur
 ns := let ⟨m, n, l⟩ := R.ns; ⟨m, n, l.mono (Lay.le_up _ (.inl ha)).sees (List.prefix_append _ _)⟩
 lA := R.lA
 out := R.out.mono (Lay.le_up _ (.inl ha))
theorem Rep.set (R : Rep prog w B₀ outs L loc Λ σ ρ h) {k : Nat} {a : Addr} {ao : AO} {o : Obj} (ha : ρ[k]? = some a) (hl : Λ a = .led k) (hs : ∀ b o, b ≠ a → h.get? b = some o → h'.get? b = some o) (ho : h'.get? a = some o)
  (hr : OR prog w Λ ao o) : Rep prog w B₀ outs L loc Λ (σ.set k ao) ρ h' where
 toRep0 := R.toRep0.set ha hl hs ho hr
 cur := R.cur
 ns := let ⟨m, n, l⟩ := R.ns; ⟨m, n.at' fun o e => hs _ o (fun q => by rw [← q, R.cur] at hl; (exfalso; cases hl)) e, l⟩
 lA := R.lA
 out := R.out
theorem Rep.freeze (R : Rep prog w B₀ outs L loc Λ σ ρ h) {k : Nat} {a : Addr} {v : AV} {o : Obj} (ha : ρ[k]? = some a) (hl : Λ a = .led k) (ho : h.get? a = some o)
  (hr : VT prog w (Λ.up a (.frz o)) v (.ref a)) : Rep prog w B₀ outs L loc (Λ.up a (.frz o)) (σ.set k (.ali v)) ρ h where
 toRep0 := R.toRep0.freeze ha hl ho hr
 cur := by rw [Lay.up_ne _ _ fun q => by rw [← q, R.cur] at hl; (exfalso; cases hl)]; exact R.cur
 ns := let ⟨m, n, l⟩ := R.ns; ⟨m, n, l.mono (Lay.le_up _ (.inr ⟨k, hl⟩)).sees (List.prefix_refl _)⟩
 lA := R.lA
 out := R.out.mono (Lay.le_up _ (.inr ⟨k, hl⟩))
theorem Rep.forget (R : Rep prog w B₀ outs L loc Λ σ ρ h) {a : Addr} (ha : h.get? a = none) : ∃ Λ', Λ.le Λ' ∧ (∀ b, Λ b = .free → Λ' b = .free) ∧ Λ' a = .free ∧ Rep prog w B₀ outs L loc Λ' σ ρ h := by
 obtain e | ⟨k, e⟩ := R.toRep0.free ha
 ·exact ⟨Λ, Lay.le.refl _, fun _ q => q, e, R⟩
 ·have le : Λ.le (Λ.up a .free) := Lay.le_up _ (.inr ⟨k, e⟩)
  refine ⟨Λ.up a .free, le, fun b q => (by by_cases z : b = a <;> first | (subst z; exact Lay.up_self ..) | (rw [Lay.up_ne _ _ z]; exact q)), Lay.up_self .., ?_⟩
  have nL : L ≠ a := fun q => by rw [← q, R.cur] at e; (exfalso; cases e)
  refine { toRep0 := ⟨fun b o q => le.frz (R.b0 b o q), fun b => ?_, R.len, fun i ao q => ?_, R.z0, R.sm⟩, cur := by rw [Lay.up_ne _ _ nL]; exact R.cur, ns := let ⟨m, n, l⟩ := R.ns; ⟨m, n, l.mono le.sees (List.prefix_refl _)⟩, lA := R.lA, out := R.out.mono le }
  ·by_cases q : b = a
   ·subst q; rw [Lay.up_self]; trivial
   ·rw [Lay.up_ne _ _ q]
    refine (R.tag b).grow (fun _ z => z) fun c z => ?_
    obtain y | y | ⟨_, y⟩ := le c
    ·exact y.trans z
    ·rw [z] at y; (exfalso; cases y)
    ·rw [z] at y; (exfalso; cases y)
  ·have H := R.led i ao q
   cases ao with
   | ali v => obtain ⟨b, h1, h2⟩ := H; exact ⟨b, h1, h2.mono le.sees⟩
   | dead => trivial
   | _ =>
    obtain ⟨b, o, h1, h2, h3, h4⟩ := H
    refine ⟨b, o, h1, ?_, h3, h4.mono le.sees⟩
    have : b ≠ a := fun z => by rw [z, ha] at h3; exact xN h3
    rw [Lay.up_ne _ _ this]; exact h2
theorem Rep.push (R : Rep prog w B₀ outs L loc Λ σ ρ h) (o : Obj) (hf : o.isFreed = false) :
  ∃ Λ', Λ.le Λ' ∧ Λ' h.objs.size = .frz o ∧ Rep prog w B₀ outs L loc Λ' σ ρ (h.push o) := by
 obtain ⟨Λ₁, l1, _, e1, R1⟩ := R.forget (a := h.objs.size) (Heap.get?_none_of_le (Nat.le_refl _))
 refine ⟨Λ₁.up h.objs.size (.frz o), l1.trans (Lay.le_up _ (.inl e1)), Lay.up_self .., ?_⟩
 exact (R1.grow (fun _ _ e => Heap.get?_push_of_some _ e)).settle e1 (Heap.get?_push_size _ hf)
theorem Rep.pushLed (R : Rep prog w B₀ outs L loc Λ σ ρ h) {ao : AO} {o : Obj} (hr : OR prog w Λ ao o) (hf : o.isFreed = false) :
  ∃ Λ', Λ.le Λ' ∧ Rep prog w B₀ outs L loc Λ' (σ ++ [ao]) (ρ ++ [h.objs.size]) (h.push o) := by
 obtain ⟨Λ₁, l1, _, e1, R1⟩ := R.forget (a := h.objs.size) (Heap.get?_none_of_le (Nat.le_refl _))
 refine ⟨Λ₁.up h.objs.size (.led σ.length), l1.trans (Lay.le_up _ (.inl e1)), ?_⟩
 exact (R1.grow (fun _ _ e => Heap.get?_push_of_some _ e)).enter e1 (Heap.get?_push_size _ hf) (hr.mono (l1.trans (Lay.le_up _ (.inl e1))).sees)
noncomputable def Xo (B : Heap) (L : Addr) (h : Heap) : List (Addr × Obj) :=
 (List.range h.objs.size).filterMap fun b => if b = L then none else match B.get? b with
  | some _ => none
  | none => (h.get? b).map fun o => (b, o)
theorem XH {B : Heap} {L : Addr} {h : Heap} {b : Addr} {o : Obj} : (b, o) ∈ Xo B L h ↔ h.get? b = some o ∧ b ≠ L ∧ B.get? b = none := by
 delta Xo
 rw [List.mem_filterMap]
 constructor
 ·intro h9; obtain ⟨c, hc, e⟩ := h9
  by_cases q : c = L
  ·rw [if_pos q] at e; exact xN e
  ·rw [if_neg q] at e
   generalize z : B.get? c = zz at e ⊢
   cases zz with
   | some _ => exact xN e
   | none =>
    obtain ⟨o', h1, h2⟩ := Option.map_eq_some_iff.mp e
    injection h2 with h2 h3
    subst h2 h3
    exact ⟨h1, q, z⟩
 ·intro h9; obtain ⟨h1, h2, h3⟩ := h9
  refine ⟨b, List.mem_range.mpr (Heap.lt_size h1), ?_⟩
  rw [if_neg h2, h3, h1]; rfl
theorem VQ (B : Heap) (L : Addr) (h : Heap) : News B L h (Xo B L h) := fun p hp => (XH (b := p.1) (o := p.2)).mp hp
theorem Rep.frame (R : Rep prog w B₀ outs L loc Λ σ ρ h) : ∃ m, Fr B₀ L h m ∧ Yp prog w Λ ρ loc m := let ⟨m, n, l⟩ := R.ns; ⟨m, ⟨n, R.toRep0.keep, R.lA⟩, l⟩
theorem Rep.back (R : Rep prog w B₀ outs L loc Λ σ ρ h) {m : Str → Option Value} {loc' : List (Str × AV)} (F : Fr B₀ L h' m) (l : Yp prog w Λ ρ loc' m) (N : News B₀ L h' (Xo B₀ L h)) :
  Rep prog w B₀ outs L loc' Λ σ ρ h' := by
 refine R.move (fun b o q e => ?_) F.ns l
 generalize z : B₀.get? b = zz at *
 cases zz with
 | some o' => have := R.toRep0.keep b o' z; rw [e] at this; (replace this := xI this; cases this); exact F.keep b o z
 | none => exact (N _ (XH.mpr ⟨e, q, z⟩)).1
noncomputable def Za3 : AV → Bool
 | .cel _ _ => false
 | _ => true
theorem Yp.look {m : Str → Option Value} (l : Yp prog w Λ ρ loc m) {x : Str} {a : AV} (e : loc.lookup x = some a) (hc : Za3 a = true) : ∃ v, m x = some v ∧ VR prog w Λ ρ a v := by
 have := l x
 rw [e] at this
 obtain h | ⟨c, u, _, _, h, _⟩ := this
 ·exact h
 ·rw [h] at hc; exact xF hc
theorem Yp.cel {m : Str → Option Value} (l : Yp prog w Λ ρ loc m) {x : Str} {c : Addr} {u : AV} (e : loc.lookup x = some (.cel c u)) : ∃ o y, Λ c = .frz o ∧ o.data = .cell (some y) ∧ VT prog w Λ u y := by
 have := l x
 rw [e] at this
 try clear e; try clear u; try clear c; try clear x; try clear l; try clear m
 obtain ⟨v, _, h | ⟨k, b, q, _⟩⟩ | ⟨c', u', o, y, h, r⟩ := this
 ·exact VT.nocel h
 ·(exfalso; cases q)
 ·cases h; exact ⟨o, y, r⟩
end
noncomputable def lEq : List Nat → List Nat → Bool
 | [], [] => true
 | c :: l, d :: m => match Nat.beq c d with
  | true => lEq l m
  | false => false
 | _, _ => false
theorem Zak : ∀ {l m : List Nat}, lEq l m = true ↔ l = m
 | [], [] => ⟨fun _ => rfl, fun _ => rfl⟩
 | [], _ :: _ => ⟨fun h => (nomatch h), fun h => (nomatch h)⟩
 | _ :: _, [] => ⟨fun h => (nomatch h), fun h => (nomatch h)⟩
 | c :: l, d :: m => by
  show (match Nat.beq c d with | true => lEq l m | false => false) = true ↔ _
  generalize e : Nat.beq c d = zz at *
  cases zz with
  | true =>
   have := Nat.eq_of_beq_eq_true e
   subst this
   simp only [Zak, List.cons.injEq, true_and]
  | false =>
   have := Nat.ne_of_beq_eq_false e
   simp [this]
noncomputable def sEq (a b : Str) : Bool := match a, b with
 | ⟨⟨l⟩⟩, ⟨⟨m⟩⟩ => lEq l m
theorem ZH {a b : Str} : sEq a b = true ↔ a = b := by
 obtain ⟨⟨l⟩⟩ := a
 obtain ⟨⟨m⟩⟩ := b
 delta sEq
 rw [Zak]
 constructor
 ·intro h; rw [h]
 ·intro h; injection h with h; injection h
theorem Yq (a : Str) : sEq a a = true := ZH.mpr rfl
theorem Zaa (a b : Str) : sEq a b = decide (a = b) := by
 cases h : sEq a b with
 | true => simp [ZH.mp h]
 | false =>
  refine (decide_eq_false fun e => ?_).symm
  rw [e, Yq] at h; exact xT h
theorem Xh (a b : Str) : sEq a b = (a == b) := by rw [Zaa]; rfl
noncomputable def Zb (a b : Str) : Str := match a, b with
 | ⟨⟨l⟩⟩, ⟨⟨m⟩⟩ => ⟨⟨l ++ m⟩⟩
theorem Wf (a b : Str) : Zb a b = a ++ b := by
 obtain ⟨⟨l⟩⟩ := a
 obtain ⟨⟨m⟩⟩ := b
 show (⟨⟨l ++ m⟩⟩ : Str) = ⟨(⟨l⟩ : Array Nat) ++ ⟨m⟩⟩
 congr 1
 simp
noncomputable def Zf (a : Str) : Nat := match a with
 | ⟨⟨l⟩⟩ => l.length
theorem WZ (a : Str) : Zf a = a.length := by
 obtain ⟨⟨l⟩⟩ := a
 rfl
noncomputable def Ze {α : Type} (x : Str) : List (Str × α) → Option α
 | [] => none
 | p :: l => match sEq x p.1 with
  | true => some p.2
  | false => Ze x l
theorem U8 {α : Type} (x : Str) (p : Str × α) (l : List (Str × α)) : Ze x (p :: l) = (match sEq x p.1 with | true => some p.2 | false => Ze x l) := rfl
theorem Ye {α : Type} (x : Str) : ∀ l : List (Str × α), Ze x l = l.lookup x
 | [] => rfl
 | (y, a) :: l => by
  rw [U8, List.lookup_cons, Xh]
  cases h : x == y with
  | true => rfl
  | false => exact Ye x l
noncomputable def WC {α : Type} (x : Str) (a : α) : List (Str × α) → List (Str × α)
 | [] => [(x, a)]
 | p :: l => match sEq x p.1 with
  | true => (x, a) :: l
  | false => p :: WC x a l
theorem ZbR {α : Type} (x : Str) (a : α) (p : Str × α) (l : List (Str × α)) : WC x a (p :: l) = (match sEq x p.1 with | true => (x, a) :: l | false => p :: WC x a l) := rfl
noncomputable def ZaS {α : Type} (x : Str) (a : α) : List (Str × α) → (List (Str × α) → Prop) → Prop
 | [], K => K [(x, a)]
 | p :: l, K => match sEq x p.1 with
  | true => K ((x, a) :: l)
  | false => ZaS x a l fun l' => K (p :: l')
theorem JB {α : Type} (x : Str) (a : α) : ∀ (l : List (Str × α)) (K : List (Str × α) → Prop), ZaS x a l K = K (WC x a l)
 | [], K => rfl
 | p :: l, K => by
  rw [ZbR]
  show (match sEq x p.1 with | true => K ((x, a) :: l) | false => ZaS x a l fun l' => K (p :: l')) = _
  cases sEq x p.1 with
  | true => rfl
  | false => exact JB x a l _
noncomputable def Zg2 {α : Type} : List α → List α → (List α → Prop) → Prop
 | [], m, K => K m
 | a :: l, m, K => Zg2 l m fun l' => K (a :: l')
theorem Ji {α : Type} : ∀ (l m : List α) (K : List α → Prop), Zg2 l m K = K (l ++ m)
 | [], m, K => rfl
 | a :: l, m, K => Ji l m _
noncomputable def Zfm {α : Type} : List α → Nat → α → (List α → Prop) → Prop
 | [], _, _, K => K []
 | a :: l, n, b, K => match n with
  | 0 => K (b :: l)
  | n + 1 => Zfm l n b fun l' => K (a :: l')
theorem U7 {α : Type} : ∀ (l : List α) (n : Nat) (b : α) (K : List α → Prop), Zfm l n b K = K (l.set n b)
 | [], _, _, K => rfl
 | a :: l, 0, b, K => rfl
 | a :: l, n + 1, b, K => U7 l n b _
theorem WY {α : Type} (x : Str) (a : α) (y : Str) : ∀ l : List (Str × α), (WC x a l).lookup y = if y = x then some a else l.lookup y
 | [] => by
  delta WC
  rw [List.lookup_cons]
  by_cases h : y = x
  ·subst h; simp
  ·have : (y == x) = false := beq_eq_false_iff_ne.mpr h
   simp [this, h]
 | (z, b) :: l => by
  rw [ZbR]
  generalize h : sEq x z = zz at *
  cases zz with
  | true =>
   have e := ZH.mp h
   simp only
   rw [List.lookup_cons, List.lookup_cons]
   by_cases q : y = x
   ·try clear e; try clear y; try clear a; try clear x; try clear α
    subst q; simp
   ·have : (y == x) = false := beq_eq_false_iff_ne.mpr q
    rw [← e]; simp [q, this]
  | false =>
   simp only
   rw [List.lookup_cons, List.lookup_cons, WY x a y l]
   by_cases q : y = x
   ·subst q
    have : (y == z) = false := by rw [← Xh]; exact h
    simp [this]
   ·simp [q]
theorem Yp.put {prog : Program} {w : World} {Λ : Lay} {ρ : List Addr} {loc : List (Str × AV)} {m : Str → Option Value} (l : Yp prog w Λ ρ loc m) {x : Str} {a : AV} {v : Value} (h : VR prog w Λ ρ a v) : Yp prog w Λ ρ (WC x a loc) (fun y => if y = x then some v else m y) := fun y => by
 rw [WY]
 by_cases q : y = x
 ·simp only [q, if_true]; exact .inl ⟨v, rfl, h⟩
 ·simp only [q, if_false]; exact l y
structure AX where
 at_ : AV
inductive Fl where
 | next
 | ret (v : AV)
noncomputable abbrev Loc := List (Str × AV)
noncomputable abbrev Led := List AO
noncomputable abbrev KE := AV → Led → Prop
noncomputable abbrev KB := Bool → Led → Prop
noncomputable abbrev KL := List AV → Led → Prop
noncomputable abbrev KC := AX → Led → Prop
noncomputable abbrev KX := AX → Loc → Led → Prop
noncomputable abbrev KS := Fl → Loc → Led → Prop
structure FI where
 names : List (Str × NameKind)
 calm : Bool
 comp : Bool
 cells : List (Str × Nat)
structure Yv where
 body : List Stmt
 names : List (Str × NameKind)
 bind : List AV → Option Loc
structure Pg where
 glob : List (Str × AV)
 fn : Nat → Option Yv
 ctr : Nat → Option (Nat × (List AV → (AV → Prop) → (AX → Prop) → Prop))
structure Ev where
 E : FI → Loc → Led → Expr → KE → KC → Prop
 T : FI → Loc → Led → Expr → KB → KC → Prop
 Ss : FI → Loc → Led → List Stmt → KS → KX → Prop
 C : Bool → Nat → List AV → Led → KE → KC → Prop
noncomputable def chk (p : Prop) [Decidable p] (q : Prop) : Prop := match decide p with
 | true => q
 | false => False
theorem JL {p q : Prop} [Decidable p] (h : chk p q) : p ∧ q := by
 delta chk at h
 by_cases z : p
 ·rw [decide_eq_true z] at h; exact ⟨z, h⟩
 ·rw [decide_eq_false z] at h; exact h.elim
theorem Zj {p q : Prop} [Decidable p] (z : p) (h : q) : chk p q := by
 delta chk
 rw [decide_eq_true z]; exact h
theorem chk.l {p q : Prop} [Decidable p] (h : chk p q) : p := (JL h).1
theorem chk.r {p q : Prop} [Decidable p] (h : chk p q) : q := (JL h).2
noncomputable abbrev ZU (n : Nat) : Prop := Nat.ble n 16777216 = true
structure ZkZ (n : Nat) (q : Prop) : Prop where
 l : ZU n
 r : q
structure ZmS (a b : Int) (q : Prop) : Prop where
 l : a.natAbs < 2 ^ 64
 m : b.natAbs < 2 ^ 64
 r : q
theorem YI {a b : Int} {q : Prop} (h : a.natAbs < 2 ^ 64) (g : b.natAbs < 2 ^ 64) (k : q) : ZmS a b q := ⟨h, g, k⟩
noncomputable def Gm (i j : Int) : Int := match decide (j < i) with | true => j | false => i
structure ZmQ (i : Int) (q : Prop) : Prop where
 l : 0 ≤ i
 m : i ≤ 16777216
 r : q
structure ZmR (i : Int) (q : Prop) : Prop where
 l : i.natAbs < 2 ^ 70
 r : q
structure ZmT (x : Str) (m : List Str) (q : Prop) : Prop where
 l : JoinOk x m = true
 r : q
theorem Za {n : Nat} {q : Prop} (h : ZU n) (k : q) : ZkZ n q := ⟨h, k⟩
theorem X7 {i : Int} {q : Prop} (h : 0 ≤ i) (g : i ≤ 16777216) (k : q) : ZmQ i q := ⟨h, g, k⟩
theorem Zm {i : Int} {q : Prop} (h : i.natAbs < 2 ^ 70) (k : q) : ZmR i q := ⟨h, k⟩
theorem Y3 {x : Str} {l : List Str} {q : Prop} (h : JoinOk x l = true) (k : q) : ZmT x l q := ⟨h, k⟩
noncomputable def Wx (b : Bool) (p q : Prop) : Prop := match b with
 | true => p
 | false => q
noncomputable def Ww : AV → Bool
 | .cel _ _ => true
 | _ => false
noncomputable def Zne (x : Str) : Bool := x == ("__debug__" : Str)
noncomputable def ncP (v : AV) (p : Prop) : Prop := match Ww v with
 | true => False
 | false => p
theorem XV {v : AV} {p : Prop} (h : Ww v = false) (k : p) : ncP v p := by delta ncP; rw [h]; exact k
noncomputable def UL (pg : Pg) (fi : FI) (loc : Loc) (σ : Led) (x : Str) (K : KE) : Prop :=
 match sEq x (Str.ofString "__debug__") with
 | true => False
 | false => match Ze x fi.names with
  | some k => (match k with
   | .local => (match Ze x loc with | some v => ncP v (K v σ) | none => False)
   | .globalImplicit => (match Ze x pg.glob with | some v => K v σ | none => False)
   | .cell => (match Ze x loc with
    | some v => (match v with
     | .cel c u => (match Ze x fi.cells with | some d => chk (d = c) (K u σ) | none => False)
     | _ => False)
    | none => False)
   | _ => False)
  | none => False
noncomputable def ZnX (σ : Led) (v : AV) : AV := match v with
 | .ref k => (match σ[k]? with
  | some o => (match o with | .ali u => u | _ => v)
  | none => v)
 | _ => v
noncomputable def Yz (σ : Led) (v : AV) : Option (List AV) := match v with
 | .lst vs => some vs
 | .ref k => (match σ[k]? with
  | some o => (match o with
   | .lst vs => some vs
   | .ali u => (match u with | .lst vs => some vs | _ => none)
   | _ => none)
  | none => none)
 | _ => none
noncomputable def Zcd (op : Operator) (a b : Int) (K : Int → Prop) : Prop := match op with
 | .Add => K (a + b)
 | .Sub => K (a - b)
 | .Mult => ZmS a b (K (a * b))
 | .LShift => ((chk (0 ≤ b) (chk (b ≤ 1000) (chk (a.natAbs < 2 ^ 64) (K (a * 2 ^ b.toNat))))))
 | .Pow => ((chk (0 ≤ b) (chk (b ≤ 1000) (chk (a.natAbs < 2 ^ 64) (K (a ^ b.toNat))))))
 | _ => False
noncomputable def Zaq (op : Operator) (a b : AV) (σ : Led) (K : KE) : Prop := match a with
 | .int i => (match b with | .int j => Zcd op i j fun k => K (.int k) σ | _ => False)
 | _ => False
noncomputable def ZcI (a b : AV) (σ : Led) (K : KE) : Prop := match Yz σ a with
 | some xs => (match Yz σ b with
  | some ys => ((chk (ZU (xs.length + ys.length)) (K (.ref σ.length) (σ ++ [.lst (xs ++ ys)]))))
  | none => False)
 | none => False
noncomputable def ZcK (a b : AV) (σ : Led) (K : KE) : Prop := match a with
 | .int i => (match b with | .int j => K (.int (i + j)) σ | _ => False)
 | .str x => (match b with | .str y => ZkZ (Zf x + Zf y) (K (.str (Zb x y)) σ) | _ => False)
 | .tup xs => (match b with | .tup ys => ((chk (ZU (xs.length + ys.length)) (K (.tup (xs ++ ys)) σ))) | _ => False)
 | a => ZcI a b σ K
noncomputable def Zf8 : Operator → Bool
 | .Add => true
 | _ => false
noncomputable def Zk3 (op : Operator) (a b : AV) (σ : Led) (K : KE) : Prop := match Zf8 op with
 | true => ZcK a b σ K
 | false => Zaq op a b σ K
noncomputable def Zga (op : CmpOp) (a b : Int) (K : Bool → Prop) : Prop := match op with
 | .Eq => K (decide (a = b))
 | .NotEq => K (!decide (a = b))
 | .Lt => K (decide (a < b))
 | .LtE => K (decide (a ≤ b))
 | .Gt => K (decide (b < a))
 | _ => False
noncomputable def lOk : List Nat → Bool
 | [] => true
 | c :: l => match Nat.blt c 1114112 with | true => lOk l | false => false
noncomputable def sOk (x : Str) : Bool := match x with
 | ⟨⟨l⟩⟩ => lOk l
theorem Zdd : ∀ {l : List Nat}, lOk l = true → ∀ c ∈ l, c < 1114112
 | [], _, c, h => by (exfalso; cases h)
 | d :: l, e, c, h => by
  change (match Nat.blt d 1114112 with | true => lOk l | false => false) = true at e
  generalize q : Nat.blt d 1114112 = zz at e ⊢
  cases zz with
  | false => exact xF e
  | true =>
   obtain rfl | h := List.mem_cons.mp h
   ·exact Nat.le_of_ble_eq_true q
   ·exact Zdd e c h
theorem Zfp {x : Str} (h : sOk x = true) : PyData.strOk x = true := by
 obtain ⟨⟨l⟩⟩ := x
 show (Array.all ⟨l⟩ (· < 0x110000)) = true
 rw [Array.all_eq_true']
 intro c hc
 exact decide_eq_true (Zdd h c (by simpa using hc))
noncomputable def ZbJ : AV → Option TK
 | .str x => (match sOk x with | true => some (.inl x) | false => none)
 | .int i => some (.inr i)
 | _ => none
noncomputable def Wv : List AV → Option (List TK)
 | [] => some []
 | a :: l => match ZbJ a with
  | some k => (match Wv l with | some ks => some (k :: ks) | none => none)
  | none => none
noncomputable def Ze8 : TK → TK → Bool
 | .inl x, .inl y => sEq x y
 | .inr i, .inr j => decide (i = j)
 | _, _ => false
theorem Zhn (a b : TK) : Ze8 a b = decide (a = b) := by
 cases a <;> cases b <;> first | (show sEq _ _ = _; simp [Zaa]; done) | (show decide (_ = _) = _; simp; done) | (show false = _; simp)
noncomputable def UJ : List TK → List TK → Bool
 | [], [] => true
 | a :: l, b :: m => UJ l m && Ze8 a b
 | _, _ => false
theorem ZaF : ∀ a b : List TK, UJ a b = decide (a = b)
 | [], [] => by show true = _; simp
 | [], _ :: _ => by show false = _; simp
 | _ :: _, [] => by show false = _; simp
 | a :: l, b :: m => by
  show (UJ l m && Ze8 a b) = _
  simp only [ZaF l m, Zhn, List.cons.injEq]
  by_cases h1 : a = b <;> by_cases h2 : l = m <;> simp [h1, h2]
noncomputable def XO : List AV → Option (List Str)
 | [] => some []
 | a :: l => match a with
  | .str x => (match XO l with | some ks => some (x :: ks) | none => none)
  | _ => none
noncomputable def Uv : List AV → Option (List Int)
 | [] => some []
 | a :: l => match a with
  | .int x => (match Uv l with | some ks => some (x :: ks) | none => none)
  | _ => none
noncomputable def Yc (x : Str) : List Str → Bool
 | [] => false
 | y :: l => match sEq x y with | true => true | false => Yc x l
noncomputable def WV (x : Int) : List Int → Bool
 | [] => false
 | y :: l => match decide (x = y) with | true => true | false => WV x l
noncomputable def JZ : AV → Bool
 | .none => true
 | _ => false
noncomputable def Yl (neg : Bool) (b : Bool) : Bool := match neg with
 | true => !b
 | false => b
noncomputable def Zfb : List (Str × Bool) := [(⟨⟨[122]⟩⟩, false), (⟨⟨[119]⟩⟩, true), (⟨⟨[104]⟩⟩, true), (⟨⟨[120]⟩⟩, true), (⟨⟨[114]⟩⟩, false), (⟨⟨[105]⟩⟩, false), (⟨⟨[117]⟩⟩, false), (⟨⟨[110]⟩⟩, false), (⟨⟨[108]⟩⟩, false), (⟨⟨[99]⟩⟩, false), (⟨⟨[107]⟩⟩, false)]
noncomputable def ZiW : List (Str × Bool) := [(⟨⟨[122]⟩⟩, false), (⟨⟨[119]⟩⟩, false), (⟨⟨[104]⟩⟩, true), (⟨⟨[120]⟩⟩, true), (⟨⟨[114]⟩⟩, false), (⟨⟨[105]⟩⟩, false), (⟨⟨[117]⟩⟩, false), (⟨⟨[110]⟩⟩, false), (⟨⟨[108]⟩⟩, false), (⟨⟨[99]⟩⟩, false), (⟨⟨[107]⟩⟩, false)]
noncomputable def ZhA : Str := ⟨⟨[119, 104, 120]⟩⟩
noncomputable def sHx : Str := ⟨⟨[104, 120]⟩⟩
noncomputable def Zal (x y : Str) : Option Bool := match sEq y ZhA with
 | true => Ze x Zfb
 | false => (match sEq y sHx with
  | true => Ze x ZiW
  | false => none)
theorem VO {α : Type} {x : Str} {a : α} : ∀ {l : List (Str × α)}, Ze x l = some a → (x, a) ∈ l
 | p :: l, h => by
  rw [U8] at h
  generalize q : sEq x p.1 = zz at h ⊢
  cases zz with
  | true =>
   have := ZH.mp q
   subst this
   (replace h := xI h; cases h)
   exact .head _
  | false => exact .tail _ (VO h)
theorem ZdT : ∀ p ∈ Zfb, (!(Builtin.Str.occurrences ZhA p.1 0 ZhA.length 1).isEmpty) = p.2 := by decide +kernel
theorem Zfc : ∀ p ∈ ZiW, (!(Builtin.Str.occurrences sHx p.1 0 sHx.length 1).isEmpty) = p.2 := by decide +kernel
theorem Zem {x y : Str} {b : Bool} (h : Zal x y = some b) : (!(Builtin.Str.occurrences y x 0 y.length 1).isEmpty) = b := by
 delta Zal at h
 generalize q : sEq y ZhA = zz at h ⊢
 cases zz with
 | true =>
  have := ZH.mp q
  subst this
  have z := ZdT (x, b) (VO h)
  dsimp only at z
  exact z
 | false =>
  generalize q2 : sEq y sHx = zz at h ⊢
  cases zz with
  | true =>
   have := ZH.mp q2
   subst this
   have z := Zfc (x, b) (VO h)
   dsimp only at z
   exact z
  | false => exact xN h
noncomputable def Zb4 (vs : List AV) : Option (Str × Int) := match vs with
 | a :: l => (match a with
  | .str x => (match l with
   | b :: l => (match b with
    | .int i => (match l with | [] => some (x, i) | _ :: _ => none)
    | _ => none)
   | [] => none)
  | _ => none)
 | [] => none
noncomputable def mEq (a b : Str × Int) : Bool := match decide (a.2 = b.2) with
 | true => sEq a.1 b.1
 | false => false
noncomputable def Zv (m : Str × Int) : List ((Str × Int) × Int) → Option Int
 | [] => none
 | p :: l => match mEq m p.1 with
  | true => some p.2
  | false => Zv m l
noncomputable def XI (σ : Led) (v : AV) : Option (List ((Str × Int) × Int)) := match v with
 | .dmk es => some es
 | .ref k => (match σ[k]? with
  | some o => (match o with
   | .dmk es => some es
   | _ => none)
  | none => none)
 | _ => none
noncomputable def YQ {α : Type} : Option α → Bool
 | some _ => true
 | none => false
noncomputable def Zdh (neg : Bool) (x : Str) (o : Option (List AV)) (K : Bool → Prop) : Prop := match o with
 | some vs => (match XO vs with | some l => K (Yl neg (Yc x l)) | none => False)
 | none => False
noncomputable def Zgc (neg : Bool) (x : Str) (b : AV) (σ : Led) (K : Bool → Prop) : Prop := match b with
 | .str y => (match Zal x y with | some c => K (Yl neg c) | none => False)
 | .tup vs => Zdh neg x (some vs) K
 | b => Zdh neg x (Yz σ b) K
noncomputable def Zge (neg : Bool) (i : Int) (b : AV) (K : Bool → Prop) : Prop := match b with
 | .tup vs => (match Uv vs with | some l => K (Yl neg (WV i l)) | none => False)
 | _ => False
noncomputable def Zgd (neg : Bool) (o : Option (Str × Int)) (es : Option (List ((Str × Int) × Int))) (K : Bool → Prop) : Prop := match o with
 | some m => (match es with
  | some es => K (Yl neg (YQ (Zv m es)))
  | none => False)
 | none => False
noncomputable def inP (neg : Bool) (a b : AV) (σ : Led) (K : Bool → Prop) : Prop := match a with
 | .str x => Zgc neg x b σ K
 | .int i => Zge neg i b K
 | .tup vs => Zgd neg (Zb4 vs) (XI σ b) K
 | _ => False
inductive D where
 | st (x : Str) | nu (i : Int) | tu (ks : List TK)
noncomputable def dOf : AV → Option D
 | .str x => (match sOk x with | true => some (.st x) | false => none)
 | .int i => some (.nu i)
 | .tup vs => (match Wv vs with | some ks => some (.tu ks) | none => none)
 | _ => none
noncomputable def Xb : List AV → Option (List D)
 | [] => some []
 | v :: l => match dOf v with
  | some d => (match Xb l with | some ds => some (d :: ds) | none => none)
  | none => none
noncomputable def dEq : D → D → Bool
 | .st x, .st y => sEq x y
 | .nu i, .nu j => decide (i = j)
 | .tu k, .tu l => UJ k l
 | _, _ => false
noncomputable def Gn : List D → List D → Bool
 | [], [] => true
 | a :: l, b :: m => (match dEq a b with | true => Gn l m | false => false)
 | _, _ => false
noncomputable def Zdq (neg : Bool) (xs ys : Option (List D)) (K : Bool → Prop) : Prop := match xs with
 | some ds => (match ys with | some es => K (Yl neg (Gn ds es)) | none => False)
 | none => False
noncomputable def Zjd (neg : Bool) (x : Str) (b : AV) (K : Bool → Prop) : Prop := match b with
 | .str y => K (Yl neg (sEq x y))
 | .int _ => K (Yl neg false)
 | _ => False
noncomputable def b2i (b : Bool) : Int := match b with | true => 1 | false => 0
noncomputable def ZmF (neg : Bool) (x : Bool) (b : AV) (K : Bool → Prop) : Prop := match b with
 | .int j => K (Yl neg (decide (b2i x = j)))
 | _ => False
noncomputable def Zjc (neg : Bool) (xs : List AV) (b : AV) (K : Bool → Prop) : Prop := match b with
 | .tup ys => Zdq neg (Xb xs) (Xb ys) K
 | _ => False
noncomputable def Zds (neg : Bool) (xs : List AV) (b : AV) (K : Bool → Prop) : Prop := match b with
 | .lst ys => Zdq neg (Xb xs) (Xb ys) K
 | _ => False
noncomputable def Zje (neg : Bool) (o : Option (List AV)) (b : AV) (K : Bool → Prop) : Prop := match o with
 | some xs => Zds neg xs b K
 | none => False
noncomputable def ZD : List ((Str × Int) × Int) → List ((Str × Int) × Int) → Bool
 | [], _ => true
 | p :: l, es => match Zv p.1 es with
  | some j => (match decide (p.2 = j) with | true => ZD l es | false => false)
  | none => false
noncomputable def Zdr (neg : Bool) (xs : List ((Str × Int) × Int)) (o : Option (List ((Str × Int) × Int))) (K : Bool → Prop) : Prop := match o with
 | some ys => K (Yl neg (Nat.beq xs.length ys.length && ZD xs ys))
 | none => False
noncomputable def ZgD (neg : Bool) (b : AV) (K : Bool → Prop) : Prop := match b with
 | .none => K (Yl neg true)
 | _ => False
noncomputable def eqP (neg : Bool) (a b : AV) (σ : Led) (K : Bool → Prop) : Prop := match a with
 | .str x => Zjd neg x b K
 | .tup xs => Zjc neg xs b K
 | .lst xs => Zds neg xs b K
 | .dmk xs => Zdr neg xs (XI σ b) K
 | .none => ZgD neg b K
 | .bool x => ZmF neg x b K
 | .ref k => Zje neg (Yz σ (.ref k)) b K
 | _ => False
inductive CK where
 | is_ | isNot | in_ | notIn | eq | ne | ord
noncomputable def ZnP : CmpOp → CK
 | .Is => .is_
 | .IsNot => .isNot
 | .In => .in_
 | .NotIn => .notIn
 | .Eq => .eq
 | .NotEq => .ne
 | _ => .ord
noncomputable def Zd9 (op : CmpOp) (a b : AV) (K : Bool → Prop) : Prop := match a with
 | .int i => (match b with | .int j => Zga op i j K | _ => False)
 | _ => False
noncomputable def isInt : AV → Bool
 | .int _ => true
 | _ => false
noncomputable def eqK (neg : Bool) (op : CmpOp) (a b : AV) (σ : Led) (K : Bool → Prop) : Prop := match isInt a with
 | true => Zd9 op a b K
 | false => eqP neg a b σ K
noncomputable def ZgU (op : CmpOp) (a b : AV) (σ : Led) (K : Bool → Prop) : Prop := match ZnP op with
 | .is_ => (match b with | .none => K (JZ a) | _ => False)
 | .isNot => (match b with | .none => K (!JZ a) | _ => False)
 | .in_ => inP false a b σ K
 | .notIn => inP true a b σ K
 | .eq => eqK false op a b σ K
 | .ne => eqK true op a b σ K
 | .ord => Zd9 op a b K
noncomputable def at? (i : Int) (vs : List AV) : Option AV := match i with
 | .ofNat k => (match Nat.ble k 1000000 with | true => vs[k]? | false => none)
 | .negSucc _ => none
noncomputable def UO (i : Int) : List (Int × AV) → Option AV
 | [] => none
 | p :: l => match decide (i = p.1) with
  | true => some p.2
  | false => UO i l
noncomputable def ZJ (x : Str) : List (Str × Str) → Option Str
 | [] => none
 | p :: l => match sEq x p.1 with
  | true => some p.2
  | false => ZJ x l
noncomputable def Z3 {α : Type} (o : Option α) (K : α → Prop) : Prop := match o with
 | some a => K a
 | none => False
noncomputable def getInt (i : Int) (a : AV) (σ : Led) (K : KE) : Prop := match a with
 | .tup vs => Z3 (at? i vs) fun v => K v σ
 | .lst vs => Z3 (at? i vs) fun v => K v σ
 | .ref k => (match σ[k]? with
  | some o => (match o with
   | .lst vs => Z3 (at? i vs) fun v => K v σ
   | .ali u => (match u with | .lst vs => Z3 (at? i vs) fun v => K v σ | _ => False)
   | .div es => Z3 (UO i es) fun v => K v σ
   | _ => False)
  | none => False)
 | _ => False
noncomputable def Zcj (x : Str) (a : AV) (σ : Led) (K : KE) : Prop := match a with
 | .dss es => Z3 (ZJ x es) fun v => K (.str v) σ
 | .ref k => (match σ[k]? with
  | some o => (match o with
   | .dsv es => Z3 (Ze x es) fun v => K v σ
   | _ => False)
  | none => False)
 | _ => False
noncomputable def Zgi (a b : AV) (σ : Led) (K : KE) : Prop := match b with
 | .int i => getInt i a σ K
 | .str x => Zcj x a σ K
 | _ => False
@[irreducible] noncomputable def Ziz (vs : List AV) (i : Int) (σ : Led) (K : KE) : Prop := match vs with
   | [] => False
   | v :: l => ((chk (i = -1) (chk (ZU (l.length + 1)) (K (.tup (v :: l).dropLast) σ))))
noncomputable def ZkK (a b : AV) (σ : Led) (K : KE) : Prop := match b with
 | .int i => (match a with
  | .str x => ((chk (i = 1) (chk (ZU (Zf x)) (K (.str (Txt.slice x none (some 1))) σ))))
  | .tup vs => Ziz vs i σ K
  | _ => False)
 | _ => False
noncomputable def ZlM (c : Const) (σ : Led) (K : KE) : Prop := match c with
 | .none => K .none σ
 | .bool b => K (.bool b) σ
 | .int i => K (.int i) σ
 | .str s => K (.str s) σ
 | _ => False
noncomputable def Ym : AV → Bool
 | .ref _ => false
 | _ => true
noncomputable def Zf5 (t : TY) (v : AV) : Option Bool := match t with
 | .bool => (match v with | .bool _ => some true | .int _ => some false | .str _ => some false | .none => some false | _ => none)
 | .int => (match v with | .bool _ => some true | .int _ => some true | .str _ => some false | .none => some false | _ => none)
 | _ => none
noncomputable def ZfV (σ : Led) (v : AV) : Option Nat := match v with
 | .str x => some (Zf x)
 | .tup vs => some vs.length
 | v => (match Yz σ v with | some vs => some vs.length | none => none)
noncomputable def Uo {α : Type} : List α → Option α
 | [] => none
 | a :: l => match l with | [] => some a | _ :: _ => none
noncomputable def ZbF {α : Type} : List α → Option (α × α)
 | [] => none
 | a :: l => match l with
  | [] => none
  | b :: l => match l with | [] => some (a, b) | _ :: _ => none
noncomputable def biP (calm : Bool) (b : BI) (args : List AV) (σ : Led) (K : KE) : Prop := match b with
 | .len => Z3 (Uo args) fun v => Z3 (ZfV σ v) fun n => ((chk (ZU n) (K (.int n) σ)))
 | .isinstance => Z3 (ZbF args) fun p => match p.2 with
  | .ty t => Z3 (Zf5 t p.1) fun b => K (.bool b) σ
  | _ => False
 | .abs => Z3 (Uo args) fun v => match v with
  | .int i => K (.int (match decide (i < 0) with | true => -i | false => i)) σ
  | _ => False
 | .min => Z3 (ZbF args) fun p => match p.1 with
  | .int i => (match p.2 with | .int j => ((chk (calm = true) (K (.int (Gm i j)) σ))) | _ => False)
  | _ => False
@[irreducible] noncomputable def Zs (i : Int) : Str := Str.ofString (toString i)
noncomputable def tyP (t : TY) (args : List AV) (σ : Led) (K : KE) : Prop := match t with
 | .str => Z3 (Uo args) fun v => match v with
  | .int i => ZmR i (K (.str (Zs i)) σ)
  | .str x => K (.str x) σ
  | _ => False
 | .tuple => Z3 (Uo args) fun v => match v with
  | .tup vs => K (.tup vs) σ
  | _ => False
 | _ => False
noncomputable def WN (σ : Led) (v : AV) : Option (AV × Led) := match v with
 | .ref k => (match σ[k]? with
  | some o => (match o with
   | .lst vs => some (.lst vs, σ.set k (.ali (.lst vs)))
   | .ali u => some (u, σ)
   | _ => none)
  | none => none)
 | v => some (v, σ)
noncomputable def Wp : Led → List AV → Option (List AV × Led)
 | σ, [] => some ([], σ)
 | σ, v :: vs => match WN σ v with
  | some p => (match Wp p.2 vs with
   | some q => some (p.1 :: q.1, q.2)
   | none => none)
  | none => none
noncomputable def fnP (pg : Pg) (r : Ev) (n : Nat) (calm : Bool) (a : Nat) (args : List AV) (σ : Led) (K : KE) (X : KC) : Prop :=
 match Nat.beq a 85 with
 | true => Z3 (ZbF args) fun p => match p.1 with
  | .str x => (match p.2 with | .tup vs => K (.row x vs) σ | _ => False)
  | _ => False
 | false => match pg.ctr a with
  | some c => Z3 (Wp σ args) fun q => chk (Nat.ble c.1 n = true) (chk (calm = true) (c.2 q.1 (fun v => K v q.2) (fun x => X x q.2)))
  | none => r.C calm a args σ K X
noncomputable def Zk8 (pg : Pg) (r : Ev) (n : Nat) (calm : Bool) (f : AV) (args : List AV) (σ : Led) (K : KE) (X : KC) : Prop := match f with
 | .bi b => biP calm b args σ K
 | .ty t => tyP t args σ K
 | .old a => fnP pg r n calm a args σ K X
 | _ => False
inductive MK where
 | told | get | join | strip
noncomputable def VW (o : AV) (m : Str) : Option MK := match o with
 | .row _ _ => (match sEq m (Str.ofString "told") with | true => some .told | false => none)
 | .dss _ => (match sEq m (Str.ofString "get") with | true => some .get | false => none)
 | .str _ => (match sEq m (Str.ofString "join") with
  | true => some .join
  | false => (match sEq m (Str.ofString "strip") with | true => some .strip | false => none))
 | _ => none
noncomputable def ZlI (o : AV) (args : List AV) (σ : Led) (K : KE) : Prop := match o with
 | .row x vs => (match args with | [] => K (.tup [.str x, .tup vs]) σ | _ :: _ => False)
 | _ => False
noncomputable def ZhN {α : Type} (o : Option α) (f : α → Prop) (g : Prop) : Prop := match o with
 | some y => f y
 | none => g
noncomputable def ZlJ (o : AV) (args : List AV) (σ : Led) (K : KE) : Prop := match o with
 | .dss es => Z3 (Uo args) fun v => match v with
  | .str x => ZhN (ZJ x es) (fun y => K (.str y) σ) (K .none σ)
  | _ => False
 | _ => False
noncomputable def Zi0 (o : AV) (args : List AV) (σ : Led) (K : KE) : Prop := match o with
 | .str x => Z3 (Uo args) fun v => Z3 (Yz σ v) fun vs => Z3 (XO vs) fun l => ZmT x l (K (.str (Txt.join x l)) σ)
 | _ => False
noncomputable def ZfM (o : AV) (args : List AV) (σ : Led) (K : KE) : Prop := match o with
 | .str x => (match args with | [] => ZkZ (Zf x) (K (.str (Txt.strip x)) σ) | _ :: _ => False)
 | _ => False
noncomputable def ZfK (k : MK) (o : AV) (args : List AV) (σ : Led) (K : KE) : Prop := match k with
 | .told => ZlI o args σ K
 | .get => ZlJ o args σ K
 | .join => Zi0 o args σ K
 | .strip => ZfM o args σ K
noncomputable def ZaC : Nat := 82
noncomputable def WU (pg : Pg) (f : AV) : Bool := match f with
 | .bi _ => true
 | .ty _ => true
 | .old a => (match Nat.beq a 85 with | true => true | false => (match YQ (pg.fn a) with | true => true | false => YQ (pg.ctr a)))
 | _ => false
noncomputable def ZdF (o : AV) (m : Str) (σ : Led) (K : KE) : Prop := match o with
 | .row x vs => (match sEq m ZG with
  | true => K (.str x) σ
  | false => (match sEq m Zu with
   | true => K (.tup vs) σ
   | false => False))
 | .exc a => (match sEq m (Str.ofString "at") with
  | true => K a σ
  | false => False)
 | _ => False
noncomputable def ZmE (r : Ev) (fi : FI) (loc : Loc) (es : List Expr) (σ : Led) (K : KL) (X : KC) : Prop := match es with
 | [] => K [] σ
 | _ :: _ => False
noncomputable def ZnO (r : Ev) (fi : FI) (loc : Loc) (es : List Expr) (σ : Led) (K : KL) (X : KC) : Prop := match es with
 | [] => K [] σ
 | e :: es => r.E fi loc σ e (fun v σ₁ => ZmE r fi loc es σ₁ (fun vs σ₂ => K (v :: vs) σ₂) X) X
noncomputable def ZnN (r : Ev) (fi : FI) (loc : Loc) (es : List Expr) (σ : Led) (K : KL) (X : KC) : Prop := match es with
 | [] => K [] σ
 | e :: es => r.E fi loc σ e (fun v σ₁ => ZnO r fi loc es σ₁ (fun vs σ₂ => K (v :: vs) σ₂) X) X
noncomputable def ZnM (r : Ev) (fi : FI) (loc : Loc) (es : List Expr) (σ : Led) (K : KL) (X : KC) : Prop := match es with
 | [] => K [] σ
 | e :: es => r.E fi loc σ e (fun v σ₁ => ZnN r fi loc es σ₁ (fun vs σ₂ => K (v :: vs) σ₂) X) X
noncomputable def ZnL (r : Ev) (fi : FI) (loc : Loc) (es : List Expr) (σ : Led) (K : KL) (X : KC) : Prop := match es with
 | [] => K [] σ
 | e :: es => r.E fi loc σ e (fun v σ₁ => ZnM r fi loc es σ₁ (fun vs σ₂ => K (v :: vs) σ₂) X) X
noncomputable def ZnK (r : Ev) (fi : FI) (loc : Loc) (es : List Expr) (σ : Led) (K : KL) (X : KC) : Prop := match es with
 | [] => K [] σ
 | e :: es => r.E fi loc σ e (fun v σ₁ => ZnL r fi loc es σ₁ (fun vs σ₂ => K (v :: vs) σ₂) X) X
noncomputable def ZnJ (r : Ev) (fi : FI) (loc : Loc) (es : List Expr) (σ : Led) (K : KL) (X : KC) : Prop := match es with
 | [] => K [] σ
 | e :: es => r.E fi loc σ e (fun v σ₁ => ZnK r fi loc es σ₁ (fun vs σ₂ => K (v :: vs) σ₂) X) X
noncomputable def ZnI (r : Ev) (fi : FI) (loc : Loc) (es : List Expr) (σ : Led) (K : KL) (X : KC) : Prop := match es with
 | [] => K [] σ
 | e :: es => r.E fi loc σ e (fun v σ₁ => ZnJ r fi loc es σ₁ (fun vs σ₂ => K (v :: vs) σ₂) X) X
noncomputable def ZnH (r : Ev) (fi : FI) (loc : Loc) (es : List Expr) (σ : Led) (K : KL) (X : KC) : Prop := match es with
 | [] => K [] σ
 | e :: es => r.E fi loc σ e (fun v σ₁ => ZnI r fi loc es σ₁ (fun vs σ₂ => K (v :: vs) σ₂) X) X
noncomputable def ZnG (r : Ev) (fi : FI) (loc : Loc) (es : List Expr) (σ : Led) (K : KL) (X : KC) : Prop := match es with
 | [] => K [] σ
 | e :: es => r.E fi loc σ e (fun v σ₁ => ZnH r fi loc es σ₁ (fun vs σ₂ => K (v :: vs) σ₂) X) X
noncomputable def ZmD (r : Ev) (fi : FI) (loc : Loc) (es : List Expr) (σ : Led) (K : KL) (X : KC) : Prop := match es with
 | [] => K [] σ
 | e :: es => r.E fi loc σ e (fun v σ₁ => ZnG r fi loc es σ₁ (fun vs σ₂ => K (v :: vs) σ₂) X) X
noncomputable def ZmC (r : Ev) (fi : FI) (loc : Loc) (es : List Expr) (σ : Led) (K : KL) (X : KC) : Prop := match es with
 | [] => K [] σ
 | e :: es => r.E fi loc σ e (fun v σ₁ => ZmD r fi loc es σ₁ (fun vs σ₂ => K (v :: vs) σ₂) X) X
noncomputable def Zjb (r : Ev) (fi : FI) (loc : Loc) (es : List Expr) (σ : Led) (K : KL) (X : KC) : Prop := match es with
 | [] => K [] σ
 | e :: es => r.E fi loc σ e (fun v σ₁ => ZmC r fi loc es σ₁ (fun vs σ₂ => K (v :: vs) σ₂) X) X
noncomputable def Ziu (r : Ev) (fi : FI) (loc : Loc) : Nat → List Expr → Led → KL → KC → Prop
 | 0, es, σ, K, X => ZmE r fi loc es σ K X
 | n + 1, es, σ, K, X => match es with
  | [] => K [] σ
  | e :: es => r.E fi loc σ e (fun v σ₁ => Ziu r fi loc n es σ₁ (fun vs σ₂ => K (v :: vs) σ₂) X) X
noncomputable def XS (r : Ev) (fi : FI) (loc : Loc) (es : List Expr) (σ : Led) (K : KL) (X : KC) : Prop := Zjb r fi loc es σ K X
theorem ZgB {r : Ev} {fi : FI} {loc : Loc} {es : List Expr} {σ : Led} {K : KL} {X : KC} : Zjb r fi loc es σ K X = Ziu r fi loc 12 es σ K X := rfl
theorem ZeA {r : Ev} {fi : FI} {loc : Loc} {es : List Expr} {σ : Led} {K : KL} {X : KC} : XS r fi loc es σ K X = Ziu r fi loc 12 es σ K X := ZgB
noncomputable def noStar : List Expr → Bool
 | [] => true
 | e :: es => match e with
  | .Starred _ _ => false
  | _ => noStar es
noncomputable def UH : List AV → Bool
 | [] => true
 | v :: l => match Ym v with | true => UH l | false => false
noncomputable def Zad : List CmpOp → List Expr → Bool := fun ops es => !lastMarks ops es
noncomputable def Ge (r : Ev) (fi : FI) (loc : Loc) (l : AV) : List CmpOp → List Expr → Led → KB → KC → Prop
 | [], _, _, _, _ => False
 | op :: ops, es, σ, K, X => match es with
  | [] => False
  | e :: es => match ops with
   | [] => (match es with
    | [] => r.E fi loc σ e (fun b σ₁ => ZgU op l b σ₁ (fun c => K c σ₁)) X
    | _ :: _ => False)
   | _ :: _ => (match es with
    | [] => False
    | _ :: _ => r.E fi loc σ e (fun b σ₁ => ZgU op l b σ₁ (fun c => Wx c (Ge r fi loc b ops es σ₁ K X) (K false σ₁))) X)
noncomputable def ZiM (r : Ev) (fi : FI) (loc : Loc) (op : BoolOp) : List Expr → Led → KB → KC → Prop
 | [], σ, K, _ => (match op with | .And => K true σ | .Or => K false σ)
 | e :: es, σ, K, X => r.T fi loc σ e (fun c σ₁ => match op with
  | .And => Wx c (ZiM r fi loc op es σ₁ K X) (K false σ₁)
  | .Or => Wx c (K true σ₁) (ZiM r fi loc op es σ₁ K X)) X
noncomputable def isB (v : AV) (K : Bool → Prop) : Prop := match v with
 | .bool b => K b
 | _ => False
noncomputable def ZdE (r : Ev) (fi : FI) (loc : Loc) (op : BoolOp) : List Expr → Led → KE → KC → Prop
 | [], _, _, _ => False
 | e :: es, σ, K, X => match es with
  | [] => r.E fi loc σ e K X
  | _ :: _ => r.E fi loc σ e (fun v σ₁ => isB v fun c => match op with
   | .And => Wx c (ZdE r fi loc op es σ₁ K X) (K v σ₁)
   | .Or => Wx c (K v σ₁) (ZdE r fi loc op es σ₁ K X)) X
noncomputable def UB (r : Ev) (fi : FI) (loc : Loc) : List (Option Expr) → List Expr → Led → (List (Str × AV) → Led → Prop) → KC → Prop
 | [], vs, σ, K, _ => (match vs with | [] => K [] σ | _ :: _ => False)
 | k :: ks, vs, σ, K, X => match k with
  | some e => (match e with
   | .Constant c _ _ => (match c with
    | .str x => (match vs with
     | v :: vs => r.E fi loc σ v (fun u σ₁ => (chk (Ym u = true) (UB r fi loc ks vs σ₁ (fun es σ₂ => K ((x, u) :: es) σ₂) X))) X
     | [] => False)
    | _ => False)
   | _ => False)
  | none => False
noncomputable def Gb (r : Ev) (fi : FI) (loc : Loc) : List (Option Expr) → List Expr → Led → (List (Int × AV) → Led → Prop) → KC → Prop
 | [], vs, σ, K, _ => (match vs with | [] => K [] σ | _ :: _ => False)
 | k :: ks, vs, σ, K, X => match k with
  | some e => (match e with
   | .Constant c _ _ => (match c with
    | .int x => (match vs with
     | v :: vs => r.E fi loc σ v (fun u σ₁ => (chk (Ym u = true) (Gb r fi loc ks vs σ₁ (fun es σ₂ => K ((x, u) :: es) σ₂) X))) X
     | [] => False)
    | _ => False)
   | _ => False)
  | none => False
noncomputable def YY (ks : List (Option Expr)) (vs : List Expr) : Bool := match ks with
 | [] => false
 | _ :: _ => (match Nat.ble ks.length 15 with | true => Nat.beq ks.length vs.length && ks.all (·.isSome) | false => false)
noncomputable def Gi : List (Str × AV) → Bool
 | [] => true
 | p :: l => match (Ze p.1 l) with | none => Gi l | some _ => false
noncomputable def Zas : List (Int × AV) → Bool
 | [] => true
 | p :: l => match (UO p.1 l) with | none => Zas l | some _ => false
noncomputable def V4 : List (Option Expr) → Bool
 | some (.Constant (.int _) _ _) :: _ => true
 | _ => false
noncomputable def W6 (o : Expr) : Option (List (Option Expr) × List Expr) := match o with
 | .Dict ks vs _ => (match V4 ks with | true => none | false => some (ks, vs))
 | _ => none
noncomputable def G6 (r : Ev) (fi : FI) (loc : Loc) (σ : Led) (ks : List (Option Expr)) (vs : List Expr) (i : Expr) (K : KE) (X : KC) : Prop :=
 chk (YY ks vs = true) (UB r fi loc ks vs σ (fun es σ₁ => chk (Gi es = true) (r.E fi loc σ₁ i (fun b σ₂ => match b with
  | .str x => Z3 (Ze x es) fun v => K v σ₂
  | _ => False) X)) X)
noncomputable def VP : Expr → Bool
 | .Call _ args _ _ => (match args with | [] => false | _ :: _ => true)
 | _ => true
noncomputable def Wm : Expr → Bool
 | .ListComp _ _ _ _ => true
 | .SetComp _ _ _ _ => true
 | .DictComp _ _ _ _ _ => true
 | _ => false
noncomputable def XD (fi : FI) (x : Str) (v : AV) (loc : Loc) (K : Loc → Prop) : Prop := match Ze x fi.names with
 | some k => (match k with | .local => ZaS x v loc K | _ => False)
 | none => False
noncomputable def GB (fi : FI) : List Expr → List AV → Loc → (Loc → Prop) → Prop
 | [], vs, loc, K => (match vs with | [] => K loc | _ :: _ => False)
 | t :: ts, vs, loc, K => match t with
  | .Name x _ => (match vs with
   | v :: vs => XD fi x v loc fun loc₁ => GB fi ts vs loc₁ K
   | [] => False)
  | _ => False
noncomputable def UE (x : Str) : Expr → Bool
 | .Name y _ => !sEq x y
 | _ => true
noncomputable def Xy : List Expr → Bool
 | [] => true
 | t :: ts => match t with
  | .Name x _ => (match ts.all (UE x) with | true => Xy ts | false => false)
  | _ => false
noncomputable def Jr (a b v : AV) (σ : Led) (K : Led → Prop) : Prop := match a with
 | .ref k => (match σ[k]? with
  | some ob => (match ob with
   | .dsv es => (match b with
    | .str x => ((chk (Ym v = true) (chk (ZU es.length) (ZaS x v es fun es' => Zfm σ k (.dsv es') K))))
    | _ => False)
   | .dmk es => (match b with
    | .tup vs => Z3 (Zb4 vs) fun m => (match v with
     | .int j => ((chk (YQ (Zv m es) = false) (chk (ZU es.length) (Zg2 es [(m, j)] fun es' => Zfm σ k (.dmk es') K))))
     | _ => False)
    | _ => False)
   | _ => False)
  | none => False)
 | _ => False
noncomputable def G5 (r : Ev) (fi : FI) (t : Expr) (v : AV) (loc : Loc) (σ : Led) (K : Loc → Led → Prop) (X : KC) : Prop := match t with
 | .Name x _ => XD fi x v loc fun loc₁ => K loc₁ σ
 | .Tuple ts _ _ => ((chk (fi.calm = true) (chk (Xy ts = true) ((match v with
  | .tup vs => GB fi ts vs loc fun loc₁ => K loc₁ σ
  | _ => False)))))
 | .Subscript o i _ => (match i with
  | .Slice _ _ _ _ => False
  | i => r.E fi loc σ o (fun a σ₁ => r.E fi loc σ₁ i (fun b σ₂ => Jr a b v σ₂ fun σ₃ => K loc σ₃) X) X)
 | _ => False
noncomputable def Xx : Nat → Int → List AV
 | 0, _ => []
 | n + 1, i => .int i :: Xx n (i + 1)
noncomputable def UY : List Nat → List AV → List AV
 | [], _ => []
 | c :: cs, vs => match vs with
  | [] => []
  | v :: vs => .tup [.str ⟨⟨[c]⟩⟩, v] :: UY cs vs
noncomputable def V8 : List Nat → Bool
 | [] => true
 | c :: l => match Nat.blt c 128 with | true => V8 l | false => false
noncomputable def GL : Int → List AV → List AV
 | _, [] => []
 | i, v :: vs => .tup [.int i, v] :: GL (i + 1) vs
noncomputable def ZnZ (t : TY) (v : AV) : Bool := match t, v with
 | .range, .ty .range => true
 | .zip, .ty .zip => true
 | .enumerate, .ty .enumerate => true
 | _, _ => false
inductive Src where
 | range | zip | enum | plain
noncomputable def Js (fi : FI) (it : Expr) : Src := match it with
 | .Call f _ _ _ => (match f with
  | .Name x _ => (match sEq x (Str.ofString "range") with
   | true => .range
   | false => (match sEq x (Str.ofString "zip") with
    | true => .zip
    | false => (match sEq x (Str.ofString "enumerate") with
     | true => .enum
     | false => .plain)))
  | _ => .plain)
 | _ => .plain
noncomputable def YH : Expr → List Expr
 | .Call _ args _ _ => args
 | _ => []
noncomputable def ZnQ : Expr → List Keyword
 | .Call _ _ kw _ => kw
 | _ => []
noncomputable def VY (pg : Pg) (fi : FI) (x : Str) (t : TY) : Prop := Ze x fi.names = some .globalImplicit ∧ Ze x pg.glob = some (.ty t)
noncomputable def tyB : TY → TY → Bool
 | .range, .range => true
 | .zip, .zip => true
 | .enumerate, .enumerate => true
 | _, _ => false
noncomputable def Wl (pg : Pg) (fi : FI) (x : Str) (t : TY) : Bool := match Ze x fi.names with
 | some k => (match k with
  | .globalImplicit => (match Ze x pg.glob with
   | some v => (match v with | .ty u => tyB t u | _ => false)
   | none => false)
  | _ => false)
 | none => false
theorem J0 {pg : Pg} {fi : FI} {x : Str} {t : TY} (h : Wl pg fi x t = true) : VY pg fi x t := by
 delta Wl at h
 generalize q : Ze x fi.names = zz at h ⊢
 cases zz with
 | none => exact xF h
 | some k =>
  cases k with
  | globalImplicit =>
   generalize q2 : Ze x pg.glob = zz at h ⊢
   cases zz with
   | none => exact xF h
   | some v =>
    cases v with
    | ty u =>
     have : t = u := by cases t <;> cases u <;> first | rfl | exact xF h
     subst this
     exact ⟨q, q2⟩
    | _ => exact xF h
  | _ => exact xF h
noncomputable def Zec : Expr → Bool
 | .Call _ _ kw _ => (match kw with | [] => true | _ :: _ => false)
 | _ => true
noncomputable def Zb9 : Expr → Bool
 | .Tuple _ _ _ => true
 | _ => false
noncomputable def ZfC : Expr → Bool
 | .Set _ _ _ => false
 | _ => true
noncomputable def ZbU (v : AV) (σ : Led) (K : List AV → Led → Prop) : Prop := match v with
 | .int n => ZmQ n (K (Xx n.toNat 0) σ)
 | _ => False
noncomputable def Zjj (u v : AV) (σ : Led) (K : List AV → Led → Prop) : Prop := match u with
 | .str s => (match v with
  | .tup vs => (match s with | ⟨⟨l⟩⟩ => ((chk (V8 l = true) (chk (Nat.beq l.length vs.length = true) (K (UY l vs) σ)))))
  | _ => False)
 | _ => False
noncomputable def ZfO (p : Option (AV × Led)) (K : List AV → Led → Prop) : Prop := match p with
 | some p => (match p.1 with
  | .lst vs => K vs p.2
  | _ => False)
 | none => False
noncomputable def Zlv (v : AV) (σ : Led) (K : List AV → Led → Prop) : Prop := match v with
 | .tup vs => K vs σ
 | v => ZfO (WN σ v) K
noncomputable def Zjf (v : AV) (σ : Led) (K : List AV → Led → Prop) : Prop := ZfO (WN σ v) fun vs σ' => K (GL 0 vs) σ'
noncomputable def GJ (pg : Pg) (r : Ev) (fi : FI) (loc : Loc) (σ : Led) (t it : Expr) (K : List AV → Led → Prop) (X : KC) : Prop := match Js fi it with
 | .range => ((chk (Wl pg fi (Str.ofString "range") .range = true) (chk (Zec it = true) (chk (noStar (YH it) = true) (Z3 (Uo (YH it)) fun e => r.E fi loc σ e (fun v σ₁ => ZbU v σ₁ K) X)))))
 | .zip => ((chk (Zb9 t = true) (chk (Wl pg fi (Str.ofString "zip") .zip = true) (chk (Zec it = true) (chk (noStar (YH it) = true) (Z3 (ZbF (YH it)) fun p => r.E fi loc σ p.1 (fun u σ₁ => r.E fi loc σ₁ p.2 (fun v σ₂ => Zjj u v σ₂ K) X) X))))))
 | .enum => ((chk (Zb9 t = true) (chk (Wl pg fi (Str.ofString "enumerate") .enumerate = true) (chk (Zec it = true) (chk (noStar (YH it) = true) (Z3 (Uo (YH it)) fun e => r.E fi loc σ e (fun v σ₁ => Zjf v σ₁ K) X))))))
 | .plain => ((chk (ZfC it = true) (r.E fi loc σ it (fun v σ₁ => Zlv v σ₁ K) X)))
noncomputable def Zgl (r : Ev) (fi : FI) (t : Expr) (body : List Stmt) : List AV → Loc → Led → KS → KX → Prop
 | [], loc, σ, K, _ => K .next loc σ
 | v :: vs, loc, σ, K, X => G5 r fi t v loc σ (fun loc₁ σ₁ => r.Ss fi loc₁ σ₁ body (fun f loc₂ σ₂ => match f with
  | .next => Zgl r fi t body vs loc₂ σ₂ K X
  | .ret u => K (.ret u) loc₂ σ₂) X) (fun x σ₁ => X x loc σ₁)
noncomputable def ZiK (x : Str) (args : List Expr) (kw : List Keyword) : Option (Str × Expr) := match args with
 | [] => none
 | e :: l => (match l with
  | [] => (match kw with | [] => some (x, e) | _ :: _ => none)
  | _ :: _ => none)
noncomputable def V9 (v : Expr) : Option (Str × Expr) := match v with
 | .Call f args kw pos => (match f with
  | .Attribute o m apos => (match sEq m (Str.ofString "append") with
   | true => (match Nat.beq apos.endLine pos.line with
    | true => (match o with
     | .Name x _ => ZiK x args kw
     | _ => none)
    | false => none)
   | false => none)
  | _ => none)
 | _ => none
noncomputable def ZfQ (fi : FI) (loc : Loc) (σ : Led) (x : Str) : Option Nat := match sEq x (Str.ofString "__debug__") with
 | true => none
 | false => match Ze x fi.names with
  | some k => (match k with
   | .local => (match Ze x loc with
    | some v => (match v with
     | .ref k => (match σ[k]? with
      | some o => (match o with | .lst _ => some k | _ => none)
      | none => none)
     | _ => none)
    | none => none)
   | _ => none)
  | none => none
noncomputable def G3 (σ : Led) (k : Nat) (v : AV) (K : Led → Prop) : Prop := match σ[k]? with
 | some o => (match o with
  | .lst vs => ((chk (Ym v = true) (chk (ZU (vs.length + 1)) (Zg2 vs [v] fun vs' => Zfm σ k (.lst vs') K))))
  | _ => False)
 | none => False
noncomputable def ZjJ (o : Option NameKind) (k : NameKind) : NameKind := match k with
 | .free => (match o with
  | some j => (match j with | .cell => .cell | _ => .free)
  | none => .free)
 | k => k
noncomputable def Zfx (names : List (Str × NameKind)) : List (Str × NameKind) → List (Str × NameKind)
 | [] => []
 | p :: l => (p.1, ZjJ (Ze p.1 names) p.2) :: Zfx names l
noncomputable def Zcb : NameKind → Bool
 | .free => true
 | _ => false
noncomputable def Wn : NameKind → Bool
 | .cell => true
 | _ => false
noncomputable def Ys : NameKind → Bool
 | .local => true
 | _ => false
noncomputable def WT (cells : List (Str × Nat)) : List (Str × NameKind) → List (Str × Nat) → Option (List (Str × Nat))
 | [], cs => some cs
 | p :: l, cs => match Zcb p.2 with
  | true => (match Ze p.1 cells with | some c => WT cells l ((p.1, c) :: cs) | none => none)
  | false => WT cells l cs
noncomputable def YC (all : List (Str × NameKind)) : List (Str × NameKind) → Bool
 | [] => true
 | p :: l => match Wn p.2 with
  | true => false
  | false => (match Ys p.2 with
   | true => (match Ze p.1 all with
    | some k => (match Ys k with | true => YC all l | false => false)
    | none => false)
   | false => YC all l)
noncomputable def Zf6 : ScopeKind → Bool
 | .function => true
 | _ => false
noncomputable def Y2 (loc : Loc) : List (Str × Nat) → Loc
 | [] => []
 | p :: l => match Ze p.1 loc with
  | some v => (match Ww v with
   | true => (p.1, v) :: Y2 loc l
   | false => Y2 loc l)
  | none => Y2 loc l
noncomputable def Uh (r : Ev) (fc : FI) (t e : Expr) (k : Nat) : List AV → Loc → Led → (Led → Prop) → Prop
 | [], _, σ, K => K σ
 | v :: vs, loc, σ, K => G5 r fc t v loc σ (fun loc₁ σ₁ => r.E fc loc₁ σ₁ e (fun u σ₂ => G3 σ₂ k u fun σ₃ => Uh r fc t e k vs loc₁ σ₃ K) (fun _ _ => False)) (fun _ _ => False)
noncomputable def Gc (fi : FI) (names : List (Str × NameKind)) (cs : List (Str × Nat)) : FI := { names := Zfx fi.names names, calm := fi.calm, comp := true, cells := cs }
noncomputable def isZ (i : Int) : Bool := match i with
 | .ofNat n => Nat.beq n 0
 | _ => false
noncomputable def Vj (pg : Pg) (r : Ev) (fi : FI) (loc : Loc) (σ : Led) (e : Expr) (gens : List Comprehension) (scope : Scope) (K : KE) (X : KC) : Prop := match gens with
 | [] => False
 | g :: gs => (match gs with
  | _ :: _ => False
  | [] => (match g with
   | ⟨t, it, ifs, a⟩ => (match ifs with
    | _ :: _ => False
    | [] => ((chk (isZ a = true) (chk (fi.calm = true) (chk (fi.comp = false) (chk (Zf6 scope.kind = true) (chk (YC scope.names scope.names = true) (Z3 (WT fi.cells scope.names []) fun cs =>
      GJ pg r fi loc σ t it (fun vs σ₁ => Uh r (Gc fi scope.names cs) t e σ₁.length vs (Y2 loc fi.cells) (σ₁ ++ [.lst []]) fun σ₂ => K (.ref σ₁.length) σ₂) X)))))))))
 )
noncomputable def Zfi (pg : Pg) (r : Ev) (n : Nat) (fi : FI) (loc : Loc) (σ : Led) (e : Expr) (K : KE) (X : KC) : Prop := match e with
 | .Constant c _ _ => ZlM c σ K
 | .Name x _ => UL pg fi loc σ x K
 | .BinOp l op rr _ => r.E fi loc σ l (fun a σ₁ => r.E fi loc σ₁ rr (fun b σ₂ => Zk3 op a b σ₂ K) X) X
 | .UnaryOp op x _ => (match op with
  | .Not => r.E fi loc σ x (fun v σ₁ => isB v fun b => K (.bool (!b)) σ₁) X
  | .USub => r.E fi loc σ x (fun v σ₁ => match v with | .int i => K (.int (-i)) σ₁ | _ => False) X
  | _ => False)
 | .BoolOp op es _ => ZdE r fi loc op es σ K X
 | .Compare l ops es _ => ((chk (Zad ops es = true) (r.E fi loc σ l (fun a σ₁ => Ge r fi loc a ops es σ₁ (fun c σ₂ => K (.bool c) σ₂) X) X)))
 | .IfExp t a b _ => r.T fi loc σ t (fun c σ₁ => Wx c (r.E fi loc σ₁ a K X) (r.E fi loc σ₁ b K X)) X
 | .Call f args kw pos => (match kw with
  | [] => ((chk (noStar args = true) ((match f with
   | .Attribute o m apos => ((chk (VP o = true) (chk (Nat.beq apos.endLine pos.line = true) (chk (Nat.ble args.length 9 = true) (r.E fi loc σ o (fun v σ₁ => Z3 (VW v m) fun k => XS r fi loc args σ₁ (fun vs σ₂ => ZfK k v vs σ₂ K) X) X)))))
   | f => r.E fi loc σ f (fun g σ₁ => (chk (WU pg g = true) (XS r fi loc args σ₁ (fun vs σ₂ => Zk8 pg r n fi.calm g vs σ₂ K X) X))) X))))
  | _ :: _ => False)
 | .Attribute o m _ => ((chk (VP o = true) (r.E fi loc σ o (fun v σ₁ => ZdF v m σ₁ K) X)))
 | .Subscript o i _ => (match i with
  | .Slice lo up st _ => (match lo with
   | some _ => False
   | none => (match st with
    | some _ => False
    | none => (match up with
     | none => False
     | some u => r.E fi loc σ o (fun a σ₁ => r.E fi loc σ₁ u (fun b σ₂ => ZkK a b σ₂ K) X) X)))
  | i => (match W6 o with
   | some p => G6 r fi loc σ p.1 p.2 i K X
   | none => r.E fi loc σ o (fun a σ₁ => r.E fi loc σ₁ i (fun b σ₂ => Zgi a b σ₂ K) X) X))
 | .ListComp e gens scope _ => Vj pg r fi loc σ e gens scope K X
 | .List es _ => ((chk (noStar es = true) (XS r fi loc es σ (fun vs σ₁ => (chk (UH vs = true) (chk (ZU vs.length) (K (.lst vs) σ₁)))) X)))
 | .Tuple es _ _ => ((chk (noStar es = true) (XS r fi loc es σ (fun vs σ₁ => (chk (UH vs = true) (chk (ZU vs.length) (K (.tup vs) σ₁)))) X)))
 | .Dict ks vs _ => (match V4 ks with
  | true => ((chk (YY ks vs = true) (Gb r fi loc ks vs σ (fun es σ₁ => (chk (Zas es = true) (K (.ref σ₁.length) (σ₁ ++ [.div es])))) X)))
  | false => ((chk (YY ks vs = true) (UB r fi loc ks vs σ (fun es σ₁ => (chk (Gi es = true) (K (.ref σ₁.length) (σ₁ ++ [.dsv es])))) X))))
 | _ => False
noncomputable def ZiX (r : Ev) (fi : FI) (loc : Loc) (σ : Led) (e : Expr) (K : KB) (X : KC) : Prop := match e with
 | .UnaryOp op x _ => (match op with
  | .Not => r.T fi loc σ x (fun b σ₁ => K (!b) σ₁) X
  | _ => False)
 | .BoolOp op es _ => ZiM r fi loc op es σ K X
 | .Compare l ops es _ => ((chk (Zad ops es = true) (r.E fi loc σ l (fun a σ₁ => Ge r fi loc a ops es σ₁ K X) X)))
 | .IfExp _ _ _ _ => False
 | e => r.E fi loc σ e (fun v σ₁ => isB v fun b => K b σ₁) X
noncomputable def WQ : Expr → Bool
 | .Tuple vs _ _ => vs.all (constantsAlone 8)
 | _ => false
noncomputable def Zgx (vs : List AV) (K : AV → Prop) : Prop := match vs with
 | [] => False
 | m :: vs => (match m with
  | .str _ => (match vs with
   | [] => K .none
   | v :: vs => (match vs with
    | [] => (match v with | .int i => K (.int i) | _ => False)
    | _ :: _ => False))
  | _ => False)
noncomputable def Je : AV → Bool
 | .old a => Nat.beq a 52
 | _ => false
noncomputable def WL : Expr → Bool
 | .List es _ => (match es with | [] => true | _ :: _ => false)
 | _ => false
noncomputable def WM : Expr → Bool
 | .Dict ks vs _ => (match ks with | [] => (match vs with | [] => true | _ :: _ => false) | _ :: _ => false)
 | _ => false
noncomputable def Zc5 : Expr → Bool
 | .Name _ _ => true
 | .Tuple _ _ _ => true
 | .Subscript _ _ _ => true
 | _ => false
noncomputable def GC (x : Str) : List (Str × NameKind) → Bool
 | [] => true
 | p :: l => match sEq p.1 x with
  | true => (match Ys p.2 with
   | true => false
   | false => (match Wn p.2 with | true => false | false => GC x l))
  | false => GC x l
noncomputable def Vq (fi : FI) (x : Str) (l m : Nat) (names : List (Str × NameKind)) : Bool := match Nat.beq l m with
 | true => (match Ze x fi.names with
  | some k => (match Ys k with | true => GC x names | false => false)
  | none => false)
 | false => false
noncomputable def Jh (pg : Pg) (r : Ev) (fi : FI) (t e : Expr) (loc : Loc) (σ : Led) (K : KS) (X : KX) : Prop := match Zc5 t && !WQ e with
 | false => False
 | true => (match Wm e with
  | true => (match t with
   | .Name x px => (match e with
    | .ListComp e gens scope ep => chk (Vq fi x px.line ep.line scope.names = true) (Vj pg r fi loc σ e gens scope (fun v σ₁ => XD fi x v loc fun loc₁ => K .next loc₁ σ₁) (fun x σ₁ => X x loc σ₁))
    | _ => False)
   | _ => False)
  | false => (match WL e with
   | true => (match t with
    | .Name x _ => XD fi x (.ref σ.length) loc fun loc₁ => K .next loc₁ (σ ++ [.lst []])
    | _ => False)
   | false => (match WM e with
    | true => (match t with
     | .Name x _ => XD fi x (.ref σ.length) loc fun loc₁ => K .next loc₁ (σ ++ [.dmk []])
     | _ => False)
    | false => r.E fi loc σ e (fun v σ₁ => G5 r fi t v loc σ₁ (fun loc₁ σ₂ => K .next loc₁ σ₂) (fun x σ₂ => X x loc σ₂)) (fun x σ₁ => X x loc σ₁))))
noncomputable def Ul (pg : Pg) (r : Ev) (fi : FI) (e : Expr) (loc : Loc) (σ : Led) (X : KX) : Prop := match e with
 | .Call f args kw _ => (match kw with
  | _ :: _ => False
  | [] => (match f with
   | .Name x _ => ((chk (fi.calm = true) (chk (noStar args = true) (UL pg fi loc σ x fun g σ₀ => ((chk (Je g = true) (XS r fi loc args σ₀ (fun vs σ₁ => Zgx vs fun a => X ⟨a⟩ loc σ₁) (fun x σ₁ => X x loc σ₁))))))))
   | _ => False))
 | _ => False
noncomputable def Zgs (r : Ev) (fi : FI) (e : Expr) (loc : Loc) (σ : Led) (K : KS) (X : KX) : Prop := match V9 e with
 | some p => Z3 (ZfQ fi loc σ p.1) fun k => ((chk (noStar [p.2] = true) (r.E fi loc σ p.2 (fun v σ₁ => G3 σ₁ k v fun σ₂ => K .next loc σ₂) (fun x σ₁ => X x loc σ₁))))
 | none => (match Wm e with
  | true => False
  | false => r.E fi loc σ e (fun _ σ₁ => K .next loc σ₁) (fun x σ₁ => X x loc σ₁))
noncomputable def ZaU (x : Str) : Loc → Loc
 | [] => []
 | p :: l => match sEq x p.1 with
  | true => ZaU x l
  | false => p :: ZaU x l
noncomputable def Zcg (pg : Pg) (fi : FI) (x : Str) : Bool := match sEq x (Str.ofString "__debug__") with
 | true => false
 | false => (match Ze x fi.names with
  | some k => (match k with
   | .globalImplicit => (match Ze x pg.glob with
    | some v => Je v
    | none => false)
   | _ => false)
  | none => false)
noncomputable def Zi6 (r : Ev) (fi : FI) (hb : List Stmt) (name : Option Str) (x : AX) (loc : Loc) (σ : Led) (K : KS) : Prop := match name with
 | none => r.Ss { fi with calm := false } loc σ hb K (fun _ _ _ => False)
 | some n => XD fi n (.exc x.at_) loc fun loc₂ => r.Ss { fi with calm := false } loc₂ σ hb (fun f loc₃ σ₃ => K f (ZaU n loc₃) σ₃) (fun _ _ _ => False)
noncomputable def Zjq (pg : Pg) (r : Ev) (fi : FI) (body hb : List Stmt) (t : Expr) (name : Option Str) (loc : Loc) (σ : Led) (K : KS) (X : KX) : Prop :=
 ((chk (fi.calm = true) (match t with
  | .Name c _ => ((chk (Zcg pg fi c = true) (r.Ss fi loc σ body K (fun x loc₁ σ₁ => Zi6 r fi hb name x loc₁ σ₁ K))))
  | _ => False)))
noncomputable def Z0 (pg : Pg) (r : Ev) (n : Nat) (fi : FI) (st : Stmt) (loc : Loc) (σ : Led) (K : KS) (X : KX) : Prop := match st with
 | .Return v _ => (match v with
  | some e => r.E fi loc σ e (fun v σ₁ => K (.ret v) loc σ₁) (fun x σ₁ => X x loc σ₁)
  | none => False)
 | .If t a b _ => r.T fi loc σ t (fun c σ₁ => Wx c (r.Ss fi loc σ₁ a K X) (r.Ss fi loc σ₁ b K X)) (fun x σ₁ => X x loc σ₁)
 | .Assign ts e _ => (match ts with
  | [] => False
  | t :: ts => (match ts with
   | _ :: _ => False
   | [] => Jh pg r fi t e loc σ K X))
 | .For t it body orelse _ => (match orelse with
  | [] => ((chk (fi.calm = true) (GJ pg r fi loc σ t it (fun vs σ₁ => Zgl r fi t body vs loc σ₁ K X) (fun x σ₁ => X x loc σ₁))))
  | _ :: _ => False)
 | .Raise e c _ => (match c with
  | some _ => False
  | none => (match e with
   | none => False
   | some e => Ul pg r fi e loc σ X))
 | .Expr e _ => Zgs r fi e loc σ K X
 | .Try body hs orelse fin _ => (match fin with
  | _ :: _ => False
  | [] => (match orelse with
   | _ :: _ => False
   | [] => (match hs with
    | [] => False
    | h :: hs => (match hs with
     | _ :: _ => False
     | [] => (match h with
      | .ExceptHandler t name hb _ => (match t with
       | none => False
       | some t => (match hb with
        | [] => False
        | b :: hb => Zjq pg r fi body (b :: hb) t name loc σ K X)))))))
 | _ => False
noncomputable def sS0 (pg : Pg) (r : Ev) (n : Nat) (fi : FI) (ss : List Stmt) (loc : Loc) (σ : Led) (K : KS) (X : KX) : Prop := match ss with
 | [] => K .next loc σ
 | _ :: _ => False
noncomputable def sS1 (pg : Pg) (r : Ev) (n : Nat) (fi : FI) (ss : List Stmt) (loc : Loc) (σ : Led) (K : KS) (X : KX) : Prop := match ss with
 | [] => K .next loc σ
 | st :: rest => Z0 pg r n fi st loc σ (fun f loc₁ σ₁ => match f with
  | .next => sS0 pg r n fi rest loc₁ σ₁ K X
  | .ret v => K (.ret v) loc₁ σ₁) X
noncomputable def sS2 (pg : Pg) (r : Ev) (n : Nat) (fi : FI) (ss : List Stmt) (loc : Loc) (σ : Led) (K : KS) (X : KX) : Prop := match ss with
 | [] => K .next loc σ
 | st :: rest => Z0 pg r n fi st loc σ (fun f loc₁ σ₁ => match f with
  | .next => sS1 pg r n fi rest loc₁ σ₁ K X
  | .ret v => K (.ret v) loc₁ σ₁) X
noncomputable def sS3 (pg : Pg) (r : Ev) (n : Nat) (fi : FI) (ss : List Stmt) (loc : Loc) (σ : Led) (K : KS) (X : KX) : Prop := match ss with
 | [] => K .next loc σ
 | st :: rest => Z0 pg r n fi st loc σ (fun f loc₁ σ₁ => match f with
  | .next => sS2 pg r n fi rest loc₁ σ₁ K X
  | .ret v => K (.ret v) loc₁ σ₁) X
noncomputable def sS4 (pg : Pg) (r : Ev) (n : Nat) (fi : FI) (ss : List Stmt) (loc : Loc) (σ : Led) (K : KS) (X : KX) : Prop := match ss with
 | [] => K .next loc σ
 | st :: rest => Z0 pg r n fi st loc σ (fun f loc₁ σ₁ => match f with
  | .next => sS3 pg r n fi rest loc₁ σ₁ K X
  | .ret v => K (.ret v) loc₁ σ₁) X
noncomputable def sS5 (pg : Pg) (r : Ev) (n : Nat) (fi : FI) (ss : List Stmt) (loc : Loc) (σ : Led) (K : KS) (X : KX) : Prop := match ss with
 | [] => K .next loc σ
 | st :: rest => Z0 pg r n fi st loc σ (fun f loc₁ σ₁ => match f with
  | .next => sS4 pg r n fi rest loc₁ σ₁ K X
  | .ret v => K (.ret v) loc₁ σ₁) X
noncomputable def sS6 (pg : Pg) (r : Ev) (n : Nat) (fi : FI) (ss : List Stmt) (loc : Loc) (σ : Led) (K : KS) (X : KX) : Prop := match ss with
 | [] => K .next loc σ
 | st :: rest => Z0 pg r n fi st loc σ (fun f loc₁ σ₁ => match f with
  | .next => sS5 pg r n fi rest loc₁ σ₁ K X
  | .ret v => K (.ret v) loc₁ σ₁) X
noncomputable def sS7 (pg : Pg) (r : Ev) (n : Nat) (fi : FI) (ss : List Stmt) (loc : Loc) (σ : Led) (K : KS) (X : KX) : Prop := match ss with
 | [] => K .next loc σ
 | st :: rest => Z0 pg r n fi st loc σ (fun f loc₁ σ₁ => match f with
  | .next => sS6 pg r n fi rest loc₁ σ₁ K X
  | .ret v => K (.ret v) loc₁ σ₁) X
noncomputable def sS8 (pg : Pg) (r : Ev) (n : Nat) (fi : FI) (ss : List Stmt) (loc : Loc) (σ : Led) (K : KS) (X : KX) : Prop := match ss with
 | [] => K .next loc σ
 | st :: rest => Z0 pg r n fi st loc σ (fun f loc₁ σ₁ => match f with
  | .next => sS7 pg r n fi rest loc₁ σ₁ K X
  | .ret v => K (.ret v) loc₁ σ₁) X
noncomputable def sS9 (pg : Pg) (r : Ev) (n : Nat) (fi : FI) (ss : List Stmt) (loc : Loc) (σ : Led) (K : KS) (X : KX) : Prop := match ss with
 | [] => K .next loc σ
 | st :: rest => Z0 pg r n fi st loc σ (fun f loc₁ σ₁ => match f with
  | .next => sS8 pg r n fi rest loc₁ σ₁ K X
  | .ret v => K (.ret v) loc₁ σ₁) X
noncomputable def Znu (pg : Pg) (r : Ev) (n : Nat) (fi : FI) (ss : List Stmt) (loc : Loc) (σ : Led) (K : KS) (X : KX) : Prop := match ss with
 | [] => K .next loc σ
 | st :: rest => Z0 pg r n fi st loc σ (fun f loc₁ σ₁ => match f with
  | .next => sS9 pg r n fi rest loc₁ σ₁ K X
  | .ret v => K (.ret v) loc₁ σ₁) X
noncomputable def Znt (pg : Pg) (r : Ev) (n : Nat) (fi : FI) (ss : List Stmt) (loc : Loc) (σ : Led) (K : KS) (X : KX) : Prop := match ss with
 | [] => K .next loc σ
 | st :: rest => Z0 pg r n fi st loc σ (fun f loc₁ σ₁ => match f with
  | .next => Znu pg r n fi rest loc₁ σ₁ K X
  | .ret v => K (.ret v) loc₁ σ₁) X
noncomputable def Zns (pg : Pg) (r : Ev) (n : Nat) (fi : FI) (ss : List Stmt) (loc : Loc) (σ : Led) (K : KS) (X : KX) : Prop := match ss with
 | [] => K .next loc σ
 | st :: rest => Z0 pg r n fi st loc σ (fun f loc₁ σ₁ => match f with
  | .next => Znt pg r n fi rest loc₁ σ₁ K X
  | .ret v => K (.ret v) loc₁ σ₁) X
noncomputable def Znr (pg : Pg) (r : Ev) (n : Nat) (fi : FI) (ss : List Stmt) (loc : Loc) (σ : Led) (K : KS) (X : KX) : Prop := match ss with
 | [] => K .next loc σ
 | st :: rest => Z0 pg r n fi st loc σ (fun f loc₁ σ₁ => match f with
  | .next => Zns pg r n fi rest loc₁ σ₁ K X
  | .ret v => K (.ret v) loc₁ σ₁) X
noncomputable def Znq (pg : Pg) (r : Ev) (n : Nat) (fi : FI) (ss : List Stmt) (loc : Loc) (σ : Led) (K : KS) (X : KX) : Prop := match ss with
 | [] => K .next loc σ
 | st :: rest => Z0 pg r n fi st loc σ (fun f loc₁ σ₁ => match f with
  | .next => Znr pg r n fi rest loc₁ σ₁ K X
  | .ret v => K (.ret v) loc₁ σ₁) X
noncomputable def Znp (pg : Pg) (r : Ev) (n : Nat) (fi : FI) (ss : List Stmt) (loc : Loc) (σ : Led) (K : KS) (X : KX) : Prop := match ss with
 | [] => K .next loc σ
 | st :: rest => Z0 pg r n fi st loc σ (fun f loc₁ σ₁ => match f with
  | .next => Znq pg r n fi rest loc₁ σ₁ K X
  | .ret v => K (.ret v) loc₁ σ₁) X
noncomputable def Zno (pg : Pg) (r : Ev) (n : Nat) (fi : FI) (ss : List Stmt) (loc : Loc) (σ : Led) (K : KS) (X : KX) : Prop := match ss with
 | [] => K .next loc σ
 | st :: rest => Z0 pg r n fi st loc σ (fun f loc₁ σ₁ => match f with
  | .next => Znp pg r n fi rest loc₁ σ₁ K X
  | .ret v => K (.ret v) loc₁ σ₁) X
noncomputable def Znn (pg : Pg) (r : Ev) (n : Nat) (fi : FI) (ss : List Stmt) (loc : Loc) (σ : Led) (K : KS) (X : KX) : Prop := match ss with
 | [] => K .next loc σ
 | st :: rest => Z0 pg r n fi st loc σ (fun f loc₁ σ₁ => match f with
  | .next => Zno pg r n fi rest loc₁ σ₁ K X
  | .ret v => K (.ret v) loc₁ σ₁) X
noncomputable def U2 (pg : Pg) (r : Ev) (n : Nat) (fi : FI) (ss : List Stmt) (loc : Loc) (σ : Led) (K : KS) (X : KX) : Prop := match ss with
 | [] => K .next loc σ
 | st :: rest => Z0 pg r n fi st loc σ (fun f loc₁ σ₁ => match f with
  | .next => Znn pg r n fi rest loc₁ σ₁ K X
  | .ret v => K (.ret v) loc₁ σ₁) X
noncomputable def ZjE (pg : Pg) (r : Ev) (n : Nat) (fi : FI) (ss : List Stmt) (loc : Loc) (σ : Led) (K : KS) (X : KX) : Prop := match ss with
 | [] => K .next loc σ
 | st :: rest => Z0 pg r n fi st loc σ (fun f loc₁ σ₁ => match f with
  | .next => U2 pg r n fi rest loc₁ σ₁ K X
  | .ret v => K (.ret v) loc₁ σ₁) X
noncomputable def Wy (pg : Pg) (r : Ev) (n : Nat) (fi : FI) (ss : List Stmt) (loc : Loc) (σ : Led) (K : KS) (X : KX) : Prop := match ss with
 | [] => K .next loc σ
 | st :: rest => Z0 pg r n fi st loc σ (fun f loc₁ σ₁ => match f with
  | .next => ZjE pg r n fi rest loc₁ σ₁ K X
  | .ret v => K (.ret v) loc₁ σ₁) X
noncomputable def Znm (pg : Pg) (r : Ev) (n : Nat) (fi : FI) (ss : List Stmt) (loc : Loc) (σ : Led) (K : KS) (X : KX) : Prop := match ss with
 | [] => K .next loc σ
 | st :: rest => Z0 pg r n fi st loc σ (fun f loc₁ σ₁ => match f with
  | .next => Wy pg r n fi rest loc₁ σ₁ K X
  | .ret v => K (.ret v) loc₁ σ₁) X
noncomputable def ZjD (pg : Pg) (r : Ev) (n : Nat) (fi : FI) (ss : List Stmt) (loc : Loc) (σ : Led) (K : KS) (X : KX) : Prop := match ss with
 | [] => K .next loc σ
 | st :: rest => Z0 pg r n fi st loc σ (fun f loc₁ σ₁ => match f with
  | .next => Znm pg r n fi rest loc₁ σ₁ K X
  | .ret v => K (.ret v) loc₁ σ₁) X
noncomputable def Znl (pg : Pg) (r : Ev) (n : Nat) (fi : FI) (ss : List Stmt) (loc : Loc) (σ : Led) (K : KS) (X : KX) : Prop := match ss with
 | [] => K .next loc σ
 | st :: rest => Z0 pg r n fi st loc σ (fun f loc₁ σ₁ => match f with
  | .next => ZjD pg r n fi rest loc₁ σ₁ K X
  | .ret v => K (.ret v) loc₁ σ₁) X
noncomputable def Vz (pg : Pg) (r : Ev) (n : Nat) (fi : FI) (ss : List Stmt) (loc : Loc) (σ : Led) (K : KS) (X : KX) : Prop := match ss with
 | [] => K .next loc σ
 | st :: rest => Z0 pg r n fi st loc σ (fun f loc₁ σ₁ => match f with
  | .next => Znl pg r n fi rest loc₁ σ₁ K X
  | .ret v => K (.ret v) loc₁ σ₁) X
noncomputable def sSN (pg : Pg) (r : Ev) (n : Nat) (fi : FI) : Nat → List Stmt → Loc → Led → KS → KX → Prop
 | 0, ss, loc, σ, K, X => sS0 pg r n fi ss loc σ K X
 | m + 1, ss, loc, σ, K, X => match ss with
  | [] => K .next loc σ
  | st :: rest => Z0 pg r n fi st loc σ (fun f loc₁ σ₁ => match f with
   | .next => sSN pg r n fi m rest loc₁ σ₁ K X
   | .ret v => K (.ret v) loc₁ σ₁) X
noncomputable def ZbK (pg : Pg) (r : Ev) (n : Nat) (fi : FI) (ss : List Stmt) (loc : Loc) (σ : Led) (K : KS) (X : KX) : Prop := Vz pg r n fi ss loc σ K X
theorem ZhB {pg : Pg} {r : Ev} {n : Nat} {fi : FI} {ss : List Stmt} {loc : Loc} {σ : Led} {K : KS} {X : KX} : Vz pg r n fi ss loc σ K X = sSN pg r n fi 24 ss loc σ K X := rfl
theorem ZdW {pg : Pg} {r : Ev} {n : Nat} {fi : FI} {ss : List Stmt} {loc : Loc} {σ : Led} {K : KS} {X : KX} : ZbK pg r n fi ss loc σ K X = sSN pg r n fi 24 ss loc σ K X := ZhB
noncomputable def ZaJ (pg : Pg) (r : Ev) (calm : Bool) (a : Nat) (args : List AV) (σ : Led) (K : KE) (X : KC) : Prop :=
 Z3 (pg.fn a) fun f => Z3 (f.bind args) fun loc => r.Ss ⟨f.names, calm, false, []⟩ loc σ f.body (fun fl _ σ₁ => match fl with
  | .ret v => K v σ₁
  | .next => K .none σ₁) (fun x _ σ₁ => X x σ₁)
noncomputable def ev (pg : Pg) : Nat → Ev
 | 0 => ⟨fun _ _ _ _ _ _ => False, fun _ _ _ _ _ _ => False, fun _ _ _ _ _ _ => False, fun _ _ _ _ _ _ => False⟩
 | n + 1 => ⟨Zfi pg (ev pg n) n, ZiX (ev pg n), fun fi loc σ ss K X => chk (fi.comp = false) (ZbK pg (ev pg n) n fi ss loc σ K X), ZaJ pg (ev pg n)⟩
theorem Wi (fi : FI) (x : Str) (v : AV) (loc : Loc) (K : Loc → Prop) : XD fi x v loc K = (match Ze x fi.names with
 | some k => (match k with | .local => K (WC x v loc) | _ => False)
 | none => False) := by
 delta XD
 cases Ze x fi.names with
 | none => rfl
 | some k => cases k <;> first | rfl | exact JB _ _ _ _
theorem Zbz (σ : Led) (k : Nat) (v : AV) (K : Led → Prop) : G3 σ k v K = (match σ[k]? with
 | some o => (match o with
  | .lst vs => ((chk (Ym v = true) (chk (ZU (vs.length + 1)) (K (σ.set k (.lst (vs ++ [v])))))))
  | _ => False)
 | none => False) := by
 delta G3
 cases σ[k]? with
 | none => rfl
 | some o => cases o <;> first | rfl | (simp only [Ji, U7])
theorem ZdV (a b v : AV) (σ : Led) (K : Led → Prop) : Jr a b v σ K = (match a with
 | .ref k => (match σ[k]? with
  | some ob => (match ob with
   | .dsv es => (match b with
    | .str x => ((chk (Ym v = true) (chk (ZU es.length) (K (σ.set k (.dsv (WC x v es)))))))
    | _ => False)
   | .dmk es => (match b with
    | .tup vs => Z3 (Zb4 vs) fun m => (match v with
     | .int j => ((chk (YQ (Zv m es) = false) (chk (ZU es.length) (K (σ.set k (.dmk (es ++ [(m, j)])))))))
     | _ => False)
    | _ => False)
   | _ => False)
  | none => False)
 | _ => False) := by
 delta Jr
 cases a with
 | ref k =>
  dsimp only
  generalize σ[k]? = zz
  cases zz with
  | none => rfl
  | some ob =>
   cases ob with
   | dsv es => cases b with
    | str x => simp only [U7, JB]
    | _ => rfl
   | dmk es => cases b with
    | tup vs => exact congrArg (Z3 (Zb4 vs)) (funext fun m => by
     cases v with
     | int j => simp only [Ji, U7]
     | _ => rfl)
    | _ => rfl
   | _ => rfl
 | _ => rfl
section
variable {prog : Program} {w : World} {Λ : Lay} {ρ : List Addr} {x : Value}
theorem VR.none_ (h : VR prog w Λ ρ .none x) : x = .none := by
 obtain h | ⟨_, _, e, _⟩ := h
 ·exact h.none_
 ·(exfalso; cases e)
theorem VR.bool_ {b : Bool} (h : VR prog w Λ ρ (.bool b) x) : x = .bool b := by
 obtain h | ⟨_, _, e, _⟩ := h
 ·exact h.bool_
 ·(exfalso; cases e)
theorem VR.int_ {i : Int} (h : VR prog w Λ ρ (.int i) x) : ∃ t, x = .int i t := by
 obtain h | ⟨_, _, e, _⟩ := h
 ·exact h.int_
 ·(exfalso; cases e)
theorem VR.str_ {i : Str} (h : VR prog w Λ ρ (.str i) x) : ∃ t, x = .str i t := by
 obtain h | ⟨_, _, e, _⟩ := h
 ·exact h.str_
 ·(exfalso; cases e)
theorem VR.tup_ {vs : List AV} (h : VR prog w Λ ρ (.tup vs) x) : ∃ a ws n, x = .ref a ∧ Λ a = .frz (ZT ws n) ∧ VTs prog w Λ vs ws := by
 obtain h | ⟨_, _, e, _⟩ := h
 ·exact h.inv
 ·(exfalso; cases e)
theorem VR.lst_ {vs : List AV} (h : VR prog w Λ ρ (.lst vs) x) : ∃ a ws n, x = .ref a ∧ Λ a = .frz (Zn ws n) ∧ VTs prog w Λ vs ws := by
 obtain h | ⟨_, _, e, _⟩ := h
 ·exact h.inv
 ·(exfalso; cases e)
theorem VR.ref_ {k : Nat} (h : VR prog w Λ ρ (.ref k) x) : ∃ a, x = .ref a ∧ ρ[k]? = some a := by
 obtain h | ⟨_, _, e, e', e''⟩ := h
 ·exact VT.noref h
 ·cases e; exact ⟨_, e', e''⟩
theorem VR.ty_ {n : TY} (h : VR prog w Λ ρ (.ty n) x) : x = .type n.nm := by
 obtain h | ⟨_, _, e, _⟩ := h
 ·exact h.ty_
 ·(exfalso; cases e)
theorem VR.bi_ {n : BI} (h : VR prog w Λ ρ (.bi n) x) : x = .builtin n.nm := by
 obtain h | ⟨_, _, e, _⟩ := h
 ·exact h.bi_
 ·(exfalso; cases e)
theorem VR.old_ {n : Nat} (h : VR prog w Λ ρ (.old n) x) : x = .ref n := by
 obtain h | ⟨_, _, e, _⟩ := h
 ·exact h.old_
 ·(exfalso; cases e)
theorem VR.dss_ {es : List (Str × Str)} (h : VR prog w Λ ρ (.dss es) x) : ∃ a o, x = .ref a ∧ (a == sysModules) = false ∧ Λ a = .frz o ∧ DSS prog w es o := by
 obtain h | ⟨_, _, e, _⟩ := h
 ·exact h.inv
 ·(exfalso; cases e)
theorem VR.dmk_ {es : List ((Str × Int) × Int)} (h : VR prog w Λ ρ (.dmk es) x) : ∃ a o, x = .ref a ∧ (a == sysModules) = false ∧ Λ a = .frz o ∧ DMK prog w Λ es o := by
 obtain h | ⟨_, _, e, _⟩ := h
 ·exact h.inv
 ·(exfalso; cases e)
theorem VR.tree (n : Ym v = true) (h : VR prog w Λ ρ v x) : VT prog w Λ v x := by
 obtain h | ⟨_, _, e, _⟩ := h
 ·exact h
 ·subst e; exact xF n
end
section
variable {prog : Program} {w : World} {B₀ : Heap} {outs : List Env} {L : Addr} {loc : List (Str × AV)} {Λ Λ' : Lay} {σ : List AO} {ρ : List Addr} {h h' : Heap}
theorem Rep0.frzAt (R : Rep0 prog w B₀ Λ σ ρ h) {a : Addr} {o : Obj} (e : Λ a = .frz o) : h.get? a = some o := by
 have := R.tag a; rw [e] at this; exact this
theorem Rep0.list (R : Rep0 prog w B₀ Λ σ ρ h) {v : AV} {vs : List AV} {x : Value} (e : Yz σ v = some vs) (V : VR prog w Λ ρ v x) : ∃ a ws n, x = .ref a ∧ h.get? a = some (Zn ws n) ∧ VTs prog w Λ vs ws := by
 delta Yz at e
 cases v with
 | lst us =>
  (replace e := xI e; cases e)
  obtain ⟨a, ws, n, e1, e2, e3⟩ := V.lst_
  exact ⟨a, ws, n, e1, R.frzAt e2, e3⟩
 | ref k =>
  obtain ⟨a, e1, e2⟩ := V.ref_
  dsimp only at e
  generalize hk : σ[k]? = zz at *
  cases zz with
  | none => exact xN e
  | some o =>
   have H := R.led k o hk
   cases o with
   | lst us =>
    (replace e := xI e; cases e)
    obtain ⟨b, ob, h1, _, h3, ws, n, h4, h5⟩ := H
    rw [e2] at h1; (replace h1 := xI h1; cases h1)
    exact ⟨a, ws, n, e1, h5 ▸ h3, h4⟩
   | ali u =>
    obtain ⟨b, h1, h2⟩ := H
    rw [e2] at h1; (replace h1 := xI h1; cases h1)
    cases u with
    | lst us =>
     (replace e := xI e; cases e)
     cases h2 with | lst h g => exact ⟨_, _, _, e1, R.frzAt h, g⟩
    | _ => exact xN e
   | _ => exact xN e
 | _ => exact xN e
end
theorem ZQ {h : Heap} {a : Addr} {ws : List Value} {n : Nat} (e : h.get? a = some (Zn ws n)) : h.IsList a ws.toArray := ⟨_, e, rfl, n, rfl⟩
theorem YG {h : Heap} {a : Addr} {ws : List Value} {n : Nat} (e : h.get? a = some (ZT ws n)) : IsTup h a ws.toArray := ⟨_, e, rfl, n, rfl⟩
theorem Y1 {h : Heap} {a : Addr} {ws : List Value} {n : Nat} (e : h.get? a = some (ZT ws n)) : h.IsTuple a ws.toArray := ⟨_, e, rfl, n, rfl⟩
section
variable (prog : Program) (w : World) (B₀ : Heap) (outs : List Env) (L : Addr) (loc : List (Str × AV)) (Λ : Lay) (ρ : List Addr)
noncomputable def PE (K : KE) (Q : Value → Shared → Prop) (s : Shared) : Prop :=
 ∀ v σ' Λ' ρ' x h' tk, K v σ' → Λ.le Λ' → ρ <+: ρ' → Rep prog w B₀ outs L loc Λ' σ' ρ' h' → VR prog w Λ' ρ' v x → Q x { s with heap := h', toks := tk }
noncomputable def PB (K : KB) (Q : Bool → Shared → Prop) (s : Shared) : Prop :=
 ∀ b σ' Λ' ρ' h' tk, K b σ' → Λ.le Λ' → ρ <+: ρ' → Rep prog w B₀ outs L loc Λ' σ' ρ' h' → Q b { s with heap := h', toks := tk }
inductive VRs : List AV → List Value → Prop
 | nil : VRs [] []
 | cons {a v as vs} : VR prog w Λ ρ a v → VRs as vs → VRs (a :: as) (v :: vs)
theorem VRs.uncons {prog : Program} {w : World} {Λ : Lay} {ρ : List Addr} {a : AV} {as : List AV} {ws : List Value} (h : VRs prog w Λ ρ (a :: as) ws) : ∃ v vs, ws = v :: vs ∧ VR prog w Λ ρ a v ∧ VRs prog w Λ ρ as vs := by
 cases h with
 | cons h1 h2 => exact ⟨_, _, rfl, h1, h2⟩
theorem VTs.vrs {prog : Program} {w : World} {Λ : Lay} {ρ : List Addr} {as : List AV} : ∀ {ws : List Value}, VTs prog w Λ as ws → VRs prog w Λ ρ as ws := by
 induction as with
 | nil => intro ws h; obtain rfl := h.unnil; exact .nil
 | cons a as ih => intro ws h; obtain ⟨_, _, rfl, h1, h2⟩ := h.uncons; exact .cons (.inl h1) (ih h2)
noncomputable def PL (K : KL) (Q : List Value → Shared → Prop) (s : Shared) : Prop :=
 ∀ vs σ' Λ' ρ' xs h' tk, K vs σ' → Λ.le Λ' → ρ <+: ρ' → Rep prog w B₀ outs L loc Λ' σ' ρ' h' → VRs prog w Λ' ρ' vs xs → Q xs { s with heap := h', toks := tk }
end
noncomputable def Zla (Λ : Lay) (h : Heap) (L e : Addr) (vs : Array Value) (now : Bool) : Prop :=
 (now = false ∧ vs[1]? = some .none) ∨ ∃ T oT ts fl, vs[1]? = some (.ref T) ∧ Λ T = .free ∧ T ≠ e ∧ h.get? T = some oT ∧ oT.data = .fields ts ∧ ts[3]? = some fl ∧ (fl = rawInt L ∨ (now = false ∧ fl = .none))
noncomputable def ZcO (prog : Program) (w : World) (Λ : Lay) (oe : Obj) (v : AV) : Prop :=
 ∃ d od kvs x, oe.cls = .ref 52 ∧ oe.dict = some d ∧ Λ d = .frz od ∧ od.IsDictOf (strKind prog w) kvs ∧ valueAt kvs (Str.ofString "at") = some x ∧ VT prog w Λ v x
noncomputable def Zav (prog : Program) (w : World) (Λ : Lay) (h : Heap) (L : Addr) (now : Bool) (x : AX) (e : Addr) : Prop :=
 ∃ oe vs, h.get? e = some oe ∧ Λ e = .free ∧ oe.data = .fields vs ∧ 2 ≤ vs.size ∧ ZcO prog w Λ oe x.at_ ∧ Zla Λ h L e vs now
noncomputable abbrev U5 (prog : Program) (w : World) (Λ : Lay) (h : Heap) (L : Addr) (x : AX) (e : Addr) : Prop := Zav prog w Λ h L false x e
section
variable (prog : Program) (w : World) (B₀ : Heap) (outs : List Env) (L : Addr) (loc : List (Str × AV)) (Λ : Lay) (ρ : List Addr)
noncomputable def PX (X : KC) (E : Value → Shared → Prop) (s : Shared) : Prop :=
 ∀ x σ' Λ' ρ' e h' tk, X x σ' → Λ.le Λ' → ρ <+: ρ' → Rep prog w B₀ outs L loc Λ' σ' ρ' h' → U5 prog w Λ' h' L x e → E (.ref e) { s with heap := h', toks := tk }
end
section
variable {prog : Program} {w : World} {B₀ : Heap} {outs : List Env} {L : Addr} {loc : List (Str × AV)} {Λ Λ' : Lay} {σ σ' : List AO} {ρ ρ' : List Addr} {A : Around} {E : Value → Shared → Prop} {s : Shared}
theorem PE.at {K : KE} {Q : Value → Shared → Prop} (P : PE prog w B₀ outs L loc Λ ρ K Q s) (l : Λ.le Λ') (p : ρ <+: ρ') (h : Heap) (tk : Nat) : PE prog w B₀ outs L loc Λ' ρ' K Q { s with heap := h, toks := tk } :=
 fun v σ' Λ'' ρ'' x h' tk' k l' p' R V => P v σ' Λ'' ρ'' x h' tk' k (l.trans l') (p.trans p') R V
theorem PB.at {K : KB} {Q : Bool → Shared → Prop} (P : PB prog w B₀ outs L loc Λ ρ K Q s) (l : Λ.le Λ') (p : ρ <+: ρ') (h : Heap) (tk : Nat) : PB prog w B₀ outs L loc Λ' ρ' K Q { s with heap := h, toks := tk } :=
 fun v σ' Λ'' ρ'' h' tk' k l' p' R => P v σ' Λ'' ρ'' h' tk' k (l.trans l') (p.trans p') R
theorem PX.at {X : KC} {E : Value → Shared → Prop} (P : PX prog w B₀ outs L loc Λ ρ X E s) (l : Λ.le Λ') (p : ρ <+: ρ') (h : Heap) (tk : Nat) : PX prog w B₀ outs L loc Λ' ρ' X E { s with heap := h, toks := tk } :=
 fun v σ' Λ'' ρ'' e h' tk' k l' p' R V => P v σ' Λ'' ρ'' e h' tk' k (l.trans l') (p.trans p') R V
theorem PE.out {K : KE} {Q : Value → Shared → Prop} (P : PE prog w B₀ outs L loc Λ ρ K Q s) (R : Rep prog w B₀ outs L loc Λ σ ρ s.heap) {v : AV} {x : Value} (k : K v σ) (V : VR prog w Λ ρ v x) (tk : Nat) : Q x { s with toks := tk } :=
 P v σ Λ ρ x s.heap tk k (Lay.le.refl _) (List.prefix_refl _) R V
theorem PE.self {K : KE} {Q : Value → Shared → Prop} (P : PE prog w B₀ outs L loc Λ ρ K Q s) (R : Rep prog w B₀ outs L loc Λ σ ρ s.heap) {v : AV} {x : Value} (k : K v σ) (V : VR prog w Λ ρ v x) : Q x s :=
 P v σ Λ ρ x s.heap s.toks k (Lay.le.refl _) (List.prefix_refl _) R V
theorem VRs.trees_ {as : List AV} {vs : List Value} (h : VRs prog w Λ ρ as vs) (t : UH as = true) : VTs prog w Λ as vs := by
 induction h with
 | nil => exact .nil
 | cons h _ ih =>
  unfold UH at t
  cases q : Ym _ with
  | false => rw [q] at t; exact xF t
  | true => rw [q] at t; exact .cons (h.tree q) (ih t)
theorem VRs.mono (q : Z2 Λ Λ') (p : ρ <+: ρ') {as : List AV} {vs : List Value} (h : VRs prog w Λ ρ as vs) : VRs prog w Λ' ρ' as vs := by
 induction h with
 | nil => exact .nil
 | cons h _ ih => exact .cons (h.mono q p) ih
theorem VRs.length {as : List AV} {vs : List Value} (h : VRs prog w Λ ρ as vs) : vs.length = as.length := by
 induction h with
 | nil => rfl
 | cons _ _ ih => rw [List.length_cons, List.length_cons, ih]
end
theorem U4 {n : Nat} (h : ZU n) : n ≤ sizeLine := by
 have := Nat.le_of_ble_eq_true h
 show n ≤ 2 ^ 24
 omega
theorem ZhQ {a b : Int} (ha : a.natAbs < 2 ^ 64) (hb : b.natAbs < 2 ^ 64) : IntMulOk a b :=
 mulOk_of_bits (m := 64) (n := 64) (intBits_le_iff.mpr ha) (intBits_le_iff.mpr hb) (by decide)
section
variable {prog : Program} {w : World} {B₀ : Heap} {outs : List Env} {L : Addr} {loc : List (Str × AV)} {Λ Λ' : Lay} {σ σ' : List AO} {ρ ρ' : List Addr} {A : Around} {E : Value → Shared → Prop} {s : Shared}
theorem Jl (i : Int) (t : Tok) : VR prog w Λ ρ (.int i) (.int i t) := .inl (.int i t)
theorem Jk (i : Str) (t : Tok) : VR prog w Λ ρ (.str i) (.str i t) := .inl (.str i t)
theorem ZcU (b : Bool) : VR prog w Λ ρ (.bool b) (.bool b) := .inl (.bool b)
theorem ZeW : VR prog w Λ ρ .none .none := .inl .none
theorem Rep.none0 (R : Rep prog w B₀ outs L loc Λ σ ρ s.heap) : s.heap.get? s.heap.objs.size = none := Heap.get?_none_of_le (Nat.le_refl _)
theorem Rep.backFrz (R : Rep prog w B₀ outs L loc Λ σ ρ s.heap) {m : Str → Option Value} {h' : Heap} {o : Obj} {a : Addr} (F : Fr B₀ L h' m) (l : Yp prog w Λ ρ loc m) (N : News B₀ L h' ((a, o) :: Xo B₀ L s.heap)) (ha : s.heap.get? a = none) :
  ∃ Λ', Λ.le Λ' ∧ Λ' a = .frz o ∧ Rep prog w B₀ outs L loc Λ' σ ρ h' := by
 have R' := R.back F l (fun p hp => N p (.tail _ hp))
 obtain ⟨Λ₁, l1, _, e1, R1⟩ := R.forget ha
 have R1' := R1.back F (l.mono l1.sees (List.prefix_refl _)) (fun p hp => N p (.tail _ hp))
 exact ⟨_, l1.trans (Lay.le_up _ (.inl e1)), Lay.up_self .., R1'.settle (t := .frz o) e1 (N _ (.head _)).1⟩
theorem Rep.backLed (R : Rep prog w B₀ outs L loc Λ σ ρ s.heap) {m : Str → Option Value} {h' : Heap} {o : Obj} {ao : AO} {a : Addr} (F : Fr B₀ L h' m) (l : Yp prog w Λ ρ loc m) (N : News B₀ L h' ((a, o) :: Xo B₀ L s.heap)) (ha : s.heap.get? a = none)
  (hr : OR prog w Λ ao o) : ∃ Λ', Λ.le Λ' ∧ Rep prog w B₀ outs L loc Λ' (σ ++ [ao]) (ρ ++ [a]) h' := by
 obtain ⟨Λ₁, l1, _, e1, R1⟩ := R.forget ha
 have R1' := R1.back F (l.mono l1.sees (List.prefix_refl _)) (fun p hp => N p (.tail _ hp))
 exact ⟨_, l1.trans (Lay.le_up _ (.inl e1)), R1'.enter e1 (N _ (.head _)).1 (hr.mono (l1.trans (Lay.le_up _ (.inl e1))).sees)⟩
theorem Zcc {op : Operator} {i j : Int} {t u : Tok} {K : Int → Prop} {Q : Value → Shared → Prop} (h : Zcd op i j K) (hq : ∀ k t, K k → Q (.int k t) { s with toks := s.toks + 1 }) :
  wpAny (model prog w) A (binaryOp op (.int i t) (.int j u)) Q E s := by
 cases op with
 | Add => exact add_int (hq _ _ h)
 | Sub => exact sub_int (hq _ _ h)
 | Mult => exact mul_int (hq _ _ h.r) (ZhQ h.l h.m)
 | LShift => exact lshift_int_small h.l (by have := h.r.l; omega) h.r.r.l (hq _ _ h.r.r.r)
 | Pow => exact pow_int_small h.l (by have := h.r.l; omega) h.r.r.l (hq _ _ h.r.r.r)
 | _ => exact h.elim
theorem Zeh {a b : AV} {x y : Value} {xs ys : List AV} {K : KE} {Q : Value → Shared → Prop} (ea : Yz σ a = some xs) (eb : Yz σ b = some ys) (hl : ZU (xs.length + ys.length)) (hk : K (.ref σ.length) (σ ++ [.lst (xs ++ ys)]))
  (R : Rep prog w B₀ outs L loc Λ σ ρ s.heap) (va : VR prog w Λ ρ a x) (vb : VR prog w Λ ρ b y) (P : PE prog w B₀ outs L loc Λ ρ K Q s) : wpAny (model prog w) A (binaryOp .Add x y) Q E s := by
 obtain ⟨p, ws, n, rfl, h1, g1⟩ := R.toRep0.list ea va
 obtain ⟨q, us, n', rfl, h2, g2⟩ := R.toRep0.list eb vb
 obtain ⟨m, F, l⟩ := R.frame
 refine add_lists F (VQ B₀ L s.heap) (ZQ h1) (ZQ h2) (fun h' F' N' => ?_) (by rw [g1.length, g2.length]; exact U4 hl)
 obtain ⟨Λ', l', R'⟩ := R.backLed (ao := .lst (xs ++ ys)) F' l N' R.none0 ⟨ws ++ us, _, g1.append g2, rfl⟩
 refine P _ _ Λ' (ρ ++ [s.heap.objs.size]) _ h' s.toks hk l' (List.prefix_append _ _) R' (.inr ⟨σ.length, _, rfl, rfl, ?_⟩)
 rw [← R.len]; simp
theorem ZcJ {op : Operator} {a b : AV} {x y : Value} {K : KE} {Q : Value → Shared → Prop} (h : Zaq op a b σ K) (R : Rep prog w B₀ outs L loc Λ σ ρ s.heap) (va : VR prog w Λ ρ a x) (vb : VR prog w Λ ρ b y)
  (P : PE prog w B₀ outs L loc Λ ρ K Q s) : wpAny (model prog w) A (binaryOp op x y) Q E s := by
 obtain ⟨i, rfl⟩ := Gk (D := fun a => Zaq op a b σ K) a h
 obtain ⟨j, rfl⟩ := Gk (D := fun b => Zaq op (.int i) b σ K) b h
 change Zcd op i j (fun k => K (.int k) σ) at h
 obtain ⟨t, rfl⟩ := va.int_
 obtain ⟨u, rfl⟩ := vb.int_
 exact Zcc h fun k t hk => P.out R hk (Jl k t) _
theorem VL {a b : AV} {x y : Value} {K : KE} {Q : Value → Shared → Prop} (h : ZcI a b σ K) (R : Rep prog w B₀ outs L loc Λ σ ρ s.heap) (va : VR prog w Λ ρ a x) (vb : VR prog w Λ ρ b y)
  (P : PE prog w B₀ outs L loc Λ ρ K Q s) : wpAny (model prog w) A (binaryOp .Add x y) Q E s := by
 delta ZcI at h
 cases ea : Yz σ a with
 | none => rw [ea] at h; exact h.elim
 | some xs =>
  cases eb : Yz σ b with
  | none => rw [ea, eb] at h; exact h.elim
  | some ys => rw [ea, eb] at h; exact Zeh ea eb h.l h.r R va vb P
theorem Zf7 {op : Operator} (h : Zf8 op = true) : op = .Add := by cases op <;> first | rfl | exact xF h
theorem ZiG {op : Operator} {a b : AV} {x y : Value} {K : KE} {Q : Value → Shared → Prop} (h : Zk3 op a b σ K) (R : Rep prog w B₀ outs L loc Λ σ ρ s.heap) (va : VR prog w Λ ρ a x) (vb : VR prog w Λ ρ b y)
  (P : PE prog w B₀ outs L loc Λ ρ K Q s) : wpAny (model prog w) A (binaryOp op x y) Q E s := by
 delta Zk3 at h
 generalize eo : Zf8 op = zz at h ⊢
 cases zz with
 | false => exact ZcJ h R va vb P
 | true =>
  obtain rfl := Zf7 eo
  change ZcK a b σ K at h
  delta ZcK at h
  cases a with
  | int i =>
   cases b with
   | int j =>
    obtain ⟨t, rfl⟩ := va.int_
    obtain ⟨u, rfl⟩ := vb.int_
    exact add_int (P.out R h (Jl _ _) _)
   | _ => exact h.elim
  | str p =>
   cases b with
   | str q =>
    obtain ⟨t, rfl⟩ := va.str_
    obtain ⟨u, rfl⟩ := vb.str_
    refine add_str (fun t' tk => P.out R h.r ?_ tk) ?_
    ·rw [Wf]; exact Jk _ _
    ·rw [← WZ, ← WZ]; exact U4 h.l
   | _ => exact h.elim
  | tup xs =>
   cases b with
   | tup ys =>
    obtain ⟨p, ws, n, rfl, h1, g1⟩ := va.tup_
    obtain ⟨q, us, n', rfl, h2, g2⟩ := vb.tup_
    obtain ⟨m, F, l⟩ := R.frame
    refine add_tuples F (VQ B₀ L s.heap) (YG (R.toRep0.frzAt h1)) (YG (R.toRep0.frzAt h2)) (fun e => ?_) (fun _ e => ?_) (fun _ _ h' F' N' => ?_) (by rw [g1.length, g2.length]; exact U4 h.l)
    ·subst e
     refine P.self R h.r (.inl ?_)
     cases g1
     exact .tup h2 g2
    ·subst e
     refine P.self R h.r (.inl ?_)
     cases g2
     rw [List.append_nil]; exact .tup h1 g1
    ·obtain ⟨Λ', l', e', R'⟩ := R.backFrz F' l N' R.none0
     exact P _ _ Λ' ρ _ h' s.toks h.r l' (List.prefix_refl _) R' (.inl (.tup (n := 0) e' ((g1.mono l'.sees).append (g2.mono l'.sees))))
   | _ => exact h.elim
  | lst xs => exact VL h R va vb P
  | ref k => exact VL h R va vb P
  | _ => exact VL h R va vb P
theorem VH {op : CmpOp} {i j : Int} {t u : Tok} {K : Bool → Prop} {Q : Value → Shared → Prop} (h : Zga op i j K) (hq : ∀ c, K c → Q (.bool c) s) : wpAny (model prog w) A (compareOp op (.int i t) (.int j u)) Q E s := by
 cases op with
 | Eq => refine eq_int (hq _ ?_); have e : (i == j) = decide (i = j) := (by by_cases q : i = j <;> simp [q]); rw [e]; exact h
 | NotEq => refine ne_int (hq _ ?_); have e : (i != j) = !decide (i = j) := (by by_cases q : i = j <;> simp [q]); rw [e]; exact h
 | Lt => exact lt_int (hq _ h)
 | LtE => exact le_int (hq _ h)
 | Gt => exact gt_int (hq _ h)
 | _ => exact h.elim
theorem Zc7 {v : AV} {x : Value} (va : VR prog w Λ ρ v x) : (x == Value.none) = JZ v := by
 obtain h | ⟨k, a, rfl, rfl, _⟩ := va
 ·cases h <;> rfl
 ·rfl
theorem Zkv {v : AV} {x : Value} {Q : Value → Shared → Prop} (va : VR prog w Λ ρ v x) (hq : Q (.bool (JZ v)) s) : wpAny (model prog w) A (compareOp .Is x .none) Q E s := by
 refine is_none ?_
 rw [Zc7 va]; exact hq
theorem Zek {v : AV} {x : Value} {Q : Value → Shared → Prop} (va : VR prog w Λ ρ v x) (hq : Q (.bool (!JZ v)) s) : wpAny (model prog w) A (compareOp .IsNot x .none) Q E s := by
 refine isNot_none ?_
 rw [Zc7 va]; exact hq
theorem Za1 {a d : Value} {Q : Value → Shared → Prop} (h : wpAny (model prog w) A (compareOp .In a d) (fun v s' => match v with | .bool b => Q (.bool (!b)) s' | _ => True) E s) : wpAny (model prog w) A (compareOp .NotIn a d) Q E s := by
 have h' : wpAny (model prog w) A (contains d a >>= fun b => pure (Value.bool b)) (fun v s' => match v with | .bool b => Q (.bool (!b)) s' | _ => True) E s := h
 show wpAny (model prog w) A (contains d a >>= fun b => pure (Value.bool (!b))) Q E s
 intro Γ p hΓ
 have := h' Γ p hΓ
 rw [Sem.wp_bind'] at this ⊢
 exact this
noncomputable def Zky : Bool → CmpOp
 | true => .NotIn
 | false => .In
theorem Ja {neg : Bool} {a d : Value} {c : Bool} {Q : Value → Shared → Prop} (h : ∀ (Q : Value → Shared → Prop), (∀ tk, Q (.bool c) { s with toks := tk }) → wpAny (model prog w) A (compareOp .In a d) Q E s) (hq : ∀ tk, Q (.bool (Yl neg c)) { s with toks := tk }) :
  wpAny (model prog w) A (compareOp (Zky neg) a d) Q E s := by
 cases neg with
 | false => exact h _ hq
 | true => exact Za1 (h _ hq)
theorem Vr : ∀ {vs : List AV} {ws : List Value} {l : List Str}, XO vs = some l → VTs prog w Λ vs ws → StrsAre ws l
 | [], ws, l, e, g => by (have hh := VTs.unnil g; clear g; subst hh); (replace e := xI e; cases e); exact .nil
 | v :: vs, ws, l, e, g => by
  obtain ⟨_, _, rfl, h, g⟩ := g.uncons
  unfold XO at e
  cases v with
  | str x =>
   generalize q : XO vs = zz at e ⊢
   cases zz with
   | none => exact xN e
   | some ks =>
    (replace e := xI e; cases e)
    (refine Exists.elim (VT.str_ h) ?_; clear h; intro t hh; subst hh)
    exact .cons _ _ (Vr q g)
  | _ => exact xN e
theorem J3 : ∀ {vs : List AV} {ws : List Value} {l : List Int}, Uv vs = some l → VTs prog w Λ vs ws → IntsAre ws l
 | [], ws, l, e, g => by (have hh := VTs.unnil g; clear g; subst hh); (replace e := xI e; cases e); exact .nil
 | v :: vs, ws, l, e, g => by
  obtain ⟨_, _, rfl, h, g⟩ := g.uncons
  unfold Uv at e
  cases v with
  | int x =>
   generalize q : Uv vs = zz at e ⊢
   cases zz with
   | none => exact xN e
   | some ks =>
    (replace e := xI e; cases e)
    (refine Exists.elim (VT.int_ h) ?_; clear h; intro t hh; subst hh)
    exact .cons _ _ (J3 q g)
  | _ => exact xN e
theorem Ua (x y : Str) (l : List Str) : Yc x (y :: l) = (match sEq x y with | true => true | false => Yc x l) := rfl
theorem UF (x : Str) : ∀ l : List Str, Yc x l = l.any (· == x)
 | [] => rfl
 | y :: l => by
  rw [Ua, List.any_cons, ← UF x l, Zaa]
  by_cases h : x = y
  ·simp [h]
  ·have : (y == x) = false := beq_eq_false_iff_ne.mpr (Ne.symm h)
   simp [h, this]
theorem G0 (x : Int) : ∀ l : List Int, WV x l = l.any (· == x)
 | [] => rfl
 | y :: l => by
  show (match decide (x = y) with | true => true | false => WV x l) = _
  rw [List.any_cons, ← G0 x l]
  by_cases h : x = y
  ·simp [h]
  ·have : (y == x) = false := beq_eq_false_iff_ne.mpr (Ne.symm h)
   simp [h, this]
end
section
variable {prog : Program} {w : World} {B₀ : Heap} {outs : List Env} {L : Addr} {loc : List (Str × AV)} {Λ Λ' : Lay} {σ σ' : List AO} {ρ ρ' : List Addr} {A : Around} {E : Value → Shared → Prop} {s : Shared}
theorem VV {a b : Str × Int} (h : YJ a = YJ b) : a = b := by
 obtain ⟨x, i⟩ := a
 obtain ⟨y, j⟩ := b
 delta YJ at h
 simp only [List.cons.injEq, Sum.inl.injEq, Sum.inr.injEq, and_true] at h
 rw [h.1, h.2]
theorem Zb6 (a b : Str × Int) : mEq a b = decide (a = b) := by
 obtain ⟨x, i⟩ := a
 obtain ⟨y, j⟩ := b
 delta mEq
 by_cases h : i = j
 ·by_cases g : x = y <;> simp [h, g, Zaa]
 ·simp [h]
theorem Xl (m : Str × Int) (p : (Str × Int) × Int) (l : List ((Str × Int) × Int)) : Zv m (p :: l) = (match mEq m p.1 with | true => some p.2 | false => Zv m l) := rfl
theorem MKs.at (m : Str × Int) : ∀ {es xs}, MKs Λ es xs → (atKey xs (YJ m)).map (·.2) = none ∧ Zv m es = none ∨ ∃ p i t, atKey xs (YJ m) = some p ∧ p.2 = .int i t ∧ Zv m es = some i
 | [], xs, h => by cases (h : _ = _); exact .inl ⟨rfl, rfl⟩
 | (m', i) :: es, xs, h => by
  obtain ⟨a, n, t, t', t'', r, e, h, g⟩ := h
  try clear h
  subst e
  rw [Xl, Zb6]
  by_cases q : m = m'
  ·subst q
   refine .inr ⟨(a, .int i t), i, t, ?_, rfl, ?_⟩
   ·unfold atKey; simp
   ·simp
  ·have ne : ¬ YJ m' = YJ m := fun z => q (VV z).symm
   have e1 : atKey ((YJ m', a, Value.int i t) :: r) (YJ m) = atKey r (YJ m) := by
    unfold atKey; simp [ne]
   rw [e1]
   simp only [q, decide_false]
   exact MKs.at m g
theorem MKs.isSome (m : Str × Int) {es xs} (h : MKs Λ es xs) : (atKey xs (YJ m)).isSome = YQ (Zv m es) := by
 obtain ⟨h1, h2⟩ | ⟨p, i, t, h1, h2, h3⟩ := h.at m
 ·rw [h2]
  generalize atKey xs (YJ m) = zz at h1 ⊢
  cases zz with
  | none => rfl
  | some p => exact xS h1
 ·rw [h1, h3]; rfl
theorem VD {m : Str × Int} {t t' : Tok} : PySem.ItemsAre (Xi prog w) (YJ m) [.str m.1 t, .int m.2 t'] := by
 refine .cons ?_ (.cons ?_ .nil)
 ·show Value.isStrOf m.1 (.str m.1 t) = true
  simp [Value.isStrOf]
 ·show Value.isInt m.2 (.int m.2 t') = true
  simp [Value.isInt]
theorem MKs.keysAt (R : Rep0 prog w B₀ Λ σ ρ s.heap) : ∀ {es xs}, MKs Λ es xs → ∀ x ∈ xs, (tupleKind (Xi prog w)).is s.heap x.1 x.2.1
 | [], xs, h => by cases (h : _ = _); intro x hx; (exfalso; cases hx)
 | (m', i) :: es, xs, h => by
  obtain ⟨a, n, t, t', t'', r, e, h, g⟩ := h
  subst e
  intro x hx
  obtain rfl | hx := List.mem_cons.mp hx
  ·exact ⟨_, _, n, R.frzAt h, rfl, rfl, VD⟩
  ·exact MKs.keysAt R g x hx
theorem DMK.dict (R : Rep0 prog w B₀ Λ σ ρ s.heap) {es o} {d : Addr} (h : DMK prog w Λ es o) (hd : s.heap.get? d = some o) : ∃ xs, MKs Λ es xs ∧ Heap.DictOfH (tupleKind (Xi prog w)) s.heap d xs := by
 obtain ⟨xs, ds, ep, h1, h2, h3, h4, h5⟩ := h
 refine ⟨xs, h1, o, ds, ep, hd, h2, h3, h4, h1.keysAt R, ?_⟩
 rw [h1.keys]
 have e : (es.map fun e => YJ e.1) = (es.map (·.1)).map YJ := by rw [List.map_map]; rfl
 rw [e]
 exact List.Pairwise.map _ (fun a b ne q => ne (VV q)) h5
theorem Rep0.marks (R : Rep0 prog w B₀ Λ σ ρ s.heap) {v : AV} {x : Value} {es} (e : XI σ v = some es) (V : VR prog w Λ ρ v x) : ∃ d o, x = .ref d ∧ (d == sysModules) = false ∧ s.heap.get? d = some o ∧ DMK prog w Λ es o := by
 delta XI at e
 cases v with
 | dmk fs =>
  (replace e := xI e; cases e)
  obtain ⟨a, o, h1, h2, h3, h4⟩ := V.dmk_
  exact ⟨a, o, h1, h2, R.frzAt h3, h4⟩
 | ref k =>
  obtain ⟨a, e1, e2⟩ := V.ref_
  dsimp only at e
  generalize hk : σ[k]? = zz at *
  cases zz with
  | none => exact xN e
  | some o =>
   have H := R.led k o hk
   cases o with
   | dmk fs =>
    (replace e := xI e; cases e)
    obtain ⟨b, ob, h1, h2, h3, h4⟩ := H
    rw [e2] at h1; (replace h1 := xI h1; cases h1)
    refine ⟨a, ob, e1, ?_, h3, h4⟩
    obtain ⟨o', ho'⟩ := R.sm
    have := R.b0 _ _ ho'
    exact beq_eq_false_iff_ne.mpr fun q => by rw [q, this] at h2; (exfalso; cases h2)
   | _ => exact xN e
 | _ => exact xN e
theorem Zc9 {vs : List AV} {m : Str × Int} (e : Zb4 vs = some m) : vs = [.str m.1, .int m.2] := by
 cases vs with
 | nil => exact xN e
 | cons a l =>
  cases a with
  | str x =>
   cases l with
   | nil => exact xN e
   | cons b l =>
    cases b with
    | int i =>
     cases l with
     | nil => (replace e := xI e; cases e); rfl
     | cons _ _ => exact xN e
    | _ => exact xN e
  | _ => exact xN e
theorem ZfZ {m : Str × Int} {ws : List Value} (g : VTs prog w Λ [.str m.1, .int m.2] ws) : ∃ t t', ws = [.str m.1 t, .int m.2 t'] := by
 obtain ⟨_, _, rfl, h, g⟩ := g.uncons
 (refine Exists.elim (VT.str_ h) ?_; clear h; intro t hh; subst hh)
 cases g with
 | cons h g =>
  (refine Exists.elim (VT.int_ h) ?_; clear h; intro t hh; subst hh)
  (have hh := VTs.unnil g; clear g; subst hh)
  exact ⟨_, _, rfl⟩
theorem Zgb {a b : AV} {x y : Value} {neg : Bool} {K : Bool → Prop} {Q : Value → Shared → Prop} (h : inP neg a b σ K) (R : Rep0 prog w B₀ Λ σ ρ s.heap) (va : VR prog w Λ ρ a x) (vb : VR prog w Λ ρ b y)
  (hu : A.units + 80 < cLine) (hq : ∀ c tk, K c → Q (.bool c) { s with toks := tk }) : wpAny (model prog w) A (compareOp (Zky neg) x y) Q E s := by
 cases a with
 | str k =>
  obtain ⟨t, rfl⟩ := va.str_
  change Zgc neg k b σ K at h
  have lst : ∀ {o}, Zdh neg k o K → (∀ vs, o = some vs → (∃ p ws n, y = .ref p ∧ s.heap.get? p = some (ZT ws n) ∧ VTs prog w Λ vs ws) ∨ (∃ p ws n, y = .ref p ∧ s.heap.get? p = some (Zn ws n) ∧ VTs prog w Λ vs ws)) →
    wpAny (model prog w) A (compareOp (Zky neg) (.str k t) y) Q E s := fun {o} h f => by
   delta Zdh at h
   cases o with
   | none => exact h.elim
   | some vs =>
    dsimp only at h
    generalize q : XO vs = zz at h ⊢
    cases zz with
    | none => exact h.elim
    | some l =>
     refine Ja (c := Yc k l) (fun Q' hq' => ?_) fun tk => hq _ _ h
     obtain ⟨p, ws, n, rfl, h1, g⟩ | ⟨p, ws, n, rfl, h1, g⟩ := f vs rfl
     ·refine in_tuple_strs (YG h1) (Vr q (by simpa using g)) ?_
      rw [← UF]; exact hq' s.toks
     ·refine in_list_strs (ZQ h1) (Vr q g) ?_
      rw [← UF]; exact hq' s.toks
  delta Zgc at h
  cases b with
  | str z =>
   obtain ⟨u, rfl⟩ := vb.str_
   dsimp only at h
   generalize q : Zal k z = zz at h ⊢
   cases zz with
   | none => exact h.elim
   | some c =>
    exact Ja (c := c) (fun Q' hq' => in_str (by rw [Zem q]; exact hq' s.toks)) fun tk => hq _ _ h
  | tup vs =>
   refine lst h fun us e => .inl ?_
   (replace e := xI e; cases e)
   obtain ⟨p, ws, n, e1, e2, e3⟩ := vb.tup_
   exact ⟨p, ws, n, e1, R.frzAt e2, e3⟩
  | _ => exact lst h fun us e => .inr (R.list e vb)
 | int i =>
  obtain ⟨t, rfl⟩ := va.int_
  change Zge neg i b K at h
  delta Zge at h
  cases b with
  | tup vs =>
   dsimp only at h
   obtain ⟨p, ws, n, rfl, e2, e3⟩ := vb.tup_
   generalize q : Uv vs = zz at h ⊢
   cases zz with
   | none => exact h.elim
   | some l =>
    refine Ja (c := WV i l) (fun Q' hq' => ?_) fun tk => hq _ _ h
    refine in_tuple_ints (YG (R.frzAt e2)) (J3 q (by simpa using e3)) ?_
    rw [← G0]; exact hq' s.toks
  | _ => exact h.elim
 | tup vs =>
  change Zgd neg (Zb4 vs) (XI σ b) K at h
  cases q : Zb4 vs with
  | none => rw [q] at h; exact h.elim
  | some m =>
   cases q' : XI σ b with
   | none => rw [q, q'] at h; exact h.elim
   | some es =>
    rw [q, q'] at h
    obtain rfl := Zc9 q
    obtain ⟨p, ws, n, rfl, e2, e3⟩ := va.tup_
    obtain ⟨t, t', rfl⟩ := ZfZ e3
    obtain ⟨d, o, rfl, hsm, hd, hm⟩ := R.marks q' vb
    obtain ⟨xs, hx, hD⟩ := hm.dict R hd
    refine Ja (c := YQ (Zv m es)) (fun Q' hq' => ?_) fun tk => hq _ _ h
    refine wpAny_in_heap (knd := tupleKind (Xi prog w)) (k := YJ m) (show A.in1.units < cLine from ?_) ⟨_, _, n, R.frzAt e2, rfl, rfl, VD⟩ hsm hD ?_
    ·simp only [Around.in1_units]; omega
    ·rw [hx.isSome]; exact hq' _
 | _ => exact h.elim
theorem Zdp (x y : Str) : (x == y) = sEq x y := (Xh x y).symm
theorem Znv {α : Type} [BEq α] (x y : α) : (x != y) = !(x == y) := rfl
noncomputable def ZgC : Bool → CmpOp
 | true => .NotEq
 | false => .Eq
noncomputable def VN : TK → PyData
 | .inl x => .str x
 | .inr i => .int i
noncomputable def D.py : D → PyData
 | .st x => .str x
 | .nu i => .int i
 | .tu ks => .tuple (ks.map VN)
theorem Zdg (i j : Int) : (i == j) = decide (i = j) := rfl
theorem ZjB (a b : TK) : PyData.eqv (VN a) (VN b) = Ze8 a b := by
 cases a <;> cases b <;> first | (show _ = sEq _ _; simp [VN, PyData.eqv, Xh]; done) | (show _ = decide _; simp [VN, PyData.eqv, Zdg]; done) | (show _ = false; simp [VN, PyData.eqv])
theorem ZcX : ∀ a b : List TK, PyData.eqvAll (a.map VN) (b.map VN) = UJ a b
 | [], [] => by show _ = true; simp [PyData.eqvAll]
 | [], _ :: _ => by show _ = false; simp [PyData.eqvAll]
 | _ :: _, [] => by show _ = false; simp [PyData.eqvAll]
 | a :: l, b :: m => by show _ = (UJ l m && Ze8 a b); simp only [List.map_cons, PyData.eqvAll, ZjB, ZcX l m, Bool.and_comm]
theorem ZmM (a b : D) : PyData.eqv a.py b.py = dEq a b := by
 cases a <;> cases b <;> first | (show _ = sEq _ _; simp [D.py, PyData.eqv, Xh]; done) | (show _ = decide _; simp [D.py, PyData.eqv, Zdg]; done) | (show _ = UJ _ _; simp [D.py, PyData.eqv, ZcX]; done) | (show _ = false; simp [D.py, PyData.eqv])
theorem Zan : ∀ a b : List D, PyData.eqvAll (a.map D.py) (b.map D.py) = Gn a b
 | [], [] => by show _ = true; simp [PyData.eqvAll]
 | [], _ :: _ => by show _ = false; simp [PyData.eqvAll]
 | _ :: _, [] => by show _ = false; simp [PyData.eqvAll]
 | a :: l, b :: m => by
  show _ = (match dEq a b with | true => Gn l m | false => false)
  simp only [List.map_cons, PyData.eqvAll, ZmM, Zan l m]
  cases dEq a b <;> rfl
noncomputable def ZjC : TK → Bool
 | .inl x => sOk x
 | .inr _ => true
theorem ZdR {v : AV} {k : TK} (e : ZbJ v = some k) : ZjC k = true := by
 delta ZbJ at e
 cases v with
 | str x =>
  dsimp only at e
  generalize q : sOk x = zz at e ⊢
  cases zz with
  | true => (replace e := xI e; cases e); exact q
  | false => exact xN e
 | int i => (replace e := xI e; cases e); rfl
 | _ => exact xN e
theorem ZcW : ∀ {vs : List AV} {a : List TK}, Wv vs = some a → PyData.canLayAll0 (a.map VN) = true ∧ PyData.depthAll (a.map VN) = 0
 | [], a, e => by (replace e := xI e; cases e); exact ⟨rfl, rfl⟩
 | v :: vs, a, e => by
  unfold Wv at e
  generalize q : ZbJ v = zz at e ⊢
  cases zz with
  | none => exact xN e
  | some k =>
   generalize q' : Wv vs = zz at e ⊢
   cases zz with
   | none => exact xN e
   | some ls =>
    (replace e := xI e; cases e)
    have := ZcW q'
    have g := ZdR q
    cases k with
    | inl x => simp [VN, PyData.canLayAll0, PyData.canLay0, PyData.depthAll, PyData.depth, this.1, this.2, show PyData.strOk x = true from Zfp g]
    | inr i => simp [VN, PyData.canLayAll0, PyData.canLay0, PyData.depthAll, PyData.depth, this.1, this.2]
theorem ZmL {v : AV} {d : D} (e : dOf v = some d) : PyData.canLay0 d.py = true ∧ PyData.depth d.py ≤ 1 := by
 delta dOf at e
 cases v with
 | str x =>
  dsimp only at e
  generalize q : sOk x = zz at e ⊢
  cases zz with
  | true => (replace e := xI e; cases e); exact ⟨by simp only [D.py, PyData.canLay0]; exact Zfp q, by simp [D.py, PyData.depth]⟩
  | false => exact xN e
 | int i => (replace e := xI e; cases e); exact ⟨by simp [D.py, PyData.canLay0], by simp [D.py, PyData.depth]⟩
 | tup us =>
  dsimp only at e
  generalize q : Wv us = zz at e ⊢
  cases zz with
  | none => exact xN e
  | some ks =>
   (replace e := xI e; cases e)
   have := ZcW q
   exact ⟨by simp [D.py, PyData.canLay0, this.1], by simp [D.py, PyData.depth, this.2]⟩
 | _ => exact xN e
theorem ZcF : ∀ {vs : List AV} {a : List D}, Xb vs = some a → PyData.canLayAll0 (a.map D.py) = true ∧ PyData.depthAll (a.map D.py) ≤ 1
 | [], a, e => by (replace e := xI e; cases e); exact ⟨rfl, Nat.zero_le _⟩
 | v :: vs, a, e => by
  unfold Xb at e
  generalize q : dOf v = zz at e ⊢
  cases zz with
  | none => exact xN e
  | some k =>
   generalize q' : Xb vs = zz at e ⊢
   cases zz with
   | none => exact xN e
   | some ls =>
    (replace e := xI e; cases e)
    have h1 := ZcF q'
    have h2 := ZmL q
    refine ⟨by simp [PyData.canLayAll0, h1.1, h2.1], ?_⟩
    exact Nat.max_le.mpr ⟨h2.2, h1.2⟩
theorem Jx {vs : List AV} {a : List D} (e : Xb vs = some a) : SeqAt.shaped (.tuple (a.map D.py)) = true := by
 have := ZcF e
 simp only [SeqAt.shaped, PyData.canLay0, PyData.depth, this.1, Bool.true_and]
 exact decide_eq_true (by omega)
theorem Wc {vs : List AV} {a : List D} (e : Xb vs = some a) : SeqAt.shaped (.list (a.map D.py)) = true := by
 have := ZcF e
 simp only [SeqAt.shaped, PyData.canLay0, PyData.depth, this.1, Bool.true_and]
 exact decide_eq_true (by omega)
theorem Gu : ∀ {vs : List AV} {ws : List Value} {ks : List TK}, Wv vs = some ks → VTs prog w Λ vs ws → ∀ {h : Heap}, ∃ as, ReadsAll h ws (ks.map VN) as
 | [], ws, ks, e, g, h => by (have hh := VTs.unnil g; clear g; subst hh); (replace e := xI e; cases e); exact ⟨_, .nil⟩
 | v :: vs, ws, ks, e, g, h => by
  obtain ⟨_, _, rfl, h1, g⟩ := g.uncons
  unfold Wv at e
  generalize q : ZbJ v = zz at e ⊢
  cases zz with
  | none => exact xN e
  | some k =>
   generalize q' : Wv vs = zz at e ⊢
   cases zz with
   | none => exact xN e
   | some ls =>
    (replace e := xI e; cases e)
    obtain ⟨as, r⟩ := Gu q' g (h := h)
    delta ZbJ at q
    cases v with
    | str x =>
     dsimp only at q
     generalize sOk x = zz at q ⊢
     cases zz with
     | true => (replace q := xI q; cases q); (refine Exists.elim (VT.str_ h1) ?_; clear h1; intro t hh; subst hh); exact ⟨_, .cons (.str _ _) r⟩
     | false => exact xN q
    | int x => (replace q := xI q; cases q); (refine Exists.elim (VT.int_ h1) ?_; clear h1; intro t hh; subst hh); exact ⟨_, .cons (.int _ _) r⟩
    | _ => exact xN q
theorem J9 (R : Rep0 prog w B₀ Λ σ ρ s.heap) : ∀ {vs : List AV} {ws : List Value} {ks : List D}, Xb vs = some ks → VTs prog w Λ vs ws → ∃ as, ReadsAll s.heap ws (ks.map D.py) as
 | [], ws, ks, e, g => by (have hh := VTs.unnil g; clear g; subst hh); (replace e := xI e; cases e); exact ⟨_, .nil⟩
 | v :: vs, ws, ks, e, g => by
  obtain ⟨_, _, rfl, h1, g⟩ := g.uncons
  unfold Xb at e
  generalize q : dOf v = zz at e ⊢
  cases zz with
  | none => exact xN e
  | some k =>
   generalize q' : Xb vs = zz at e ⊢
   cases zz with
   | none => exact xN e
   | some ls =>
    (replace e := xI e; cases e)
    obtain ⟨as, r⟩ := J9 R q' g
    delta dOf at q
    cases v with
    | str x =>
     dsimp only at q
     generalize sOk x = zz at q ⊢
     cases zz with
     | true => (replace q := xI q; cases q); (refine Exists.elim (VT.str_ h1) ?_; clear h1; intro t hh; subst hh); exact ⟨_, .cons (show Reads s.heap _ (.str x) [] from .str _ _) r⟩
     | false => exact xN q
    | int x => (replace q := xI q; cases q); (refine Exists.elim (VT.int_ h1) ?_; clear h1; intro t hh; subst hh); exact ⟨_, .cons (show Reads s.heap _ (.int x) [] from .int _ _) r⟩
    | tup us =>
     dsimp only at q
     generalize q2 : Wv us = zz at q ⊢
     cases zz with
     | none => exact xN q
     | some ms =>
      (replace q := xI q; cases q)
      cases h1 with
      | tup h2 h3 =>
       obtain ⟨bs, r2⟩ := Gu q2 h3 (h := s.heap)
       exact ⟨_, .cons (show Reads s.heap _ (.tuple (ms.map VN)) _ from .tuple (R.frzAt h2) rfl rfl (by simpa using r2)) r⟩
    | _ => exact xN q
theorem Uy {neg : Bool} {xs ys : List AV} {a b : Value} {ws us : List Value} {K : Bool → Prop} {Q : Value → Shared → Prop} (h : Zdq neg (Xb xs) (Xb ys) K) (R : Rep0 prog w B₀ Λ σ ρ s.heap) (gx : VTs prog w Λ xs ws) (gy : VTs prog w Λ ys us)
  (hu : A.units + 80 < cLine) (hq : ∀ c tk, K c → Q (.bool c) { s with toks := tk })
  (f : ∀ (ds es : List D) (as bs : List Addr), Xb xs = some ds → Xb ys = some es → ReadsAll s.heap ws (ds.map D.py) as → ReadsAll s.heap us (es.map D.py) bs → ∃ da db as' bs', Reads s.heap a da as' ∧ Reads s.heap b db bs' ∧ SeqAt.shaped da = true ∧ SeqAt.shaped db = true ∧ PyData.eqv da db = Gn ds es) :
  wpAny (model prog w) A (compareOp (ZgC neg) a b) Q E s := by
 cases q : Xb xs with
 | none => rw [q] at h; exact h.elim
 | some ds =>
  cases q' : Xb ys with
  | none => rw [q, q'] at h; exact h.elim
  | some es =>
   rw [q, q'] at h
   obtain ⟨as, r1⟩ := J9 R q gx
   obtain ⟨bs, r2⟩ := J9 R q' gy
   obtain ⟨da, db, as', bs', i1, i2, i3, i4, i5⟩ := f ds es as bs q q' r1 r2
   cases neg with
   | false => exact eq_dataH i1 i2 i3 i4 (by omega) (by rw [i5]; exact hq _ s.toks h)
   | true => exact ne_dataH i1 i2 i3 i4 (by omega) (by rw [i5]; exact hq _ s.toks h)
theorem Ziv {a b : AV} {x y : Value} {neg : Bool} {K : Bool → Prop} {Q : Value → Shared → Prop} (h : eqP neg a b σ K) (hm : ∀ es, a ≠ .dmk es) (R : Rep0 prog w B₀ Λ σ ρ s.heap) (va : VR prog w Λ ρ a x) (vb : VR prog w Λ ρ b y)
  (hu : A.units + 80 < cLine) (hq : ∀ c tk, K c → Q (.bool c) { s with toks := tk }) : wpAny (model prog w) A (compareOp (ZgC neg) x y) Q E s := by
 cases a with
 | str k =>
  obtain ⟨t, rfl⟩ := va.str_
  change Zjd neg k b K at h
  cases b with
  | str z =>
   obtain ⟨u, rfl⟩ := vb.str_
   cases neg with
   | false => exact eq_str (by rw [Zdp]; exact hq _ s.toks h)
   | true => exact ne_str (by rw [Znv, Zdp]; exact hq _ s.toks h)
  | int j =>
   obtain ⟨u, rfl⟩ := vb.int_
   cases neg with
   | false => exact EqMixed.eq_str_int (hq _ s.toks h)
   | true => exact EqMixed.ne_str_int (hq _ s.toks h)
  | _ => exact h.elim
 | bool c =>
  obtain rfl := va.bool_
  cases b with
  | int j =>
   obtain ⟨u, rfl⟩ := vb.int_
   have e : (((if c = true then (1 : Int) else 0) == j) : Bool) = decide (b2i c = j) := by cases c <;> rfl
   cases neg with
   | false => exact EqBoolInt.eq_bool_int (by rw [e]; exact hq _ s.toks h)
   | true => exact EqBoolInt.ne_bool_int (by rw [e]; exact hq _ s.toks h)
  | _ => exact h.elim
 | tup xs =>
  change Zjc neg xs b K at h
  cases b with
  | tup ys =>
   obtain ⟨p, ws, n, rfl, e1, g1⟩ := va.tup_
   obtain ⟨q, us, n', rfl, e2, g2⟩ := vb.tup_
   refine Uy h R g1 g2 hu hq fun ds es as bs c1 c2 r1 r2 => ⟨.tuple _, .tuple _, _, _, .tuple (R.frzAt e1) rfl rfl (by simpa using r1), .tuple (R.frzAt e2) rfl rfl (by simpa using r2), Jx c1, Jx c2, ?_⟩
   simp only [PyData.eqv, Zan]
  | _ => exact h.elim
 | lst xs =>
  change Zds neg xs b K at h
  cases b with
  | lst ys =>
   obtain ⟨p, ws, n, rfl, e1, g1⟩ := va.lst_
   obtain ⟨q, us, n', rfl, e2, g2⟩ := vb.lst_
   refine Uy h R g1 g2 hu hq fun ds es as bs c1 c2 r1 r2 => ⟨.list _, .list _, _, _, .list (R.frzAt e1) rfl rfl (by simpa using r1), .list (R.frzAt e2) rfl rfl (by simpa using r2), Wc c1, Wc c2, ?_⟩
   simp only [PyData.eqv, Zan]
  | _ => exact h.elim
 | dmk es => exact (hm es rfl).elim
 | ref k =>
  change Zje neg (Yz σ (.ref k)) b K at h
  generalize q : Yz σ (.ref k) = zz at h ⊢
  cases zz with
  | none => exact h.elim
  | some xs =>
   change Zds neg xs b K at h
   cases b with
   | lst ys =>
    obtain ⟨p, ws, n, rfl, e1, g1⟩ := R.list q va
    obtain ⟨q, us, n', rfl, e2, g2⟩ := vb.lst_
    refine Uy h R g1 g2 hu hq fun ds es as bs c1 c2 r1 r2 => ⟨.list _, .list _, _, _, .list e1 rfl rfl (by simpa using r1), .list (R.frzAt e2) rfl rfl (by simpa using r2), Wc c1, Wc c2, ?_⟩
    simp only [PyData.eqv, Zan]
   | _ => exact h.elim
 | none =>
  obtain rfl := va.none_
  change ZgD neg b K at h
  cases b with
  | none =>
   obtain rfl := vb.none_
   cases neg with
   | false => exact EqNone.eq_none_none (hq true s.toks h)
   | true => exact EqNone.ne_none_none (hq false s.toks h)
  | _ => exact h.elim
 | _ => exact h.elim
end
section
variable {prog : Program} {w : World} {B₀ : Heap} {outs : List Env} {L : Addr} {loc : List (Str × AV)} {Λ Λ' : Lay} {σ σ' : List AO} {ρ ρ' : List Addr} {A : Around} {E : Value → Shared → Prop} {s : Shared}
noncomputable def Y5 : Expr → Bool
 | .Slice _ _ _ _ => true
 | _ => false
theorem Jp {slice : Expr} (h : Y5 slice = false) (o i : Value) : subscripted slice false o i = operate [o, i] (getItem o i) := by
 cases slice <;> first | rfl | exact xT h
theorem Xv {value slice : Expr} {o i : Value} {T id : String} {Q : Value → Shared → Prop} (hT : s.TypeIs o T)
  (hl : typeLookup (.type T) "__getitem__" = pure (some (.builtin id))) (h : wpAny (model prog w) A (getItem o i) Q E s) (hs : Y5 slice = false) : wpAny (model prog w) A (subscriptTail value slice o i) Q E s := by
 refine wpAny_bind ?_
 rw [getitemInPython_of_ne hT.not_modules]
 refine wpAny_bind (wpAny_specialOf hT hl ?_)
 have last : wpAny (model prog w) A (subscripted slice false o i) (fun r s₃ => wpAny (model prog w) A (letTemporaryGo value o r >>= fun _ => pure r) Q E s₃) E s := by
  rw [Jp hs]
  exact wpAny_operating (wpAny_mono h (fun r s₃ h₃ => wpAny_bind (wpAny_letTemporaryGo (wpAny_pure h₃))) fun _ _ x => x)
 first
  | exact wpAny_pure (wpAny_bind last)
  | exact wpAny_bind (wpAny_pure (wpAny_bind last))
  | exact wpAny_bind last
theorem Zk7 {i : Int} {vs : List AV} {v : AV} (e : at? i vs = some v) : 0 ≤ i ∧ i < 2 ^ 63 ∧ vs[i.toNat]? = some v := by
 delta at? at e
 cases i with
 | ofNat k =>
  dsimp only at e
  generalize q : Nat.ble k 1000000 = zz at e ⊢
  cases zz with
  | false => exact xN e
  | true =>
   have := Nat.le_of_ble_eq_true q
   exact ⟨Int.natCast_nonneg k, by show (k : Int) < _; omega, e⟩
 | negSucc k => exact xN e
theorem VTs.getInt {vs : List AV} {ws : List Value} (g : VTs prog w Λ vs ws) {i : Int} {v : AV} (e : at? i vs = some v) : 0 ≤ i ∧ i < 2 ^ 63 ∧ ∃ x, ws[i.toNat]? = some x ∧ VT prog w Λ v x := by
 obtain ⟨h1, h2, h3⟩ := Zk7 e
 exact ⟨h1, h2, g.get h3⟩
theorem ZaP {i : Int} {n : Nat} {k : Nat} (h0 : 0 ≤ i) (hk : i.toNat < n) : seqIndex? i n = some i.toNat := by
 obtain ⟨j, rfl⟩ := Int.eq_ofNat_of_zero_le h0
 simp only [Int.toNat_natCast] at hk ⊢
 unfold seqIndex?
 simp only [show ¬ ((j : Int) < 0) from Int.not_lt.mpr h0, if_false]
 rw [if_pos (by rw [decide_eq_true h0, decide_eq_true (Int.ofNat_lt.mpr hk)]; rfl)]; rfl
theorem Zo {α : Type} {o : Option α} {K : α → Prop} (h : Z3 o K) : ∃ a, o = some a ∧ K a := by
 delta Z3 at h
 cases o with
 | none => exact h.elim
 | some a => exact ⟨a, rfl, h⟩
theorem Zch {vs : List AV} {ws : List Value} {n : Nat} {a : Addr} {i : Int} {t : Tok} {K : KE} {Q : Value → Shared → Prop} {value slice : Expr} (h : Z3 (at? i vs) fun v => K v σ) (R : Rep prog w B₀ outs L loc Λ σ ρ s.heap)
  (e : s.heap.get? a = some (ZT ws n)) (g : VTs prog w Λ vs ws) (P : PE prog w B₀ outs L loc Λ ρ K Q s) (hs : Y5 slice = false) : wpAny (model prog w) A (subscriptTail value slice (.ref a) (.int i t)) Q E s := by
 obtain ⟨v, e1, k⟩ := Zo h
 obtain ⟨h0, h1, x, hx, hv⟩ := g.getInt e1
 have hlt : i.toNat < ws.length := (List.getElem?_eq_some_iff.mp hx).1
 exact Xv (YG e).typeIs slot_tuple_getitem.lookup (PyProof.Rows.getItem_tuple (YG e) (by omega) h1 (ZaP (k := 0) h0 (by simpa using hlt)) (by simpa using hx) (P.self R k (.inl hv))) hs
theorem VI {vs : List AV} {ws : List Value} {n : Nat} {a : Addr} {i : Int} {t : Tok} {K : KE} {Q : Value → Shared → Prop} {value slice : Expr} (h : Z3 (at? i vs) fun v => K v σ) (R : Rep prog w B₀ outs L loc Λ σ ρ s.heap)
  (e : s.heap.get? a = some (Zn ws n)) (g : VTs prog w Λ vs ws) (P : PE prog w B₀ outs L loc Λ ρ K Q s) (hs : Y5 slice = false) : wpAny (model prog w) A (subscriptTail value slice (.ref a) (.int i t)) Q E s := by
 obtain ⟨v, e1, k⟩ := Zo h
 obtain ⟨h0, h1, x, hx, hv⟩ := g.getInt e1
 exact Xv (ZQ e).typeIs slot_list_getitem.lookup (wpAny_getItem_list (ZQ e) h0 h1 (by simpa using hx) (P.self R k (.inl hv))) hs
theorem KVs.valueAt_str : ∀ {es : List (Str × AV)} {kvs : List (Str × Value)} {k : Str} {v : AV}, KVs prog w Λ es kvs → Ze k es = some v → ∃ x, valueAt kvs k = some x ∧ VT prog w Λ v x
 | [], kvs, k, v, _, e => by exact xN e
 | (k', a) :: es, kvs, k, v, h, e => by
  obtain ⟨_, _, rfl, h, g⟩ := h.uncons
  rw [U8] at e
  generalize q : sEq k k' = zz at e ⊢
  cases zz with
  | true =>
   (replace e := xI e; cases e)
   have := ZH.mp q
   subst this
   exact ⟨_, by simp [valueAt], h⟩
  | false =>
   obtain ⟨x, h1, h2⟩ := KVs.valueAt_str g e
   have ne : ¬ k' = k := fun z => by rw [z, Yq] at q; exact xT q
   refine ⟨x, ?_, h2⟩
   unfold valueAt at h1 ⊢
   simp only [List.find?_cons, ne, decide_false]
   exact h1
theorem Zdj (i : Int) (p : Int × AV) (l : List (Int × AV)) : UO i (p :: l) = (match decide (i = p.1) with | true => some p.2 | false => UO i l) := rfl
theorem KVs.valueAt_int : ∀ {es : List (Int × AV)} {kvs : List (Int × Value)} {k : Int} {v : AV}, KVs prog w Λ es kvs → UO k es = some v → ∃ x, valueAt kvs k = some x ∧ VT prog w Λ v x
 | [], kvs, k, v, _, e => by exact xN e
 | (k', a) :: es, kvs, k, v, h, e => by
  obtain ⟨_, _, rfl, h, g⟩ := h.uncons
  rw [Zdj] at e
  by_cases q : k = k'
  ·simp only [q, decide_true] at e; (replace e := xI e; cases e)
   subst q
   exact ⟨_, by simp [valueAt], h⟩
  ·simp only [q, decide_false] at e
   obtain ⟨x, h1, h2⟩ := KVs.valueAt_int g e
   refine ⟨x, ?_, h2⟩
   unfold valueAt at h1 ⊢
   dsimp only [List.find?_cons, fun z : k' = k => q z.symm, decide_false]
   rw [show (decide (k' = k)) = false from decide_eq_false fun z => q z.symm]
   exact h1
theorem ZaK (x : Str) (p : Str × Str) (l : List (Str × Str)) : ZJ x (p :: l) = (match sEq x p.1 with | true => some p.2 | false => ZJ x l) := rfl
theorem SSs.valueAt_ : ∀ {es : List (Str × Str)} {kvs : List (Str × Value)} (k : Str), SSs es kvs → (ZJ k es = none ∧ valueAt kvs k = none) ∨ ∃ v t, ZJ k es = some v ∧ valueAt kvs k = some (.str v t)
 | [], kvs, k, h => by cases (h : _ = _); exact .inl ⟨rfl, rfl⟩
 | (k', a) :: es, kvs, k, h => by
  obtain ⟨t, r, e, g⟩ := h
  subst e
  rw [ZaK]
  generalize q : sEq k k' = zz at *
  cases zz with
  | true =>
   have := ZH.mp q
   subst this
   exact .inr ⟨a, t, rfl, by simp [valueAt]⟩
  | false =>
   have ne : ¬ k' = k := fun z => by rw [z, Yq] at q; exact xT q
   have e1 : valueAt ((k', Value.str a t) :: r) k = valueAt r k := by
    unfold valueAt
    simp only [List.find?_cons, ne, decide_false]
   rw [e1]
   exact SSs.valueAt_ k g
theorem ZO (x : Str) (t : Tok) : (strKind prog w).is x (.str x t) = true := by
 show Value.isStrOf x (.str x t) = true
 simp [Value.isStrOf]
theorem J4 (x : Int) (t : Tok) : (intKind prog w).is x (.int x t) = true := by
 show Value.isInt x (.int x t) = true
 simp [Value.isInt]
theorem Zck {i : Int} {t : Tok} {a : AV} {x : Value} {K : KE} {Q : Value → Shared → Prop} {value slice : Expr} (h : getInt i a σ K) (R : Rep prog w B₀ outs L loc Λ σ ρ s.heap) (va : VR prog w Λ ρ a x)
  (P : PE prog w B₀ outs L loc Λ ρ K Q s) (hs : Y5 slice = false) : wpAny (model prog w) A (subscriptTail value slice x (.int i t)) Q E s := by
 delta getInt at h
 cases a with
 | tup vs =>
  obtain ⟨p, ws, n, rfl, e, g⟩ := va.tup_
  exact Zch h R (R.frzAt e) g P hs
 | lst vs =>
  obtain ⟨p, ws, n, rfl, e, g⟩ := va.lst_
  exact VI h R (R.frzAt e) g P hs
 | ref k =>
  obtain ⟨b, rfl, e2⟩ := va.ref_
  dsimp only at h
  generalize hk : σ[k]? = zz at *
  cases zz with
  | none => exact h.elim
  | some o =>
   have H := R.led k o hk
   cases o with
   | lst us =>
    obtain ⟨c, ob, h1, _, h3, ws, n, h4, rfl⟩ := H
    rw [e2] at h1; (replace h1 := xI h1; cases h1)
    exact VI h R h3 h4 P hs
   | ali u =>
    obtain ⟨c, h1, h2⟩ := H
    rw [e2] at h1; (replace h1 := xI h1; cases h1)
    cases u with
    | lst us => cases h2 with | lst h3 g => exact VI h R (R.frzAt h3) g P hs
    | _ => exact h.elim
   | div es =>
    obtain ⟨c, ob, h1, _, h3, kvs, h4, h5⟩ := H
    rw [e2] at h1; (replace h1 := xI h1; cases h1)
    obtain ⟨v, e1, k⟩ := Zo h
    obtain ⟨x, q1, q2⟩ := h4.valueAt_int e1
    have hD : s.heap.DictOf (intKind prog w) b kvs := Heap.dictOf_iff.mpr ⟨ob, h3, h5⟩
    exact Xv hD.mapOf.typeIs slot_dict_getitem.lookup (wpAny_getItem_of (J4 i t) hD.mapOf q1 (P.out R k (.inl q2) _)) hs
   | _ => exact h.elim
 | _ => exact h.elim
theorem Zci {i : Str} {t : Tok} {a : AV} {x : Value} {K : KE} {Q : Value → Shared → Prop} {value slice : Expr} (h : Zcj i a σ K) (R : Rep prog w B₀ outs L loc Λ σ ρ s.heap) (va : VR prog w Λ ρ a x)
  (P : PE prog w B₀ outs L loc Λ ρ K Q s) (hs : Y5 slice = false) : wpAny (model prog w) A (subscriptTail value slice x (.str i t)) Q E s := by
 delta Zcj at h
 cases a with
 | dss es =>
  obtain ⟨p, o, rfl, _, e, kvs, h1, h2⟩ := va.dss_
  obtain ⟨v, e1, k⟩ := Zo h
  have hD : s.heap.DictOf (strKind prog w) p kvs := Heap.dictOf_iff.mpr ⟨o, R.frzAt e, h2⟩
  obtain ⟨q1, _⟩ | ⟨v', t', q1, q2⟩ := h1.valueAt_ i
  ·rw [q1] at e1; exact xN e1
  ·rw [q1] at e1; (replace e1 := xI e1; cases e1)
   exact Xv hD.mapOf.typeIs slot_dict_getitem.lookup (wpAny_getItem_of (ZO i t) hD.mapOf q2 (P.out R k (Jk _ _) _)) hs
 | ref k =>
  obtain ⟨b, rfl, e2⟩ := va.ref_
  dsimp only at h
  generalize hk : σ[k]? = zz at *
  cases zz with
  | none => exact h.elim
  | some o =>
   have H := R.led k o hk
   cases o with
   | dsv es =>
    obtain ⟨c, ob, h1, _, h3, kvs, h4, h5⟩ := H
    rw [e2] at h1; (replace h1 := xI h1; cases h1)
    obtain ⟨v, e1, k⟩ := Zo h
    obtain ⟨x, q1, q2⟩ := h4.valueAt_str e1
    have hD : s.heap.DictOf (strKind prog w) b kvs := Heap.dictOf_iff.mpr ⟨ob, h3, h5⟩
    exact Xv hD.mapOf.typeIs slot_dict_getitem.lookup (wpAny_getItem_of (ZO i t) hD.mapOf q1 (P.out R k (.inl q2) _)) hs
   | _ => exact h.elim
 | _ => exact h.elim
theorem Zia {a b : AV} {x y : Value} {K : KE} {Q : Value → Shared → Prop} {value slice : Expr} (h : Zgi a b σ K) (R : Rep prog w B₀ outs L loc Λ σ ρ s.heap) (va : VR prog w Λ ρ a x) (vb : VR prog w Λ ρ b y)
  (P : PE prog w B₀ outs L loc Λ ρ K Q s) (hs : Y5 slice = false) : wpAny (model prog w) A (subscriptTail value slice x y) Q E s := by
 cases b with
 | int i => obtain ⟨t, rfl⟩ := vb.int_; exact Zck h R va P hs
 | str i => obtain ⟨t, rfl⟩ := vb.str_; exact Zci h R va P hs
 | _ => exact h.elim
end
noncomputable def GOk (prog : Program) (w : World) (B₀ : Heap) (pg : Pg) : Prop := ∀ x v, Ze x pg.glob = some v → Ym v = true ∧ ∃ val, (∀ Λ : Lay, (∀ a o, B₀.get? a = some o → Λ a = .frz o) → VT prog w Λ v val) ∧
 ∀ (env : Env) (A : Around) (E : Value → Shared → Prop) (Q : Value → Shared → Prop) (s : Shared), env.globals = mainGlobals → env.builtins = builtinsNs → B₀.StaysIn s.heap → Q val s → wpAny (model prog w) A (loadGlobal env x) Q E s
noncomputable def Y6 (comp : Bool) (env : Env) (outs : List Env) : List Env := match comp with
 | true => outs
 | false => env :: outs
structure Cx (B₀ : Heap) (A : Around) (env : Env) (outs : List Env) (L : Addr) (fi : FI) (n : Nat) : Prop where
 frames : A.frames = some (Y6 fi.comp env outs)
 frame : fi.comp = false → env.frame = some L
 cells : ∀ x c, Ze x fi.cells = some c → env.cells.lookup x = some c
 locals : env.locals = L
 kind : env.scope.kind = .function
 names : env.scope.names = fi.names
 calm : fi.calm = true → A.handled = none
 globals : env.globals = mainGlobals
 builtins : env.builtins = builtinsNs
 depth : A.depth + n ≤ 990
 units : A.units + 8 * n ≤ 9800
section
variable {prog : Program} {w : World} {B₀ : Heap} {outs : List Env} {L : Addr} {loc : List (Str × AV)} {Λ Λ' : Lay} {σ σ' : List AO} {ρ ρ' : List Addr} {A : Around} {E : Value → Shared → Prop} {s : Shared} {env : Env} {pg : Pg} {fi : FI} {n : Nat}
theorem ZhX {c : Const} {k : Nat} {pos : Pos} {K : KE} {Q : Value → Shared → Prop} (h : ZlM c σ K) (R : Rep prog w B₀ outs L loc Λ σ ρ s.heap) (P : PE prog w B₀ outs L loc Λ ρ K Q s) : wpAny (model prog w) A (eval (.Constant c k pos) env) Q E s := by
 cases c with
 | none => exact Constant_none (P.self R h ZeW)
 | bool b => exact Constant_bool (P.self R h (ZcU b))
 | int i => exact wpAny_Constant_int (P.out R h (Jl _ _) _)
 | str x => exact PySem.Calls.Constant_str (P.out R h (Jk _ _) _)
 | _ => exact h.elim
theorem Cx.kindOf (C : Cx B₀ A env outs L fi n) (x : Str) : env.kindOf x = Ze x fi.names := by
 unfold Env.kindOf
 rw [C.names, Ye]
theorem ZfD {v : AV} (h : Ww v = false) : Za3 v = true := by
 cases v <;> first | rfl | exact xT h
theorem VS {x : Str} {pos : Pos} {K : KE} {Q : Value → Shared → Prop} (C : Cx B₀ A env outs L fi n) (G : GOk prog w B₀ pg) (h : UL pg fi loc σ x K) (R : Rep prog w B₀ outs L loc Λ σ ρ s.heap)
  (P : PE prog w B₀ outs L loc Λ ρ K Q s) : wpAny (model prog w) A (eval (.Name x pos) env) Q E s := by
 delta UL at h
 generalize hd : sEq x (Str.ofString "__debug__") = zz at h ⊢
 cases zz with
 | true => exact h.elim
 | false =>
  refine wpAny_Name ?_ (by rw [← Xh]; exact hd)
  have hk := C.kindOf x
  generalize Ze x fi.names = zz at h hk ⊢
  cases zz with
  | none => exact h.elim
  | some k =>
   cases k with
   | «local» =>
    simp only at h
    generalize q2 : Ze x loc = zz at h ⊢
    cases zz with
    | none => exact h.elim
    | some v =>
     simp only at h
     delta ncP at h
     cases q3 : Ww v with
     | true => rw [q3] at h; exact h.elim
     | false =>
     rw [q3] at h
     obtain ⟨m, ns, l⟩ := R.ns
     obtain ⟨y, h1, h2⟩ := l.look (by rw [← Ye]; exact q2) (ZfD q3)
     exact wpAny_loadName_local C.kind hk (by rw [C.locals]; exact ns) h1 (P.self R h h2)
   | cell =>
    generalize q2 : Ze x loc = zz at h ⊢
    cases zz with
    | none => exact h.elim
    | some v =>
     cases v with
     | cel c u =>
      dsimp only at h
      generalize q3 : Ze x fi.cells = zz at h ⊢
      cases zz with
      | none => exact h.elim
      | some d =>
       simp only at h
       have k9 := h.r
       obtain rfl := h.l
       obtain ⟨m, ns, l⟩ := R.ns
       obtain ⟨o, y, h1, h2, h3⟩ := l.cel (by rw [← Ye]; exact q2)
       exact wpAny_loadName_cell C.kind hk (C.cells _ _ q3) ⟨o, R.toRep0.frzAt h1, h2⟩ (P.self R k9 (.inl h3))
     | _ => exact h.elim
   | globalImplicit =>
    simp only at h
    generalize q2 : Ze x pg.glob = zz at h ⊢
    cases zz with
    | none => exact h.elim
    | some v =>
     obtain ⟨_, val, hv, hl⟩ := G x v q2
     rw [loadName_read C.kind hk]
     exact hl env A E Q s C.globals C.builtins R.toRep0.keep (P.self R h (.inl (hv Λ R.b0)))
   | _ => exact h.elim
theorem Wh {x : Str} {v : AV} {y : Value} {K : Loc → Prop} {Q : Unit → Shared → Prop} (C : Cx B₀ A env outs L fi n) (h : XD fi x v loc K) (R : Rep prog w B₀ outs L loc Λ σ ρ s.heap) (V : VR prog w Λ ρ v y)
  (hq : ∀ h' loc', K loc' → Rep prog w B₀ outs L loc' Λ σ ρ h' → Q () { s with heap := h', toks := s.toks + 1 }) : wpAny (model prog w) A (storeName env x y) Q E s := by
 rw [Wi] at h
 have hk := C.kindOf x
 generalize q : Ze x fi.names = zz at h hk ⊢
 cases zz with
 | none => exact h.elim
 | some k =>
  cases k with
  | «local» =>
   obtain ⟨m, ns, l⟩ := R.ns
   refine wpAny_storeName_local hk (by rw [C.locals]; exact ns) (fun h' hn hs => hq h' _ h (R.move (fun b o q e => ?_) (by rw [C.locals] at hn; exact hn) (l.put V))) (by rw [C.kind]; rfl)
   rw [C.locals] at hs
   rw [hs.2 b q]; exact e
  | _ => exact h.elim
theorem Zh3 {v : AV} {x : Value} {K : Bool → Prop} (h : isB v K) (V : VR prog w Λ ρ v x) : ∃ b, x = .bool b ∧ v = .bool b ∧ K b := by
 cases v with
 | bool b => exact ⟨b, V.bool_, rfl, h⟩
 | _ => exact h.elim
set_option tactic.hygienic true in
theorem ZhY {v : AV} {x : Value} {k : Nat} {Q : Value → Shared → Prop} (e : ZfV σ v = some k) (hl : ZU k) (R : Rep0 prog w B₀ Λ σ ρ s.heap) (V : VR prog w Λ ρ v x) (hq : ∀ t tk, Q (.int k t) { s with toks := tk }) :
  wpAny (model prog w) A (call (.builtin "len") [x]) Q E s := by
 have hk : k ≤ 2 ^ 24 := U4 hl
 have lst : Yz σ v = some (List.replicate 0 .none) ∨ (∃ vs, Yz σ v = some vs ∧ vs.length = k) → (∃ vs, Yz σ v = some vs ∧ vs.length = k) → wpAny (model prog w) A (call (.builtin "len") [x]) Q E s := fun _ ⟨vs, e1, e2⟩ => by
  obtain ⟨a, ws, n, rfl, h1, g⟩ := R.list e1 V
  refine call_len_list (ZQ h1) ?_ ?_
  ·simp only [List.size_toArray, g.length, e2]; omega
  ·simp only [List.size_toArray, g.length, e2]; exact hq _ _
 delta ZfV at e
 cases v with
 | str z =>
  (replace e := xI e; cases e)
  obtain ⟨t, rfl⟩ := V.str_
  rw [WZ] at *
  exact PyProof.Rows.len_str (by omega) (hq _ _)
 | tup vs =>
  (replace e := xI e; cases e)
  obtain ⟨a, ws, n, rfl, h1, g⟩ := V.tup_
  refine PyProof.Rows.len_tuple (YG (R.frzAt h1)) ?_ ?_
  ·simp only [List.size_toArray, g.length]; omega
  ·simp only [List.size_toArray, g.length]; exact hq _ _
 | _ =>
  simp only at e
  split at e
  ·rename_i vs q; (replace e := xI e; cases e); exact lst (.inr ⟨vs, q, rfl⟩) ⟨vs, q, rfl⟩
  ·exact xN e
theorem Yw {α : Type} {l : List α} {a : α} (e : Uo l = some a) : l = [a] := by
 cases l with
 | nil => exact xN e
 | cons b l => cases l with
  | nil => (replace e := xI e; cases e); rfl
  | cons _ _ => exact xN e
theorem XU {α : Type} {l : List α} {p : α × α} (e : ZbF l = some p) : l = [p.1, p.2] := by
 cases l with
 | nil => exact xN e
 | cons b l => cases l with
  | nil => exact xN e
  | cons c l => cases l with
   | nil => (replace e := xI e; cases e); rfl
   | cons _ _ => exact xN e
theorem VRs.one {v : AV} {xs : List Value} (h : VRs prog w Λ ρ [v] xs) : ∃ x, xs = [x] ∧ VR prog w Λ ρ v x := by
 obtain ⟨_, _, rfl, h, g⟩ := h.uncons
 cases g; exact ⟨_, rfl, h⟩
theorem VRs.two {v u : AV} {xs : List Value} (h : VRs prog w Λ ρ [v, u] xs) : ∃ x y, xs = [x, y] ∧ VR prog w Λ ρ v x ∧ VR prog w Λ ρ u y := by
 obtain ⟨_, _, rfl, h, g⟩ := h.uncons
 obtain ⟨y, rfl, h'⟩ := g.one
 exact ⟨_, y, rfl, h, h'⟩
theorem Zca {v : AV} {x : Value} {t : TY} {b : Bool} {Q : Value → Shared → Prop} (e : Zf5 t v = some b) (V : VR prog w Λ ρ v x) (hq : ∀ tk, Q (.bool b) { s with toks := tk }) :
  wpAny (model prog w) A (call (.builtin "isinstance") [x, .type t.nm]) Q E s := by
 cases t with
 | bool =>
  cases v with
  | none => (replace e := xI e; cases e); obtain rfl := V.none_; exact IsiPair.NoneType_bool (hq _)
  | bool c => (replace e := xI e; cases e); obtain rfl := V.bool_; exact IsiPair.bool_bool (hq s.toks)
  | int i => (replace e := xI e; cases e); obtain ⟨t, rfl⟩ := V.int_; exact IsiPair.int_bool (hq _)
  | str z => (replace e := xI e; cases e); obtain ⟨t, rfl⟩ := V.str_; exact IsiPair.str_bool (hq _)
  | _ => exact xN e
 | int =>
  cases v with
  | none => (replace e := xI e; cases e); obtain rfl := V.none_; exact IsiPair.NoneType_int (hq _)
  | bool c => (replace e := xI e; cases e); obtain rfl := V.bool_; exact IsiPair.bool_int (hq s.toks)
  | int i => (replace e := xI e; cases e); obtain ⟨t, rfl⟩ := V.int_; exact IsiPair.int_int (hq s.toks)
  | str z => (replace e := xI e; cases e); obtain ⟨t, rfl⟩ := V.str_; exact IsiPair.str_int (hq _)
  | _ => exact xN e
 | _ => exact xN e
theorem Zk4 {b : BI} {args : List AV} {xs : List Value} {calm : Bool} {K : KE} {Q : Value → Shared → Prop} (hc : calm = true → A.handled = none) (h : biP calm b args σ K) (R : Rep prog w B₀ outs L loc Λ σ ρ s.heap) (V : VRs prog w Λ ρ args xs)
  (P : PE prog w B₀ outs L loc Λ ρ K Q s) : wpAny (model prog w) A (call (.builtin b.nm) xs) Q E s := by
 cases b with
 | len =>
  obtain ⟨v, e1, h2⟩ := Zo h
  obtain ⟨k, e2, hlk⟩ := Zo h2
  have hl := hlk.l
  have hk := hlk.r
  obtain rfl := Yw e1
  obtain ⟨x, rfl, W⟩ := V.one
  exact ZhY e2 hl R.toRep0 W fun t tk => P.out R hk (Jl _ _) _
 | isinstance =>
  obtain ⟨p, e1, h2⟩ := Zo h
  obtain rfl := XU e1
  try clear e1; try clear W; try clear hl; try clear hlk; try clear k; try clear h; try clear hc; try clear Q; try clear K; try clear calm; try clear xs; try clear args
  obtain ⟨x, y, rfl, V1, V2⟩ := V.two
  obtain ⟨v, u⟩ := p
  cases u with
  | ty t =>
   obtain ⟨b, e2, hk⟩ := Zo h2
   obtain rfl := V2.ty_
   exact Zca e2 V1 fun tk => P.out R hk (ZcU _) _
  | _ => exact h2.elim
 | abs =>
  obtain ⟨v, e1, h2⟩ := Zo h
  obtain rfl := Yw e1
  try clear e1; try clear hk; try clear e2; try clear b; try clear V2; try clear V1; try clear y; try clear p; try clear hl; try clear hlk; try clear k; try clear h; try clear hc; try clear Q; try clear K; try clear calm; try clear xs; try clear args
  obtain ⟨x, rfl, W⟩ := V.one
  cases v with
  | int i =>
   obtain ⟨t, rfl⟩ := W.int_
   refine call_abs_int fun u tk => ?_
   have e : (if i < 0 then -i else i) = (match decide (i < 0) with | true => -i | false => i) := by
    by_cases q : i < 0 <;> simp [q]
   rw [e]
   exact P.out R h2 (Jl _ _) _
  | _ => exact h2.elim
 | min =>
  obtain ⟨p, e1, h2⟩ := Zo h
  obtain rfl := XU e1
  try clear e1; try clear e; try clear W; try clear hk; try clear e2; try clear b; try clear hl; try clear hlk; try clear h; try clear Q; try clear K; try clear calm; try clear xs; try clear args
  obtain ⟨x, y, rfl, V1, V2⟩ := V.two
  obtain ⟨v, u⟩ := p
  cases v with
  | int i =>
   cases u with
   | int j =>
    obtain ⟨t, rfl⟩ := V1.int_
    obtain ⟨t', rfl⟩ := V2.int_
    refine min_two_ints (hc h2.l) fun h' tk k => ?_
    have R' := R.grow k
    refine P _ _ Λ ρ _ h' tk h2.r (Lay.le.refl _) (List.prefix_refl _) R' ?_
    by_cases q : j < i
    ·simp only [Gm, q, if_true, decide_true]; exact Jl _ _
    ·simp only [Gm, q, if_false, decide_false]; exact Jl _ _
   | _ => exact h2.elim
  | _ => exact h2.elim
theorem Zjo {t : TY} {args : List AV} {xs : List Value} {K : KE} {Q : Value → Shared → Prop} (h : tyP t args σ K) (R : Rep prog w B₀ outs L loc Λ σ ρ s.heap) (V : VRs prog w Λ ρ args xs)
  (P : PE prog w B₀ outs L loc Λ ρ K Q s) : wpAny (model prog w) A (call (.type t.nm) xs) Q E s := by
 cases t with
 | str =>
  obtain ⟨v, e1, h2⟩ := Zo h
  obtain rfl := Yw e1
  try clear e1; try clear h; try clear Q; try clear K; try clear xs; try clear args
  obtain ⟨x, rfl, W⟩ := V.one
  cases v with
  | int i =>
   obtain ⟨t, rfl⟩ := W.int_
   refine PySem.P.str_of_int (shown (N := 2 ^ 70) ?_ ?_ (by decide +kernel)) (P.out R h2.r (by have e : Zs i = Str.ofString (toString i) := (by delta Zs; rfl); rw [e]; exact Jk _ _) _)
   ·have := h2.l; omega
   ·have := h2.l; omega
  | str z =>
   obtain ⟨t, rfl⟩ := W.str_
   exact PySem.P.str_of_str (P.self R h2 (Jk _ _))
  | _ => exact h2.elim
 | tuple =>
  obtain ⟨v, e1, h2⟩ := Zo h
  obtain rfl := Yw e1
  obtain ⟨x, rfl, W⟩ := V.one
  cases v with
  | tup vs =>
   obtain ⟨a, ws, n, rfl, e, g⟩ := W.tup_
   exact call_tuple_tup (YG (R.frzAt e)) (P.self R h2 (.inl (.tup e g)))
  | _ => exact h2.elim
 | _ => exact h.elim
end
inductive FlR (prog : Program) (w : World) (Λ : Lay) (ρ : List Addr) : Fl → Flow → Prop
 | next : FlR prog w Λ ρ .next .next
 | ret {v x} : VR prog w Λ ρ v x → FlR prog w Λ ρ (.ret v) (.ret x)
section
variable (prog : Program) (w : World) (B₀ : Heap) (outs : List Env) (L : Addr) (Λ : Lay) (ρ : List Addr)
noncomputable def PS (K : KS) (Q : Flow → Shared → Prop) (s : Shared) : Prop :=
 ∀ f loc' σ' Λ' ρ' fl h' tk, K f loc' σ' → Λ.le Λ' → ρ <+: ρ' → Rep prog w B₀ outs L loc' Λ' σ' ρ' h' → FlR prog w Λ' ρ' f fl → Q fl { s with heap := h', toks := tk }
noncomputable def PXS (X : KX) (E : Value → Shared → Prop) (s : Shared) : Prop :=
 ∀ x loc' σ' Λ' ρ' e h' tk, X x loc' σ' → Λ.le Λ' → ρ <+: ρ' → Rep prog w B₀ outs L loc' Λ' σ' ρ' h' → U5 prog w Λ' h' L x e → E (.ref e) { s with heap := h', toks := tk }
end
section
variable {prog : Program} {w : World} {B₀ : Heap} {outs : List Env} {L : Addr} {loc : List (Str × AV)} {Λ Λ' : Lay} {σ σ' : List AO} {ρ ρ' : List Addr} {A : Around} {E : Value → Shared → Prop} {s : Shared}
theorem PS.at {K : KS} {Q : Flow → Shared → Prop} (P : PS prog w B₀ outs L Λ ρ K Q s) (l : Λ.le Λ') (p : ρ <+: ρ') (h : Heap) (tk : Nat) : PS prog w B₀ outs L Λ' ρ' K Q { s with heap := h, toks := tk } :=
 fun f loc' σ' Λ'' ρ'' fl h' tk' k l' p' R V => P f loc' σ' Λ'' ρ'' fl h' tk' k (l.trans l') (p.trans p') R V
theorem PXS.at {X : KX} {E : Value → Shared → Prop} (P : PXS prog w B₀ outs L Λ ρ X E s) (l : Λ.le Λ') (p : ρ <+: ρ') (h : Heap) (tk : Nat) : PXS prog w B₀ outs L Λ' ρ' X E { s with heap := h, toks := tk } :=
 fun x loc' σ' Λ'' ρ'' e h' tk' k l' p' R V => P x loc' σ' Λ'' ρ'' e h' tk' k (l.trans l') (p.trans p') R V
theorem PXS.expr {X : KX} {E : Value → Shared → Prop} (P : PXS prog w B₀ outs L Λ ρ X E s) : PX prog w B₀ outs L loc Λ ρ (fun x σ => X x loc σ) E s :=
 fun x σ' Λ' ρ' e h' tk k l p R V => P x loc σ' Λ' ρ' e h' tk k l p R V
end
structure Snd (prog : Program) (w : World) (B₀ : Heap) (pg : Pg) (n : Nat) : Prop where
 E : ∀ {A : Around} {env : Env} {outs : List Env} {L : Addr} {fi : FI}, Cx B₀ A env outs L fi n → ∀ {loc : Loc} {σ : Led} {Λ : Lay} {ρ : List Addr} {s : Shared} {e : Expr} {K : KE} {X : KC} {Q : Value → Shared → Prop} {E : Value → Shared → Prop},
  (ev pg n).E fi loc σ e K X → Rep prog w B₀ outs L loc Λ σ ρ s.heap → PE prog w B₀ outs L loc Λ ρ K Q s → PX prog w B₀ outs L loc Λ ρ X E s → wpAny (model prog w) A (eval e env) Q E s
 T : ∀ {A : Around} {env : Env} {outs : List Env} {L : Addr} {fi : FI}, Cx B₀ A env outs L fi n → ∀ {loc : Loc} {σ : Led} {Λ : Lay} {ρ : List Addr} {s : Shared} {e : Expr} {K : KB} {X : KC} {Q : Bool → Shared → Prop} {E : Value → Shared → Prop},
  (ev pg n).T fi loc σ e K X → Rep prog w B₀ outs L loc Λ σ ρ s.heap → PB prog w B₀ outs L loc Λ ρ K Q s → PX prog w B₀ outs L loc Λ ρ X E s → wpAny (model prog w) A (isTrue e env (eval e env)) Q E s
 Ss : ∀ {A : Around} {env : Env} {outs : List Env} {L : Addr} {fi : FI}, Cx B₀ A env outs L fi n → ∀ {loc : Loc} {σ : Led} {Λ : Lay} {ρ : List Addr} {s : Shared} {ss : List Stmt} {K : KS} {X : KX} {Q : Flow → Shared → Prop} {E : Value → Shared → Prop},
  (ev pg n).Ss fi loc σ ss K X → Rep prog w B₀ outs L loc Λ σ ρ s.heap → PS prog w B₀ outs L Λ ρ K Q s → PXS prog w B₀ outs L Λ ρ X E s → wpAny (model prog w) A (execs ss env) Q E s
 C : ∀ {A : Around} {env : Env} {outs : List Env} {L : Addr} {fi : FI}, Cx B₀ A env outs L fi n → ∀ {loc : Loc} {σ : Led} {Λ : Lay} {ρ : List Addr} {s : Shared} {a : Nat} {args : List AV} {xs : List Value} {K : KE} {X : KC} {Q : Value → Shared → Prop} {E : Value → Shared → Prop},
  (ev pg n).C fi.calm a args σ K X → Rep prog w B₀ outs L loc Λ σ ρ s.heap → VRs prog w Λ ρ args xs → PE prog w B₀ outs L loc Λ ρ K Q s → PX prog w B₀ outs L loc Λ ρ X E s → wpAny (model prog w) A (call (.ref a) xs) Q E s
theorem Cx.less {B₀ : Heap} {A : Around} {env : Env} {outs : List Env} {L : Addr} {fi : FI} {n : Nat} (C : Cx B₀ A env outs L fi (n + 1)) : Cx B₀ A env outs L fi n :=
 { C with depth := Nat.le_trans (Nat.add_le_add_left (Nat.le_succ n) _) C.depth, units := Nat.le_trans (Nat.add_le_add_left (Nat.mul_le_mul_left 8 (Nat.le_succ n)) _) C.units }
theorem Cx.room {B₀ : Heap} {A : Around} {env : Env} {outs : List Env} {L : Addr} {fi : FI} {n : Nat} (C : Cx B₀ A env outs L fi n) : A.units + 80 < cLine := by
 show _ < 9900
 exact Nat.lt_of_le_of_lt (Nat.add_le_add_right (Nat.le_trans (Nat.le_add_right _ _) C.units) 80) (by decide)
section
variable {prog : Program} {w : World} {B₀ : Heap} {pg : Pg} {n : Nat} {A : Around} {env : Env} {outs : List Env} {L : Addr} {fi : FI} {loc : Loc} {E : Value → Shared → Prop} {X : KC}
theorem Y4 {e : Expr} {es : List Expr} {env : Env} (h : noStar (e :: es) = true) : starEach (e :: es) env = (false, eval e env) :: starEach es env ∧ noStar es = true := by
 cases e <;> first | exact And.intro rfl h | exact xF h
theorem GH (S : Snd prog w B₀ pg n) (C : Cx B₀ A env outs L fi n) {pos : Pos} : ∀ {m : Nat} {es : List Expr} {σ : Led} {Λ : Lay} {ρ : List Addr} {s : Shared} {K : KL} {Q : List Value → Shared → Prop}, noStar es = true → Ziu (ev pg n) fi loc m es σ K X →
  Rep prog w B₀ outs L loc Λ σ ρ s.heap → PL prog w B₀ outs L loc Λ ρ K Q s → PX prog w B₀ outs L loc Λ ρ X E s → wpAny (model prog w) A (spliced (backTo pos (starEach es env))) Q E s
 | m, [], σ, Λ, ρ, s, K, Q, _, h, R, P, PX => wpAny_items_nil (P _ _ Λ ρ _ s.heap s.toks (by cases m <;> exact h) (Lay.le.refl _) (List.prefix_refl _) R .nil)
 | 0, e :: es, σ, Λ, ρ, s, K, Q, hn, h, R, P, PX => (show False from h).elim
 | m + 1, e :: es, σ, Λ, ρ, s, K, Q, hn, h, R, P, PX => by
  obtain ⟨hs, hn'⟩ := Y4 (env := env) hn
  refine wpAny_items_cons ?_ hs
  refine S.E C h R (fun v σ' Λ' ρ' x h' tk k l p R' V => ?_) PX
  refine GH S C (s := { s with heap := h', toks := tk }) hn' k R' (fun vs σ₂ Λ₂ ρ₂ xs h₂ tk₂ k₂ l₂ p₂ R₂ V₂ => ?_) (PX.at l p h' tk)
  exact P _ _ Λ₂ ρ₂ _ h₂ tk₂ k₂ (l.trans l₂) (p.trans p₂) R₂ (.cons (V.mono l₂.sees p₂) V₂)
theorem XA (S : Snd prog w B₀ pg n) (C : Cx B₀ A env outs L fi n) {pos : Pos} {es : List Expr} {σ : Led} {Λ : Lay} {ρ : List Addr} {s : Shared} {K : KL} {Q : List Value → Shared → Prop} (hn : noStar es = true) (h : XS (ev pg n) fi loc es σ K X)
  (R : Rep prog w B₀ outs L loc Λ σ ρ s.heap) (P : PL prog w B₀ outs L loc Λ ρ K Q s) (PX : PX prog w B₀ outs L loc Λ ρ X E s) : wpAny (model prog w) A (spliced (backTo pos (starEach es env))) Q E s :=
 GH S C hn (ZeA ▸ h) R P PX
noncomputable def ZbB (prog : Program) (w : World) (B₀ : Heap) : Prop := ∀ {outs : List Env} {L : Addr} {loc : Loc} {A : Around} {E : Value → Shared → Prop} {Q : Value → Shared → Prop} {s : Shared} {σ : Led} {Λ : Lay} {ρ : List Addr} {op : CmpOp} {a b : AV} {x y : Value} {K : Bool → Prop},
 ZgU op a b σ K → Rep prog w B₀ outs L loc Λ σ ρ s.heap → VR prog w Λ ρ a x → VR prog w Λ ρ b y → A.units + 80 < cLine → (∀ c tk, K c → Q (.bool c) { s with toks := tk }) → wpAny (model prog w) A (compareOp op x y) Q E s
theorem XM {p q : Prop} (h : Wx true p q) : p := h
theorem XN {p q : Prop} (h : Wx false p q) : q := h
theorem GU (S : Snd prog w B₀ pg n) (M : ZbB prog w B₀) (C : Cx B₀ A env outs L fi n) {pos : Pos} : ∀ {ops : List CmpOp} {es : List Expr} {l : AV} {x : Value} {σ : Led} {Λ : Lay} {ρ : List Addr} {s : Shared} {K : KB} {Q : Value → Shared → Prop},
  Ge (ev pg n) fi loc l ops es σ K X → Rep prog w B₀ outs L loc Λ σ ρ s.heap → VR prog w Λ ρ l x → PB prog w B₀ outs L loc Λ ρ K (fun b s' => Q (.bool b) s') s → PX prog w B₀ outs L loc Λ ρ X E s →
  wpAny (model prog w) A (compareChain pos x ops (evalEach es env)) Q E s
 | [], es, l, x, σ, Λ, ρ, s, K, Q, h, R, V, P, PX => h.elim
 | [op], [], l, x, σ, Λ, ρ, s, K, Q, h, R, V, P, PX => h.elim
 | op :: op' :: ops, [], l, x, σ, Λ, ρ, s, K, Q, h, R, V, P, PX => h.elim
 | [op], [e], l, x, σ, Λ, ρ, s, K, Q, h, R, V, P, PX => by
  refine chain_last ?_
  refine S.E C h R (fun b σ' Λ' ρ' y h' tk k l' p' R' V' => ?_) PX
  exact M (s := { s with heap := h', toks := tk }) k R' (V.mono l'.sees p') V' C.room fun c tk' hc => P _ _ Λ' ρ' h' tk' hc l' p' R'
 | [op], e :: e' :: es, l, x, σ, Λ, ρ, s, K, Q, h, R, V, P, PX => h.elim
 | op :: op' :: ops, [e], l, x, σ, Λ, ρ, s, K, Q, h, R, V, P, PX => h.elim
 | op :: op' :: ops, e :: e' :: es, l, x, σ, Λ, ρ, s, K, Q, h, R, V, P, PX => by
  refine chain_link ?_
  refine S.E C h R (fun b σ' Λ' ρ' y h' tk k l' p' R' V' => ?_) PX
  refine M (s := { s with heap := h', toks := tk }) k R' (V.mono l'.sees p') V' C.room fun c tk' hc => wpAny_truthy_bool ?_
  cases c with
  | false => exact P _ _ Λ' ρ' h' tk' (XN hc) l' p' R'
  | true => exact GU S M C (s := { s with heap := h', toks := tk' }) (XM hc) R' V' (P.at l' p' h' tk') (PX.at l' p' h' tk')
theorem ZaG (S : Snd prog w B₀ pg n) (M : ZbB prog w B₀) (C : Cx B₀ A env outs L fi n) {pos : Pos} : ∀ {ops : List CmpOp} {es : List Expr} {l : AV} {x : Value} {σ : Led} {Λ : Lay} {ρ : List Addr} {s : Shared} {K : KB} {Q : Bool → Shared → Prop},
  Ge (ev pg n) fi loc l ops es σ K X → Rep prog w B₀ outs L loc Λ σ ρ s.heap → VR prog w Λ ρ l x → PB prog w B₀ outs L loc Λ ρ K Q s → PX prog w B₀ outs L loc Λ ρ X E s →
  wpAny (model prog w) A (testChain pos x ops (evalEach es env)) Q E s
 | [], es, l, x, σ, Λ, ρ, s, K, Q, h, R, V, P, PX => h.elim
 | [op], [], l, x, σ, Λ, ρ, s, K, Q, h, R, V, P, PX => h.elim
 | op :: op' :: ops, [], l, x, σ, Λ, ρ, s, K, Q, h, R, V, P, PX => h.elim
 | [op], [e], l, x, σ, Λ, ρ, s, K, Q, h, R, V, P, PX => by
  refine test_last ?_
  refine S.E C h R (fun b σ' Λ' ρ' y h' tk k l' p' R' V' => ?_) PX
  exact M (s := { s with heap := h', toks := tk }) k R' (V.mono l'.sees p') V' C.room fun c tk' hc => wpAny_truthy_bool (P _ _ Λ' ρ' h' tk' hc l' p' R')
 | [op], e :: e' :: es, l, x, σ, Λ, ρ, s, K, Q, h, R, V, P, PX => h.elim
 | op :: op' :: ops, [e], l, x, σ, Λ, ρ, s, K, Q, h, R, V, P, PX => h.elim
 | op :: op' :: ops, e :: e' :: es, l, x, σ, Λ, ρ, s, K, Q, h, R, V, P, PX => by
  refine test_link ?_
  refine S.E C h R (fun b σ' Λ' ρ' y h' tk k l' p' R' V' => ?_) PX
  refine M (s := { s with heap := h', toks := tk }) k R' (V.mono l'.sees p') V' C.room fun c tk' hc => wpAny_truthy_bool ?_
  cases c with
  | false => exact P _ _ Λ' ρ' h' tk' (XN hc) l' p' R'
  | true => exact ZaG S M C (s := { s with heap := h', toks := tk' }) (XM hc) R' V' (P.at l' p' h' tk') (PX.at l' p' h' tk')
theorem marks_of {ops : List CmpOp} {es : List Expr} (h : Zad ops es = true) (ts : List (Sem Value)) : markedEach ops es ts = ts := by
 refine markedEach_of_false _ _ _ ?_
 delta Zad at h
 cases q : lastMarks ops es with
 | false => rfl
 | true => rw [q] at h; exact xF h
theorem Zat (S : Snd prog w B₀ pg n) (C : Cx B₀ A env outs L fi n) {op : BoolOp} : ∀ {es : List Expr} {σ : Led} {Λ : Lay} {ρ : List Addr} {s : Shared} {K : KB} {Q : Bool → Shared → Prop},
  ZiM (ev pg n) fi loc op es σ K X → Rep prog w B₀ outs L loc Λ σ ρ s.heap → PB prog w B₀ outs L loc Λ ρ K Q s → PX prog w B₀ outs L loc Λ ρ X E s → wpAny (model prog w) A (allTrue op es env) Q E s
 | [], σ, Λ, ρ, s, K, Q, h, R, P, PX => by
  cases op with
  | And => exact wpAny_allTrue_And_nil (P _ _ Λ ρ s.heap s.toks h (Lay.le.refl _) (List.prefix_refl _) R)
  | Or => exact wpAny_allTrue_Or_nil (P _ _ Λ ρ s.heap s.toks h (Lay.le.refl _) (List.prefix_refl _) R)
 | e :: es, σ, Λ, ρ, s, K, Q, h, R, P, PX => by
  cases op with
  | And =>
   refine wpAny_allTrue_And_cons ?_
   refine S.T C h R (fun c σ' Λ' ρ' h' tk k l' p' R' => ?_) PX
   cases c with
   | false => exact P _ _ Λ' ρ' h' tk (XN k) l' p' R'
   | true => exact Zat S C (s := { s with heap := h', toks := tk }) (XM k) R' (P.at l' p' h' tk) (PX.at l' p' h' tk)
  | Or =>
   refine wpAny_allTrue_Or_cons ?_
   refine S.T C h R (fun c σ' Λ' ρ' h' tk k l' p' R' => ?_) PX
   cases c with
   | false => exact Zat S C (s := { s with heap := h', toks := tk }) (XN k) R' (P.at l' p' h' tk) (PX.at l' p' h' tk)
   | true => exact P _ _ Λ' ρ' h' tk (XM k) l' p' R'
theorem Gf (S : Snd prog w B₀ pg n) (C : Cx B₀ A env outs L fi n) {op : BoolOp} {pos : Pos} : ∀ {es : List Expr} {σ : Led} {Λ : Lay} {ρ : List Addr} {s : Shared} {K : KE} {Q : Value → Shared → Prop},
  ZdE (ev pg n) fi loc op es σ K X → Rep prog w B₀ outs L loc Λ σ ρ s.heap → PE prog w B₀ outs L loc Λ ρ K Q s → PX prog w B₀ outs L loc Λ ρ X E s → wpAny (model prog w) A (eval (.BoolOp op es pos) env) Q E s
 | [], σ, Λ, ρ, s, K, Q, h, R, P, PX => h.elim
 | [e], σ, Λ, ρ, s, K, Q, h, R, P, PX => BoolOp_one (S.E C h R P PX)
 | e :: e' :: es, σ, Λ, ρ, s, K, Q, h, R, P, PX => by
  cases op with
  | And =>
   refine BoolOp_and ?_
   refine S.E C h R (fun v σ' Λ' ρ' x h' tk k l' p' R' V => ?_) PX
   obtain ⟨c, rfl, rfl, k'⟩ := Zh3 k V
   refine wpAny_truthy_bool ?_
   cases c with
   | false => exact P _ _ Λ' ρ' _ h' tk (XN k') l' p' R' V
   | true => exact Gf S C (s := { s with heap := h', toks := tk }) (XM k') R' (P.at l' p' h' tk) (PX.at l' p' h' tk)
  | Or =>
   refine BoolOp_or ?_
   refine S.E C h R (fun v σ' Λ' ρ' x h' tk k l' p' R' V => ?_) PX
   obtain ⟨c, rfl, rfl, k'⟩ := Zh3 k V
   refine wpAny_truthy_bool ?_
   cases c with
   | false => exact Gf S C (s := { s with heap := h', toks := tk }) (XN k') R' (P.at l' p' h' tk) (PX.at l' p' h' tk)
   | true => exact P _ _ Λ' ρ' _ h' tk (XM k') l' p' R' V
theorem Zm7 (S : Snd prog w B₀ pg n) (M : ZbB prog w B₀) (C : Cx B₀ A env outs L fi n) {e : Expr} {σ : Led} {Λ : Lay} {ρ : List Addr} {s : Shared} {K : KB} {Q : Bool → Shared → Prop}
  (h : ZiX (ev pg n) fi loc σ e K X) (R : Rep prog w B₀ outs L loc Λ σ ρ s.heap) (P : PB prog w B₀ outs L loc Λ ρ K Q s) (PX : PX prog w B₀ outs L loc Λ ρ X E s) : wpAny (model prog w) A (isTrue e env (eval e env)) Q E s := by
 have plain : (isTrue e env (eval e env) = (do let v ← eval e env; standAt e.pos; holding [v] (truthy v))) → (ev pg n).E fi loc σ e (fun v σ₁ => isB v fun b => K b σ₁) X → wpAny (model prog w) A (isTrue e env (eval e env)) Q E s := fun eq h => by
  refine isTrue_plain ?_ eq
  refine S.E C h R (fun v σ' Λ' ρ' x h' tk k l' p' R' V => ?_) PX
  obtain ⟨c, rfl, rfl, k'⟩ := Zh3 k V
  exact wpAny_truthy_bool (P _ _ Λ' ρ' h' tk k' l' p' R')
 cases e with
 | UnaryOp op x pos =>
  cases op with
  | Not =>
   refine isTrue_not ?_
   exact S.T C h R (fun c σ' Λ' ρ' h' tk k l' p' R' => P _ _ Λ' ρ' h' tk k l' p' R') PX
  | _ => exact h.elim
 | BoolOp op es pos => exact wpAny_isTrue_BoolOp (Zat S C h R P PX)
 | Compare l ops es pos =>
  show wpAny (model prog w) A (do testChain pos (← eval l env) ops (markedEach ops es (evalEach es env))) Q E s
  rw [marks_of h.l]
  refine wpAny_bind ?_
  refine S.E C h.r R (fun v σ' Λ' ρ' x h' tk k l' p' R' V => ?_) PX
  exact ZaG S M C (s := { s with heap := h', toks := tk }) k R' V (P.at l' p' h' tk) (PX.at l' p' h' tk)
 | IfExp a b c pos => exact h.elim
 | _ => exact plain rfl h
end
structure Prims (prog : Program) (w : World) (B₀ : Heap) (Kf : Frag) (pg : Pg) : Prop where
 X : Kf.In B₀
 G : GOk prog w B₀ pg
 M : ZbB prog w B₀
 keep : ∀ a, WU pg (.old a) = true → keepIn Kf (.ref a) = true
 attr : ∀ {outs : List Env} {L : Addr} {loc : Loc} {A : Around} {E : Value → Shared → Prop} {Q : Value → Shared → Prop} {s : Shared} {σ : Led} {Λ : Lay} {ρ : List Addr} {o : AV} {m : Str} {x : Value} {K : KE},
  ZdF o m σ K → Rep prog w B₀ outs L loc Λ σ ρ s.heap → VR prog w Λ ρ o x → PE prog w B₀ outs L loc Λ ρ K Q s → wpAny (model prog w) A (getAttr x m true) Q E s
 row : ∀ {outs : List Env} {L : Addr} {loc : Loc} {A : Around} {env : Env} {fi : FI} {n : Nat} {E : Value → Shared → Prop} {Q : Value → Shared → Prop} {s : Shared} {σ : Led} {Λ : Lay} {ρ : List Addr} {nm : Str} {vs : List AV} {x y : Value} {K : KE}, Cx B₀ A env outs L fi (n + 1) →
  K (.row nm vs) σ → Rep prog w B₀ outs L loc Λ σ ρ s.heap → VR prog w Λ ρ (.str nm) x → VR prog w Λ ρ (.tup vs) y → PE prog w B₀ outs L loc Λ ρ K Q s → wpAny (model prog w) A (call (.ref 85) [x, y]) Q E s
 told : ∀ {outs : List Env} {L : Addr} {loc : Loc} {A : Around} {env : Env} {fi : FI} {n : Nat} {E : Value → Shared → Prop} {Q : Value → Shared → Prop} {s : Shared} {σ : Led} {Λ : Lay} {ρ : List Addr} {nm : Str} {vs : List AV} {x : Value} {K : KE}, Cx B₀ A env outs L fi (n + 1) →
  K (.tup [.str nm, .tup vs]) σ → Rep prog w B₀ outs L loc Λ σ ρ s.heap → VR prog w Λ ρ (.row nm vs) x → PE prog w B₀ outs L loc Λ ρ K Q s → wpAny (model prog w) A (call (.ref ZaC) [x]) Q E s
 toldM : ∀ {outs : List Env} {L : Addr} {loc : Loc} {A : Around} {E : Value → Shared → Prop} {Q : Value × List Value → Shared → Prop} {s : Shared} {σ : Led} {Λ : Lay} {ρ : List Addr} {nm : Str} {vs : List AV} {x : Value} {pl : Sem Bool},
  Rep prog w B₀ outs L loc Λ σ ρ s.heap → VR prog w Λ ρ (.row nm vs) x → Q (.ref ZaC, [x]) s → wpAny (model prog w) A (getMethod x (Str.ofString "told") pl) Q E s
 toldK : keepIn Kf (.ref ZaC) = true
 ctr : ∀ {outs : List Env} {L : Addr} {loc : Loc} {A : Around} {env : Env} {fi : FI} {n : Nat} {E : Value → Shared → Prop} {Q : Value → Shared → Prop} {s : Shared} {σ : Led} {Λ : Lay} {ρ : List Addr} {a : Nat} {c : Nat × (List AV → (AV → Prop) → (AX → Prop) → Prop)} {args : List AV} {xs : List Value} {K : KE} {X : KC}, Cx B₀ A env outs L fi n → pg.ctr a = some c → c.1 ≤ n → fi.calm = true →
  c.2 args (fun v => K v σ) (fun x => X x σ) → Rep prog w B₀ outs L loc Λ σ ρ s.heap → VTs prog w Λ args xs → PE prog w B₀ outs L loc Λ ρ K Q s → PX prog w B₀ outs L loc Λ ρ X E s → wpAny (model prog w) A (call (.ref a) xs) Q E s
section
variable {prog : Program} {w : World} {B₀ : Heap} {Kf : Frag} {pg : Pg} {n : Nat} {A : Around} {env : Env} {outs : List Env} {L : Addr} {fi : FI} {loc : Loc} {E : Value → Shared → Prop} {X : KC} {σ : Led} {Λ : Lay} {ρ : List Addr} {s : Shared}
theorem Yg {pos : Pos} : ∀ {es : List Expr}, noStar es = true → (backTo pos (starEach es env)).any (·.1) = false
 | [], _ => rfl
 | e :: es, h => by
  obtain ⟨hs, hn'⟩ := Y4 (env := env) h
  rw [hs]
  show (false || (backTo pos (starEach es env)).any (·.1)) = false
  rw [Yg hn']; rfl
theorem YT {pos : Pos} {f : Value} {es : List Expr} {Q : Args → Shared → Prop} (hn : noStar es = true) (h : wpAny (model prog w) A (spliced (backTo pos (starEach es env))) (fun vs s' => Q ⟨vs, []⟩ s') E s) :
  wpAny (model prog w) A (evalArgs f true (backTo pos (starEach es env)) []) Q E s := by
 cases es with
 | nil =>
  refine wpAny_bind (wpAny_mono h (fun vs s' h' => ?_) fun _ _ x => x)
  refine wpAny_holding ?_
  exact wpAny_bind (wpAny_pure (wpAny_bind (wpAny_pure (wpAny_pure h'))))
 | cons e es =>
  have hs := (Y4 (env := env) hn).1
  rw [hs] at h ⊢
  exact evalArgs_plain h
theorem Wz (Pm : Prims prog w B₀ Kf pg) {pos : Pos} {f : Value} {first : List Value} {es : List Expr} {Q : Value → Shared → Prop} (hn : noStar es = true) (hf : (∃ i, f = .builtin i) ∨ (∃ i, f = .type i) ∨ keepIn Kf f = true)
  (h : wpAny (model prog w) A (spliced (backTo pos (starEach es env))) (fun vs s' => B₀.StaysIn s'.heap ∧ wpAny (model prog w) A (call f (first ++ vs)) Q E s') E s) : wpAny (model prog w) A (callWith pos f first (backTo pos (starEach es env)) []) Q E s := by
 obtain ⟨i, rfl⟩ | ⟨i, rfl⟩ | hk := hf
 ·exact callWith_builtin (Yg hn) (YT hn (wpAny_mono h (fun _ _ h' => h'.2) fun _ _ e => e))
 ·exact PySem.callWith_type (Yg hn) (YT hn (wpAny_mono h (fun _ _ h' => h'.2) fun _ _ e => e))
 ·refine callWith_of (P := Kf.In) (by rw [Yg hn]; rfl) (keeps_K hk) (YT hn (wpAny_mono h (fun _ _ h' => ⟨Pm.X.keeps h'.1, h'.2⟩) fun _ _ e => e))
theorem J7 {v u : AV} {σ' : Led} {x : Value} (e : WN σ v = some (u, σ')) (R : Rep prog w B₀ outs L loc Λ σ ρ s.heap) (V : VR prog w Λ ρ v x) :
  ∃ Λ', Λ.le Λ' ∧ Rep prog w B₀ outs L loc Λ' σ' ρ s.heap ∧ VT prog w Λ' u x := by
 delta WN at e
 have plain : Ym v = true → (v, σ) = (u, σ') → ∃ Λ', Λ.le Λ' ∧ Rep prog w B₀ outs L loc Λ' σ' ρ s.heap ∧ VT prog w Λ' u x := fun hn e => by
  cases e
  exact ⟨Λ, Lay.le.refl _, R, V.tree hn⟩
 cases v with
 | ref k =>
  obtain ⟨a, rfl, e2⟩ := V.ref_
  dsimp only at e
  generalize hk : σ[k]? = zz at *
  cases zz with
  | none => exact xN e
  | some o =>
   have H := R.led k o hk
   cases o with
   | lst us =>
    (replace e := xI e; cases e)
    obtain ⟨c, ob, h1, h2, h3, ws, m, h4, rfl⟩ := H
    rw [e2] at h1; (replace h1 := xI h1; cases h1)
    have le : Λ.le (Λ.up a (.frz (Zn ws m))) := Lay.le_up _ (.inr ⟨k, h2⟩)
    have V' : VT prog w (Λ.up a (.frz (Zn ws m))) (.lst us) (.ref a) := .lst (Lay.up_self ..) (h4.mono le.sees)
    exact ⟨_, le, R.freeze e2 h2 h3 V', V'⟩
   | ali u' =>
    (replace e := xI e; cases e)
    obtain ⟨c, h1, h2⟩ := H
    rw [e2] at h1; (replace h1 := xI h1; cases h1)
    exact ⟨Λ, Lay.le.refl _, R, h2⟩
   | _ => exact xN e
 | _ => exact plain rfl (Option.some.inj e)
theorem UP : ∀ {vs us : List AV} {σ σ' : Led} {Λ : Lay} {xs : List Value}, Wp σ vs = some (us, σ') → Rep prog w B₀ outs L loc Λ σ ρ s.heap → VRs prog w Λ ρ vs xs →
  ∃ Λ', Λ.le Λ' ∧ Rep prog w B₀ outs L loc Λ' σ' ρ s.heap ∧ VTs prog w Λ' us xs
 | [], us, σ, σ', Λ, xs, e, R, V => by
  cases V
  (replace e := xI e; cases e)
  exact ⟨Λ, Lay.le.refl _, R, .nil⟩
 | v :: vs, us, σ, σ', Λ, xs, e, R, V => by
  obtain ⟨_, _, rfl, V1, V2⟩ := V.uncons
  unfold Wp at e
  generalize q : WN σ v = zz at e ⊢
  cases zz with
  | none => exact xN e
  | some p =>
   dsimp only at e
   generalize q2 : Wp p.2 vs = zz at e ⊢
   cases zz with
   | none => exact xN e
   | some r =>
    (replace e := xI e; cases e)
    obtain ⟨Λ₁, l1, R1, T1⟩ := J7 (u := p.1) (σ' := p.2) q R V1
    obtain ⟨Λ₂, l2, R2, T2⟩ := UP (us := r.1) (σ' := r.2) q2 R1 (V2.mono l1.sees (List.prefix_refl _))
    exact ⟨Λ₂, l1.trans l2, R2, .cons (T1.mono l2.sees) T2⟩
theorem ZiJ (Pm : Prims prog w B₀ Kf pg) (S : Snd prog w B₀ pg n) (C : Cx B₀ A env outs L fi (n + 1)) {g : AV} {f : Value} {vs : List AV} {xs : List Value} {K : KE} {Q : Value → Shared → Prop} (h : Zk8 pg (ev pg n) n fi.calm g vs σ K X)
  (R : Rep prog w B₀ outs L loc Λ σ ρ s.heap) (Vg : VR prog w Λ ρ g f) (V : VRs prog w Λ ρ vs xs) (P : PE prog w B₀ outs L loc Λ ρ K Q s) (PX : PX prog w B₀ outs L loc Λ ρ X E s) : wpAny (model prog w) A (call f xs) Q E s := by
 cases g with
 | bi b => obtain rfl := Vg.bi_; exact Zk4 C.calm h R V P
 | ty t => obtain rfl := Vg.ty_; exact Zjo h R V P
 | old a =>
  obtain rfl := Vg.old_
  change fnP pg (ev pg n) n fi.calm a vs σ K X at h
  delta fnP at h
  generalize q : Nat.beq a 85 = zz at h ⊢
  cases zz with
  | true =>
   have ea : a = 85 := Nat.eq_of_beq_eq_true q
   subst ea
   obtain ⟨p, e1, h2⟩ := Zo h
   obtain ⟨p1, p2⟩ := p
   have e3 := XU e1
   subst e3
   obtain ⟨x, y, rfl, V1, V2⟩ := V.two
   cases p1 with
   | str z =>
    cases p2 with
    | tup us => exact Pm.row C h2 R V1 V2 P
    | _ => exact h2.elim
   | _ => exact h2.elim
  | false =>
   generalize q2 : pg.ctr a = zz at h ⊢
   cases zz with
   | none => exact S.C C.less h R V P PX
   | some c =>
    generalize q3 : Wp σ vs = zz at h ⊢
    cases zz with
    | none => exact h.elim
    | some r =>
     obtain ⟨Λ₁, l1, R1, T1⟩ := UP (us := r.1) (σ' := r.2) q3 R V
     exact Pm.ctr C.less q2 (Nat.le_of_ble_eq_true h.l) h.r.l h.r.r R1 T1 (P.at l1 (List.prefix_refl _) s.heap s.toks) (PX.at l1 (List.prefix_refl _) s.heap s.toks)
 | _ => exact h.elim
theorem Zap (Pm : Prims prog w B₀ Kf pg) {g : AV} {f : Value} (h : WU pg g = true) (V : VR prog w Λ ρ g f) : (∃ i, f = .builtin i) ∨ (∃ i, f = .type i) ∨ keepIn Kf f = true := by
 cases g with
 | bi b => exact .inl ⟨_, V.bi_⟩
 | ty t => exact .inr (.inl ⟨_, V.ty_⟩)
 | old a => obtain rfl := V.old_; exact .inr (.inr (Pm.keep a h))
 | _ => exact xF h
theorem W8 {o : Expr} (h : VP o = true) (m : Str) (t : Sem Value) : attributeBase o m env t = t := by
 cases o with
 | Call f args kw pos =>
  cases args with
  | nil => exact xF h
  | cons a as => cases f <;> rfl
 | _ => rfl
noncomputable def ZdD : MK → Value
 | .told => .ref ZaC
 | .get => .builtin "dict.get"
 | .join => .builtin "str.join"
 | .strip => .builtin "str.strip"
theorem ZfY (Pm : Prims prog w B₀ Kf pg) {v : AV} {m : Str} {k : MK} {x : Value} {pl : Sem Bool} {Q : Value × List Value → Shared → Prop} (e : VW v m = some k) (R : Rep prog w B₀ outs L loc Λ σ ρ s.heap) (V : VR prog w Λ ρ v x)
  (h : Q (ZdD k, [x]) s) : wpAny (model prog w) A (getMethod x m pl) Q E s := by
 delta VW at e
 cases v with
 | row nm vs =>
  simp only at e
  generalize q : sEq m (Str.ofString "told") = zz at e ⊢
  cases zz with
  | false => exact xN e
  | true =>
   (replace e := xI e; cases e)
   obtain rfl := ZH.mp q
   exact Pm.toldM R V h
 | dss es =>
  simp only at e
  generalize q : sEq m (Str.ofString "get") = zz at e ⊢
  cases zz with
  | false => exact xN e
  | true =>
   (replace e := xI e; cases e)
   obtain rfl := ZH.mp q
   obtain ⟨a, o, rfl, _, h1, kvs, h2, h3⟩ := V.dss_
   have hD : s.heap.DictOf (strKind prog w) a kvs := Heap.dictOf_iff.mpr ⟨o, R.frzAt h1, h3⟩
   refine getMethod_builtin hD.mapOf.typeIs PySem.F.plainAttrs_dict PySem.F.slot_dict_get PySem.F.type_dict_get (fun b eb => ?_) h
   cases eb
   obtain ⟨es', ep, hx, _⟩ := h3
   exact ⟨o, R.frzAt h1, hx.2.1⟩
 | str z =>
  obtain ⟨t, rfl⟩ := V.str_
  simp only at e
  generalize q : sEq m (Str.ofString "join") = zz at e ⊢
  cases zz with
  | true =>
   (replace e := xI e; cases e)
   obtain rfl := ZH.mp q
   exact PySem.GM.join h
  | false =>
   simp only at e
   cases q2 : sEq m (Str.ofString "strip") with
   | false => rw [q2] at e; exact xN e
   | true =>
    rw [q2] at e; (replace e := xI e; cases e)
    obtain rfl := ZH.mp q2
    exact PySem.GM.strip h
 | _ => exact xN e
theorem Vi : ∀ {vs : List AV} {ws : List Value} {l : List Str}, XO vs = some l → VTs prog w Λ vs ws → ∃ ps : List (Str × Tok), ws = strValues ps ∧ ps.map (·.1) = l
 | [], ws, l, e, g => by (have hh := VTs.unnil g; clear g; subst hh); (replace e := xI e; cases e); exact ⟨[], rfl, rfl⟩
 | v :: vs, ws, l, e, g => by
  obtain ⟨_, _, rfl, h, g⟩ := g.uncons
  unfold XO at e
  cases v with
  | str x =>
   generalize q : XO vs = zz at e ⊢
   cases zz with
   | none => exact xN e
   | some ks =>
    (replace e := xI e; cases e)
    (refine Exists.elim (VT.str_ h) ?_; clear h; intro t hh; subst hh)
    obtain ⟨ps, rfl, rfl⟩ := Vi q g
    exact ⟨(x, _) :: ps, rfl, rfl⟩
  | _ => exact xN e
theorem ZfJ (Pm : Prims prog w B₀ Kf pg) (C : Cx B₀ A env outs L fi (n + 1)) {k : MK} {v : AV} {x : Value} {vs : List AV} {xs : List Value} {K : KE} {Q : Value → Shared → Prop} (h : ZfK k v vs σ K)
  (R : Rep prog w B₀ outs L loc Λ σ ρ s.heap) (Vx : VR prog w Λ ρ v x) (V : VRs prog w Λ ρ vs xs) (P : PE prog w B₀ outs L loc Λ ρ K Q s) : wpAny (model prog w) A (call (ZdD k) ([x] ++ xs)) Q E s := by
 cases k with
 | told =>
  cases v with
  | row nm us =>
   cases vs with
   | nil => cases V; exact Pm.told C h R Vx P
   | cons _ _ => exact h.elim
  | _ => exact h.elim
 | get =>
  change ZlJ v vs σ K at h
  cases v with
  | dss es =>
   obtain ⟨u, e1, h2⟩ := Zo h
   have e2 := Yw e1
   subst e2
   obtain ⟨y, rfl, W⟩ := V.one
   cases u with
   | str i =>
    obtain ⟨t, rfl⟩ := W.str_
    obtain ⟨a, o, rfl, hsm, h1, kvs, h4, h3⟩ := Vx.dss_
    have hD : s.heap.DictOf (strKind prog w) a kvs := Heap.dictOf_iff.mpr ⟨o, R.frzAt h1, h3⟩
    refine call_meetsIn PySem.F.slot_dict_get hD.mapOf.typeIs PySem.F.entry_dict_get (PySem.F.args_dict_get_2 _ _) (meets_dict_get (strKind prog w) a (ZO i t) hsm) ⟨_, hD.mapOf, ?_⟩
    obtain ⟨q1, q2⟩ | ⟨v', t', q1, q2⟩ := h4.valueAt_ i
    ·simp only [q1, ZhN] at h2
     rw [q2]
     exact P.out R h2 ZeW _
    ·simp only [q1, ZhN] at h2
     rw [q2]
     exact P.out R h2 (Jk _ _) _
   | _ => exact h2.elim
  | _ => exact h.elim
 | join =>
  change Zi0 v vs σ K at h
  cases v with
  | str z =>
   obtain ⟨u, e1, h2⟩ := Zo h
   have e2 := Yw e1
   subst e2
   obtain ⟨y, rfl, W⟩ := V.one
   obtain ⟨us, e3, h3⟩ := Zo h2
   obtain ⟨l, e4, hjk⟩ := Zo h3
   have hj := hjk.l
   have hk := hjk.r
   obtain ⟨t, rfl⟩ := Vx.str_
   obtain ⟨a, ws, m, rfl, e5, g⟩ := R.toRep0.list e3 W
   obtain ⟨ps, rfl, e6⟩ := Vi e4 g
   exact PySem.SC.join (ZQ e5) e6 hj fun t' k => P.out R hk (Jk _ _) _
  | _ => exact h.elim
 | strip =>
  change ZfM v vs σ K at h
  cases v with
  | str z =>
   cases vs with
   | nil =>
    cases V
    obtain ⟨t, rfl⟩ := Vx.str_
    exact PySem.SC.strip (fun t' k => P.out R h.r (Jk _ _) _) (by rw [← WZ]; exact U4 h.l)
   | cons _ _ => exact h.elim
  | _ => exact h.elim
theorem Y8 : ∀ {es : List Expr}, noStar es = true → ∀ {pos : Pos}, (backTo pos (starEach es env)).all (!·.1) = true
 | [], _, _ => rfl
 | e :: es, h, pos => by
  obtain ⟨hs, hn'⟩ := Y4 (env := env) h
  rw [hs]
  show (true && (backTo pos (starEach es env)).all (!·.1)) = true
  rw [Y8 hn']; rfl
theorem Zb5 (Pm : Prims prog w B₀ Kf pg) (S : Snd prog w B₀ pg n) (C : Cx B₀ A env outs L fi (n + 1)) {o : Expr} {m : Str} {apos pos : Pos} {args : List Expr} {K : KE} {Q : Value → Shared → Prop} (hn : noStar args = true) (hs : VP o = true)
  (hl : Nat.beq apos.endLine pos.line = true) (ha : Nat.ble args.length 9 = true)
  (h : (ev pg n).E fi loc σ o (fun v σ₁ => Z3 (VW v m) fun k => XS (ev pg n) fi loc args σ₁ (fun vs σ₂ => ZfK k v vs σ₂ K) X) X)
  (R : Rep prog w B₀ outs L loc Λ σ ρ s.heap) (P : PE prog w B₀ outs L loc Λ ρ K Q s) (PX : PX prog w B₀ outs L loc Λ ρ X E s) : wpAny (model prog w) A (eval (.Call (.Attribute o m apos) args [] pos) env) Q E s := by
 rw [arm_eval_Call, W8 hs]
 refine wpAny_bind ?_
 refine S.E C.less h R (fun v σ' Λ' ρ' x h' tk k l p R' V => ?_) PX
 obtain ⟨mk, e, k2⟩ := Zo k
 refine wpAny_bind (wpAny_standAt ?_)
 unfold methodCall
 have few : methodCallForm (args.length + ([] : List Keyword).length) (backTo pos (starEach args env)) (backToKw pos (keywordEach [] env)) = true := by
  unfold methodCallForm
  rw [Y8 hn]
  have := Nat.le_of_ble_eq_true ha
  show (true && true && decide (args.length + 0 + 0 < 30)) = true
  simp; omega
 rw [few]
 refine wpAny_bind (wpAny_holding ?_)
 refine ZfY (s := { s with heap := h', toks := tk }) Pm e R' V ?_
 have hp : methodCallPos true o env apos pos = pure pos := by
  unfold methodCallPos
  have e1 : apos.endLine = pos.line := Nat.eq_of_beq_eq_true hl
  simp [e1]
 rw [hp]
 refine wpAny_bind (wpAny_pure ?_)
 refine Wz Pm hn ?_ ?_
 ·cases mk with
  | told => exact .inr (.inr Pm.toldK)
  | _ => exact .inl ⟨_, rfl⟩
 ·refine XA S C.less (s := { s with heap := h', toks := tk }) hn k2 R' (fun vs σ₂ Λ₂ ρ₂ xs h₂ tk₂ k3 l₂ p₂ R₂ V₂ => ⟨R₂.toRep0.keep, ?_⟩) (PX.at l p h' tk)
  exact ZfJ (s := { s with heap := h₂, toks := tk₂ }) Pm C k3 R₂ (V.mono l₂.sees p₂) V₂ (P.at (l.trans l₂) (p.trans p₂) h₂ tk₂)
end
section
variable {prog : Program} {w : World} {B₀ : Heap} {outs : List Env} {L : Addr} {loc : List (Str × AV)} {Λ Λ' : Lay} {σ : List AO} {ρ : List Addr} {h h' : Heap}
theorem Rep.unhide (R : Rep prog w B₀ outs L loc Λ σ ρ h) {d : Addr} {o o' : Obj} {ao : AO} (hd : Λ d = .hid o) (hs : ∀ b x, b ≠ d → h.get? b = some x → h'.get? b = some x) (ho : h'.get? d = some o') (hr : OR prog w Λ ao o') :
  Rep prog w B₀ outs L loc (Λ.up d (.led σ.length)) (σ ++ [ao]) (ρ ++ [d]) h' := by
 have sees : Z2 Λ (Λ.up d (.led σ.length)) := ⟨fun a x e => by rw [Lay.up_ne _ _ fun q => by rw [q, hd] at e; (exfalso; cases e)]; exact e, fun a e => by rw [Lay.up_ne _ _ fun q => by rw [q, hd] at e; (exfalso; cases e)]; exact e⟩
 have p : ρ <+: ρ ++ [d] := List.prefix_append _ _
 have nL : L ≠ d := fun q => by rw [← q, R.cur] at hd; (exfalso; cases hd)
 refine { toRep0 := ⟨fun b x e => sees.frz _ _ (R.b0 b x e), fun b => ?_, by simp [R.len], fun k x e => ?_, R.z0, R.sm⟩, cur := by rw [Lay.up_ne _ _ nL]; exact R.cur, ns := let ⟨m, n, l⟩ := R.ns; ⟨m, n.at' (fun x e => hs L x nL e), l.mono sees p⟩, lA := R.lA, out := fun env he => ?_ }
 ·by_cases q : b = d
  ·subst q; rw [Lay.up_self]; trivial
  ·rw [Lay.up_ne _ _ q]
   exact (R.tag b).grow (fun x e => hs b x q e) fun c z => by rw [Lay.up_ne _ _ fun q => by rw [q, hd] at z; (exfalso; cases z)]; exact z
 ·obtain hi | hi := Nat.lt_or_ge k σ.length
  ·rw [List.getElem?_append_left hi] at e
   have H := R.led k x e
   cases x with
   | ali v => obtain ⟨a, h1, h2⟩ := H; exact ⟨a, ZY p h1, h2.mono sees⟩
   | dead => trivial
   | _ =>
    obtain ⟨a, o1, h1, h2, h3, h4⟩ := H
    have na : a ≠ d := fun q => by rw [q, hd] at h2; (exfalso; cases h2)
    exact ⟨a, o1, ZY p h1, by rw [Lay.up_ne _ _ na]; exact h2, hs a o1 na h3, h4.mono sees⟩
  ·rw [List.getElem?_append_right hi] at e
   cases hz : k - σ.length with
   | succ j => rw [hz] at e; simp at e
   | zero =>
    rw [hz] at e
    (replace e := xI e; cases e)
    have hk : k = σ.length := Nat.le_antisymm (Nat.sub_eq_zero_iff_le.mp hz) hi
    subst hk
    have e1 : (ρ ++ [d])[σ.length]? = some d := by rw [← R.len]; simp
    cases ao with
    | ali v => exact hr.elim
    | dead => trivial
    | _ => exact ⟨d, o', e1, Lay.up_self .., ho, hr.mono sees⟩
 ·obtain ⟨k, L', ob, e1, e2, e3⟩ := R.out env he
  exact ⟨k, L', ob, e1, by rw [Lay.up_ne _ _ fun q => by rw [q, hd] at e2; (exfalso; cases e2)]; exact e2, e3⟩
theorem Rep.rehide (R : Rep prog w B₀ outs L loc Λ σ ρ h) {d : Addr} {o o' : Obj} (hd : Λ d = .hid o) (hs : ∀ b x, b ≠ d → h.get? b = some x → h'.get? b = some x) (ho : h'.get? d = some o') :
  Rep prog w B₀ outs L loc (Λ.up d (.hid o')) σ ρ h' := by
 have sees : Z2 Λ (Λ.up d (.hid o')) := ⟨fun a x e => by rw [Lay.up_ne _ _ fun q => by rw [q, hd] at e; (exfalso; cases e)]; exact e, fun a e => by rw [Lay.up_ne _ _ fun q => by rw [q, hd] at e; (exfalso; cases e)]; exact e⟩
 have nL : L ≠ d := fun q => by rw [← q, R.cur] at hd; (exfalso; cases hd)
 refine { toRep0 := ⟨fun b x e => sees.frz _ _ (R.b0 b x e), fun b => ?_, R.len, fun k x e => ?_, R.z0, R.sm⟩, cur := by rw [Lay.up_ne _ _ nL]; exact R.cur, ns := let ⟨m, n, l⟩ := R.ns; ⟨m, n.at' (fun x e => hs L x nL e), l.mono sees (List.prefix_refl _)⟩, lA := R.lA, out := fun env he => ?_ }
 ·by_cases q : b = d
  ·subst q; rw [Lay.up_self]; exact ho
  ·rw [Lay.up_ne _ _ q]
   exact (R.tag b).grow (fun x e => hs b x q e) fun c z => by rw [Lay.up_ne _ _ fun q => by rw [q, hd] at z; (exfalso; cases z)]; exact z
 ·have H := R.led k x e
  cases x with
  | ali v => obtain ⟨a, h1, h2⟩ := H; exact ⟨a, h1, h2.mono sees⟩
  | dead => trivial
  | _ =>
   obtain ⟨a, o1, h1, h2, h3, h4⟩ := H
   have na : a ≠ d := fun q => by rw [q, hd] at h2; (exfalso; cases h2)
   exact ⟨a, o1, h1, by rw [Lay.up_ne _ _ na]; exact h2, hs a o1 na h3, h4.mono sees⟩
 ·obtain ⟨k, L', ob, e1, e2, e3⟩ := R.out env he
  exact ⟨k, L', ob, e1, by rw [Lay.up_ne _ _ fun q => by rw [q, hd] at e2; (exfalso; cases e2)]; exact e2, e3⟩
theorem Rep.pushHid (R : Rep prog w B₀ outs L loc Λ σ ρ h) (o : Obj) (hf : o.isFreed = false) :
  ∃ Λ', Λ.le Λ' ∧ Λ' h.objs.size = .hid o ∧ Rep prog w B₀ outs L loc Λ' σ ρ (h.push o) := by
 obtain ⟨Λ₁, l1, _, e1, R1⟩ := R.forget (a := h.objs.size) (Heap.get?_none_of_le (Nat.le_refl _))
 refine ⟨Λ₁.up h.objs.size (.hid o), l1.trans (Lay.le_up _ (.inl e1)), Lay.up_self .., ?_⟩
 exact (R1.grow (fun _ _ e => Heap.get?_push_of_some _ e)).settle e1 (Heap.get?_push_size _ hf)
theorem WK {Λ Λ₁ : Lay} {d : Addr} {t : Tag} (l : Λ.le Λ₁) (hd : Λ d = .free ∨ ∃ k, Λ d = .led k) : Λ.le (Λ₁.up d t) := fun a => by
 by_cases q : a = d
 ·subst q; exact .inr hd
 ·rw [Lay.up_ne _ _ q]; exact l a
end
section
variable {prog : Program} {w : World} {B₀ : Heap} {Kf : Frag} {pg : Pg} {n : Nat} {A : Around} {env : Env} {outs : List Env} {L : Addr} {fi : FI} {loc : Loc} {E : Value → Shared → Prop} {X : KC}
set_option tactic.hygienic true in
theorem UA (S : Snd prog w B₀ pg n) (C : Cx B₀ A env outs L fi n) {pos : Pos} : ∀ {ks : List (Option Expr)} {vs : List Expr} {σ : Led} {Λ : Lay} {ρ : List Addr} {s : Shared} {K : List (Str × AV) → Led → Prop} {Q : List (Value × Value) → Shared → Prop},
  UB (ev pg n) fi loc ks vs σ K X → Rep prog w B₀ outs L loc Λ σ ρ s.heap → (∀ es σ' Λ' ρ' kvs ws h' tk, K es σ' → Λ.le Λ' → ρ <+: ρ' → Rep prog w B₀ outs L loc Λ' σ' ρ' h' → KVs prog w Λ' es kvs → Carries (strKind prog w) ws kvs → Q ws { s with heap := h', toks := tk }) →
  PX prog w B₀ outs L loc Λ ρ X E s → wpAny (model prog w) A (evalPairs (pairTrees ks vs env pos)) Q E s
 | [], [], σ, Λ, ρ, s, K, Q, h, R, P, PX => evalPairs_nil (P _ _ Λ ρ [] [] s.heap s.toks h (Lay.le.refl _) (List.prefix_refl _) R .nil trivial)
 | [], _ :: _, σ, Λ, ρ, s, K, Q, h, R, P, PX => h.elim
 | none :: _, _, σ, Λ, ρ, s, K, Q, h, R, P, PX => h.elim
 | some e :: ks, vs, σ, Λ, ρ, s, K, Q, h, R, P, PX => by
  obtain ⟨c, kk, cpos, rfl⟩ := Vk (D := fun e => UB (ev pg n) fi loc (some e :: ks) vs σ K X) e h
  obtain ⟨x, rfl⟩ := ZeK (D := fun c => UB (ev pg n) fi loc (some (.Constant c kk cpos) :: ks) vs σ K X) c h
  cases vs with
  | nil => exact h.elim
  | cons v vs =>
   refine evalPairs_cons (PySem.Calls.Constant_str ?_)
   have R' : Rep prog w B₀ outs L loc Λ σ ρ ({ s with toks := s.toks + 1 } : Shared).heap := R
   refine wpAny_bind (S.E C (s := { s with toks := s.toks + 1 }) h R' (fun u σ₁ Λ₁ ρ₁ y h₁ tk₁ k₁ l₁ p₁ R₁ V₁ => ?_) (PX.at (Lay.le.refl _) (List.prefix_refl _) s.heap (s.toks + 1)))
   refine wpAny_bind (wpAny_standAt (wpAny_pure ?_))
   refine UA S C (s := { s with heap := h₁, toks := tk₁ }) k₁.r R₁ (fun es σ₂ Λ₂ ρ₂ kvs ws h₂ tk₂ k₂ l₂ p₂ R₂ g c₂ => ?_) (PX.at l₁ p₁ h₁ tk₁)
   exact P _ _ Λ₂ ρ₂ ((x, y) :: kvs) _ h₂ tk₂ k₂ (l₁.trans l₂) (p₁.trans p₂) R₂ (.cons ((V₁.tree k₁.l).mono l₂.sees) g) ⟨ZO _ _, rfl, c₂⟩
set_option tactic.hygienic true in
theorem GP (S : Snd prog w B₀ pg n) (C : Cx B₀ A env outs L fi n) {pos : Pos} : ∀ {ks : List (Option Expr)} {vs : List Expr} {σ : Led} {Λ : Lay} {ρ : List Addr} {s : Shared} {K : List (Int × AV) → Led → Prop} {Q : List (Value × Value) → Shared → Prop},
  Gb (ev pg n) fi loc ks vs σ K X → Rep prog w B₀ outs L loc Λ σ ρ s.heap → (∀ es σ' Λ' ρ' kvs ws h' tk, K es σ' → Λ.le Λ' → ρ <+: ρ' → Rep prog w B₀ outs L loc Λ' σ' ρ' h' → KVs prog w Λ' es kvs → Carries (intKind prog w) ws kvs → Q ws { s with heap := h', toks := tk }) →
  PX prog w B₀ outs L loc Λ ρ X E s → wpAny (model prog w) A (evalPairs (pairTrees ks vs env pos)) Q E s
 | [], [], σ, Λ, ρ, s, K, Q, h, R, P, PX => evalPairs_nil (P _ _ Λ ρ [] [] s.heap s.toks h (Lay.le.refl _) (List.prefix_refl _) R .nil trivial)
 | [], _ :: _, σ, Λ, ρ, s, K, Q, h, R, P, PX => h.elim
 | none :: _, _, σ, Λ, ρ, s, K, Q, h, R, P, PX => h.elim
 | some e :: ks, vs, σ, Λ, ρ, s, K, Q, h, R, P, PX => by
  obtain ⟨c, kk, cpos, rfl⟩ := Vk (D := fun e => Gb (ev pg n) fi loc (some e :: ks) vs σ K X) e h
  obtain ⟨x, rfl⟩ := ZeL (D := fun c => Gb (ev pg n) fi loc (some (.Constant c kk cpos) :: ks) vs σ K X) c h
  cases vs with
  | nil => exact h.elim
  | cons v vs =>
   refine evalPairs_cons (wpAny_Constant_int ?_)
   have R' : Rep prog w B₀ outs L loc Λ σ ρ ({ s with toks := s.toks + 1 } : Shared).heap := R
   refine wpAny_bind (S.E C (s := { s with toks := s.toks + 1 }) h R' (fun u σ₁ Λ₁ ρ₁ y h₁ tk₁ k₁ l₁ p₁ R₁ V₁ => ?_) (PX.at (Lay.le.refl _) (List.prefix_refl _) s.heap (s.toks + 1)))
   refine wpAny_bind (wpAny_standAt (wpAny_pure ?_))
   refine GP S C (s := { s with heap := h₁, toks := tk₁ }) k₁.r R₁ (fun es σ₂ Λ₂ ρ₂ kvs ws h₂ tk₂ k₂ l₂ p₂ R₂ g c₂ => ?_) (PX.at l₁ p₁ h₁ tk₁)
   exact P _ _ Λ₂ ρ₂ ((x, y) :: kvs) _ h₂ tk₂ k₂ (l₁.trans l₂) (p₁.trans p₂) R₂ (.cons ((V₁.tree k₁.l).mono l₂.sees) g) ⟨J4 _ _, rfl, c₂⟩
theorem Gz {α : Type} {x : Str} : ∀ {l : List (Str × α)}, Ze x l = none → x ∉ l.map (·.1)
 | [], _ => by simp
 | p :: l, e => by
  rw [U8] at e
  generalize q : sEq x p.1 = zz at e ⊢
  cases zz with
  | true => exact xS e
  | false =>
   have ne : x ≠ p.1 := fun z => by rw [← z, Yq] at q; exact xT q
   simp only [List.map_cons, List.mem_cons, not_or]
   exact ⟨ne, Gz e⟩
theorem GK {x : Int} : ∀ {l : List (Int × AV)}, UO x l = none → x ∉ l.map (·.1)
 | [], _ => by simp
 | p :: l, e => by
  rw [Zdj] at e
  by_cases q : x = p.1
  ·simp only [q, decide_true] at e; exact xS e
  ·simp only [q, decide_false] at e
   simp only [List.map_cons, List.mem_cons, not_or]
   exact ⟨q, GK e⟩
theorem UD : ∀ {l : List (Str × AV)}, Gi l = true → (l.map (·.1)).Nodup
 | [], _ => List.nodup_nil
 | p :: l, e => by
  unfold Gi at e
  generalize q : Ze p.1 l = zz at e ⊢
  cases zz with
  | none => exact List.nodup_cons.mpr ⟨Gz q, UD e⟩
  | some v => exact xF e
theorem GZ : ∀ {l : List (Int × AV)}, Zas l = true → (l.map (·.1)).Nodup
 | [], _ => List.nodup_nil
 | p :: l, e => by
  unfold Zas at e
  generalize q : UO p.1 l = zz at e ⊢
  cases zz with
  | none => exact List.nodup_cons.mpr ⟨GK q, GZ e⟩
  | some v => exact xF e
theorem GO {K : Type} [DecidableEq K] (knd : PySem.KeyKind prog w K) : Obj.IsDictOf knd { cls := .type "dict", data := .dict #[] } [] :=
 ⟨#[], 0, ⟨rfl, rfl, rfl⟩, rfl, fun e he => by cases he with | _ => simp_all, .nil, List.nodup_nil⟩
theorem Zdw {K : Type} [DecidableEq K] {knd : PySem.KeyKind prog w K} {ks : List (Option Expr)} {vs : List Expr} {σ : Led} {Λ : Lay} {ρ : List Addr} {s : Shared} {pos : Pos} {KK : KE} {Q : Value → Shared → Prop} (hk : YY ks vs = true)
  (R : Rep prog w B₀ outs L loc Λ σ ρ s.heap) (P : PE prog w B₀ outs L loc Λ ρ KK Q s)
  (h : ∀ Λ₁, Λ.le Λ₁ → Λ₁ s.heap.objs.size = .hid { cls := .type "dict", data := .dict #[] } → Rep prog w B₀ outs L loc Λ₁ σ ρ (s.heap.push { cls := .type "dict", data := .dict #[] }) →
   wpAny (model prog w) A (evalPairs (pairTrees ks vs env pos)) (fun ws s₁ => ∃ Λ₂ σ₂ ρ₂ kvs ao h₂ tk₂, s₁ = { s with heap := h₂, toks := tk₂ } ∧ Λ₁.le Λ₂ ∧ ρ <+: ρ₂ ∧ Rep prog w B₀ outs L loc Λ₂ σ₂ ρ₂ h₂ ∧ Carries knd ws kvs ∧ (kvs.map (·.1)).Nodup ∧
    KK (.ref σ₂.length) (σ₂ ++ [ao]) ∧ ∀ o, o.IsDictOf knd kvs → OR prog w Λ₂ ao o) E { s with heap := s.heap.push { cls := .type "dict", data := .dict #[] } }) :
  wpAny (model prog w) A (eval (.Dict ks vs pos) env) Q E s := by
 delta YY at hk
 cases ks with
 | nil => exact xF hk
 | cons k ks =>
  generalize q : Nat.ble (k :: ks).length 15 = zz at hk ⊢
  cases zz with
  | false => exact xF hk
  | true =>
   simp only [Bool.and_eq_true] at hk
   obtain ⟨Λ₁, l1, e1, R1⟩ := R.pushHid { cls := .type "dict", data := .dict #[] } rfl
   refine wpAny_Dict_walk (knd := knd) hk.2 (Nat.eq_of_beq_eq_true hk.1) (by simp) (Nat.le_of_ble_eq_true q) ?_
   refine wpAny_mono (h Λ₁ l1 e1 R1) (fun ws s₁ H => ?_) fun _ _ e => e
   obtain ⟨Λ₂, σ₂, ρ₂, kvs, ao, h₂, tk₂, rfl, l2, p2, R2, c, nd, kk, ho⟩ := H
   have e2 := l2.hid e1
   have g2 : h₂.get? s.heap.objs.size = some { cls := .type "dict", data := .dict #[] } := by
    have := R2.tag s.heap.objs.size; rw [e2] at this; exact this
   refine ⟨kvs, c, Heap.dictOf_iff.mpr ⟨_, g2, GO knd⟩, fun h' hd hs => ?_⟩
   have em : merged [] kvs = kvs := merged_append_of_fresh [] kvs (by simpa using nd)
   rw [em] at hd
   obtain ⟨o, ho1, ho2⟩ := Heap.dictOf_iff.mp hd
   have R3 := R2.unhide e2 (fun b x ne e => (hs.2 b ne).trans e) ho1 (ho o ho2)
   refine P _ _ _ _ _ h' _ kk (WK (l1.trans l2) (R.toRep0.free R.none0)) (p2.trans (List.prefix_append _ _)) R3 (.inr ⟨_, _, rfl, rfl, ?_⟩)
   rw [← R2.len]; simp
theorem ZgG {K : Type} [DecidableEq K] {knd : PySem.KeyKind prog w K} {ks : List (Option Expr)} {vs : List Expr} {σ : Led} {Λ : Lay} {ρ : List Addr} {s : Shared} {pos : Pos} {Q : Value → Shared → Prop} (hk : YY ks vs = true)
  (R : Rep prog w B₀ outs L loc Λ σ ρ s.heap)
  (h : ∀ Λ₁, Λ.le Λ₁ → Λ₁ s.heap.objs.size = .hid { cls := .type "dict", data := .dict #[] } → Rep prog w B₀ outs L loc Λ₁ σ ρ (s.heap.push { cls := .type "dict", data := .dict #[] }) →
   wpAny (model prog w) A (evalPairs (pairTrees ks vs env pos)) (fun ws s₁ => ∃ Λ₂ σ₂ ρ₂ kvs h₂ tk₂, s₁ = { s with heap := h₂, toks := tk₂ } ∧ Λ₁.le Λ₂ ∧ ρ <+: ρ₂ ∧ Rep prog w B₀ outs L loc Λ₂ σ₂ ρ₂ h₂ ∧ Carries knd ws kvs ∧ (kvs.map (·.1)).Nodup ∧
    ∀ d o Λ₃ h₃ tk₃, Λ.le Λ₃ → Z2 Λ₂ Λ₃ → Λ₃ d = .hid o → o.IsDictOf knd kvs → Rep prog w B₀ outs L loc Λ₃ σ₂ ρ₂ h₃ → Q (.ref d) { s with heap := h₃, toks := tk₃ }) E { s with heap := s.heap.push { cls := .type "dict", data := .dict #[] } }) :
  wpAny (model prog w) A (eval (.Dict ks vs pos) env) Q E s := by
 delta YY at hk
 cases ks with
 | nil => exact xF hk
 | cons k ks =>
  generalize q : Nat.ble (k :: ks).length 15 = zz at hk ⊢
  cases zz with
  | false => exact xF hk
  | true =>
   simp only [Bool.and_eq_true] at hk
   obtain ⟨Λ₁, l1, e1, R1⟩ := R.pushHid { cls := .type "dict", data := .dict #[] } rfl
   refine wpAny_Dict_walk (knd := knd) hk.2 (Nat.eq_of_beq_eq_true hk.1) (by simp) (Nat.le_of_ble_eq_true q) ?_
   refine wpAny_mono (h Λ₁ l1 e1 R1) (fun ws s₁ H => ?_) fun _ _ e => e
   obtain ⟨Λ₂, σ₂, ρ₂, kvs, h₂, tk₂, rfl, l2, p2, R2, c, nd, kk⟩ := H
   have e2 := l2.hid e1
   have g2 : h₂.get? s.heap.objs.size = some { cls := .type "dict", data := .dict #[] } := by
    have := R2.tag s.heap.objs.size; rw [e2] at this; exact this
   refine ⟨kvs, c, Heap.dictOf_iff.mpr ⟨_, g2, GO knd⟩, fun h' hd hs => ?_⟩
   have em : merged [] kvs = kvs := merged_append_of_fresh [] kvs (by simpa using nd)
   rw [em] at hd
   obtain ⟨o, ho1, ho2⟩ := Heap.dictOf_iff.mp hd
   have R3 := R2.rehide e2 (fun b x ne e => (hs.2 b ne).trans e) ho1
   have sees : Z2 Λ₂ (Λ₂.up s.heap.objs.size (.hid o)) := ⟨fun a x e => by rw [Lay.up_ne _ _ fun q => by rw [q, e2] at e; (exfalso; cases e)]; exact e, fun a e => by rw [Lay.up_ne _ _ fun q => by rw [q, e2] at e; (exfalso; cases e)]; exact e⟩
   exact kk _ o _ h' _ (WK (l1.trans l2) (R.toRep0.free R.none0)) sees (Lay.up_self ..) ho2 R3
end
section
variable {prog : Program} {w : World} {B₀ : Heap} {outs : List Env} {L : Addr} {loc : List (Str × AV)} {Λ Λ' : Lay} {σ : List AO} {ρ : List Addr} {A : Around} {E : Value → Shared → Prop} {s : Shared}
theorem Zbk {value : Expr} {lo up : Option Expr} {p : Pos} {o i : Value} {T id : String} {Q : Value → Shared → Prop} (hT : s.TypeIs o T)
  (hl : typeLookup (.type T) "__getitem__" = pure (some (.builtin id))) (h : wpAny (model prog w) A (getItem o i) Q E s) : wpAny (model prog w) A (subscriptTail value (.Slice lo up none p) o i) Q E s := by
 refine wpAny_bind ?_
 rw [getitemInPython_of_ne hT.not_modules]
 refine wpAny_bind (wpAny_specialOf hT hl ?_)
 have last : wpAny (model prog w) A (subscripted (.Slice lo up none p) false o i) (fun r s₃ => wpAny (model prog w) A (letTemporaryGo value o r >>= fun _ => pure r) Q E s₃) E s :=
  wpAny_operating (wpAny_mono h (fun r s₃ h₃ => wpAny_bind (wpAny_letTemporaryGo (wpAny_pure h₃))) fun _ _ x => x)
 first
  | exact wpAny_pure (wpAny_bind last)
  | exact wpAny_bind (wpAny_pure (wpAny_bind last))
  | exact wpAny_bind last
theorem Zby (n : Nat) (hn : 1 ≤ n) : Builtin.Slice.sliceAdjust none (some (-1)) 1 (n : Int) = (0, (n : Int) - 1) := by
 unfold Builtin.Slice.sliceAdjust
 have h1 : ¬ ((1 : Int) < 0) := by decide
 have h2 : ((-1 : Int) < 0) := by decide
 simp only [h1, h2, if_false, if_true]
 refine Prod.ext ?_ ?_
 ·first | rfl | (simp; omega) | omega
 ·simp only
  first | omega | (split <;> omega) | (simp; omega)
theorem ZaZ (n : Nat) (hn : 1 ≤ n) : Builtin.Slice.slicePlaces 0 ((n : Int) - 1) 1 = n - 1 := by
 unfold Builtin.Slice.slicePlaces
 have h1 : (1 : Int) > 0 := by omega
 simp only [h1, if_true, Int.ediv_one]
 obtain ⟨m, rfl⟩ : ∃ m, n = m + 1 := ⟨n - 1, (Nat.succ_pred_eq_of_pos hn).symm⟩
 rw [show ((m + 1 : Nat) : Int) - 1 = (m : Int) from Int.add_sub_cancel (m : Int) 1]
 cases m with
 | zero => rfl
 | succ k => rw [if_pos (show (0 : Int) < ((k + 1 : Nat) : Int) from Int.ofNat_lt.mpr (Nat.succ_pos k)), Int.sub_zero, Int.sub_add_cancel]; exact Int.toNat_natCast _
theorem Zar {sl : Addr} {n : Nat} {u : Tok} {Q : Int × Int × Nat → Shared → Prop} (hs : s.heap.IsSliceOf sl .none (.int (-1) u) .none) (hn : 1 ≤ n) (h : Q (0, 1, n - 1) s) :
  wpAny (model prog w) A (Builtin.Slice.sliceApplied (.ref sl) (pure (n : Int))) Q E s := by
 obtain ⟨os, hos, hcs, hds⟩ := id hs
 refine wpAny_bind (wpAny_bind (wpAny_field hos hds (x := .none) rfl (wpAny_bind (wpAny_field hos hds (x := .int (-1) u) rfl (wpAny_bind (wpAny_field hos hds (x := .none) rfl (wpAny_pure ?_)))))))
 refine wpAny_bind (slicePart_none ?_)
 rw [if_neg (by decide)]
 refine wpAny_bind (slicePart_none (wpAny_bind (slicePart_int (wpAny_bind (wpAny_pure ?_)))))
 show wpAny _ _ (match Builtin.Slice.sliceAdjust none (some (-1)) 1 (n : Int) with | (lo, hi) => pure (lo, (1 : Int), Builtin.Slice.slicePlaces lo hi 1)) _ _ s
 rw [Zby n hn]
 show wpAny _ _ (pure ((0 : Int), (1 : Int), Builtin.Slice.slicePlaces 0 ((n : Int) - 1) 1)) _ _ s
 rw [ZaZ n hn]
 exact wpAny_pure h
theorem JF {α : Type} (l : List α) : ∀ k, k ≤ l.length → ((List.range k).filterMap fun i => l[i]?) = l.take k
 | 0, _ => by simp
 | k + 1, h => by
  rw [List.range_succ, List.filterMap_append, JF l k (Nat.le_of_succ_le h)]
  rw [List.take_add_one]
  congr 1
theorem Zd8 (xs : Array Value) : ((List.range (xs.size - 1)).filterMap fun (k : Nat) => xs[((0 : Int) + (k : Int) * 1).toNat]?).toArray = xs.toList.dropLast.toArray := by
 have e : (fun (k : Nat) => xs[((0 : Int) + (k : Int) * 1).toNat]?) = fun k => xs.toList[k]? := by
  funext k
  have : ((0 : Int) + (k : Int) * 1).toNat = k := by rw [Int.zero_add, Int.mul_one]; exact Int.toNat_natCast k
  rw [this, Array.getElem?_toList]
 rw [e, JF _ _ (by rw [Array.length_toList]; exact Nat.sub_le _ _), List.dropLast_eq_take, Array.length_toList]
theorem Zam {t sl : Addr} {items : Array Value} {u : Tok} {Q : Value → Shared → Prop} (ht : IsTup s.heap t items) (hs : s.heap.IsSliceOf sl .none (.int (-1) u) .none) (h1 : 1 ≤ items.size)
  (h : Q (.ref s.heap.objs.size) { s with heap := s.heap.push { cls := .type "tuple", data := .seq items.toList.dropLast.toArray } })
  (hsz : items.size ≤ sizeLine) : wpAny (model prog w) A (getItem (.ref t) (.ref sl)) Q E s := by
 have hok : sizeOk (.seq items.toList.dropLast.toArray) := by
  show items.toList.dropLast.toArray.size ≤ sizeLine
  rw [List.size_toArray, List.length_dropLast, Array.length_toList]
  exact Nat.le_trans (Nat.sub_le _ _) hsz
 try clear hsz; try clear data; try clear cls; try clear heap; try clear Q; try clear u
 obtain ⟨os, hos, hcs, hds⟩ := id hs
 have hTs : s.TypeIs (.ref sl) "slice" := ⟨os, hos, hcs⟩
 unfold getItem
 try with_reducible refine wpAny_holding ?_
 first | refine wpAny_bind (wpAny_pure ?_) | skip
 refine wpAny_bind (wpAny_sequenceKey ht.typeIs (by decide) ?_)
 refine wpAny_bind (wpAny_callSpecial?_slot (name := Str.ofString "__getitem__") ht.typeIs slot_tuple_getitem
  (wpAny_call_entry slot_tuple_getitem ht.typeIs entry_tuple_getitem ?_ (args_tuple_getitem _ _)))
 show wpAny _ _ (Builtin.Tuple.tupleItemsOf (.ref t) >>= _) _ _ s
 refine wpAny_bind (tupleItemsOf_ ht ?_)
 refine wpAny_bind (wpAny_typeOf hTs ?_)
 rw [if_pos (by decide)]
 refine wpAny_bind (Zar hs h1 ?_)
 have hno : ¬ (((0 : Int) == 0 && (1 : Int) == 1 && (items.size - 1) == items.size) = true) := by
  have : ((items.size - 1) == items.size) = false := by rw [beq_eq_false_iff_ne]; exact Nat.ne_of_lt (Nat.sub_lt h1 Nat.one_pos)
  rw [this]; simp
 show wpAny _ _ (if ((0 : Int) == 0 && (1 : Int) == 1 && (items.size - 1) == items.size) = true then _ else _) _ _ s
 rw [if_neg hno, Zd8 items]
 first
  | exact wpAny_bind (m := Builtin.Tuple.tupleExact _) (wpAny_newObj_type (wpAny_pure ⟨_, rfl, wpAny_pure h⟩) hok)
  | exact wpAny_bind (m := Builtin.Tuple.tupleExact _) (wpAny_newObj_type (wpAny_bind (wpAny_pure (wpAny_pure ⟨_, rfl, wpAny_pure h⟩))) hok)
  | exact wpAny_bind (wpAny_bind (m := Builtin.Tuple.tupleExact _) (wpAny_newObj_type (wpAny_pure (wpAny_pure ⟨_, rfl, wpAny_pure h⟩)) hok))
  | exact wpAny_bind (wpAny_bind (m := Builtin.Tuple.tupleExact _) (wpAny_newObj_type (wpAny_pure ⟨_, rfl, wpAny_pure h⟩) hok))
theorem VTs.dropLast : ∀ {vs : List AV} {ws : List Value}, VTs prog w Λ vs ws → VTs prog w Λ vs.dropLast ws.dropLast
 | [], _, h => by (have hh := VTs.unnil h; clear h; subst hh); exact .nil
 | [v], _, h => by obtain ⟨_, _, rfl, h, g⟩ := h.uncons; (have hh := VTs.unnil g; clear g; subst hh); exact .nil
 | v :: u :: vs, _, h => by
  obtain ⟨_, _, rfl, h, g⟩ := h.uncons
  cases g with
  | cons h' g' => exact .cons h (VTs.dropLast (.cons h' g'))
theorem Ziy {value : Expr} {lo up : Option Expr} {p : Pos} {a b : AV} {x y : Value} {K : KE} {Q : Value → Shared → Prop} (h : ZkK a b σ K) (R : Rep prog w B₀ outs L loc Λ σ ρ s.heap) (va : VR prog w Λ ρ a x) (vb : VR prog w Λ ρ b y)
  (P : PE prog w B₀ outs L loc Λ ρ K Q s) :
  wpAny (model prog w) A (subscriptTail value (.Slice lo up none p) x (.ref s.heap.objs.size)) Q E { s with heap := s.heap.push { cls := .type "slice", data := .fields #[.none, y, .none] } } := by
 delta ZkK at h
 cases b with
 | int i =>
  obtain ⟨t, rfl⟩ := vb.int_
  cases a with
  | str z =>
   obtain ⟨u, rfl⟩ := va.str_
   have ei := h.l
   have h2 := h.r
   have hl := h2.l
   have k := h2.r
   subst ei
   obtain ⟨T, id, h1, h2, h3⟩ := SBH.sliceItem_ns (prog := prog) (w := w) (A := A) (E := E) (s := s) (x := z) (t := u) (j := 1) (uj := t) (P := fun h' => ∀ b o, s.heap.get? b = some o → h'.get? b = some o) (Q := Q) (fun h' o e b x q => Heap.get?_push_of_some _ (e b x q)) (fun _ _ e => e)
    (fun h' t' k' e => P _ _ Λ ρ _ h' k' k (Lay.le.refl _) (List.prefix_refl _) (R.grow e) (Jk _ _)) (by rw [← WZ]; exact U4 hl)
   exact Zbk h2 h1 h3
  | tup vs =>
   obtain ⟨q, ws, m, rfl, e, g⟩ := va.tup_
   delta Ziz at h
   dsimp only at h
   cases vs with
   | nil => exact h.elim
   | cons v l =>
    have ei := h.l
    have h2 := h.r
    have hl := h2.l
    have k := h2.r
    subst ei
    have ht := YG (R.frzAt e)
    have ht' : IsTup (s.heap.push { cls := .type "slice", data := .fields #[.none, .int (-1) t, .none] }) q ws.toArray := ht.keeps fun _ _ e => Heap.get?_push_of_some _ e
    have hlen : ws.length = l.length + 1 := by rw [g.length]; rfl
    refine Zbk (s := { s with heap := s.heap.push { cls := .type "slice", data := .fields #[.none, .int (-1) t, .none] } }) ht'.typeIs slot_tuple_getitem.lookup
     (Zam (s := { s with heap := s.heap.push { cls := .type "slice", data := .fields #[.none, .int (-1) t, .none] } }) ht' (Heap.IsSliceOf.new ..) (by rw [List.size_toArray, hlen]; omega) ?_ (by rw [List.size_toArray, hlen]; exact U4 hl))
    have R1 := R.grow (h' := s.heap.push { cls := .type "slice", data := .fields #[.none, .int (-1) t, .none] }) fun _ _ e => Heap.get?_push_of_some _ e
    obtain ⟨Λ', l', e', R2⟩ := R1.push (ZT ws.dropLast 0) rfl
    exact P _ _ Λ' ρ _ _ s.toks k l' (List.prefix_refl _) R2 (.inl (.tup (n := 0) e' ((VTs.dropLast g).mono l'.sees)))
  | _ => exact h.elim
 | _ => exact h.elim
end
section
variable {prog : Program} {w : World} {B₀ : Heap} {Kf : Frag} {pg : Pg} {n : Nat} {A : Around} {env : Env} {outs : List Env} {L : Addr} {fi : FI} {loc : Loc} {E : Value → Shared → Prop} {X : KC} {σ : Led} {Λ : Lay} {ρ : List Addr} {s : Shared}
theorem ZgW (Pm : Prims prog w B₀ Kf pg) (S : Snd prog w B₀ pg n) (C : Cx B₀ A env outs L fi (n + 1)) {f : Expr} {pos : Pos} {args : List Expr} {K : KE} {Q : Value → Shared → Prop} (hn : noStar args = true)
  (h : (ev pg n).E fi loc σ f (fun g σ₁ => chk (WU pg g = true) (XS (ev pg n) fi loc args σ₁ (fun vs σ₂ => Zk8 pg (ev pg n) n fi.calm g vs σ₂ K X) X)) X)
  (hf : eval (.Call f args [] pos) env = (do callWith pos (← eval f env) [] (backTo pos (starEach args env)) (backToKw pos (keywordEach [] env))))
  (R : Rep prog w B₀ outs L loc Λ σ ρ s.heap) (P : PE prog w B₀ outs L loc Λ ρ K Q s) (PX : PX prog w B₀ outs L loc Λ ρ X E s) : wpAny (model prog w) A (eval (.Call f args [] pos) env) Q E s := by
 rw [hf]
 refine wpAny_bind ?_
 refine S.E C.less h R (fun g σ' Λ' ρ' x h' tk k l p R' V => ?_) PX
 refine Wz Pm hn (Zap Pm k.l V) ?_
 refine XA S C.less (s := { s with heap := h', toks := tk }) hn k.r R' (fun vs σ₂ Λ₂ ρ₂ xs h₂ tk₂ k3 l₂ p₂ R₂ V₂ => ⟨R₂.toRep0.keep, ?_⟩) (PX.at l p h' tk)
 rw [List.nil_append]
 exact ZiJ (s := { s with heap := h₂, toks := tk₂ }) Pm S C k3 R₂ (V.mono l₂.sees p₂) V₂ (P.at (l.trans l₂) (p.trans p₂) h₂ tk₂) (PX.at (l.trans l₂) (p.trans p₂) h₂ tk₂)
theorem Zfn {vs : List AV} {ws : List Value} (g : VTs prog w Λ vs ws) (h : ZU vs.length) : ws.length ≤ sizeLine := by rw [g.length]; exact U4 h
theorem ZjS {v : AV} {x : Value} {K : KE} {Q : Value → Shared → Prop} (h : match v with | .int i => K (.int (-i)) σ | _ => False) (R : Rep prog w B₀ outs L loc Λ σ ρ s.heap) (V : VR prog w Λ ρ v x)
  (P : PE prog w B₀ outs L loc Λ ρ K Q s) : wpAny (model prog w) A (unaryOp .USub x) Q E s := by
 cases v with
 | int i =>
  obtain ⟨t, rfl⟩ := V.int_
  exact neg_int (P.out R h (Jl _ _) _)
 | _ => exact h.elim
theorem Zfe (S : Snd prog w B₀ pg n) (C : Cx B₀ A env outs L fi (n + 1)) {o i : Expr} {K : KE} {Q : Value → Shared → Prop} (hi : Y5 i = false)
  (plain : Y5 i = false → (ev pg n).E fi loc σ o (fun a σ₁ => (ev pg n).E fi loc σ₁ i (fun b σ₂ => Zgi a b σ₂ K) X) X →
    wpAny (model prog w) A (eval o env) (fun o_1 s₁ => wpAny (model prog w) A (eval i env) (fun i_1 s₂ => wpAny (model prog w) A (subscriptTail o i o_1 i_1) Q E s₂) E s₁) E s)
  (h : match W6 o with
   | some p => G6 (ev pg n) fi loc σ p.1 p.2 i K X
   | none => (ev pg n).E fi loc σ o (fun a σ₁ => (ev pg n).E fi loc σ₁ i (fun b σ₂ => Zgi a b σ₂ K) X) X)
  (R : Rep prog w B₀ outs L loc Λ σ ρ s.heap) (P : PE prog w B₀ outs L loc Λ ρ K Q s) (PX : PX prog w B₀ outs L loc Λ ρ X E s) :
  wpAny (model prog w) A (eval o env) (fun o_1 s₁ => wpAny (model prog w) A (eval i env) (fun i_1 s₂ => wpAny (model prog w) A (subscriptTail o i o_1 i_1) Q E s₂) E s₁) E s := by
 generalize q : W6 o = zz at h ⊢
 cases zz with
 | none => exact plain hi h
 | some p =>
  simp only at h
  delta W6 at q
  cases o with
  | Dict ks vs pos =>
   dsimp only at q
   generalize q2 : V4 ks = zz at q ⊢
   cases zz with
   | true => exact xN q
   | false =>
    (replace q := xI q; cases q)
    delta G6 at h
    refine ZgG (knd := strKind prog w) h.l R fun Λ₁ l1 e1 R1 => ?_
    refine UA S C.less (s := { s with heap := s.heap.push { cls := .type "dict", data := .dict #[] } }) h.r R1 (fun es σ₂ Λ₂ ρ₂ kvs ws h₂ tk₂ k₂ l₂ p₂ R₂ g c => ?_) (PX.at l1 (List.prefix_refl _) _ s.toks)
    refine ⟨Λ₂, σ₂, ρ₂, kvs, h₂, tk₂, rfl, l₂, p₂, R₂, c, by rw [g.keys]; exact UD k₂.l, fun d ob Λ₃ h₃ tk₃ l₃ s₃ e₃ ho R₃ => ?_⟩
    refine S.E C.less (s := { s with heap := h₃, toks := tk₃ }) k₂.r R₃ (fun b σ₄ Λ₄ ρ₄ y h₄ tk₄ k₄ l₄ p₄ R₄ V₄ => ?_) (PX.at l₃ p₂ h₃ tk₃)
    cases b with
    | str x =>
     obtain ⟨t, rfl⟩ := V₄.str_
     obtain ⟨v, ev, k₅⟩ := Zo k₄
     obtain ⟨z, q1, q2⟩ := g.valueAt_str ev
     have hob : h₄.get? d = some ob := by have := R₄.tag d; rw [l₄.hid e₃] at this; exact this
     have hD : h₄.DictOf (strKind prog w) d kvs := Heap.dictOf_iff.mpr ⟨ob, hob, ho⟩
     exact Xv (s := { s with heap := h₄, toks := tk₄ }) hD.mapOf.typeIs slot_dict_getitem.lookup (wpAny_getItem_of (ZO x t) hD.mapOf q1 (P _ _ Λ₄ ρ₄ _ h₄ _ k₅ (l₃.trans l₄) (p₂.trans p₄) R₄ (.inl ((q2.mono s₃).mono l₄.sees)))) hi
    | _ => exact k₄.elim
  | _ => exact xN q
theorem Zna (Pm : Prims prog w B₀ Kf pg) (S : Snd prog w B₀ pg n) (C : Cx B₀ A env outs L fi (n + 1)) {e : Expr} {K : KE} {Q : Value → Shared → Prop} (h : Zfi pg (ev pg n) n fi loc σ e K X)
  (R : Rep prog w B₀ outs L loc Λ σ ρ s.heap) (P : PE prog w B₀ outs L loc Λ ρ K Q s) (PX : PX prog w B₀ outs L loc Λ ρ X E s)
  (HC : ∀ el gens scope pos, Vj pg (ev pg n) fi loc σ el gens scope K X → wpAny (model prog w) A (eval (.ListComp el gens scope pos) env) Q E s) : wpAny (model prog w) A (eval e env) Q E s := by
 cases e with
 | ListComp el gens scope pos => exact HC _ _ _ _ h
 | Constant c k pos => exact ZhX h R P
 | Name x pos => exact VS C Pm.G h R P
 | BinOp l op r pos =>
  refine wpAny_BinOp ?_
  refine S.E C.less h R (fun a σ' Λ' ρ' x h' tk k l' p R' V => ?_) PX
  refine S.E C.less (s := { s with heap := h', toks := tk }) k R' (fun b σ₂ Λ₂ ρ₂ y h₂ tk₂ k₂ l₂ p₂ R₂ V₂ => ?_) (PX.at l' p h' tk)
  exact ZiG (s := { s with heap := h₂, toks := tk₂ }) k₂ R₂ (V.mono l₂.sees p₂) V₂ (P.at (l'.trans l₂) (p.trans p₂) h₂ tk₂)
 | UnaryOp op x pos =>
  refine UnaryOp_ ?_
  cases op with
  | Not =>
   refine S.E C.less h R (fun v σ' Λ' ρ' y h' tk k l p R' V => ?_) PX
   obtain ⟨b, rfl, rfl, k'⟩ := Zh3 k V
   exact not_of (wpAny_truthy_bool (P _ _ Λ' ρ' _ h' tk k' l p R' (ZcU _)))
  | USub =>
   refine S.E C.less h R (fun v σ' Λ' ρ' y h' tk k l p R' V => ?_) PX
   exact ZjS (s := { s with heap := h', toks := tk }) k R' V (P.at l p h' tk)
  | _ => exact (show False from h).elim
 | BoolOp op es pos => exact Gf S C.less h R P PX
 | Compare l ops es pos =>
  show wpAny (model prog w) A (do compareChain pos (← eval l env) ops (markedEach ops es (evalEach es env))) Q E s
  rw [marks_of h.l]
  refine wpAny_bind ?_
  refine S.E C.less h.r R (fun v σ' Λ' ρ' x h' tk k l' p' R' V => ?_) PX
  exact GU S Pm.M C.less (s := { s with heap := h', toks := tk }) k R' V (fun b σ₂ Λ₂ ρ₂ h₂ tk₂ k₂ l₂ p₂ R₂ => P _ _ Λ₂ ρ₂ _ h₂ tk₂ k₂ (l'.trans l₂) (p'.trans p₂) R₂ (ZcU _)) (PX.at l' p' h' tk)
 | IfExp t a b pos =>
  refine IfExp_ ?_
  refine S.T C.less h R (fun c σ' Λ' ρ' h' tk k l p R' => ?_) PX
  cases c with
  | true => exact S.E C.less (s := { s with heap := h', toks := tk }) (XM k) R' (P.at l p h' tk) (PX.at l p h' tk)
  | false => exact S.E C.less (s := { s with heap := h', toks := tk }) (XN k) R' (P.at l p h' tk) (PX.at l p h' tk)
 | Call f args kw pos =>
  cases kw with
  | cons _ _ => exact (show False from h).elim
  | nil =>
   have hn := h.l
   replace h := h.r
   cases f with
   | Attribute o m apos => exact Zb5 Pm S C hn h.l h.r.l h.r.r.l h.r.r.r R P PX
   | _ => exact ZgW Pm S C hn h rfl R P PX
 | Attribute o m pos =>
  show wpAny (model prog w) A (do
   let ov ← attributeBase o m env (eval o env)
   standAt pos.atName
   let r ← holding [ov] (getAttr ov m true)
   letTemporaryGo o ov r
   pure r) Q E s
  rw [W8 h.l]
  refine wpAny_bind ?_
  refine S.E C.less h.r R (fun v σ' Λ' ρ' x h' tk k l p R' V => ?_) PX
  refine wpAny_bind (wpAny_standAt (wpAny_bind (wpAny_holding ?_)))
  refine wpAny_mono (Pm.attr (s := { s with heap := h', toks := tk }) k R' V (P.at l p h' tk)) (fun r s₂ hq => wpAny_bind (wpAny_letTemporaryGo (wpAny_pure hq))) fun _ _ e => e
 | Subscript o i pos =>
  refine PyProof.Rows.Subscript_ ?_
  have plain : Y5 i = false → (ev pg n).E fi loc σ o (fun a σ₁ => (ev pg n).E fi loc σ₁ i (fun b σ₂ => Zgi a b σ₂ K) X) X →
    wpAny (model prog w) A (eval o env) (fun o_1 s₁ => wpAny (model prog w) A (eval i env) (fun i_1 s₂ => wpAny (model prog w) A (subscriptTail o i o_1 i_1) Q E s₂) E s₁) E s := fun hi h => by
   refine S.E C.less h R (fun a σ' Λ' ρ' x h' tk k l' p R' V => ?_) PX
   refine S.E C.less (s := { s with heap := h', toks := tk }) k R' (fun b σ₂ Λ₂ ρ₂ y h₂ tk₂ k₂ l₂ p₂ R₂ V₂ => ?_) (PX.at l' p h' tk)
   exact Zia (s := { s with heap := h₂, toks := tk₂ }) k₂ R₂ (V.mono l₂.sees p₂) V₂ (P.at (l'.trans l₂) (p.trans p₂) h₂ tk₂) hi
  cases i with
  | Slice lo up st p =>
   cases lo with
   | some _ => exact (show False from h).elim
   | none =>
    cases st with
    | some _ => exact (show False from h).elim
    | none =>
     cases up with
     | none => exact (show False from h).elim
     | some u =>
      refine S.E C.less h R (fun a σ' Λ' ρ' x h' tk k l' p R' V => ?_) PX
      show wpAny (model prog w) A (do
       let l ← valueOrNone none
       let u ← holding [l] (valueOrNone (some (eval u env)))
       let st ← holding [l, u] (valueOrNone none)
       newFields "slice" [l, u, st]) _ E _
      refine wpAny_bind (wpAny_pure (wpAny_bind (wpAny_holding ?_)))
      refine S.E C.less (s := { s with heap := h', toks := tk }) k R' (fun b σ₂ Λ₂ ρ₂ y h₂ tk₂ k₂ l₂ p₂ R₂ V₂ => ?_) (PX.at l' p h' tk)
      refine wpAny_bind (wpAny_holding (wpAny_pure ?_))
      refine wpAny_newObj_type ?_ (by show 3 ≤ sizeLine + 2; decide)
      exact Ziy (s := { s with heap := h₂, toks := tk₂ }) k₂ R₂ (V.mono l₂.sees p₂) V₂ (P.at (l'.trans l₂) (p.trans p₂) h₂ tk₂)
  | _ => exact Zfe S C rfl plain h R P PX
 | List es pos =>
  refine wpAny_List ?_
  refine XA S C.less h.l h.r R (fun vs σ' Λ' ρ' xs h' tk k l p R' V => ?_) PX
  have g := V.trees_ k.l
  refine ⟨Zfn g k.r.l, ?_⟩
  obtain ⟨Λ₂, l₂, e₂, R₂⟩ := R'.push (Zn xs 0) rfl
  exact P _ _ Λ₂ ρ' _ _ tk k.r.r (l.trans l₂) p R₂ (.inl (.lst (n := 0) e₂ (g.mono l₂.sees)))
 | Tuple es k pos =>
  refine wpAny_Tuple ?_
  refine XA S C.less h.l h.r R (fun vs σ' Λ' ρ' xs h' tk k l p R' V => ?_) PX
  have g := V.trees_ k.l
  refine ⟨Zfn g k.r.l, ?_⟩
  obtain ⟨Λ₂, l₂, e₂, R₂⟩ := R'.push (ZT xs 0) rfl
  exact P _ _ Λ₂ ρ' _ _ tk k.r.r (l.trans l₂) p R₂ (.inl (.tup (n := 0) e₂ (g.mono l₂.sees)))
 | Dict ks vs pos =>
  delta Zfi at h
  dsimp only at h
  generalize V4 ks = zz at h ⊢
  cases zz with
  | true =>
   refine Zdw (knd := intKind prog w) h.l R P fun Λ₁ l1 e1 R1 => ?_
   refine GP S C.less (s := { s with heap := s.heap.push { cls := .type "dict", data := .dict #[] } }) h.r R1 (fun es σ' Λ' ρ' kvs ws h' tk k l p R' g c => ?_) (PX.at l1 (List.prefix_refl _) _ s.toks)
   exact ⟨Λ', σ', ρ', kvs, .div es, h', tk, rfl, l, p, R', c, by rw [g.keys]; exact GZ k.l, k.r, fun o ho => ⟨kvs, g, ho⟩⟩
  | false =>
   refine Zdw (knd := strKind prog w) h.l R P fun Λ₁ l1 e1 R1 => ?_
   refine UA S C.less (s := { s with heap := s.heap.push { cls := .type "dict", data := .dict #[] } }) h.r R1 (fun es σ' Λ' ρ' kvs ws h' tk k l p R' g c => ?_) (PX.at l1 (List.prefix_refl _) _ s.toks)
   exact ⟨Λ', σ', ρ', kvs, .dsv es, h', tk, rfl, l, p, R', c, by rw [g.keys]; exact UD k.l, k.r, fun o ho => ⟨kvs, g, ho⟩⟩
 | _ => exact (show False from h).elim
end
section
variable {prog : Program} {w : World} {B₀ : Heap} {outs : List Env} {L : Addr} {loc : List (Str × AV)} {Λ Λ' : Lay} {σ : List AO} {ρ : List Addr} {A : Around} {E : Value → Shared → Prop} {s : Shared} {h h' : Heap} {env : Env}
noncomputable def Tag.obj : Tag → Bool
 | .frz _ => true
 | .hid _ => true
 | .led _ => true
 | .pen => true
 | .penq => true
 | _ => false
noncomputable def Tag.isFrame : Tag → Bool
 | .frm _ => true
 | .cur => true
 | _ => false
theorem Rep.slots (R : Rep prog w B₀ outs L loc Λ σ ρ h) (s1 : ∀ b o, (Λ b).obj = true → h.get? b = some o → h'.get? b = some o)
  (s2 : ∀ b o, (Λ b).isFrame = true → h.get? b = some o → ∃ sl, h'.get? b = some { o with slots := sl }) : Rep prog w B₀ outs L loc Λ σ ρ h' where
 b0 := R.b0
 tag := fun a => by
  have H := R.tag a
  have t1 := s1 a
  have t2 := s2 a
  generalize Λ a = t at H t1 t2
  cases t with
  | free => trivial
  | led k => trivial
  | frz o => exact t1 o rfl H
  | hid o => exact t1 o rfl H
  | frm o =>
   obtain ⟨sl, H⟩ := H
   obtain ⟨sl', H'⟩ := t2 _ rfl H
   exact ⟨sl', H'⟩
  | cur =>
   obtain ⟨o, H⟩ := H
   obtain ⟨sl', H'⟩ := t2 _ rfl H
   exact ⟨_, H'⟩
  | pen =>
   obtain ⟨o, H, q⟩ := H
   exact ⟨o, t1 o rfl H, q⟩
  | penq =>
   obtain ⟨o, H, q⟩ := H
   exact ⟨o, t1 o rfl H, q⟩
 len := R.len
 led := fun k ao e => (R.led k ao e).grow fun a o z => s1 a o (by rw [z]; rfl)
 z0 := R.z0
 sm := R.sm
 cur := R.cur
 ns := by
  obtain ⟨m, ⟨o, es, ep, ho, hd, r⟩, l⟩ := R.ns
  obtain ⟨sl, hs⟩ := s2 L o (by rw [R.cur]; rfl) ho
  exact ⟨m, ⟨_, es, ep, hs, hd, r⟩, l⟩
 lA := R.lA
 out := R.out
theorem Ga (o : Obj) (f) : (o.mapFields f).dict = o.dict := by
 obtain ⟨c, d, x, s⟩ := o
 cases x <;> rfl
theorem Rep.funFrames (R : Rep prog w B₀ outs L loc Λ σ ρ h) (hk : env.scope.kind ≠ .module) (hf : env.frame = some L) : h.FunFrames {} (env :: outs) := by
 have em : ∀ a, Heap.get? {} a = none := fun a => by
  refine Heap.get?_none_of_le ?_
  exact Nat.zero_le _
 refine ⟨hk, ?_, ?_⟩
 ·obtain ⟨m, ⟨o, es, ep, ho, hd, r⟩, l⟩ := R.ns
  exact ⟨L, o, hf, em L, ho, fun vs q => by rw [hd] at q; (exfalso; cases q)⟩
 ·have : ∀ l : List Env, WW Λ l → h.FunFrames {} l := fun l => by
   induction l with
   | nil => intro _; trivial
   | cons e l ih =>
    intro H
    obtain ⟨k, L', o, e1, e2, e3⟩ := H e (.head _)
    have T := R.tag L'
    rw [e2] at T
    obtain ⟨sl, T⟩ := T
    exact ⟨k, ⟨L', _, e1, em L', T, e3⟩, ih fun x hx => H x (.tail _ hx)⟩
  exact this _ R.out
theorem Rep.frameTags (R : Rep prog w B₀ outs L loc Λ σ ρ h) (hf : env.frame = some L) : ∀ b ∈ (env :: outs).filterMap (·.frame), (Λ b).isFrame = true := fun b hb => by
 obtain ⟨e, he, hfe⟩ := List.mem_filterMap.mp hb
 obtain rfl | he := List.mem_cons.mp he
 ·rw [hf] at hfe; (replace hfe := xI hfe; cases hfe); rw [R.cur]; rfl
 ·obtain ⟨_, L', o, e1, e2, _⟩ := R.out e he
  rw [e1] at hfe; (replace hfe := xI hfe; cases hfe); rw [e2]; rfl
theorem GN (hfr : A.frames = some (env :: outs)) (hk : env.scope.kind ≠ .module) (hf : env.frame = some L) (R : Rep prog w B₀ outs L loc Λ σ ρ s.heap) {e : Addr} {oe : Obj} {vs : Array Value} {x : AX} {head : Value} {b : Bool} {Q : Unit → Shared → Prop}
  (he : s.heap.get? e = some oe) (hfe : Λ e = .free) (hd : oe.data = .fields vs) (hsz : 2 ≤ vs.size) (hsay : ZcO prog w Λ oe x.at_)
  (hq : ∀ Λ' h', Λ.le Λ' → Rep prog w B₀ outs L loc Λ' σ ρ h' → Zav prog w Λ' h' L true x e → Q () { s with heap := h' }) :
  wpAny (model prog w) A (do let a ← frameOf env; let pl ← entryPlaceOf L b; let t ← EntryCells.newEntry head a .none (rawInt L) .none pl; setField (.ref e) 1 t) Q E s := by
 refine wpAny_bind (wpAny_frameOf_fun hfr (R.funFrames hk hf) hf fun h₁ hs₁ => ?_)
 have R₁ : Rep prog w B₀ outs L loc Λ σ ρ h₁ := R.slots (fun b o n1 q => (hs₁.2.1 b fun hm => by
   have z := R.frameTags hf b hm
   generalize Λ b = t at n1 z
   cases t <;> first | (cases n1; done) | (exact xF z; done)).trans q) fun b o _ q => hs₁.2.2 b o q
 have hene : e ∉ (env :: outs).filterMap (·.frame) := fun hm => by
  have z := R.frameTags hf e hm
  rw [hfe] at z; exact xF z
 have he₁ : h₁.get? e = some oe := (hs₁.2.1 e hene).trans he
 refine wpAny_bind (wpAny_entryPlaceOf fun pl hpl => ?_)
 refine wpAny_bind (wpAny_newObj_type ?_ (hpl.sizeOk5 _ _ _ _ _))
 have he₂ := Heap.get?_push_of_some (h := h₁) { cls := .type "traceback", dict := none, data := .fields ([head, .ref L, .none, rawInt L, .none] ++ (if pl.isEmpty then List.replicate 6 Value.none else pl)).toArray } he₁
 refine wpAny_setField he₂ hd (by omega) ?_
 have hTe : h₁.objs.size ≠ e := Nat.ne_of_gt (Heap.lt_size he₁)
 have hd₃ := Obj.data_mapFields hd (·.setIfInBounds 1 (Value.ref h₁.objs.size))
 have he₃ := Heap.get?_update_self (Obj.mapFields (·.setIfInBounds 1 (Value.ref h₁.objs.size))) he₂ (Obj.isFreed_of_fields hd₃)
 have hT₃ := (Heap.get?_update_other (h₁.push { cls := .type "traceback", dict := none, data := .fields ([head, .ref L, .none, rawInt L, .none] ++ (if pl.isEmpty then List.replicate 6 Value.none else pl)).toArray })
  (Obj.mapFields (·.setIfInBounds 1 (Value.ref h₁.objs.size))) (Ne.symm hTe)).trans (Heap.get?_push_size h₁ rfl)
 obtain ⟨Λ₂, l₂, f₂, e₂, R₂⟩ := R₁.forget (a := h₁.objs.size) (Heap.get?_none_of_le (Nat.le_refl _))
 have hfe₂ : Λ₂ e = .free := f₂ _ hfe
 refine hq Λ₂ _ l₂ ?_ ?_
 ·refine R₂.slots (fun b o n1 q => ?_) fun b o hb q => ?_
  ·have hbe : b ≠ e := fun z => by rw [z, hfe₂] at n1; exact xF n1
   rw [Heap.get?_update_other _ _ (Ne.symm hbe)]
   exact Heap.get?_push_of_some _ q
  ·have hbe : b ≠ e := fun z => by rw [z, hfe₂] at hb; exact xF hb
   refine ⟨o.slots, ?_⟩
   rw [Heap.get?_update_other _ _ (Ne.symm hbe)]
   exact Heap.get?_push_of_some _ q
 ·obtain ⟨d, od, kvs, v, a1, a2, a3, a4, a5, a6⟩ := hsay
  refine ⟨_, _, he₃, hfe₂, hd₃, by simpa using hsz, ⟨d, od, kvs, v, ?_, ?_, l₂.frz a3, a4, a5, a6.mono l₂.sees⟩, .inr ⟨h₁.objs.size, _, _, rawInt L, ?_, e₂, hTe, hT₃, rfl, ?_, .inl rfl⟩⟩
  ·rw [Obj.cls_mapFields]; exact a1
  ·rw [Ga]; exact a2
  ·rw [Array.getElem?_setIfInBounds_self_of_lt (by omega)]
  ·first | (simp; done) | (obtain rfl | ⟨_, _, _, _, _, _, _, rfl⟩ := hpl <;> simp)
theorem JM (hfr : A.frames = some (env :: outs)) (hk : env.scope.kind ≠ .module) (hf : env.frame = some L) (R : Rep prog w B₀ outs L loc Λ σ ρ s.heap) {e : Addr} {x : AX} {Q : Unit → Shared → Prop} (H : U5 prog w Λ s.heap L x e)
  (hq : ∀ Λ' h', Λ.le Λ' → Rep prog w B₀ outs L loc Λ' σ ρ h' → Zav prog w Λ' h' L true x e → Q () { s with heap := h' }) : wpAny (model prog w) A (noteFrame (.ref e) env) Q E s := by
 obtain ⟨oe, vs, h1, h2, h3, h4, h5, h6⟩ := H
 unfold noteFrame
 simp only [hf]
 obtain ⟨_, h6⟩ | ⟨T, oT, ts, fl, a1, a2, a3, a4, a5, a6, a7⟩ := h6
 ·refine wpAny_bind (wpAny_field h1 h3 h6 ?_)
  rw [if_neg (by decide)]
  exact GN hfr hk hf R h1 h2 h3 h4 h5 hq
 ·refine wpAny_bind (wpAny_field h1 h3 a1 ?_)
  rw [if_pos (show (Value.ref T != Value.none) = true from by simp)]
  refine wpAny_bind (wpAny_field a4 a5 a6 ?_)
  obtain rfl | ⟨_, rfl⟩ := a7
  ·rw [if_pos (show (rawInt L == rawInt L) = true from by simp)]
   exact wpAny_pure (hq Λ s.heap (Lay.le.refl _) R ⟨oe, vs, h1, h2, h3, h4, h5, .inr ⟨T, oT, ts, _, a1, a2, a3, a4, a5, a6, .inl rfl⟩⟩)
  ·rw [if_neg (show ¬ ((Value.none == rawInt L) = true) from by simp [rawInt])]
   refine wpAny_bind (wpAny_setField a4 a5 (Array.getElem?_eq_some_iff.mp a6).1 ?_)
   have other : ∀ b, b ≠ T → (s.heap.update T (Obj.mapFields (·.setIfInBounds 3 Value.none))).get? b = s.heap.get? b := fun b hb => Heap.get?_update_other _ _ (Ne.symm hb)
   have R₁ : Rep prog w B₀ outs L loc Λ σ ρ (s.heap.update T (Obj.mapFields (·.setIfInBounds 3 Value.none))) :=
    R.slots (fun b o n q => (other b fun z => by rw [z, a2] at n; exact xF n).trans q) fun b o n q => ⟨o.slots, (other b fun z => by rw [z, a2] at n; exact xF n).trans q⟩
   exact GN (s := { s with heap := s.heap.update T (Obj.mapFields (·.setIfInBounds 3 Value.none)) }) hfr hk hf R₁ ((other e (Ne.symm a3)).trans h1) h2 h3 h4 h5 hq
theorem VJ (R : Rep prog w B₀ outs L loc Λ σ ρ s.heap) {e : Addr} {x : AX} {fr : Option Addr} {Q : Unit → Shared → Prop} (H : Zav prog w Λ s.heap L true x e) {L' : Addr} (hL : fr = none ∨ fr = some L')
  (hq : ∀ h', Rep prog w B₀ outs L loc Λ σ ρ h' → U5 prog w Λ h' L' x e → Q () { s with heap := h' }) : wpAny (model prog w) A (setFlight (.ref e) fr) Q E s := by
 obtain ⟨oe, vs, h1, h2, h3, h4, h5, h6⟩ := H
 obtain ⟨c, _⟩ | ⟨T, oT, ts, fl, a1, a2, a3, a4, a5, a6, a7⟩ := h6
 ·exact xT c
 ·refine wpAny_bind (wpAny_field h1 h3 a1 ?_)
  rw [if_pos (show (Value.ref T != Value.none) = true from by simp)]
  have hsz3 : 3 < ts.size := (Array.getElem?_eq_some_iff.mp a6).1
  have other : ∀ b, b ≠ T → (s.heap.update T (Obj.mapFields (·.setIfInBounds 3 (fr.elim Value.none fun f => rawInt f)))).get? b = s.heap.get? b := fun b hb => Heap.get?_update_other _ _ (Ne.symm hb)
  refine wpAny_setField a4 a5 hsz3 (hq _ ?_ ?_)
  ·exact R.slots (fun b o n q => (other b fun z => by rw [z, a2] at n; exact xF n).trans q) fun b o n q => ⟨o.slots, (other b fun z => by rw [z, a2] at n; exact xF n).trans q⟩
  ·refine ⟨oe, vs, (other e (Ne.symm a3)).trans h1, h2, h3, h4, h5, .inr ⟨T, _, _, fr.elim Value.none (fun f => rawInt f), a1, a2, a3, Heap.get?_update_self _ a4 (Obj.isFreed_of_fields (Obj.data_mapFields a5 _)), Obj.data_mapFields a5 _, ?_, ?_⟩⟩
   ·rw [Array.getElem?_setIfInBounds_self_of_lt hsz3]
   ·obtain rfl | rfl := hL
    ·exact .inr ⟨rfl, rfl⟩
    ·exact .inl rfl
theorem Za7 (hfr : A.frames = some (env :: outs)) (hk : env.scope.kind ≠ .module) (hf : env.frame = some L) (R : Rep prog w B₀ outs L loc Λ σ ρ s.heap) {e : Addr} {x : AX} {L' : Addr} {Q : Unit → Shared → Prop} (H : U5 prog w Λ s.heap L x e)
  (hq : ∀ Λ' h', Λ.le Λ' → Rep prog w B₀ outs L loc Λ' σ ρ h' → U5 prog w Λ' h' L' x e → Q () { s with heap := h' }) : wpAny (model prog w) A (leaving env (.ref e)) Q E s := by
 unfold leaving
 refine wpAny_bind (JM hfr hk hf R H fun Λ₁ h₁ l₁ R₁ H₁ => ?_)
 exact VJ (s := { s with heap := h₁ }) R₁ H₁ (L' := L') (.inl rfl) fun h₂ R₂ H₂ => hq Λ₁ h₂ l₁ R₂ H₂
theorem ZgZ (hf : env.frame = some L) (R : Rep prog w B₀ outs L loc Λ σ ρ s.heap) {e : Addr} {x : AX} (H : Zav prog w Λ s.heap L true x e)
  (hq : ∀ h', Rep prog w B₀ outs L loc Λ σ ρ h' → U5 prog w Λ h' L x e → E (.ref e) { s with heap := h' }) : cameBackBy (model prog w) A env E (.ref e) s := by
 have H' := H
 obtain ⟨oe, vs, h1, h2, h3, h4, h5, h6⟩ := H
 obtain ⟨c, _⟩ | ⟨T, oT, ts, fl, a1, a2, a3, a4, a5, a6, a7⟩ := h6
 ·exact xT c
 ·refine wpAny_bind (wpAny_field h1 h3 a1 ?_)
  rw [if_neg (show ¬ ((Value.ref T == Value.none) = true) from by simp)]
  rw [hf]
  exact VJ R H' (L' := L) (.inr rfl) fun h' R' H'' => hq h' R' H''
theorem Zea (hfr : A.frames = some (env :: outs)) (hk : env.scope.kind ≠ .module) (hf : env.frame = some L) (R : Rep prog w B₀ outs L loc Λ σ ρ s.heap) {e : Addr} {x : AX} {Q : Value → Shared → Prop} (H : U5 prog w Λ s.heap L x e)
  (hq : ∀ Λ' h', Λ.le Λ' → Rep prog w B₀ outs L loc Λ' σ ρ h' → Zav prog w Λ' h' L true x e → Q (.ref e) { s with heap := h' }) : notedBy (model prog w) A env Q (.ref e) s := by
 unfold notedBy
 exact JM hfr hk hf R H hq
end
section
variable {prog : Program} {w : World} {B₀ : Heap} {outs : List Env} {L : Addr} {loc : List (Str × AV)} {Λ Λ' : Lay} {σ : List AO} {ρ : List Addr} {A : Around} {E : Value → Shared → Prop} {s : Shared} {h h' : Heap} {env : Env}
theorem WB {d : Addr} {o : Obj} (hd : Λ d = .hid o) (t : Tag) : Z2 Λ (Λ.up d t) :=
 ⟨fun a x e => by rw [Lay.up_ne _ _ fun q => by rw [q, hd] at e; (exfalso; cases e)]; exact e, fun a e => by rw [Lay.up_ne _ _ fun q => by rw [q, hd] at e; (exfalso; cases e)]; exact e⟩
theorem Rep.loose (R : Rep prog w B₀ outs L loc Λ σ ρ h) {d : Addr} {o : Obj} (hd : Λ d = .hid o) : Rep prog w B₀ outs L loc (Λ.up d .free) σ ρ h := by
 have sees := WB hd .free
 have nL : L ≠ d := fun q => by rw [← q, R.cur] at hd; (exfalso; cases hd)
 refine { toRep0 := ⟨fun b x e => sees.frz _ _ (R.b0 b x e), fun b => ?_, R.len, fun k x e => ?_, R.z0, R.sm⟩, cur := by rw [Lay.up_ne _ _ nL]; exact R.cur, ns := let ⟨m, n, l⟩ := R.ns; ⟨m, n, l.mono sees (List.prefix_refl _)⟩, lA := R.lA, out := fun env he => ?_ }
 ·by_cases q : b = d
  ·subst q; rw [Lay.up_self]; trivial
  ·rw [Lay.up_ne _ _ q]
   exact (R.tag b).grow (fun x e => e) fun c z => by rw [Lay.up_ne _ _ fun q => by rw [q, hd] at z; (exfalso; cases z)]; exact z
 ·refine (R.led k x e).up sees (List.prefix_refl _) fun a z => ?_
  rw [Lay.up_ne _ _ fun q => by rw [q, hd] at z; (exfalso; cases z)]; exact z
 ·obtain ⟨k, L', ob, e1, e2, e3⟩ := R.out env he
  exact ⟨k, L', ob, e1, by rw [Lay.up_ne _ _ fun q => by rw [q, hd] at e2; (exfalso; cases e2)]; exact e2, e3⟩
theorem Rep.growF (R : Rep prog w B₀ outs L loc Λ σ ρ h) (s : ∀ b o, Λ b ≠ .free → h.get? b = some o → h'.get? b = some o) : Rep prog w B₀ outs L loc Λ σ ρ h' := by
 obtain ⟨m, n, l⟩ := R.ns
 exact { toRep0 := R.toRep0.grow s, cur := R.cur, ns := ⟨m, n.at' (s _ · (by rw [R.cur]; exact nofun)), l⟩, lA := R.lA, out := R.out }
theorem ZiQ (Λ : Lay) (d : Addr) (t t' : Tag) : (Λ.up d t).up d t' = Λ.up d t' := by
 funext b
 by_cases q : b = d
 ·subst q; rw [Lay.up_self, Lay.up_self]
 ·rw [Lay.up_ne _ _ q, Lay.up_ne _ _ q, Lay.up_ne _ _ q]
theorem Rep.rehid (R : Rep prog w B₀ outs L loc Λ σ ρ h) {d : Addr} {o o' : Obj} (hd : Λ d = .hid o) (hs : ∀ b x, b ≠ d → h.get? b = some x → h'.get? b = some x) (ho : h'.get? d = some o') :
  Rep prog w B₀ outs L loc (Λ.up d (.hid o')) σ ρ h' := by
 have R1 := (R.loose hd).growF (h' := h') fun b x n e => hs b x (fun q => n (by rw [q]; exact Lay.up_self ..)) e
 have := R1.settle (a := d) (t := .hid o') (Lay.up_self ..) ho
 rwa [ZiQ] at this
structure Zji (Λ Λ' : Lay) : Prop where
 hid : ∀ {a o}, Λ a = .hid o → Λ' a = .hid o
 frz : ∀ {a o}, Λ a = .frz o → Λ' a = .frz o
 sees : Z2 Λ Λ'
theorem VX {Λ Λ' : Lay} (l : Λ.le Λ') : Zji Λ Λ' := ⟨l.hid, l.frz, l.sees⟩
noncomputable def Lax (Λ : Lay) (a : Addr) : Prop := Λ a = .free ∨ ∃ k, Λ a = .led k
structure ZcR (prog : Program) (w : World) (A : Around) (B₀ : Heap) (Λ₀ : Lay) (t : Expr) (I : Addr) (St : List AV → Lay → Prop) : Prop where
 keep : ∀ {vs : List AV} {Λ Λ' : Lay}, St vs Λ → Zji Λ Λ' → St vs Λ'
 next : ∀ {outs : List Env} {L : Addr} {loc : Loc} {σ : Led} {ρ : List Addr} {Λb Λ : Lay} {s : Shared} {v : AV} {vs : List AV} {Q : Value → Shared → Prop} {E : Value → Shared → Prop}, (∀ c o, Lax Λ₀ c → Λ c = .hid o → Lax Λb c) → Λb.le Λ → St (v :: vs) Λ → Rep prog w B₀ outs L loc Λ σ ρ s.heap →
  (∀ x Λ' h' tk, Λb.le Λ' → Z2 Λ Λ' → Rep prog w B₀ outs L loc Λ' σ ρ h' → VT prog w Λ' v x → St vs Λ' → Q x { s with heap := h', toks := tk }) →
  wpAny (model prog w) A (pyNext (.ref I)) (fun r s₁ => match r with | none => False | some x => wpAny (model prog w) A (letOwnedTupleGo t (.ref I) x) (fun _ s₂ => Q x s₂) E s₁) E s
 done : ∀ {outs : List Env} {L : Addr} {loc : Loc} {σ : Led} {ρ : List Addr} {Λb Λ : Lay} {s : Shared} {Q : Option Value → Shared → Prop} {E : Value → Shared → Prop}, (∀ c o, Lax Λ₀ c → Λ c = .hid o → Lax Λb c) → Λb.le Λ → St [] Λ → Rep prog w B₀ outs L loc Λ σ ρ s.heap →
  (∀ Λ' h' tk, Λb.le Λ' → Z2 Λ Λ' → Rep prog w B₀ outs L loc Λ' σ ρ h' → Q none { s with heap := h', toks := tk }) → wpAny (model prog w) A (pyNext (.ref I)) Q E s
 self : ∀ {outs : List Env} {L : Addr} {loc : Loc} {σ : Led} {ρ : List Addr} {Λ : Lay} {s : Shared} {vs : List AV} {Q : Value → Shared → Prop} {E : Value → Shared → Prop}, St vs Λ → Rep prog w B₀ outs L loc Λ σ ρ s.heap → Q (.ref I) s → wpAny (model prog w) A (pyIter (.ref I)) Q E s
noncomputable def StW (prog : Program) (w : World) (Λ₀ : Lay) (I : Addr) (fp : List Addr) (n : Nat) (P : Nat → Value → Prop) (Sth : Nat → Heap → Prop) (vs : List AV) (Λ : Lay) : Prop :=
 ∃ i o, Λ I = .hid o ∧ i + vs.length = n ∧ (Λ₀ I = .free ∨ ∃ k, Λ₀ I = .led k) ∧ (∀ b ∈ fp, b ≠ I → ∃ x, Λ b = .frz x) ∧
  (∀ h : Heap, h.get? I = some o → (∀ b ∈ fp, b ≠ I → ∀ x, Λ b = .frz x → h.get? b = some x) → Sth i h) ∧ (∀ j v, vs[j]? = some v → ∀ x, P (i + j) x → VT prog w Λ v x)
theorem Uw {Λ₀ : Lay} {t : Expr} {I : Addr} {fp : List Addr} {n : Nat} {P : Nat → Value → Prop} {Sth : Nat → Heap → Prop} (W : Walks prog w A I fp [I] n P Sth) (ex : ∀ i h, Sth i h → ∃ o, h.get? I = some o)
  (go : ∀ (i : Nat) (x : Value) (s : Shared) (Q : Unit → Shared → Prop) (E : Value → Shared → Prop), Sth i s.heap → Q () s → wpAny (model prog w) A (letOwnedTupleGo t (.ref I) x) Q E s) :
  ZcR prog w A B₀ Λ₀ t I (StW prog w Λ₀ I fp n P Sth) where
 keep := fun {vs Λ Λ'} st l => by
  obtain ⟨i, o, h1, h2, h3, h4, h5, h6⟩ := st
  exact ⟨i, o, l.hid h1, h2, h3, fun b hb hn => (h4 b hb hn).imp fun x e => l.frz e, fun h e k => h5 h e fun b hb hn x e' => k b hb hn x (l.frz e'), fun j v e x p => (h6 j v e x p).mono l.sees⟩
 next := fun {outs L loc σ ρ Λb Λ s v vs Q E} hb l st R k => by
  obtain ⟨i, o, h1, h2, h3, h4, h5, h6⟩ := st
  have hI : s.heap.get? I = some o := by have := R.tag I; rw [h1] at this; exact this
  have hS : Sth i s.heap := h5 s.heap hI fun b hb hn x e => R.toRep0.frzAt e
  refine W.item i s _ E (h2 ▸ Nat.lt_add_of_pos_right (Nat.succ_pos _)) hS fun x h' tk hP hS' hk => ?_
  try clear hS; try clear hI; try clear h5; try clear o; try clear st; try clear Q; try clear vs; try clear s; try clear Λb; try clear ρ; try clear σ; try clear loc; try clear L; try clear outs; try clear Λ'; try clear Sth; try clear P; try clear n; try clear t; try clear Λ₀
  obtain ⟨o', ho'⟩ := ex _ _ hS'
  have R' := R.rehid (h' := h') h1 (fun b x hb e => hk b x (by simpa using hb) e) ho'
  have hs := WB h1 (.hid o')
  have nI : ∀ b ∈ fp, b ≠ I → ∀ x, Λ b = .frz x → h'.get? b = some x := fun b hb hn x e => hk b x (by simpa using hn) (R.toRep0.frzAt e)
  refine go (i + 1) x _ _ E hS' (k x _ h' tk (WK l (hb _ _ h3 h1)) hs R' ((h6 0 v rfl x hP).mono hs) ⟨i + 1, o', Lay.up_self .., (Nat.succ_add_eq_add_succ i vs.length).trans h2, h3, fun b hb hn => ?_, fun h e kk => ?_, fun j u e y p => ?_⟩)
  ·rw [Lay.up_ne _ _ hn]; exact h4 b hb hn
  ·refine W.frame (i + 1) h' h hS' fun b hb y e' => ?_
   by_cases q : b = I
   ·subst q; rw [ho'] at e'; (replace e' := xI e'; cases e'); exact e
   ·obtain ⟨z, ez⟩ := h4 b hb q
    have := nI b hb q z ez
    rw [this] at e'; (replace e' := xI e'; cases e')
    exact kk b hb q _ (by rw [Lay.up_ne _ _ q]; exact ez)
  ·exact (h6 (j + 1) u (by simpa using e) y (by rw [show i + (j + 1) = i + 1 + j from (Nat.succ_add_eq_add_succ i j).symm]; exact p)).mono hs
 done := fun {outs L loc σ ρ Λb Λ s Q E} hb l st R k => by
  obtain ⟨i, o, h1, h2, h3, h4, h5, h6⟩ := st
  have hI : s.heap.get? I = some o := by have := R.tag I; rw [h1] at this; exact this
  have hi : i = n := by simpa using h2
  try clear h6; try clear h4; try clear h2; try clear o; try clear i; try clear st; try clear Λ; try clear Λb; try clear ρ; try clear σ; try clear loc; try clear L; try clear outs; try clear ez; try clear z; try clear e'; try clear y; try clear p; try clear u; try clear j; try clear kk; try clear h; try clear nI; try clear hs
  subst hi
  refine W.done s Q E (h5 s.heap hI fun b hb hn x e => R.toRep0.frzAt e) fun h' tk hk => ?_
  have R' := (R.loose h1).growF (h' := h') fun b x n e => hk b x (by simpa using fun q => n (by rw [q]; exact Lay.up_self ..)) e
  exact k _ h' tk (WK l (hb _ _ h3 h1)) (WB h1 .free) R'
 self := fun {outs L loc σ ρ Λ s vs Q E} st R k => by
  obtain ⟨i, o, h1, h2, h3, h4, h5, h6⟩ := st
  have hI : s.heap.get? I = some o := by have := R.tag I; rw [h1] at this; exact this
  exact W.self i s Q E (h5 s.heap hI fun b hb hn x e => R.toRep0.frzAt e) k
set_option backward.match.sparseCases true in
theorem J6 {t : Expr} {it x : Value} {Q : Unit → Shared → Prop} {n : String} {vs : Array Value} {I : Addr} {o : Obj} (e : it = .ref I) (ho : s.heap.get? I = some o) (hc : o.cls = .type n) (hd : o.data = .fields vs)
  (hn : ["enumerate", "zip", "dict_itemiterator", "dict_reverseitemiterator", "odict_iterator", "itertools.zip_longest", "itertools.pairwise"].contains n = false) (h : Q () s) : wpAny (model prog w) A (letOwnedTupleGo t it x) Q E s := by
 subst e
 have go : ∀ y, x = .ref y → wpAny (model prog w) A (do
   let o ← load I
   match o.cls, o.data with
   | .type n, .fields vs =>
    if ["enumerate", "zip", "dict_itemiterator", "dict_reverseitemiterator", "odict_iterator", "itertools.zip_longest", "itertools.pairwise"].contains n && vs[0]? == some (rawInt y) then
     rule "for.unpacks-the-owned-tuple"
     updateField I 0 .none
   | _, _ => pure ()) Q E s := fun y _ => by
  refine wpAny_bind (wpAny_load ho ?_)
  rw [hc, hd]
  simp only [hn, Bool.false_and, Bool.false_eq_true, if_false]
  exact wpAny_pure h
 cases t with
 | Tuple es k p =>
  cases x with
  | ref y => exact go y rfl
  | _ => exact wpAny_pure h
 | List es p =>
  cases x with
  | ref y => exact go y rfl
  | _ => exact wpAny_pure h
 | _ => exact wpAny_pure h
theorem VTs.at {vs : List AV} {ws : List Value} (g : VTs prog w Λ vs ws) {j : Nat} {v : AV} {x : Value} (e : vs[j]? = some v) (hx : ws[j]? = some x) : VT prog w Λ v x := by
 obtain ⟨y, h1, h2⟩ := g.get e
 rw [hx] at h1; (replace h1 := xI h1; cases h1); exact h2
noncomputable def UG (prog : Program) (w : World) (A : Around) (B₀ : Heap) (outs : List Env) (L : Addr) (loc : Loc) (Λ₀ : Lay) (σ : Led) (ρ : List Addr) (t : Expr) (vs : List AV) (s : Shared) (Q : Value → Shared → Prop) : Prop :=
 ∀ I St Λ' h' tk, ZcR prog w A B₀ Λ₀ t I St → St vs Λ' → Λ₀.le Λ' → Rep prog w B₀ outs L loc Λ' σ ρ h' → Q (.ref I) { s with heap := h', toks := tk }
theorem GI {t : Expr} {vs : List AV} {ws : List Value} {n : Nat} {a : Addr} {Q : Value → Shared → Prop} (hh : A.handled = none) (R : Rep prog w B₀ outs L loc Λ σ ρ s.heap) (ha : Λ a = .frz (Zn ws n)) (g : VTs prog w Λ vs ws)
  (k : UG prog w A B₀ outs L loc Λ σ ρ t vs s Q) : wpAny (model prog w) A (pyIter (.ref a)) Q E s := by
 refine wpAny_pyIter_list (ZQ (R.toRep0.frzAt ha)) ?_
 obtain ⟨Λ₁, l1, e1, R1⟩ := R.pushHid { cls := .type "list_iterator", data := .fields #[.ref a, .int 0 0] } rfl
 have hne : a ≠ s.heap.objs.size := Nat.ne_of_lt (Heap.lt_size (R.toRep0.frzAt ha))
 refine k _ _ Λ₁ _ s.toks (Uw (Walks.list hh s.heap.objs.size a hne ws.toArray) (fun i h st => let ⟨o, e, _⟩ := st.1; ⟨o, e⟩) (fun i x s' Q' E' st q => let ⟨o, e, hc, hd⟩ := st.1; J6 rfl e hc hd (by decide) q))
  ⟨0, _, e1, by simp [g.length], R.toRep0.free R.none0, fun b hb hn => ?_, fun h e kk => ?_, fun j v e x p => ?_⟩ l1 R1
 ·simp at hb
  obtain rfl | rfl := hb
  ·exact (hn rfl).elim
  ·exact ⟨_, l1.frz ha⟩
 ·exact ⟨⟨_, e, rfl, rfl⟩, ZQ (kk a (by simp) hne _ (l1.frz ha))⟩
 ·exact (g.at e (by simpa using p)).mono l1.sees
theorem Zf2 {t : Expr} {vs : List AV} {ws : List Value} {n : Nat} {a : Addr} {Q : Value → Shared → Prop} (hh : A.handled = none) (R : Rep prog w B₀ outs L loc Λ σ ρ s.heap) (ha : Λ a = .frz (ZT ws n)) (g : VTs prog w Λ vs ws)
  (k : UG prog w A B₀ outs L loc Λ σ ρ t vs s Q) : wpAny (model prog w) A (pyIter (.ref a)) Q E s := by
 refine wpAny_pyIter_tuple (Y1 (R.toRep0.frzAt ha)) ?_
 obtain ⟨Λ₁, l1, e1, R1⟩ := R.pushHid { cls := .type "tuple_iterator", data := .fields #[.ref a, .int 0 0] } rfl
 have hne : a ≠ s.heap.objs.size := Nat.ne_of_lt (Heap.lt_size (R.toRep0.frzAt ha))
 refine k _ _ Λ₁ _ s.toks (Uw (Walks.tuple hh s.heap.objs.size a hne ws.toArray) (fun i h st => let ⟨o, e, _⟩ := st.1; ⟨o, e⟩) (fun i x s' Q' E' st q => let ⟨o, e, hc, hd⟩ := st.1; J6 rfl e hc hd (by decide) q))
  ⟨0, _, e1, by simp [g.length], R.toRep0.free R.none0, fun b hb hn => ?_, fun h e kk => ?_, fun j v e x p => ?_⟩ l1 R1
 ·simp at hb
  obtain rfl | rfl := hb
  ·exact (hn rfl).elim
  ·exact ⟨_, l1.frz ha⟩
 ·exact ⟨⟨_, e, rfl, rfl⟩, Y1 (kk a (by simp) hne _ (l1.frz ha))⟩
 ·exact (g.at e (by simpa using p)).mono l1.sees
end
section
variable {prog : Program} {w : World} {B₀ : Heap} {outs : List Env} {L : Addr} {loc : List (Str × AV)} {Λ Λ' : Lay} {σ : List AO} {ρ : List Addr} {A : Around} {E : Value → Shared → Prop} {s : Shared} {h h' : Heap} {env : Env}
noncomputable def ups (Λ : Lay) : List (Addr × Tag) → Lay
 | [] => Λ
 | p :: l => (ups Λ l).up p.1 p.2
theorem Zjn : ∀ {l : List (Addr × Tag)} {b : Addr}, (∀ p ∈ l, b ≠ p.1) → ups Λ l b = Λ b
 | [], _, _ => rfl
 | p :: l, b, h => by
  show ((ups Λ l).up p.1 p.2) b = _
  rw [Lay.up_ne _ _ (h p (.head _))]
  exact Zjn fun q hq => h q (.tail _ hq)
theorem JS : ∀ {l : List Addr} {Λ : Lay}, Rep prog w B₀ outs L loc Λ σ ρ h → (∀ a ∈ l, ∃ o, Λ a = .hid o) → ∃ Λ', Rep prog w B₀ outs L loc Λ' σ ρ h ∧ (∀ a ∈ l, Λ' a = .free) ∧ (∀ b, b ∉ l → Λ' b = Λ b) ∧ Z2 Λ Λ'
 | [], Λ, R, _ => ⟨Λ, R, fun a h => (nomatch h), fun _ _ => rfl, fun _ _ e => e, fun _ e => e⟩
 | a :: l, Λ, R, H => by
  obtain ⟨Λ₁, R1, f1, k1, s1⟩ := JS R fun b hb => H b (.tail _ hb)
  by_cases q : a ∈ l
  ·exact ⟨Λ₁, R1, fun b hb => by
    obtain rfl | hb := List.mem_cons.mp hb
    ·exact f1 _ q
    ·exact f1 _ hb, fun b hb => k1 b fun z => hb (.tail _ z), s1⟩
  ·obtain ⟨o, e⟩ := H a (.head _)
   have e1 : Λ₁ a = .hid o := (k1 a q).trans e
   have s2 := WB e1 .free
   refine ⟨Λ₁.up a .free, R1.loose e1, fun b hb => ?_, fun b hb => ?_, fun b o e => s2.frz _ _ (s1.frz _ _ e), fun b e => s2.pen _ (s1.pen _ e)⟩
   ·by_cases z : b = a
    ·try clear e; try clear b; try clear o; try clear hb; try clear s2; try clear e1; try clear s1; try clear k1; try clear f1; try clear R1; try clear Λ₁; try clear h; try clear a; try clear Λ; try clear l
     subst z; exact Lay.up_self ..
    ·rw [Lay.up_ne _ _ z]
     try clear e; try clear b; try clear o; try clear s2; try clear e1; try clear s1; try clear k1; try clear R1; try clear Λ₁; try clear h; try clear a; try clear Λ; try clear l
     obtain rfl | hb := List.mem_cons.mp hb
     ·exact (z rfl).elim
     ·exact f1 _ hb
   ·rw [Lay.up_ne _ _ fun z => hb (by rw [z]; exact .head _)]
    exact k1 b fun z => hb (.tail _ z)
theorem Gy : ∀ {l : List (Addr × Obj)} {Λ : Lay}, Rep prog w B₀ outs L loc Λ σ ρ h → (∀ p ∈ l, Λ p.1 = .free ∧ h.get? p.1 = some p.2) → (l.map (·.1)).Nodup → ∃ Λ', Rep prog w B₀ outs L loc Λ' σ ρ h ∧ (∀ p ∈ l, Λ' p.1 = .hid p.2) ∧ (∀ b, b ∉ l.map (·.1) → Λ' b = Λ b) ∧ Z2 Λ Λ'
 | [], Λ, R, _, _ => ⟨Λ, R, fun a h => (nomatch h), fun _ _ => rfl, fun _ _ e => e, fun _ e => e⟩
 | p :: l, Λ, R, H, nd => by
  simp only [List.map_cons, List.nodup_cons] at nd
  obtain ⟨Λ₁, R1, f1, k1, s1⟩ := Gy R (fun q hq => H q (.tail _ hq)) nd.2
  have e1 : Λ₁ p.1 = .free := (k1 _ nd.1).trans (H p (.head _)).1
  have l2 : Λ₁.le (Λ₁.up p.1 (.hid p.2)) := Lay.le_up _ (.inl e1)
  refine ⟨_, R1.settle (t := .hid p.2) e1 (H p (.head _)).2, fun q hq => ?_, fun b hb => ?_, fun b o e => l2.frz (s1.frz _ _ e), fun b e => l2.pen (s1.pen _ e)⟩
  ·obtain rfl | hq := List.mem_cons.mp hq
   ·exact Lay.up_self ..
   ·exact l2.hid (f1 q hq)
  ·simp only [List.map_cons, List.mem_cons, not_or] at hb
   rw [Lay.up_ne _ _ hb.1]
   exact k1 b hb.2
theorem Z2.trans {Λ Λ' Λ'' : Lay} (a : Z2 Λ Λ') (b : Z2 Λ' Λ'') : Z2 Λ Λ'' := ⟨fun x o e => b.frz _ _ (a.frz _ _ e), fun x e => b.pen _ (a.pen _ e)⟩
theorem Rep.turnAll (R : Rep prog w B₀ outs L loc Λ σ ρ h) {l : List (Addr × Obj)} (hl : ∀ p ∈ l, ∃ o, Λ p.1 = .hid o) (nd : (l.map (·.1)).Nodup) (hs : ∀ b x, b ∉ l.map (·.1) → h.get? b = some x → h'.get? b = some x) (ho : ∀ p ∈ l, h'.get? p.1 = some p.2) :
  ∃ Λ', Rep prog w B₀ outs L loc Λ' σ ρ h' ∧ (∀ p ∈ l, Λ' p.1 = .hid p.2) ∧ (∀ b, b ∉ l.map (·.1) → Λ' b = Λ b) ∧ Z2 Λ Λ' := by
 obtain ⟨Λ₁, R1, f1, k1, s1⟩ := JS (l := l.map (·.1)) R fun a ha => by
  obtain ⟨p, hp, rfl⟩ := List.mem_map.mp ha
  exact hl p hp
 have R2 := R1.growF (h' := h') fun b x n e => hs b x (fun z => n (f1 b z)) e
 obtain ⟨Λ₃, R3, f3, k3, s3⟩ := Gy (l := l) R2 (fun p hp => ⟨f1 _ (List.mem_map_of_mem hp), ho p hp⟩) nd
 exact ⟨Λ₃, R3, f3, fun b hb => (k3 b hb).trans (k1 b hb), s1.trans s3⟩
theorem VF {Λ₀ Λ Λ' : Lay} {l : List Addr} (l0 : Λ₀.le Λ) (k : ∀ b, b ∉ l → Λ' b = Λ b) (f : ∀ b ∈ l, Λ₀ b = .free ∨ ∃ k, Λ₀ b = .led k) : Λ₀.le Λ' := fun b => by
 by_cases q : b ∈ l
 ·exact .inr (f b q)
 ·rw [k b q]; exact l0 b
theorem Rep.hidAt (R : Rep prog w B₀ outs L loc Λ σ ρ h) {a : Addr} {o : Obj} (e : Λ a = .hid o) : h.get? a = some o := by
 have := R.tag a; rw [e] at this; exact this
noncomputable def Zjk (TI TO : Addr) (f : Value) : Obj := { cls := .type "zip", dict := none, data := .fields #[f, .bool false, .bool false, .ref TI, .ref TO], slots := #[] }
noncomputable def Zc3 (a b : Value) : Obj := { cls := .type "tuple", data := .seq #[a, b] }
inductive StZ (prog : Program) (w : World) (Λ₀ : Lay) (z : Addr) (vs : List AV) (Λ : Lay) : Prop
 | mk (TI TO i1 i2 l2 : Addr) (a b : Value) (k : Nat) (x : Str) (t : Tok) (us : List AV) (ws : List Value) (n : Nat) (o1 o2 : Obj) (D : ZA z TI TO i1 i2 l2) (h1 : Λ z = .hid (Zjk TI TO .none)) (h2 : Λ TI = .hid (Zc3 (.ref i1) (.ref i2))) (h3 : Λ TO = .hid (Zc3 a b))
  (h4 : Λ i1 = .hid o1) (h4' : o1.cls = .type "str_ascii_iterator") (h4'' : o1.data = .fields #[.str x t, .int (k : Nat) 0]) (h5 : Λ i2 = .hid o2) (h5' : o2.cls = .type "tuple_iterator") (h5'' : o2.data = .fields #[.ref l2, .int (k : Nat) 0]) (h6 : Λ l2 = .frz (ZT ws n))
  (h7 : VTs prog w Λ us ws) (h8 : x.cps.size = us.length) (h9 : vs = UY (x.cps.toList.drop k) (us.drop k)) (h10 : ∀ c ∈ [z, TI, TO, i1, i2], Λ₀ c = .free ∨ ∃ k, Λ₀ c = .led k) : StZ prog w Λ₀ z vs Λ
theorem ZdL {cs : List Nat} {us vs : List AV} {v : AV} (e : v :: vs = UY cs us) : ∃ c cs' u us', cs = c :: cs' ∧ us = u :: us' ∧ v = .tup [.str ⟨⟨[c]⟩⟩, u] ∧ vs = UY cs' us' := by
 cases cs with
 | nil => exact xD e
 | cons c cs =>
  cases us with
  | nil => exact xD e
  | cons u us => cases e; exact ⟨c, cs, u, us, rfl, rfl, rfl, rfl⟩
theorem ZeP : ∀ {cs : List Nat} {us : List AV}, [] = UY cs us → cs.length = us.length → cs = []
 | [], _, _, _ => rfl
 | c :: cs, [], _, h => by (exfalso; cases h)
 | c :: cs, u :: us, e, _ => by exact xC e
theorem Zgp {Λ₀ : Lay} {es : List Expr} {kk : Nat} {pos : Pos} {z : Addr} (hh : A.handled = none) : ZcR prog w A B₀ Λ₀ (.Tuple es kk pos) z (StZ prog w Λ₀ z) where
 keep := fun {vs Λ Λ'} st l => by
  obtain ⟨TI, TO, i1, i2, l2, a, b, k, x, t, us, ws, n, o1, o2, D, h1, h2, h3, h4, h4', h4'', h5, h5', h5'', h6, h7, h8, h9, h10⟩ := st
  exact ⟨TI, TO, i1, i2, l2, a, b, k, x, t, us, ws, n, o1, o2, D, l.hid h1, l.hid h2, l.hid h3, l.hid h4, h4', h4'', l.hid h5, h5', h5'', l.frz h6, h7.mono l.sees, h8, h9, h10⟩
 next := fun {outs L loc σ ρ Λb Λ₁ s v vs Q E} hb l₁ st R₁ kQ => by
  obtain ⟨TI, TO, i1, i2, l2, a, b, k, x, t, us, ws, n, o1, o2, D, h1, h2, h3, h4, h4', h4'', h5, h5', h5'', h6, h7, h8, h9, h10⟩ := st
  have hB : ∀ c ∈ [z, TI, TO, i1, i2], Lax Λb c := fun c hc => by
   have H := h10 c hc
   simp only [List.mem_cons, List.not_mem_nil, or_false] at hc
   obtain rfl | rfl | rfl | rfl | rfl := hc
   ·exact hb _ _ H h1
   ·exact hb _ _ H h2
   ·exact hb _ _ H h3
   ·exact hb _ _ H h4
   ·exact hb _ _ H h5
  obtain ⟨Λ, lf, ff, ef, R⟩ := R₁.forget R₁.none0
  have l := l₁.trans lf
  replace h1 := lf.hid h1
  replace h2 := lf.hid h2
  replace h3 := lf.hid h3
  replace h4 := lf.hid h4
  replace h5 := lf.hid h5
  replace h6 := lf.frz h6
  replace h7 := h7.mono lf.sees
  clear R₁ l₁
  obtain ⟨c, cs', u, us', e1, e2, rfl, e4⟩ := ZdL h9
  have hc : x.cps[k]? = some c := by
   have := congrArg (fun l => l[0]?) e1
   simpa using this
  have hu : us[k]? = some u := by
   have := congrArg (fun l => l[0]?) e2
   simpa using this
  obtain ⟨y, hy, hvy⟩ := h7.get hu
  have d1 : x.cps.toList.drop (k + 1) = cs' := by rw [← List.drop_drop, e1]; rfl
  have d2 : us.drop (k + 1) = us' := by rw [← List.drop_drop, e2]; rfl
  have lt : ∀ {c o}, s.heap.get? c = some o → s.heap.objs.size ≠ c := fun e => Nat.ne_of_gt (Heap.lt_size e)
  refine ZbW D (R.hidAt h1) (R.hidAt h2) (R.hidAt h3) ⟨o1, R.hidAt h4, h4', h4''⟩ ⟨o2, R.hidAt h5, h5', h5''⟩ (Y1 (R.frzAt h6)) hc (by simpa using hy) fun h' tk a1 a2 ⟨p1, g1, g1', g1''⟩ ⟨p2, g2, g2', g2''⟩ a5 a6 a7 => ?_
  refine wpAny_letOwnedTupleGo_zip a1 fun h'' z1 sb => ?_
  have up : ∀ e o, e ≠ z → h'.get? e = some o → h''.get? e = some o := fun e o ne q => sb.extBut _ _ ne q
  obtain ⟨Λ₁, R1, f1, k1, s1⟩ := R.turnAll (h' := h'') (l := [(z, Zjk TI TO .none), (TO, Zc3 (.str ⟨#[c]⟩ tk) y), (i1, p1), (i2, p2)])
   (fun p hp => by
    simp only [List.mem_cons, List.not_mem_nil, or_false] at hp
    obtain rfl | rfl | rfl | rfl := hp
    ·exact ⟨_, h1⟩
    ·exact ⟨_, h3⟩
    ·exact ⟨_, h4⟩
    ·exact ⟨_, h5⟩)
   (by
    simp only [List.map_cons, List.map_nil, List.nodup_cons, List.mem_cons, List.not_mem_nil, or_false, not_or, List.nodup_nil, and_true, not_false_eq_true]
    exact ⟨⟨D.TOz.symm, D.i1z.symm, D.i2z.symm⟩, ⟨D.TOi1, D.TOi2⟩, D.i12⟩)
   (fun e q hb g => by
    simp only [List.map_cons, List.map_nil, List.mem_cons, List.not_mem_nil, or_false, not_or] at hb
    exact up _ _ hb.1 (a7 e q hb.1 hb.2.1 hb.2.2.1 hb.2.2.2 g))
   (fun p hp => by
    simp only [List.mem_cons, List.not_mem_nil, or_false] at hp
    obtain rfl | rfl | rfl | rfl := hp
    ·exact z1
    ·exact up _ _ D.TOz a2
    ·exact up _ _ D.i1z g1
    ·exact up _ _ D.i2z g2)
  have l1 : Λb.le Λ₁ := VF (l := [z, TI, TO, i1, i2]) l (fun b hb => k1 b (by
   simp only [List.map_cons, List.map_nil, List.mem_cons, List.not_mem_nil, or_false, not_or] at hb ⊢
   exact ⟨hb.1, hb.2.2.1, hb.2.2.2.1, hb.2.2.2.2⟩)) hB
  have gz : z ≠ s.heap.objs.size := (lt (R.hidAt h1)).symm
  have ns : s.heap.objs.size ∉ [z, TO, i1, i2] := by
   simp only [List.mem_cons, List.not_mem_nil, or_false, not_or]
   exact ⟨lt (R.hidAt h1), lt (R.hidAt h3), lt (R.hidAt h4), lt (R.hidAt h5)⟩
  have fr : Λ₁ s.heap.objs.size = .free := by
   rw [k1 _ (by simpa using ns)]
   exact ef
  have R2 : ∃ Λ₂, Λ₁.le Λ₂ ∧ Λ₂ s.heap.objs.size = .frz (ZT [.str ⟨#[c]⟩ tk, y] 0) ∧ Rep prog w B₀ outs L loc Λ₂ σ ρ h'' := by
   have gT : h''.get? s.heap.objs.size = some (ZT [.str ⟨#[c]⟩ tk, y] 0) := up _ _ gz.symm a5
   exact ⟨_, Lay.le_up _ (.inl fr), Lay.up_self .., R1.settle (t := .frz _) fr gT⟩
  obtain ⟨Λ₂, l2', e2', R2⟩ := R2
  have ss := s1.trans l2'.sees
  refine kQ _ Λ₂ h'' (s.toks + 1) (l1.trans l2') (lf.sees.trans ss) R2 (.tup (n := 0) e2' (.cons (.str _ _) (.cons (hvy.mono ss) .nil))) ⟨TI, TO, i1, i2, l2, _, _, k + 1, x, t, us, ws, n, p1, p2, D, l2'.hid (f1 (z, Zjk TI TO .none) (by simp)), ?_, l2'.hid (f1 (TO, Zc3 (.str ⟨#[c]⟩ tk) y) (by simp)),
   l2'.hid (f1 (i1, p1) (by simp)), g1', g1'', l2'.hid (f1 (i2, p2) (by simp)), g2', g2'', ss.frz _ _ h6, h7.mono ss, h8, by rw [d1, d2]; exact e4, h10⟩
  refine l2'.hid ((k1 TI ?_).trans h2)
  simp only [List.map_cons, List.map_nil, List.mem_cons, List.not_mem_nil, or_false, not_or]
  exact ⟨D.TIz, D.TITO, D.TIi1, D.TIi2⟩
 done := fun {outs L loc σ ρ Λb Λ s Q E} hb l st R kQ => by
  obtain ⟨TI, TO, i1, i2, l2, a, b, k, x, t, us, ws, n, o1, o2, D, h1, h2, h3, h4, h4', h4'', h5, h5', h5'', h6, h7, h8, h9, h10⟩ := st
  have hB : ∀ c ∈ [z, TI, TO, i1, i2], Lax Λb c := fun c hc => by
   have H := h10 c hc
   simp only [List.mem_cons, List.not_mem_nil, or_false] at hc
   obtain rfl | rfl | rfl | rfl | rfl := hc
   ·exact hb _ _ H h1
   ·exact hb _ _ H h2
   ·exact hb _ _ H h3
   ·exact hb _ _ H h4
   ·exact hb _ _ H h5
  have hnil := ZeP h9 (by simp [h8])
  have hx : x.cps[k]? = none := by
   have := congrArg (fun l => l[0]?) hnil
   simpa using this
  refine JJ hh D (R.hidAt h1) (R.hidAt h2) (R.hidAt h3) ⟨o1, R.hidAt h4, h4', h4''⟩ hx fun h' a7 => ?_
  obtain ⟨Λ₁, R1, f1, k1, s1⟩ := JS (l := [z, TO, i1, i2]) R fun c hc => by
   simp only [List.mem_cons, List.not_mem_nil, or_false] at hc
   obtain rfl | rfl | rfl | rfl := hc
   ·exact ⟨_, h1⟩
   ·exact ⟨_, h3⟩
   ·exact ⟨_, h4⟩
   ·exact ⟨_, h5⟩
  have R2 := R1.growF (h' := h') fun b x n e => by
   have hb : b ∉ [z, TO, i1, i2] := fun q => n (f1 b q)
   simp only [List.mem_cons, List.not_mem_nil, or_false, not_or] at hb
   exact a7 b x hb.1 hb.2.1 hb.2.2.1 hb.2.2.2 e
  refine kQ Λ₁ h' s.toks (VF (l := [z, TI, TO, i1, i2]) l (fun b hb => k1 b (by
   simp only [List.mem_cons, List.not_mem_nil, or_false, not_or] at hb ⊢
   exact ⟨hb.1, hb.2.2.1, hb.2.2.2.1, hb.2.2.2.2⟩)) hB) s1 R2
 self := fun {outs L loc σ ρ Λ s vs Q E} st R k => by
  obtain ⟨TI, TO, i1, i2, l2, a, b, kk, x, t, us, ws, n, o1, o2, D, h1⟩ := st
  have gz : IsZip s.heap z TI TO .none := R.hidAt h1
  exact wpAny_pyIter_zip gz k
noncomputable def Zbg (it : Addr) (k : Int) (f old : Value) : Obj := { cls := .type "enumerate", dict := none, data := .fields #[f, .bool false, .ref it, rawInt k, .none, old], slots := #[] }
inductive StE (prog : Program) (w : World) (Λ₀ : Lay) (e : Addr) (vs : List AV) (Λ : Lay) : Prop
 | mk (it l : Addr) (old : Value) (k : Nat) (us : List AV) (ws : List Value) (n : Nat) (o1 : Obj) (n1 : e ≠ it) (n2 : l ≠ e) (n3 : l ≠ it) (h1 : Λ e = .hid (Zbg it (k : Nat) .none old)) (h4 : Λ it = .hid o1) (h4' : o1.cls = .type "list_iterator") (h4'' : o1.data = .fields #[.ref l, .int (k : Nat) 0])
  (h6 : Λ l = .frz (Zn ws n)) (h7 : VTs prog w Λ us ws) (h9 : vs = GL (k : Nat) (us.drop k)) (h10 : ∀ c ∈ [e, it], Λ₀ c = .free ∨ ∃ k, Λ₀ c = .led k) : StE prog w Λ₀ e vs Λ
theorem ZcE {i : Int} {us vs : List AV} {v : AV} (e : v :: vs = GL i us) : ∃ u us', us = u :: us' ∧ v = .tup [.int i, u] ∧ vs = GL (i + 1) us' := by
 cases us with
 | nil => exact xD e
 | cons u us => cases e; exact ⟨u, us, rfl, rfl, rfl⟩
theorem Zey {Λ₀ : Lay} {es : List Expr} {kk : Nat} {pos : Pos} {e : Addr} (hh : A.handled = none) : ZcR prog w A B₀ Λ₀ (.Tuple es kk pos) e (StE prog w Λ₀ e) where
 keep := fun {vs Λ Λ'} st l => by
  obtain ⟨it, l2, old, k, us, ws, n, o1, n1, n2, n3, h1, h4, h4', h4'', h6, h7, h9, h10⟩ := st
  exact ⟨it, l2, old, k, us, ws, n, o1, n1, n2, n3, l.hid h1, l.hid h4, h4', h4'', l.frz h6, h7.mono l.sees, h9, h10⟩
 next := fun {outs L loc σ ρ Λb Λ₁ s v vs Q E} hb l₁ st R₁ kQ => by
  obtain ⟨it, l2, old, k, us, ws, n, o1, n1, n2, n3, h1, h4, h4', h4'', h6, h7, h9, h10⟩ := st
  have hB : ∀ c ∈ [e, it], Lax Λb c := fun c hc => by
   have H := h10 c hc
   simp only [List.mem_cons, List.not_mem_nil, or_false] at hc
   obtain rfl | rfl := hc
   ·exact hb _ _ H h1
   ·exact hb _ _ H h4
  obtain ⟨Λ, lf, ff, ef, R⟩ := R₁.forget R₁.none0
  have l := l₁.trans lf
  replace h1 := lf.hid h1
  replace h4 := lf.hid h4
  replace h6 := lf.frz h6
  replace h7 := h7.mono lf.sees
  clear R₁ l₁
  obtain ⟨u, us', e2, rfl, e4⟩ := ZcE h9
  have hu : us[k]? = some u := by
   have := congrArg (fun l => l[0]?) e2
   simpa using this
  obtain ⟨y, hy, hvy⟩ := h7.get hu
  have d2 : us.drop (k + 1) = us' := by rw [← List.drop_drop, e2]; rfl
  have lt : ∀ {c o}, s.heap.get? c = some o → s.heap.objs.size ≠ c := fun e => Nat.ne_of_gt (Heap.lt_size e)
  refine wpAny_pyNext_enum_item (R.hidAt h1) ⟨o1, R.hidAt h4, h4', h4''⟩ (ZQ (R.frzAt h6)) (by simpa using hy) n1 fun h' a1 ⟨p1, g1, g1', g1''⟩ a5 a6 a7 => ?_
  refine wpAny_letOwnedTupleGo_enum a1 fun h'' z1 sb => ?_
  have up : ∀ c o, c ≠ e → h'.get? c = some o → h''.get? c = some o := fun c o ne q => sb.extBut _ _ ne q
  obtain ⟨Λ₁, R1, f1, k1, s1⟩ := R.turnAll (h' := h'') (l := [(e, Zbg it ((k + 1 : Nat) : Int) .none y), (it, p1)])
   (fun p hp => by
    simp only [List.mem_cons, List.not_mem_nil, or_false] at hp
    obtain rfl | rfl := hp
    ·exact ⟨_, h1⟩
    ·exact ⟨_, h4⟩)
   (by
    simp only [List.map_cons, List.map_nil, List.nodup_cons, List.mem_cons, List.not_mem_nil, or_false, not_or, List.nodup_nil, and_true, not_false_eq_true]
    exact n1)
   (fun c q hb g => by
    simp only [List.map_cons, List.map_nil, List.mem_cons, List.not_mem_nil, or_false, not_or] at hb
    exact up _ _ hb.1 (a7 c q hb.1 hb.2 g))
   (fun p hp => by
    simp only [List.mem_cons, List.not_mem_nil, or_false] at hp
    obtain rfl | rfl := hp
    ·exact z1
    ·exact up _ _ n1.symm g1)
  have l1 : Λb.le Λ₁ := VF (l := [e, it]) l (fun b hb => k1 b (by
   exact hb)) hB
  have gz : e ≠ s.heap.objs.size := (lt (R.hidAt h1)).symm
  have ns : s.heap.objs.size ∉ [e, it] := by
   simp only [List.mem_cons, List.not_mem_nil, or_false, not_or]
   exact ⟨lt (R.hidAt h1), lt (R.hidAt h4)⟩
  have fr : Λ₁ s.heap.objs.size = .free := by
   rw [k1 _ (by simpa using ns)]
   exact ef
  have R2 : ∃ Λ₂, Λ₁.le Λ₂ ∧ Λ₂ s.heap.objs.size = .frz (ZT [.int k s.toks, y] 0) ∧ Rep prog w B₀ outs L loc Λ₂ σ ρ h'' := by
   have gT : h''.get? s.heap.objs.size = some (ZT [.int k s.toks, y] 0) := up _ _ gz.symm a5
   exact ⟨_, Lay.le_up _ (.inl fr), Lay.up_self .., R1.settle (t := .frz _) fr gT⟩
  obtain ⟨Λ₂, l2', e2', R2⟩ := R2
  have ss := s1.trans l2'.sees
  refine kQ _ Λ₂ h'' (s.toks + 1) (l1.trans l2') (lf.sees.trans ss) R2 (.tup (n := 0) e2' (.cons (.int _ _) (.cons (hvy.mono ss) .nil))) ⟨it, l2, y, k + 1, us, ws, n, p1, n1, n2, n3, l2'.hid (f1 (e, Zbg it ((k + 1 : Nat) : Int) .none y) (by simp)),
   l2'.hid (f1 (it, p1) (by simp)), g1', g1'', ss.frz _ _ h6, h7.mono ss, by rw [d2]; exact e4, h10⟩
 done := fun {outs L loc σ ρ Λb Λ s Q E} hb l st R kQ => by
  obtain ⟨it, l2, old, k, us, ws, n, o1, n1, n2, n3, h1, h4, h4', h4'', h6, h7, h9, h10⟩ := st
  have hB : ∀ c ∈ [e, it], Lax Λb c := fun c hc => by
   have H := h10 c hc
   simp only [List.mem_cons, List.not_mem_nil, or_false] at hc
   obtain rfl | rfl := hc
   ·exact hb _ _ H h1
   ·exact hb _ _ H h4
  have hx : us[k]? = none := by
   generalize q : us.drop k = zz at h9 ⊢
   cases zz with
   | nil =>
    have := congrArg (fun l => l[0]?) q
    simpa using this
   | cons u us' => exact xC h9
  have hy : ws[k]? = none := by
   rw [List.getElem?_eq_none_iff] at hx ⊢
   rw [h7.length]; exact hx
  refine wpAny_pyNext_enum_end hh (R.hidAt h1) ⟨o1, R.hidAt h4, h4', h4''⟩ (ZQ (R.frzAt h6)) (by simpa using hy) fun h' a7 => ?_
  have R2 := (R.loose h4).growF (h' := h') fun b x n e => a7 b x (fun q => n (by rw [q]; exact Lay.up_self ..)) e
  exact kQ _ h' s.toks (WK l (hB it (by simp))) (WB h4 .free) R2
 self := fun {outs L loc σ ρ Λ s vs Q E} st R k => by
  obtain ⟨it, l2, old, kk, us, ws, n, o1, n1, n2, n3, h1⟩ := st
  exact wpAny_pyIter_enum (R.hidAt h1) k
theorem JI : ∀ {n j : Nat} {i : Int} {v : AV}, (Xx n i)[j]? = some v → v = .int (i + j)
 | 0, _, _, _, e => by exact xN e
 | n + 1, 0, i, v, e => by (replace e := xI e; cases e); simp
 | n + 1, j + 1, i, v, e => by
  have := JI (n := n) (j := j) (i := i + 1) (by simpa [Xx] using e)
  rw [this]
  congr 1
  push_cast
  omega
theorem JH : ∀ {n : Nat} {i : Int}, (Xx n i).length = n
 | 0, _ => rfl
 | n + 1, i => congrArg Nat.succ JH
theorem Zb8 {t : Expr} {n : Int} {u : Tok} {Q : Value → Shared → Prop} (hh : A.handled = none) (h0 : 0 ≤ n) (hn : n < 2 ^ 31) (R : Rep prog w B₀ outs L loc Λ σ ρ s.heap) (k : UG prog w A B₀ outs L loc Λ σ ρ t (Xx n.toNat 0) s Q) :
  wpAny (model prog w) A (call (.type "range") [.int n u]) (fun x s₁ => wpAny (model prog w) A (pyIter x) Q E s₁) E s := by
 refine call_range_1 ?_
 obtain ⟨Λ₁, l1, e1, R1⟩ := R.push { cls := .type "range", data := .fields #[.int 0 s.toks, .int n u, .int 1 (s.toks + 1)] } rfl
 have hr : IsRange (s.heap.push { cls := .type "range", data := .fields #[.int 0 s.toks, .int n u, .int 1 (s.toks + 1)] }) s.heap.objs.size 0 n 1 s.toks u (s.toks + 1) := Heap.get?_push_size _ rfl
 have hsz : Builtin.Range.rangeSize 0 n 1 = (n.toNat : Int) := by
  unfold Builtin.Range.rangeSize
  first | (simp; omega) | (split <;> simp <;> omega)
 have hsm : Builtin.Range.small 0 n 1 = true := small_one (by omega) (by omega) (by omega) (by omega)
 refine wpAny_pyIter_range hr hsm ?_
 obtain ⟨Λ₂, l2, e2, R2⟩ := R1.pushHid { cls := .type "range_iterator", data := .fields #[rawInt 0, rawInt (Builtin.Range.rangeSize 0 n 1), rawInt 1] } rfl
 refine k _ _ Λ₂ _ _ (Uw (fp := [(s.heap.push { cls := .type "range", data := .fields #[.int 0 s.toks, .int n u, .int 1 (s.toks + 1)] }).objs.size]) (Walks.range hh _ 0 1 n.toNat) (fun i h st => ⟨_, st⟩) (fun i x s' Q' E' st q => J6 rfl st rfl rfl (by decide) q))
  ⟨0, _, e2, by simp [JH], ?_, fun b hb hn => ?_, fun h e kk => ?_, fun j v e x p => ?_⟩ (l1.trans l2) R2
 ·refine R.toRep0.free (Heap.get?_none_of_le ?_)
  rw [Heap.size_push]
  exact Nat.le_succ _
 ·exact (hn (List.mem_singleton.mp hb)).elim
 ·rw [hsz] at e
  simpa using e
 ·obtain ⟨t', rfl⟩ := p
  rw [JI e]
  have : (0 : Int) + ((0 + j : Nat) : Int) * 1 = 0 + (j : Int) := by push_cast; omega
  rw [this]; exact .int _ _
theorem ZlD {a b : Nat} (h : a < b ∨ b < a) : a ≠ b := by omega
theorem GY : ∀ {l : List Nat}, V8 l = true → ∀ c ∈ l, c < 128
 | [], _, c, h => by (exfalso; cases h)
 | d :: l, e, c, h => by
  unfold V8 at e
  generalize q : Nat.blt d 128 = zz at e ⊢
  cases zz with
  | false => exact xF e
  | true =>
   obtain rfl | h := List.mem_cons.mp h
   ·exact Nat.le_of_ble_eq_true q
   ·exact GY e c h
theorem Zf1 {es : List Expr} {kk : Nat} {pos : Pos} {l : List Nat} {t : Tok} {vs : List AV} {ws : List Value} {n : Nat} {a : Addr} {Q : Value → Shared → Prop} (hh : A.handled = none) (hl : V8 l = true) (hlen : l.length = vs.length) (R : Rep prog w B₀ outs L loc Λ σ ρ s.heap)
  (ha : Λ a = .frz (ZT ws n)) (g : VTs prog w Λ vs ws) (k : UG prog w A B₀ outs L loc Λ σ ρ (.Tuple es kk pos) (UY l vs) s Q) :
  wpAny (model prog w) A (call (.type "zip") [.str ⟨⟨l⟩⟩ t, .ref a]) (fun x s₁ => wpAny (model prog w) A (pyIter x) Q E s₁) E s := by
 have hall : (⟨⟨l⟩⟩ : Str).cps.all (· < 128) = true := by
  rw [Array.all_eq_true']
  intro c hc
  exact decide_eq_true (GY hl c (by simpa using hc))
 refine Zbq hall (Y1 (R.frzAt ha)) ?_
 have z1 : (zA1 s.heap ⟨⟨l⟩⟩ t).objs.size = s.heap.objs.size + 1 := Heap.size_push ..
 have z2 : (zA2 s.heap ⟨⟨l⟩⟩ t a).objs.size = s.heap.objs.size + 2 := by rw [Heap.size_push, z1]
 have z3 : (zA3 s.heap ⟨⟨l⟩⟩ t a).objs.size = s.heap.objs.size + 3 := by rw [Heap.size_push, z2]
 have z4 : (zA4 s.heap ⟨⟨l⟩⟩ t a).objs.size = s.heap.objs.size + 4 := by rw [Heap.size_push, z3]
 obtain ⟨Λ₁, l1, e1, R1⟩ := R.pushHid { cls := .type "str_ascii_iterator", data := .fields #[.str ⟨⟨l⟩⟩ t, .int 0 0] } rfl
 obtain ⟨Λ₂, l2, e2, R2⟩ := R1.pushHid { cls := .type "tuple_iterator", data := .fields #[.ref a, .int 0 0] } rfl
 obtain ⟨Λ₃, l3, e3, R3⟩ := R2.pushHid { cls := .type "tuple", data := .seq #[.ref s.heap.objs.size, .ref (zA1 s.heap ⟨⟨l⟩⟩ t).objs.size] } rfl
 obtain ⟨Λ₄, l4, e4, R4⟩ := R3.pushHid { cls := .type "tuple", data := .seq #[.none, .none] } rfl
 obtain ⟨Λ₅, l5, e5, R5⟩ := R4.pushHid { cls := .type "zip", data := .fields #[.none, .bool false, .bool false, .ref (zA2 s.heap ⟨⟨l⟩⟩ t a).objs.size, .ref (zA3 s.heap ⟨⟨l⟩⟩ t a).objs.size] } rfl
 have gz : IsZip (zA5 s.heap ⟨⟨l⟩⟩ t a) (zA4 s.heap ⟨⟨l⟩⟩ t a).objs.size (zA2 s.heap ⟨⟨l⟩⟩ t a).objs.size (zA3 s.heap ⟨⟨l⟩⟩ t a).objs.size .none := Heap.get?_push_size _ rfl
 refine wpAny_pyIter_zip gz ?_
 have la : a < s.heap.objs.size := Heap.lt_size (R.frzAt ha)
 have D : ZA (zA4 s.heap ⟨⟨l⟩⟩ t a).objs.size (zA2 s.heap ⟨⟨l⟩⟩ t a).objs.size (zA3 s.heap ⟨⟨l⟩⟩ t a).objs.size s.heap.objs.size (zA1 s.heap ⟨⟨l⟩⟩ t).objs.size a := by
  rw [z1, z2, z3, z4]
  have la' : (a : Nat) < s.heap.objs.size := la
  constructor <;> first | exact ZlD (by omega) | exact Nat.ne_of_lt (Nat.lt_of_lt_of_le la (Nat.le_add_right _ _)) | exact Nat.ne_of_lt la
 have L12 := l1.trans l2
 have L13 := L12.trans l3
 have L14 := L13.trans l4
 have L15 := L14.trans l5
 refine k _ _ Λ₅ _ s.toks (Zgp hh) ⟨_, _, _, _, a, .none, .none, 0, ⟨⟨l⟩⟩, t, vs, ws, n, _, _, D, e5, l5.hid (l4.hid e3), l5.hid e4, l5.hid (l4.hid (l3.hid (l2.hid e1))), rfl, rfl, l5.hid (l4.hid (l3.hid e2)), rfl, rfl, L15.frz ha, g.mono L15.sees, ?_, rfl, fun c hc => ?_⟩ L15 R5
 ·simpa using hlen
 ·refine R.toRep0.free (Heap.get?_none_of_le ?_)
  simp only [List.mem_cons, List.not_mem_nil, or_false] at hc
  rw [z1, z2, z3, z4] at hc
  obtain rfl | rfl | rfl | rfl | rfl := hc <;> omega
theorem Zej {es : List Expr} {kk : Nat} {pos : Pos} {vs : List AV} {ws : List Value} {n : Nat} {a : Addr} {Q : Value → Shared → Prop} (hh : A.handled = none) (R : Rep prog w B₀ outs L loc Λ σ ρ s.heap)
  (ha : Λ a = .frz (Zn ws n)) (g : VTs prog w Λ vs ws) (k : UG prog w A B₀ outs L loc Λ σ ρ (.Tuple es kk pos) (GL 0 vs) s Q) :
  wpAny (model prog w) A (call (.type "enumerate") [.ref a]) (fun x s₁ => wpAny (model prog w) A (pyIter x) Q E s₁) E s := by
 refine call_enumerate_list (ZQ (R.frzAt ha)) fun h' a1 ⟨o1, g1, g1', g1''⟩ a3 up => ?_
 refine wpAny_pyIter_enum a1 ?_
 have la : a < s.heap.objs.size := Heap.lt_size (R.frzAt ha)
 obtain ⟨Λ₁, l1, _, e1, R1⟩ := R.forget R.none0
 have n1 : s.heap.get? (s.heap.objs.size + 1) = none := Heap.get?_none_of_le (Nat.le_succ _)
 obtain ⟨Λ₂, l2, f2, e2, R2⟩ := R1.forget n1
 have R3 := R2.grow up
 have R4 := R3.settle (t := .hid o1) (f2 _ e1) g1
 have l4 : Λ₂.le _ := Lay.le_up (.hid o1) (.inl (f2 _ e1))
 have e4 : (Λ₂.up s.heap.objs.size (.hid o1)) (s.heap.objs.size + 1) = .free := by rw [Lay.up_ne _ _ (Nat.succ_ne_self _)]; exact e2
 have R5 := R4.settle (t := .hid (Zbg s.heap.objs.size 0 .none .none)) e4 a1
 have l5 := Lay.le_up (.hid (Zbg s.heap.objs.size 0 .none .none)) (.inl e4)
 have LL := ((l1.trans l2).trans l4).trans l5
 refine k _ _ _ h' s.toks (Zey hh) ⟨s.heap.objs.size, a, .none, 0, vs, ws, n, o1, Nat.succ_ne_self _, Nat.ne_of_lt (Nat.lt_succ_of_lt la), Nat.ne_of_lt la, Lay.up_self .., ?_, g1', g1'', LL.frz ha, g.mono LL.sees, rfl, fun c hc => ?_⟩ LL R5
 ·exact l5.hid (Lay.up_self ..)
 ·refine R.toRep0.free (Heap.get?_none_of_le ?_)
  simp only [List.mem_cons, List.not_mem_nil, or_false] at hc
  obtain rfl | rfl := hc <;> omega
end
noncomputable def Wa : Expr → Option Str
 | .Name x _ => some x
 | _ => none
noncomputable def SwP (ts : List Expr) (x : Sem (Option (List Str))) : Prop := x = pure none ∨ ∃ names, x = pure (some names) ∧ names.length = ts.length ∧ ∃ f : Expr → Option Str, names = ts.filterMap f ∧ ∀ t x, f t = some x → Wa t = some x
theorem Zba {α : Type _} {c : Prop} [Decidable c] {a b : α} {P : α → Prop} (h1 : c → P a) (h2 : ¬c → P b) : P (if c then a else b) := by
 by_cases h : c
 ·rw [if_pos h]; exact h1 h
 ·rw [if_neg h]; exact h2 h
theorem Zf3 {α : Type _} {c : Prop} [Decidable c] {a x : α} (e : (if c then some a else none) = some x) : a = x := by
 by_cases h : c
 ·rw [if_pos h] at e; exact Option.some.inj e
 ·rw [if_neg h] at e; exact xN e
theorem Gl {ts : List Expr} {k : Nat} {p : Pos} {value : Expr} {env : Env} (hc : WQ value = false) : SwP ts (swappedStores [.Tuple ts k p] value env) := by
 cases value with
 | Tuple vs k' p' =>
  refine Zba (fun _ => .inl rfl) fun _ => ?_
  refine Zba (fun _ => .inl rfl) fun _ => ?_
  refine Zba (fun _ => .inl rfl) fun h3 => ?_
  refine Zba (fun _ => .inl rfl) fun _ => ?_
  refine Zba (fun h => absurd h (by rw [show vs.all (constantsAlone 8) = false from hc]; exact Bool.false_ne_true)) fun _ => ?_
  refine .inr ⟨_, rfl, ?_, _, rfl, ?_⟩
  ·exact Classical.byContradiction fun n => h3 (by rw [Bool.or_eq_true]; exact .inl (bne_iff_ne.mpr n))
  ·intro t x e
   cases t with
   | Name id pos => exact congrArg some (Zf3 e)
   | _ => exact xN e
 | _ => exact .inl rfl
theorem WP {f g : Expr → Option Str} (hfg : ∀ t x, f t = some x → g t = some x) : ∀ {ts : List Expr}, (ts.filterMap f).length = ts.length → ts.map g = (ts.filterMap f).map some
 | [], _ => rfl
 | t :: ts, h => by
  generalize q : f t = zz at *
  cases zz with
  | none =>
   rw [List.filterMap_cons, q] at h
   have := List.length_filterMap_le f ts
   simp only [List.length_cons] at h
   omega
  | some x =>
   rw [List.filterMap_cons, q] at h ⊢
   simp only [List.length_cons, Nat.add_right_cancel_iff] at h
   simp only [List.map_cons, hfg t x q, WP hfg h]
noncomputable def VB (ps : List (Str × AV)) (loc : Loc) : Loc := ps.foldl (fun l p => WC p.1 p.2 l) loc
theorem WF (y : Str) : ∀ (ps : List (Str × AV)) (loc : Loc), (VB ps loc).lookup y = match ps.reverse.lookup y with | some v => some v | none => loc.lookup y
 | [], loc => rfl
 | p :: ps, loc => by
  show (VB ps (WC p.1 p.2 loc)).lookup y = _
  rw [WF y ps, WY, List.reverse_cons, List.lookup_append]
  cases ps.reverse.lookup y with
  | some v => rfl
  | none =>
   obtain ⟨a, b⟩ := p
   by_cases q : y = a
   ·subst q; simp [List.lookup_cons]
   ·have : (y == a) = false := beq_eq_false_iff_ne.mpr q
    simp [List.lookup_cons, this, q]
theorem UM {y : Str} : ∀ {ps : List (Str × AV)}, y ∉ ps.map (·.1) → ps.lookup y = none
 | [], _ => rfl
 | (a, b) :: ps, h => by
  simp only [List.map_cons, List.mem_cons, not_or] at h
  rw [List.lookup_cons, beq_eq_false_iff_ne.mpr h.1]
  exact UM h.2
theorem JT (y : Str) : ∀ {ps : List (Str × AV)}, (ps.map (·.1)).Nodup → ps.reverse.lookup y = ps.lookup y
 | [], _ => rfl
 | (a, b) :: ps, nd => by
  simp only [List.map_cons, List.nodup_cons] at nd
  rw [List.reverse_cons, List.lookup_append, JT y nd.2, List.lookup_cons]
  by_cases q : y = a
  ·subst q
   rw [UM nd.1]
   simp [List.lookup_cons]
  ·have : (y == a) = false := beq_eq_false_iff_ne.mpr q
   simp only [this, List.lookup_cons]
   cases ps.lookup y <;> rfl
theorem ZbX {ps : List (Str × AV)} (nd : (ps.map (·.1)).Nodup) (loc : Loc) (y : Str) : (VB ps.reverse loc).lookup y = (VB ps loc).lookup y := by
 rw [WF, WF, List.reverse_reverse, JT y nd]
noncomputable def ZhP (fi : FI) : List Str → Prop
 | [] => True
 | n :: ns => Ze n fi.names = some .local ∧ ZhP fi ns
theorem Um {fi : FI} : ∀ {ts : List Expr} {vs : List AV} {loc : Loc} {K : Loc → Prop}, GB fi ts vs loc K → ∃ ns : List Str, ts.map Wa = ns.map some ∧ ns.length = vs.length ∧ (∀ n ∈ ns, Ze n fi.names = some .local) ∧ K (VB (ns.zip vs) loc)
 | [], [], loc, K, h => ⟨[], rfl, rfl, fun n hn => (nomatch hn), h⟩
 | [], _ :: _, loc, K, h => h.elim
 | t :: ts, vs, loc, K, h => by
  cases t with
  | Name x p =>
   cases vs with
   | nil => exact h.elim
   | cons v vs =>
    change XD fi x v loc (fun loc₁ => GB fi ts vs loc₁ K) at h
    rw [Wi] at h
    generalize q : Ze x fi.names = zz at h ⊢
    cases zz with
    | none => exact h.elim
    | some k =>
     cases k with
     | «local» =>
      simp only at h
      obtain ⟨ns, h1, h2, h3, h4⟩ := Um h
      refine ⟨x :: ns, ?_, ?_, ?_, h4⟩
      ·simp only [List.map_cons, h1]; rfl
      ·simp only [List.length_cons, h2]
      ·intro n hn
       obtain rfl | hn := List.mem_cons.mp hn
       ·exact q
       ·exact h3 n hn
     | _ => exact h.elim
  | _ => exact h.elim
theorem Zbw : ∀ {ts : List Expr} {ns : List Str}, Xy ts = true → ts.map Wa = ns.map some → ns.Nodup
 | [], ns, _, e => by cases ns with
  | nil => exact List.nodup_nil
  | cons _ _ => exact xC e
 | t :: ts, ns, h, e => by
  cases ns with
  | nil => exact xD e
  | cons n ns =>
   simp only [List.map_cons, List.cons.injEq] at e
   unfold Xy at h
   cases t with
   | Name x p =>
    dsimp only at h
    have ex : x = n := xI e.1
    subst ex
    generalize q : ts.all (UE x) = zz at h ⊢
    cases zz with
    | false => exact xF h
    | true =>
     refine List.nodup_cons.mpr ⟨fun hm => ?_, Zbw h e.2⟩
     have hm' : some x ∈ ns.map some := List.mem_map_of_mem hm
     rw [← e.2] at hm'
     obtain ⟨u, hu, eu⟩ := List.mem_map.mp hm'
     have := List.all_eq_true.mp q u hu
     cases u with
     | Name y py =>
      have ey : y = x := xI eu
      subst ey
      simp [UE, Yq] at this
     | _ => exact xN eu
   | _ => exact xF h
section
variable {prog : Program} {w : World} {B₀ : Heap} {outs : List Env} {L : Addr} {Λ : Lay} {σ : List AO} {ρ : List Addr} {A : Around} {E : Value → Shared → Prop} {h h' : Heap} {env : Env} {fi : FI} {n : Nat}
theorem Rep.reloc {loc loc' : Loc} (R : Rep prog w B₀ outs L loc Λ σ ρ h) (e : ∀ y, loc'.lookup y = loc.lookup y) : Rep prog w B₀ outs L loc' Λ σ ρ h :=
 { R with ns := let ⟨m, n, l⟩ := R.ns; ⟨m, n, fun y => by rw [e y]; exact l y⟩ }
theorem Zbr (C : Cx B₀ A env outs L fi n) {x : Str} {v : AV} {y : Value} {loc : Loc} {s : Shared} {Q : Unit → Shared → Prop} (hx : Ze x fi.names = some .local) (R : Rep prog w B₀ outs L loc Λ σ ρ s.heap) (V : VR prog w Λ ρ v y)
  (hq : ∀ h' tk, Rep prog w B₀ outs L (WC x v loc) Λ σ ρ h' → Q () { s with heap := h', toks := tk }) : wpAny (model prog w) A (bindName env x y) Q E s :=
 wpAny_bindName (Wh C (K := fun l => l = WC x v loc) (by rw [Wi, hx]) R V fun h' loc' e R' => by subst e; exact hq h' _ R')
theorem UV (C : Cx B₀ A env outs L fi n) : ∀ {ts : List Expr} {ns : List Str} {vs : List AV} {ws : List Value} {loc : Loc} {s : Shared} {Q : Unit → Shared → Prop}, ts.map Wa = ns.map some → ns.length = vs.length → (∀ n ∈ ns, Ze n fi.names = some .local) → VTs prog w Λ vs ws →
  Rep prog w B₀ outs L loc Λ σ ρ s.heap → (∀ h' tk, Rep prog w B₀ outs L (VB (ns.zip vs) loc) Λ σ ρ h' → Q () { s with heap := h', toks := tk }) → wpAny (model prog w) A (assignInOrder ((assignEach ts env).map (·.2)) ws) Q E s
 | [], [], [], ws, loc, s, Q, e, hl, hn, g, R, hq => by (have hh := VTs.unnil g; clear g; subst hh); exact wpAny_pure (hq s.heap s.toks R)
 | [], [], _ :: _, ws, loc, s, Q, e, hl, hn, g, R, hq => by (exfalso; cases hl)
 | [], _ :: _, _, ws, loc, s, Q, e, hl, hn, g, R, hq => by exact xC e
 | _ :: _, [], _, ws, loc, s, Q, e, hl, hn, g, R, hq => by exact xD e
 | _ :: _, _ :: _, [], ws, loc, s, Q, e, hl, hn, g, R, hq => by (exfalso; cases hl)
 | t :: ts, x :: ns, v :: vs, ws, loc, s, Q, e, hl, hn, g, R, hq => by
  obtain ⟨_, _, rfl, hv, g⟩ := g.uncons
  simp only [List.map_cons, List.cons.injEq] at e
  cases t with
  | Name x' px =>
   have ex : x' = x := xI e.1
   subst ex
   refine assignInOrder_cons ?_
   show wpAny (model prog w) A (do standAt px; bindName env x' _) _ E s
   refine wpAny_bind (wpAny_standAt (Zbr C (hn _ (.head _)) R (.inl hv) fun h' tk R' => ?_))
   exact UV C (s := { s with heap := h', toks := tk }) e.2 (by simpa using hl) (fun m hm => hn m (.tail _ hm)) g R' fun h₂ tk₂ R₂ => hq h₂ tk₂ R₂
  | _ => exact nomatch e.1
theorem GV (C : Cx B₀ A env outs L fi n) : ∀ {ns : List Str} {vs : List AV} {ws : List Value} {loc : Loc} {s : Shared} {Q : Unit → Shared → Prop}, ns.length = vs.length → (∀ n ∈ ns, Ze n fi.names = some .local) → VTs prog w Λ vs ws →
  Rep prog w B₀ outs L loc Λ σ ρ s.heap → (∀ h' tk, Rep prog w B₀ outs L (VB (ns.zip vs) loc) Λ σ ρ h' → Q () { s with heap := h', toks := tk }) → wpAny (model prog w) A (assignInOrder (ns.map fun n => bindName env n) ws) Q E s
 | [], [], ws, loc, s, Q, hl, hn, g, R, hq => by (have hh := VTs.unnil g; clear g; subst hh); exact wpAny_pure (hq s.heap s.toks R)
 | [], _ :: _, ws, loc, s, Q, hl, hn, g, R, hq => by (exfalso; cases hl)
 | _ :: _, [], ws, loc, s, Q, hl, hn, g, R, hq => by (exfalso; cases hl)
 | x :: ns, v :: vs, ws, loc, s, Q, hl, hn, g, R, hq => by
  obtain ⟨_, _, rfl, hv, g⟩ := g.uncons
  refine assignInOrder_cons ?_
  refine Zbr C (hn _ (.head _)) R (.inl hv) fun h' tk R' => ?_
  exact GV C (s := { s with heap := h', toks := tk }) (by simpa using hl) (fun m hm => hn m (.tail _ hm)) g R' fun h₂ tk₂ R₂ => hq h₂ tk₂ R₂
theorem VTs.reverse {vs : List AV} {ws : List Value} (g : VTs prog w Λ vs ws) : VTs prog w Λ vs.reverse ws.reverse := by
 induction vs generalizing ws with
 | nil => (have hh := VTs.unnil g; clear g; subst hh); exact .nil
 | cons v vs ih =>
  obtain ⟨_, _, rfl, h, g⟩ := g.uncons
  rw [List.reverse_cons, List.reverse_cons]
  exact (ih g).append (.cons h .nil)
theorem Zha {ns : List Str} {vs : List AV} (h : ns.length = vs.length) : ns.reverse.zip vs.reverse = (ns.zip vs).reverse := by
 induction ns generalizing vs with
 | nil => simp
 | cons n ns ih =>
  cases vs with
  | nil => (exfalso; cases h)
  | cons v vs =>
   simp only [List.length_cons, Nat.add_right_cancel_iff] at h
   rw [List.reverse_cons, List.reverse_cons, List.zip_append (by simp [h]), ih h]
   simp
theorem UC : ∀ {ts : List Expr}, (∃ ns : List Str, ts.map Wa = ns.map some) → (assignEach ts env).length = ts.length ∧ (assignEach ts env).findIdx? (·.1) = none := fun {ts} => by
 induction ts with
 | nil => intro _; exact ⟨rfl, rfl⟩
 | cons t ts ih =>
  intro h9; obtain ⟨ns, e⟩ := h9
  cases ns with
  | nil => exact xD e
  | cons n ns =>
   simp only [List.map_cons, List.cons.injEq] at e
   obtain ⟨i1, i2⟩ := ih ⟨ns, e.2⟩
   cases t with
   | Name y py =>
    refine ⟨by show (assignEach ts env).length + 1 = _; rw [i1]; rfl, ?_⟩
    show List.findIdx? (·.1) ((false, assign (.Name y py) env) :: assignEach ts env) = none
    rw [List.findIdx?_cons]
    simp [i2]
   | _ => exact nomatch e.1
theorem ZbE (C : Cx B₀ A env outs L fi n) (hh : A.handled = none) {ts : List Expr} {k : Nat} {p : Pos} {vs : List AV} {x : Value} {loc : Loc} {s : Shared} {K : Loc → Prop} {Q : Unit → Shared → Prop} (h : GB fi ts vs loc K) (R : Rep prog w B₀ outs L loc Λ σ ρ s.heap)
  (V : VR prog w Λ ρ (.tup vs) x) (hq : ∀ loc' h' tk, K loc' → Rep prog w B₀ outs L loc' Λ σ ρ h' → Q () { s with heap := h', toks := tk }) : wpAny (model prog w) A (assign (.Tuple ts k p) env x) Q E s := by
 obtain ⟨ns, e1, e2, e3, kk⟩ := Um h
 obtain ⟨a, ws, m, rfl, ea, g⟩ := V.tup_
 have hlen : ts.length = ns.length := by have := congrArg List.length e1; simpa using this
 obtain ⟨j1, j2⟩ := UC ⟨ns, e1⟩
 refine wpAny_assign_Tuple hh (Y1 (R.frzAt ea)) (by rw [j1, hlen, e2]; simp [g.length]) j2 fun h' ext => ?_
 have R' : Rep prog w B₀ outs L loc Λ σ ρ h' := R.grow fun b o q => ext b o (Nat.ne_of_lt (Heap.lt_size q)) q
 refine UV C (s := { s with heap := h' }) e1 e2 e3 (by simpa using g) R' fun h₂ tk₂ R₂ => hq _ h₂ tk₂ kk R₂
theorem ZaH (C : Cx B₀ A env outs L fi n) (hh : A.handled = none) {ts : List Expr} {names : List Str} {vs : List AV} {x : Value} {loc : Loc} {s : Shared} {K : Loc → Prop} {Q : Unit → Shared → Prop} (ha : Xy ts = true) (h : GB fi ts vs loc K) (hn : ts.map Wa = names.map some) (R : Rep prog w B₀ outs L loc Λ σ ρ s.heap)
  (V : VR prog w Λ ρ (.tup vs) x) (hq : ∀ loc' h' tk, K loc' → Rep prog w B₀ outs L loc' Λ σ ρ h' → Q () { s with heap := h', toks := tk }) :
  wpAny (model prog w) A (unpackItems x names.length none) (fun items s₂ => wpAny (model prog w) A (assignInOrder (names.reverse.map fun n => bindName env n) items.reverse) Q E s₂) E s := by
 obtain ⟨ns, e1, e2, e3, kk⟩ := Um h
 have en : ns = names := by
  have : ns.map some = names.map some := e1.symm.trans hn
  exact List.map_inj_right (fun _ _ e => Option.some.inj e) |>.mp this
 subst en
 obtain ⟨a, ws, m, rfl, ea, g⟩ := V.tup_
 have hsz : ns.length = ws.toArray.size := by rw [e2]; simp [g.length]
 rw [hsz]
 refine wpAny_unpackItems_tuple hh (Y1 (R.frzAt ea)) fun h' ext => ?_
 have R' : Rep prog w B₀ outs L loc Λ σ ρ h' := R.grow fun b o q => ext b o (Nat.ne_of_lt (Heap.lt_size q)) q
 refine GV C (s := { s with heap := h' }) (ns := ns.reverse) (vs := vs.reverse) (by simp [e2]) (fun n hn => e3 n (List.mem_reverse.mp hn)) (by simpa using g.reverse) R' fun h₂ tk₂ R₂ => ?_
 refine hq _ h₂ tk₂ kk (R₂.reloc fun y => ?_)
 rw [Zha e2]
 refine (ZbX ?_ loc y).symm
 have : (ns.zip vs).map (·.1) = ns := by
  rw [List.map_fst_zip]
  omega
 rw [this]
 exact Zbw ha e1
end
noncomputable def XC (prog : Program) (w : World) (Λ : Lay) (h : Heap) (x : AX) (e : Addr) : Prop :=
 ∃ oe vs, h.get? e = some oe ∧ Λ e = .free ∧ oe.data = .fields vs ∧ 2 ≤ vs.size ∧ ZcO prog w Λ oe x.at_ ∧ vs[1]? = some .none
theorem XC.exc {prog : Program} {w : World} {Λ : Lay} {h : Heap} {x : AX} {e L : Addr} (H : XC prog w Λ h x e) : U5 prog w Λ h L x e :=
 let ⟨oe, vs, h1, h2, h3, h4, h5, h6⟩ := H; ⟨oe, vs, h1, h2, h3, h4, h5, .inl ⟨rfl, h6⟩⟩
structure YU (prog : Program) (w : World) (B₀ : Heap) (Kf : Frag) (pg : Pg) : Prop extends Prims prog w B₀ Kf pg where
 mkExc : ∀ {outs : List Env} {L : Addr} {loc : Loc} {A : Around} {env : Env} {fi : FI} {n : Nat} {E : Value → Shared → Prop} {Q : Value → Shared → Prop} {s : Shared} {σ : Led} {Λ : Lay} {ρ : List Addr} {vs : List AV} {xs : List Value} {K : AV → Prop}, Cx B₀ A env outs L fi (n + 1) → A.handled = none →
  Zgx vs K → Rep prog w B₀ outs L loc Λ σ ρ s.heap → VRs prog w Λ ρ vs xs → (∀ a e Λ' h' tk, K a → Λ.le Λ' → Rep prog w B₀ outs L loc Λ' σ ρ h' → XC prog w Λ' h' ⟨a⟩ e → Q (.ref e) { s with heap := h', toks := tk }) → wpAny (model prog w) A (call (.ref 52) xs) Q E s
 excKeep : keepIn Kf (.ref 52) = true
 excHit : ∀ {A : Around} {E : Value → Shared → Prop} {Q : Bool → Shared → Prop} {s : Shared} {e : Addr} {oe : Obj}, B₀.StaysIn s.heap → s.heap.get? e = some oe → oe.cls = .ref 52 → Q true s → wpAny (model prog w) A (excMatches (.ref e) (.ref 52)) Q E s
 raiseTail : ∀ {A : Around} {env : Env} {E : Value → Shared → Prop} {Q : Flow → Shared → Prop} {s : Shared} {Λ : Lay} {x : AX} {e : Addr}, A.handled = none → B₀.StaysIn s.heap → XC prog w Λ s.heap x e → (∀ tk, E (.ref e) { s with toks := tk }) → wpAny (model prog w) A (raiseStmt env (some (pure (.ref e))) none) Q E s
section
variable {prog : Program} {w : World} {B₀ : Heap} {Kf : Frag} {pg : Pg} {n : Nat} {A : Around} {env : Env} {outs : List Env} {L : Addr} {fi : FI} {E : Value → Shared → Prop} {X : KX}
theorem Wb {e : Expr} (h : Wm e = false) (t : Option Expr) (l : Nat) : swapsWith e t l env = pure false := by
 cases e <;> first | rfl | exact xT h
theorem VG (hk : env.scope.kind = .function) : interactive env = false := by
 unfold interactive
 rw [hk]
 rfl
theorem KVs.put {Λ : Lay} {x : Str} {v : AV} {y : Value} (V : VT prog w Λ v y) : ∀ {es : List (Str × AV)} {kvs : List (Str × Value)}, KVs prog w Λ es kvs → (es.map (·.1)).Nodup → KVs prog w Λ (WC x v es) (stored kvs x y)
 | [], kvs, h, _ => by cases h; exact .cons V .nil
 | (k, a) :: es, kvs, h, nd => by
  cases h with
  | @cons _ _ b _ fs hv g =>
   simp only [List.map_cons, List.nodup_cons] at nd
   rw [ZbR]
   generalize q : sEq x k = zz at *
   cases zz with
   | true =>
    have := ZH.mp q
    subst this
    have e : stored ((x, b) :: fs) x y = (x, y) :: fs := by
     unfold stored
     simp only [List.any_cons, decide_true, Bool.true_or, if_true, List.map_cons]
     congr 1
     have : ∀ kv ∈ fs, kv.1 ≠ x := fun kv hkv z => nd.1 (by
      rw [← g.keys]
      exact z ▸ List.mem_map_of_mem hkv)
     exact (List.map_congr_left fun kv hkv => if_neg (by simpa using this kv hkv)).trans (List.map_id fs)
    rw [e]
    exact .cons V g
   | false =>
    have ne : ¬ k = x := fun z => by rw [z, Yq] at q; exact xT q
    have e : stored ((k, b) :: fs) x y = (k, b) :: stored fs x y := by
     unfold stored
     simp only [List.any_cons, ne, decide_false, Bool.false_or, List.map_cons, if_false]
     split <;> rfl
    simp only
    rw [e]
    exact .cons hv (KVs.put V g nd.2)
theorem MKs.append {Λ : Lay} {m : Str × Int} {i : Int} {a : Addr} {n : Nat} {t t' t'' : Tok} (ha : Λ a = .frz (ZT [.str m.1 t', .int m.2 t''] n)) : ∀ {es xs}, MKs Λ es xs → MKs Λ (es ++ [(m, i)]) (xs ++ [(YJ m, a, .int i t)])
 | [], xs, h => by cases (h : _ = _); exact ⟨a, n, t, t', t'', [], rfl, ha, rfl⟩
 | (m', i') :: es, xs, h => by
  obtain ⟨b, n', u, u', u'', r, e, h, g⟩ := h
  subst e
  exact ⟨b, n', u, u', u'', r ++ [(YJ m, a, .int i t)], rfl, h, MKs.append ha g⟩
theorem GG {m : Str × Int} : ∀ {es : List ((Str × Int) × Int)}, Zv m es = none → m ∉ es.map (·.1)
 | [], _ => by simp
 | p :: l, e => by
  rw [Xl, Zb6] at e
  by_cases q : m = p.1
  ·simp only [q, decide_true] at e; exact xS e
  ·simp only [q, decide_false] at e
   simp only [List.map_cons, List.mem_cons, not_or]
   exact ⟨q, GG e⟩
theorem Zb0 {α : Type} {l : List α} {a : α} (h : l.Nodup) (n : a ∉ l) : (l ++ [a]).Nodup :=
 List.nodup_append.mpr ⟨h, by simp, fun x hx y hy e => n (by rw [List.mem_singleton.mp hy] at e; exact e ▸ hx)⟩
theorem ZdU {loc : Loc} {σ : Led} {Λ : Lay} {ρ : List Addr} {s : Shared} {a b v : AV} {x y z : Value} {K : Led → Prop} {Q : Unit → Shared → Prop} (h : Jr a b v σ K) (R : Rep prog w B₀ outs L loc Λ σ ρ s.heap) (va : VR prog w Λ ρ a x) (vb : VR prog w Λ ρ b y) (vv : VR prog w Λ ρ v z)
  (hu : A.units + 80 < cLine) (hq : ∀ σ' h' tk, K σ' → Rep prog w B₀ outs L loc Λ σ' ρ h' → Q () { s with heap := h', toks := tk }) : wpAny (model prog w) A (setItem x y z) Q E s := by
 rw [ZdV] at h
 cases a with
 | ref k =>
  obtain ⟨d, rfl, e2⟩ := va.ref_
  dsimp only at h
  generalize hk : σ[k]? = zz at *
  cases zz with
  | none => exact h.elim
  | some o =>
   have H := R.led k o hk
   cases o with
   | dsv es =>
    obtain ⟨c, ob, h1, h2, h3, kvs, h4, h5⟩ := H
    rw [e2] at h1; (replace h1 := xI h1; cases h1)
    simp only at h
    cases b with
    | str i =>
     obtain ⟨t, rfl⟩ := vb.str_
     have hD : s.heap.DictOf (strKind prog w) d kvs := Heap.dictOf_iff.mpr ⟨ob, h3, h5⟩
     refine wpAny_setItem_pairs (ZO i t) hD (fun h' hd hs => ?_) (by rw [h4.length]; exact U4 h.r.l)
     obtain ⟨o', ho', ho''⟩ := Heap.dictOf_iff.mp hd
     have nd : (es.map (·.1)).Nodup := by
      obtain ⟨_, _, _, _, _, _, nd⟩ := h5
      rw [← h4.keys]; exact nd
     exact hq _ h' _ h.r.r (R.set e2 h2 (fun c o ne e => (hs.2 c ne).trans e) ho' ⟨_, KVs.put (vv.tree h.l) h4 nd, ho''⟩)
    | _ => exact h.elim
   | dmk es =>
    obtain ⟨c, ob, h1, h2, h3, h5⟩ := H
    rw [e2] at h1; (replace h1 := xI h1; cases h1)
    simp only at h
    cases b with
    | tup us =>
     obtain ⟨m, em, h⟩ := Zo h
     have e3 := Zc9 em
     subst e3
     cases v with
     | int j =>
      obtain ⟨tj, rfl⟩ := vv.int_
      obtain ⟨p, ws, n, rfl, ep, g⟩ := vb.tup_
      obtain ⟨t, t', rfl⟩ := ZfZ g
      obtain ⟨xs, hx, hD⟩ := h5.dict R.toRep0 h3
      refine wpAny_setItem_heap (knd := tupleKind (Xi prog w)) (k := YJ m) (show A.in1.units < cLine from ?_) ⟨_, _, n, R.frzAt ep, rfl, rfl, VD⟩ hD (fun h' hd hs => ?_) ?_
      ·simp only [Around.in1_units]; omega
      ·obtain ⟨o', ds, ep', ho', q1, q2, q3, _, _⟩ := hd
       have hm0 : Zv m es = none := by
        have := h.l
        generalize Zv m es = zz at this ⊢
        cases zz with
        | none => rfl
        | some _ => exact xT this
       have hno : atKey xs (YJ m) = none := by
        obtain ⟨z1, _⟩ | ⟨_, _, _, _, _, z3⟩ := hx.at m
        ·generalize atKey xs (YJ m) = zz at z1 ⊢
         cases zz with
         | none => rfl
         | some p => exact xS z1
        ·rw [hm0] at z3; exact xN z3
       rw [storedH_new hno] at q3
       obtain ⟨_, _, _, _, _, _, _, nd⟩ := h5
       refine hq _ h' _ h.r.r (R.set e2 h2 (fun c o ne e => (hs.2 c ne).trans e) ho' ⟨_, ds, ep', hx.append ep, q1, q2, q3, ?_⟩)
       rw [List.map_append]
       exact Zb0 nd (GG hm0)
      ·have : xs.length = es.length := by have := congrArg List.length hx.keys; simpa using this
       rw [this]; exact U4 h.r.l
     | _ => exact h.elim
    | _ => exact h.elim
   | _ => exact h.elim
 | _ => exact h.elim
theorem G4 (Pm : Prims prog w B₀ Kf pg) (S : Snd prog w B₀ pg n) (C : Cx B₀ A env outs L fi n) {t : Expr} {v : AV} {x : Value} {loc : Loc} {σ : Led} {Λ : Lay} {ρ : List Addr} {s : Shared} {K : Loc → Led → Prop} {X : KC} {Q : Unit → Shared → Prop} (h : G5 (ev pg n) fi t v loc σ K X)
  (R : Rep prog w B₀ outs L loc Λ σ ρ s.heap) (V : VR prog w Λ ρ v x) (hq : ∀ loc' σ' Λ' ρ' h' tk, K loc' σ' → Λ.le Λ' → ρ <+: ρ' → Rep prog w B₀ outs L loc' Λ' σ' ρ' h' → Q () { s with heap := h', toks := tk })
  (PX : PX prog w B₀ outs L loc Λ ρ X E s) : wpAny (model prog w) A (assign t env x) Q E s := by
 cases t with
 | Name y p =>
  show wpAny (model prog w) A (do standAt p; bindName env y x) Q E s
  refine wpAny_bind (wpAny_standAt (wpAny_bindName ?_))
  exact Wh C h R V fun h' loc' k R' => hq loc' σ Λ ρ h' _ k (Lay.le.refl _) (List.prefix_refl _) R'
 | Tuple ts k p =>
  obtain ⟨hc, h⟩ := JL h
  obtain ⟨ha, h⟩ := JL h
  cases v with
  | tup vs => exact ZbE C (C.calm hc) h R V fun loc' h' tk kk R' => hq loc' σ Λ ρ h' tk kk (Lay.le.refl _) (List.prefix_refl _) R'
  | _ => exact h.elim
 | Subscript o i p =>
  have plain : (ev pg n).E fi loc σ o (fun a σ₁ => (ev pg n).E fi loc σ₁ i (fun b σ₂ => Jr a b v σ₂ fun σ₃ => K loc σ₃) X) X → wpAny (model prog w) A (assign (.Subscript o i p) env x) Q E s := fun h => by
   rw [assign_Subscript]
   refine wpAny_bind (wpAny_holding ?_)
   refine S.E C h R (fun a σ₁ Λ₁ ρ₁ y h₁ tk₁ k₁ l₁ p₁ R₁ V₁ => ?_) PX
   refine wpAny_bind (wpAny_holding ?_)
   refine S.E C (s := { s with heap := h₁, toks := tk₁ }) k₁ R₁ (fun b σ₂ Λ₂ ρ₂ z h₂ tk₂ k₂ l₂ p₂ R₂ V₂ => ?_) (PX.at l₁ p₁ h₁ tk₁)
   refine wpAny_bind (wpAny_standAt ?_)
   refine wpAny_bind (wpAny_holding ?_)
   refine ZdU (s := { s with heap := h₂, toks := tk₂ }) k₂ R₂ (V₁.mono l₂.sees p₂) V₂ (V.mono (l₁.trans l₂).sees (p₁.trans p₂)) C.room fun σ₃ h₃ tk₃ k₃ R₃ => ?_
   exact wpAny_release (hq loc σ₃ Λ₂ ρ₂ h₃ tk₃ k₃ (l₁.trans l₂) (p₁.trans p₂) R₃)
  cases i with
  | Slice _ _ _ _ => exact h.elim
  | _ => exact plain h
 | _ => exact h.elim
inductive Zlf (prog : Program) (w : World) (B₀ : Heap) (pg : Pg) (n : Nat) (outs : List Env) (L : Addr) (fi : FI) (t : Expr) (body : List Stmt) (St : List AV → Lay → Prop) (K : KS) (X : KX) (Λ₀ : Lay) (ρ₀ : List Addr) (s₀ : Shared) (m : Nat) (s' : Shared) : Prop
 | mk (vs : List AV) (loc : Loc) (σ : Led) (Λ : Lay) (ρ : List Addr) (h : Heap) (tk : Nat) (e : s' = { s₀ with heap := h, toks := tk }) (em : m = vs.length) (l : Λ₀.le Λ) (p : ρ₀ <+: ρ) (st : St vs Λ) (k : Zgl (ev pg n) fi t body vs loc σ K X) (R : Rep prog w B₀ outs L loc Λ σ ρ h) : Zlf prog w B₀ pg n outs L fi t body St K X Λ₀ ρ₀ s₀ m s'
theorem Zid (Pm : Prims prog w B₀ Kf pg) (S : Snd prog w B₀ pg n) (C : Cx B₀ A env outs L fi n) (hcp : fi.comp = false) {t : Expr} {body : List Stmt} {I : Addr} {St : List AV → Lay → Prop} {vs : List AV} {loc : Loc} {σ : Led} {Λ₀ Λ : Lay} {ρ₀ ρ : List Addr} {s₀ s : Shared} {K : KS} {Q : Flow → Shared → Prop}
  (hs : ∃ h tk, s = { s₀ with heap := h, toks := tk }) (l0 : Λ₀.le Λ) (p0 : ρ₀ <+: ρ) (Fd : ZcR prog w A B₀ Λ₀ t I St) (st : St vs Λ) (h : Zgl (ev pg n) fi t body vs loc σ K X)
  (R : Rep prog w B₀ outs L loc Λ σ ρ s.heap) (P : PS prog w B₀ outs L Λ₀ ρ₀ K Q s₀) (PX : PXS prog w B₀ outs L Λ₀ ρ₀ X E s₀) :
  codeAny (model prog w) A (.forLoop t (.ref I) body [] env) (fun r s' => match r with | .ok f => Q f s' | .error e => cameBackBy (model prog w) A env E e s') s := by
 have hkm : env.scope.kind ≠ .module := by rw [C.kind]; exact nofun
 have hfr : A.frames = some (env :: outs) := by have := C.frames; rw [hcp] at this; exact this
 have toE : PXS prog w B₀ outs L Λ₀ ρ₀ X (notedBy (model prog w) A env fun e s' => cameBackBy (model prog w) A env E e s') s₀ := fun x loc' σ' Λ' ρ' e h' tk k l p R' H => by
  refine Zea (s := { s₀ with heap := h', toks := tk }) hfr hkm (C.frame hcp) R' H fun Λ₂ h₂ l₂ R₂ H₂ => ?_
  exact ZgZ (s := { s₀ with heap := h₂, toks := tk }) (C.frame hcp) R₂ H₂ fun h₃ R₃ H₃ => PX x loc' σ' Λ₂ ρ' e h₃ tk k (l.trans l₂) p R₃ H₃
 refine codeAny_forLoop_any (fun m s' => Zlf prog w B₀ pg n outs L fi t body St K X Λ₀ ρ₀ s₀ m s') ?_ vs.length ?_
 ·intro m s' h9; obtain ⟨vs, loc, σ, Λ, ρ, hh, tk, rfl, rfl, l, p, st, h, R⟩ := h9
  cases vs with
  | nil =>
   refine Fd.done (s := { s₀ with heap := hh, toks := tk }) (fun _ _ q _ => q) l st R fun Λ' h' tk' l' _ R' => ?_
   exact wpAny_execs_nil (P _ loc σ Λ' ρ _ h' tk' h l' p R' .next)
  | cons v vs =>
   refine wpAny_mono (Fd.next (s := { s₀ with heap := hh, toks := tk }) (Q := fun x s₁ => wpAny (model prog w) A (assign t env x) (fun _ s₂ => wpAny (model prog w) A (execs body env) (fun f s₃ => match f with
      | .next | .cont => ∃ m, m < (v :: vs).length ∧ Zlf prog w B₀ pg n outs L fi t body St K X Λ₀ ρ₀ s₀ m s₃
      | .brk => Q .next s₃
      | .ret v => Q (.ret v) s₃) (notedBy (model prog w) A env fun e s' => cameBackBy (model prog w) A env E e s') s₂) (notedBy (model prog w) A env fun e s' => cameBackBy (model prog w) A env E e s') s₁)
    (E := notedBy (model prog w) A env fun e s' => cameBackBy (model prog w) A env E e s') (fun _ _ q _ => q) l st R fun x Λ₁ h₁ tk₁ l₁ _ R₁ V₁ st₁ => ?_) (fun r s₁ hr => ?_) fun _ _ e => e
   ·refine G4 Pm S C (s := { s₀ with heap := h₁, toks := tk₁ }) h R₁ (.inl V₁) (fun loc₂ σ₂ Λ₂ ρ₂ h₂ tk₂ k₂ l₂ p₂ R₂ => ?_) (fun y σ' Λ' ρ' e h' tk' k' l' p' R' H' => toE y loc σ' Λ' ρ' e h' tk' k' (l₁.trans l') (p.trans p') R' H')
    refine S.Ss C (s := { s₀ with heap := h₂, toks := tk₂ }) k₂ R₂ (fun f loc₃ σ₃ Λ₃ ρ₃ fl h₃ tk₃ k₃ l₃ p₃ R₃ hf => ?_) (fun y loc' σ' Λ' ρ' e h' tk' k' l' p' R' H' => toE y loc' σ' Λ' ρ' e h' tk' k' ((l₁.trans l₂).trans l') ((p.trans p₂).trans p') R' H')
    cases hf with
    | next => exact ⟨vs.length, Nat.lt_succ_self _, vs, loc₃, σ₃, Λ₃, ρ₃, h₃, tk₃, rfl, rfl, (l₁.trans l₂).trans l₃, (p.trans p₂).trans p₃, Fd.keep st₁ (VX (l₂.trans l₃)), k₃, R₃⟩
    | ret V => exact P _ loc₃ σ₃ Λ₃ ρ₃ _ h₃ tk₃ k₃ ((l₁.trans l₂).trans l₃) ((p.trans p₂).trans p₃) R₃ (.ret V)
   ·cases r with
    | none => exact hr.elim
    | some x => exact hr
 ·obtain ⟨hh, tk, rfl⟩ := hs
  exact ⟨vs, loc, σ, Λ, ρ, hh, tk, rfl, rfl, l0, p0, st, h, R⟩
end
section
variable {prog : Program} {w : World} {B₀ : Heap} {Kf : Frag} {pg : Pg} {n : Nat} {A : Around} {env : Env} {outs : List Env} {L : Addr} {fi : FI} {E : Value → Shared → Prop} {loc : Loc} {σ : Led} {Λ : Lay} {ρ : List Addr} {s : Shared}
theorem Vm (Pm : Prims prog w B₀ Kf pg) (S : Snd prog w B₀ pg n) (C : Cx B₀ A env outs L fi n) {x : Str} {t : TY} {xp pos : Pos} {args : List Expr} {X : KC} {K : KL} {Q : Value → Shared → Prop} (hg : VY pg fi x t) (hd : sEq x (Str.ofString "__debug__") = false) (hn : noStar args = true)
  (h : XS (ev pg n) fi loc args σ K X) (R : Rep prog w B₀ outs L loc Λ σ ρ s.heap)
  (P : ∀ vs σ' Λ' ρ' xs h' tk, K vs σ' → Λ.le Λ' → ρ <+: ρ' → Rep prog w B₀ outs L loc Λ' σ' ρ' h' → VRs prog w Λ' ρ' vs xs → wpAny (model prog w) A (call (.type t.nm) xs) Q E { s with heap := h', toks := tk }) (PX : PX prog w B₀ outs L loc Λ ρ X E s) :
  wpAny (model prog w) A (eval (.Call (.Name x xp) args [] pos) env) Q E s := by
 show wpAny (model prog w) A (do callWith pos (← eval (.Name x xp) env) [] (backTo pos (starEach args env)) (backToKw pos (keywordEach [] env))) Q E s
 refine wpAny_bind ?_
 have hnm : UL pg fi loc σ x (fun g σ' => g = .ty t ∧ σ' = σ) := by
  delta UL
  rw [hd, hg.1, hg.2]
  exact ⟨rfl, rfl⟩
 refine VS C Pm.G hnm R (fun g σ' Λ' ρ' y h' tk k l p R' V => ?_)
 obtain ⟨rfl, rfl⟩ := k
 obtain rfl := V.ty_
 refine Wz Pm hn (.inr (.inl ⟨_, rfl⟩)) ?_
 refine XA S C (s := { s with heap := h', toks := tk }) hn h R' (fun vs σ₂ Λ₂ ρ₂ xs h₂ tk₂ k₂ l₂ p₂ R₂ V₂ => ⟨R₂.toRep0.keep, ?_⟩) (PX.at l p h' tk)
 rw [List.nil_append]
 exact P vs σ₂ Λ₂ ρ₂ xs h₂ tk₂ k₂ (l.trans l₂) (p.trans p₂) R₂ V₂
theorem Vv {it : Expr} {src : Src} (h : Js fi it = src) (hs : src = .range ∨ src = .zip ∨ src = .enum) : ∃ x xp args kw pos, it = .Call (.Name x xp) args kw pos ∧
  (src = .range → x = Str.ofString "range") ∧ (src = .zip → x = Str.ofString "zip") ∧ (src = .enum → x = Str.ofString "enumerate") := by
 delta Js at h
 have np : ∀ {P : Prop}, Src.plain = src → P := fun e => by subst e; obtain h | h | h := hs <;> (exfalso; cases h)
 cases it with
 | Call f args kw pos =>
  cases f with
  | Name x xp =>
   refine ⟨x, xp, args, kw, pos, rfl, ?_⟩
   simp only at h
   generalize q1 : sEq x (Str.ofString "range") = zz at h ⊢
   cases zz with
   | true =>
    simp only at h
    subst h
    exact ⟨fun _ => ZH.mp q1, nofun, nofun⟩
   | false =>
    simp only at h
    generalize q2 : sEq x (Str.ofString "zip") = zz at h ⊢
    cases zz with
    | true =>
     simp only at h
     subst h
     exact ⟨nofun, fun _ => ZH.mp q2, nofun⟩
    | false =>
     simp only at h
     generalize q3 : sEq x (Str.ofString "enumerate") = zz at h ⊢
     cases zz with
     | true =>
      simp only at h
      subst h
      exact ⟨nofun, nofun, fun _ => ZH.mp q3⟩
     | false =>
      exact np h
  | _ => exact np h
 | _ => exact np h
theorem ZaL {it : Expr} (h : Js fi it = .range) : ∃ xp args kw pos, it = .Call (.Name (Str.ofString "range") xp) args kw pos := by
 obtain ⟨x, xp, args, kw, pos, rfl, hx, _, _⟩ := Vv h (.inl rfl)
 obtain rfl := hx rfl
 exact ⟨xp, args, kw, pos, rfl⟩
theorem ZbL {it : Expr} (h : Js fi it = .enum) : ∃ xp args kw pos, it = .Call (.Name (Str.ofString "enumerate") xp) args kw pos := by
 obtain ⟨x, xp, args, kw, pos, rfl, _, _, hx⟩ := Vv h (.inr (.inr rfl))
 obtain rfl := hx rfl
 exact ⟨xp, args, kw, pos, rfl⟩
theorem ZdX {it : Expr} (h : Js fi it = .zip) : ∃ xp args kw pos, it = .Call (.Name (Str.ofString "zip") xp) args kw pos := by
 obtain ⟨x, xp, args, kw, pos, rfl, _, hx, _⟩ := Vv h (.inr (.inl rfl))
 obtain rfl := hx rfl
 exact ⟨xp, args, kw, pos, rfl⟩
theorem Za2 {kw : List Keyword} {f : Expr} {args : List Expr} {pos : Pos} (h : Zec (.Call f args kw pos) = true) : kw = [] := by
 cases kw with
 | nil => rfl
 | cons _ _ => exact xF h
theorem Za0 {it : Expr} {K : Expr → Prop} {x : Str} {t : TY} (e : ∃ xp args kw pos, it = .Call (.Name x xp) args kw pos)
  (h : chk (Wl pg fi x t = true) (chk (Zec it = true) (chk (noStar (YH it) = true) (Z3 (Uo (YH it)) K)))) :
  ∃ xp e pos, it = .Call (.Name x xp) [e] [] pos ∧ VY pg fi x t ∧ noStar [e] = true ∧ K e := by
 obtain ⟨xp, args, kw, pos, rfl⟩ := e
 have h2 := h.r
 obtain ⟨e, e1, k⟩ := Zo h2.r.r
 have e2 : args = [e] := Yw e1
 have hk : kw = [] := Za2 h2.l
 have hn := h2.r.l
 subst e2 hk
 exact ⟨xp, e, pos, rfl, J0 h.l, hn, k⟩
theorem Ze0 {it : Expr} {K : Expr × Expr → Prop} {x : Str} {t : TY} (e : ∃ xp args kw pos, it = .Call (.Name x xp) args kw pos)
  (h : chk (Wl pg fi x t = true) (chk (Zec it = true) (chk (noStar (YH it) = true) (Z3 (ZbF (YH it)) K)))) :
  ∃ xp pr pos, it = .Call (.Name x xp) [pr.1, pr.2] [] pos ∧ VY pg fi x t ∧ noStar [pr.1, pr.2] = true ∧ K pr := by
 obtain ⟨xp, args, kw, pos, rfl⟩ := e
 have h2 := h.r
 obtain ⟨pr, e1, k⟩ := Zo h2.r.r
 have e2 : args = [pr.1, pr.2] := XU e1
 have hk : kw = [] := Za2 h2.l
 have hn := h2.r.l
 subst e2 hk
 exact ⟨xp, pr, pos, rfl, J0 h.l, hn, k⟩
theorem ZfN {o : Option (AV × Led)} {K : List AV → Led → Prop} (h : ZfO o K) : ∃ vs σ₂, o = some (.lst vs, σ₂) ∧ K vs σ₂ := by
 cases o with
 | none => exact h.elim
 | some p =>
  obtain ⟨v, σ₂⟩ := p
  cases v with
  | lst vs => exact ⟨vs, σ₂, rfl, h⟩
  | _ => exact h.elim
theorem Zfo {v : AV} {K : List AV → Led → Prop} (h : Zlv v σ K) : (∃ vs, v = .tup vs ∧ K vs σ) ∨ ZfO (WN σ v) K := by
 cases v with
 | tup vs => exact .inl ⟨vs, rfl, h⟩
 | _ => exact .inr h
theorem JW {t : Expr} (h : Zb9 t = true) : ∃ es k p, t = .Tuple es k p := by
 cases t with
 | Tuple es k p => exact ⟨es, k, p, rfl⟩
 | _ => exact xF h
theorem ZeQ {u v : AV} {K : List AV → Led → Prop} (h : Zjj u v σ K) : ∃ l vs, u = .str ⟨⟨l⟩⟩ ∧ v = .tup vs ∧ V8 l = true ∧ l.length = vs.length ∧ K (UY l vs) σ := by
 cases u with
 | str s =>
  cases v with
  | tup vs =>
   obtain ⟨⟨l⟩⟩ := s
   exact ⟨l, vs, rfl, rfl, h.l, Nat.eq_of_beq_eq_true h.r.l, h.r.r⟩
  | _ => exact h.elim
 | _ => exact h.elim
theorem ZbZ {it : Expr} (h : ZfC it = true) (x : Value) : foldedSetIterable it env x = pure x := by
 cases it <;> first | rfl | exact xF h
structure ZnR (prog : Program) (w : World) (B₀ : Heap) (outs : List Env) (L : Addr) (loc : Loc) (Λ : Lay) (ρ : List Addr) (h : Heap) (K : List AV → Led → Prop) (vs : List AV) (σ₂ : Led) (Λ₂ : Lay) (a : Addr) (ws : List Value) (m : Nat) : Prop where
 k : K vs σ₂
 le : Λ.le Λ₂
 R : Rep prog w B₀ outs L loc Λ₂ σ₂ ρ h
 ea : Λ₂ a = .frz (Zn ws m)
 g : VTs prog w Λ₂ vs ws
theorem Zdm {v : AV} {x : Value} {K : List AV → Led → Prop} (h : ZfO (WN σ v) K) (R : Rep prog w B₀ outs L loc Λ σ ρ s.heap) (V : VR prog w Λ ρ v x) : ∃ vs σ₂ Λ₂ a ws m, x = .ref a ∧ ZnR prog w B₀ outs L loc Λ ρ s.heap K vs σ₂ Λ₂ a ws m := by
 obtain ⟨vs, σ₂, q, k⟩ := ZfN h
 obtain ⟨Λ₂, l₂, R₂, T₂⟩ := J7 q R V
 obtain ⟨a, ws, m, rfl, ea, g⟩ := VR.lst_ (ρ := ρ) (.inl T₂)
 exact ⟨vs, σ₂, Λ₂, a, ws, m, rfl, ⟨k, l₂, R₂, ea, g⟩⟩
theorem Za9 (Pm : Prims prog w B₀ Kf pg) (S : Snd prog w B₀ pg n) (C : Cx B₀ A env outs L fi n) (hh : A.handled = none) {t it : Expr} {X : KC} {K : List AV → Led → Prop} {Q : Value → Shared → Prop} (h : GJ pg (ev pg n) fi loc σ t it K X) (R : Rep prog w B₀ outs L loc Λ σ ρ s.heap)
  (P : ∀ vs σ' Λ' ρ' h' tk, K vs σ' → Λ.le Λ' → ρ <+: ρ' → Rep prog w B₀ outs L loc Λ' σ' ρ' h' → UG prog w A B₀ outs L loc Λ' σ' ρ' t vs { s with heap := h', toks := tk } Q) (PX : PX prog w B₀ outs L loc Λ ρ X E s) :
  (∀ x, foldedSetIterable it env x = pure x) ∧ wpAny (model prog w) A (eval it env) (fun x s₁ => wpAny (model prog w) A (pyIter x) Q E s₁) E s := by
 delta GJ at h
 generalize q : Js fi it = zz at h ⊢
 cases zz with
 | plain =>
  refine ⟨ZbZ h.l, ?_⟩
  refine S.E C h.r R (fun v σ' Λ' ρ' x h' tk k l p R' V => ?_) PX
  obtain ⟨vs, rfl, k⟩ | k := Zfo k
  ·obtain ⟨a, ws, m, rfl, ea, g⟩ := V.tup_
   exact Zf2 (s := { s with heap := h', toks := tk }) hh R' ea g (P vs σ' Λ' ρ' h' tk k l p R')
  ·obtain ⟨vs, σ₂, Λ₂, a, ws, m, rfl, F⟩ := Zdm (s := { s with heap := h', toks := tk }) k R' V
   exact GI (s := { s with heap := h', toks := tk }) hh F.R F.ea F.g (P vs σ₂ Λ₂ ρ' h' tk F.k (l.trans F.le) p F.R)
 | range =>
  obtain ⟨xp, e, pos, rfl, hg, hn, h⟩ := Za0 (ZaL q) h
  clear q
  refine ⟨fun x => rfl, ?_⟩
  refine Vm Pm S C (K := fun vs σ₁ => Z3 (Uo vs) fun v => ZbU v σ₁ K) hg (by decide +kernel) hn h R (fun vs σ' Λ' ρ' xs h' tk k l p R' V => ?_) PX
  obtain ⟨v, ev, k⟩ := Zo k
  obtain rfl := Yw ev
  obtain ⟨y, rfl, W⟩ := V.one
  obtain ⟨i, rfl⟩ := Gk (D := fun v => ZbU v σ' K) v k
  obtain ⟨u, rfl⟩ := W.int_
  exact Zb8 (s := { s with heap := h', toks := tk }) hh k.l (by have := k.m; omega) R' (P _ σ' Λ' ρ' h' tk k.r l p R')
 | enum =>
  obtain ⟨es, kk, tp, rfl⟩ := JW h.l
  replace h := h.r
  obtain ⟨xp, e, pos, rfl, hg, hn, h⟩ := Za0 (ZbL q) h
  clear q
  refine ⟨fun x => rfl, ?_⟩
  refine Vm Pm S C (K := fun vs σ₁ => Z3 (Uo vs) fun v => Zjf v σ₁ K) hg (by decide +kernel) hn h R (fun vs σ' Λ' ρ' xs h' tk k l p R' V => ?_) PX
  obtain ⟨v, ev, k⟩ := Zo k
  obtain rfl := Yw ev
  obtain ⟨y, rfl, W⟩ := V.one
  obtain ⟨vs, σ₂, Λ₂, a, ws, m, rfl, F⟩ := Zdm (s := { s with heap := h', toks := tk }) k R' W
  exact Zej (s := { s with heap := h', toks := tk }) hh F.R F.ea F.g (P _ σ₂ Λ₂ ρ' h' tk F.k (l.trans F.le) p F.R)
 | zip =>
  obtain ⟨es, kk, tp, rfl⟩ := JW h.l
  replace h := h.r
  obtain ⟨xp, pr, pos, rfl, hg, hn, h⟩ := Ze0 (ZdX q) h
  clear q
  refine ⟨fun x => rfl, ?_⟩
  refine Vm Pm S C (K := fun vs σ₁ => Z3 (ZbF vs) fun p => Zjj p.1 p.2 σ₁ K) hg (by decide +kernel) hn h R (fun vs σ' Λ' ρ' xs h' tk k l p R' V => ?_) PX
  obtain ⟨⟨u, v⟩, ev, k⟩ := Zo k
  obtain rfl := XU ev
  obtain ⟨y, z, rfl, V1, V2⟩ := V.two
  obtain ⟨cl, vs, rfl, rfl, ha, hl, k⟩ := ZeQ k
  obtain ⟨ut, rfl⟩ := V1.str_
  obtain ⟨a, ws, m, rfl, ea, g⟩ := V2.tup_
  exact Zf1 (s := { s with heap := h', toks := tk }) hh ha hl R' ea g (P _ σ' Λ' ρ' h' tk k l p R')
end
section
variable {prog : Program} {w : World} {B₀ : Heap} {Kf : Frag} {pg : Pg} {n : Nat} {A : Around} {env : Env} {outs : List Env} {L : Addr} {fi : FI} {E : Value → Shared → Prop} {loc : Loc} {σ : Led} {Λ : Lay} {ρ : List Addr} {s : Shared}
noncomputable def W2 : Expr → Bool
 | .Starred _ _ => true
 | _ => false
theorem Gh {t : Expr} (ht : W2 t = false) : (assignEach [t] env).map (·.2) = [assign t env] := by
 cases t <;> first | rfl | exact xT ht
theorem Z9 {t value : Expr} {pos : Pos} {Q : Flow → Shared → Prop} (hw : swappedStores [t] value env = pure none) (hc : Wm value = false)
  (h : wpAny (model prog w) A (eval value env) (fun v s₁ => wpAny (model prog w) A (assign t env v) (fun _ => Q .next) E s₁) E s) (ht : W2 t = false) : wpAny (model prog w) A (exec (.Assign [t] value pos) env) Q E s := by
 refine wpAny_Assign_stores ?_ (Wb hc _ _) hw
 refine wpAny_mono h (fun v s₁ h₁ => ?_) fun _ _ e => e
 rw [Gh ht]
 exact h₁
theorem J1 {e : Expr} (h : WL e = true) : ∃ p, e = .List [] p := by
 cases e with
 | List es p =>
  cases es with
  | nil => exact ⟨p, rfl⟩
  | cons _ _ => exact xF h
 | _ => exact xF h
theorem J2 {e : Expr} (h : WM e = true) : ∃ p, e = .Dict [] [] p := by
 cases e with
 | Dict ks vs p =>
  cases ks with
  | nil =>
   cases vs with
   | nil => exact ⟨p, rfl⟩
   | cons _ _ => exact xF h
  | cons _ _ => exact xF h
 | _ => exact xF h
theorem ZdS {t e : Expr} {env : Env} (h : Zc5 t = true) : (∃ ts k p, t = .Tuple ts k p) ∨ (swappedStores [t] e env = pure none ∧ W2 t = false) := by
 cases t <;> first | exact xF h | exact .inl ⟨_, _, _, rfl⟩ | exact .inr (.intro rfl rfl)
structure AsC (pg : Pg) (r : Ev) (fi : FI) (t e : Expr) (loc : Loc) (σ : Led) (K : KS) (X : KX) (x : Str) (px : Pos) (el : Expr) (gens : List Comprehension) (scope : Scope) (ep : Pos) : Prop where
 et : t = .Name x px
 ee : e = .ListComp el gens scope ep
 ok : Vq fi x px.line ep.line scope.names = true
 h : Vj pg r fi loc σ el gens scope (fun v σ₁ => XD fi x v loc fun loc₁ => K .next loc₁ σ₁) (fun x σ₁ => X x loc σ₁)
inductive AsI (pg : Pg) (r : Ev) (fi : FI) (t e : Expr) (loc : Loc) (σ : Led) (K : KS) (X : KX) : Prop
 | comp (x : Str) (px : Pos) (el : Expr) (gens : List Comprehension) (scope : Scope) (ep : Pos) (h : AsC pg r fi t e loc σ K X x px el gens scope ep)
 | lst (x : Str) (px p : Pos) (et : t = .Name x px) (ee : e = .List [] p) (h : XD fi x (.ref σ.length) loc fun loc₁ => K .next loc₁ (σ ++ [.lst []]))
 | dct (x : Str) (px p : Pos) (et : t = .Name x px) (ee : e = .Dict [] [] p) (h : XD fi x (.ref σ.length) loc fun loc₁ => K .next loc₁ (σ ++ [.dmk []]))
 | gen (hc : Wm e = false) (ht : Zc5 t = true) (hct : WQ e = false) (h : r.E fi loc σ e (fun v σ₁ => G5 r fi t v loc σ₁ (fun loc₁ σ₂ => K .next loc₁ σ₂) (fun x σ₂ => X x loc σ₂)) (fun x σ₁ => X x loc σ₁))
theorem Zbu {r : Ev} {t e : Expr} {K : KS} {X : KX} (h : Jh pg r fi t e loc σ K X) : AsI pg r fi t e loc σ K X := by
 delta Jh at h
 generalize hot : (Zc5 t && !WQ e) = zz at h
 cases zz with
 | false => exact h.elim
 | true =>
  generalize hcm : Wm e = zz at h
  cases zz with
  | true =>
   obtain ⟨x, px, rfl⟩ := Vc (D := fun t => (match t with
    | .Name x px => (match (generalizing := false) e with
     | .ListComp e gens scope ep => chk (Vq fi x px.line ep.line scope.names = true) (Vj pg r fi loc σ e gens scope (fun v σ₁ => XD fi x v loc fun loc₁ => K .next loc₁ σ₁) (fun x σ₁ => X x loc σ₁))
     | _ => False)
    | _ => False)) t h
   cases e with
   | ListComp el gens scope ep => exact .comp x px el gens scope ep ⟨rfl, rfl, h.l, h.r⟩
   | _ => exact h.elim
  | false =>
   obtain ⟨hok, hct⟩ := Bool.and_eq_true_iff.mp hot
   replace hct : WQ e = false := by simpa using hct
   dsimp only at h
   generalize hl : WL e = zz at h
   cases zz with
   | true =>
    obtain ⟨p, rfl⟩ := J1 hl
    obtain ⟨x, px, rfl⟩ := Vc (D := fun t => (match t with
     | .Name x _ => XD fi x (.ref σ.length) loc fun loc₁ => K .next loc₁ (σ ++ [.lst []])
     | _ => False)) t h
    exact .lst x px p rfl rfl h
   | false =>
    dsimp only at h
    generalize hd : WM e = zz at h
    cases zz with
    | true =>
     obtain ⟨p, rfl⟩ := J2 hd
     obtain ⟨x, px, rfl⟩ := Vc (D := fun t => (match t with
      | .Name x _ => XD fi x (.ref σ.length) loc fun loc₁ => K .next loc₁ (σ ++ [.dmk []])
      | _ => False)) t h
     exact .dct x px p rfl rfl h
    | false => exact .gen hcm hok hct h
theorem Gg {x : Str} {xp pos : Pos} {e : Expr} {ao : AO} {o : Obj} {K : KS} {Q : Flow → Shared → Prop} (C : Cx B₀ A env outs L fi (n + 1)) (hc : Wm e = false) (hw : swappedStores [.Name x xp] e env = pure none)
  (he : ∀ {R' : Value → Shared → Prop}, R' (.ref s.heap.objs.size) { s with heap := s.heap.push o } → wpAny (model prog w) A (eval e env) R' E s)
  (h : XD fi x (.ref σ.length) loc fun loc₁ => K .next loc₁ (σ ++ [ao])) (hl : ρ.length = σ.length) (R : ∃ Λ', Λ.le Λ' ∧ Rep prog w B₀ outs L loc Λ' (σ ++ [ao]) (ρ ++ [s.heap.objs.size]) (s.heap.push o)) (P : PS prog w B₀ outs L Λ ρ K Q s) :
  wpAny (model prog w) A (exec (.Assign [.Name x xp] e pos) env) Q E s := by
 obtain ⟨Λ₁, l1, R1⟩ := R
 refine Z9 hw hc ?_ rfl
 refine he ?_
 show wpAny (model prog w) A (do standAt xp; bindName env x _) _ E _
 refine wpAny_bind (wpAny_standAt (wpAny_bindName ?_))
 refine Wh (s := { s with heap := s.heap.push o }) C h R1 (.inr ⟨σ.length, _, rfl, rfl, ?_⟩) fun h' loc' k R2 => P _ loc' _ Λ₁ _ _ h' _ k l1 (List.prefix_append _ _) R2 .next
 rw [← hl]; simp
theorem Ze3 {v : AV} {D : List AV → Prop} (h : match v with | .tup vs => D vs | _ => False) : ∃ vs, v = .tup vs ∧ D vs := by
 cases v with
 | tup vs => exact ⟨vs, rfl, h⟩
 | _ => exact h.elim
theorem Zbt (Pm : YU prog w B₀ Kf pg) (S : Snd prog w B₀ pg n) (C : Cx B₀ A env outs L fi (n + 1)) {e : Expr} {ts : List Expr} {k : Nat} {p pos : Pos} {K : KS} {X : KX} {Q : Flow → Shared → Prop} {names : List Str} (hcm : Wm e = false)
  (h : (ev pg n).E fi loc σ e (fun v σ₁ => G5 (ev pg n) fi (.Tuple ts k p) v loc σ₁ (fun loc₁ σ₂ => K .next loc₁ σ₂) (fun x σ₂ => X x loc σ₂)) (fun x σ₁ => X x loc σ₁)) (R : Rep prog w B₀ outs L loc Λ σ ρ s.heap)
  (P : PS prog w B₀ outs L Λ ρ K Q s) (PX : PXS prog w B₀ outs L Λ ρ X E s) (hw : swappedStores [.Tuple ts k p] e env = pure (some names)) (hn : ts.map Wa = names.map some) : wpAny (model prog w) A (exec (.Assign [.Tuple ts k p] e pos) env) Q E s := by
 refine PyProof.Rows.Assign_Tuple_swapped (names := names) ?_ (show swapsWithSole [.Tuple ts k p] e pos.line env = pure false from Wb (env := env) hcm (some (.Tuple ts k p)) pos.line) hw
 refine S.E C.less h R (fun v σ₁ Λ₁ ρ₁ x h₁ tk₁ k₁ l₁ p₁ R₁ V₁ => ?_) PX.expr
 have hc := k₁.l
 have ha := k₁.r.l
 replace k₁ := k₁.r.r
 obtain ⟨vs, rfl, k₁⟩ := Ze3 k₁
 exact ZaH (s := { s with heap := h₁, toks := tk₁ }) C.less (C.calm hc) ha k₁ hn R₁ V₁ fun loc' h' tk kk R' => P _ loc' σ₁ Λ₁ ρ₁ _ h' tk kk l₁ p₁ R' .next
theorem ZcM (Pm : YU prog w B₀ Kf pg) (S : Snd prog w B₀ pg n) (C : Cx B₀ A env outs L fi (n + 1)) {t e : Expr} {pos : Pos} {K : KS} {X : KX} {Q : Flow → Shared → Prop} (h : Jh pg (ev pg n) fi t e loc σ K X) (R : Rep prog w B₀ outs L loc Λ σ ρ s.heap)
  (P : PS prog w B₀ outs L Λ ρ K Q s) (PX : PXS prog w B₀ outs L Λ ρ X E s)
  (HC : ∀ x px el gens scope epos, t = .Name x px → e = .ListComp el gens scope epos → Vq fi x px.line epos.line scope.names = true → Vj pg (ev pg n) fi loc σ el gens scope (fun v σ₁ => XD fi x v loc fun loc₁ => K .next loc₁ σ₁) (fun x σ₁ => X x loc σ₁) → wpAny (model prog w) A (exec (.Assign [t] e pos) env) Q E s) : wpAny (model prog w) A (exec (.Assign [t] e pos) env) Q E s := by
 cases Zbu h with
 | comp x px el gens scope ep h => exact HC x px el gens scope ep h.et h.ee h.ok h.h
 | lst x px p et ee h =>
  try clear HC
  subst et ee
  exact Gg (ao := .lst []) (o := Zn [] 0) C rfl rfl (fun k => wpAny_List (wpAny_items_nil ⟨Nat.zero_le _, k⟩)) h R.len (R.pushLed ⟨[], 0, .nil, rfl⟩ rfl) P
 | dct x px p et ee h =>
  try clear HC
  subst et ee
  exact Gg (ao := .dmk []) (o := { cls := .type "dict", data := .dict #[] }) C rfl rfl (fun k => wpAny_Dict_empty k) h R.len (R.pushLed ⟨[], #[], 0, rfl, ⟨rfl, rfl, rfl⟩, rfl, rfl, List.nodup_nil⟩ rfl) P
 | gen hcm hok hct h' =>
  try clear HC; try clear h
  have go : swappedStores [t] e env = pure none → W2 t = false → wpAny (model prog w) A (exec (.Assign [t] e pos) env) Q E s := fun hw hs => by
   refine Z9 hw hcm ?_ hs
   refine S.E C.less h' R (fun v σ₁ Λ₁ ρ₁ x h₁ tk₁ k₁ l₁ p₁ R₁ V₁ => ?_) PX.expr
   exact G4 Pm.toPrims S C.less (s := { s with heap := h₁, toks := tk₁ }) k₁ R₁ V₁ (fun loc' σ' Λ' ρ' h' tk k l p R' => P _ loc' σ' Λ' ρ' _ h' tk k (l₁.trans l) (p₁.trans p) R' .next) (PX.expr.at l₁ p₁ h₁ tk₁)
  obtain ⟨ts, k, p, rfl⟩ | hw := ZdS (env := env) (e := e) hok
  ·obtain hw | ⟨names, hw, hlen, f, hf, hfg⟩ := Gl (ts := ts) (k := k) (p := p) (env := env) hct
   ·exact go hw rfl
   ·exact Zbt Pm S C hcm h' R P PX hw (by subst hf; exact WP hfg hlen)
  ·exact go hw.1 hw.2
theorem JY {g : AV} (h : Je g = true) : g = .old 52 := by
 obtain ⟨a, rfl⟩ := Zlg (D := fun g => Je g = true) g h (by intro v q h; cases v <;> first | exact xF h | exact xT q)
 rw [Nat.eq_of_beq_eq_true h]
theorem Zd6 (Pm : YU prog w B₀ Kf pg) (S : Snd prog w B₀ pg n) (C : Cx B₀ A env outs L fi (n + 1)) {e : Expr} {pos : Pos} {X : KX} {Q : Flow → Shared → Prop} (h : Ul pg (ev pg n) fi e loc σ X) (R : Rep prog w B₀ outs L loc Λ σ ρ s.heap)
  (PX : PXS prog w B₀ outs L Λ ρ X E s) : wpAny (model prog w) A (exec (.Raise (some e) none pos) env) Q E s := by
 obtain ⟨f, args, kw, cpos, rfl⟩ := ZeI (D := fun e => Ul pg (ev pg n) fi e loc σ X) e h
 obtain rfl := Zg7 (D := fun kw => Ul pg (ev pg n) fi (.Call f args kw cpos) loc σ X) kw h
 obtain ⟨x, xp, rfl⟩ := Vc (D := fun f => Ul pg (ev pg n) fi (.Call f args [] cpos) loc σ X) f h
 delta Ul at h
 ···have hc := h.l
    replace h := h.r
    have hn := h.l
    replace h := h.r
    have hh := C.calm hc
    rw [arm_exec_Raise]
    refine wpAny_bind (wpAny_standAt ?_)
    have split : raiseStmt env (some (do let v ← eval (.Call (.Name x xp) args [] cpos) env; standAt pos; pure v)) none =
      ((do let v ← eval (.Call (.Name x xp) args [] cpos) env; standAt pos; pure v) >>= fun v => raiseStmt env (some (pure v)) none) := by
     unfold raiseStmt
     simp only [pure_bind]
    show wpAny (model prog w) A (raiseStmt env (some (do let v ← eval (.Call (.Name x xp) args [] cpos) env; standAt pos; pure v)) none) Q E s
    rw [split]
    refine wpAny_bind ?_
    refine wpAny_bind ?_
    show wpAny (model prog w) A (do callWith cpos (← eval (.Name x xp) env) [] (backTo cpos (starEach args env)) (backToKw cpos (keywordEach [] env))) _ E s
    refine wpAny_bind ?_
    refine VS C Pm.G h R (fun g σ₀ Λ₀ ρ₀ y h₀ tk₀ k₀ l₀ p₀ R₀ V₀ => ?_)
    have hg := k₀.l
    have k := k₀.r
    try clear k₀; try clear y; try clear ρ₀; try clear Λ₀; try clear σ₀; try clear g; try clear v; try clear split; try clear h; try clear hc; try clear f; try clear xp; try clear x; try clear kw; try clear cpos; try clear args; try clear D; try clear R; try clear Q; try clear X; try clear pos
    obtain rfl := JY hg
    obtain rfl := V₀.old_
    refine Wz Pm.toPrims hn (.inr (.inr Pm.excKeep)) ?_
    refine XA S C.less (s := { s with heap := h₀, toks := tk₀ }) hn k R₀ (fun vs σ₂ Λ₂ ρ₂ xs h₂ tk₂ k₂ l₂ p₂ R₂ V₂ => ⟨R₂.toRep0.keep, ?_⟩) (PX.expr.at l₀ p₀ h₀ tk₀)
    rw [List.nil_append]
    refine Pm.mkExc (s := { s with heap := h₂, toks := tk₂ }) C hh k₂ R₂ V₂ fun a e Λ₃ h₃ tk₃ kx l₃ R₃ H => ?_
    refine wpAny_bind (wpAny_standAt (wpAny_pure ?_))
    refine Pm.raiseTail (s := { s with heap := h₃, toks := tk₃ }) hh R₃.toRep0.keep H fun tk₄ => ?_
    exact PX ⟨a⟩ loc σ₂ Λ₃ ρ₂ e h₃ tk₄ kx ((l₀.trans l₂).trans l₃) (p₀.trans p₂) R₃ H.exc
end
structure ZZ (prog : Program) (w : World) (B₀ : Heap) (a : Nat) (f : Yv) : Prop where
 ex : ∃ o fd, B₀.get? a = some o ∧ o.data = .func fd ∧ fd.body = .stmts f.body ∧ fd.scope.names = f.names ∧ fd.scope.kind = .function ∧ fd.scope.isCoroutine = false ∧ fd.scope.isGenerator = false ∧
  (∀ x ∈ fd.scope.names, x.2 ≠ .cell) ∧ fd.globals = mainGlobals ∧ fd.builtins = builtinsNs ∧ B₀.CodeRec fd.code fd.qualname ∧
  ∀ args loc xs, f.bind args = some loc → xs.length = args.length → ∃ binds, (∀ s : Shared, B₀.StaysIn s.heap → BindsTo s fd ⟨xs, []⟩ binds) ∧ (∀ y ∈ binds, fd.scope.names.lookup y.1 = some .local) ∧
   ∀ Λ ρ, (∀ a o, B₀.get? a = some o → Λ a = .frz o) → VRs prog w Λ ρ args xs → Yp prog w Λ ρ loc (fun y => binds.reverse.lookup y)
section
variable {prog : Program} {w : World} {B₀ : Heap} {outs : List Env} {L : Addr} {loc : Loc} {Λ : Lay} {σ : List AO} {ρ : List Addr} {h h' : Heap} {env : Env}
theorem Zbp {b : Bool} {e : Env} (h : e ∈ Y6 b env outs) : (b = false ∧ e = env) ∨ e ∈ outs := by
 cases b with
 | true => exact .inr h
 | false =>
  obtain rfl | h := List.mem_cons.mp h
  ·exact .inl ⟨rfl, rfl⟩
  ·exact .inr h
theorem Zao {b : Bool} {e : Env} (h : e ∈ outs) : e ∈ Y6 b env outs := by
 cases b with
 | true => exact h
 | false => exact .tail _ h
theorem Rep.enterCall (R : Rep prog w B₀ outs L loc Λ σ ρ h) {b : Bool} (hk : env.scope.kind ≠ .module) (hf : b = false → env.frame = some L) {L' : Addr} (hL' : h.get? L' = none) (hb : B₀.objs.size ≤ L') (s : ∀ b o, h.get? b = some o → h'.get? b = some o) {m : Str → Option Value} {loc' : Loc}
  (hn : h'.Ns L' m) (hl : ∀ Λ', Z2 Λ Λ' → (∀ a o, B₀.get? a = some o → Λ' a = .frz o) → Yp prog w Λ' ρ loc' m) : ∃ Λ₁ oL, Rep prog w B₀ (Y6 b env outs) L' loc' Λ₁ σ ρ h' ∧ Z2 Λ Λ₁ ∧ h.get? L = some oL ∧ Λ₁ L = .frm oL ∧ Λ₁ L' = .cur ∧ L ≠ L' ∧
   (Λ L' = .free ∨ ∃ k, Λ L' = .led k) ∧ (∀ b, b ≠ L → b ≠ L' → Λ₁ b = Λ b) := by
 obtain ⟨m₀, ns₀, l₀⟩ := R.ns
 obtain ⟨oL, es, ep, hoL, hdL, hr⟩ := ns₀
 have hne : L ≠ L' := fun q => by rw [← q, hoL] at hL'; exact xS hL'
 have fr := R.toRep0.free hL'
 have hst : ∀ b, b ≠ L → b ≠ L' → ((Λ.up L (.frm oL)).up L' .cur) b = Λ b := fun b h1 h2 => by rw [Lay.up_ne _ _ h2, Lay.up_ne _ _ h1]
 have tL : ((Λ.up L (.frm oL)).up L' .cur) L = .frm oL := by rw [Lay.up_ne _ _ hne, Lay.up_self]
 have sees : Z2 Λ ((Λ.up L (.frm oL)).up L' .cur) := by
  have key : ∀ b t, Λ b = t → t ≠ .cur → t ≠ .free → (∀ k, t ≠ .led k) → ((Λ.up L (.frm oL)).up L' .cur) b = t := fun b t e n1 n2 n3 => by
   have b1 : b ≠ L := fun q => n1 (by rw [← e, q, R.cur])
   have b2 : b ≠ L' := fun q => by
    obtain z | ⟨k, z⟩ := fr
    ·exact n2 (by rw [← e, q, z])
    ·exact n3 k (by rw [← e, q, z])
   rw [hst b b1 b2]; exact e
  exact ⟨fun b o e => key b _ e nofun nofun nofun, fun b e => key b _ e nofun nofun nofun⟩
 have b0' : ∀ a o, B₀.get? a = some o → ((Λ.up L (.frm oL)).up L' .cur) a = .frz o := fun a o e => sees.frz _ _ (R.b0 a o e)
 refine ⟨(Λ.up L (.frm oL)).up L' .cur, oL, ?_, sees, hoL, tL, Lay.up_self .., hne, fr, hst⟩
 refine { toRep0 := ⟨b0', fun b => ?_, R.len, fun k ao e => ?_, R.z0, R.sm⟩, cur := Lay.up_self .., ns := ⟨m, hn, hl _ sees b0'⟩, lA := hb, out := fun e he => ?_ }
 ·by_cases q : b = L'
  ·subst q; rw [Lay.up_self]; obtain ⟨o, _, _, ho, _⟩ := hn; exact ⟨o, ho⟩
  ·by_cases q2 : b = L
   ·subst q2; rw [tL]; exact ⟨oL.slots, s _ _ hoL⟩
   ·rw [hst b q2 q]
    exact (R.tag b).grow (fun o => s b o) fun c z => by
     have c1 : c ≠ L := fun y => by rw [y, R.cur] at z; (exfalso; cases z)
     have c2 : c ≠ L' := fun y => by
      obtain z' | ⟨k, z'⟩ := fr <;> (rw [y, z'] at z; (exfalso; cases z))
     rw [hst c c1 c2]; exact z
 ·have H := R.led k ao e
  cases ao with
  | ali v => obtain ⟨a, h1, h2⟩ := H; exact ⟨a, h1, h2.mono sees⟩
  | dead => trivial
  | _ =>
   obtain ⟨a, o, h1, h2, h3, h4⟩ := H
   refine ⟨a, o, h1, ?_, s _ _ h3, h4.mono sees⟩
   have a1 : a ≠ L := fun y => by rw [y, R.cur] at h2; (exfalso; cases h2)
   have a2 : a ≠ L' := fun y => by rw [y, hL'] at h3; exact xN h3
   rw [hst a a1 a2]; exact h2
 ·obtain ⟨eb, rfl⟩ | he := Zbp he
  ·exact ⟨hk, L, oL, hf eb, tL, fun vs q => by rw [hdL] at q; (exfalso; cases q)⟩
  ·obtain ⟨k, L₂, o, e1, e2, e3⟩ := R.out e he
   refine ⟨k, L₂, o, e1, ?_, e3⟩
   have a1 : L₂ ≠ L := fun y => by rw [y, R.cur] at e2; (exfalso; cases e2)
   have a2 : L₂ ≠ L' := fun y => by
    obtain z' | ⟨k, z'⟩ := fr <;> (rw [y, z'] at e2; (exfalso; cases e2))
   rw [hst L₂ a1 a2]; exact e2
theorem Rep.exitCall (R : Rep prog w B₀ outs L loc Λ σ ρ h) {L' : Addr} {oL : Obj} {Λ₁ Λ₂ : Lay} {loc' : Loc} {σ₂ : List AO} {ρ₂ : List Addr} {h₂ : Heap} {b : Bool} (hoL : h.get? L = some oL) (sees : Z2 Λ Λ₁) (tL : Λ₁ L = .frm oL) (tL' : Λ₁ L' = .cur) (hne : L ≠ L')
  (fr : Λ L' = .free ∨ ∃ k, Λ L' = .led k) (hst : ∀ b, b ≠ L → b ≠ L' → Λ₁ b = Λ b) (l : Λ₁.le Λ₂) (p : ρ <+: ρ₂) (R₂ : Rep prog w B₀ (Y6 b env outs) L' loc' Λ₂ σ₂ ρ₂ h₂) :
  ∃ Λ₃, Λ.le Λ₃ ∧ Z2 Λ₂ Λ₃ ∧ Rep prog w B₀ outs L loc Λ₃ σ₂ ρ₂ h₂ ∧ (∀ b, Λ₂ b = .free → Λ₃ b = .free) := by
 have uL : Λ₂ L = .frm oL := l.frm tL
 have uL' : Λ₂ L' = .cur := R₂.cur
 have ust : ∀ b, b ≠ L → b ≠ L' → ((Λ₂.up L .cur).up L' .free) b = Λ₂ b := fun b h1 h2 => by rw [Lay.up_ne _ _ h2, Lay.up_ne _ _ h1]
 have u3L : ((Λ₂.up L .cur).up L' .free) L = .cur := by rw [Lay.up_ne _ _ hne, Lay.up_self]
 have key : ∀ b t, Λ₂ b = t → t ≠ .cur → (∀ o, t ≠ .frm o) → ((Λ₂.up L .cur).up L' .free) b = t := fun b t e n1 n2 => by
  have b1 : b ≠ L := fun q => n2 oL (by rw [← e, q, uL])
  have b2 : b ≠ L' := fun q => n1 (by rw [← e, q, uL'])
  rw [ust b b1 b2]; exact e
 have sees₂ : Z2 Λ₂ ((Λ₂.up L .cur).up L' .free) := ⟨fun b o e => key b (.frz o) e (by intro q; (exfalso; cases q)) (by intro o q; (exfalso; cases q)), fun b e => key b .pen e (by intro q; (exfalso; cases q)) (by intro o q; (exfalso; cases q))⟩
 have seesA : Z2 Λ ((Λ₂.up L .cur).up L' .free) := ⟨fun b o e => sees₂.frz _ _ (l.frz (sees.frz _ _ e)), fun b e => sees₂.pen _ (l.pen (sees.pen _ e))⟩
 refine ⟨(Λ₂.up L .cur).up L' .free, fun b => ?_, sees₂, ?_, fun b e => ?_⟩
 ·by_cases q : b = L'
  ·subst q; exact .inr fr
  ·by_cases q2 : b = L
   ·subst q2; left; rw [u3L, R.cur]
   ·rw [ust b q2 q]
    obtain z | z | ⟨k, z⟩ := l b
    ·left; rw [z, hst b q2 q]
    ·right; left; rw [← hst b q2 q]; exact z
    ·right; right; exact ⟨k, by rw [← hst b q2 q]; exact z⟩
 ·refine { toRep0 := ⟨fun b o e => sees₂.frz _ _ (R₂.b0 b o e), fun b => ?_, R₂.len, fun k ao e => ?_, R₂.z0, R₂.sm⟩, cur := u3L, ns := ?_, lA := R.lA, out := fun e he => ?_ }
  ·by_cases q : b = L'
   ·subst q; rw [Lay.up_self]; trivial
   ·by_cases q2 : b = L
    ·subst q2
     rw [u3L]
     have T := R₂.tag b
     rw [uL] at T
     obtain ⟨sl, T⟩ := T
     exact ⟨_, T⟩
    ·rw [ust b q2 q]
     exact (R₂.tag b).grow (fun o e => e) fun c z => key c .penq z (by intro q; (exfalso; cases q)) (by intro o q; (exfalso; cases q))
  ·refine (R₂.led k ao e).up sees₂ (List.prefix_refl _) fun a z => key a (.led k) z (by intro q; (exfalso; cases q)) (by intro o q; (exfalso; cases q))
  ·obtain ⟨k, L₂, o, e1, e2, e3⟩ := R₂.out e (Zao he)
   obtain ⟨_, L₃, o', e1', e2', _⟩ := R.out e he
   have eq : L₃ = L₂ := by rw [e1'] at e1; exact Option.some.inj e1
   subst eq
   have n1 : L₃ ≠ L := fun y => by rw [y, R.cur] at e2'; (exfalso; cases e2')
   have n2 : L₃ ≠ L' := fun y => by rw [y, uL'] at e2; (exfalso; cases e2)
   exact ⟨k, L₃, o, e1, by rw [ust L₃ n1 n2]; exact e2, e3⟩
  ·obtain ⟨m₀, ⟨o, es, ep, ho, hd, hr⟩, l₀⟩ := R.ns
   rw [hoL] at ho; (replace ho := xI ho; cases ho)
   have T := R₂.tag L
   rw [uL] at T
   obtain ⟨sl, T⟩ := T
   exact ⟨m₀, ⟨_, es, ep, T, hd, hr⟩, l₀.mono seesA p⟩
 ·exact key b .free e (by intro q; (exfalso; cases q)) (by intro o q; (exfalso; cases q))
theorem ZeV : VR prog w Λ ρ .none .none := .inl .none
theorem Znb {pg : Pg} {n : Nat} {A : Around} {fi : FI} {E : Value → Shared → Prop} {s : Shared} (Fn : ∀ a f, pg.fn a = some f → ZZ prog w B₀ a f) (hlim : B₀.NoLimit) (S : Snd prog w B₀ pg n) (C : Cx B₀ A env outs L fi (n + 1)) {a : Nat} {args : List AV} {xs : List Value} {K : KE} {X : KC} {Q : Value → Shared → Prop}
  (hc : ZaJ pg (ev pg n) fi.calm a args σ K X) (R : Rep prog w B₀ outs L loc Λ σ ρ s.heap) (V : VRs prog w Λ ρ args xs) (P : PE prog w B₀ outs L loc Λ ρ K Q s) (PX : PX prog w B₀ outs L loc Λ ρ X E s) : wpAny (model prog w) A (call (.ref a) xs) Q E s := by
 delta ZaJ at hc
 obtain ⟨f, hf, hc⟩ := Zo hc
 obtain ⟨loc', hb, hc⟩ := Zo hc
 obtain ⟨o, fd, ho, hd, hbody, hnames, hkind, hco, hgen, hcell, hgl, hbi, hcode, hbind⟩ := (Fn a f hf).ex
 obtain ⟨binds, hB, hloc, hLoc⟩ := hbind args loc' xs hb V.length
 have hkm : env.scope.kind ≠ .module := by rw [C.kind]; exact nofun
 have st := R.toRep0.keep
 refine wpAny_call (codeAny_call_def (fd := fd) (body := f.body) (binds := binds) ?_ (st a o ho) hd (hlim.keeps st) (hcode.keeps st) hbody (hB s st) hcell hloc (fun h₀ hns hkeep => ?_) hco hgen hkind)
 ·exact Nat.lt_of_le_of_lt (Nat.le_trans (Nat.le_add_right _ _) C.depth) (by decide)
 ·obtain ⟨Λ₁, oL, R₁, sees, hoL, tL, tL', hne, fr, hst⟩ := R.enterCall (b := fi.comp) hkm C.frame (L' := s.heap.objs.size) R.none0 R.toRep0.size hkeep hns (fun Λ' ss bb => hLoc Λ' ρ bb (V.mono ss (List.prefix_refl _)))
  have hC' : Cx B₀ (A.deeper (callEnv fd s.heap.objs.size a)) (callEnv fd s.heap.objs.size a) (Y6 fi.comp env outs) s.heap.objs.size ⟨f.names, fi.calm, false, []⟩ n := by
   refine ⟨by rw [Around.frames_deeper C.frames]; rfl, fun _ => rfl, fun x c q => by (exact xN q), rfl, hkind, hnames, fun q => C.calm q, hgl, hbi, ?_, ?_⟩
   ·show A.depth + 1 + n ≤ 990
    rw [Nat.add_assoc, Nat.add_comm 1 n]; exact C.depth
   ·show A.units + 3 + 8 * n ≤ 9800
    rw [Nat.add_assoc]; exact Nat.le_trans (Nat.add_le_add_left (by rw [Nat.mul_succ, Nat.add_comm 3]; exact Nat.add_le_add_left (by decide) _) _) C.units
  refine S.Ss hC' (s := { s with heap := h₀, toks := s.toks + binds.length }) hc R₁ (fun fl loc₂ σ₂ Λ₂ ρ₂ flv h₂ tk₂ k₂ l₂ p₂ R₂ hfl => ?_) (fun x loc₂ σ₂ Λ₂ ρ₂ e h₂ tk₂ k₂ l₂ p₂ R₂ H₂ => ?_)
  ·obtain ⟨Λ₃, l₃, s₃, R₃, _⟩ := R.exitCall hoL sees tL tL' hne fr hst l₂ p₂ R₂
   cases hfl with
   | next => exact P _ σ₂ Λ₃ ρ₂ _ h₂ tk₂ k₂ l₃ p₂ R₃ ZeV
   | ret V₂ => exact P _ σ₂ Λ₃ ρ₂ _ h₂ tk₂ k₂ l₃ p₂ R₃ (V₂.mono s₃ (List.prefix_refl _))
  ·refine Za7 (s := { s with heap := h₂, toks := tk₂ }) (L' := L) hC'.frames (by rw [show (callEnv fd s.heap.objs.size a).scope.kind = fd.scope.kind from rfl, hkind]; exact nofun) (hC'.frame rfl) R₂ H₂ fun Λ₃ h₃ l₃ R₃ H₃ => ?_
   obtain ⟨Λ₄, l₄, s₄, R₄, f₄⟩ := R.exitCall hoL sees tL tL' hne fr hst (l₂.trans l₃) p₂ R₃
   refine PX x σ₂ Λ₄ ρ₂ e h₃ tk₂ k₂ l₄ p₂ R₄ ?_
   obtain ⟨oe, vs, a1, a2, a3, a4, ⟨d, od, kvs, v, b1, b2, b3, b4, b5, b6⟩, a6⟩ := H₃
   refine ⟨oe, vs, a1, f₄ _ a2, a3, a4, ⟨d, od, kvs, v, b1, b2, s₄.frz _ _ b3, b4, b5, b6.mono s₄⟩, ?_⟩
   obtain c | ⟨T, oT, ts, fl, c1, c2, c3⟩ := a6
   ·exact .inl c
   ·exact .inr ⟨T, oT, ts, fl, c1, f₄ _ c2, c3⟩
end
section
variable {prog : Program} {w : World} {B₀ : Heap} {outs : List Env} {L : Addr} {loc : Loc} {Λ : Lay} {σ : List AO} {ρ : List Addr} {h h' : Heap} {env : Env}
theorem V6 {A : Around} {elt target iter : Expr} {scope : Scope} {pos : Pos} {it acc : Value} {env : Env} {R : Result → Shared → Prop} {s : Shared} (I : Nat → Shared → Prop)
  (turn : ∀ n s, I n s → wpAny (model prog w) A (pyNext it) (fun r s₁ => match r with
   | none => R (.ok .next) s₁
   | some v => wpAny (model prog w) A (letOwnedTupleGo target it v) (fun _ s₁' => wpAny (model prog w) A (assign target env v) (fun _ s₂ => wpAny (model prog w) A (eval elt env) (fun x s₃ =>
     wpAny (model prog w) A (call (.builtin "list.append") [acc, x]) (fun _ s₄ => ∃ m, m < n ∧ I m s₄) (notedBy (model prog w) A env fun e s' => R (.error e) s') s₃)
     (notedBy (model prog w) A env fun e s' => R (.error e) s') s₂) (notedBy (model prog w) A env fun e s' => R (.error e) s') s₁') (notedBy (model prog w) A env fun e s' => R (.error e) s') s₁) (notedBy (model prog w) A env fun e s' => R (.error e) s') s)
  (n : Nat) (h : I n s) :
  codeAny (model prog w) A (.compLoop (.ListComp elt [⟨target, iter, [], 0⟩] scope pos) 0 it acc env) R s := by
 refine codeAny_loop rfl I (fun n s hI => ?_) n h
 show wpAny _ _ ((compTurn (.ListComp elt [⟨target, iter, [], 0⟩] scope pos) 0 it acc env).onRaise (fun x => do noteFrame x env; theTreesLotGoes x)) _ _ s
 refine wpAny_noted ?_
 rw [compTurn_list1]
 refine wpAny_bind (wpAny_standAt (wpAny_bind (wpAny_mono (turn n s hI) (fun r s₁ h₁ => ?_) fun _ _ h' => h')))
 cases r with
 | none => exact wpAny_pure h₁
 | some v =>
  refine wpAny_bind (wpAny_mono h₁ (fun _ s₁' h₁ => ?_) fun _ _ h' => h')
  exact wpAny_bind (wpAny_mono h₁ (fun _ s₂ h₂ => wpAny_bind (wpAny_bind (wpAny_mono h₂ (fun x s₃ h₃ => wpAny_bind (wpAny_mono h₃
   (fun _ s₄ h₄ => wpAny_pure (wpAny_pure ⟨rfl, h₄⟩)) fun _ _ h' => h')) fun _ _ h' => h'))) fun _ _ h' => h')
theorem WS {env : Env} {cells : List (Str × Nat)} (hc : ∀ x c, Ze x cells = some c → env.cells.lookup x = some c) : ∀ {names : List (Str × NameKind)} {acc cs : List (Str × Nat)}, WT cells names acc = some cs →
  (forIn names acc (fun (x : Str × NameKind) (cs : List (Str × Addr)) => (match x with
   | (name, kind) => if (kind == NameKind.free) = true then do let a ← cellOf env name; pure (ForInStep.yield ((name, a) :: cs)) else pure (ForInStep.yield cs) : Sem (ForInStep (List (Str × Addr)))))) = (pure cs : Sem (List (Str × Addr)))
 | [], acc, cs, e => by (replace e := xI e; cases e); rfl
 | (nm, k) :: l, acc, cs, e => by
  rw [List.forIn_cons]
  change (match Zcb k with | true => (match Ze nm cells with | some c => WT cells l ((nm, c) :: acc) | none => none) | false => WT cells l acc) = some cs at e
  generalize q : Zcb k = zz at *
  cases zz with
  | true =>
   dsimp only [q] at e
   have hk : k = .free := by cases k <;> first | rfl | exact xF q
   subst hk
   generalize q2 : Ze nm cells = zz at e ⊢
   cases zz with
   | none => exact xN e
   | some c =>
    simp only at e
    have := hc _ _ q2
    simp only [beq_self_eq_true, if_true, cellOf, this, pure_bind]
    exact WS hc e
  | false =>
   dsimp only [q] at e
   have hk : (k == NameKind.free) = false := by cases k <;> first | rfl | exact xT q
   simp only [hk, Bool.false_eq_true, if_false, pure_bind]
   exact WS hc e
theorem Gd {env : Env} {scope : Scope} {cells cs : List (Str × Nat)} (hc : ∀ x c, Ze x cells = some c → env.cells.lookup x = some c) (e : WT cells scope.names [] = some cs) : closureFor scope env = pure cs := by
 have := WS hc e
 exact (congrArg (fun m => m >>= pure) this).trans (by simp)
theorem ZaX {env : Env} {names : List (Str × NameKind)} (hk : env.scope.kind = .function) (hn : ∀ x, env.kindOf x = Ze x names) : ∀ l : List (Str × NameKind), (l.map fun (n, k) => if (k == NameKind.free && env.scope.kind == .function && env.kindOf n == some .cell) then (n, NameKind.cell) else (n, k)) = Zfx names l
 | [] => rfl
 | (x, k) :: l => by
  rw [List.map_cons, ZaX hk hn l]
  congr 1
  simp only [hk, hn]
  cases k with
  | free =>
   generalize Ze x names = zz at *
   cases zz with
   | none => rfl
   | some j => cases j <;> rfl
  | _ => rfl
theorem Xm {all : List (Str × NameKind)} : ∀ {l : List (Str × NameKind)}, YC all l = true → ∀ y ∈ l, y.2 ≠ .cell ∧ (y.2 = .local → all.lookup y.1 = some .local)
 | [], _, y, hy => by (exfalso; cases hy)
 | p :: l, e, y, hy => by
  change (match Wn p.2 with | true => false | false => (match Ys p.2 with | true => (match Ze p.1 all with | some k => (match Ys k with | true => YC all l | false => false) | none => false) | false => YC all l)) = true at e
  generalize q : Wn p.2 = zz at e ⊢
  cases zz with
  | true => exact xF e
  | false =>
   simp only at e
   have nc : p.2 ≠ .cell := fun z => by rw [z] at q; exact xT q
   generalize q2 : Ys p.2 = zz at e ⊢
   cases zz with
   | true =>
    simp only at e
    generalize q3 : Ze p.1 all = zz at e ⊢
    cases zz with
    | none => exact xF e
    | some k =>
     simp only at e
     generalize q4 : Ys k = zz at e ⊢
     cases zz with
     | false => exact xF e
     | true =>
      have hk : k = .local := by cases k <;> first | rfl | exact xF q4
      subst hk
      obtain rfl | hy := List.mem_cons.mp hy
      ·exact ⟨nc, fun _ => by rw [← Ye]; exact q3⟩
      ·exact Xm e y hy
   | false =>
    obtain rfl | hy := List.mem_cons.mp hy
    ·exact ⟨nc, fun z => by rw [z] at q2; exact xT q2⟩
    ·exact Xm e y hy
theorem Wr {cells : List (Str × Nat)} {x : Str} {a : AV} : ∀ {l : List (Str × Nat)}, (Y2 loc l).lookup x = some a → Ww a = true ∧ loc.lookup x = some a
 | [], e => by exact xN e
 | p :: l, e => by
  change List.lookup x (match Ze p.1 loc with | some v => (match Ww v with | true => (p.1, v) :: Y2 loc l | false => Y2 loc l) | none => Y2 loc l) = _ at e
  generalize q : Ze p.1 loc = zz at e ⊢
  cases zz with
  | none => exact Wr (cells := cells) e
  | some v =>
   dsimp only at e
   generalize q2 : Ww v = zz at e ⊢
   cases zz with
   | false => exact Wr (cells := cells) e
   | true =>
    dsimp only [List.lookup_cons] at e
    cases q3 : x == p.1 with
    | false => rw [q3] at e; exact Wr (cells := cells) e
    | true =>
     rw [q3] at e
     (replace e := xI e; cases e)
     have : x = p.1 := eq_of_beq q3
     subst this
     exact ⟨q2, by rw [← Ye]; exact q⟩
theorem Zbo {m m' : Str → Option Value} {cells : List (Str × Nat)} (l : Yp prog w Λ ρ loc m) : Yp prog w Λ ρ (Y2 loc cells) m' := fun x => by
 generalize e : (Y2 loc cells).lookup x = zz at *
 cases zz with
 | none => trivial
 | some a =>
  obtain ⟨h1, h2⟩ := Wr (cells := cells) e
  cases a with
  | cel c u =>
   obtain ⟨o, y, g⟩ := l.cel h2
   exact .inr ⟨c, u, o, y, rfl, g⟩
  | _ => exact xF h1
theorem Rep.exitComp {Λ₀ Λ' Λc Λ₂ : Lay} (R : Rep prog w B₀ outs L loc Λ' σ ρ h) {L' : Addr} {oL : Obj} {loc' : Loc} {σ₂ : List AO} {ρ₂ : List Addr} {h₂ : Heap} (hoL : h.get? L = some oL) (l0 : Λ₀.le Λ') (fr : Lax Λ₀ L') (cur0 : Λ₀ L = .cur) (sees : Z2 Λ' Λc)
  (hne : L ≠ L') (lb : ((Λ₀.up L (.frm oL)).up L' .cur).le Λ₂) (s2 : Z2 Λc Λ₂) (p : ρ <+: ρ₂) (R₂ : Rep prog w B₀ (env :: outs) L' loc' Λ₂ σ₂ ρ₂ h₂) :
  ∃ Λ₃, Λ₀.le Λ₃ ∧ Z2 Λ₂ Λ₃ ∧ Rep prog w B₀ outs L loc Λ₃ σ₂ ρ₂ h₂ ∧ Λ₃ L' = .free := by
 have tL : ((Λ₀.up L (.frm oL)).up L' .cur) L = .frm oL := by rw [Lay.up_ne _ _ hne, Lay.up_self]
 have uL : Λ₂ L = .frm oL := lb.frm tL
 have uL' : Λ₂ L' = .cur := R₂.cur
 have ust : ∀ b, b ≠ L → b ≠ L' → ((Λ₂.up L .cur).up L' .free) b = Λ₂ b := fun b h1 h2 => by rw [Lay.up_ne _ _ h2, Lay.up_ne _ _ h1]
 have u3L : ((Λ₂.up L .cur).up L' .free) L = .cur := by rw [Lay.up_ne _ _ hne, Lay.up_self]
 have key : ∀ b t, Λ₂ b = t → t ≠ .cur → (∀ o, t ≠ .frm o) → ((Λ₂.up L .cur).up L' .free) b = t := fun b t e n1 n2 => by
  have b1 : b ≠ L := fun q => n2 oL (by rw [← e, q, uL])
  have b2 : b ≠ L' := fun q => n1 (by rw [← e, q, uL'])
  rw [ust b b1 b2]; exact e
 have sees₂ : Z2 Λ₂ ((Λ₂.up L .cur).up L' .free) := ⟨fun b o e => key b (.frz o) e (by intro q; (exfalso; cases q)) (by intro o q; (exfalso; cases q)), fun b e => key b .pen e (by intro q; (exfalso; cases q)) (by intro o q; (exfalso; cases q))⟩
 have seesA : Z2 Λ' ((Λ₂.up L .cur).up L' .free) := (sees.trans s2).trans sees₂
 refine ⟨(Λ₂.up L .cur).up L' .free, fun b => ?_, sees₂, ?_, Lay.up_self ..⟩
 ·by_cases q : b = L'
  ·subst q; exact .inr fr
  ·by_cases q2 : b = L
   ·subst q2; left; rw [u3L, cur0]
   ·rw [ust b q2 q]
    have hst : ((Λ₀.up L (.frm oL)).up L' .cur) b = Λ₀ b := by rw [Lay.up_ne _ _ q, Lay.up_ne _ _ q2]
    obtain z | z | ⟨k, z⟩ := lb b
    ·left; rw [z, hst]
    ·right; left; rw [← hst]; exact z
    ·right; right; exact ⟨k, by rw [← hst]; exact z⟩
 ·refine { toRep0 := ⟨fun b o e => sees₂.frz _ _ (R₂.b0 b o e), fun b => ?_, R₂.len, fun k ao e => ?_, R₂.z0, R₂.sm⟩, cur := u3L, ns := ?_, lA := R.lA, out := fun e he => ?_ }
  ·by_cases q : b = L'
   ·subst q; rw [Lay.up_self]; trivial
   ·by_cases q2 : b = L
    ·subst q2
     rw [u3L]
     have T := R₂.tag b
     rw [uL] at T
     obtain ⟨sl, T⟩ := T
     exact ⟨_, T⟩
    ·rw [ust b q2 q]
     exact (R₂.tag b).grow (fun o e => e) fun c z => key c .penq z (by intro q; (exfalso; cases q)) (by intro o q; (exfalso; cases q))
  ·refine (R₂.led k ao e).up sees₂ (List.prefix_refl _) fun a z => key a (.led k) z (by intro q; (exfalso; cases q)) (by intro o q; (exfalso; cases q))
  ·obtain ⟨k, L₂, o, e1, e2, e3⟩ := R₂.out e (.tail _ he)
   obtain ⟨_, L₃, o', e1', e2', _⟩ := R.out e he
   have eq : L₃ = L₂ := by rw [e1'] at e1; exact Option.some.inj e1
   subst eq
   have n1 : L₃ ≠ L := fun y => by rw [y, R.cur] at e2'; (exfalso; cases e2')
   have n2 : L₃ ≠ L' := fun y => by rw [y, uL'] at e2; (exfalso; cases e2)
   exact ⟨k, L₃, o, e1, by rw [ust L₃ n1 n2]; exact e2, e3⟩
  ·obtain ⟨m₀, ⟨o, es, ep, ho, hd, hr⟩, l₀⟩ := R.ns
   rw [hoL] at ho; (replace ho := xI ho; cases ho)
   have T := R₂.tag L
   rw [uL] at T
   obtain ⟨sl, T⟩ := T
   exact ⟨m₀, ⟨_, es, ep, T, hd, hr⟩, l₀.mono seesA p⟩
end
section
variable {prog : Program} {w : World} {B₀ : Heap} {Kf : Frag} {pg : Pg} {n : Nat} {A : Around} {env : Env} {outs : List Env} {L : Addr} {fi : FI} {E : Value → Shared → Prop} {loc : Loc} {σ : Led} {Λ : Lay} {ρ : List Addr} {s : Shared}
theorem Cx.comp (C : Cx B₀ A env outs L fi n) (hcp : fi.comp = false) {scope : Scope} {cs : List (Str × Nat)} {C' : Addr} (hk : scope.kind = .function) (hcs : WT fi.cells scope.names [] = some cs) :
  Cx B₀ A (compEnvC scope cs C' env) (env :: outs) C' (Gc fi scope.names cs) n where
 frames := by have := C.frames; rw [hcp] at this; exact this
 frame := fun q => by exact xT q
 cells := fun x c e => by rw [Ye] at e; exact e
 locals := rfl
 kind := hk
 names := ZaX C.kind C.kindOf scope.names
 calm := C.calm
 globals := C.globals
 builtins := C.builtins
 depth := C.depth
 units := C.units
inductive Zg5 (prog : Program) (w : World) (B₀ : Heap) (pg : Pg) (n : Nat) (outs' : List Env) (C' : Addr) (fc : FI) (t elt : Expr) (k : Nat) (St : List AV → Lay → Prop) (K : Led → Prop) (Λb Λ : Lay) (ρ₀ : List Addr) (s₀ : Shared) (m : Nat) (s' : Shared) : Prop
 | mk (vs : List AV) (loc : Loc) (σ : Led) (Λ' : Lay) (ρ : List Addr) (h : Heap) (tk : Nat) (e : s' = { s₀ with heap := h, toks := tk }) (em : m = vs.length) (l : Λb.le Λ') (ss : Z2 Λ Λ') (p : ρ₀ <+: ρ) (st : St vs Λ') (kk : Uh (ev pg n) fc t elt k vs loc σ K) (R : Rep prog w B₀ outs' C' loc Λ' σ ρ h) : Zg5 prog w B₀ pg n outs' C' fc t elt k St K Λb Λ ρ₀ s₀ m s'
theorem ZdM (Pm : Prims prog w B₀ Kf pg) (S : Snd prog w B₀ pg n) {cenv : Env} {fc : FI} {C' : Addr} {outs' : List Env} (C : Cx B₀ A cenv outs' C' fc n) {t elt iter : Expr} {scope : Scope} {pos : Pos} {I D : Addr} {St : List AV → Lay → Prop} {k : Nat} {vs : List AV} {Λ₀ Λb Λ : Lay} {ρ₀ ρ : List Addr} {s₀ s : Shared} {K : Led → Prop} {R : Result → Shared → Prop}
  (hs : ∃ h tk, s = { s₀ with heap := h, toks := tk }) (lb : Λb.le Λ) (p0 : ρ₀ <+: ρ) (hD : ρ₀[k]? = some D) (hbase : ∀ c, c ≠ L → c ≠ C' → Λb c = Λ₀ c) (hL : Λ₀ L = .cur) (Fd : ZcR prog w A B₀ Λ₀ t I St) (st : St vs Λ) (h : Uh (ev pg n) fc t elt k vs loc σ K)
  (R₁ : Rep prog w B₀ outs' C' loc Λ σ ρ s.heap)
  (P : ∀ loc' σ' Λ' ρ' h' tk, K σ' → Λb.le Λ' → Z2 Λ Λ' → ρ₀ <+: ρ' → Rep prog w B₀ outs' C' loc' Λ' σ' ρ' h' → R (.ok .next) { s₀ with heap := h', toks := tk }) :
  codeAny (model prog w) A (.compLoop (.ListComp elt [⟨t, iter, [], 0⟩] scope pos) 0 (.ref I) (.ref D) cenv) R s := by
 refine V6 (fun m s' => Zg5 prog w B₀ pg n outs' C' fc t elt k St K Λb Λ ρ₀ s₀ m s') ?_ vs.length ?_
 ·intro m s' h9; obtain ⟨vs, loc, σ, Λ', ρ, hh, tk, rfl, rfl, l, ss, p, st, h, R'⟩ := h9
  have hb : ∀ c o, Lax Λ₀ c → Λ' c = .hid o → Lax Λb c := fun c o q e => by
   have n1 : c ≠ C' := fun z => by rw [z, R'.cur] at e; (exfalso; cases e)
   have n2 : c ≠ L := fun z => by rw [z] at q; obtain q | ⟨_, q⟩ := q <;> (rw [hL] at q; (exfalso; cases q))
   delta Lax
   rw [hbase c n2 n1]; exact q
  cases vs with
  | nil =>
   refine Fd.done (s := { s₀ with heap := hh, toks := tk }) hb l st R' fun Λ₁ h' tk' l' s' R'' => ?_
   exact P loc σ Λ₁ ρ h' tk' h l' (ss.trans s') p R''
  | cons v vs =>
   refine wpAny_mono (Fd.next (s := { s₀ with heap := hh, toks := tk }) (Q := fun x s₁ => wpAny (model prog w) A (assign t cenv x) (fun _ s₂ => wpAny (model prog w) A (eval elt cenv) (fun x s₃ =>
     wpAny (model prog w) A (call (.builtin "list.append") [.ref D, x]) (fun _ s₄ => ∃ m, m < (v :: vs).length ∧ Zg5 prog w B₀ pg n outs' C' fc t elt k St K Λb Λ ρ₀ s₀ m s₄) (notedBy (model prog w) A cenv fun e s' => R (.error e) s') s₃)
     (notedBy (model prog w) A cenv fun e s' => R (.error e) s') s₂) (notedBy (model prog w) A cenv fun e s' => R (.error e) s') s₁) (E := notedBy (model prog w) A cenv fun e s' => R (.error e) s') hb l st R' fun x Λ₁ h₁ tk₁ l₁ s₁ R₁ V₁ st₁ => ?_) (fun r s₁ hr => ?_) fun _ _ e => e
   ·refine G4 Pm S C (s := { s₀ with heap := h₁, toks := tk₁ }) h R₁ (.inl V₁) (fun loc₂ σ₂ Λ₂ ρ₂ h₂ tk₂ k₂ l₂ p₂ R₂ => ?_) (fun y σ' Λ' ρ' e h' tk' k' l' p' R' H' => k'.elim)
    refine S.E C (s := { s₀ with heap := h₂, toks := tk₂ }) k₂ R₂ (fun u σ₃ Λ₃ ρ₃ y h₃ tk₃ k₃ l₃ p₃ R₃ V₃ => ?_) (fun y σ' Λ' ρ' e h' tk' k' l' p' R' H' => k'.elim)
    rw [Zbz] at k₃
    generalize hk : σ₃[k]? = zz at k₃ ⊢
    cases zz with
    | none => exact k₃.elim
    | some o =>
     cases o with
     | lst us =>
      simp only at k₃
      obtain ⟨c2, ob2, g1, g2, g3, ws2, m2, g4, rfl⟩ := R₃.led k _ hk
      have e2' := ZY (((p.trans p₂)).trans p₃) hD
      rw [e2'] at g1; (replace g1 := xI g1; cases g1)
      have hsz : ws2.length ≤ sizeLine := by rw [g4.length]; have := U4 k₃.r.l; omega
      refine append_at (s := { s₀ with heap := h₃, toks := tk₃ }) g3 (fun h₄ sb ho => ?_) (by simpa using hsz)
      have g4' : VTs prog w Λ₃ (us ++ [u]) (ws2 ++ [y]) := g4.append (.cons (V₃.tree k₃.l) .nil)
      have R₄ := R₃.set (ao := .lst (us ++ [u])) e2' g2 (fun b o ne e => (sb.2 b ne).trans e) ho ⟨ws2 ++ [y], m2 + 1, g4', by simp [Zn]⟩
      exact ⟨vs.length, Nat.lt_succ_self _, vs, loc₂, _, Λ₃, ρ₃, h₄, tk₃, rfl, rfl, (l₁.trans l₂).trans l₃, ((ss.trans s₁).trans l₂.sees).trans l₃.sees, (p.trans p₂).trans p₃, Fd.keep st₁ (VX (l₂.trans l₃)), k₃.r.r, R₄⟩
     | _ => exact k₃.elim
   ·cases r with
    | none => exact hr.elim
    | some x => exact hr
 ·obtain ⟨hh, tk, rfl⟩ := hs
  exact ⟨vs, loc, σ, Λ, ρ, hh, tk, rfl, rfl, lb, ⟨fun _ _ e => e, fun _ e => e⟩, p0, st, h, R₁⟩
theorem Zel {k : ScopeKind} (h : Zf6 k = true) : k = .function := by cases k <;> first | rfl | exact xF h
theorem Zkw {i : Int} (h : isZ i = true) : i = 0 := by
 delta isZ at h
 cases i with
 | ofNat n => have := Nat.eq_of_beq_eq_true h; rw [this]; rfl
 | negSucc n => exact xF h
theorem GS (Pm : YU prog w B₀ Kf pg) (S : Snd prog w B₀ pg n) (C : Cx B₀ A env outs L fi (n + 1)) {el t it : Expr} {scope : Scope} {pos pos' : Pos} {cs : List (Str × Nat)} {K : KE} {X : KC} {Q : Value → Shared → Prop} {use : Option (Value → Sem Unit)} (hcp : fi.comp = false) (hcalm : fi.calm = true)
  (hfun : scope.kind = .function) (hnm : YC scope.names scope.names = true) (hcs : WT fi.cells scope.names [] = some cs)
  (h : GJ pg (ev pg n) fi loc σ t it (fun vs σ₁ => Uh (ev pg n) (Gc fi scope.names cs) t el σ₁.length vs (Y2 loc fi.cells) (σ₁ ++ [.lst []]) fun σ₂ => K (.ref σ₁.length) σ₂) X) (R : Rep prog w B₀ outs L loc Λ σ ρ s.heap)
  (P : ∀ k D C' σ' Λ' ρ' h' tk m, K (.ref k) σ' → Λ.le Λ' → ρ <+: ρ' → Rep prog w B₀ outs L loc Λ' σ' ρ' h' → Λ' C' = .free → h'.Ns C' m → ρ'[k]? = some D → compPost (model prog w) A E use Q (.ref D) C' (.ok .next) { s with heap := h', toks := tk })
  (PX : PX prog w B₀ outs L loc Λ ρ X E s) :
  wpAny (model prog w) A (comprehension (.ListComp el [⟨t, it, [], 0⟩] scope pos) scope env pos' (newList []) false (eval it env) use) Q E s := by
 have hkm : env.scope.kind ≠ .module := by rw [C.kind]; exact nofun
 have hNm := Xm hnm
 have IT := Za9 Pm.toPrims S C.less (C.calm hcalm) (Q := fun iv s₂ => wpAny (model prog w) A (newList []) (fun acc s₃ =>
   wpAny (model prog w) A (newFunctionEnv scope env.globals cs [] env.qual none .none (some env)) (fun cenv s₄ =>
    codeAny (model prog w) A (.compStart (.ListComp el [⟨t, it, [], 0⟩] scope pos) 0 iv acc { cenv with scope := relabel scope env }) (compPost (model prog w) A E use Q acc cenv.locals) s₄) E s₃) E s₂) h R
  (fun vs σ₁ Λ₀ ρ₁ h₀ tk₀ k₀ l₀ p₀ R₀ => fun I St Λ₁ h₁ tk₁ Fd st l₁ R₁ => by
  have hcell : ∀ y ∈ scope.names, y.2 ≠ .cell := fun y hy => (hNm y hy).1
  refine wpAny_newObj_type (wpAny_newFunctionEnv hcell (by intro y hy; simp at hy) (fun h₃ hns₃ hsb₃ => ?_) hfun)
  obtain ⟨Λ₂, l₂, R₂⟩ := R₁.pushLed (ao := .lst []) (o := Zn [] 0) ⟨[], 0, .nil, rfl⟩ rfl
  have st₂ := Fd.keep st (VX l₂)
  have keep : ∀ b o, (h₁.push (Zn [] 0)).get? b = some o → h₃.get? b = some o := fun b o e =>
   hsb₃.extBut b o (Nat.ne_of_lt (Heap.lt_size e)) (Heap.get?_push_of_some _ e)
  obtain ⟨Λc, oL, R₃, sees, hoL, tL, tL', hne, fr, hst⟩ := R₂.enterCall (b := false) hkm (fun _ => C.frame hcp) (L' := (h₁.push (Zn [] 0)).objs.size) (Heap.get?_none_of_le (Nat.le_refl _)) R₂.toRep0.size keep hns₃
   (loc' := Y2 loc fi.cells) (fun Λ' ss _ => by
    obtain ⟨m, _, l⟩ := R₂.ns
    exact (Zbo l).mono ss (List.prefix_refl _))
  have st₃ := Fd.keep st₂ (Λ' := Λc) ⟨fun {a o} e => by
    have a1 : a ≠ L := fun q => by rw [q, R₂.cur] at e; (exfalso; cases e)
    have a2 : a ≠ (h₁.push (Zn [] 0)).objs.size := fun q => by
     obtain z | ⟨_, z⟩ := fr <;> (rw [q, z] at e; (exfalso; cases e))
    rw [hst a a1 a2]; exact e, fun {a o} e => sees.frz _ _ e, sees⟩
  have fr0 : Lax Λ₀ (h₁.push (Zn [] 0)).objs.size := by
   obtain z | z := (l₁.trans l₂) (h₁.push (Zn [] 0)).objs.size
   ·obtain y | ⟨j, y⟩ := fr
    ·exact .inl (z.symm.trans y)
    ·exact .inr ⟨j, z.symm.trans y⟩
   ·exact z
  have lb : ((Λ₀.up L (.frm oL)).up (h₁.push (Zn [] 0)).objs.size .cur).le Λc := fun b => by
   by_cases q : b = (h₁.push (Zn [] 0)).objs.size
   ·subst q; left; rw [Lay.up_self, tL']
   ·by_cases q2 : b = L
    ·subst q2; left; rw [Lay.up_ne _ _ q, Lay.up_self, tL]
    ·rw [Lay.up_ne _ _ q, Lay.up_ne _ _ q2, hst b q2 q]
     exact (l₁.trans l₂) b
  have eD : (ρ₁ ++ [h₁.objs.size])[σ₁.length]? = some h₁.objs.size := by
   rw [← R₀.toRep0.len]; simp
  have loop := ZdM (L := L) Pm.toPrims S (C.less.comp hcp (C' := (h₁.push (Zn [] 0)).objs.size) hfun hcs) (t := t) (elt := el) (iter := it) (scope := scope) (pos := pos) (I := I) (D := h₁.objs.size) (k := σ₁.length) (s₀ := s) (s := { s with heap := h₃, toks := tk₁ + 0 })
   (R := compPost (model prog w) A E use Q (.ref h₁.objs.size) (h₁.push (Zn [] 0)).objs.size) ⟨h₃, _, rfl⟩ lb (List.prefix_refl _) eD
   (fun c c1 c2 => by rw [Lay.up_ne _ _ c2, Lay.up_ne _ _ c1]) R₀.cur Fd st₃ k₀ R₃ (fun loc' σ' Λ' ρ' h' tk kK lK sK pK RK => by
    obtain ⟨Λ₄, l₄, s₄, R₄, f₄⟩ := R₂.exitComp (Λ₀ := Λ₀) hoL (l₁.trans l₂) fr0 R₀.cur sees hne lK sK pK RK
    obtain ⟨m, nsC, _⟩ := RK.ns
    exact P _ _ _ _ _ _ h' tk m kK (l₀.trans l₄) (p₀.trans ((List.prefix_append _ _).trans pK)) R₄ f₄ nsC (ZY pK eD))
  exact codeAny_compStart_list loop (Fd.self (s := { s with heap := h₃, toks := tk₁ + 0 }) st₃ R₃ loop)) PX
 exact wpAny_comprehension_free (use := use) rfl IT.1 (Gd C.cells hcs) hfun (fun x hx => (hNm x hx).2) IT.2
theorem UT {el : Expr} {gens : List Comprehension} {scope : Scope} {K : KE} {X : KC} (h : Vj pg (ev pg n) fi loc σ el gens scope K X) : ∃ t it cs, gens = [⟨t, it, [], 0⟩] ∧ fi.calm = true ∧ fi.comp = false ∧ scope.kind = .function ∧ YC scope.names scope.names = true ∧ WT fi.cells scope.names [] = some cs ∧
  GJ pg (ev pg n) fi loc σ t it (fun vs σ₁ => Uh (ev pg n) (Gc fi scope.names cs) t el σ₁.length vs (Y2 loc fi.cells) (σ₁ ++ [.lst []]) fun σ₂ => K (.ref σ₁.length) σ₂) X := by
 delta Vj at h
 cases gens with
 | nil => exact h.elim
 | cons g gs =>
  cases gs with
  | cons _ _ => exact h.elim
  | nil =>
   obtain ⟨t, it, ifs, a⟩ := g
   cases ifs with
   | cons _ _ => exact h.elim
   | nil =>
    simp only at h
    have h1 := h.l
    replace h := h.r
    have h2 := h.l
    replace h := h.r
    have h3 := h.l
    replace h := h.r
    have h4 := h.l
    replace h := h.r
    have h5 := h.l
    replace h := h.r
    obtain ⟨cs, e, h⟩ := Zo h
    rw [Zkw h1]
    exact ⟨t, it, cs, rfl, h2, h3, Zel h4, h5, e, h⟩
theorem ZgR (Pm : YU prog w B₀ Kf pg) (S : Snd prog w B₀ pg n) (C : Cx B₀ A env outs L fi (n + 1)) {el : Expr} {gens : List Comprehension} {scope : Scope} {pos : Pos} {K : KE} {X : KC} {Q : Value → Shared → Prop} (h : Vj pg (ev pg n) fi loc σ el gens scope K X)
  (R : Rep prog w B₀ outs L loc Λ σ ρ s.heap) (P : PE prog w B₀ outs L loc Λ ρ K Q s) (PX : PX prog w B₀ outs L loc Λ ρ X E s) : wpAny (model prog w) A (eval (.ListComp el gens scope pos) env) Q E s := by
 obtain ⟨t, it, cs, rfl, h2, h3, h4, h5, e, h⟩ := UT h
 rw [eval_ListComp]
 refine GS Pm S C (use := none) h3 h2 h4 h5 e h R (fun k D C' σ' Λ' ρ' h' tk m kK l p R' f ns eD => ?_) PX
 refine ⟨m, ns, fun h'' sb => P _ σ' Λ' ρ' _ h'' tk kK l p (R'.growF fun b o nf q => (sb.2 b fun z => nf (by rw [z]; exact f)).trans q) (.inr ⟨k, D, rfl, rfl, eD⟩)⟩
theorem Uq {x : Str} : ∀ {l : List (Str × NameKind)}, GC x l = true → (l.any fun (n, k) => n == x && (k == .local || k == .cell)) = false
 | [], _ => rfl
 | (n, k) :: l, e => by
  change (match sEq n x with | true => (match Ys k with | true => false | false => (match Wn k with | true => false | false => GC x l)) | false => GC x l) = true at e
  rw [List.any_cons]
  generalize q : sEq n x = zz at e ⊢
  cases zz with
  | false =>
   rw [Uq e]
   simp only [← Xh, q, Bool.false_and, Bool.or_self]
  | true =>
   simp only at e
   generalize q2 : Ys k = zz at e ⊢
   cases zz with
   | true => exact xF e
   | false =>
    simp only at e
    generalize q3 : Wn k = zz at e ⊢
    cases zz with
    | true => exact xF e
    | false =>
     rw [Uq e]
     have a1 : (k == NameKind.local) = false := by
      cases z : k <;> first | rfl | (rw [z] at q2; exact xT q2)
     have a2 : (k == NameKind.cell) = false := by
      cases z : k <;> first | rfl | (rw [z] at q3; exact xT q3)
     simp only [a1, a2, Bool.or_self, Bool.and_false]
theorem ZaI {x : Str} {px : Pos} {el t it : Expr} {scope : Scope} {epos pos : Pos} (C : Cx B₀ A env outs L fi n) (hok : Vq fi x px.line epos.line scope.names = true) : swapsWith (.ListComp el [⟨t, it, [], 0⟩] scope epos) (some (.Name x px)) pos.line env = pure true := by
 delta Vq at hok
 generalize q1 : Nat.beq px.line epos.line = zz at hok ⊢
 cases zz with
 | false => exact xF hok
 | true =>
  have q1' : px.line = epos.line := Nat.eq_of_beq_eq_true q1
  generalize q2 : Ze x fi.names = zz at hok ⊢
  cases zz with
  | none => exact xF hok
  | some kd =>
   dsimp only at hok
   generalize q3 : Ys kd = zz at hok ⊢
   cases zz with
   | false => exact xF hok
   | true =>
    have hkd : kd = .local := by cases kd <;> first | rfl | exact xF q3
    subst hkd
    have a1 : env.kindOf x = some .local := (C.kindOf x).trans q2
    have a2 : env.blockKind = .function := by
     unfold Env.blockKind
     rw [C.kind]; rfl
    unfold swapsWith
    simp only [a1, a2, beq_self_eq_true, Bool.true_and, show (Expr.ListComp el [⟨t, it, [], 0⟩] scope epos).pos = epos from rfl, q1', Uq hok, Bool.not_false]
theorem Zbm (Pm : YU prog w B₀ Kf pg) (S : Snd prog w B₀ pg n) (C : Cx B₀ A env outs L fi (n + 1)) {x : Str} {px : Pos} {el : Expr} {gens : List Comprehension} {scope : Scope} {epos pos : Pos} {K : KS} {X : KX} {Q : Flow → Shared → Prop} (hok : Vq fi x px.line epos.line scope.names = true)
  (h : Vj pg (ev pg n) fi loc σ el gens scope (fun v σ₁ => XD fi x v loc fun loc₁ => K .next loc₁ σ₁) (fun x σ₁ => X x loc σ₁))
  (R : Rep prog w B₀ outs L loc Λ σ ρ s.heap) (P : PS prog w B₀ outs L Λ ρ K Q s) (PX : PXS prog w B₀ outs L Λ ρ X E s) : wpAny (model prog w) A (exec (.Assign [.Name x px] (.ListComp el gens scope epos) pos) env) Q E s := by
 obtain ⟨t, it, cs, rfl, h2, h3, h4, h5, e, h⟩ := UT h
 rw [exec_Assign_Name_used _ _ _ _ (ZaI (t := t) (it := it) (el := el) (scope := scope) C hok)]
 refine wpAny_bind (wpAny_standAt (wpAny_bind ?_))
 have core : ∀ p', wpAny (model prog w) A (comprehension (.ListComp el [⟨t, it, [], 0⟩] scope epos) scope env p' (newList []) false (eval it env) (some (assign (.Name x px) env))) (fun _ s' => Q .next s') E s := fun p' => by
  refine GS Pm S C (use := some (assign (.Name x px) env)) (K := fun v σ₁ => XD fi x v loc fun loc₁ => K .next loc₁ σ₁) (X := fun x σ₁ => X x loc σ₁) (Q := fun _ s' => Q .next s') h3 h2 h4 h5 e h R (fun k D C' σ' Λ' ρ' h' tk m kK l p R' f ns eD => ?_) PX.expr
  have hC : ∃ oC, h'.get? C' = some oC := by obtain ⟨o, _, _, ho, _⟩ := ns; exact ⟨o, ho⟩
  obtain ⟨oC, hoC⟩ := hC
  have R1 := R'.settle (a := C') (t := .hid oC) f hoC
  have l1 := Lay.le_up (Λ := Λ') (.hid oC) (.inl f)
  refine wpAny_bind (wpAny_standAt (wpAny_bindName ?_))
  refine Wh (s := { s with heap := h', toks := tk }) C kK R1 (.inr ⟨k, D, rfl, rfl, eD⟩) fun h₂ loc₂ kk R2 => ?_
  have hoC2 := R2.hidAt (Lay.up_self ..)
  refine ⟨m, ?_, fun h₃ sb => ?_⟩
  ·obtain ⟨o, es, ep, ho, hd, r⟩ := ns
   rw [hoC] at ho; (replace ho := xI ho; cases ho)
   exact ⟨_, es, ep, hoC2, hd, r⟩
  ·have R3 := (R2.loose (Lay.up_self ..)).growF (h' := h₃) fun b o nf q => (sb.2 b fun z => nf (by rw [z]; exact Lay.up_self ..)).trans q
   refine P _ loc₂ σ' _ ρ' _ h₃ (tk + 1) kk ?_ p R3 .next
   rw [ZiQ]
   exact l.trans (Lay.le_up _ (.inl f))
 show wpAny _ A (do let _ ← comprehension (.ListComp el [⟨t, it, [], 0⟩] scope epos) scope env _ (newList []) false (eval it env) (some (assign (.Name x px) env))) _ _ s
 exact wpAny_bind (wpAny_mono (core _) (fun _ s' hq => wpAny_pure (wpAny_pure hq)) fun _ _ e => e)
end
section
variable {prog : Program} {w : World} {B₀ : Heap} {Kf : Frag} {pg : Pg} {n : Nat} {A : Around} {env : Env} {outs : List Env} {L : Addr} {fi : FI} {E : Value → Shared → Prop} {loc : Loc} {σ : Led} {Λ : Lay} {ρ : List Addr} {s : Shared}
theorem Cx.mark (C : Cx B₀ A env outs L fi n) (v : Option Value) : Cx B₀ (A.mark v) env outs L { fi with calm := false } n where
 frames := C.frames
 frame := C.frame
 cells := C.cells
 locals := C.locals
 kind := C.kind
 names := C.names
 calm := fun q => by exact xF q
 globals := C.globals
 builtins := C.builtins
 depth := C.depth
 units := C.units
theorem Uk {x y : Str} : ∀ {l : Loc}, (ZaU x l).lookup y = if y = x then none else l.lookup y
 | [] => by show ([] : Loc).lookup y = _; by_cases q : y = x <;> simp [q]
 | p :: l => by
  show List.lookup y (match sEq x p.1 with | true => ZaU x l | false => p :: ZaU x l) = _
  generalize q : sEq x p.1 = zz at *
  cases zz with
  | true =>
   have e := ZH.mp q
   simp only
   rw [Uk, List.lookup_cons]
   by_cases z : y = x
   ·simp [z]
   ·have : (y == p.1) = false := beq_eq_false_iff_ne.mpr (by rw [← e]; exact z)
    simp [z, this]
  | false =>
   simp only
   rw [List.lookup_cons, List.lookup_cons, Uk]
   by_cases z : y = x
   ·subst z
    have : (y == p.1) = false := by rw [← Xh]; exact q
    simp [this]
   ·simp [z]
theorem Yp.del {m : Str → Option Value} {x : Str} {v : Option Value} (l : Yp prog w Λ ρ loc m) : Yp prog w Λ ρ (ZaU x loc) (fun y => if y = x then v else m y) := fun y => by
 have := l y
 rw [Uk]
 by_cases z : y = x
 ·simp only [z, if_true]
 ·simp only [z, if_false]; exact this
theorem ZeE (R : Rep prog w B₀ outs L loc Λ σ ρ s.heap) {e : Addr} {x : AX} (H : U5 prog w Λ s.heap L x e) : ∃ Λ', Λ.le Λ' ∧ Rep prog w B₀ outs L loc Λ' σ ρ s.heap ∧ VT prog w Λ' (.exc x.at_) (.ref e) := by
 obtain ⟨oe, vs, h1, h2, h3, h4, ⟨d, od, kvs, v, b1, b2, b3, b4, b5, b6⟩, h6⟩ := H
 have l := Lay.le_up (Λ := Λ) (.frz oe) (.inl h2)
 exact ⟨_, l, R.settle (t := .frz oe) h2 h1, .exc (Lay.up_self ..) b1 (by unfold notCls; rw [h3]) b2 (l.frz b3) b4 b5 (b6.mono l.sees)⟩
theorem Zcf (G : GOk prog w B₀ pg) (C : Cx B₀ A env outs L fi n) {c : Str} {cp : Pos} {Q : Value → Shared → Prop} (h : Zcg pg fi c = true) (R : Rep prog w B₀ outs L loc Λ σ ρ s.heap) (q : Q (.ref 52) s) : wpAny (model prog w) A (eval (.Name c cp) env) Q E s := by
 delta Zcg at h
 generalize hd : sEq c (Str.ofString "__debug__") = zz at h ⊢
 cases zz with
 | true => exact xF h
 | false =>
  have hk := C.kindOf c
  generalize Ze c fi.names = zz at h hk ⊢
  cases zz with
  | none => exact xF h
  | some k =>
   cases k with
   | globalImplicit =>
    generalize q2 : Ze c pg.glob = zz at h ⊢
    cases zz with
    | none => exact xF h
    | some v =>
     have := JY h
     subst this
     obtain ⟨_, val, hv, hl⟩ := G c _ q2
     have hv' := hv Λ R.b0
     (have hh := VT.old_ hv'; clear hv'; subst hh)
     refine wpAny_Name ?_ (by rw [← Xh]; exact hd)
     rw [loadName_read C.kind hk]
     exact hl env A E Q s C.globals C.builtins R.toRep0.keep q
   | _ => exact xF h
theorem US (R : Rep prog w B₀ outs L loc Λ σ ρ s.heap) {e : Addr} {x : AX} {Q : Unit → Shared → Prop} (H : U5 prog w Λ s.heap L x e)
  (hq : ∀ h', Rep prog w B₀ outs L loc Λ σ ρ h' → U5 prog w Λ h' L x e → Q () { s with heap := h' }) : wpAny (model prog w) A (setFlight (.ref e) none) Q E s := by
 have H' := H
 obtain ⟨oe, vs, h1, h2, h3, h4, h5, h6⟩ := H
 obtain ⟨_, h6⟩ | ⟨T, oT, ts, fl, a1, a2, a3, a4, a5, a6, a7⟩ := h6
 ·refine wpAny_bind (wpAny_field h1 h3 h6 ?_)
  rw [if_neg (by decide)]
  exact wpAny_pure (hq s.heap R H')
 ·refine wpAny_bind (wpAny_field h1 h3 a1 ?_)
  rw [if_pos (show (Value.ref T != Value.none) = true from by simp)]
  have hsz3 : 3 < ts.size := (Array.getElem?_eq_some_iff.mp a6).1
  have other : ∀ b, b ≠ T → (s.heap.update T (Obj.mapFields (·.setIfInBounds 3 Value.none))).get? b = s.heap.get? b := fun b hb => Heap.get?_update_other _ _ (Ne.symm hb)
  refine wpAny_setField a4 a5 hsz3 (hq _ ?_ ?_)
  ·exact R.slots (fun b o n q => (other b fun z => by rw [z, a2] at n; exact xF n).trans q) fun b o n q => ⟨o.slots, (other b fun z => by rw [z, a2] at n; exact xF n).trans q⟩
  ·refine ⟨oe, vs, (other e (Ne.symm a3)).trans h1, h2, h3, h4, h5, .inr ⟨T, _, _, .none, a1, a2, a3, Heap.get?_update_self _ a4 (Obj.isFreed_of_fields (Obj.data_mapFields a5 _)), Obj.data_mapFields a5 _, ?_, .inr ⟨rfl, rfl⟩⟩⟩
   rw [Array.getElem?_setIfInBounds_self_of_lt hsz3]
   rfl
theorem ZhG {fi fi' : FI} {x : Str} {v : AV} {loc : Loc} {K : Loc → Prop} (h1 : fi'.names = fi.names) (h : XD fi x v loc K) : XD fi' x v loc K := by
 rw [Wi] at h ⊢
 rw [h1]; exact h
theorem Zhg (Pm : YU prog w B₀ Kf pg) (S : Snd prog w B₀ pg n) (C : Cx B₀ A env outs L fi n) (hcp : fi.comp = false) {body : List Stmt} {t : Expr} {name : Option Str} {b : Stmt} {hb : List Stmt} {hpos pos : Pos} {K : KS} {X : KX} {Q : Flow → Shared → Prop}
  (h : Zjq pg (ev pg n) fi body (b :: hb) t name loc σ K X) (R : Rep prog w B₀ outs L loc Λ σ ρ s.heap)
  (P : PS prog w B₀ outs L Λ ρ K Q s) (PX : PXS prog w B₀ outs L Λ ρ X E s) : wpAny (model prog w) A (exec (.Try body [.ExceptHandler (some t) name (b :: hb) hpos] [] [] pos) env) Q E s := by
 have hkm : env.scope.kind ≠ .module := by rw [C.kind]; exact nofun
 have hfr : A.frames = some (env :: outs) := by have := C.frames; rw [hcp] at this; exact this
 delta Zjq at h
 have hc := h.l
 replace h := h.r
 refine wpAny_Try_except ?_
 cases t with
 | Name c cp =>
  simp only at h
  have h52 := h.l
  replace h := h.r
  refine S.Ss C h R (fun f loc' σ' Λ' ρ' fl h' tk kk l p R' hf => ?_) (fun x loc₁ σ₁ Λ₁ ρ₁ e h₁ tk₁ k₁ l₁ p₁ R₁ H₁ => ?_)
  ·cases hf with
   | next => exact wpAny_execs_nil (P _ loc' σ' Λ' ρ' _ h' tk kk l p R' .next)
   | ret V => exact P _ loc' σ' Λ' ρ' _ h' tk kk l p R' (.ret V)
  ·refine JM (s := { s with heap := h₁, toks := tk₁ }) hfr hkm (C.frame hcp) R₁ H₁ fun Λ₂ h₂ l₂ R₂ H₂ => ?_
   have H₂' := H₂
   refine VJ (s := { s with heap := h₂, toks := tk₁ }) R₂ H₂ (L' := L) (.inl rfl) fun h₃ R₃ H₃ => ?_
   refine wpAny_handleBy_cons (codeAny_handlers_test ?_) (by intro q; (exfalso; cases q))
   have C' := C.mark (some (.ref e))
   refine Zcf (s := { s with heap := h₃, toks := tk₁ }) Pm.G C' h52 R₃ ?_
   have H4 := H₃
   obtain ⟨oe, vs, c1, _, _, _, ⟨_, _, _, _, c2, _⟩, _⟩ := H4
   refine Pm.excHit (s := { s with heap := h₃, toks := tk₁ }) R₃.toRep0.keep c1 c2 ?_
   cases name with
   | none =>
    refine codeAny_handlers_suite ?_
    refine US (s := { s with heap := h₃, toks := tk₁ }) R₃ H₃ fun h₄ R₄ H₄ => ?_
    refine S.Ss C' (s := { s with heap := h₄, toks := tk₁ }) k₁ R₄ (fun f loc' σ' Λ' ρ' fl h' tk kk l p R' hf => ?_) (fun x loc₁ σ₁ Λ₁ ρ₁ e h₁ tk₁ k₁ l₁ p₁ R₁ H₁ => k₁.elim)
    exact P _ loc' σ' Λ' ρ' _ h' tk kk ((l₁.trans l₂).trans l) (p₁.trans p) R' hf
   | some nm =>
    refine codeAny_handlers_suite_as ?_
    refine US (s := { s with heap := h₃, toks := tk₁ }) R₃ H₃ fun h₄ R₄ H₄ => ?_
    obtain ⟨Λ₅, l₅, R₅, V₅⟩ := ZeE (s := { s with heap := h₄, toks := tk₁ }) R₄ H₄
    delta Zi6 at k₁
    simp only at k₁
    have hloc : env.kindOf nm = some .local := by
     have hk := C.kindOf nm
     rw [Wi] at k₁
     generalize Ze nm fi.names = zz at k₁ hk ⊢
     cases zz with
     | none => exact k₁.elim
     | some k =>
      cases k with
      | «local» => exact hk
      | _ => exact k₁.elim
    refine Wh (s := { s with heap := h₄, toks := tk₁ }) C' (ZhG (fi := fi) (fi' := { fi with calm := false }) rfl k₁) R₅ (.inl V₅) fun h₆ loc₂ k₂ R₆ => ?_
    refine S.Ss C' (s := { s with heap := h₆, toks := tk₁ + 1 }) k₂ R₆ (fun f loc' σ' Λ' ρ' fl h' tk kk l p R' hf => ?_) (fun x loc₁ σ₁ Λ₁ ρ₁ e h₁ tk₁ k₁ l₁ p₁ R₁ H₁ => k₁.elim)
    show wpAny (model prog w) A (do bindName env nm .none; unbindBehindTheSuite env nm hpos) _ E _
    obtain ⟨m, ns, lr⟩ := R'.ns
    refine wpAny_nameGoes_keeps (s := { s with heap := h', toks := tk }) hloc (by rw [C.locals]; exact ns) (by rw [C.kind]; rfl) fun h₇ v ns₇ sb => ?_
    rw [C.locals] at ns₇ sb
    have R₇ := R'.move (fun b o ne e => (sb.2 b ne).trans e) ns₇ (lr.del (x := nm) (v := v))
    exact P _ (ZaU nm loc') σ' Λ' ρ' _ h₇ (tk + 1) kk (((l₁.trans l₂).trans l₅).trans l) (p₁.trans p) R₇ hf
 | _ => exact h.elim
end
section
variable {prog : Program} {w : World} {B₀ : Heap} {Kf : Frag} {pg : Pg} {n : Nat} {A : Around} {env : Env} {outs : List Env} {L : Addr} {fi : FI} {E : Value → Shared → Prop} {loc : Loc} {σ : Led} {Λ : Lay} {ρ : List Addr} {s : Shared}
theorem Zbv {v : Expr} {x : Str} {e : Expr} (h : V9 v = some (x, e)) : ∃ xp apos pos, v = .Call (.Attribute (.Name x xp) (Str.ofString "append") apos) [e] [] pos ∧ Nat.beq apos.endLine pos.line = true := by
 delta V9 at h
 cases v with
 | Call f args kw pos =>
  cases f with
  | Attribute o m apos =>
   simp only at h
   generalize q : sEq m (Str.ofString "append") = zz at h ⊢
   cases zz with
   | false => exact xN h
   | true =>
    simp only at h
    obtain rfl := ZH.mp q
    generalize q2 : Nat.beq apos.endLine pos.line = zz at h ⊢
    cases zz with
    | false => exact xN h
    | true =>
     simp only at h
     cases o with
     | Name y yp =>
      simp only at h
      cases args with
      | nil => exact xN h
      | cons a l =>
       cases l with
       | nil =>
        cases kw with
        | nil => (replace h := xI h; cases h); exact ⟨yp, apos, pos, rfl, q2⟩
        | cons _ _ => exact xN h
       | cons _ _ => exact xN h
     | _ => exact xN h
  | _ => exact xN h
 | _ => exact xN h
theorem ZfP {x : Str} {k : Nat} (h : ZfQ fi loc σ x = some k) : sEq x (Str.ofString "__debug__") = false ∧ Ze x fi.names = some .local ∧ Ze x loc = some (.ref k) ∧ ∃ vs, σ[k]? = some (.lst vs) := by
 delta ZfQ at h
 generalize sEq x (Str.ofString "__debug__") = zz at h ⊢
 cases zz with
 | true => exact xN h
 | false =>
  generalize Ze x fi.names = zz at h ⊢
  cases zz with
  | none => exact xN h
  | some kd =>
   cases kd with
   | «local» =>
    generalize Ze x loc = zz at h ⊢
    cases zz with
    | none => exact xN h
    | some v =>
     cases v with
     | ref j =>
      dsimp only at h
      generalize q4 : σ[j]? = zz at h ⊢
      cases zz with
      | none => exact xN h
      | some o =>
       cases o with
       | lst vs => (replace h := xI h; cases h); exact ⟨rfl, rfl, rfl, vs, q4⟩
       | _ => exact xN h
     | _ => exact xN h
   | _ => exact xN h
theorem Zgr (Pm : YU prog w B₀ Kf pg) (S : Snd prog w B₀ pg n) (C : Cx B₀ A env outs L fi (n + 1)) {e : Expr} {pos : Pos} {K : KS} {X : KX} {Q : Flow → Shared → Prop} (h : Zgs (ev pg n) fi e loc σ K X) (R : Rep prog w B₀ outs L loc Λ σ ρ s.heap)
  (P : PS prog w B₀ outs L Λ ρ K Q s) (PX : PXS prog w B₀ outs L Λ ρ X E s) : wpAny (model prog w) A (exec (.Expr e pos) env) Q E s := by
 delta Zgs at h
 generalize q : V9 e = zz at h ⊢
 cases zz with
 | none =>
  generalize hcm : Wm e = zz at h ⊢
  cases zz with
  | true => exact h.elim
  | false =>
   simp only at h
   refine wpAny_Expr_any ?_ (VG C.kind) (Wb hcm _ _)
   exact S.E C.less h R (fun v σ₁ Λ₁ ρ₁ x h₁ tk₁ k₁ l₁ p₁ R₁ V₁ => P _ loc σ₁ Λ₁ ρ₁ _ h₁ tk₁ k₁ l₁ p₁ R₁ .next) PX.expr
 | some p =>
  obtain ⟨x, a⟩ := p
  simp only at h
  obtain ⟨xp, apos, cpos, rfl, hl⟩ := Zbv q
  obtain ⟨k, ek, h⟩ := Zo h
  have hn := h.l
  replace h := h.r
  obtain ⟨hd, hx, hloc, us, hus⟩ := ZfP ek
  refine wpAny_Expr_any ?_ (VG C.kind) rfl
  rw [arm_eval_Call, W8 (o := .Name x xp) rfl]
  refine wpAny_bind ?_
  have hnm : UL pg fi loc σ x (fun g σ' => g = .ref k ∧ σ' = σ) := by
   delta UL
   rw [hd, hx, hloc]
   exact ⟨rfl, rfl⟩
  refine VS C Pm.G hnm R (fun g σ' Λ' ρ' y h' tk kk l p R' V => ?_)
  obtain ⟨rfl, rfl⟩ := kk
  obtain ⟨b, rfl, e2⟩ := V.ref_
  have H := R'.led k _ hus
  obtain ⟨c, ob, h1, h2, h3, ws, m, h4, rfl⟩ := H
  rw [e2] at h1; (replace h1 := xI h1; cases h1)
  refine wpAny_bind (wpAny_standAt ?_)
  unfold methodCall
  have few : methodCallForm (([a] : List Expr).length + ([] : List Keyword).length) (backTo cpos (starEach [a] env)) (backToKw cpos (keywordEach [] env)) = true := by
   unfold methodCallForm
   rw [Y8 hn]
   rfl
  rw [few]
  refine wpAny_bind (wpAny_holding ?_)
  refine PySem.Calls.getMethod_list_append (s := { s with heap := h', toks := tk }) h3 rfl rfl ?_
  have hp : methodCallPos true (.Name x xp) env apos cpos = pure cpos := by
   unfold methodCallPos
   have e1 : apos.endLine = cpos.line := Nat.eq_of_beq_eq_true hl
   simp [e1]
  rw [hp]
  refine wpAny_bind (wpAny_pure ?_)
  refine Wz Pm.toPrims hn (.inl ⟨_, rfl⟩) ?_
  refine XA S C.less (s := { s with heap := h', toks := tk }) (K := fun vs σ₁ => Z3 (Uo vs) fun v => G3 σ₁ k v fun σ₂ => K .next loc σ₂) hn h R' (fun vs σ₂ Λ₂ ρ₂ xs h₂ tk₂ k₂ l₂ p₂ R₂ V₂ => ⟨R₂.toRep0.keep, ?_⟩) (PX.expr.at l p h' tk)
  obtain ⟨v, ev, k₂⟩ := Zo k₂
  have ev' := Yw ev
  try clear ev; try clear xs; try clear σ₁; try clear e1; try clear hp; try clear few; try clear h4; try clear m; try clear ws; try clear h3; try clear h2; try clear h1; try clear ob; try clear c; try clear H; try clear V; try clear R'; try clear kk; try clear tk; try clear h'; try clear ρ'; try clear Λ'; try clear σ'; try clear g
  subst ev'
  obtain ⟨y, rfl, W⟩ := V₂.one
  change G3 σ₂ k v _ at k₂
  rw [Zbz] at k₂
  generalize hk : σ₂[k]? = zz at k₂ ⊢
  cases zz with
  | none => exact k₂.elim
  | some o =>
   cases o with
   | lst vs =>
    simp only at k₂
    obtain ⟨c2, ob2, g1, g2, g3, ws2, m2, g4, rfl⟩ := R₂.led k _ hk
    have e2' := ZY p₂ e2
    rw [e2'] at g1; (replace g1 := xI g1; cases g1)
    have hsz : ws2.length ≤ sizeLine := by rw [g4.length]; have := U4 k₂.r.l; omega
    refine append_at (s := { s with heap := h₂, toks := tk₂ }) g3 (fun h₃ sb ho => ?_) (by simpa using hsz)
    have g4' : VTs prog w Λ₂ (vs ++ [v]) (ws2 ++ [y]) := g4.append (.cons (W.tree k₂.l) .nil)
    have R₃ := R₂.set (ao := .lst (vs ++ [v])) e2' g2 (fun b o ne e => (sb.2 b ne).trans e) ho ⟨ws2 ++ [y], m2 + 1, g4', by simp [Zn]⟩
    exact P _ loc _ Λ₂ ρ₂ _ h₃ tk₂ k₂.r.r (l.trans l₂) (p.trans p₂) R₃ .next
   | _ => exact k₂.elim
theorem Gj (Pm : YU prog w B₀ Kf pg) (S : Snd prog w B₀ pg n) (C : Cx B₀ A env outs L fi (n + 1)) (hcp : fi.comp = false) {st : Stmt} {K : KS} {X : KX} {Q : Flow → Shared → Prop} (h : Z0 pg (ev pg n) n fi st loc σ K X) (R : Rep prog w B₀ outs L loc Λ σ ρ s.heap)
  (P : PS prog w B₀ outs L Λ ρ K Q s) (PX : PXS prog w B₀ outs L Λ ρ X E s) : wpAny (model prog w) A (exec st env) Q E s := by
 cases st with
 | Return v pos =>
  cases v with
  | none => exact h.elim
  | some e =>
   refine wpAny_Return_some ?_
   exact S.E C.less h R (fun v σ₁ Λ₁ ρ₁ x h₁ tk₁ k₁ l₁ p₁ R₁ V₁ => P _ loc σ₁ Λ₁ ρ₁ _ h₁ tk₁ k₁ l₁ p₁ R₁ (.ret V₁)) PX.expr
 | If t a b pos =>
  rw [arm_exec_If]
  refine wpAny_bind (wpAny_standAt (wpAny_bind ?_))
  refine S.T C.less h R (fun c σ₁ Λ₁ ρ₁ h₁ tk₁ k₁ l₁ p₁ R₁ => ?_) PX.expr
  cases c with
  | true => exact S.Ss C.less (s := { s with heap := h₁, toks := tk₁ }) (XM k₁) R₁ (P.at l₁ p₁ h₁ tk₁) (PX.at l₁ p₁ h₁ tk₁)
  | false => exact S.Ss C.less (s := { s with heap := h₁, toks := tk₁ }) (XN k₁) R₁ (P.at l₁ p₁ h₁ tk₁) (PX.at l₁ p₁ h₁ tk₁)
 | Assign ts e pos =>
  cases ts with
  | nil => exact h.elim
  | cons t ts =>
   cases ts with
   | cons _ _ => exact h.elim
   | nil => exact ZcM Pm S C h R P PX (fun x px el gens scope epos e1 e2 ho hc => by subst e1 e2; exact Zbm Pm S C ho hc R P PX)
 | For t it body orelse pos =>
  cases orelse with
  | cons _ _ => exact h.elim
  | nil =>
   obtain ⟨hc, h⟩ := JL h
   obtain ⟨i1, i2⟩ := Za9 Pm.toPrims S C.less (C.calm hc) (Q := fun it₁ s₂ => codeAny (model prog w) A (.forLoop t it₁ body [] env) (fun r s' => match r with | .ok f => Q f s' | .error e => cameBackBy (model prog w) A env E e s') s₂) h R
    (fun vs σ₁ Λ₁ ρ₁ h₁ tk₁ k₁ l₁ p₁ R₁ => fun I St Λ₂ h₂ tk₂ Fd st l₂ R₂ => Zid Pm.toPrims S C.less hcp (s₀ := { s with heap := h₁, toks := tk₁ }) ⟨h₂, tk₂, rfl⟩ l₂ (List.prefix_refl _) Fd st k₁ R₂ (P.at l₁ p₁ h₁ tk₁) (PX.at l₁ p₁ h₁ tk₁)) PX.expr
   exact wpAny_For i2 i1
 | Raise e c pos =>
  cases c with
  | some _ => exact h.elim
  | none =>
   cases e with
   | none => exact h.elim
   | some e => exact Zd6 Pm S C h R PX
 | Expr e pos => exact Zgr Pm S C h R P PX
 | Try body hs orelse fin pos =>
  cases fin with
  | cons _ _ => exact h.elim
  | nil =>
   cases orelse with
   | cons _ _ => exact h.elim
   | nil =>
    cases hs with
    | nil => exact h.elim
    | cons hd hs =>
     cases hs with
     | cons _ _ => exact h.elim
     | nil =>
      cases hd with
      | ExceptHandler t name hb hpos =>
       cases t with
       | none => exact h.elim
       | some t =>
        cases hb with
        | nil => exact h.elim
        | cons b hb => exact Zhg Pm S C.less hcp h R P PX
 | _ => exact h.elim
theorem ZdI (Pm : YU prog w B₀ Kf pg) (S : Snd prog w B₀ pg n) (C : Cx B₀ A env outs L fi (n + 1)) (hcp : fi.comp = false) : ∀ {m : Nat} {ss : List Stmt} {loc : Loc} {σ : Led} {Λ : Lay} {ρ : List Addr} {s : Shared} {K : KS} {X : KX} {Q : Flow → Shared → Prop}, sSN pg (ev pg n) n fi m ss loc σ K X → Rep prog w B₀ outs L loc Λ σ ρ s.heap →
  PS prog w B₀ outs L Λ ρ K Q s → PXS prog w B₀ outs L Λ ρ X E s → wpAny (model prog w) A (execs ss env) Q E s
 | m, [], loc, σ, Λ, ρ, s, K, X, Q, h, R, P, PX => wpAny_execs_nil (P _ loc σ Λ ρ _ s.heap s.toks (by cases m <;> exact h) (Lay.le.refl _) (List.prefix_refl _) R .next)
 | 0, st :: ss, loc, σ, Λ, ρ, s, K, X, Q, h, R, P, PX => (show False from h).elim
 | m + 1, st :: ss, loc, σ, Λ, ρ, s, K, X, Q, h, R, P, PX => by
  change Z0 pg (ev pg n) n fi st loc σ (fun f loc₁ σ₁ => match f with | .next => sSN pg (ev pg n) n fi m ss loc₁ σ₁ K X | .ret v => K (.ret v) loc₁ σ₁) X at h
  refine wpAny_execs_cons ?_
  refine Gj Pm S C hcp h R (fun f loc₁ σ₁ Λ₁ ρ₁ fl h₁ tk₁ k₁ l₁ p₁ R₁ hf => ?_) PX
  cases hf with
  | next => exact ZdI Pm S C hcp (m := m) (s := { s with heap := h₁, toks := tk₁ }) k₁ R₁ (P.at l₁ p₁ h₁ tk₁) (PX.at l₁ p₁ h₁ tk₁)
  | ret V => exact P _ loc₁ σ₁ Λ₁ ρ₁ _ h₁ tk₁ k₁ l₁ p₁ R₁ (.ret V)
theorem Zlc (Pm : YU prog w B₀ Kf pg) (S : Snd prog w B₀ pg n) (C : Cx B₀ A env outs L fi (n + 1)) (hcp : fi.comp = false) {ss : List Stmt} {loc : Loc} {σ : Led} {Λ : Lay} {ρ : List Addr} {s : Shared} {K : KS} {X : KX} {Q : Flow → Shared → Prop} (h : ZbK pg (ev pg n) n fi ss loc σ K X) (R : Rep prog w B₀ outs L loc Λ σ ρ s.heap)
  (P : PS prog w B₀ outs L Λ ρ K Q s) (PX : PXS prog w B₀ outs L Λ ρ X E s) : wpAny (model prog w) A (execs ss env) Q E s := ZdI Pm S C hcp (ZdW ▸ h) R P PX
theorem G1 (Pm : YU prog w B₀ Kf pg) (Fn : ∀ a f, pg.fn a = some f → ZZ prog w B₀ a f) (hlim : B₀.NoLimit) : ∀ n, Snd prog w B₀ pg n
 | 0 => by
  refine ⟨?_, ?_, ?_, ?_⟩
  ·intro A env outs L fi C loc σ Λ ρ s e K X Q E h R P PX; exact h.elim
  ·intro A env outs L fi C loc σ Λ ρ s e K X Q E h R P PX; exact h.elim
  ·intro A env outs L fi C loc σ Λ ρ s e K X Q E h R P PX; exact h.elim
  ·intro A env outs L fi C loc σ Λ ρ s a args xs K X Q E h R V P PX; exact h.elim
 | n + 1 => by
  have S := G1 Pm Fn hlim n
  refine ⟨?_, ?_, ?_, ?_⟩
  ·intro A env outs L fi C loc σ Λ ρ s e K X Q E h R P PX; exact Zna Pm.toPrims S C h R P PX (fun el gens scope pos hc => ZgR Pm S C hc R P PX)
  ·intro A env outs L fi C loc σ Λ ρ s e K X Q E h R P PX; exact Zm7 S Pm.M C.less h R P PX
  ·intro A env outs L fi C loc σ Λ ρ s e K X Q E h R P PX; exact Zlc Pm S C h.l h.r R P PX
  ·intro A env outs L fi C loc σ Λ ρ s a args xs K X Q E h R V P PX; exact Znb Fn hlim S C h R V P PX
end
noncomputable def bindL : List (Str × Option AV) → List AV → Option Loc
 | [], [] => some []
 | [], _ :: _ => none
 | (n, d) :: ps, vs => match vs with
  | v :: vs => (match bindL ps vs with | some l => some ((n, v) :: l) | none => none)
  | [] => (match d with
   | some v => (match bindL ps [] with | some l => some ((n, v) :: l) | none => none)
   | none => none)
noncomputable def Zi (k : Nat) (ps : List (Str × Option AV)) : Yv := { body := Zdx Zh[k]?, names := ZgH Zh[k]?, bind := bindL ps }
noncomputable def P1 (a : String) : List (Str × Option AV) := [(Str.ofString a, none)]
noncomputable def P2 (a b : String) : List (Str × Option AV) := [(Str.ofString a, none), (Str.ofString b, none)]
noncomputable def P3 (a b c : String) : List (Str × Option AV) := [(Str.ofString a, none), (Str.ofString b, none), (Str.ofString c, none)]
noncomputable def Zie (a : Nat) : List (Nat × Yv) → Option Yv
 | [] => none
 | p :: l => match Nat.beq a p.1 with
  | true => some p.2
  | false => Zie a l
noncomputable def Zgn : List (Nat × Yv) := [
 (61, Zi 4 (P2 "worth" "size")),
 (96, Zi 8 []),
 (103, Zi 9 []),
 (111, Zi 10 [(Str.ofString "number", none), (Str.ofString "size", some (.int 64))]),
 (118, Zi 11 (P3 "sort" "part" "parts")),
 (126, Zi 12 [(Str.ofString "row", none), (Str.ofString "shapes", some .none)]),
 (133, Zi 13 (P1 "row")),
 (140, Zi 14 (P1 "row")),
 (147, Zi 15 (P1 "rows")),
 (154, Zi 16 (P1 "rows")),
 (161, Zi 17 (P2 "base" "far")),
 (168, Zi 18 (P1 "row")),
 (175, Zi 19 (P2 "kind" "number")),
 (182, Zi 20 (P1 "row")),
 (196, Zi 25 (P2 "pen" "many")),
 (203, Zi 26 (P2 "pen" "some")),
 (210, Zi 27 (P2 "number" "size")),
 (217, Zi 28 (P2 "base" "far")),
 (224, Zi 29 (P1 "pen")),
 (231, Zi 30 (P2 "name" "parts")),
 (238, Zi 31 (P1 "pen"))]
noncomputable def Zbe (a : Nat) : Option Yv := Zie a Zgn
theorem J8 {a : Nat} {f : Yv} : ∀ {l : List (Nat × Yv)}, Zie a l = some f → (a, f) ∈ l
 | [], e => nomatch e
 | p :: l, e => by
  change (match Nat.beq a p.1 with | true => some p.2 | false => Zie a l) = some f at e
  cases q : Nat.beq a p.1 with
  | true => rw [q] at e; obtain rfl := Nat.eq_of_beq_eq_true q; obtain rfl := Option.some.inj e; exact .head _
  | false => rw [q] at e; exact .tail _ (J8 e)
noncomputable def sv (x : String) : AV := .str (Str.ofString x)
noncomputable def ZbC : List AV := [sv "rax", sv "rcx", sv "rdx", sv "rbx", sv "rsp", sv "rbp", sv "rsi", sv "rdi", sv "r8", sv "r9", sv "r10", sv "r11", sv "r12", sv "r13", sv "r14", sv "r15"]
noncomputable def Zce : List AV := [sv "eax", sv "ecx", sv "edx", sv "ebx", sv "esp", sv "ebp", sv "esi", sv "edi", sv "r8d", sv "r9d", sv "r10d", sv "r11d", sv "r12d", sv "r13d", sv "r14d", sv "r15d"]
noncomputable def gl (n : String) (v : AV) : Str × AV := (Str.ofString n, v)
noncomputable def Zdl : List (Str × AV) := [gl "len" (.bi .len), gl "isinstance" (.bi .isinstance), gl "abs" (.bi .abs), gl "min" (.bi .min), gl "bool" (.ty .bool), gl "int" (.ty .int), gl "str" (.ty .str), gl "tuple" (.ty .tuple), gl "range" (.ty .range), gl "zip" (.ty .zip), gl "enumerate" (.ty .enumerate),
 gl "U64" (.int 18446744073709551615), gl "MOST_LABEL" (.int 1000000), gl "_law_wholes" (.tup ZbC), gl "_law_halves" (.tup Zce), gl "RowError" (.old 52), gl "Row" (.old 85),
 gl "fits_signed" (.old 61), gl "row_shapes" (.old 96), gl "conditions" (.old 103), gl "register_name" (.old 111), gl "part_fits" (.old 118), gl "check_row" (.old 126), gl "is_mark" (.old 133), gl "goal_of" (.old 140), gl "marks_of" (.old 147), gl "check_rows" (.old 154),
 gl "place_text" (.old 161), gl "memory_text" (.old 168), gl "goal_text" (.old 175), gl "show_row" (.old 182), gl "_law_draw" (.old 196), gl "_law_pick" (.old 203), gl "_law_reg" (.old 210), gl "_law_spot" (.old 217), gl "_law_case" (.old 224), gl "_law_is_refused" (.old 231), gl "_law_row_holds" (.old 238), gl "_law_ways_hold" (.old 243), gl "_law_pen" (.old 189)]
noncomputable def Zz : List (Str × Str) := [
 (⟨⟨[109, 111, 118, 97, 98, 115]⟩⟩, ⟨⟨[114, 117]⟩⟩),
 (⟨⟨[109, 111, 118, 122, 120]⟩⟩, ⟨⟨[104, 114, 114]⟩⟩),
 (⟨⟨[109, 111, 118, 115, 120]⟩⟩, ⟨⟨[122, 120, 114, 114]⟩⟩),
 (⟨⟨[110, 101, 103]⟩⟩, ⟨⟨[122, 114]⟩⟩),
 (⟨⟨[98, 115, 119, 97, 112]⟩⟩, ⟨⟨[122, 114]⟩⟩),
 (⟨⟨[114, 111, 114, 49, 54]⟩⟩, ⟨⟨[114]⟩⟩),
 (⟨⟨[99, 113, 111]⟩⟩, ⟨⟨[122]⟩⟩),
 (⟨⟨[109, 111, 118]⟩⟩, ⟨⟨[122, 114, 114]⟩⟩),
 (⟨⟨[109, 111, 118, 95, 105, 109, 109]⟩⟩, ⟨⟨[122, 114, 105]⟩⟩),
 (⟨⟨[105, 109, 117, 108]⟩⟩, ⟨⟨[122, 114, 114]⟩⟩),
 (⟨⟨[105, 109, 117, 108, 95, 105, 109, 109]⟩⟩, ⟨⟨[122, 114, 105]⟩⟩),
 (⟨⟨[97, 100, 100]⟩⟩, ⟨⟨[122, 114, 114]⟩⟩),
 (⟨⟨[97, 100, 100, 95, 105, 109, 109]⟩⟩, ⟨⟨[122, 114, 105]⟩⟩),
 (⟨⟨[115, 117, 98]⟩⟩, ⟨⟨[122, 114, 114]⟩⟩),
 (⟨⟨[115, 117, 98, 95, 105, 109, 109]⟩⟩, ⟨⟨[122, 114, 105]⟩⟩),
 (⟨⟨[97, 110, 100]⟩⟩, ⟨⟨[122, 114, 114]⟩⟩),
 (⟨⟨[97, 110, 100, 95, 105, 109, 109]⟩⟩, ⟨⟨[122, 114, 105]⟩⟩),
 (⟨⟨[111, 114]⟩⟩, ⟨⟨[122, 114, 114]⟩⟩),
 (⟨⟨[111, 114, 95, 105, 109, 109]⟩⟩, ⟨⟨[122, 114, 105]⟩⟩),
 (⟨⟨[120, 111, 114]⟩⟩, ⟨⟨[122, 114, 114]⟩⟩),
 (⟨⟨[120, 111, 114, 95, 105, 109, 109]⟩⟩, ⟨⟨[122, 114, 105]⟩⟩),
 (⟨⟨[99, 109, 112]⟩⟩, ⟨⟨[122, 114, 114]⟩⟩),
 (⟨⟨[99, 109, 112, 95, 105, 109, 109]⟩⟩, ⟨⟨[122, 114, 105]⟩⟩),
 (⟨⟨[116, 101, 115, 116]⟩⟩, ⟨⟨[122, 114, 114]⟩⟩),
 (⟨⟨[116, 101, 115, 116, 95, 105, 109, 109]⟩⟩, ⟨⟨[122, 114, 105]⟩⟩),
 (⟨⟨[115, 104, 108]⟩⟩, ⟨⟨[122, 114]⟩⟩),
 (⟨⟨[115, 104, 108, 95, 105, 109, 109]⟩⟩, ⟨⟨[122, 114, 110]⟩⟩),
 (⟨⟨[115, 104, 114]⟩⟩, ⟨⟨[122, 114]⟩⟩),
 (⟨⟨[115, 104, 114, 95, 105, 109, 109]⟩⟩, ⟨⟨[122, 114, 110]⟩⟩),
 (⟨⟨[115, 97, 114]⟩⟩, ⟨⟨[122, 114]⟩⟩),
 (⟨⟨[115, 97, 114, 95, 105, 109, 109]⟩⟩, ⟨⟨[122, 114, 110]⟩⟩),
 (⟨⟨[100, 105, 118]⟩⟩, ⟨⟨[122, 114]⟩⟩),
 (⟨⟨[105, 100, 105, 118]⟩⟩, ⟨⟨[122, 114]⟩⟩),
 (⟨⟨[108, 111, 97, 100]⟩⟩, ⟨⟨[119, 114, 114, 105]⟩⟩),
 (⟨⟨[108, 111, 97, 100, 95, 115, 120]⟩⟩, ⟨⟨[120, 114, 114, 105]⟩⟩),
 (⟨⟨[115, 116, 111, 114, 101]⟩⟩, ⟨⟨[119, 114, 105, 114]⟩⟩),
 (⟨⟨[115, 116, 111, 114, 101, 95, 105, 109, 109]⟩⟩, ⟨⟨[119, 114, 105, 105]⟩⟩),
 (⟨⟨[108, 111, 99, 107, 95, 97, 100, 100]⟩⟩, ⟨⟨[122, 114, 105, 114]⟩⟩),
 (⟨⟨[108, 111, 99, 107, 95, 97, 110, 100]⟩⟩, ⟨⟨[122, 114, 105, 114]⟩⟩),
 (⟨⟨[108, 111, 99, 107, 95, 111, 114]⟩⟩, ⟨⟨[122, 114, 105, 114]⟩⟩),
 (⟨⟨[108, 111, 99, 107, 95, 120, 111, 114]⟩⟩, ⟨⟨[122, 114, 105, 114]⟩⟩),
 (⟨⟨[120, 97, 100, 100]⟩⟩, ⟨⟨[122, 114, 105, 114]⟩⟩),
 (⟨⟨[120, 99, 104, 103, 95, 109, 101, 109]⟩⟩, ⟨⟨[122, 114, 105, 114]⟩⟩),
 (⟨⟨[99, 109, 112, 120, 99, 104, 103]⟩⟩, ⟨⟨[122, 114, 105, 114]⟩⟩),
 (⟨⟨[112, 117, 115, 104]⟩⟩, ⟨⟨[114]⟩⟩),
 (⟨⟨[112, 111, 112]⟩⟩, ⟨⟨[114]⟩⟩),
 (⟨⟨[111, 114, 100, 101, 114]⟩⟩, ⟨⟨[108]⟩⟩),
 (⟨⟨[108, 97, 98, 101, 108]⟩⟩, ⟨⟨[108]⟩⟩),
 (⟨⟨[101, 110, 116, 114, 121]⟩⟩, ⟨⟨[108]⟩⟩),
 (⟨⟨[99, 97, 108, 108]⟩⟩, ⟨⟨[108]⟩⟩),
 (⟨⟨[99, 97, 108, 108, 95, 104, 111, 115, 116]⟩⟩, ⟨⟨[108]⟩⟩),
 (⟨⟨[106, 109, 112]⟩⟩, ⟨⟨[107, 108]⟩⟩),
 (⟨⟨[106, 99, 99]⟩⟩, ⟨⟨[99, 107, 108]⟩⟩),
 (⟨⟨[114, 101, 116]⟩⟩, ⟨⟨[]⟩⟩)]
noncomputable def pg0 : Pg := { glob := Zdl, fn := Zbe, ctr := fun _ => none }
noncomputable def pg1 : Pg := { pg0 with ctr := fun a => match Nat.beq a 96 with | true => some (20, fun args K _ => match args with | [] => K (.dss Zz) | _ :: _ => False) | false => none }
noncomputable abbrev Ct := List AV → (AV → Prop) → (AX → Prop) → Prop
noncomputable def Ws (pg : Pg) (a : Nat) (n : Nat) (c : Ct) : Pg := { glob := pg.glob, fn := pg.fn, ctr := fun b => match Nat.beq b a with | true => some (n, c) | false => pg.ctr b }
noncomputable def G2 : List (Str × AV) → Option (List (Str × Str))
 | [] => some []
 | p :: l => match p.2 with
  | .str x => (match G2 l with | some m => some ((p.1, x) :: m) | none => none)
  | _ => none
noncomputable def fz (σ : Led) (v : AV) : Option AV := match v with
 | .ref k => (match σ[k]? with
  | some o => (match o with
   | .lst vs => some (.lst vs)
   | .ali u => some u
   | .dsv es => (match G2 es with | some l => some (.dss l) | none => none)
   | .dmk es => some (.dmk es)
   | _ => none)
  | none => none)
 | v => some v
structure kfz (K : AV → Prop) (v : AV) (σ : Led) : Prop where
 ok : Z3 (fz σ v) K
noncomputable def Xe (pg : Pg) (n : Nat) (a : Nat) (c : Ct) : Prop := ∀ args K X, c args K X → (ev pg n).C true a args [] (kfz K) (fun x _ => X x)
theorem ZC {c : Bool} {p q : Prop} (h1 : c = true → p) (h2 : c = false → q) : Wx c p q := by
 cases c
 ·exact h2 rfl
 ·exact h1 rfl
theorem YX {c : Bool} {p q : Prop} (h : c = true) (h1 : p) : Wx c p q := by rw [h]; exact h1
theorem Zd {c : Bool} {p q : Prop} (h : c = false) (h1 : q) : Wx c p q := by rw [h]; exact h1
theorem X6 {K : AV → Prop} {v u : AV} {σ : Led} (e : fz σ v = some u) (h : K u) : kfz K v σ := ⟨by rw [e]; exact h⟩
noncomputable def ZmO : Ct := fun args K _ => match args with | [] => K (.dss Zz) | _ :: _ => False
noncomputable def pgA : Pg := Ws pg0 96 24 ZmO
theorem ZmN : Xe pg0 24 96 ZmO := by
 intro args K X h
 cases args with
 | cons _ _ => exact h.elim
 | nil =>
  iterate 12 (refine Za (by decide +kernel) ?_)
  refine X6 (u := .dss Zz) ?_ h
  kernel_rfl
noncomputable def ZkX : List Str := [⟨⟨[101]⟩⟩, ⟨⟨[110, 101]⟩⟩, ⟨⟨[97]⟩⟩, ⟨⟨[97, 101]⟩⟩, ⟨⟨[98]⟩⟩, ⟨⟨[98, 101]⟩⟩, ⟨⟨[103]⟩⟩, ⟨⟨[103, 101]⟩⟩, ⟨⟨[108]⟩⟩, ⟨⟨[108, 101]⟩⟩]
noncomputable def Zku : List Str := [⟨⟨[111, 114, 100, 101, 114]⟩⟩, ⟨⟨[108, 97, 98, 101, 108]⟩⟩]
noncomputable def p0 : List AV → Int
 | .int i :: _ => i
 | _ => 0
noncomputable def YD (c : Nat) (i p : Int) : Bool :=
 if c = 122 then decide (i = 32) || decide (i = 64)
 else if c = 119 then WV i [1, 2, 4, 8]
 else if c = 104 then WV i [1, 2]
 else if c = 120 then WV i [1, 2, 4]
 else if c = 114 then decide (0 ≤ i) && decide (i < 16)
 else if c = 105 then decide (-2147483648 ≤ i) && decide (i < 2147483648)
 else if c = 117 then decide (0 ≤ i) && decide (i ≤ 18446744073709551615)
 else if c = 110 then decide (0 ≤ i) && decide (i < p)
 else decide (0 ≤ i) && decide (i ≤ 1000000)
noncomputable def WH (c : Nat) (x : Str) : Bool := if c = 99 then Yc x ZkX else if c = 107 then Yc x Zku else false
noncomputable def Z5 (c : Nat) (v : AV) (ps : List AV) : Bool := match v with
 | .int i => YD c i (p0 ps)
 | .str x => WH c x
 | _ => false
inductive YE : AV → Prop
 | int (i : Int) : YE (.int i)
 | str (x : Str) : YE (.str x)
 | bool (b : Bool) : YE (.bool b)
 | none : YE .none
noncomputable def VK (c : Nat) (v : AV) (ps : List AV) : Prop :=
 ((c = 99 ∨ c = 107) ∧ ∃ x, v = .str x) ∨ ((c = 122 ∨ c = 119 ∨ c = 104 ∨ c = 120 ∨ c = 114 ∨ c = 105 ∨ c = 117 ∨ c = 110 ∨ c = 108) ∧ YE v ∧ (c = 110 → ∃ i l, ps = .int i :: l))
structure ZgQ (args : List AV) (K : AV → Prop) (X : AX → Prop) : Prop where
 ok : ∃ c v ps, args = [.str ⟨⟨[c]⟩⟩, v, .tup ps] ∧ VK c v ps ∧ K (.bool (Z5 c v ps))
theorem fin {K : AV → Prop} {b b' : Bool} {σ : Led} (h : K (.bool b)) (e : b' = b) : kfz K (.bool b') σ := by subst e; exact X6 rfl h
section
variable {K : AV → Prop} {X : KC} {x : Str} {ps : List AV} {i : Int}
theorem Zmv (h : K (.bool (WH 99 x))) : (ev pgA 24).C true 118 [.str ⟨⟨[99]⟩⟩, .str x, .tup ps] [] (kfz K) X := by
 exact fin h rfl
theorem Zms (h : K (.bool (WH 107 x))) : (ev pgA 24).C true 118 [.str ⟨⟨[107]⟩⟩, .str x, .tup ps] [] (kfz K) X := by
 exact fin h rfl
theorem Zml (h : K (.bool (YD 122 i (p0 ps)))) : (ev pgA 24).C true 118 [.str ⟨⟨[122]⟩⟩, .int i, .tup ps] [] (kfz K) X := by
 refine ZC (fun h1 => ?_) (fun h1 => ?_)
 ·exact fin h (by simp only [YD, if_true, h1, Bool.true_or])
 ·exact fin h (by simp only [YD, if_true, h1, Bool.false_or])
theorem Zmn (h : K (.bool (YD 119 i (p0 ps)))) : (ev pgA 24).C true 118 [.str ⟨⟨[119]⟩⟩, .int i, .tup ps] [] (kfz K) X := by
 exact fin h rfl
theorem Zmu (h : K (.bool (YD 104 i (p0 ps)))) : (ev pgA 24).C true 118 [.str ⟨⟨[104]⟩⟩, .int i, .tup ps] [] (kfz K) X := by
 exact fin h rfl
theorem Zmm (h : K (.bool (YD 120 i (p0 ps)))) : (ev pgA 24).C true 118 [.str ⟨⟨[120]⟩⟩, .int i, .tup ps] [] (kfz K) X := by
 exact fin h rfl
theorem Zmp (h : K (.bool (YD 114 i (p0 ps)))) : (ev pgA 24).C true 118 [.str ⟨⟨[114]⟩⟩, .int i, .tup ps] [] (kfz K) X := by
 refine ZC (fun h1 => ?_) (fun h1 => ?_)
 ·exact fin h (by show decide (i < 16) = (decide (0 ≤ i) && decide (i < 16)); rw [h1]; rfl)
 ·exact fin h (by show false = (decide (0 ≤ i) && decide (i < 16)); rw [h1]; rfl)
theorem Zmt (h : K (.bool (YD 105 i (p0 ps)))) : (ev pgA 24).C true 118 [.str ⟨⟨[105]⟩⟩, .int i, .tup ps] [] (kfz K) X := by
 refine ZC (fun h1 => ?_) (fun h1 => ?_)
 ·exact fin h (by show decide (i < 2147483648) = (decide (-2147483648 ≤ i) && decide (i < 2147483648)); rw [show decide (-2147483648 ≤ i) = true from h1]; rfl)
 ·exact fin h (by show false = (decide (-2147483648 ≤ i) && decide (i < 2147483648)); rw [show decide (-2147483648 ≤ i) = false from h1]; rfl)
theorem Zmo (h : K (.bool (YD 117 i (p0 ps)))) : (ev pgA 24).C true 118 [.str ⟨⟨[117]⟩⟩, .int i, .tup ps] [] (kfz K) X := by
 refine ZC (fun h1 => ?_) (fun h1 => ?_)
 ·exact fin h (by show decide (i ≤ 18446744073709551615) = (decide (0 ≤ i) && decide (i ≤ 18446744073709551615)); rw [h1]; rfl)
 ·exact fin h (by show false = (decide (0 ≤ i) && decide (i ≤ 18446744073709551615)); rw [h1]; rfl)
theorem Zmr (h : K (.bool (YD 108 i (p0 ps)))) : (ev pgA 24).C true 118 [.str ⟨⟨[108]⟩⟩, .int i, .tup ps] [] (kfz K) X := by
 refine ZC (fun h1 => ?_) (fun h1 => ?_)
 ·exact fin h (by show decide (i ≤ 1000000) = (decide (0 ≤ i) && decide (i ≤ 1000000)); rw [h1]; rfl)
 ·exact fin h (by show false = (decide (0 ≤ i) && decide (i ≤ 1000000)); rw [h1]; rfl)
theorem Zmq {p : Int} (h : K (.bool (YD 110 i p))) : (ev pgA 24).C true 118 [.str ⟨⟨[110]⟩⟩, .int i, .tup (.int p :: ps)] [] (kfz K) X := by
 refine ZC (fun h1 => ?_) (fun h1 => ?_)
 ·exact fin h (by show decide (i < p) = (decide (0 ≤ i) && decide (i < p)); rw [h1]; rfl)
 ·exact fin h (by show false = (decide (0 ≤ i) && decide (i < p)); rw [h1]; rfl)
end
theorem Zep {K : AV → Prop} {X : KC} {ps : List AV} {x : Str} (h : K (.bool false)) : (ev pgA 24).C true 118 [.str ⟨⟨[122]⟩⟩, .str x, .tup ps] [] (kfz K) X := by
 exact fin h rfl
theorem Zcn {K : AV → Prop} {X : KC} {ps : List AV} {b : Bool} (h : K (.bool false)) : (ev pgA 24).C true 118 [.str ⟨⟨[122]⟩⟩, .bool b, .tup ps] [] (kfz K) X := by
 exact fin h rfl
theorem Zcm {K : AV → Prop} {X : KC} {ps : List AV}  (h : K (.bool false)) : (ev pgA 24).C true 118 [.str ⟨⟨[122]⟩⟩, .none, .tup ps] [] (kfz K) X := by
 exact fin h rfl
theorem Zer {K : AV → Prop} {X : KC} {ps : List AV} {x : Str} (h : K (.bool false)) : (ev pgA 24).C true 118 [.str ⟨⟨[119]⟩⟩, .str x, .tup ps] [] (kfz K) X := by
 exact fin h rfl
theorem Zcr {K : AV → Prop} {X : KC} {ps : List AV} {b : Bool} (h : K (.bool false)) : (ev pgA 24).C true 118 [.str ⟨⟨[119]⟩⟩, .bool b, .tup ps] [] (kfz K) X := by
 exact fin h rfl
theorem Zcq {K : AV → Prop} {X : KC} {ps : List AV}  (h : K (.bool false)) : (ev pgA 24).C true 118 [.str ⟨⟨[119]⟩⟩, .none, .tup ps] [] (kfz K) X := by
 exact fin h rfl
theorem Zex {K : AV → Prop} {X : KC} {ps : List AV} {x : Str} (h : K (.bool false)) : (ev pgA 24).C true 118 [.str ⟨⟨[104]⟩⟩, .str x, .tup ps] [] (kfz K) X := by
 exact fin h rfl
theorem ZcD {K : AV → Prop} {X : KC} {ps : List AV} {b : Bool} (h : K (.bool false)) : (ev pgA 24).C true 118 [.str ⟨⟨[104]⟩⟩, .bool b, .tup ps] [] (kfz K) X := by
 exact fin h rfl
theorem ZcC {K : AV → Prop} {X : KC} {ps : List AV}  (h : K (.bool false)) : (ev pgA 24).C true 118 [.str ⟨⟨[104]⟩⟩, .none, .tup ps] [] (kfz K) X := by
 exact fin h rfl
theorem Zeq {K : AV → Prop} {X : KC} {ps : List AV} {x : Str} (h : K (.bool false)) : (ev pgA 24).C true 118 [.str ⟨⟨[120]⟩⟩, .str x, .tup ps] [] (kfz K) X := by
 exact fin h rfl
theorem Zcp {K : AV → Prop} {X : KC} {ps : List AV} {b : Bool} (h : K (.bool false)) : (ev pgA 24).C true 118 [.str ⟨⟨[120]⟩⟩, .bool b, .tup ps] [] (kfz K) X := by
 exact fin h rfl
theorem Zco {K : AV → Prop} {X : KC} {ps : List AV}  (h : K (.bool false)) : (ev pgA 24).C true 118 [.str ⟨⟨[120]⟩⟩, .none, .tup ps] [] (kfz K) X := by
 exact fin h rfl
theorem Zet {K : AV → Prop} {X : KC} {ps : List AV} {x : Str} (h : K (.bool false)) : (ev pgA 24).C true 118 [.str ⟨⟨[114]⟩⟩, .str x, .tup ps] [] (kfz K) X := by
 exact fin h rfl
theorem Zcv {K : AV → Prop} {X : KC} {ps : List AV} {b : Bool} (h : K (.bool false)) : (ev pgA 24).C true 118 [.str ⟨⟨[114]⟩⟩, .bool b, .tup ps] [] (kfz K) X := by
 exact fin h rfl
theorem Zcu {K : AV → Prop} {X : KC} {ps : List AV}  (h : K (.bool false)) : (ev pgA 24).C true 118 [.str ⟨⟨[114]⟩⟩, .none, .tup ps] [] (kfz K) X := by
 exact fin h rfl
theorem Zew {K : AV → Prop} {X : KC} {ps : List AV} {x : Str} (h : K (.bool false)) : (ev pgA 24).C true 118 [.str ⟨⟨[105]⟩⟩, .str x, .tup ps] [] (kfz K) X := by
 exact fin h rfl
theorem ZcB {K : AV → Prop} {X : KC} {ps : List AV} {b : Bool} (h : K (.bool false)) : (ev pgA 24).C true 118 [.str ⟨⟨[105]⟩⟩, .bool b, .tup ps] [] (kfz K) X := by
 exact fin h rfl
theorem ZcA {K : AV → Prop} {X : KC} {ps : List AV}  (h : K (.bool false)) : (ev pgA 24).C true 118 [.str ⟨⟨[105]⟩⟩, .none, .tup ps] [] (kfz K) X := by
 exact fin h rfl
theorem Zes {K : AV → Prop} {X : KC} {ps : List AV} {x : Str} (h : K (.bool false)) : (ev pgA 24).C true 118 [.str ⟨⟨[117]⟩⟩, .str x, .tup ps] [] (kfz K) X := by
 exact fin h rfl
theorem Zct {K : AV → Prop} {X : KC} {ps : List AV} {b : Bool} (h : K (.bool false)) : (ev pgA 24).C true 118 [.str ⟨⟨[117]⟩⟩, .bool b, .tup ps] [] (kfz K) X := by
 exact fin h rfl
theorem Zcs {K : AV → Prop} {X : KC} {ps : List AV}  (h : K (.bool false)) : (ev pgA 24).C true 118 [.str ⟨⟨[117]⟩⟩, .none, .tup ps] [] (kfz K) X := by
 exact fin h rfl
theorem Zeu {K : AV → Prop} {X : KC} {ps : List AV} {x : Str} (h : K (.bool false)) : (ev pgA 24).C true 118 [.str ⟨⟨[110]⟩⟩, .str x, .tup ps] [] (kfz K) X := by
 exact fin h rfl
theorem Zcx {K : AV → Prop} {X : KC} {ps : List AV} {b : Bool} (h : K (.bool false)) : (ev pgA 24).C true 118 [.str ⟨⟨[110]⟩⟩, .bool b, .tup ps] [] (kfz K) X := by
 exact fin h rfl
theorem Zcw {K : AV → Prop} {X : KC} {ps : List AV}  (h : K (.bool false)) : (ev pgA 24).C true 118 [.str ⟨⟨[110]⟩⟩, .none, .tup ps] [] (kfz K) X := by
 exact fin h rfl
theorem Zev {K : AV → Prop} {X : KC} {ps : List AV} {x : Str} (h : K (.bool false)) : (ev pgA 24).C true 118 [.str ⟨⟨[108]⟩⟩, .str x, .tup ps] [] (kfz K) X := by
 exact fin h rfl
theorem Zcz {K : AV → Prop} {X : KC} {ps : List AV} {b : Bool} (h : K (.bool false)) : (ev pgA 24).C true 118 [.str ⟨⟨[108]⟩⟩, .bool b, .tup ps] [] (kfz K) X := by
 exact fin h rfl
theorem Zcy {K : AV → Prop} {X : KC} {ps : List AV}  (h : K (.bool false)) : (ev pgA 24).C true 118 [.str ⟨⟨[108]⟩⟩, .none, .tup ps] [] (kfz K) X := by
 exact fin h rfl
theorem ZkV : Xe pgA 24 118 ZgQ := by
 intro args K X h
 obtain ⟨c, v, ps, rfl, hp, h⟩ := h.ok
 obtain ⟨rfl | rfl, x, rfl⟩ | ⟨hc, hs, hn⟩ := hp
 ·exact Zmv h
 ·exact Zms h
 ·obtain rfl | rfl | rfl | rfl | rfl | rfl | rfl | rfl | rfl := hc
  ·cases hs with
   | int i => exact Zml h
   | str x => exact Zep h
   | bool b => exact Zcn h
   | none => exact Zcm h
  ·cases hs with
   | int i => exact Zmn h
   | str x => exact Zer h
   | bool b => exact Zcr h
   | none => exact Zcq h
  ·cases hs with
   | int i => exact Zmu h
   | str x => exact Zex h
   | bool b => exact ZcD h
   | none => exact ZcC h
  ·cases hs with
   | int i => exact Zmm h
   | str x => exact Zeq h
   | bool b => exact Zcp h
   | none => exact Zco h
  ·cases hs with
   | int i => exact Zmp h
   | str x => exact Zet h
   | bool b => exact Zcv h
   | none => exact Zcu h
  ·cases hs with
   | int i => exact Zmt h
   | str x => exact Zew h
   | bool b => exact ZcB h
   | none => exact ZcA h
  ·cases hs with
   | int i => exact Zmo h
   | str x => exact Zes h
   | bool b => exact Zct h
   | none => exact Zcs h
  ·obtain ⟨p, l, rfl⟩ := hn rfl
   cases hs with
   | int i => exact Zmq h
   | str x => exact Zeu h
   | bool b => exact Zcx h
   | none => exact Zcw h
  ·cases hs with
   | int i => exact Zmr h
   | str x => exact Zev h
   | bool b => exact Zcz h
   | none => exact Zcy h
noncomputable def pgB : Pg := Ws pgA 118 24 ZgQ
theorem ZiV {c : Nat} {v : AV} {ps : List AV} {K : AV → Prop} {X : AX → Prop} (h : VK c v ps) (k : K (.bool (Z5 c v ps))) : ZgQ [.str ⟨⟨[c]⟩⟩, v, .tup ps] K X := ⟨c, v, ps, rfl, h, k⟩
theorem ZcV {α : Type} {o : Option α} {f : α → Prop} {g : Prop} (h1 : ∀ y, o = some y → f y) (h2 : o = none → g) : ZhN o f g := by
 cases o with
 | none => exact h2 rfl
 | some y => exact h1 y rfl
theorem XB {r : Ev} {fi : FI} {t : Expr} {body : List Stmt} {K : KS} {X : KX} (I : List AV → Loc → Led → Prop) (h0 : ∀ loc σ, I [] loc σ → K .next loc σ)
  (h1 : ∀ v vs loc σ, I (v :: vs) loc σ → ∀ (kk : KS) (XX : KX), (∀ l σ, I vs l σ → kk .next l σ) → (∀ u l σ, K (.ret u) l σ → kk (.ret u) l σ) → (∀ x l σ, X x l σ → XX x l σ) → G5 r fi t v loc σ (fun l σ => r.Ss fi l σ body kk XX) (fun x σ => XX x loc σ)) : ∀ vs loc σ, I vs loc σ → Zgl r fi t body vs loc σ K X
 | [], loc, σ, h => h0 loc σ h
 | v :: vs, loc, σ, h => h1 v vs loc σ h _ _ (fun l σ h => XB I h0 h1 vs l σ h) (fun _ _ _ h => h) (fun _ _ _ h => h)
noncomputable def Yh : List Nat → List AV → List AV → Bool
 | c :: cs, v :: vs, ps => Z5 c v ps && Yh cs vs ps
 | _, _, _ => true
noncomputable def WG : List Nat → List AV → List AV → Prop
 | c :: cs, v :: vs, ps => VK c v ps ∧ (Z5 c v ps = true → WG cs vs ps)
 | _, _, _ => True
noncomputable def YZ : Str := Str.ofString "movsx"
noncomputable def Yu (name : Str) (ps : List AV) : Bool := sEq name YZ && (match ps with
 | .int a :: .int b :: _ => decide (a = 32) && decide (b = 4)
 | _ => false)
noncomputable def ZW (name : Str) (ps : List AV) : Bool := match ZJ name Zz with
 | none => false
 | some y => Nat.beq y.cps.toList.length ps.length && (Yh y.cps.toList ps ps && !Yu name ps)
noncomputable def Z4 (name : Str) (ps : List AV) : Prop := Zf name ≤ 1000 ∧ ps.length ≤ 1000 ∧ ∀ y, ZJ name Zz = some y → y.cps.toList.length = ps.length → WG y.cps.toList ps ps
structure ZdA (args : List AV) (K : AV → Prop) (X : AX → Prop) : Prop where
 ok : ∃ name ps, (args = [.row name ps] ∨ args = [.row name ps, .dss Zz]) ∧ Z4 name ps ∧ (ZW name ps = true → K (.row name ps)) ∧ (ZW name ps = false → X ⟨.none⟩)
theorem Vu {x y : Str} : ∀ {l : List (Str × Str)}, ZJ x l = some y → (x, y) ∈ l
 | p :: l, h => by
  rw [ZaK] at h
  generalize q : sEq x p.1 = zz at h ⊢
  cases zz with
  | true =>
   have := ZH.mp q
   subst this
   (replace h := xI h; cases h)
   exact .head _
  | false => exact .tail _ (Vu h)
noncomputable def Gx (y : Str) : Bool := V8 y.cps.toList && Nat.ble y.cps.toList.length 4
theorem ZaO : ∀ p ∈ Zz, Gx p.2 = true := by decide +kernel
theorem Jz {x y : Str} (h : ZJ x Zz = some y) : V8 y.cps.toList = true ∧ y.cps.toList.length ≤ 4 := by
 have := ZaO _ (Vu h)
 unfold Gx at this
 obtain ⟨h1, h2⟩ := Bool.and_eq_true_iff.mp this
 exact ⟨h1, Nat.le_of_ble_eq_true h2⟩
theorem Zc {n : Nat} (h : n ≤ 16777216) : ZU n := Nat.ble_eq_true_of_le h
theorem Yy {name : Str} {ps : List AV} {cs : List Nat} (h : ZJ name Zz = some ⟨⟨cs⟩⟩) (hl : cs.length = ps.length) : ZW name ps = (Yh cs ps ps && !Yu name ps) := by
 delta ZW
 rw [h]
 show (Nat.beq cs.length ps.length && _) = _
 rw [show Nat.beq cs.length ps.length = true from by rw [hl]; exact Nat.beq_refl _]
 rfl
theorem Wj {name : Str} {ps : List AV} (h : ZJ name Zz = none) : ZW name ps = false := by
 delta ZW
 rw [h]
theorem Up {name : Str} {ps : List AV} {cs : List Nat} (h : ZJ name Zz = some ⟨⟨cs⟩⟩) (hl : cs.length ≠ ps.length) : ZW name ps = false := by
 delta ZW
 rw [h]
 show (Nat.beq cs.length ps.length && _) = _
 rw [show Nat.beq cs.length ps.length = false from by
  cases q : Nat.beq cs.length ps.length with
  | false => rfl
  | true => exact (hl (Nat.eq_of_beq_eq_true q)).elim]
 rfl
theorem ZfU : Zf (Str.ofString "no row is called ") = 17 := by decide +kernel
theorem ZhZ : Zf (Str.ofString " has another number of parts") = 28 := by decide +kernel
theorem Zdc : Zf (Str.ofString " has a part that can't be") = 25 := by decide +kernel
theorem WJ : ZJ YZ Zz = some ⟨⟨[122, 120, 114, 114]⟩⟩ := by decide +kernel
theorem V0 {c : Nat} {v : AV} {ps : List AV} (h : VK c v ps) : YE v := by
 obtain ⟨_, x, rfl⟩ | ⟨_, h, _⟩ := h
 ·exact .str x
 ·exact h
theorem ZiZ {b : Bool} (h : (!b) = false) : b = true := by cases b <;> simp_all
theorem Zhb {cs : List Nat} {vs : List AV} (h : [] = UY cs vs) (hl : cs.length = vs.length) : cs = [] ∧ vs = [] := by
 cases cs with
 | nil => cases vs with
  | nil => exact ⟨rfl, rfl⟩
  | cons _ _ => (exfalso; cases hl)
 | cons c cs => cases vs with
  | nil => (exfalso; cases hl)
  | cons v vs => exact xC h
theorem ZeO {cs : List Nat} {vs : List AV} {z : AV} {zs : List AV} (h : z :: zs = UY cs vs) : ∃ c cs' v vs', cs = c :: cs' ∧ vs = v :: vs' ∧ z = .tup [.str ⟨⟨[c]⟩⟩, v] ∧ zs = UY cs' vs' := by
 cases cs with
 | nil => exact xD h
 | cons c cs => cases vs with
  | nil => exact xD h
  | cons v vs => cases h; exact ⟨_, _, _, _, rfl, rfl, rfl, rfl⟩
theorem Zc6 {c : Nat} {v : AV} {ps : List AV} (h : Z5 c v ps = true) (hc : c = 122 ∨ c = 120) : ∃ i, v = .int i := by
 obtain rfl | rfl := hc <;> (delta Z5 at h; cases v <;> first | exact ⟨_, rfl⟩ | exact xF h)
noncomputable def UR : Yv := Zi 12 [(Str.ofString "row", none), (Str.ofString "shapes", some .none)]
noncomputable def Zgo : FI := ⟨UR.names, true, false, []⟩
noncomputable def ZiO (name : Str) (ps : List AV) (S : AV) (cs : List Nat) : Loc := [(Str.ofString "row", .row name ps), (Str.ofString "shapes", S), (Str.ofString "shape", .str ⟨⟨cs⟩⟩)]
inductive Zlb : Loc → Prop
 | a : Zlb []
 | b (u v : AV) : Zlb [(Str.ofString "sort", u), (Str.ofString "part", v)]
theorem Zy {α : Type} {o : Option α} {K : α → Prop} {a : α} (e : o = some a) (h : K a) : Z3 o K := by rw [e]; exact h
theorem ZaR {v : AV} (h : YE v) : Ww v = false := by cases h <;> rfl
theorem Zgk {x : Str} {v : AV} {ps : List AV} {σ : Led} (h : YE v) : Wp σ [.str x, v, .tup ps] = some ([.str x, v, .tup ps], σ) := by cases h <;> rfl
theorem ZiH {cs : List Nat} {name : Str} {p q r t : AV} {ps : List AV} (hm : name = YZ) (hok : ZW name ps = (true && !Yu name ps)) (hcs : cs = [122, 120, 114, 114]) (hoks : Yh cs ps ps = true) (e : ps = [p, q, r, t]) : ∃ i j, ps = [.int i, .int j, r, t] ∧ ZW name ps = !(decide (i = 32) && decide (j = 4)) := by
 subst hm hcs e
 obtain ⟨h11, h12⟩ := Bool.and_eq_true_iff.mp hoks
 obtain ⟨h12, _⟩ := Bool.and_eq_true_iff.mp h12
 obtain ⟨i, rfl⟩ := Zc6 h11 (.inl rfl)
 obtain ⟨j, rfl⟩ := Zc6 h12 (.inr rfl)
 refine ⟨i, j, rfl, hok.trans ?_⟩
 have hb : Yu YZ [.int i, .int j, r, t] = (decide (i = 32) && decide (j = 4)) := by
  show (sEq YZ YZ && _) = _
  rw [Yq, Bool.true_and]
 rw [hb, Bool.true_and]
theorem Zdb {n : Nat} {ps : List AV} (h : n + 1 = ps.length) : ∃ p l, ps = p :: l ∧ n = l.length := by
 cases ps with
 | nil => (exfalso; cases h)
 | cons p l => exact ⟨p, l, rfl, Nat.succ.inj h⟩
theorem ZlS {ps : List AV} (h : 4 = ps.length) : ∃ p q r t, ps = [p, q, r, t] := by
 obtain ⟨p, l, rfl, h⟩ := Zdb (n := 3) h
 obtain ⟨q, l, rfl, h⟩ := Zdb (n := 2) h
 obtain ⟨r, l, rfl, h⟩ := Zdb (n := 1) h
 obtain ⟨t, l, rfl, h⟩ := Zdb (n := 0) h
 obtain rfl := List.eq_nil_of_length_eq_zero h.symm
 exact ⟨p, q, r, t, rfl⟩
theorem ZmP {name : Str} {cs : List Nat} (hy : ZJ name Zz = some ⟨⟨cs⟩⟩) (hn : name = YZ) : cs = [122, 120, 114, 114] := by
 subst hn
 have h := hy.symm.trans WJ
 injection h with h; injection h with h; injection h
theorem ZcG {name : Str} {ps : List AV} {S : AV} {cs : List Nat} {K : KS} {X : KX} (hp : Z4 name ps) (hy : ZJ name Zz = some ⟨⟨cs⟩⟩) (hA : V8 cs = true) (h4 : cs.length ≤ 4) (h1 : ZW name ps = true → ∀ l, K (.ret (.row name ps)) l []) (h2 : ZW name ps = false → ∀ l, X ⟨.none⟩ l []) :
  ZjD pgB (ev pgB 38) 38 Zgo (UR.body.drop 2) (ZiO name ps S cs) [] K X := by
 refine Zj (Zc (by have := hp.2.1; omega)) ?_
 refine Zj (Zc ?_) ?_
 ·show cs.length ≤ _; omega
 ·refine ZC (fun hl => ?_) (fun hl => ?_)
  ·have hne : cs.length ≠ ps.length := by
    have : decide ((ps.length : Int) = (cs.length : Int)) = false := by
     have : (!decide ((ps.length : Int) = (cs.length : Int))) = true := hl
     simpa using this
    have := of_decide_eq_false this
    omega
   refine Za (Zc ?_) ?_
   ·rw [ZhZ]; have := hp.1; omega
   ·exact h2 (Up hy hne) _
  ·have hle : cs.length = ps.length := by
    have : decide ((ps.length : Int) = (cs.length : Int)) = true := by
     have : (!decide ((ps.length : Int) = (cs.length : Int))) = false := hl
     simpa using this
    have := of_decide_eq_true this
    omega
   have hok := Yy hy hle
   have hpp : WG cs ps ps := hp.2.2 _ hy hle
   refine Zj hA ?_
   refine Zj (by show Nat.beq cs.length ps.length = true; rw [hle]; exact Nat.beq_refl _) ?_
   refine XB (I := fun zs loc σ => ∃ vs' cs' tl, zs = UY cs' vs' ∧ cs'.length = vs'.length ∧ WG cs' vs' ps ∧ Yh cs' vs' ps = Yh cs ps ps ∧ Zlb tl ∧ loc = ZiO name ps S cs ++ tl ∧ σ = []) ?_ ?_ _ _ _ ⟨ps, cs, [], rfl, hle, hpp, rfl, .a, rfl, rfl⟩
   ·intro loc σ h9; obtain ⟨vs', cs', tl, hz, hlen, -, hoks, -, rfl, rfl⟩ := h9
    obtain ⟨rfl, rfl⟩ := Zhb hz hlen
    replace hoks : Yh cs ps ps = true := hoks.symm
    rw [hoks] at hok
    try clear hz; try clear hlen; try clear hpp; try clear hA; try clear h4
    cases hm : sEq name YZ with
    | false =>
     refine Zd hm ?_
     exact h1 (hok.trans (by rw [show Yu name ps = false from by delta Yu; rw [hm]; rfl]; rfl)) _
    | true =>
     have hcs := ZmP hy (ZH.mp hm)
     obtain ⟨p, q, r, t, e⟩ := ZlS (hle.symm.trans (congrArg List.length hcs)).symm
     obtain ⟨i, j, rfl, hok⟩ := ZiH (ZH.mp hm) hok hcs hoks e
     try clear e; try clear hoks; try clear hcs; try clear hle; try clear hy
     refine YX hm ?_
     refine ZC (fun g1 => ?_) (fun g1 => ?_)
     ·refine ZC (fun g2 => ?_) (fun g2 => ?_)
      ·exact h2 (by rw [hok, show decide (i = 32) = true from g1, show decide (j = 4) = true from g2]; rfl) _
      ·exact h1 (by rw [hok, show decide (j = 4) = false from g2, Bool.and_false]; rfl) _
     ·exact h1 (by rw [hok, show decide (i = 32) = false from g1, Bool.false_and]; rfl) _
   ·intro z zs loc σ h9; obtain ⟨vs', cs', tl, hz, hlen, hpre, hoks, htl, rfl, rfl⟩ := h9; intro kk XX ih kr kx
    obtain ⟨c, cs'', v, vs'', rfl, rfl, rfl, rfl⟩ := ZeO hz
    have no : Z5 c v ps = false → ∀ l, XX ⟨.none⟩ l [] := fun g l => kx _ _ _ (h2 (by
     rw [hok, ← hoks, show Yh (c :: cs'') (v :: vs'') ps = (Z5 c v ps && Yh cs'' vs'' ps) from rfl, g]; rfl) l)
    have yes : Z5 c v ps = true → ∀ u, kk .next (ZiO name ps S cs ++ [(Str.ofString "sort", .str ⟨⟨[c]⟩⟩), (Str.ofString "part", u)]) [] := fun g u => ih _ _ ⟨vs'', cs'', _, rfl, by simpa using hlen, hpre.2 g, by
     rw [← hoks, show Yh (c :: cs'') (v :: vs'') ps = (Z5 c v ps && Yh cs'' vs'' ps) from rfl, g, Bool.true_and], .b _ _, rfl, rfl⟩
    have hpre := hpre.1
    try clear hoks; try clear hok; try clear ih; try clear kx; try clear kr; try clear hlen; try clear hz; try clear hpp; try clear hle; try clear hl; try clear h1; try clear h2; try clear hy; try clear hA; try clear h4
    cases htl with
    | a =>
     refine XV (ZaR (V0 hpre)) ?_
     refine Zy (Zgk (V0 hpre)) ?_
     refine ZiV hpre ?_
     refine ZC (fun g => ?_) (fun g => ?_)
     ·refine Za (Zc ?_) ?_
      ·rw [Zdc]; have := hp.1; omega
      ·exact no (by simpa using g) _
     ·exact yes (ZiZ g) _
    | b x y =>
     refine XV (ZaR (V0 hpre)) ?_
     refine Zy (Zgk (V0 hpre)) ?_
     refine ZiV hpre ?_
     refine ZC (fun g => ?_) (fun g => ?_)
     ·refine Za (Zc ?_) ?_
      ·rw [Zdc]; have := hp.1; omega
      ·exact no (by simpa using g) _
     ·exact yes (ZiZ g) _
theorem ZcH {name : Str} {ps : List AV} {S : AV} (hS : S = .none ∨ S = .dss Zz) {rest : List Stmt} {K : KS} {X : KX} (hp : Z4 name ps) (h : ∀ cs, ZJ name Zz = some ⟨⟨cs⟩⟩ → ZjD pgB (ev pgB 38) 38 Zgo rest (ZiO name ps S cs) [] K X) (h2 : ZJ name Zz = none → ∀ l, X ⟨.none⟩ l []) :
  Vz pgB (ev pgB 38) 38 Zgo (UR.body.take 2 ++ rest) [(Str.ofString "row", .row name ps), (Str.ofString "shapes", S)] [] K X := by
 obtain rfl | rfl := hS
 ·refine ZcV (fun y hy => h y.cps.toList hy) (fun hy => ?_)
  refine Za (Zc ?_) ?_
  ·rw [ZfU]; have := hp.1; omega
  ·exact h2 hy _
 ·refine ZcV (fun y hy => h y.cps.toList hy) (fun hy => ?_)
  refine Za (Zc ?_) ?_
  ·rw [ZfU]; have := hp.1; omega
  ·exact h2 hy _
theorem ZiF : UR.body = UR.body.take 2 ++ UR.body.drop 2 := (List.take_append_drop 2 _).symm
theorem ZkC : pgB.fn 126 = some UR := by kernel_rfl
theorem Zju {pg : Pg} {n a : Nat} {f : Yv} {loc : Loc} {args : List AV} {σ : Led} {K : KE} {X : KC} (hf : pg.fn a = some f) (hb : f.bind args = some loc)
  (h : Vz pg (ev pg n) n ⟨f.names, true, false, []⟩ f.body loc σ (fun fl _ σ₁ => match fl with | .ret v => K v σ₁ | .next => K .none σ₁) (fun x _ σ₁ => X x σ₁)) : (ev pg (n + 2)).C true a args σ K X := by
 show ZaJ pg (ev pg (n+1)) true a args σ K X
 delta ZaJ
 rw [hf]
 show Z3 (f.bind args) _
 rw [hb]
 exact Zj (p := FI.comp ⟨f.names, true, false, []⟩ = false) rfl h
theorem GT {name : Str} {ps : List AV} {S : AV} {args : List AV} {K : AV → Prop} {X : AX → Prop} (hS : S = .none ∨ S = .dss Zz) (hb : UR.bind args = some [(Str.ofString "row", .row name ps), (Str.ofString "shapes", S)]) (hp : Z4 name ps) (h1 : ZW name ps = true → K (.row name ps)) (h2 : ZW name ps = false → X ⟨.none⟩) :
  (ev pgB 40).C true 126 args [] (kfz K) (fun x _ => X x) := by
 refine Zju (n := 38) ZkC hb ?_
 rw [ZiF]
 refine ZcH hS hp (fun cs hy => ?_) fun e l => h2 (Wj e)
 obtain ⟨hA, h4⟩ := Jz hy
 exact ZcG hp hy hA h4 (fun e l => X6 rfl (h1 e)) fun e l => h2 e
theorem ZkU : Xe pgB 40 126 ZdA := by
 intro args K X h
 obtain ⟨name, ps, rfl | rfl, hp, h1, h2⟩ := h.ok
 ·exact GT (.inl rfl) rfl hp h1 h2
 ·exact GT (.inr rfl) rfl hp h1 h2
noncomputable def pgC : Pg := Ws pgB 126 40 ZdA
theorem ZiU {name : Str} {ps : List AV} {K : AV → Prop} {X : AX → Prop} (hp : Z4 name ps) (h1 : ZW name ps = true → K (.row name ps)) (h2 : ZW name ps = false → X ⟨.none⟩) : ZdA [.row name ps] K X := by
 exact ⟨name, ps, .inl rfl, hp, h1, h2⟩
theorem Ze6 {name : Str} {ps : List AV} {K : AV → Prop} {X : AX → Prop} (hp : Z4 name ps) (h1 : ZW name ps = true → K (.row name ps)) (h2 : ZW name ps = false → X ⟨.none⟩) : ZdA [.row name ps, .dss Zz] K X := by
 exact ⟨name, ps, .inr rfl, hp, h1, h2⟩
noncomputable def ZjM : Nat → Str
 | 0 => ⟨⟨[114, 97, 120]⟩⟩
 | 1 => ⟨⟨[114, 99, 120]⟩⟩
 | 2 => ⟨⟨[114, 100, 120]⟩⟩
 | 3 => ⟨⟨[114, 98, 120]⟩⟩
 | 4 => ⟨⟨[114, 115, 112]⟩⟩
 | 5 => ⟨⟨[114, 98, 112]⟩⟩
 | 6 => ⟨⟨[114, 115, 105]⟩⟩
 | 7 => ⟨⟨[114, 100, 105]⟩⟩
 | 8 => ⟨⟨[114, 56]⟩⟩
 | 9 => ⟨⟨[114, 57]⟩⟩
 | 10 => ⟨⟨[114, 49, 48]⟩⟩
 | 11 => ⟨⟨[114, 49, 49]⟩⟩
 | 12 => ⟨⟨[114, 49, 50]⟩⟩
 | 13 => ⟨⟨[114, 49, 51]⟩⟩
 | 14 => ⟨⟨[114, 49, 52]⟩⟩
 | _ => ⟨⟨[114, 49, 53]⟩⟩
noncomputable def ZjN : Nat → Str
 | 0 => ⟨⟨[101, 97, 120]⟩⟩
 | 1 => ⟨⟨[101, 99, 120]⟩⟩
 | 2 => ⟨⟨[101, 100, 120]⟩⟩
 | 3 => ⟨⟨[101, 98, 120]⟩⟩
 | 4 => ⟨⟨[101, 115, 112]⟩⟩
 | 5 => ⟨⟨[101, 98, 112]⟩⟩
 | 6 => ⟨⟨[101, 115, 105]⟩⟩
 | 7 => ⟨⟨[101, 100, 105]⟩⟩
 | 8 => ⟨⟨[114, 56, 100]⟩⟩
 | 9 => ⟨⟨[114, 57, 100]⟩⟩
 | 10 => ⟨⟨[114, 49, 48, 100]⟩⟩
 | 11 => ⟨⟨[114, 49, 49, 100]⟩⟩
 | 12 => ⟨⟨[114, 49, 50, 100]⟩⟩
 | 13 => ⟨⟨[114, 49, 51, 100]⟩⟩
 | 14 => ⟨⟨[114, 49, 52, 100]⟩⟩
 | _ => ⟨⟨[114, 49, 53, 100]⟩⟩
noncomputable def ZjO : Nat → Str
 | 0 => ⟨⟨[97, 120]⟩⟩
 | 1 => ⟨⟨[99, 120]⟩⟩
 | 2 => ⟨⟨[100, 120]⟩⟩
 | 3 => ⟨⟨[98, 120]⟩⟩
 | 4 => ⟨⟨[115, 112]⟩⟩
 | 5 => ⟨⟨[98, 112]⟩⟩
 | 6 => ⟨⟨[115, 105]⟩⟩
 | 7 => ⟨⟨[100, 105]⟩⟩
 | 8 => ⟨⟨[114, 56, 119]⟩⟩
 | 9 => ⟨⟨[114, 57, 119]⟩⟩
 | 10 => ⟨⟨[114, 49, 48, 119]⟩⟩
 | 11 => ⟨⟨[114, 49, 49, 119]⟩⟩
 | 12 => ⟨⟨[114, 49, 50, 119]⟩⟩
 | 13 => ⟨⟨[114, 49, 51, 119]⟩⟩
 | 14 => ⟨⟨[114, 49, 52, 119]⟩⟩
 | _ => ⟨⟨[114, 49, 53, 119]⟩⟩
noncomputable def r8T : Nat → Str
 | 0 => ⟨⟨[97, 108]⟩⟩
 | 1 => ⟨⟨[99, 108]⟩⟩
 | 2 => ⟨⟨[100, 108]⟩⟩
 | 3 => ⟨⟨[98, 108]⟩⟩
 | 4 => ⟨⟨[115, 112, 108]⟩⟩
 | 5 => ⟨⟨[98, 112, 108]⟩⟩
 | 6 => ⟨⟨[115, 105, 108]⟩⟩
 | 7 => ⟨⟨[100, 105, 108]⟩⟩
 | 8 => ⟨⟨[114, 56, 98]⟩⟩
 | 9 => ⟨⟨[114, 57, 98]⟩⟩
 | 10 => ⟨⟨[114, 49, 48, 98]⟩⟩
 | 11 => ⟨⟨[114, 49, 49, 98]⟩⟩
 | 12 => ⟨⟨[114, 49, 50, 98]⟩⟩
 | 13 => ⟨⟨[114, 49, 51, 98]⟩⟩
 | 14 => ⟨⟨[114, 49, 52, 98]⟩⟩
 | _ => ⟨⟨[114, 49, 53, 98]⟩⟩
noncomputable def Zq (s i : Int) : Str := if s = 64 then ZjM i.toNat else if s = 32 then ZjN i.toNat else if s = 16 then ZjO i.toNat else r8T i.toNat
theorem Zx {K : AV → Prop} {x y : Str} {σ : Led} (h : K (.str y)) (e : x = y) : kfz K (.str x) σ := by subst e; exact X6 rfl h
theorem ZX {n : Nat} {P : Int → Prop} (h : ∀ m : Fin n, P (m.val : Int)) {i : Int} (h0 : 0 ≤ i) (h1 : i < (n : Int)) : P i := by
 have g : P (i.toNat : Int) := h ⟨i.toNat, (Int.toNat_lt h0).mpr h1⟩
 rw [Int.toNat_of_nonneg h0] at g
 exact g
theorem G8 {i : Int} (h0 : 0 ≤ i) (h1 : i < 16) : i = 0 ∨ i = 1 ∨ i = 2 ∨ i = 3 ∨ i = 4 ∨ i = 5 ∨ i = 6 ∨ i = 7 ∨ i = 8 ∨ i = 9 ∨ i = 10 ∨ i = 11 ∨ i = 12 ∨ i = 13 ∨ i = 14 ∨ i = 15 :=
 ZX (n := 16) (P := fun i => i = 0 ∨ i = 1 ∨ i = 2 ∨ i = 3 ∨ i = 4 ∨ i = 5 ∨ i = 6 ∨ i = 7 ∨ i = 8 ∨ i = 9 ∨ i = 10 ∨ i = 11 ∨ i = 12 ∨ i = 13 ∨ i = 14 ∨ i = 15) (by decide +kernel) h0 h1
structure ZdB (args : List AV) (K : AV → Prop) (X : AX → Prop) : Prop where
 ok : ∃ i s, (args = [.int i, .int s] ∨ (s = 64 ∧ args = [.int i])) ∧ 0 ≤ i ∧ i < 16 ∧ (s = 8 ∨ s = 16 ∨ s = 32 ∨ s = 64) ∧ K (.str (Zq s i))
theorem Xu {i s : Int} {K : AV → Prop} {X : AX → Prop} (h0 : 0 ≤ i) (h1 : i < 16) (hs : s = 8 ∨ s = 16 ∨ s = 32 ∨ s = 64) (h : K (.str (Zq s i))) : ZdB [.int i, .int s] K X := by
 exact ⟨i, s, .inl rfl, h0, h1, hs, h⟩
theorem WA {i : Int} {K : AV → Prop} {X : AX → Prop} (h0 : 0 ≤ i) (h1 : i < 16) (h : K (.str (Zq 64 i))) : ZdB [.int i] K X := by
 exact ⟨i, 64, .inr ⟨rfl, rfl⟩, h0, h1, .inr (.inr (.inr rfl)), h⟩
structure ZgN (args : List AV) (K : AV → Prop) (X : AX → Prop) : Prop where
 ok : ∃ i s, args = [.int i, .int s] ∧ 0 ≤ i ∧ i < 16 ∧ (s = 32 ∨ s = 64) ∧ K (.str (Zq s i))
theorem Xs {i s : Int} {K : AV → Prop} {X : AX → Prop} (h0 : 0 ≤ i) (h1 : i < 16) (hs : s = 32 ∨ s = 64) (h : K (.str (Zq s i))) : ZgN [.int i, .int s] K X := by
 exact ⟨i, s, rfl, h0, h1, hs, h⟩
theorem Yi {α : Type} {o : Option α} {K : α → Prop} {x : α} (e : o = some x) (h : K x) : Z3 o K := by rw [e]; exact h
theorem GX {d : Int} (h0 : 0 ≤ d) (h1 : d < 16) : at? d Zce = some (.str (Zq 32 d)) := by
 obtain rfl | rfl | rfl | rfl | rfl | rfl | rfl | rfl | rfl | rfl | rfl | rfl | rfl | rfl | rfl | rfl := G8 h0 h1 <;> kernel_rfl
theorem Xq {d : Int} (h0 : 0 ≤ d) (h1 : d < 16) : at? d ZbC = some (.str (Zq 64 d)) := by
 obtain rfl | rfl | rfl | rfl | rfl | rfl | rfl | rfl | rfl | rfl | rfl | rfl | rfl | rfl | rfl | rfl := G8 h0 h1 <;> kernel_rfl
theorem Zk (a b : Str) : Zf (Zb a b) = Zf a + Zf b := by
 obtain ⟨⟨a⟩⟩ := a; obtain ⟨⟨b⟩⟩ := b
 exact List.length_append
noncomputable def ZlK : List AV := [.str (Str.ofString "ax"), .str (Str.ofString "cx"), .str (Str.ofString "dx"), .str (Str.ofString "bx"), .str (Str.ofString "sp"), .str (Str.ofString "bp"), .str (Str.ofString "si"), .str (Str.ofString "di")]
noncomputable def Zny : List AV := [.str (Str.ofString "al"), .str (Str.ofString "cl"), .str (Str.ofString "dl"), .str (Str.ofString "bl"), .str (Str.ofString "spl"), .str (Str.ofString "bpl"), .str (Str.ofString "sil"), .str (Str.ofString "dil")]
theorem Zjg {i : Int} (h0 : 0 ≤ i) (h1 : i < 8) : i = 0 ∨ i = 1 ∨ i = 2 ∨ i = 3 ∨ i = 4 ∨ i = 5 ∨ i = 6 ∨ i = 7 :=
 ZX (n := 8) (P := fun i => i = 0 ∨ i = 1 ∨ i = 2 ∨ i = 3 ∨ i = 4 ∨ i = 5 ∨ i = 6 ∨ i = 7) (by decide +kernel) h0 h1
theorem Zbs {i : Int} (h0 : 0 ≤ i) (h1 : i < 8) : at? i ZlK = some (.str (Zq 16 i)) := by
 rcases Zjg h0 h1 with rfl | rfl | rfl | rfl | rfl | rfl | rfl | rfl <;> kernel_rfl
theorem ZdH {i : Int} (h0 : 0 ≤ i) (h1 : i < 8) : at? i Zny = some (.str (Zq 8 i)) := by
 rcases Zjg h0 h1 with rfl | rfl | rfl | rfl | rfl | rfl | rfl | rfl <;> kernel_rfl
theorem ZaT {i : Int} (h0 : 0 ≤ i) (h1 : i < 16) : Zf (Zs i) ≤ 2 := ZX (n := 16) (P := fun i => Zf (Zs i) ≤ 2) (by decide +kernel) h0 h1
noncomputable def suf (s : Int) : Str := if s = 64 then Str.ofString "" else if s = 32 then Str.ofString "d" else if s = 16 then Str.ofString "w" else Str.ofString "b"
noncomputable def ZhH (s : Int) : Str := if s = 64 then Str.ofString "r" else if s = 32 then Str.ofString "e" else Str.ofString ""
theorem ZjL {s i : Int} (hs : s = 8 ∨ s = 16 ∨ s = 32 ∨ s = 64) (h0 : 0 ≤ i) (h1 : i < 16) (g : decide (7 < i) = true) : Zb (Zb (Str.ofString "r") (Zs i)) (suf s) = Zq s i := by
 refine ZX (n := 16) (P := fun i => decide (7 < i) = true → Zb (Zb (Str.ofString "r") (Zs i)) (suf s) = Zq s i) ?_ h0 h1 g
 rcases hs with rfl | rfl | rfl | rfl <;> decide +kernel
theorem ZjK {s i : Int} (hs : s = 16 ∨ s = 32 ∨ s = 64) (h0 : 0 ≤ i) (h1 : i < 8) : Zb (ZhH s) (Zq 16 i) = Zq s i := by
 refine ZX (n := 8) (P := fun i => Zb (ZhH s) (Zq 16 i) = Zq s i) ?_ h0 h1
 rcases hs with rfl | rfl | rfl <;> decide +kernel
theorem ZlL {i : Int} (g : decide (7 < i) = false) : i < 8 := by
 have := of_decide_eq_false g
 omega
theorem Zkz {s i : Int} (hs : s = 8 ∨ s = 16 ∨ s = 32 ∨ s = 64) (h0 : 0 ≤ i) (h1 : i < 16) : Zf (Str.ofString "r") + Zf (Zs i) ≤ 16777216 ∧ Zf (Zb (Str.ofString "r") (Zs i)) + Zf (suf s) ≤ 16777216 := by
 have a := ZaT h0 h1
 have b : Zf (Str.ofString "r") = 1 := by decide +kernel
 have c : Zf (suf s) ≤ 1 := by rcases hs with rfl | rfl | rfl | rfl <;> decide +kernel
 rw [Zk]; omega
theorem Zj8 {s i : Int} (hs : s = 16 ∨ s = 32 ∨ s = 64) (h0 : 0 ≤ i) (h1 : i < 8) : Zf (ZhH s) + Zf (Zq 16 i) ≤ 16777216 := by
 have a : Zf (Zq 16 i) ≤ 4 := ZX (n := 8) (P := fun i => Zf (Zq 16 i) ≤ 4) (by decide +kernel) h0 h1
 have c : Zf (ZhH s) ≤ 1 := by rcases hs with rfl | rfl | rfl <;> decide +kernel
 omega
theorem Zc1 {s i : Int} {K : AV → Prop} {X : KC} (h0 : 0 ≤ i) (h1 : i < 16) (hs : s = 8 ∨ s = 16 ∨ s = 32 ∨ s = 64) (h : K (.str (Zq s i))) : (ev pgC 24).C true 111 [.int i, .int s] [] (kfz K) X := by
 refine ZC (fun g => ?_) (fun g => ?_)
 ·have hl := Zkz hs h0 h1
  have e := ZjL hs h0 h1 g
  refine Zm (by omega) ?_
  refine Za (Zc hl.1) ?_
  rcases hs with rfl | rfl | rfl | rfl <;> exact Za (Zc hl.2) (Zx h e)
 ·have h2 := ZlL g
  refine Yi (Zbs h0 h2) ?_
  rcases hs with rfl | hs
  ·exact Yi (ZdH h0 h2) (Zx h rfl)
  ·have hl := Zj8 hs h0 h2
   have e := ZjK hs h0 h2
   rcases hs with rfl | rfl | rfl <;> exact Za (Zc hl) (Zx h e)
theorem ZhF {i : Int} {K : AV → Prop} {X : KC} (h0 : 0 ≤ i) (h1 : i < 16) (h : K (.str (Zq 64 i))) : (ev pgC 24).C true 111 [.int i] [] (kfz K) X := Zc1 (s := 64) h0 h1 (.inr (.inr (.inr rfl))) h
theorem ZkW : Xe pgC 24 111 ZdB := by
 intro args K X h
 obtain ⟨i, s, rfl | ⟨rfl, rfl⟩, h0, h1, hs, h⟩ := h.ok
 ·exact Zc1 h0 h1 hs h
 ·exact ZhF h0 h1 h
theorem ZkP : Xe pgC 24 210 ZgN := by
 intro args K X h
 obtain ⟨i, s, rfl, h0, h1, hs, h⟩ := h.ok
 obtain rfl | rfl := hs
 ·exact Yi (GX h0 h1) (Zx h rfl)
 ·exact Yi (Xq h0 h1) (Zx h rfl)
noncomputable def pgD : Pg := Ws (Ws pgC 111 24 ZdB) 210 24 ZgN
theorem Zg (a b c : Str) : Zb (Zb a b) c = Zb a (Zb b c) := by
 obtain ⟨⟨a⟩⟩ := a; obtain ⟨⟨b⟩⟩ := b; obtain ⟨⟨c⟩⟩ := c
 show (⟨⟨(a ++ b) ++ c⟩⟩ : Str) = ⟨⟨a ++ (b ++ c)⟩⟩
 rw [List.append_assoc]
theorem JC (a : Str) : a.length = Zf a := (WZ a).symm
noncomputable def Zbd (c : Nat) : Bool := Nat.ble 33 c && Nat.blt c 127
noncomputable def YA (x : Str) : Bool := match x.cps.toList with
 | c :: _ => Zbd c
 | [] => false
noncomputable def Z7 (x : Str) : Bool := match x.cps.toList.getLast? with
 | some c => Zbd c
 | none => false
theorem Zbc {c : Nat} (h : Zbd c = true) : Unicode.isSpace c = false := by
 obtain ⟨h1, h2⟩ := Bool.and_eq_true_iff.mp h
 exact KXs.no_space c (Nat.le_of_ble_eq_true h2) (Nat.le_of_ble_eq_true h1)
theorem Vt {x : Str} (h1 : YA x = true) (h2 : Z7 x = true) : Txt.strip x = x := by
 have lo : stripLo Unicode.isSpace true x = 0 := by
  dsimp only [stripLo, if_true]
  delta YA at h1
  generalize x.cps.toList = zz at h1 ⊢
  cases zz with
  | nil => rfl
  | cons c l =>
   have hs := Zbc h1
   simp [List.takeWhile_cons, hs]
 have hi : stripHi Unicode.isSpace true x 0 = x.length := by
  simp only [stripHi, if_true, List.drop_zero]
  delta Z7 at h2
  rw [← List.head?_reverse] at h2
  generalize x.cps.toList.reverse = zz at h2 ⊢
  cases zz with
  | nil => rfl
  | cons c l =>
   have hs := Zbc (c := c) h2
   simp [List.takeWhile_cons, hs]
 have hsame : stripSame Unicode.isSpace true true x = true := by
  unfold stripSame
  rw [lo, hi]
  simp
 unfold Txt.strip Txt.stripBy
 rw [if_pos hsame]
theorem Wo {a b : Str} (h : YA a = true) : YA (Zb a b) = true := by
 obtain ⟨⟨a⟩⟩ := a; obtain ⟨⟨b⟩⟩ := b
 cases a with
 | nil => exact xF h
 | cons c l => exact h
theorem ZN {a b : Str} (h : Z7 b = true) : Z7 (Zb a b) = true := by
 obtain ⟨⟨a⟩⟩ := a; obtain ⟨⟨b⟩⟩ := b
 show (match (a ++ b).getLast? with | some c => Zbd c | none => false) = true
 rw [List.getLast?_append]
 change (match b.getLast? with | some c => Zbd c | none => false) = true at h
 generalize b.getLast? = zz at h ⊢
 cases zz with
 | none => exact xF h
 | some c => exact h
theorem Zi5 (s a : Str) : Txt.join s [a] = a := by
 show Builtin.Str.glued s [a] = a
 rw [StrLaws.glued_eq_join]; rfl
theorem Zi4 (s a b : Str) : Txt.join s [a, b] = Zb a (Zb s b) := by
 show Builtin.Str.glued s [a, b] = _
 rw [StrLaws.glued_eq_join, ← Zg, Wf, Wf]; rfl
theorem Zi3 (s a b c : Str) : Txt.join s [a, b, c] = Zb a (Zb s (Zb b (Zb s c))) := by
 show Builtin.Str.glued s [a, b, c] = _
 rw [StrLaws.glued_eq_join, ← Zg, ← Zg b, Wf, Wf, Wf, Wf]; rfl
theorem Zdf {s a : Str} (h1 : Zf s ≤ 100) (h2 : Zf a ≤ 100) : JoinOk s [a] = true := by
 rw [← JC] at h1 h2
 simp [JoinOk, Builtin.Str.tooLong, sizeLine]; exact Nat.le_trans (Nat.add_le_add h2 h1) (by decide)
theorem Jd {s a b : Str} (h1 : Zf s ≤ 100) (h2 : Zf a ≤ 100) (h3 : Zf b ≤ 100) : JoinOk s [a, b] = true := by
 rw [← JC] at h1 h2 h3
 simp [JoinOk, Builtin.Str.tooLong, sizeLine]; exact Nat.le_trans (Nat.add_le_add (Nat.add_le_add (Nat.add_le_add h2 h1) h3) h1) (by decide)
theorem Zde {s a b c : Str} (h1 : Zf s ≤ 100) (h2 : Zf a ≤ 100) (h3 : Zf b ≤ 100) (h4 : Zf c ≤ 100) : JoinOk s [a, b, c] = true := by
 rw [← JC] at h1 h2 h3 h4
 simp [JoinOk, Builtin.Str.tooLong, sizeLine]; exact Nat.le_trans (Nat.add_le_add (Nat.add_le_add (Nat.add_le_add (Nat.add_le_add (Nat.add_le_add h2 h1) h3) h1) h4) h1) (by decide)
theorem JE (s : Int) {i : Int} (h0 : 0 ≤ i) (h1 : i < 16) : Zf (Zq s i) ≤ 4 := by
 delta Zq
 split
 ·exact ZX (n := 16) (P := fun i => Zf (ZjM i.toNat) ≤ 4) (by decide +kernel) h0 h1
 ·split
  ·exact ZX (n := 16) (P := fun i => Zf (ZjN i.toNat) ≤ 4) (by decide +kernel) h0 h1
  ·split
   ·exact ZX (n := 16) (P := fun i => Zf (ZjO i.toNat) ≤ 4) (by decide +kernel) h0 h1
   ·exact ZX (n := 16) (P := fun i => Zf (r8T i.toNat) ≤ 4) (by decide +kernel) h0 h1
theorem Zd4 (s : Int) {i : Int} (h0 : 0 ≤ i) (h1 : i < 16) : Z7 (Zq s i) = true := by
 delta Zq
 split
 ·exact ZX (n := 16) (P := fun i => Z7 (ZjM i.toNat) = true) (by decide +kernel) h0 h1
 ·split
  ·exact ZX (n := 16) (P := fun i => Z7 (ZjN i.toNat) = true) (by decide +kernel) h0 h1
  ·split
   ·exact ZX (n := 16) (P := fun i => Z7 (ZjO i.toNat) = true) (by decide +kernel) h0 h1
   ·exact ZX (n := 16) (P := fun i => Z7 (r8T i.toNat) = true) (by decide +kernel) h0 h1
noncomputable def sp : Str := Str.ofString " "
noncomputable def com : Str := Str.ofString ", "
theorem ZbM : Zf sp = 1 := by decide +kernel
theorem ZdC : Zf com = 2 := by decide +kernel
theorem ZhJ {n a : Str} (hn : Zf n ≤ 100) (ha : Zf a ≤ 100) : Zf (Zb n sp) + Zf (Txt.join com [a]) ≤ 16777216 := by
 rw [Zi5, Zk, ZbM]; exact Nat.le_trans (Nat.add_le_add (Nat.add_le_add_right hn 1) ha) (by decide)
theorem ZaY {n a b : Str} (hn : Zf n ≤ 100) (ha : Zf a ≤ 100) (hb : Zf b ≤ 100) : Zf (Zb n sp) + Zf (Txt.join com [a, b]) ≤ 16777216 := by
 rw [Zi4, Zk, ZbM, Zk, Zk, ZdC]; exact Nat.le_trans (Nat.add_le_add (Nat.add_le_add_right hn 1) (Nat.add_le_add ha (Nat.add_le_add_left hb 2))) (by decide)
theorem ZhI {n a b c : Str} (hn : Zf n ≤ 100) (ha : Zf a ≤ 100) (hb : Zf b ≤ 100) (hc : Zf c ≤ 100) : Zf (Zb n sp) + Zf (Txt.join com [a, b, c]) ≤ 16777216 := by
 rw [Zi3, Zk, ZbM, Zk, Zk, Zk, Zk, ZdC]; exact Nat.le_trans (Nat.add_le_add (Nat.add_le_add_right hn 1) (Nat.add_le_add ha (Nat.add_le_add_left (Nat.add_le_add hb (Nat.add_le_add_left hc 2)) 2))) (by decide)
theorem Zfh {n a : Str} (hn : YA n = true) (ha : Z7 a = true) : Txt.strip (Zb (Zb n sp) (Txt.join com [a])) = Zb n (Zb sp a) := by
 rw [Zi5, Zg]
 exact Vt (Wo hn) (ZN (ZN ha))
theorem G7 {n a b : Str} (hn : YA n = true) (hb : Z7 b = true) : Txt.strip (Zb (Zb n sp) (Txt.join com [a, b])) = Zb n (Zb sp (Zb a (Zb com b))) := by
 rw [Zi4, Zg]
 exact Vt (Wo hn) (ZN (ZN (ZN (ZN hb))))
theorem Zfg {n a b c : Str} (hn : YA n = true) (hc : Z7 c = true) : Txt.strip (Zb (Zb n sp) (Txt.join com [a, b, c])) = Zb n (Zb sp (Zb a (Zb com (Zb b (Zb com c))))) := by
 rw [Zi3, Zg]
 exact Vt (Wo hn) (ZN (ZN (ZN (ZN (ZN (ZN hc))))))
noncomputable def Far (f : Int) : Prop := f = 0 ∨ f = -2147483648 ∨ f = 2147483647 ∨ f = 5
noncomputable def YM (b f : Int) : Str := if f = 0 then Zb (Str.ofString "[") (Zb (Zq 64 b) (Str.ofString "]"))
 else if 0 < f then Zb (Str.ofString "[") (Zb (Zq 64 b) (Zb (Str.ofString " + ") (Zb (Zs f) (Str.ofString "]"))))
 else Zb (Str.ofString "[") (Zb (Zq 64 b) (Zb (Str.ofString " - ") (Zb (Zs (-f)) (Str.ofString "]"))))
theorem ZR {b f : Int} (h0 : 0 ≤ b) (h1 : b < 16) (hf : Far f) : Zf (YM b f) ≤ 40 := by
 have := JE 64 h0 h1
 have c1 : Zf (Str.ofString "[") = 1 := by decide +kernel
 have c2 : Zf (Str.ofString "]") = 1 := by decide +kernel
 have c3 : Zf (Str.ofString " + ") = 3 := by decide +kernel
 have c4 : Zf (Str.ofString " - ") = 3 := by decide +kernel
 have c5 : Zf (Zs 5) ≤ 20 := by decide +kernel
 have c6 : Zf (Zs 2147483647) ≤ 20 := by decide +kernel
 have c7 : Zf (Zs (-(-2147483648))) ≤ 20 := by decide +kernel
 delta YM
 obtain rfl | rfl | rfl | rfl := hf
 ·rw [if_pos rfl]; simp only [Zk]; omega
 ·rw [if_neg (by decide), if_neg (by decide)]; simp only [Zk]; omega
 ·rw [if_neg (by decide), if_pos (by decide)]; simp only [Zk]; omega
 ·rw [if_neg (by decide), if_pos (by decide)]; simp only [Zk]; omega
structure GQ (args : List AV) (K : AV → Prop) (X : AX → Prop) : Prop where
 ok : ∃ b f, args = [.int b, .int f] ∧ 0 ≤ b ∧ b < 16 ∧ Far f ∧ K (.str (YM b f))
theorem Gs {b f : Int} {K : AV → Prop} {X : AX → Prop} (h0 : 0 ≤ b) (h1 : b < 16) (hf : Far f) (h : K (.str (YM b f))) : GQ [.int b, .int f] K X := by
 exact ⟨b, f, rfl, h0, h1, hf, h⟩
theorem ZaD {b f : Int} {K : AV → Prop} {X : AX → Prop} (h0 : 0 ≤ b) (h1 : b < 16) (hf : Far f) (h : K (.str (YM b f))) : GQ [.int b, .int f] K X := Gs h0 h1 hf h
theorem ZlT {b : Int} (h0 : 0 ≤ b) (h1 : b < 16) : Zf (Str.ofString "[") = 1 ∧ Zf (Str.ofString "]") = 1 ∧ Zf (Str.ofString " + ") = 3 ∧ Zf (Str.ofString " - ") = 3 ∧ Zf (Zs 5) ≤ 20 ∧ Zf (Zs 2147483647) ≤ 20 ∧ Zf (Zs 2147483648) ≤ 20 ∧ Zf (Zq 64 b) ≤ 4 ∧ Zf (Str.ofString "") = 0 :=
 ⟨by decide +kernel, by decide +kernel, by decide +kernel, by decide +kernel, by decide +kernel, by decide +kernel, by decide +kernel, JE 64 h0 h1, by decide +kernel⟩
theorem ZkS : Xe pgD 40 161 GQ := by
 intro args K X h
 obtain ⟨b, f, rfl, h0, h1, hf, h⟩ := h.ok
 have c := ZlT h0 h1
 obtain rfl | rfl | rfl | rfl := hf
 ·refine WA h0 h1 ?_
  refine Za (Zc ?_) ?_
  ·omega
  refine Za (Zc ?_) ?_
  ·simp only [Zk]; omega
  exact Zx h (by rw [Zg]; rfl)
 ·refine WA h0 h1 ?_
  refine Za (Zc ?_) ?_
  ·omega
  refine Za (Zc ?_) ?_
  ·simp only [Zk]; omega
  refine Zm (by decide +kernel) ?_
  refine Za (Zc ?_) ?_
  ·have : Zf (Zs 2147483648) ≤ 20 := c.2.2.2.2.2.2.1
   show _ + Zf (Zs 2147483648) ≤ _
   simp only [Zk]; omega
  refine Za (Zc ?_) ?_
  ·have : Zf (Zs 2147483648) ≤ 20 := c.2.2.2.2.2.2.1
   show Zf (Zb _ (Zs 2147483648)) + _ ≤ _
   simp only [Zk]; omega
  exact Zx h (by simp only [Zg]; rfl)
 ·refine WA h0 h1 ?_
  refine Za (Zc ?_) ?_
  ·omega
  refine Za (Zc ?_) ?_
  ·simp only [Zk]; omega
  refine Zm (by decide +kernel) ?_
  refine Za (Zc ?_) ?_
  ·show _ + Zf (Zs 2147483647) ≤ _
   simp only [Zk]; omega
  refine Za (Zc ?_) ?_
  ·show Zf (Zb _ (Zs 2147483647)) + _ ≤ _
   simp only [Zk]; omega
  exact Zx h (by simp only [Zg]; rfl)
 ·refine WA h0 h1 ?_
  refine Za (Zc ?_) ?_
  ·omega
  refine Za (Zc ?_) ?_
  ·simp only [Zk]; omega
  refine Zm (by decide +kernel) ?_
  refine Za (Zc ?_) ?_
  ·show _ + Zf (Zs 5) ≤ _
   simp only [Zk]; omega
  refine Za (Zc ?_) ?_
  ·show Zf (Zb _ (Zs 5)) + _ ≤ _
   simp only [Zk]; omega
  exact Zx h (by simp only [Zg]; rfl)
theorem ZdY {b f : Int} {K : AV → Prop} {X : KC} (h0 : 0 ≤ b) (h1 : b < 16) (hf : Far f) (h : K (.str (YM b f))) : (ev pgD 40).C true 217 [.int b, .int f] [] (kfz K) X := by
 have c := ZlT h0 h1
 obtain rfl | rfl | rfl | rfl := hf
 ·refine Yi (Xq h0 h1) ?_
  refine Za (Zc ?_) ?_
  ·omega
  refine Za (Zc ?_) ?_
  ·show _ + 0 ≤ _; simp only [Zk]; omega
  refine Za (Zc ?_) ?_
  ·simp only [Zk]; omega
  exact Zx h (by simp only [Zg]; rfl)
 ·refine Yi (Xq h0 h1) ?_
  refine Za (Zc ?_) ?_
  ·omega
  refine Zm (by decide +kernel) ?_
  refine Za (Zc ?_) ?_
  ·show Zf (Str.ofString " - ") + Zf (Zs 2147483648) ≤ _; omega
  refine Za (Zc ?_) ?_
  ·show _ + Zf (Zb _ (Zs 2147483648)) ≤ _; simp only [Zk]; omega
  refine Za (Zc ?_) ?_
  ·show Zf (Zb _ (Zb _ (Zs 2147483648))) + _ ≤ _; simp only [Zk]; omega
  exact Zx h (by simp only [Zg]; rfl)
 ·refine Yi (Xq h0 h1) ?_
  refine Za (Zc ?_) ?_
  ·omega
  refine Zm (by decide +kernel) ?_
  refine Za (Zc ?_) ?_
  ·show Zf (Str.ofString " + ") + Zf (Zs 2147483647) ≤ _; omega
  refine Za (Zc ?_) ?_
  ·show _ + Zf (Zb _ (Zs 2147483647)) ≤ _; simp only [Zk]; omega
  refine Za (Zc ?_) ?_
  ·show Zf (Zb _ (Zb _ (Zs 2147483647))) + _ ≤ _; simp only [Zk]; omega
  exact Zx h (by simp only [Zg]; rfl)
 ·refine Yi (Xq h0 h1) ?_
  refine Za (Zc ?_) ?_
  ·omega
  refine Zm (by decide +kernel) ?_
  refine Za (Zc ?_) ?_
  ·show Zf (Str.ofString " + ") + Zf (Zs 5) ≤ _; omega
  refine Za (Zc ?_) ?_
  ·show _ + Zf (Zb _ (Zs 5)) ≤ _; simp only [Zk]; omega
  refine Za (Zc ?_) ?_
  ·show Zf (Zb _ (Zb _ (Zs 5))) + _ ≤ _; simp only [Zk]; omega
  exact Zx h (by simp only [Zg]; rfl)
theorem ZkO : Xe pgD 40 217 GQ := by
 intro args K X h
 obtain ⟨b, f, rfl, h0, h1, hf, h⟩ := h.ok
 exact ZdY h0 h1 hf h
noncomputable def pgE : Pg := Ws (Ws pgD 161 40 GQ) 217 40 GQ
noncomputable def st (x : String) : Str := Str.ofString x
noncomputable def N9 (x : Str) : Prop := x = Str.ofString "mov" ∨ x = Str.ofString "add" ∨ x = Str.ofString "sub" ∨ x = Str.ofString "and" ∨ x = Str.ofString "or" ∨ x = Str.ofString "xor" ∨ x = Str.ofString "cmp" ∨ x = Str.ofString "test" ∨ x = Str.ofString "imul"
noncomputable def N3 (x : Str) : Prop := x = Str.ofString "shl" ∨ x = Str.ofString "shr" ∨ x = Str.ofString "sar"
noncomputable def N6 (x : Str) : Prop := x = Str.ofString "shl" ∨ x = Str.ofString "sar" ∨ x = Str.ofString "neg" ∨ x = Str.ofString "bswap" ∨ x = Str.ofString "div" ∨ x = Str.ofString "idiv"
noncomputable def N7 (x : Str) : Prop := x = Str.ofString "lock_add" ∨ x = Str.ofString "lock_and" ∨ x = Str.ofString "lock_or" ∨ x = Str.ofString "lock_xor" ∨ x = Str.ofString "xadd" ∨ x = Str.ofString "xchg_mem" ∨ x = Str.ofString "cmpxchg"
noncomputable def N1 (x : Str) : Prop := x = Str.ofString "push" ∨ x = Str.ofString "pop" ∨ x = Str.ofString "ror16"
noncomputable def NL (x : Str) : Prop := x = Str.ofString "load" ∨ x = Str.ofString "load_sx"
noncomputable def S2 (s : Int) : Prop := s = 32 ∨ s = 64
noncomputable def RR (a : Int) : Prop := 0 ≤ a ∧ a < 16
noncomputable def Cnt (s c : Int) : Prop := c = 0 ∨ c = s - 1 ∨ c = 7
noncomputable def UW (w : Int) : Prop := w = 0 ∨ w = 18446744073709551615 ∨ w = 9223372036854775808
noncomputable def Zg9 (n : Str) (h : Int) : Prop := h = 1 ∨ h = 2 ∨ h = 4 ∨ (n = Str.ofString "load" ∧ h = 8)
noncomputable def W4 (h : Int) : Prop := h = 1 ∨ h = 2 ∨ h = 4 ∨ h = 8
noncomputable def H2 (h : Int) : Prop := h = 1 ∨ h = 2
noncomputable def Sp (n : Int) : Prop := n = 0 ∨ n = 1 ∨ n = 2 ∨ n = 3
noncomputable def imm : Str := Str.ofString "_imm"
noncomputable def Y0 (k : Str) : Str := if k = Str.ofString "order" then Str.ofString "O" else if k = Str.ofString "label" then Str.ofString "L" else Str.ofString "E"
noncomputable def K3 (k : Str) : Prop := k = Str.ofString "order" ∨ k = Str.ofString "label" ∨ k = Str.ofString "entry"
noncomputable def K2 (k : Str) : Prop := k = Str.ofString "order" ∨ k = Str.ofString "label"
inductive ZM : Str → List AV → Str → Prop
 | rr {n s a b} : N9 n → S2 s → RR a → RR b → ZM n [.int s, .int a, .int b] (Zb n (Zb sp (Zb (Zq s a) (Zb com (Zq s b)))))
 | ri {n s a f} : N9 n → S2 s → RR a → Far f → ZM (Zb n imm) [.int s, .int a, .int f] (Zb (Zb n imm) (Zb sp (Zb (Zq s a) (Zb com (Zs f)))))
 | rn {n s a c} : N3 n → S2 s → RR a → Cnt s c → ZM (Zb n imm) [.int s, .int a, .int c] (Zb (Zb n imm) (Zb sp (Zb (Zq s a) (Zb com (Zs c)))))
 | zr {n s a} : N6 n → S2 s → RR a → ZM n [.int s, .int a] (Zb n (Zb sp (Zq s a)))
 | movabs {a w} : RR a → UW w → ZM (Str.ofString "movabs") [.int a, .int w] (Zb (Str.ofString "movabs") (Zb sp (Zb (Zq 64 a) (Zb com (Zs w)))))
 | load {n h a b f} : NL n → Zg9 n h → RR a → RR b → Far f → ZM n [.int h, .int a, .int b, .int f] (Zb n (Zb (Zs (8 * h)) (Zb sp (Zb (Zq 64 a) (Zb com (YM b f))))))
 | store {w a f b} : W4 w → RR a → Far f → RR b → ZM (Str.ofString "store") [.int w, .int a, .int f, .int b] (Zb (Str.ofString "store") (Zb (Zs (8 * w)) (Zb sp (Zb (YM a f) (Zb com (Zq 64 b))))))
 | storei {w a f} : W4 w → RR a → Far f → ZM (Str.ofString "store_imm") [.int w, .int a, .int f, .int 7] (Zb (Str.ofString "store") (Zb (Zs (8 * w)) (Zb sp (Zb (YM a f) (Zb com (Zs 7))))))
 | lock {n s a f b} : N7 n → S2 s → RR a → Far f → RR b → ZM n [.int s, .int a, .int f, .int b] (Zb n (Zb (Zs s) (Zb sp (Zb (YM a f) (Zb com (Zq 64 b))))))
 | one {n a} : N1 n → RR a → ZM n [.int a] (Zb n (Zb sp (Zq 64 a)))
 | movzx {h a b} : H2 h → RR a → RR b → ZM (Str.ofString "movzx") [.int h, .int a, .int b] (Zb (Str.ofString "movzx") (Zb sp (Zb (Zb (Str.ofString "u") (Zs (8 * h))) (Zb com (Zb (Zq 64 a) (Zb com (Zq 64 b)))))))
 | movsx {s h a b} : S2 s → H2 h → RR a → RR b → ZM (Str.ofString "movsx") [.int s, .int h, .int a, .int b] (Zb (Str.ofString "movsx") (Zb sp (Zb (Zb (Str.ofString "s") (Zs (8 * h))) (Zb com (Zb (Zq s a) (Zb com (Zq s b)))))))
 | ret : ZM (Str.ofString "ret") [] (Str.ofString "ret")
 | cqo : ZM (Str.ofString "cqo") [.int 64] (Str.ofString "cqo")
 | mark {k n} : K3 k → Sp n → ZM k [.int n] (Zb (Y0 k) (Zb (Zs n) (Str.ofString ":")))
 | jmp {k n} : K2 k → Sp n → ZM (Str.ofString "jmp") [.str k, .int n] (Zb (Str.ofString "jmp") (Zb sp (Zb (Y0 k) (Zs n))))
 | jcc {k n} : K2 k → Sp n → ZM (Str.ofString "jcc") [.str (Str.ofString "le"), .str k, .int n] (Zb (Str.ofString "jle") (Zb sp (Zb (Y0 k) (Zs n))))
 | call {n} : Sp n → ZM (Str.ofString "call") [.int n] (Zb (Str.ofString "call") (Zb sp (Zb (Str.ofString "E") (Zs n))))
noncomputable def ZcP (x : Str) : Prop := Zf x ≤ 30 ∧ YA x = true ∧ Z7 x = true
theorem Jf {x : Str} (h : (Nat.ble (Zf x) 30 && (YA x && Z7 x)) = true) : ZcP x :=
 have h := Bool.and_eq_true_iff.mp h
 have g := Bool.and_eq_true_iff.mp h.2
 ⟨Nat.le_of_ble_eq_true h.1, g.1, g.2⟩
theorem bnd {x y : Str} {a b : Nat} (hx : Zf x ≤ a) (hy : Zf y ≤ b) (h : Nat.ble (a + b) 16777216 = true := by rfl) : ZU (Zf x + Zf y) := Zc (Nat.le_trans (Nat.add_le_add hx hy) (Nat.le_of_ble_eq_true h))
theorem bap {x y : Str} {a b : Nat} (hx : Zf x ≤ a) (hy : Zf y ≤ b) : Zf (Zb x y) ≤ a + b := by rw [Zk]; exact Nat.add_le_add hx hy
theorem ZV {x : Str} {a : Nat} (h : Zf x ≤ a) (g : Nat.ble a 100 = true := by rfl) : Zf x ≤ 100 := Nat.le_trans h (Nat.le_of_ble_eq_true g)
theorem sp1 : Zf (Str.ofString " ") ≤ 1 := by decide +kernel
theorem Yb : Zf (Str.ofString ", ") ≤ 2 := by decide +kernel
theorem Yr (s : Int) {a : Int} (h : RR a) : Zf (Zq s a) ≤ 4 := JE s h.1 h.2
theorem ZK (s : Int) {a : Int} (h : RR a) : Zf (Zq s a) ≤ 100 := ZV (Yr s h)
theorem Zfy (s : Int) {a : Int} (h : RR a) : Z7 (Zq s a) = true := Zd4 s h.1 h.2
theorem Zbf {f : Int} (h : Far f) : ZcP (Zs f) := by obtain rfl | rfl | rfl | rfl := h <;> exact Jf (by decide +kernel)
theorem Zbn {s c : Int} (hs : S2 s) (h : Cnt s c) : ZcP (Zs c) := by obtain rfl | rfl := hs <;> obtain rfl | rfl | rfl := h <;> exact Jf (by decide +kernel)
theorem Xr {f : Int} (h : UW f) : ZcP (Zs f) := by obtain rfl | rfl | rfl := h <;> exact Jf (by decide +kernel)
theorem ZE {f : Int} (h : Sp f) : ZcP (Zs f) := by obtain rfl | rfl | rfl | rfl := h <;> exact Jf (by decide +kernel)
theorem Zgq {f : Int} (h : Far f) : f.natAbs < 2 ^ 70 := by obtain rfl | rfl | rfl | rfl := h <;> decide +kernel
theorem ZgT {s f : Int} (hs : S2 s) (h : Cnt s f) : f.natAbs < 2 ^ 70 := by obtain rfl | rfl := hs <;> obtain rfl | rfl | rfl := h <;> decide +kernel
theorem Zaw {f : Int} (h : UW f) : f.natAbs < 2 ^ 70 := by obtain rfl | rfl | rfl := h <;> decide +kernel
theorem XW {f : Int} (h : Sp f) : f.natAbs < 2 ^ 70 := by obtain rfl | rfl | rfl | rfl := h <;> decide +kernel
theorem S2.four {s : Int} (h : S2 s) : s = 8 ∨ s = 16 ∨ s = 32 ∨ s = 64 := .inr (.inr h)
theorem VA {s : Int} (h : S2 s) : Zf (Zs s) ≤ 30 := by obtain rfl | rfl := h <;> decide +kernel
theorem ZiY {s : Int} (h : S2 s) : s.natAbs < 2 ^ 70 := by obtain rfl | rfl := h <;> decide +kernel
structure Wd (h : Int) : Prop where
 a : h.natAbs < 2 ^ 64
 b : (8 * h).natAbs < 2 ^ 70
 l : Zf (Zs (8 * h)) ≤ 30
theorem W4.wd {h : Int} (w : W4 h) : Wd h := by obtain rfl | rfl | rfl | rfl := w <;> exact ⟨by decide +kernel, by decide +kernel, by decide +kernel⟩
theorem H2.wd {h : Int} (w : H2 h) : Wd h := by obtain rfl | rfl := w <;> exact ⟨by decide +kernel, by decide +kernel, by decide +kernel⟩
theorem Zg9.wd {n : Str} {h : Int} (w : Zg9 n h) : Wd h := by obtain rfl | rfl | rfl | ⟨_, rfl⟩ := w <;> exact ⟨by decide +kernel, by decide +kernel, by decide +kernel⟩
theorem e64 : (8 : Int).natAbs < 2 ^ 64 := by decide
noncomputable def Xd : FI := ⟨(Zi 20 (P1 "row")).names, true, false, []⟩
noncomputable def ZcL : List Stmt := (Zi 20 (P1 "row")).body.take 6
noncomputable def Wg : List Stmt := (Zi 20 (P1 "row")).body.drop 6
noncomputable def XR (n : Str) (ps : List AV) (sh : Str) : Loc := [(Str.ofString "row", .row n ps), (Str.ofString "name", .str n), (Str.ofString "parts", .tup ps), (Str.ofString "shape", .str sh), (Str.ofString "goal", .none)]
noncomputable def ZeH (K : AV → Prop) : KS := fun fl _ σ₁ => match fl with | .ret v => kfz K v σ₁ | .next => kfz K .none σ₁
noncomputable def ZeG (X : KC) : KX := fun x _ σ₁ => X x σ₁
structure Nam (n : Str) : Prop where
 l : Zf n ≤ 30
 g : YA n = true
noncomputable def ZlE (n : Str) : Bool := Nat.ble (Zf n) 30 && YA n
theorem WI {n : Str} (h : ZlE n = true) : Nam n :=
 have h := Bool.and_eq_true_iff.mp h
 ⟨Nat.le_of_ble_eq_true h.1, h.2⟩
theorem ZkA : pgE.fn 182 = some (Zi 20 (P1 "row")) := by kernel_rfl
theorem ZiE : (Zi 20 (P1 "row")).body = ZcL ++ Wg := (List.take_append_drop 6 _).symm
theorem VM {n : Str} {ps : List AV} {K : AV → Prop} {X : KC} (h : Vz pgE (ev pgE 58) 58 Xd (ZcL ++ Wg) [(Str.ofString "row", .row n ps)] [] (ZeH K) (ZeG X)) : (ev pgE 60).C true 182 [.row n ps] [] (kfz K) X := by
 refine Zju (n := 58) (loc := [(Str.ofString "row", .row n ps)]) ZkA rfl ?_
 rw [ZiE]
 exact h
section
variable {K : AV → Prop} {X : KC} {KK : KS} {XX : KX} {rest : List Stmt} {n : Str} {s a b c f w i : Int}
theorem Zh5 (hn : N9 n) {p0 p1 p2 : AV} (h : U2 pgE (ev pgE 58) 58 Xd rest (XR n [p0, p1, p2] ⟨⟨[122, 114, 114]⟩⟩) [] KK XX) :
  Vz pgE (ev pgE 58) 58 Xd (ZcL ++ rest) [(Str.ofString "row", .row n [p0, p1, p2])] [] KK XX := by
 obtain rfl | rfl | rfl | rfl | rfl | rfl | rfl | rfl | rfl := hn <;> exact h
theorem ZfG (hn : N9 n) : Nam n := by
 obtain rfl | rfl | rfl | rfl | rfl | rfl | rfl | rfl | rfl := hn <;> exact WI (by decide +kernel)
theorem Zh7 (hn : N9 n) {p0 p1 p2 : AV} (h : U2 pgE (ev pgE 58) 58 Xd rest (XR (Zb n imm) [p0, p1, p2] ⟨⟨[122, 114, 105]⟩⟩) [] KK XX) :
  Vz pgE (ev pgE 58) 58 Xd (ZcL ++ rest) [(Str.ofString "row", .row (Zb n imm) [p0, p1, p2])] [] KK XX := by
 obtain rfl | rfl | rfl | rfl | rfl | rfl | rfl | rfl | rfl := hn <;> exact h
theorem ZjU (hn : N9 n) : Nam (Zb n imm) := by
 obtain rfl | rfl | rfl | rfl | rfl | rfl | rfl | rfl | rfl := hn <;> exact WI (by decide +kernel)
theorem Zh6 (hn : N3 n) {p0 p1 p2 : AV} (h : U2 pgE (ev pgE 58) 58 Xd rest (XR (Zb n imm) [p0, p1, p2] ⟨⟨[122, 114, 110]⟩⟩) [] KK XX) :
  Vz pgE (ev pgE 58) 58 Xd (ZcL ++ rest) [(Str.ofString "row", .row (Zb n imm) [p0, p1, p2])] [] KK XX := by
 obtain rfl | rfl | rfl := hn <;> exact h
theorem ZjT (hn : N3 n) : Nam (Zb n imm) := by
 obtain rfl | rfl | rfl := hn <;> exact WI (by decide +kernel)
theorem Zh4 (hn : N6 n) {p0 p1 : AV} (h : U2 pgE (ev pgE 58) 58 Xd rest (XR n [p0, p1] ⟨⟨[122, 114]⟩⟩) [] KK XX) :
  Vz pgE (ev pgE 58) 58 Xd (ZcL ++ rest) [(Str.ofString "row", .row n [p0, p1])] [] KK XX := by
 obtain rfl | rfl | rfl | rfl | rfl | rfl := hn <;> exact h
theorem ZfF (hn : N6 n) : Nam n := by
 obtain rfl | rfl | rfl | rfl | rfl | rfl := hn <;> exact WI (by decide +kernel)
theorem Zgf (hn : N1 n) {p0 : AV} (h : U2 pgE (ev pgE 58) 58 Xd rest (XR n [p0] ⟨⟨[114]⟩⟩) [] KK XX) :
  Vz pgE (ev pgE 58) 58 Xd (ZcL ++ rest) [(Str.ofString "row", .row n [p0])] [] KK XX := by
 obtain rfl | rfl | rfl := hn <;> exact h
theorem Zc8 (hn : N1 n) : Nam n := by
 obtain rfl | rfl | rfl := hn <;> exact WI (by decide +kernel)
theorem Zhp (N : Nam n) (hs : S2 s) (ha : RR a) (hb : RR b) (h : K (.str (Zb n (Zb sp (Zb (Zq s a) (Zb com (Zq s b))))))) : U2 pgE (ev pgE 58) 58 Xd Wg (XR n [.int s, .int a, .int b] ⟨⟨[122, 114, 114]⟩⟩) [] (ZeH K) (ZeG X) := by
 refine Xu ha.1 ha.2 hs.four ?_
 refine Xu hb.1 hb.2 hs.four ?_
 refine Za (bnd N.l sp1) ?_
 refine Y3 (Jd (ZV Yb) (ZK s ha) (ZK s hb)) ?_
 refine Za (Zc (ZaY (ZV N.l) (ZK s ha) (ZK s hb))) ?_
 refine Za (Zc (Zk _ _ ▸ ZaY (ZV N.l) (ZK s ha) (ZK s hb))) ?_
 exact Zx h (G7 N.g (Zfy s hb))
theorem Zhr (N : Nam n) (hs : S2 s) (ha : RR a) (hf : f.natAbs < 2 ^ 70) (G : ZcP (Zs f)) (h : K (.str (Zb n (Zb sp (Zb (Zq s a) (Zb com (Zs f))))))) : U2 pgE (ev pgE 58) 58 Xd Wg (XR n [.int s, .int a, .int f] ⟨⟨[122, 114, 105]⟩⟩) [] (ZeH K) (ZeG X) := by
 refine Xu ha.1 ha.2 hs.four ?_
 refine Zm hf ?_
 refine Za (bnd N.l sp1) ?_
 refine Y3 (Jd (ZV Yb) (ZK s ha) (ZV G.1)) ?_
 refine Za (Zc (ZaY (ZV N.l) (ZK s ha) (ZV G.1))) ?_
 refine Za (Zc (Zk _ _ ▸ ZaY (ZV N.l) (ZK s ha) (ZV G.1))) ?_
 exact Zx h (G7 N.g G.2.2)
theorem Zhq (N : Nam n) (hs : S2 s) (ha : RR a) (hf : f.natAbs < 2 ^ 70) (G : ZcP (Zs f)) (h : K (.str (Zb n (Zb sp (Zb (Zq s a) (Zb com (Zs f))))))) : U2 pgE (ev pgE 58) 58 Xd Wg (XR n [.int s, .int a, .int f] ⟨⟨[122, 114, 110]⟩⟩) [] (ZeH K) (ZeG X) := by
 refine Xu ha.1 ha.2 hs.four ?_
 refine Zm hf ?_
 refine Za (bnd N.l sp1) ?_
 refine Y3 (Jd (ZV Yb) (ZK s ha) (ZV G.1)) ?_
 refine Za (Zc (ZaY (ZV N.l) (ZK s ha) (ZV G.1))) ?_
 refine Za (Zc (Zk _ _ ▸ ZaY (ZV N.l) (ZK s ha) (ZV G.1))) ?_
 exact Zx h (G7 N.g G.2.2)
theorem Zho (N : Nam n) (hs : S2 s) (ha : RR a) (h : K (.str (Zb n (Zb sp (Zq s a))))) : U2 pgE (ev pgE 58) 58 Xd Wg (XR n [.int s, .int a] ⟨⟨[122, 114]⟩⟩) [] (ZeH K) (ZeG X) := by
 refine Xu ha.1 ha.2 hs.four ?_
 refine Za (bnd N.l sp1) ?_
 refine Y3 (Zdf (ZV Yb) (ZK s ha)) ?_
 refine Za (Zc (ZhJ (ZV N.l) (ZK s ha))) ?_
 refine Za (Zc (Zk _ _ ▸ ZhJ (ZV N.l) (ZK s ha))) ?_
 exact Zx h (Zfh N.g (Zfy s ha))
theorem Zfa (N : Nam n) (ha : RR a) (h : K (.str (Zb n (Zb sp (Zq 64 a))))) : U2 pgE (ev pgE 58) 58 Xd Wg (XR n [.int a] ⟨⟨[114]⟩⟩) [] (ZeH K) (ZeG X) := by
 refine Xu ha.1 ha.2 (by decide) ?_
 refine Za (bnd N.l sp1) ?_
 refine Y3 (Zdf (ZV Yb) (ZK 64 ha)) ?_
 refine Za (Zc (ZhJ (ZV N.l) (ZK 64 ha))) ?_
 refine Za (Zc (Zk _ _ ▸ ZhJ (ZV N.l) (ZK 64 ha))) ?_
 exact Zx h (Zfh N.g (Zfy 64 ha))
theorem Zhx (hn : N9 n) (hs : S2 s) (ha : RR a) (hb : RR b) (h : K (.str (Zb n (Zb sp (Zb (Zq s a) (Zb com (Zq s b))))))) : (ev pgE 60).C true 182 [.row n [.int s, .int a, .int b]] [] (kfz K) X := by
 exact VM (Zh5 hn (Zhp (ZfG hn) hs ha hb h))
theorem Zhz (hn : N9 n) (hs : S2 s) (ha : RR a) (hf : Far f) (h : K (.str (Zb (Zb n imm) (Zb sp (Zb (Zq s a) (Zb com (Zs f))))))) : (ev pgE 60).C true 182 [.row (Zb n imm) [.int s, .int a, .int f]] [] (kfz K) X := by
 exact VM (Zh7 hn (Zhr (ZjU hn) hs ha (Zgq hf) (Zbf hf) h))
theorem Zhy (hn : N3 n) (hs : S2 s) (ha : RR a) (hf : Cnt s f) (h : K (.str (Zb (Zb n imm) (Zb sp (Zb (Zq s a) (Zb com (Zs f))))))) : (ev pgE 60).C true 182 [.row (Zb n imm) [.int s, .int a, .int f]] [] (kfz K) X := by
 exact VM (Zh6 hn (Zhq (ZjT hn) hs ha (ZgT hs hf) (Zbn hs hf) h))
theorem Zhw (hn : N6 n) (hs : S2 s) (ha : RR a) (h : K (.str (Zb n (Zb sp (Zq s a))))) : (ev pgE 60).C true 182 [.row n [.int s, .int a]] [] (kfz K) X := by
 exact VM (Zh4 hn (Zho (ZfF hn) hs ha h))
theorem Zfk (hn : N1 n) (ha : RR a) (h : K (.str (Zb n (Zb sp (Zq 64 a))))) : (ev pgE 60).C true 182 [.row n [.int a]] [] (kfz K) X := by
 exact VM (Zgf hn (Zfa (Zc8 hn) ha h))
theorem ZaN (ha : RR a) (hw : UW w) (h : K (.str (Zb (Str.ofString "movabs") (Zb sp (Zb (Zq 64 a) (Zb com (Zs w))))))) : (ev pgE 60).C true 182 [.row (Str.ofString "movabs") [.int a, .int w]] [] (kfz K) X := by
 have N : Nam (Str.ofString "movabs") := WI (by decide +kernel)
 refine Xu ha.1 ha.2 (by decide) ?_
 refine Zm (Zaw hw) ?_
 refine Za (bnd N.l sp1) ?_
 refine Y3 (Jd (ZV Yb) (ZK 64 ha) (ZV (Xr hw).1)) ?_
 refine Za (Zc (ZaY (ZV N.l) (ZK 64 ha) (ZV (Xr hw).1))) ?_
 refine Za (Zc (Zk _ _ ▸ ZaY (ZV N.l) (ZK 64 ha) (ZV (Xr hw).1))) ?_
 exact Zx h (G7 N.g (Xr hw).2.2)
theorem Zd1 (W : Wd w) (ha : RR a) (hb : RR b) (hf : Far f) (h : K (.str (Zb (Str.ofString "load") (Zb (Zs (8 * w)) (Zb sp (Zb (Zq 64 a) (Zb com (YM b f)))))))) : (ev pgE 60).C true 182 [.row (Str.ofString "load") [.int w, .int a, .int b, .int f]] [] (kfz K) X := by
 have ln : Zf (Str.ofString "load") ≤ 30 := by decide +kernel
 have q1 := bap ln W.l
 have q2 := bap q1 sp1
 have q3 := bap q2 (Yr 64 ha)
 have q4 := bap q3 Yb
 refine WA ha.1 ha.2 ?_
 refine YI e64 W.a ?_
 refine Zm W.b ?_
 refine Za (bnd ln W.l) ?_
 refine Za (bnd q1 sp1) ?_
 refine Za (bnd q2 (Yr 64 ha)) ?_
 refine Za (bnd q3 Yb) ?_
 refine Gs hb.1 hb.2 hf ?_
 refine Za (bnd q4 (ZR hb.1 hb.2 hf)) ?_
 exact Zx h (by simp only [Zg]; rfl)
theorem G9 (W : Wd w) (ha : RR a) (hb : RR b) (hf : Far f) (h : K (.str (Zb (Str.ofString "load_sx") (Zb (Zs (8 * w)) (Zb sp (Zb (Zq 64 a) (Zb com (YM b f)))))))) : (ev pgE 60).C true 182 [.row (Str.ofString "load_sx") [.int w, .int a, .int b, .int f]] [] (kfz K) X := by
 have ln : Zf (Str.ofString "load_sx") ≤ 30 := by decide +kernel
 have q1 := bap ln W.l
 have q2 := bap q1 sp1
 have q3 := bap q2 (Yr 64 ha)
 have q4 := bap q3 Yb
 refine WA ha.1 ha.2 ?_
 refine YI e64 W.a ?_
 refine Zm W.b ?_
 refine Za (bnd ln W.l) ?_
 refine Za (bnd q1 sp1) ?_
 refine Za (bnd q2 (Yr 64 ha)) ?_
 refine Za (bnd q3 Yb) ?_
 refine Gs hb.1 hb.2 hf ?_
 refine Za (bnd q4 (ZR hb.1 hb.2 hf)) ?_
 exact Zx h (by simp only [Zg]; rfl)
theorem Zlu : Zf (Zs 7) ≤ 30 := by decide +kernel
theorem ZbO (W : Wd w) (ha : RR a) (hf : Far f) (hb : RR b) (h : K (.str (Zb (Str.ofString "store") (Zb (Zs (8 * w)) (Zb sp (Zb (YM a f) (Zb com (Zq 64 b)))))))) : (ev pgE 60).C true 182 [.row (Str.ofString "store") [.int w, .int a, .int f, .int b]] [] (kfz K) X := by
 have ln : Zf (Str.ofString "store") ≤ 30 := by decide +kernel
 have q1 := bap ln W.l
 have q2 := bap q1 sp1
 have q3 := bap q2 (ZR ha.1 ha.2 hf)
 have q4 := bap q3 Yb
 refine YI e64 W.a ?_
 refine Zm W.b ?_
 refine Za (bnd ln W.l) ?_
 refine Za (bnd q1 sp1) ?_
 refine Gs ha.1 ha.2 hf ?_
 refine Za (bnd q2 (ZR ha.1 ha.2 hf)) ?_
 refine Za (bnd q3 Yb) ?_
 refine WA hb.1 hb.2 ?_
 refine Za (bnd q4 (Yr 64 hb)) ?_
 exact Zx h (by simp only [Zg]; rfl)
theorem ZaM (W : Wd w) (ha : RR a) (hf : Far f) (h : K (.str (Zb (Str.ofString "store") (Zb (Zs (8 * w)) (Zb sp (Zb (YM a f) (Zb com (Zs 7)))))))) : (ev pgE 60).C true 182 [.row (Str.ofString "store_imm") [.int w, .int a, .int f, .int 7]] [] (kfz K) X := by
 have ln : Zf (Str.ofString "store") ≤ 30 := by decide +kernel
 have q1 := bap ln W.l
 have q2 := bap q1 sp1
 have q3 := bap q2 (ZR ha.1 ha.2 hf)
 have q4 := bap q3 Yb
 refine YI e64 W.a ?_
 refine Zm W.b ?_
 refine Za (bnd ln W.l) ?_
 refine Za (bnd q1 sp1) ?_
 refine Gs ha.1 ha.2 hf ?_
 refine Za (bnd q2 (ZR ha.1 ha.2 hf)) ?_
 refine Za (bnd q3 Yb) ?_
 refine Zm (by decide) ?_
 refine Za (bnd q4 Zlu) ?_
 exact Zx h (by simp only [Zg]; rfl)
theorem ZbP (W : Wd w) (ha : RR a) (hb : RR b) (h : K (.str (Zb (Str.ofString "movzx") (Zb sp (Zb (Zb (Str.ofString "u") (Zs (8 * w))) (Zb com (Zb (Zq 64 a) (Zb com (Zq 64 b))))))))) : (ev pgE 60).C true 182 [.row (Str.ofString "movzx") [.int w, .int a, .int b]] [] (kfz K) X := by
 have N : Nam (Str.ofString "movzx") := WI (by decide +kernel)
 have l1 : Zf (Str.ofString "u") ≤ 1 := by decide +kernel
 have li := ZV (bap l1 W.l)
 refine YI e64 W.a ?_
 refine Zm W.b ?_
 refine Za (bnd l1 W.l) ?_
 refine Xu ha.1 ha.2 (by decide) ?_
 refine Xu hb.1 hb.2 (by decide) ?_
 refine Za (bnd N.l sp1) ?_
 refine Y3 (Zde (ZV Yb) li (ZK 64 ha) (ZK 64 hb)) ?_
 refine Za (Zc (ZhI (ZV N.l) li (ZK 64 ha) (ZK 64 hb))) ?_
 refine Za (Zc (Zk _ _ ▸ ZhI (ZV N.l) li (ZK 64 ha) (ZK 64 hb))) ?_
 exact Zx h (Zfg N.g (Zfy 64 hb))
theorem ZbQ (hs : S2 s) (W : Wd w) (ha : RR a) (hb : RR b) (h : K (.str (Zb (Str.ofString "movsx") (Zb sp (Zb (Zb (Str.ofString "s") (Zs (8 * w))) (Zb com (Zb (Zq s a) (Zb com (Zq s b))))))))) : (ev pgE 60).C true 182 [.row (Str.ofString "movsx") [.int s, .int w, .int a, .int b]] [] (kfz K) X := by
 have N : Nam (Str.ofString "movsx") := WI (by decide +kernel)
 have l1 : Zf (Str.ofString "s") ≤ 1 := by decide +kernel
 have li := ZV (bap l1 W.l)
 refine YI e64 W.a ?_
 refine Zm W.b ?_
 refine Za (bnd l1 W.l) ?_
 refine Xu ha.1 ha.2 hs.four ?_
 refine Xu hb.1 hb.2 hs.four ?_
 refine Za (bnd N.l sp1) ?_
 refine Y3 (Zde (ZV Yb) li (ZK s ha) (ZK s hb)) ?_
 refine Za (Zc (ZhI (ZV N.l) li (ZK s ha) (ZK s hb))) ?_
 refine Za (Zc (Zk _ _ ▸ ZhI (ZV N.l) li (ZK s ha) (ZK s hb))) ?_
 exact Zx h (Zfg N.g (Zfy s hb))
theorem Zfj  (h : K (.str (Str.ofString "ret"))) : (ev pgE 60).C true 182 [.row (Str.ofString "ret") []] [] (kfz K) X := by
 refine Za (Zc (by decide +kernel)) ?_
 refine Y3 (by decide +kernel) ?_
 refine Za (Zc (by decide +kernel)) ?_
 refine Za (Zc (by decide +kernel)) ?_
 exact Zx h (by decide +kernel)
theorem Zfl  (h : K (.str (Str.ofString "cqo"))) : (ev pgE 60).C true 182 [.row (Str.ofString "cqo") [.int 64]] [] (kfz K) X := by
 refine Za (Zc (by decide +kernel)) ?_
 refine Y3 (by decide +kernel) ?_
 refine Za (Zc (by decide +kernel)) ?_
 refine Za (Zc (by decide +kernel)) ?_
 exact Zx h (by decide +kernel)
theorem Zai : Y0 (Str.ofString "order") = Str.ofString "O" := by decide +kernel
theorem W9 : Zf (Str.ofString "O") ≤ 1 := by decide +kernel
theorem Zaj : Y0 (Str.ofString "label") = Str.ofString "L" := by decide +kernel
theorem Vb : Zf (Str.ofString "L") ≤ 1 := by decide +kernel
theorem Zh1 : Y0 (Str.ofString "entry") = Str.ofString "E" := by decide +kernel
theorem Jg : Zf (Str.ofString "E") ≤ 1 := by decide +kernel
theorem Zg0 : Zf (Str.ofString ":") ≤ 1 := by decide +kernel
theorem UZ (hi : Sp i) (h : K (.str (Zb (Y0 (Str.ofString "order")) (Zb (Zs i) (Str.ofString ":"))))) : (ev pgE 60).C true 182 [.row (Str.ofString "order") [.int i]] [] (kfz K) X := by
 refine Zm (XW hi) ?_
 refine Za (bnd W9 (ZE hi).1) ?_
 refine Za (bnd (bap W9 (ZE hi).1) Zg0) ?_
 exact Zx h (by rw [Zai, Zg])
theorem U0 (hi : Sp i) (h : K (.str (Zb (Y0 (Str.ofString "label")) (Zb (Zs i) (Str.ofString ":"))))) : (ev pgE 60).C true 182 [.row (Str.ofString "label") [.int i]] [] (kfz K) X := by
 refine Zm (XW hi) ?_
 refine Za (bnd Vb (ZE hi).1) ?_
 refine Za (bnd (bap Vb (ZE hi).1) Zg0) ?_
 exact Zx h (by rw [Zaj, Zg])
theorem U1 (hi : Sp i) (h : K (.str (Zb (Y0 (Str.ofString "entry")) (Zb (Zs i) (Str.ofString ":"))))) : (ev pgE 60).C true 182 [.row (Str.ofString "entry") [.int i]] [] (kfz K) X := by
 refine Zm (XW hi) ?_
 refine Za (bnd Jg (ZE hi).1) ?_
 refine Za (bnd (bap Jg (ZE hi).1) Zg0) ?_
 exact Zx h (by rw [Zh1, Zg])
theorem Jt (hi : Sp i) (h : K (.str (Zb (Str.ofString "jmp") (Zb sp (Zb (Y0 (Str.ofString "order")) (Zs i)))))) : (ev pgE 60).C true 182 [.row (Str.ofString "jmp") [.str (Str.ofString "order"), .int i]] [] (kfz K) X := by
 have lj : Zf (Str.ofString "jmp") ≤ 30 := by decide +kernel
 refine Za (bnd lj sp1) ?_
 refine Zm (XW hi) ?_
 refine Za (bnd W9 (ZE hi).1) ?_
 refine Za (bnd (bap lj sp1) (bap W9 (ZE hi).1)) ?_
 exact Zx h (by rw [Zai, Zg]; rfl)
theorem Jv (hi : Sp i) (h : K (.str (Zb (Str.ofString "jle") (Zb sp (Zb (Y0 (Str.ofString "order")) (Zs i)))))) : (ev pgE 60).C true 182 [.row (Str.ofString "jcc") [.str (Str.ofString "le"), .str (Str.ofString "order"), .int i]] [] (kfz K) X := by
 have lj : Zf (Zb (Str.ofString "j") (Str.ofString "le")) ≤ 30 := by decide +kernel
 refine Za (Zc (by decide +kernel)) ?_
 refine Za (bnd lj sp1) ?_
 refine Zm (XW hi) ?_
 refine Za (bnd W9 (ZE hi).1) ?_
 refine Za (bnd (bap lj sp1) (bap W9 (ZE hi).1)) ?_
 exact Zx h (by rw [Zai, Zg, show Zb (Str.ofString "j") (Str.ofString "le") = Str.ofString "jle" by decide +kernel]; rfl)
theorem Ju (hi : Sp i) (h : K (.str (Zb (Str.ofString "jmp") (Zb sp (Zb (Y0 (Str.ofString "label")) (Zs i)))))) : (ev pgE 60).C true 182 [.row (Str.ofString "jmp") [.str (Str.ofString "label"), .int i]] [] (kfz K) X := by
 have lj : Zf (Str.ofString "jmp") ≤ 30 := by decide +kernel
 refine Za (bnd lj sp1) ?_
 refine Zm (XW hi) ?_
 refine Za (bnd Vb (ZE hi).1) ?_
 refine Za (bnd (bap lj sp1) (bap Vb (ZE hi).1)) ?_
 exact Zx h (by rw [Zaj, Zg]; rfl)
theorem Jw (hi : Sp i) (h : K (.str (Zb (Str.ofString "jle") (Zb sp (Zb (Y0 (Str.ofString "label")) (Zs i)))))) : (ev pgE 60).C true 182 [.row (Str.ofString "jcc") [.str (Str.ofString "le"), .str (Str.ofString "label"), .int i]] [] (kfz K) X := by
 have lj : Zf (Zb (Str.ofString "j") (Str.ofString "le")) ≤ 30 := by decide +kernel
 refine Za (Zc (by decide +kernel)) ?_
 refine Za (bnd lj sp1) ?_
 refine Zm (XW hi) ?_
 refine Za (bnd Vb (ZE hi).1) ?_
 refine Za (bnd (bap lj sp1) (bap Vb (ZE hi).1)) ?_
 exact Zx h (by rw [Zaj, Zg, show Zb (Str.ofString "j") (Str.ofString "le") = Str.ofString "jle" by decide +kernel]; rfl)
theorem Zd2 (hi : Sp i) (h : K (.str (Zb (Str.ofString "call") (Zb sp (Zb (Str.ofString "E") (Zs i)))))) : (ev pgE 60).C true 182 [.row (Str.ofString "call") [.int i]] [] (kfz K) X := by
 have lj : Zf (Str.ofString "call") ≤ 30 := by decide +kernel
 refine Za (bnd lj sp1) ?_
 refine Zm (XW hi) ?_
 refine Za (bnd Jg (ZE hi).1) ?_
 refine Za (bnd (bap lj sp1) (bap Jg (ZE hi).1)) ?_
 exact Zx h (by rw [Zg]; rfl)
end
noncomputable def n7b (n : Str) : Bool := Nat.ble (Zf n) 30 && (!Yc n [Str.ofString "order", Str.ofString "label", Str.ofString "entry"] && (!sEq n (Str.ofString "jmp") && (!sEq n (Str.ofString "jcc") && (!sEq n (Str.ofString "call") && (!Yc n [Str.ofString "load", Str.ofString "load_sx", Str.ofString "store", Str.ofString "store_imm"] && (!Yc n [Str.ofString "load", Str.ofString "load_sx"] && (!sEq n (Str.ofString "store_imm") && (!sEq n (Str.ofString "store")))))))))
theorem VC {a b : Bool} (h : (!a && b) = true) : a = false ∧ b = true := by cases a with | true => exact xF h | false => exact ⟨rfl, h⟩
theorem Znx {n : Str} (hn : N7 n) : n7b n = true ∧ ZJ n Zz = some (Str.ofString "zrir") := by
 obtain rfl | rfl | rfl | rfl | rfl | rfl | rfl := hn <;> exact ⟨by decide +kernel, by decide +kernel⟩
theorem Zd0 {n : Str} {s a f b : Int} {K : AV → Prop} {X : KC} (hn : N7 n) (hs : S2 s) (ha : RR a) (hf : Far f) (hb : RR b) (h : K (.str (Zb n (Zb (Zs s) (Zb sp (Zb (YM a f) (Zb com (Zq 64 b)))))))) : (ev pgE 60).C true 182 [.row n [.int s, .int a, .int f, .int b]] [] (kfz K) X := by
 obtain ⟨q, sh⟩ := Znx hn
 obtain ⟨ln, q⟩ := Bool.and_eq_true_iff.mp q
 replace ln := Nat.le_of_ble_eq_true ln
 obtain ⟨c1, q⟩ := VC q
 obtain ⟨c2, q⟩ := VC q
 obtain ⟨c3, q⟩ := VC q
 obtain ⟨c4, q⟩ := VC q
 obtain ⟨c5, q⟩ := VC q
 obtain ⟨c6, q⟩ := VC q
 obtain ⟨c7, c8⟩ := VC q
 replace c8 : sEq n (Str.ofString "store") = false := by simpa using c8
 refine Yi sh ?_
 refine Zd c1 ?_
 refine Zd c2 ?_
 refine Zd c3 ?_
 refine Zd c4 ?_
 refine Zd c5 ?_
 refine Zd c6 ?_
 refine Zd c7 ?_
 refine Zd c8 ?_
 have q1 := bap ln (VA hs)
 have q2 := bap q1 sp1
 have q3 := bap q2 (ZR ha.1 ha.2 hf)
 have q4 := bap q3 Yb
 refine Zm (ZiY hs) ?_
 refine Za (bnd ln (VA hs)) ?_
 refine Za (bnd q1 sp1) ?_
 refine Gs ha.1 ha.2 hf ?_
 refine Za (bnd q2 (ZR ha.1 ha.2 hf)) ?_
 refine Za (bnd q3 Yb) ?_
 refine WA hb.1 hb.2 ?_
 refine Za (bnd q4 (Yr 64 hb)) ?_
 exact Zx h (by simp only [Zg]; rfl)
structure ZgP (args : List AV) (K : AV → Prop) (X : AX → Prop) : Prop where
 ok : ∃ n ps t, args = [.row n ps] ∧ ZM n ps t ∧ K (.str t)
theorem YF {n : Str} {ps : List AV} {t : Str} {K : AV → Prop} {X : AX → Prop} (hs : ZM n ps t) (h : K (.str t)) : ZgP [.row n ps] K X := by
 exact ⟨n, ps, t, rfl, hs, h⟩
theorem ZdZ {n : Str} {ps : List AV} {t : Str} (hs : ZM n ps t) : ∀ {K : AV → Prop} {X : KC}, K (.str t) → (ev pgE 60).C true 182 [.row n ps] [] (kfz K) X := by
 cases hs with
 | rr hn hs ha hb => exact fun h => Zhx hn hs ha hb h
 | ri hn hs ha hf => exact fun h => Zhz hn hs ha hf h
 | rn hn hs ha hc => exact fun h => Zhy hn hs ha hc h
 | zr hn hs ha => exact fun h => Zhw hn hs ha h
 | movabs ha hw => exact fun h => ZaN ha hw h
 | load hn hh ha hb hf =>
  obtain rfl | rfl := hn
  ·exact fun h => Zd1 hh.wd ha hb hf h
  ·exact fun h => G9 hh.wd ha hb hf h
 | store hw ha hf hb => exact fun h => ZbO hw.wd ha hf hb h
 | storei hw ha hf => exact fun h => ZaM hw.wd ha hf h
 | lock hn hs ha hf hb => exact fun h => Zd0 hn hs ha hf hb h
 | one hn ha => exact fun h => Zfk hn ha h
 | movzx hh ha hb => exact fun h => ZbP hh.wd ha hb h
 | movsx hs hh ha hb => exact fun h => ZbQ hs hh.wd ha hb h
 | ret => exact fun h => Zfj h
 | cqo => exact fun h => Zfl h
 | mark hk hi =>
  obtain rfl | rfl | rfl := hk
  ·exact fun h => UZ hi h
  ·exact fun h => U0 hi h
  ·exact fun h => U1 hi h
 | jmp hk hi =>
  obtain rfl | rfl := hk
  ·exact fun h => Jt hi h
  ·exact fun h => Ju hi h
 | jcc hk hi =>
  obtain rfl | rfl := hk
  ·exact fun h => Jv hi h
  ·exact fun h => Jw hi h
 | call hi => exact fun h => Zd2 hi h
theorem ZkR : Xe pgE 60 182 ZgP := by
 intro args K X h
 obtain ⟨n, ps, t, rfl, hs, h⟩ := h.ok
 exact ZdZ hs h
structure Zdz (args : List AV) (K : AV → Prop) (X : AX → Prop) : Prop where
 ok : ∃ m : Int, args = [.pen, .int m] ∧ 0 < m ∧ m < 1000 ∧ ∀ d : Int, 0 ≤ d → d < m → K (.int d)
theorem Gr {m : Int} {K : AV → Prop} {X : AX → Prop} (h0 : 0 < m) (h1 : m < 1000) (h : ∀ d : Int, 0 ≤ d → d < m → K (.int d)) : Zdz [.pen, .int m] K X := ⟨m, rfl, h0, h1, h⟩
structure YV (args : List AV) (K : AV → Prop) (X : AX → Prop) : Prop where
 ok : ∃ vs, args = [.pen, .lst vs] ∧ 0 < vs.length ∧ vs.length < 1000 ∧ (∀ v ∈ vs, Ym v = true) ∧ ∀ v ∈ vs, K v
theorem YR {vs : List AV} {K : AV → Prop} {X : AX → Prop} (h0 : 0 < vs.length) (h1 : vs.length < 1000) (hn : ∀ v ∈ vs, Ym v = true) (h : ∀ v ∈ vs, K v) : YV [.pen, .lst vs] K X := ⟨vs, rfl, h0, h1, hn, h⟩
noncomputable def pgF : Pg := Ws (Ws pgE 182 60 ZgP) 196 5 Zdz
theorem Zk6 {vs : List AV} {d : Int} (h0 : 0 ≤ d) (h1 : d < vs.length) (h2 : vs.length < 1000) : ∃ v, v ∈ vs ∧ at? d vs = some v := by
 obtain ⟨k, rfl⟩ := Int.eq_ofNat_of_zero_le h0
 have hk : k < vs.length := by omega
 refine ⟨vs[k], List.getElem_mem hk, ?_⟩
 show (match Nat.ble k 1000000 with | true => vs[k]? | false => none) = _
 rw [show Nat.ble k 1000000 = true from Nat.ble_eq_true_of_le (by omega)]
 exact List.getElem?_eq_getElem hk
theorem Zic {v : AV} {σ : Led} (h : Ym v = true) : fz σ v = some v := by
 cases v <;> first | rfl | exact xF h
theorem ZkQ : Xe pgF 24 203 YV := by
 intro args K X h
 obtain ⟨vs, rfl, h0, h1, hn, h⟩ := h.ok
 refine Zj (p := ZU vs.length) (Zc (by omega)) ?_
 refine Gr (by omega) (by omega) fun d d0 d1 => ?_
 obtain ⟨v, hv, e⟩ := Zk6 d0 d1 h1
 refine Zy e ?_
 exact X6 (Zic (hn v hv)) (h v hv)
noncomputable def pgG : Pg := Ws pgF 203 24 YV
structure ZgL (args : List AV) (K : AV → Prop) (X : AX → Prop) : Prop where
 ok : ∃ n ps, args = [.str n, .tup ps] ∧ Z4 n ps ∧ K (.bool (!ZW n ps))
theorem UI {n : Str} {ps : List AV} {K : AV → Prop} {X : AX → Prop} (hp : Z4 n ps) (h : K (.bool (!ZW n ps))) : ZgL [.str n, .tup ps] K X := ⟨n, ps, rfl, hp, h⟩
theorem ZkM : Xe pgG 60 231 ZgL := by
 intro args K X h
 obtain ⟨n, ps, rfl, hp, h⟩ := h.ok
 refine ZiU hp (fun e => ?_) (fun e => ?_)
 ·exact fin h (by rw [e]; rfl)
 ·exact fin h (by rw [e]; rfl)
section
noncomputable def WX : List Str := [Str.ofString "jmp", Str.ofString "jcc", Str.ofString "call", Str.ofString "order", Str.ofString "label", Str.ofString "entry"]
structure ZI (n : Str) (ps : List AV) (t : Str) (bads : List AV) : Prop where
 shows : ZM n ps t
 nums : ∀ v ∈ ps, ∃ i, v = .int i
 ok : ZW n ps = true
 pre : Z4 n ps
 plain : Yc n WX = false
 good : sOk n = true
 refs : ∀ b ∈ bads, ∃ qs, b = .tup qs ∧ Z4 n qs ∧ ZW n qs = false
 few : bads.length ≤ 100
 short : Zf n ≤ 30
noncomputable def ZeF (cs : List Nat) : Bool := cs.all fun c => Nat.beq c 122 || (Nat.beq c 119 || (Nat.beq c 104 || (Nat.beq c 120 || (Nat.beq c 114 || (Nat.beq c 105 || (Nat.beq c 117 || (Nat.beq c 110 || Nat.beq c 108)))))))
theorem Zg3 {c : Nat} {cs : List Nat} (h : ZeF cs = true) (hc : c ∈ cs) : c = 122 ∨ c = 119 ∨ c = 104 ∨ c = 120 ∨ c = 114 ∨ c = 105 ∨ c = 117 ∨ c = 110 ∨ c = 108 := by
 have := List.all_eq_true.mp h c hc
 simpa [Nat.beq_eq] using this
theorem Un : ∀ {cs : List Nat} {vs ps : List AV}, ZeF cs = true → (∀ v ∈ vs, YE v) → (110 ∈ cs → ∃ i l, ps = .int i :: l) → WG cs vs ps
 | [], _, _, _, _, _ => trivial
 | _ :: _, [], _, _, _, _ => trivial
 | c :: cs, v :: vs, ps, h, hs, hn => by
  refine ⟨.inr ⟨Zg3 h (.head _), hs v (.head _), fun e => hn (by rw [e]; exact .head _)⟩, fun _ => Un ?_ (fun u hu => hs u (.tail _ hu)) fun e => hn (.tail _ e)⟩
  have : ZeF (c :: cs) = true := h
  unfold ZeF at this ⊢
  rw [List.all_cons] at this
  exact (Bool.and_eq_true_iff.mp this).2
structure Nm (n : Str) (cs : List Nat) : Prop where
 sh : ZJ n Zz = some ⟨⟨cs⟩⟩
 mv : sEq n YZ = false
 len : Zf n ≤ 30
 alp : ZeF cs = true
 plain : Yc n WX = false
 good : sOk n = true
noncomputable def nmB (n : Str) (cs : List Nat) : Bool := decide (ZJ n Zz = some ⟨⟨cs⟩⟩) && (!sEq n YZ && (Nat.ble (Zf n) 30 && (ZeF cs && (!Yc n WX && sOk n))))
theorem XG {n : Str} {cs : List Nat} (h : nmB n cs = true) : Nm n cs := by
 delta nmB at h
 simp only [Bool.and_eq_true, decide_eq_true_eq, Bool.not_eq_true'] at h
 obtain ⟨h1, h2, h3, h4, h5, h6⟩ := h
 exact ⟨h1, h2, Nat.le_of_ble_eq_true h3, h4, h5, h6⟩
theorem Nm.pre {n : Str} {cs : List Nat} (N : Nm n cs) {ps : List AV} (hs : ∀ v ∈ ps, YE v) (hl : ps.length ≤ 10) (hn : 110 ∈ cs → ∃ i l, ps = .int i :: l) : Z4 n ps := by
 refine ⟨by have := N.len; omega, by omega, fun y hy _ => ?_⟩
 rw [N.sh] at hy
 (replace hy := xI hy; cases hy)
 exact Un N.alp hs hn
theorem Nm.ok {n : Str} {cs : List Nat} (N : Nm n cs) {ps : List AV} (hl : cs.length = ps.length) : ZW n ps = Yh cs ps ps := by
 rw [Yy N.sh hl, show Yu n ps = false from by delta Yu; rw [N.mv]; rfl]
 exact Bool.and_true _
theorem n9 {n : Str} (h : N9 n) : Nm n [122, 114, 114] := by obtain rfl | rfl | rfl | rfl | rfl | rfl | rfl | rfl | rfl := h <;> exact XG (by decide +kernel)
theorem n9i {n : Str} (h : N9 n) : Nm (Zb n imm) [122, 114, 105] := by obtain rfl | rfl | rfl | rfl | rfl | rfl | rfl | rfl | rfl := h <;> exact XG (by decide +kernel)
theorem n3i {n : Str} (h : N3 n) : Nm (Zb n imm) [122, 114, 110] := by obtain rfl | rfl | rfl := h <;> exact XG (by decide +kernel)
theorem n6 {n : Str} (h : N6 n) : Nm n [122, 114] := by obtain rfl | rfl | rfl | rfl | rfl | rfl := h <;> exact XG (by decide +kernel)
theorem n7 {n : Str} (h : N7 n) : Nm n [122, 114, 105, 114] := by obtain rfl | rfl | rfl | rfl | rfl | rfl | rfl := h <;> exact XG (by decide +kernel)
theorem n1 {n : Str} (h : N1 n) : Nm n [114] := by obtain rfl | rfl | rfl := h <;> exact XG (by decide +kernel)
theorem Jb : Nm (Str.ofString "movabs") [114, 117] := XG (by decide +kernel)
theorem Za4 : Nm (Str.ofString "load") [119, 114, 114, 105] := XG (by decide +kernel)
theorem VU : Nm (Str.ofString "load_sx") [120, 114, 114, 105] := XG (by decide +kernel)
theorem Zb2 : Nm (Str.ofString "store") [119, 114, 105, 114] := XG (by decide +kernel)
theorem Zaf : Nm (Str.ofString "store_imm") [119, 114, 105, 105] := XG (by decide +kernel)
theorem Zb3 : Nm (Str.ofString "movzx") [104, 114, 114] := XG (by decide +kernel)
theorem Znw : Nm (Str.ofString "ret") [] := XG (by decide +kernel)
theorem ZjV : Nm (Str.ofString "cqo") [122] := XG (by decide +kernel)
theorem zOk {s : Int} (h : S2 s) (ps : List AV) : Z5 122 (.int s) ps = true := by
 show (decide (s = 32) || decide (s = 64)) = true
 obtain rfl | rfl := h <;> rfl
theorem rOk {a : Int} (h : RR a) (ps : List AV) : Z5 114 (.int a) ps = true := by
 show (decide (0 ≤ a) && decide (a < 16)) = true
 rw [decide_eq_true h.1, decide_eq_true h.2]; rfl
theorem iOk {f : Int} (h : Far f) (ps : List AV) : Z5 105 (.int f) ps = true := by
 obtain rfl | rfl | rfl | rfl := h <;> rfl
theorem nOk {s c : Int} (hs : S2 s) (h : Cnt s c) (l : List AV) : Z5 110 (.int c) (.int s :: l) = true := by
 obtain rfl | rfl := hs <;> obtain rfl | rfl | rfl := h <;> rfl
theorem uOk {w : Int} (h : UW w) (ps : List AV) : Z5 117 (.int w) ps = true := by
 obtain rfl | rfl | rfl := h <;> rfl
theorem wOk {w : Int} (h : W4 w) (ps : List AV) : Z5 119 (.int w) ps = true := by
 obtain rfl | rfl | rfl | rfl := h <;> rfl
theorem hOk {w : Int} (h : H2 w) (ps : List AV) : Z5 104 (.int w) ps = true := by
 obtain rfl | rfl := h <;> rfl
structure ZcS (b : AV) : Prop where
 sc : YE b
 no : ∀ ps, Z5 122 b ps = false
structure Uf (b : AV) : Prop where
 sc : YE b
 no : ∀ ps, Z5 114 b ps = false
structure ZcT (b : AV) : Prop where
 sc : YE b
 no : ∀ ps, Z5 105 b ps = false
theorem Uf.bool (b : Bool) : Uf (.bool b) := ⟨.bool b, fun _ => rfl⟩
theorem ZcS.bool (b : Bool) : ZcS (.bool b) := ⟨.bool b, fun _ => rfl⟩
theorem Uf.str (b : Str) : Uf (.str b) := ⟨.str b, fun _ => rfl⟩
theorem ZcS.str (b : Str) : ZcS (.str b) := ⟨.str b, fun _ => rfl⟩
theorem ZcT.str (b : Str) : ZcT (.str b) := ⟨.str b, fun _ => rfl⟩
theorem ZcT.none : ZcT .none := ⟨.none, fun _ => rfl⟩
noncomputable def GW (i j : Int) : Prop := (i = -1 ∧ j = -1) ∨ (i = 16 ∧ j = 16) ∨ (i = 3 ∧ j = 99) ∨ (i = 33 ∧ j = 33) ∨ (i = 2147483648 ∧ j = 2147483648)
theorem GW.z {i j : Int} (h : GW i j) : ZcS (.int i) := by
 obtain ⟨rfl, rfl⟩ | ⟨rfl, rfl⟩ | ⟨rfl, rfl⟩ | ⟨rfl, rfl⟩ | ⟨rfl, rfl⟩ := h <;> exact ⟨.int _, fun _ => rfl⟩
theorem GW.r {i j : Int} (h : GW i j) : Uf (.int j) := by
 obtain ⟨rfl, rfl⟩ | ⟨rfl, rfl⟩ | ⟨rfl, rfl⟩ | ⟨rfl, rfl⟩ | ⟨rfl, rfl⟩ := h <;> exact ⟨.int _, fun _ => rfl⟩
noncomputable def Zdn (i : Int) : Prop := i = 2147483648 ∨ i = -2147483649
theorem Zdn.i {i : Int} (h : Zdn i) : ZcT (.int i) := by obtain rfl | rfl := h <;> exact ⟨.int _, fun _ => rfl⟩
theorem Znd {a : AV} {l : List AV} (h : YE a) (g : ∀ v ∈ l, YE v) : ∀ v ∈ a :: l, YE v := by
 intro v hv
 obtain rfl | hv := List.mem_cons.mp hv
 ·exact h
 ·exact g v hv
theorem Znk : ∀ v ∈ ([] : List AV), YE v := by intro v hv; (exfalso; cases hv)
theorem Zp {P : AV → Prop} {a : AV} {l : List AV} (h : P a) (g : ∀ v ∈ l, P v) : ∀ v ∈ a :: l, P v := by
 intro v hv
 obtain rfl | hv := List.mem_cons.mp hv
 ·exact h
 ·exact g v hv
theorem Yo {P : AV → Prop} : ∀ v ∈ ([] : List AV), P v := by intro v hv; (exfalso; cases hv)
section
variable {n : Str} {cs : List Nat}
theorem ZP (N : Nm n cs) {qs : List AV} (hs : ∀ v ∈ qs, YE v) (h1 : cs.length = qs.length) (h2 : qs.length ≤ 10) (hn : 110 ∈ cs → ∃ i l, qs = .int i :: l) (h : Yh cs qs qs = false) : ∃ us, AV.tup qs = .tup us ∧ Z4 n us ∧ ZW n us = false :=
 ⟨qs, rfl, N.pre hs h2 hn, by rw [N.ok h1]; exact h⟩
theorem Zr {c : Nat} {cs : List Nat} {v : AV} {vs ps : List AV} : Yh (c :: cs) (v :: vs) ps = (Z5 c v ps && Yh cs vs ps) := rfl
theorem Yx (N : Nm n cs) {ps : List AV} {t : Str} {bads : List AV} (hsh : ZM n ps t) (hi : ∀ v ∈ ps, ∃ i, v = .int i) (h1 : cs.length = ps.length) (h2 : ps.length ≤ 10) (hn : 110 ∈ cs → ∃ i l, ps = .int i :: l)
  (h : Yh cs ps ps = true) (hb : ∀ b ∈ bads, ∃ us, b = .tup us ∧ Z4 n us ∧ ZW n us = false) (hf : bads.length ≤ 100) : ZI n ps t bads :=
 ⟨hsh, hi, by rw [N.ok h1]; exact h, N.pre (fun v hv => by obtain ⟨i, rfl⟩ := hi v hv; exact .int i) h2 hn, N.plain, N.good, hb, hf, N.len⟩
end
variable {s a b f c w : Int} {u v : AV}
theorem i1 (a : Int) : ∀ v ∈ [AV.int a], ∃ i, v = .int i := Zp ⟨_, rfl⟩ Yo
theorem i2 (a b : Int) : ∀ v ∈ [AV.int a, .int b], ∃ i, v = .int i := Zp ⟨_, rfl⟩ (i1 b)
theorem i3 (a b c : Int) : ∀ v ∈ [AV.int a, .int b, .int c], ∃ i, v = .int i := Zp ⟨_, rfl⟩ (i2 b c)
theorem i4 (a b c d : Int) : ∀ v ∈ [AV.int a, .int b, .int c, .int d], ∃ i, v = .int i := Zp ⟨_, rfl⟩ (i3 b c d)
theorem q1 {a : AV} (ha : YE a) : ∀ v ∈ [a], YE v := Zp ha Yo
theorem q2 {a b : AV} (ha : YE a) (hb : YE b) : ∀ v ∈ [a, b], YE v := Zp ha (q1 hb)
theorem q3 {a b c : AV} (ha : YE a) (hb : YE b) (hc : YE c) : ∀ v ∈ [a, b, c], YE v := Zp ha (q2 hb hc)
theorem q4 {a b c d : AV} (ha : YE a) (hb : YE b) (hc : YE c) (hd : YE d) : ∀ v ∈ [a, b, c, d], YE v := Zp ha (q3 hb hc hd)
theorem ZL {cs : List Nat} {P : Prop} (h : (cs.all fun c => !Nat.beq c 110) = true) : 110 ∈ cs → P := fun e => by
 have := List.all_eq_true.mp h 110 e
 exact xF this
theorem Zm3 {n : Str} (hn : N9 n) (hs : S2 s) (ha : RR a) (hb : RR b) (hu : ZcS u) (hv : Uf v) :
  ZI n [.int s, .int a, .int b] (Zb n (Zb sp (Zb (Zq s a) (Zb com (Zq s b))))) [.tup [u, .int a, .int b], .tup [.int s, v, .int b], .tup [.int s, .int a, v]] := by
 refine Yx (n9 hn) (.rr hn hs ha hb) (i3 _ _ _) rfl (by simp) (ZL (by decide)) (by simp only [Zr, zOk hs, rOk ha, rOk hb]; rfl) (Zp ?_ (Zp ?_ (Zp ?_ Yo))) (by simp)
 ·exact ZP (n9 hn) (q3 hu.sc (.int _) (.int _)) rfl (by simp) (ZL (by decide)) (by simp only [Zr, hu.no]; rfl)
 ·exact ZP (n9 hn) (q3 (.int _) hv.sc (.int _)) rfl (by simp) (ZL (by decide)) (by simp only [Zr, zOk hs, hv.no]; rfl)
 ·exact ZP (n9 hn) (q3 (.int _) (.int _) hv.sc) rfl (by simp) (ZL (by decide)) (by simp only [Zr, zOk hs, rOk ha, hv.no]; rfl)
theorem Zm2 {n : Str} (hn : N9 n) (hs : S2 s) (ha : RR a) (hf : Far f) (hu : ZcT u) :
  ZI (Zb n imm) [.int s, .int a, .int f] (Zb (Zb n imm) (Zb sp (Zb (Zq s a) (Zb com (Zs f))))) [.tup [.int s, .int a, u], .tup [.int 8, .int a, .int f]] := by
 refine Yx (n9i hn) (.ri hn hs ha hf) (i3 _ _ _) rfl (by simp) (ZL (by decide)) (by simp only [Zr, zOk hs, rOk ha, iOk hf]; rfl) (Zp ?_ (Zp ?_ Yo)) (by simp)
 ·exact ZP (n9i hn) (q3 (.int _) (.int _) hu.sc) rfl (by simp) (ZL (by decide)) (by simp only [Zr, zOk hs, rOk ha, hu.no]; rfl)
 ·exact ZP (n9i hn) (q3 (.int _) (.int _) (.int _)) rfl (by simp) (ZL (by decide)) rfl
theorem Zm1 {n : Str} (hn : N3 n) (hs : S2 s) (ha : RR a) (hc : Cnt s c) :
  ZI (Zb n imm) [.int s, .int a, .int c] (Zb (Zb n imm) (Zb sp (Zb (Zq s a) (Zb com (Zs c))))) [.tup [.int s, .int a, .int s], .tup [.int s, .int a, .int (-1)]] := by
 refine Yx (n3i hn) (.rn hn hs ha hc) (i3 _ _ _) rfl (by simp) (fun _ => ⟨_, _, rfl⟩) (by simp only [Zr, zOk hs, rOk ha, nOk hs hc]; rfl) (Zp ?_ (Zp ?_ Yo)) (by simp)
 ·refine ZP (n3i hn) (q3 (.int _) (.int _) (.int _)) rfl (by simp) (fun _ => ⟨_, _, rfl⟩) ?_
  simp only [Zr, zOk hs, rOk ha]
  obtain rfl | rfl := hs <;> rfl
 ·refine ZP (n3i hn) (q3 (.int _) (.int _) (.int _)) rfl (by simp) (fun _ => ⟨_, _, rfl⟩) ?_
  simp only [Zr, zOk hs, rOk ha]
  rfl
theorem Zm0 {n : Str} (hn : N6 n) (hs : S2 s) (ha : RR a) (hv : Uf v) :
  ZI n [.int s, .int a] (Zb n (Zb sp (Zq s a))) [.tup [.int s, v], .tup [.int 16, .int a]] := by
 refine Yx (n6 hn) (.zr hn hs ha) (i2 _ _) rfl (by simp) (ZL (by decide)) (by simp only [Zr, zOk hs, rOk ha]; rfl) (Zp ?_ (Zp ?_ Yo)) (by simp)
 ·exact ZP (n6 hn) (q2 (.int _) hv.sc) rfl (by simp) (ZL (by decide)) (by simp only [Zr, zOk hs, hv.no]; rfl)
 ·exact ZP (n6 hn) (q2 (.int _) (.int _)) rfl (by simp) (ZL (by decide)) rfl
theorem ZmZ (ha : RR a) (hw : UW w) (hv : Uf v) :
  ZI (Str.ofString "movabs") [.int a, .int w] (Zb (Str.ofString "movabs") (Zb sp (Zb (Zq 64 a) (Zb com (Zs w))))) [.tup [.int a, .int 18446744073709551616], .tup [.int a, .int (-1)], .tup [v, .int w]] := by
 refine Yx Jb (.movabs ha hw) (i2 _ _) rfl (by simp) (ZL (by decide)) (by simp only [Zr, rOk ha, uOk hw]; rfl) (Zp ?_ (Zp ?_ (Zp ?_ Yo))) (by simp)
 ·exact ZP Jb (q2 (.int _) (.int _)) rfl (by simp) (ZL (by decide)) (by simp only [Zr, rOk ha]; rfl)
 ·exact ZP Jb (q2 (.int _) (.int _)) rfl (by simp) (ZL (by decide)) (by simp only [Zr, rOk ha]; rfl)
 ·exact ZP Jb (q2 hv.sc (.int _)) rfl (by simp) (ZL (by decide)) (by simp only [Zr, hv.no]; rfl)
theorem ZmY (hw : W4 w) (ha : RR a) (hb : RR b) (hf : Far f) (hv : Uf v) :
  ZI (Str.ofString "load") [.int w, .int a, .int b, .int f] (Zb (Str.ofString "load") (Zb (Zs (8 * w)) (Zb sp (Zb (Zq 64 a) (Zb com (YM b f)))))) [.tup [.int w, .int a, .int b, .int 2147483648], .tup [.int 3, .int a, .int b, .int f], .tup [.int w, v, .int b, .int f], .tup [.int 16, .int a, .int b, .int f]] := by
 have hh : Zg9 (Str.ofString "load") w := by
  obtain h | h | h | h := hw
  ·exact .inl h
  ·exact .inr (.inl h)
  ·exact .inr (.inr (.inl h))
  ·exact .inr (.inr (.inr ⟨rfl, h⟩))
 refine Yx Za4 (.load (.inl rfl) hh ha hb hf) (i4 _ _ _ _) rfl (by simp) (ZL (by decide)) (by simp only [Zr, wOk hw, rOk ha, rOk hb, iOk hf]; rfl) (Zp ?_ (Zp ?_ (Zp ?_ (Zp ?_ Yo)))) (by simp)
 ·exact ZP Za4 (q4 (.int _) (.int _) (.int _) (.int _)) rfl (by simp) (ZL (by decide)) (by simp only [Zr, wOk hw, rOk ha, rOk hb]; rfl)
 ·exact ZP Za4 (q4 (.int _) (.int _) (.int _) (.int _)) rfl (by simp) (ZL (by decide)) rfl
 ·exact ZP Za4 (q4 (.int _) hv.sc (.int _) (.int _)) rfl (by simp) (ZL (by decide)) (by simp only [Zr, wOk hw, hv.no]; rfl)
 ·exact ZP Za4 (q4 (.int _) (.int _) (.int _) (.int _)) rfl (by simp) (ZL (by decide)) rfl
theorem Zk0 (hw : w = 1 ∨ w = 2 ∨ w = 4) (ha : RR a) (hb : RR b) (hf : Far f) (hv : Uf v) :
  ZI (Str.ofString "load_sx") [.int w, .int a, .int b, .int f] (Zb (Str.ofString "load_sx") (Zb (Zs (8 * w)) (Zb sp (Zb (Zq 64 a) (Zb com (YM b f)))))) [.tup [.int w, .int a, .int b, .int 2147483648], .tup [.int 3, .int a, .int b, .int f], .tup [.int w, v, .int b, .int f], .tup [.int 8, .int a, .int b, .int f]] := by
 have hh : Zg9 (Str.ofString "load_sx") w := by
  obtain h | h | h := hw
  ·exact .inl h
  ·exact .inr (.inl h)
  ·exact .inr (.inr (.inl h))
 have xOk : ∀ ps, Z5 120 (.int w) ps = true := fun ps => by obtain rfl | rfl | rfl := hw <;> rfl
 refine Yx VU (.load (.inr rfl) hh ha hb hf) (i4 _ _ _ _) rfl (by simp) (ZL (by decide)) (by simp only [Zr, xOk, rOk ha, rOk hb, iOk hf]; rfl) (Zp ?_ (Zp ?_ (Zp ?_ (Zp ?_ Yo)))) (by simp)
 ·exact ZP VU (q4 (.int _) (.int _) (.int _) (.int _)) rfl (by simp) (ZL (by decide)) (by simp only [Zr, xOk, rOk ha, rOk hb]; rfl)
 ·exact ZP VU (q4 (.int _) (.int _) (.int _) (.int _)) rfl (by simp) (ZL (by decide)) rfl
 ·exact ZP VU (q4 (.int _) hv.sc (.int _) (.int _)) rfl (by simp) (ZL (by decide)) (by simp only [Zr, xOk, hv.no]; rfl)
 ·exact ZP VU (q4 (.int _) (.int _) (.int _) (.int _)) rfl (by simp) (ZL (by decide)) rfl
theorem ZmX {m : Int} (hm : m = -2147483649) (hw : W4 w) (ha : RR a) (hb : RR b) (hf : Far f) (hv : Uf v) :
  ZI (Str.ofString "store") [.int w, .int a, .int f, .int b] (Zb (Str.ofString "store") (Zb (Zs (8 * w)) (Zb sp (Zb (YM a f) (Zb com (Zq 64 b)))))) [.tup [.int w, .int a, .int f, v], .tup [.int w, .int a, .int m, .int b]] := by
 subst hm
 refine Yx Zb2 (.store hw ha hf hb) (i4 _ _ _ _) rfl (by simp) (ZL (by decide)) (by simp only [Zr, wOk hw, rOk ha, rOk hb, iOk hf]; rfl) (Zp ?_ (Zp ?_ Yo)) (by simp)
 ·exact ZP Zb2 (q4 (.int _) (.int _) (.int _) hv.sc) rfl (by simp) (ZL (by decide)) (by simp only [Zr, wOk hw, rOk ha, iOk hf, hv.no]; rfl)
 ·exact ZP Zb2 (q4 (.int _) (.int _) (.int _) (.int _)) rfl (by simp) (ZL (by decide)) (by simp only [Zr, wOk hw, rOk ha]; rfl)
theorem ZmW (hw : W4 w) (ha : RR a) (hf : Far f) :
  ZI (Str.ofString "store_imm") [.int w, .int a, .int f, .int 7] (Zb (Str.ofString "store") (Zb (Zs (8 * w)) (Zb sp (Zb (YM a f) (Zb com (Zs 7)))))) [.tup [.int w, .int a, .int f, .int 2147483648], .tup [.int 0, .int a, .int f, .int 7]] := by
 refine Yx Zaf (.storei hw ha hf) (i4 _ _ _ _) rfl (by simp) (ZL (by decide)) (by simp only [Zr, wOk hw, rOk ha, iOk hf]; rfl) (Zp ?_ (Zp ?_ Yo)) (by simp)
 ·exact ZP Zaf (q4 (.int _) (.int _) (.int _) (.int _)) rfl (by simp) (ZL (by decide)) (by simp only [Zr, wOk hw, rOk ha, iOk hf]; rfl)
 ·exact ZP Zaf (q4 (.int _) (.int _) (.int _) (.int _)) rfl (by simp) (ZL (by decide)) rfl
theorem ZmV {n : Str} (hn : N7 n) (hs : S2 s) (hw : W4 w) (ha : RR a) (hb : RR b) (hf : Far f) (hv : Uf v) :
  ZI n [.int s, .int a, .int f, .int b] (Zb n (Zb (Zs s) (Zb sp (Zb (YM a f) (Zb com (Zq 64 b)))))) [.tup [.int w, .int a, .int f, .int b], .tup [.int s, v, .int f, .int b]] := by
 refine Yx (n7 hn) (.lock hn hs ha hf hb) (i4 _ _ _ _) rfl (by simp) (ZL (by decide)) (by simp only [Zr, zOk hs, rOk ha, rOk hb, iOk hf]; rfl) (Zp ?_ (Zp ?_ Yo)) (by simp)
 ·refine ZP (n7 hn) (q4 (.int _) (.int _) (.int _) (.int _)) rfl (by simp) (ZL (by decide)) ?_
  obtain rfl | rfl | rfl | rfl := hw <;> rfl
 ·exact ZP (n7 hn) (q4 (.int _) hv.sc (.int _) (.int _)) rfl (by simp) (ZL (by decide)) (by simp only [Zr, zOk hs, hv.no]; rfl)
theorem ZmU {n : Str} (hn : N1 n) (ha : RR a) (hv : Uf v) : ZI n [.int a] (Zb n (Zb sp (Zq 64 a))) [.tup [v]] := by
 refine Yx (n1 hn) (.one hn ha) (i1 _) rfl (by simp) (ZL (by decide)) (by simp only [Zr, rOk ha]; rfl) (Zp ?_ Yo) (by simp)
 exact ZP (n1 hn) (q1 hv.sc) rfl (by simp) (ZL (by decide)) (by simp only [Zr, hv.no]; rfl)
theorem Zk2 (hw : H2 w) (ha : RR a) (hb : RR b) :
  ZI (Str.ofString "movzx") [.int w, .int a, .int b] (Zb (Str.ofString "movzx") (Zb sp (Zb (Zb (Str.ofString "u") (Zs (8 * w))) (Zb com (Zb (Zq 64 a) (Zb com (Zq 64 b))))))) [.tup [.int 4, .int a, .int b], .tup [.int 0, .int a, .int b]] := by
 refine Yx Zb3 (.movzx hw ha hb) (i3 _ _ _) rfl (by simp) (ZL (by decide)) (by simp only [Zr, hOk hw, rOk ha, rOk hb]; rfl) (Zp ?_ (Zp ?_ Yo)) (by simp)
 ·exact ZP Zb3 (q3 (.int _) (.int _) (.int _)) rfl (by simp) (ZL (by decide)) rfl
 ·exact ZP Zb3 (q3 (.int _) (.int _) (.int _)) rfl (by simp) (ZL (by decide)) rfl
theorem Ur {ps : List AV} (hs : ∀ v ∈ ps, YE v) (hl : ps.length ≤ 10) : Z4 (Str.ofString "movsx") ps := by
 refine ⟨by decide +kernel, by omega, fun y hy _ => ?_⟩
 have : some y = some (⟨⟨[122, 120, 114, 114]⟩⟩ : Str) := hy.symm.trans WJ
 (replace this := xI this; cases this)
 exact Un (by decide) hs (ZL (by decide))
theorem Zk1 (hs : S2 s) (hw : H2 w) (ha : RR a) (hb : RR b) :
  ZI (Str.ofString "movsx") [.int s, .int w, .int a, .int b] (Zb (Str.ofString "movsx") (Zb sp (Zb (Zb (Str.ofString "s") (Zs (8 * w))) (Zb com (Zb (Zq s a) (Zb com (Zq s b))))))) [.tup [.int 32, .int 4, .int a, .int b], .tup [.int s, .int 8, .int a, .int b]] := by
 have sh : ZJ (Str.ofString "movsx") Zz = some ⟨⟨[122, 120, 114, 114]⟩⟩ := WJ
 have xOk : ∀ ps, Z5 120 (.int w) ps = true := fun ps => by obtain rfl | rfl := hw <;> rfl
 refine ⟨.movsx hs hw ha hb, i4 _ _ _ _, ?_, Ur (q4 (.int _) (.int _) (.int _) (.int _)) (by simp), by decide +kernel, by decide +kernel, Zp ⟨_, rfl, Ur (q4 (.int _) (.int _) (.int _) (.int _)) (by simp), ?_⟩ (Zp ⟨_, rfl, Ur (q4 (.int _) (.int _) (.int _) (.int _)) (by simp), ?_⟩ Yo), by simp, by decide +kernel⟩
 ·rw [Yy sh rfl]
  simp only [Zr, zOk hs, xOk, rOk ha, rOk hb]
  have : Yu (Str.ofString "movsx") [.int s, .int w, .int a, .int b] = false := by
   show (_ && (decide (s = 32) && decide (w = 4))) = false
   rw [show decide (w = 4) = false from by obtain rfl | rfl := hw <;> rfl]
   simp
  rw [this]; rfl
 ·rw [Yy sh rfl]
  have : Yu (Str.ofString "movsx") [.int 32, .int 4, .int a, .int b] = true := by
   show (sEq YZ YZ && _) = true
   rw [Yq]; rfl
  rw [this]; simp
 ·rw [Yy sh rfl]
  simp only [Zr, zOk hs]
  rfl
theorem ZiB : ZI (Str.ofString "ret") [] (Str.ofString "ret") [] := Yx Znw .ret Yo rfl (by simp) (ZL (by decide)) rfl Yo (by decide)
theorem ZiA : ZI (Str.ofString "cqo") [.int 64] (Str.ofString "cqo") [.tup [.int 8], .tup [.bool true]] := by
 refine Yx ZjV .cqo (i1 _) rfl (by simp) (ZL (by decide)) rfl (Zp ?_ (Zp ?_ Yo)) (by simp)
 ·exact ZP ZjV (q1 (.int _)) rfl (by simp) (ZL (by decide)) rfl
 ·exact ZP ZjV (q1 (.bool _)) rfl (by simp) (ZL (by decide)) rfl
end
structure ZgM (args : List AV) (K : AV → Prop) (X : AX → Prop) : Prop where
 ok : args = [.pen] ∧ ∀ n ps t bads, ZI n ps t bads → K (.tup [.str n, .tup ps, .str t, .lst bads])
theorem Znc {pg : Pg} {r : Ev} {n : Nat} {fi : FI} {ss : List Stmt} {loc : Loc} {σ : Led} {K : KS} {X : KX} (h : Wy pg r n fi ss loc σ K X) : Wy pg r n fi ss loc σ K X := h
theorem Z8 {K : AV → Prop} {n t t' : Str} {ps bads : List AV} {σ : Led} (h : ∀ n ps t bads, ZI n ps t bads → K (.tup [.str n, .tup ps, .str t, .lst bads])) (c : ZI n ps t bads) (e : t' = t) : kfz K (.tup [.str n, .tup ps, .str t', .lst bads]) σ := by
 subst e; exact X6 rfl (h _ _ _ _ c)
noncomputable def Xc : FI := ⟨(Zi 29 (P1 "pen")).names, true, false, []⟩
noncomputable def Yn : List Stmt := (Zi 29 (P1 "pen")).body.drop 4
noncomputable def YK (s a b f w k : Int) (u v : AV) : Loc := [(Str.ofString "pen", .pen), (Str.ofString "size", .int s), (Str.ofString "one", .int a), (Str.ofString "other", .int b), (Str.ofString "number", .int f), (Str.ofString "width", .int w), (Str.ofString "kind", .int k), (Str.ofString "bad", u), (Str.ofString "bad_reg", v)]
noncomputable def Ue (K : AV → Prop) : KS := fun fl _ σ₁ => match fl with
 | .ret v => kfz K v σ₁
 | .next => kfz K .none σ₁
noncomputable def Uc (X : AX → Prop) : KX := fun x _ σ₁ => (fun x _ => X x) x σ₁
theorem Zfd : Str.ofString "movabs " = Zb (Str.ofString "movabs") sp := by decide +kernel
theorem Zlt : Str.ofString "_imm " = Zb imm sp := by decide +kernel
theorem Zht : Str.ofString ", 7" = Zb com (Zs 7) := by decide +kernel
theorem Zhu : Str.ofString "movzx u" = Zb (Str.ofString "movzx") (Zb sp (Str.ofString "u")) := by decide +kernel
theorem Zhv : Str.ofString "movsx s" = Zb (Str.ofString "movsx") (Zb sp (Str.ofString "s")) := by decide +kernel
theorem ZnY : Zf (Str.ofString " ") = 1 := by decide +kernel
theorem ZnT : Zf (Str.ofString ", ") = 2 := by decide +kernel
theorem ZnS : Zf (Str.ofString "_imm") = 4 := by decide +kernel
theorem ZnA : Zf (Str.ofString "_imm ") = 5 := by decide +kernel
theorem Zj1 {v : AV} (h : v ∈ ([.str (Str.ofString "mov"), .str (Str.ofString "add"), .str (Str.ofString "sub"), .str (Str.ofString "and"), .str (Str.ofString "or"), .str (Str.ofString "xor"), .str (Str.ofString "cmp"), .str (Str.ofString "test"), .str (Str.ofString "imul")] : List AV)) : ∃ n, v = .str n ∧ N9 n := by
 simp only [List.mem_cons, List.not_mem_nil, or_false] at h
 obtain rfl | rfl | rfl | rfl | rfl | rfl | rfl | rfl | rfl := h
 ·exact ⟨_, rfl, .inl rfl⟩
 ·exact ⟨_, rfl, .inr (.inl rfl)⟩
 ·exact ⟨_, rfl, .inr (.inr (.inl rfl))⟩
 ·exact ⟨_, rfl, .inr (.inr (.inr (.inl rfl)))⟩
 ·exact ⟨_, rfl, .inr (.inr (.inr (.inr (.inl rfl))))⟩
 ·exact ⟨_, rfl, .inr (.inr (.inr (.inr (.inr (.inl rfl)))))⟩
 ·exact ⟨_, rfl, .inr (.inr (.inr (.inr (.inr (.inr (.inl rfl))))))⟩
 ·exact ⟨_, rfl, .inr (.inr (.inr (.inr (.inr (.inr (.inr (.inl rfl)))))))⟩
 ·exact ⟨_, rfl, .inr (.inr (.inr (.inr (.inr (.inr (.inr (.inr (rfl))))))))⟩
theorem Zj4 {v : AV} (h : v ∈ ([.str (Str.ofString "shl"), .str (Str.ofString "shr"), .str (Str.ofString "sar")] : List AV)) : ∃ n, v = .str n ∧ N3 n := by
 simp only [List.mem_cons, List.not_mem_nil, or_false] at h
 obtain rfl | rfl | rfl := h
 ·exact ⟨_, rfl, .inl rfl⟩
 ·exact ⟨_, rfl, .inr (.inl rfl)⟩
 ·exact ⟨_, rfl, .inr (.inr (rfl))⟩
theorem Zj3 {v : AV} (h : v ∈ ([.str (Str.ofString "shl"), .str (Str.ofString "sar"), .str (Str.ofString "neg"), .str (Str.ofString "bswap"), .str (Str.ofString "div"), .str (Str.ofString "idiv")] : List AV)) : ∃ n, v = .str n ∧ N6 n := by
 simp only [List.mem_cons, List.not_mem_nil, or_false] at h
 obtain rfl | rfl | rfl | rfl | rfl | rfl := h
 ·exact ⟨_, rfl, .inl rfl⟩
 ·exact ⟨_, rfl, .inr (.inl rfl)⟩
 ·exact ⟨_, rfl, .inr (.inr (.inl rfl))⟩
 ·exact ⟨_, rfl, .inr (.inr (.inr (.inl rfl)))⟩
 ·exact ⟨_, rfl, .inr (.inr (.inr (.inr (.inl rfl))))⟩
 ·exact ⟨_, rfl, .inr (.inr (.inr (.inr (.inr (rfl)))))⟩
theorem Zj2 {v : AV} (h : v ∈ ([.str (Str.ofString "lock_add"), .str (Str.ofString "lock_and"), .str (Str.ofString "lock_or"), .str (Str.ofString "lock_xor"), .str (Str.ofString "xadd"), .str (Str.ofString "xchg_mem"), .str (Str.ofString "cmpxchg")] : List AV)) : ∃ n, v = .str n ∧ N7 n := by
 simp only [List.mem_cons, List.not_mem_nil, or_false] at h
 obtain rfl | rfl | rfl | rfl | rfl | rfl | rfl := h
 ·exact ⟨_, rfl, .inl rfl⟩
 ·exact ⟨_, rfl, .inr (.inl rfl)⟩
 ·exact ⟨_, rfl, .inr (.inr (.inl rfl))⟩
 ·exact ⟨_, rfl, .inr (.inr (.inr (.inl rfl)))⟩
 ·exact ⟨_, rfl, .inr (.inr (.inr (.inr (.inl rfl))))⟩
 ·exact ⟨_, rfl, .inr (.inr (.inr (.inr (.inr (.inl rfl)))))⟩
 ·exact ⟨_, rfl, .inr (.inr (.inr (.inr (.inr (.inr (rfl))))))⟩
theorem Zj5 {v : AV} (h : v ∈ ([.str (Str.ofString "push"), .str (Str.ofString "pop"), .str (Str.ofString "ror16")] : List AV)) : ∃ n, v = .str n ∧ N1 n := by
 simp only [List.mem_cons, List.not_mem_nil, or_false] at h
 obtain rfl | rfl | rfl := h
 ·exact ⟨_, rfl, .inl rfl⟩
 ·exact ⟨_, rfl, .inr (.inl rfl)⟩
 ·exact ⟨_, rfl, .inr (.inr (rfl))⟩
theorem Zj0 {v : AV} (h : v ∈ ([.str (Str.ofString "load"), .str (Str.ofString "load_sx")] : List AV)) : ∃ n, v = .str n ∧ NL n := by
 simp only [List.mem_cons, List.not_mem_nil, or_false] at h
 obtain rfl | rfl := h
 ·exact ⟨_, rfl, .inl rfl⟩
 ·exact ⟨_, rfl, .inr (rfl)⟩
theorem ZjZ {v : AV} (h : v ∈ ([.int (32), .int (64)] : List AV)) : ∃ i, v = .int i ∧ S2 i := by
 simp only [List.mem_cons, List.not_mem_nil, or_false] at h
 obtain rfl | rfl := h
 ·exact ⟨_, rfl, .inl rfl⟩
 ·exact ⟨_, rfl, .inr (rfl)⟩
theorem ZhV {v : AV} (h : v ∈ ([.int (0), .int (-2147483648), .int (2147483647), .int (5)] : List AV)) : ∃ i, v = .int i ∧ Far i := by
 simp only [List.mem_cons, List.not_mem_nil, or_false] at h
 obtain rfl | rfl | rfl | rfl := h
 ·exact ⟨_, rfl, .inl rfl⟩
 ·exact ⟨_, rfl, .inr (.inl rfl)⟩
 ·exact ⟨_, rfl, .inr (.inr (.inl rfl))⟩
 ·exact ⟨_, rfl, .inr (.inr (.inr (rfl)))⟩
theorem ZjY {v : AV} (h : v ∈ ([.int (1), .int (2), .int (4), .int (8)] : List AV)) : ∃ i, v = .int i ∧ W4 i := by
 simp only [List.mem_cons, List.not_mem_nil, or_false] at h
 obtain rfl | rfl | rfl | rfl := h
 ·exact ⟨_, rfl, .inl rfl⟩
 ·exact ⟨_, rfl, .inr (.inl rfl)⟩
 ·exact ⟨_, rfl, .inr (.inr (.inl rfl))⟩
 ·exact ⟨_, rfl, .inr (.inr (.inr (rfl)))⟩
theorem Zj6 {v : AV} (h : v ∈ ([.int (1), .int (2)] : List AV)) : ∃ i, v = .int i ∧ H2 i := by
 simp only [List.mem_cons, List.not_mem_nil, or_false] at h
 obtain rfl | rfl := h
 ·exact ⟨_, rfl, .inl rfl⟩
 ·exact ⟨_, rfl, .inr (rfl)⟩
theorem Zed {v : AV} (h : v ∈ ([.int (0), .int (18446744073709551615), .int (9223372036854775808)] : List AV)) : ∃ i, v = .int i ∧ UW i := by
 simp only [List.mem_cons, List.not_mem_nil, or_false] at h
 obtain rfl | rfl | rfl := h
 ·exact ⟨_, rfl, .inl rfl⟩
 ·exact ⟨_, rfl, .inr (.inl rfl)⟩
 ·exact ⟨_, rfl, .inr (.inr (rfl))⟩
theorem ZhW {s : Int} {v : AV} (h : v ∈ ([.int 0, .int (s - 1), .int 7] : List AV)) : ∃ i, v = .int i ∧ Cnt s i := by
 simp only [List.mem_cons, List.not_mem_nil, or_false] at h
 obtain rfl | rfl | rfl := h
 ·exact ⟨_, rfl, .inl rfl⟩
 ·exact ⟨_, rfl, .inr (.inl rfl)⟩
 ·exact ⟨_, rfl, .inr (.inr rfl)⟩
noncomputable def Zm6 (i : Int) : Prop := i = -1 ∨ i = 16 ∨ i = 3 ∨ i = 33 ∨ i = 2147483648
theorem ZhU {v : AV} (h : v ∈ ([.int (-1), .int 16, .int 3, .int 33, .int 2147483648, .bool true, .str (Str.ofString "rax")] : List AV)) : (∃ i, v = .int i ∧ Zm6 i) ∨ v = .bool true ∨ v = .str (Str.ofString "rax") := by
 simp only [List.mem_cons, List.not_mem_nil, or_false] at h
 obtain rfl | rfl | rfl | rfl | rfl | rfl | rfl := h
 ·exact .inl ⟨_, rfl, .inl rfl⟩
 ·exact .inl ⟨_, rfl, .inr (.inl rfl)⟩
 ·exact .inl ⟨_, rfl, .inr (.inr (.inl rfl))⟩
 ·exact .inl ⟨_, rfl, .inr (.inr (.inr (.inl rfl)))⟩
 ·exact .inl ⟨_, rfl, .inr (.inr (.inr (.inr rfl)))⟩
 ·exact .inr (.inl rfl)
 ·exact .inr (.inr rfl)
theorem ZhT {v : AV} (h : v ∈ ([.int 2147483648, .int (-2147483649), .str (Str.ofString "5"), .none] : List AV)) : (∃ i, v = .int i ∧ Zdn i) ∨ v = .str (Str.ofString "5") ∨ v = .none := by
 simp only [List.mem_cons, List.not_mem_nil, or_false] at h
 obtain rfl | rfl | rfl | rfl := h
 ·exact .inl ⟨_, rfl, .inl rfl⟩
 ·exact .inl ⟨_, rfl, .inr rfl⟩
 ·exact .inr (.inl rfl)
 ·exact .inr (.inr rfl)
theorem ZiR {K : AV → Prop} {X : AX → Prop} (h : ∀ n, N9 n → K (.str n)) : YV [.pen, .lst [.str (Str.ofString "mov"), .str (Str.ofString "add"), .str (Str.ofString "sub"), .str (Str.ofString "and"), .str (Str.ofString "or"), .str (Str.ofString "xor"), .str (Str.ofString "cmp"), .str (Str.ofString "test"), .str (Str.ofString "imul")]] K X := YR (by decide) (by decide) (by decide) fun v hv => by obtain ⟨n, rfl, hn⟩ := Zj1 hv; exact h n hn
theorem Zlo {K : AV → Prop} {X : AX → Prop} (h : ∀ n, N3 n → K (.str n)) : YV [.pen, .lst [.str (Str.ofString "shl"), .str (Str.ofString "shr"), .str (Str.ofString "sar")]] K X := YR (by decide) (by decide) (by decide) fun v hv => by obtain ⟨n, rfl, hn⟩ := Zj4 hv; exact h n hn
theorem Zln {K : AV → Prop} {X : AX → Prop} (h : ∀ n, N6 n → K (.str n)) : YV [.pen, .lst [.str (Str.ofString "shl"), .str (Str.ofString "sar"), .str (Str.ofString "neg"), .str (Str.ofString "bswap"), .str (Str.ofString "div"), .str (Str.ofString "idiv")]] K X := YR (by decide) (by decide) (by decide) fun v hv => by obtain ⟨n, rfl, hn⟩ := Zj3 hv; exact h n hn
theorem Zlm {K : AV → Prop} {X : AX → Prop} (h : ∀ n, N7 n → K (.str n)) : YV [.pen, .lst [.str (Str.ofString "lock_add"), .str (Str.ofString "lock_and"), .str (Str.ofString "lock_or"), .str (Str.ofString "lock_xor"), .str (Str.ofString "xadd"), .str (Str.ofString "xchg_mem"), .str (Str.ofString "cmpxchg")]] K X := YR (by decide) (by decide) (by decide) fun v hv => by obtain ⟨n, rfl, hn⟩ := Zj2 hv; exact h n hn
theorem Zlp {K : AV → Prop} {X : AX → Prop} (h : ∀ n, N1 n → K (.str n)) : YV [.pen, .lst [.str (Str.ofString "push"), .str (Str.ofString "pop"), .str (Str.ofString "ror16")]] K X := YR (by decide) (by decide) (by decide) fun v hv => by obtain ⟨n, rfl, hn⟩ := Zj5 hv; exact h n hn
theorem Zll {K : AV → Prop} {X : AX → Prop} (h1 : K (.str (Str.ofString "load"))) (h2 : K (.str (Str.ofString "load_sx"))) : YV [.pen, .lst [.str (Str.ofString "load"), .str (Str.ofString "load_sx")]] K X := YR (by decide) (by decide) (by decide) fun v hv => by obtain ⟨n, rfl, hn⟩ := Zj0 hv; obtain rfl | rfl := hn <;> assumption
theorem Zlk {K : AV → Prop} {X : AX → Prop} (h : ∀ i, S2 i → K (.int i)) : YV [.pen, .lst [.int (32), .int (64)]] K X := YR (by decide) (by decide) (by decide) fun v hv => by obtain ⟨n, rfl, hn⟩ := ZjZ hv; exact h n hn
theorem Zjv {K : AV → Prop} {X : AX → Prop} (h : ∀ i, Far i → K (.int i)) : YV [.pen, .lst [.int (0), .int (-2147483648), .int (2147483647), .int (5)]] K X := YR (by decide) (by decide) (by decide) fun v hv => by obtain ⟨n, rfl, hn⟩ := ZhV hv; exact h n hn
theorem Zlj {K : AV → Prop} {X : AX → Prop} (h : ∀ i, W4 i → K (.int i)) : YV [.pen, .lst [.int (1), .int (2), .int (4), .int (8)]] K X := YR (by decide) (by decide) (by decide) fun v hv => by obtain ⟨n, rfl, hn⟩ := ZjY hv; exact h n hn
theorem ZiS {K : AV → Prop} {X : AX → Prop} (h : ∀ i, H2 i → K (.int i)) : YV [.pen, .lst [.int (1), .int (2)]] K X := YR (by decide) (by decide) (by decide) fun v hv => by obtain ⟨n, rfl, hn⟩ := Zj6 hv; exact h n hn
theorem Ze4 {K : AV → Prop} {X : AX → Prop} (h : ∀ i, UW i → K (.int i)) : YV [.pen, .lst [.int (0), .int (18446744073709551615), .int (9223372036854775808)]] K X := YR (by decide) (by decide) (by decide) fun v hv => by obtain ⟨n, rfl, hn⟩ := Zed hv; exact h n hn
theorem Zjw {s : Int} {K : AV → Prop} {X : AX → Prop} (h : ∀ i, Cnt s i → K (.int i)) : YV [.pen, .lst [.int 0, .int (s - 1), .int 7]] K X := YR (by simp) (by simp) (Zp (P := fun v => Ym v = true) rfl (Zp rfl (Zp rfl Yo))) fun v hv => by obtain ⟨n, rfl, hn⟩ := ZhW hv; exact h n hn
theorem Zjt {K : AV → Prop} {X : AX → Prop} (h1 : ∀ i, Zm6 i → K (.int i)) (h2 : K (.bool true)) (h3 : K (.str (Str.ofString "rax"))) : YV [.pen, .lst [.int (-1), .int 16, .int 3, .int 33, .int 2147483648, .bool true, .str (Str.ofString "rax")]] K X := YR (by decide) (by decide) (by decide) fun v hv => by
 obtain ⟨i, rfl, hi⟩ | rfl | rfl := ZhU hv
 ·exact h1 i hi
 ·exact h2
 ·exact h3
inductive Go : AV → Prop
 | i {i : Int} : Zdn i → Go (.int i)
 | s : Go (.str (Str.ofString "5"))
 | n : Go .none
theorem Zhj {K : AV → Prop} {X : AX → Prop} (h : ∀ v, Go v → K v) : YV [.pen, .lst [.int 2147483648, .int (-2147483649), .str (Str.ofString "5"), .none]] K X := YR (by decide) (by decide) (by decide) fun v hv => by
 obtain ⟨i, rfl, hi⟩ | rfl | rfl := ZhT hv
 ·exact h _ (.i hi)
 ·exact h _ .s
 ·exact h _ .n
inductive X1 : AV → AV → Prop
 | i {i j : Int} : GW i j → X1 (.int i) (.int j)
 | t : X1 (.bool true) (.bool true)
 | x : X1 (.str (Str.ofString "rax")) (.str (Str.ofString "rax"))
theorem tr1 {v : AV} {l : List AV} (h : Ym v = true) (g : UH l = true) : UH (v :: l) = true := by
 show (match Ym v with | true => UH l | false => false) = true
 rw [h]; exact g
theorem X1.nc {u v : AV} (B : X1 u v) : Ww u = false ∧ Ww v = false := by cases B <;> exact .intro rfl rfl
theorem X1.nr {u v : AV} (B : X1 u v) : Ym u = true ∧ Ym v = true := by cases B <;> exact .intro rfl rfl
theorem X1.bz {u v : AV} (B : X1 u v) : ZcS u := by
 cases B with
 | i h => exact h.z
 | t => exact .bool true
 | x => exact .str _
theorem Go.nc {v : AV} (B : Go v) : Ww v = false := by cases B <;> rfl
theorem Go.nr {v : AV} (B : Go v) : Ym v = true := by cases B <;> rfl
theorem Go.bi {v : AV} (B : Go v) : ZcT v := by
 cases B with
 | i h => exact h.i
 | s => exact .str _
 | n => exact .none
theorem X1.br {u v : AV} (B : X1 u v) : Uf v := by
 cases B with
 | i h => exact h.r
 | t => exact .bool true
 | x => exact .str _
theorem Zdi : Zf (Str.ofString "_imm ") ≤ 5 := by decide +kernel
theorem Zen : Zf (Str.ofString "_imm") ≤ 4 := by decide +kernel
theorem Znj : Zf (Str.ofString ", 7") ≤ 3 := by decide +kernel
theorem m7 : Zf (Str.ofString "movabs ") ≤ 7 := by decide +kernel
theorem m8 : Zf (Str.ofString "movzx u") ≤ 7 := by decide +kernel
theorem m9 : Zf (Str.ofString "movsx s") ≤ 7 := by decide +kernel
theorem ld4 : Zf (Str.ofString "load") ≤ 4 := by decide +kernel
theorem ld7 : Zf (Str.ofString "load_sx") ≤ 7 := by decide +kernel
theorem st5 : Zf (Str.ofString "store") ≤ 5 := by decide +kernel
theorem ZfH {n : Str} (h : N7 n) : Zf n ≤ 30 := by obtain rfl | rfl | rfl | rfl | rfl | rfl | rfl := h <;> decide +kernel
theorem ZfI {n : Str} (h : N3 n) : Zf n ≤ 30 := by obtain rfl | rfl | rfl := h <;> decide +kernel
theorem Zae {n : Str} (h : N9 n) : Zf n ≤ 30 := (ZfG h).l
theorem ZlF {n : Str} (h : N6 n) : Zf n ≤ 30 := (ZfF h).l
theorem ZlG {n : Str} (h : N1 n) : Zf n ≤ 30 := (Zc8 h).l
theorem e8 : (8 : Int).natAbs < 2 ^ 64 := by decide
theorem ZlH {w : Int} (hw : W4 w) : Gm w 4 = 1 ∨ Gm w 4 = 2 ∨ Gm w 4 = 4 := by obtain rfl | rfl | rfl | rfl := hw <;> decide
theorem ZhS {w : Int} (hw : W4 w) : Zf (Zs (8 * Gm w 4)) ≤ 30 := by obtain rfl | rfl | rfl | rfl := hw <;> decide +kernel
theorem ZjX {w : Int} (hw : W4 w) : (Gm w 4).natAbs < 2 ^ 64 := by obtain rfl | rfl | rfl | rfl := hw <;> decide
theorem ZhR {w : Int} (hw : W4 w) : (8 * Gm w 4).natAbs < 2 ^ 70 := by obtain rfl | rfl | rfl | rfl := hw <;> decide
theorem JN {w : Int} (hw : W4 w) : Wd (Gm w 4) := ⟨ZjX hw, ZhR hw, ZhS hw⟩
section
variable {K : AV → Prop} {X : AX → Prop} {s a b f w : Int} {u v : AV}
theorem k0 (h : ∀ n ps t bads, ZI n ps t bads → K (.tup [.str n, .tup ps, .str t, .lst bads])) (hs : S2 s) (ha : RR a) (hb : RR b) (B : X1 u v) : Wy pgG (ev pgG 78) 78 Xc Yn (YK s a b f w 0 u v) [] (Ue K) (Uc X) := by
 refine ZiR fun n hn => ?_
 refine Za (bnd (Zae hn) sp1) ?_
 refine Xs ha.1 ha.2 hs ?_
 refine Za (bnd (bap (Zae hn) sp1) (Yr s ha)) ?_
 refine Za (bnd (bap (bap (Zae hn) sp1) (Yr s ha)) Yb) ?_
 refine Xs hb.1 hb.2 hs ?_
 refine Za (bnd (bap (bap (bap (Zae hn) sp1) (Yr s ha)) Yb) (Yr s hb)) ?_
 refine XV B.nc.1 ?_
 refine Zj (tr1 B.nr.1 rfl) ?_
 refine XV B.nc.2 ?_
 refine Zj (tr1 rfl (tr1 B.nr.2 rfl)) ?_
 refine XV B.nc.2 ?_
 refine Zj (tr1 rfl (tr1 rfl (tr1 B.nr.2 rfl))) ?_
 exact Z8 h (Zm3 hn hs ha hb B.bz B.br) (by simp only [Zg]; rfl)
theorem k1 (h : ∀ n ps t bads, ZI n ps t bads → K (.tup [.str n, .tup ps, .str t, .lst bads])) (hs : S2 s) (ha : RR a) (hf : Far f) : Wy pgG (ev pgG 78) 78 Xc Yn (YK s a b f w 1 u v) [] (Ue K) (Uc X) := by
 refine ZiR fun n hn => ?_
 refine Za (bnd (Zae hn) Zen) ?_
 refine Zhj fun v B => ?_
 refine Za (bnd (bap (Zae hn) Zen) sp1) ?_
 refine Xs ha.1 ha.2 hs ?_
 refine Za (bnd (bap (bap (Zae hn) Zen) sp1) (Yr s ha)) ?_
 refine Za (bnd (bap (bap (bap (Zae hn) Zen) sp1) (Yr s ha)) Yb) ?_
 refine Zm (Zgq hf) ?_
 refine Za (bnd (bap (bap (bap (bap (Zae hn) Zen) sp1) (Yr s ha)) Yb) (Zbf hf).1) ?_
 refine XV B.nc ?_
 refine Zj (tr1 rfl (tr1 rfl (tr1 B.nr rfl))) ?_
 exact Z8 h (Zm2 hn hs ha hf B.bi) (by simp only [Zg]; rfl)
theorem k2 (h : ∀ n ps t bads, ZI n ps t bads → K (.tup [.str n, .tup ps, .str t, .lst bads])) (hs : S2 s) (ha : RR a) : Wy pgG (ev pgG 78) 78 Xc Yn (YK s a b f w 2 u v) [] (Ue K) (Uc X) := by
 refine Zlo fun n hn => ?_
 refine Zjw fun c hc => ?_
 refine Za (bnd (ZfI hn) Zen) ?_
 refine Za (bnd (ZfI hn) Zdi) ?_
 refine Xs ha.1 ha.2 hs ?_
 refine Za (bnd (bap (ZfI hn) Zdi) (Yr s ha)) ?_
 refine Za (bnd (bap (bap (ZfI hn) Zdi) (Yr s ha)) Yb) ?_
 refine Zm (ZgT hs hc) ?_
 refine Za (bnd (bap (bap (bap (ZfI hn) Zdi) (Yr s ha)) Yb) (Zbn hs hc).1) ?_
 exact Z8 h (Zm1 hn hs ha hc) (by simp only [Zg, Zlt]; rfl)
theorem k3 (h : ∀ n ps t bads, ZI n ps t bads → K (.tup [.str n, .tup ps, .str t, .lst bads])) (hs : S2 s) (ha : RR a) (B : X1 u v) : Wy pgG (ev pgG 78) 78 Xc Yn (YK s a b f w 3 u v) [] (Ue K) (Uc X) := by
 refine Zln fun n hn => ?_
 refine Za (bnd (ZlF hn) sp1) ?_
 refine Xs ha.1 ha.2 hs ?_
 refine Za (bnd (bap (ZlF hn) sp1) (Yr s ha)) ?_
 refine XV B.nc.2 ?_
 refine Zj (tr1 rfl (tr1 B.nr.2 rfl)) ?_
 exact Z8 h (Zm0 hn hs ha B.br) (by simp only [Zg]; rfl)
theorem k4 (h : ∀ n ps t bads, ZI n ps t bads → K (.tup [.str n, .tup ps, .str t, .lst bads])) (ha : RR a) (B : X1 u v) : Wy pgG (ev pgG 78) 78 Xc Yn (YK s a b f w 4 u v) [] (Ue K) (Uc X) := by
 refine Ze4 fun c hc => ?_
 refine Xs ha.1 ha.2 (.inr rfl) ?_
 refine Za (bnd m7 (Yr 64 ha)) ?_
 refine Za (bnd (bap m7 (Yr 64 ha)) Yb) ?_
 refine Zm (Zaw hc) ?_
 refine Za (bnd (bap (bap m7 (Yr 64 ha)) Yb) (Xr hc).1) ?_
 refine XV B.nc.2 ?_
 refine Zj (tr1 B.nr.2 rfl) ?_
 exact Z8 h (ZmZ ha hc B.br) (by simp only [Zg, Zfd]; rfl)
theorem k5 (h : ∀ n ps t bads, ZI n ps t bads → K (.tup [.str n, .tup ps, .str t, .lst bads])) (ha : RR a) (hb : RR b) (hf : Far f) (hw : W4 w) (B : X1 u v) : Wy pgG (ev pgG 78) 78 Xc Yn (YK s a b f w 5 u v) [] (Ue K) (Uc X) := by
 refine Zll ?_ ?_
 ·refine YI e8 hw.wd.a ?_
  refine Zm hw.wd.b ?_
  refine Za (bnd ld4 hw.wd.l) ?_
  refine Za (bnd (bap ld4 hw.wd.l) sp1) ?_
  refine Xs ha.1 ha.2 (.inr rfl) ?_
  refine Za (bnd (bap (bap ld4 hw.wd.l) sp1) (Yr 64 ha)) ?_
  refine Za (bnd (bap (bap (bap ld4 hw.wd.l) sp1) (Yr 64 ha)) Yb) ?_
  refine ZaD hb.1 hb.2 hf ?_
  refine Za (bnd (bap (bap (bap (bap ld4 hw.wd.l) sp1) (Yr 64 ha)) Yb) (ZR hb.1 hb.2 hf)) ?_
  refine XV B.nc.2 ?_
  refine Zj (tr1 rfl (tr1 B.nr.2 rfl)) ?_
  exact Z8 h (ZmY hw ha hb hf B.br) (by simp only [Zg]; rfl)
 ·refine YI e8 (JN hw).a ?_
  refine Zm (JN hw).b ?_
  refine Za (bnd ld7 (JN hw).l) ?_
  refine Za (bnd (bap ld7 (JN hw).l) sp1) ?_
  refine Xs ha.1 ha.2 (.inr rfl) ?_
  refine Za (bnd (bap (bap ld7 (JN hw).l) sp1) (Yr 64 ha)) ?_
  refine Za (bnd (bap (bap (bap ld7 (JN hw).l) sp1) (Yr 64 ha)) Yb) ?_
  refine ZaD hb.1 hb.2 hf ?_
  refine Za (bnd (bap (bap (bap (bap ld7 (JN hw).l) sp1) (Yr 64 ha)) Yb) (ZR hb.1 hb.2 hf)) ?_
  refine XV B.nc.2 ?_
  refine Zj (tr1 rfl (tr1 B.nr.2 rfl)) ?_
  exact Z8 h (Zk0 (ZlH hw) ha hb hf B.br) (by simp only [Zg]; rfl)
theorem k6 (h : ∀ n ps t bads, ZI n ps t bads → K (.tup [.str n, .tup ps, .str t, .lst bads])) (ha : RR a) (hb : RR b) (hf : Far f) (hw : W4 w) (B : X1 u v) : Wy pgG (ev pgG 78) 78 Xc Yn (YK s a b f w 6 u v) [] (Ue K) (Uc X) := by
 refine YI e8 hw.wd.a ?_
 refine Zm hw.wd.b ?_
 refine Za (bnd st5 hw.wd.l) ?_
 refine Za (bnd (bap st5 hw.wd.l) sp1) ?_
 refine ZaD ha.1 ha.2 hf ?_
 refine Za (bnd (bap (bap st5 hw.wd.l) sp1) (ZR ha.1 ha.2 hf)) ?_
 refine Za (bnd (bap (bap (bap st5 hw.wd.l) sp1) (ZR ha.1 ha.2 hf)) Yb) ?_
 refine Xs hb.1 hb.2 (.inr rfl) ?_
 refine Za (bnd (bap (bap (bap (bap st5 hw.wd.l) sp1) (ZR ha.1 ha.2 hf)) Yb) (Yr 64 hb)) ?_
 refine XV B.nc.2 ?_
 refine Zj (tr1 rfl (tr1 rfl (tr1 rfl (tr1 B.nr.2 rfl)))) ?_
 exact Z8 h (ZmX (by decide +kernel) hw ha hb hf B.br) (by simp only [Zg]; rfl)
theorem k7 (h : ∀ n ps t bads, ZI n ps t bads → K (.tup [.str n, .tup ps, .str t, .lst bads])) (ha : RR a) (hf : Far f) (hw : W4 w) : Wy pgG (ev pgG 78) 78 Xc Yn (YK s a b f w 7 u v) [] (Ue K) (Uc X) := by
 refine YI e8 hw.wd.a ?_
 refine Zm hw.wd.b ?_
 refine Za (bnd st5 hw.wd.l) ?_
 refine Za (bnd (bap st5 hw.wd.l) sp1) ?_
 refine ZaD ha.1 ha.2 hf ?_
 refine Za (bnd (bap (bap st5 hw.wd.l) sp1) (ZR ha.1 ha.2 hf)) ?_
 refine Za (bnd (bap (bap (bap st5 hw.wd.l) sp1) (ZR ha.1 ha.2 hf)) Znj) ?_
 exact Z8 h (ZmW hw ha hf) (by simp only [Zg, Zht]; rfl)
theorem k8 (h : ∀ n ps t bads, ZI n ps t bads → K (.tup [.str n, .tup ps, .str t, .lst bads])) (hs : S2 s) (ha : RR a) (hb : RR b) (hf : Far f) (hw : W4 w) (B : X1 u v) : Wy pgG (ev pgG 78) 78 Xc Yn (YK s a b f w 8 u v) [] (Ue K) (Uc X) := by
 refine Zlm fun n hn => ?_
 refine Zm (ZiY hs) ?_
 refine Za (bnd (ZfH hn) (VA hs)) ?_
 refine Za (bnd (bap (ZfH hn) (VA hs)) sp1) ?_
 refine ZaD ha.1 ha.2 hf ?_
 refine Za (bnd (bap (bap (ZfH hn) (VA hs)) sp1) (ZR ha.1 ha.2 hf)) ?_
 refine Za (bnd (bap (bap (bap (ZfH hn) (VA hs)) sp1) (ZR ha.1 ha.2 hf)) Yb) ?_
 refine Xs hb.1 hb.2 (.inr rfl) ?_
 refine Za (bnd (bap (bap (bap (bap (ZfH hn) (VA hs)) sp1) (ZR ha.1 ha.2 hf)) Yb) (Yr 64 hb)) ?_
 refine XV B.nc.2 ?_
 refine Zj (tr1 rfl (tr1 B.nr.2 rfl)) ?_
 exact Z8 h (ZmV hn hs hw ha hb hf B.br) (by simp only [Zg]; rfl)
theorem k9 (h : ∀ n ps t bads, ZI n ps t bads → K (.tup [.str n, .tup ps, .str t, .lst bads])) (ha : RR a) (B : X1 u v) : Wy pgG (ev pgG 78) 78 Xc Yn (YK s a b f w 9 u v) [] (Ue K) (Uc X) := by
 refine Zlp fun n hn => ?_
 refine Za (bnd (ZlG hn) sp1) ?_
 refine Xs ha.1 ha.2 (.inr rfl) ?_
 refine Za (bnd (bap (ZlG hn) sp1) (Yr 64 ha)) ?_
 refine XV B.nc.2 ?_
 refine Zj (tr1 B.nr.2 rfl) ?_
 exact Z8 h (ZmU hn ha B.br) (by simp only [Zg]; rfl)
theorem k10 (h : ∀ n ps t bads, ZI n ps t bads → K (.tup [.str n, .tup ps, .str t, .lst bads])) (ha : RR a) (hb : RR b) : Wy pgG (ev pgG 78) 78 Xc Yn (YK s a b f w 10 u v) [] (Ue K) (Uc X) := by
 refine ZiS fun c hc => ?_
 refine YI e8 hc.wd.a ?_
 refine Zm hc.wd.b ?_
 refine Za (bnd m8 hc.wd.l) ?_
 refine Za (bnd (bap m8 hc.wd.l) Yb) ?_
 refine Xs ha.1 ha.2 (.inr rfl) ?_
 refine Za (bnd (bap (bap m8 hc.wd.l) Yb) (Yr 64 ha)) ?_
 refine Za (bnd (bap (bap (bap m8 hc.wd.l) Yb) (Yr 64 ha)) Yb) ?_
 refine Xs hb.1 hb.2 (.inr rfl) ?_
 refine Za (bnd (bap (bap (bap (bap m8 hc.wd.l) Yb) (Yr 64 ha)) Yb) (Yr 64 hb)) ?_
 exact Z8 h (Zk2 hc ha hb) (by simp only [Zg, Zhu]; rfl)
theorem k11 (h : ∀ n ps t bads, ZI n ps t bads → K (.tup [.str n, .tup ps, .str t, .lst bads])) (hs : S2 s) (ha : RR a) (hb : RR b) : Wy pgG (ev pgG 78) 78 Xc Yn (YK s a b f w 11 u v) [] (Ue K) (Uc X) := by
 refine ZiS fun c hc => ?_
 refine YI e8 hc.wd.a ?_
 refine Zm hc.wd.b ?_
 refine Za (bnd m9 hc.wd.l) ?_
 refine Za (bnd (bap m9 hc.wd.l) Yb) ?_
 refine Xs ha.1 ha.2 hs ?_
 refine Za (bnd (bap (bap m9 hc.wd.l) Yb) (Yr s ha)) ?_
 refine Za (bnd (bap (bap (bap m9 hc.wd.l) Yb) (Yr s ha)) Yb) ?_
 refine Xs hb.1 hb.2 hs ?_
 refine Za (bnd (bap (bap (bap (bap m9 hc.wd.l) Yb) (Yr s ha)) Yb) (Yr s hb)) ?_
 exact Z8 h (Zk1 hs hc ha hb) (by simp only [Zg, Zhv]; rfl)
theorem k12 (h : ∀ n ps t bads, ZI n ps t bads → K (.tup [.str n, .tup ps, .str t, .lst bads]))  : Wy pgG (ev pgG 78) 78 Xc Yn (YK s a b f w 12 u v) [] (Ue K) (Uc X) := by
 refine ZC (fun g => ?_) (fun g => ?_)
 ·exact Z8 h ZiB rfl
 ·exact Z8 h ZiA rfl
end
theorem Zfw {K : AV → Prop} {X : AX → Prop} {s a b f w k : Int} {u v : AV} (h : ∀ n ps t bads, ZI n ps t bads → K (.tup [.str n, .tup ps, .str t, .lst bads])) (hs : S2 s) (ha : RR a) (hb : RR b) (hf : Far f) (hw : W4 w) (B : X1 u v) (k0 : 0 ≤ k) (k1 : k < 13) : Wy pgG (ev pgG 78) 78 Xc Yn (YK s a b f w k u v) [] (Ue K) (Uc X) := by
 have hk : k = 0 ∨ k = 1 ∨ k = 2 ∨ k = 3 ∨ k = 4 ∨ k = 5 ∨ k = 6 ∨ k = 7 ∨ k = 8 ∨ k = 9 ∨ k = 10 ∨ k = 11 ∨ k = 12 := ZX (n := 13) (P := fun k => k = 0 ∨ k = 1 ∨ k = 2 ∨ k = 3 ∨ k = 4 ∨ k = 5 ∨ k = 6 ∨ k = 7 ∨ k = 8 ∨ k = 9 ∨ k = 10 ∨ k = 11 ∨ k = 12) (by decide +kernel) k0 k1
 obtain rfl | rfl | rfl | rfl | rfl | rfl | rfl | rfl | rfl | rfl | rfl | rfl | rfl := hk
 ·exact Mine.k0 h hs ha hb B
 ·exact Mine.k1 h hs ha hf
 ·exact Mine.k2 h hs ha
 ·exact Mine.k3 h hs ha B
 ·exact Mine.k4 h ha B
 ·exact Mine.k5 h ha hb hf hw B
 ·exact Mine.k6 h ha hb hf hw B
 ·exact Mine.k7 h ha hf hw
 ·exact Mine.k8 h hs ha hb hf hw B
 ·exact Mine.k9 h ha B
 ·exact Mine.k10 h ha hb
 ·exact Mine.k11 h hs ha hb
 ·exact Mine.k12 h
theorem ZiD : (Zi 29 (P1 "pen")).body = (Zi 29 (P1 "pen")).body.take 4 ++ Yn := (List.take_append_drop 4 _).symm
theorem Zh9 {K : KS} {X : KX} {rest : List Stmt}
  (h : ∀ s a b f w k u v, S2 s → RR a → RR b → Far f → W4 w → X1 u v → 0 ≤ k → k < 13 → Wy pgG (ev pgG 78) 78 Xc rest (YK s a b f w k u v) [] K X) :
  Vz pgG (ev pgG 78) 78 Xc ((Zi 29 (P1 "pen")).body.take 4 ++ rest) [(Str.ofString "pen", .pen)] [] K X := by
 refine Zlk fun s hs => ?_
 refine Gr (by decide) (by decide) fun a a0 a1 => ?_
 refine Gr (by decide) (by decide) fun b b0 b1 => ?_
 refine Zjv fun f hf => ?_
 refine Zlj fun w hw => ?_
 refine Gr (by decide) (by decide) fun k k0 k1 => ?_
 refine Zjt (fun i hi' => ?_) ?_ ?_
 ·refine ZC (fun g => ?_) (fun g => ?_)
  ·have g' : i ≠ 3 := fun e => by subst e; exact xF g
   have hz : GW i i := by
    obtain rfl | rfl | rfl | rfl | rfl := hi'
    ·exact .inl ⟨rfl, rfl⟩
    ·exact .inr (.inl ⟨rfl, rfl⟩)
    ·exact (g' rfl).elim
    ·exact .inr (.inr (.inr (.inl ⟨rfl, rfl⟩)))
    ·exact .inr (.inr (.inr (.inr ⟨rfl, rfl⟩)))
   exact h s a b f w k _ _ hs ⟨a0, a1⟩ ⟨b0, b1⟩ hf hw (.i hz) k0 k1
  ·have g' : i = 3 := by
    have : (!decide (i = 3)) = false := g
    simpa using this
   exact h s a b f w k _ _ hs ⟨a0, a1⟩ ⟨b0, b1⟩ hf hw (.i (.inr (.inr (.inl ⟨g', rfl⟩)))) k0 k1
 ·exact h s a b f w k _ _ hs ⟨a0, a1⟩ ⟨b0, b1⟩ hf hw .t k0 k1
 ·exact h s a b f w k _ _ hs ⟨a0, a1⟩ ⟨b0, b1⟩ hf hw .x k0 k1
theorem Zhk {pg : Pg} {n a : Nat} {f : Yv} {loc : Loc} {args : List AV} {σ : Led} {K : KE} {X : KC} (hf : pg.fn a = some f) (hb : f.bind args = some loc)
  (h : Vz pg (ev pg n) n ⟨f.names, true, false, []⟩ f.body loc σ (fun fl _ σ₁ => match fl with | .ret v => K v σ₁ | .next => K .none σ₁) (fun x _ σ₁ => X x σ₁)) : (ev pg (n + 2)).C true a args σ K X := Zju hf hb h
theorem ZkB : pgG.fn 224 = some (Zi 29 (P1 "pen")) := by kernel_rfl
theorem ZkN : Xe pgG 80 224 ZgM := by
 intro args K X h
 obtain ⟨e, hh⟩ := h.ok
 subst e
 clear h
 refine Zhk (n := 78) (loc := [(Str.ofString "pen", .pen)]) ZkB rfl ?_
 rw [ZiD]
 exact Zh9 fun s a b f w k u v hs ha hb hf hw B k0 k1 => Zfw hh hs ha hb hf hw B k0 k1
noncomputable def pgH : Pg := Ws (Ws pgG 231 60 ZgL) 224 80 ZgM
theorem Zlr {K : AV → Prop} {X : AX → Prop} (h : ∀ n ps t bads, ZI n ps t bads → K (.tup [.str n, .tup ps, .str t, .lst bads])) : ZgM [.pen] K X := ⟨rfl, h⟩
structure Zjh (args : List AV) (K : AV → Prop) (X : AX → Prop) : Prop where
 ok : args = [.pen] ∧ K (.bool true)
theorem Jn {neg : Bool} {xs ys : Option (List D)} {K : Bool → Prop} {ds es : List D} (h1 : xs = some ds) (h2 : ys = some es) (h : K (Yl neg (Gn ds es))) : Zdq neg xs ys K := by
 rw [h1, h2]; exact h
theorem Zl0 : ∀ l : List Nat, lEq l l = true := fun l => Zak.mpr rfl
theorem ZbH (l : List TK) : UJ l l = true := by rw [ZaF]; simp
theorem ZgI : ∀ d : D, dEq d d = true
 | .st x => Yq x
 | .nu i => decide_eq_true rfl
 | .tu k => ZbH k
theorem Uz : ∀ l : List D, Gn l l = true
 | [] => rfl
 | a :: l => by show (match dEq a a with | true => Gn l l | false => false) = true; rw [ZgI a]; exact Uz l
theorem Zdv : ∀ {ps : List AV}, (∀ v ∈ ps, ∃ i, v = .int i) → ∃ ks, Wv ps = some ks ∧ ks.length = ps.length
 | [], _ => ⟨[], rfl, rfl⟩
 | v :: ps, h => by
  obtain ⟨i, rfl⟩ := h v (.head _)
  obtain ⟨ks, e, l⟩ := Zdv (fun u hu => h u (.tail _ hu))
  exact ⟨.inr i :: ks, by unfold Wv ZbJ; rw [e], by simp [l]⟩
theorem Zbj : ∀ {ps : List AV}, (∀ v ∈ ps, ∃ i, v = .int i) → ∃ ks, Xb ps = some ks ∧ ks.length = ps.length
 | [], _ => ⟨[], rfl, rfl⟩
 | v :: ps, h => by
  obtain ⟨i, rfl⟩ := h v (.head _)
  obtain ⟨ks, e, l⟩ := Zbj (fun u hu => h u (.tail _ hu))
  exact ⟨.nu i :: ks, by unfold Xb dOf; rw [e], by simp [l]⟩
theorem Ziw {n : Str} {ps : List AV} (hg : sOk n = true) (h : ∀ v ∈ ps, ∃ i, v = .int i) : ∃ ds, Xb [.str n, .tup ps] = some ds := by
 obtain ⟨ks, e, _⟩ := Zdv h
 refine ⟨[.st n, .tu ks], ?_⟩
 simp only [Xb, dOf, hg, e]
theorem XY {n x : Str} (h : Yc n WX = false) (hx : Yc x WX = true) : sEq n x = false := by
 cases q : sEq n x with
 | false => rfl
 | true => rw [ZH.mp q, hx] at h; exact xT h
theorem ZbY {n : Str} (h : Yc n WX = false) : Yc n [Str.ofString "order", Str.ofString "label", Str.ofString "entry"] = false := by
 have a := XY h (x := Str.ofString "order") (by decide +kernel)
 have b := XY h (x := Str.ofString "label") (by decide +kernel)
 have c := XY h (x := Str.ofString "entry") (by decide +kernel)
 rw [Ua, a]
 show Yc _ _ = _
 rw [Ua, b]
 show Yc _ _ = _
 rw [Ua, c]
 rfl
theorem Jy {n : Str} {ps : List AV} (h : ZW n ps = true) : ∃ cs, ZJ n Zz = some ⟨⟨cs⟩⟩ ∧ cs.length = ps.length := by
 cases q : ZJ n Zz with
 | none => rw [Wj q] at h; exact xF h
 | some y =>
  obtain ⟨⟨cs⟩⟩ := y
  refine ⟨cs, rfl, Classical.byContradiction fun z => ?_⟩
  rw [Up q z] at h; exact xF h
theorem WE {n : Str} {ps qs : List AV} (h : ZW n ps = true) (hp : Z4 n ps) (hl : qs.length ≠ ps.length) (hq : qs.length ≤ 1000) : Z4 n qs ∧ ZW n qs = false := by
 obtain ⟨cs, e, l⟩ := Jy h
 refine ⟨⟨hp.1, hq, fun y hy hyl => ?_⟩, Up e (by omega)⟩
 rw [e] at hy
 (replace hy := xI hy; cases hy)
 exact absurd (show cs.length = qs.length from hyl) (by omega)
theorem ZjQ : ∀ p ∈ Zz, ZJ (Zb p.1 (Str.ofString "x")) Zz = none := by decide +kernel
theorem Zj7 {n : Str} {ps : List AV} (h : ZW n ps = true) : ZJ (Zb n (Str.ofString "x")) Zz = none := by
 obtain ⟨cs, e, _⟩ := Jy h
 exact ZjQ _ (Vu e)
theorem Zd5 {n : Str} {ps : List AV} (h : ZW n ps = true) (hp : Z4 n ps) (hn : Zf n ≤ 900) : Z4 (Zb n (Str.ofString "x")) ps ∧ ZW (Zb n (Str.ofString "x")) ps = false := by
 have e := Zj7 h
 refine ⟨⟨?_, hp.2.1, fun y hy => ?_⟩, Wj e⟩
 ·rw [Zk]; have : Zf (Str.ofString "x") = 1 := by decide +kernel
  omega
 ·rw [e] at hy; exact xN hy
theorem XF : Z4 (Str.ofString "") [] ∧ ZW (Str.ofString "") [] = false := by
 have e : ZJ (Str.ofString "") Zz = none := by decide +kernel
 exact ⟨⟨by decide +kernel, by decide, fun y hy => by rw [e] at hy; exact xN hy⟩, Wj e⟩
noncomputable def Wt (n : Str) (bads : List AV) : Prop := ∀ b ∈ bads, ∃ qs, b = .tup qs ∧ Z4 n qs ∧ ZW n qs = false
theorem Wt.app {n : Str} {l : List AV} {qs us : List AV} (h : Wt n l) (h1 : Z4 n qs ∧ ZW n qs = false) (h2 : Z4 n us ∧ ZW n us = false) : Wt n (l ++ [.tup qs, .tup us]) := fun b hb => by
 obtain hb | hb := List.mem_append.mp hb
 ·exact h b hb
 ·obtain rfl | hb := List.mem_cons.mp hb
  ·exact ⟨_, rfl, h1⟩
  ·obtain rfl | hb := List.mem_cons.mp hb
   ·exact ⟨_, rfl, h2⟩
   ·(exfalso; cases hb)
theorem Zjs {vs : List AV} {i : Int} {σ : Led} {K : KE} (hi : i = -1) (hne : vs ≠ []) (hl : vs.length ≤ 1000) (k : K (.tup vs.dropLast) σ) : Ziz vs i σ K := by
 delta Ziz
 cases vs with
 | nil => exact (hne rfl).elim
 | cons v l => exact Zj hi (Zj (Zc (by have : l.length + 1 ≤ 1000 := hl; omega)) k)
noncomputable def Zm9 (n t : Str) (ps bads : List AV) : Loc := [(Str.ofString "pen", .pen), (Str.ofString "name", .str n), (Str.ofString "parts", .tup ps), (Str.ofString "text", .str t), (Str.ofString "bad_ones", .lst bads), (Str.ofString "row", .row n ps)]
theorem Zi1 : Zf (Str.ofString "x") = 1 := by decide +kernel
theorem ZkL : Xe pgH 120 238 Zjh := by
 intro args K X h
 obtain ⟨e, hk⟩ := h.ok
 subst e
 refine Zlr fun n ps t bads c => ?_
 refine ZiU c.pre (fun _ => ?_) (fun e => by rw [c.ok] at e; exact xT e)
 obtain ⟨ds, hds⟩ := Ziw c.good c.nums
 set_option smartUnfolding false in
 refine Jn hds hds ?_
 refine Zd (by rw [Uz]; rfl) ?_
 refine YF c.shows ?_
 refine Zd (by rw [Yq]; rfl) ?_
 refine Zd (XY c.plain (x := Str.ofString "jmp") (by decide +kernel)) ?_
 refine Zd (XY c.plain (x := Str.ofString "jcc") (by decide +kernel)) ?_
 refine Zd (XY c.plain (x := Str.ofString "call") (by decide +kernel)) ?_
 refine Zd (ZbY c.plain) ?_
 have hlen := c.pre.2.1
 have hfour : ps.length ≤ 4 := by
  obtain ⟨cs, e, l⟩ := Jy c.ok
  have := (Jz e).2
  have : cs.length ≤ 4 := this
  omega
 refine Zj (p := ZU (ps.length + [AV.int 1].length)) (Zc (by simp; omega)) ?_
 obtain ⟨es, hes, hel⟩ := Zbj c.nums
 have hln : Zf n ≤ 900 := by have := c.short; omega
 have hx := Zd5 c.ok c.pre hln
 have more := WE c.ok c.pre (qs := ps ++ [.int 1]) (by simp) (by simp; omega)
 set_option smartUnfolding false in
 refine Jn (es := []) hes rfl ?_
 refine ZC (fun g => ?_) (fun g => ?_)
 ·have hne : ps ≠ [] := fun e => by
   rw [e] at hel
   cases es with
   | nil => exact xF g
   | cons _ _ => (exfalso; cases hel)
  have less := WE c.ok c.pre (qs := ps.dropLast) (by
   have : 0 < ps.length := List.length_pos_iff.mpr hne
   simp; omega) (by simp; omega)
  have hz : Wt n (bads ++ [.tup (ps ++ [.int 1]), .tup ps.dropLast]) := Wt.app c.refs more less
  refine Zjs rfl hne hlen ?_
  refine Zj (p := ZU (bads.length + [AV.tup (ps ++ [.int 1]), .tup ps.dropLast].length)) (Zc (by have := c.few; simp; omega)) ?_
  refine XB (I := fun zs loc σ => Wt n zs ∧ ∃ tl, (tl = [] ∨ ∃ q, tl = [(Str.ofString "bad", .tup q)]) ∧ loc = Zm9 n t ps bads ++ tl) ?_ ?_ _ _ _ ⟨hz, [], .inl rfl, rfl⟩
  ·intro loc σ h9; obtain ⟨-, tl, -, rfl⟩ := h9
   refine Za (Zc (by rw [Zi1]; omega)) ?_
   refine UI hx.1 ?_
   refine YX (by rw [hx.2]; rfl) ?_
   refine UI XF.1 ?_
   exact fin hk (by rw [XF.2]; rfl)
  ·intro v vs loc σ h9; obtain ⟨hb, tl, hloc, rfl⟩ := h9; intro kk XX ih kr kx
   obtain ⟨qs, rfl, hp, hr⟩ := hb _ (.head _)
   obtain rfl | ⟨q, rfl⟩ := hloc
   ·refine UI hp ?_
    refine Zd (by rw [hr]; rfl) ?_
    exact ih _ _ ⟨fun b h => hb b (.tail _ h), _, .inr ⟨_, rfl⟩, rfl⟩
   ·refine UI hp ?_
    refine Zd (by rw [hr]; rfl) ?_
    exact ih _ _ ⟨fun b h => hb b (.tail _ h), _, .inr ⟨_, rfl⟩, rfl⟩
 ·have hne : ps = [] := by
   cases ps with
   | nil => rfl
   | cons a l =>
    cases es with
    | nil => (exfalso; cases hel)
    | cons b m => exact absurd g (by intro z; exact xT z)
  have two := WE c.ok c.pre (qs := [.int 1, .int 2]) (by rw [hne]; decide) (by decide)
  have hz : Wt n (bads ++ [.tup (ps ++ [.int 1]), .tup [.int 1, .int 2]]) := Wt.app c.refs more two
  refine Zj (p := ZU (bads.length + [AV.tup (ps ++ [.int 1]), .tup [.int 1, .int 2]].length)) (Zc (by have := c.few; simp; omega)) ?_
  refine XB (I := fun zs loc σ => Wt n zs ∧ ∃ tl, (tl = [] ∨ ∃ q, tl = [(Str.ofString "bad", .tup q)]) ∧ loc = Zm9 n t ps bads ++ tl) ?_ ?_ _ _ _ ⟨hz, [], .inl rfl, rfl⟩
  ·intro loc σ h9; obtain ⟨-, tl, -, rfl⟩ := h9
   refine Za (Zc (by rw [Zi1]; omega)) ?_
   refine UI hx.1 ?_
   refine YX (by rw [hx.2]; rfl) ?_
   refine UI XF.1 ?_
   exact fin hk (by rw [XF.2]; rfl)
  ·intro v vs loc σ h9; obtain ⟨hb, tl, hloc, rfl⟩ := h9; intro kk XX ih kr kx
   obtain ⟨qs, rfl, hp, hr⟩ := hb _ (.head _)
   obtain rfl | ⟨q, rfl⟩ := hloc
   ·refine UI hp ?_
    refine Zd (by rw [hr]; rfl) ?_
    exact ih _ _ ⟨fun b h => hb b (.tail _ h), _, .inr ⟨_, rfl⟩, rfl⟩
   ·refine UI hp ?_
    refine Zd (by rw [hr]; rfl) ?_
    exact ih _ _ ⟨fun b h => hb b (.tail _ h), _, .inr ⟨_, rfl⟩, rfl⟩
inductive Kd where
 | order | label | entry
noncomputable def Kd.s : Kd → Str
 | .order => Str.ofString "order"
 | .label => Str.ofString "label"
 | .entry => Str.ofString "entry"
inductive WR where
 | ret | mark (k : Kd) (i : Int) | call (i : Int) | jmp (k : Kd) (i : Int) | jcc (good : Bool) (k : Kd) (i : Int)
noncomputable def WR.av : WR → AV
 | .ret => .row (Str.ofString "ret") []
 | .mark k i => .row k.s [.int i]
 | .call i => .row (Str.ofString "call") [.int i]
 | .jmp k i => .row (Str.ofString "jmp") [.str k.s, .int i]
 | .jcc true k i => .row (Str.ofString "jcc") [.str (Str.ofString "le"), .str k.s, .int i]
 | .jcc false k i => .row (Str.ofString "jcc") [.str (Str.ofString "o"), .str k.s, .int i]
noncomputable abbrev MkL := List ((Str × Int) × Int)
inductive MR where
 | ok (es : MkL) | bad (a : Int)
noncomputable def Zl : List WR → Int → MkL → MR
 | [], _, es => .ok es
 | w :: ws, at_, es => match w with
  | .mark k i => match Zv (k.s, i) es with
   | some _ => .bad at_
   | none => Zl ws (at_ + 1) (es ++ [((k.s, i), at_)])
  | _ => Zl ws (at_ + 1) es
structure Zbl (args : List AV) (K : AV → Prop) (X : AX → Prop) : Prop where
 ok : ∃ ws, args = [.lst (ws.map WR.av)] ∧ ws.length ≤ 100 ∧ (∀ es, Zl ws 0 [] = .ok es → K (.dmk es)) ∧ (∀ a, Zl ws 0 [] = .bad a → X ⟨.int a⟩)
theorem JG {n : Nat} {i : Int} (h : [] = Xx n i) : n = 0 := by
 cases n with
 | zero => rfl
 | succ n => exact xC h
theorem UK {n : Nat} {i : Int} {v : AV} {vs : List AV} (h : v :: vs = Xx n i) : ∃ m, n = m + 1 ∧ v = .int i ∧ vs = Xx m (i + 1) := by
 cases n with
 | zero => exact xD h
 | succ n => cases h; exact ⟨_, rfl, rfl, rfl⟩
theorem Zk5 {k : Nat} {vs : List AV} (h : k ≤ 1000000) : at? (Int.ofNat k) vs = vs[k]? := by
 show (match Nat.ble k 1000000 with | true => vs[k]? | false => none) = _
 rw [Nat.ble_eq_true_of_le h]
theorem Zg1 {pre ws' : List WR} {w : WR} (h : pre.length ≤ 1000000) : at? (pre.length : Int) ((pre ++ w :: ws').map WR.av) = some w.av := by
 rw [show ((pre.length : Nat) : Int) = Int.ofNat pre.length from rfl, Zk5 h, List.getElem?_map, List.getElem?_append_right (Nat.le_refl _)]
 simp
noncomputable def atS : Str := Str.ofString "at"
inductive Zg6 : Loc → Prop
 | a : Zg6 []
 | b (v : AV) : Zg6 [(Str.ofString "at", v)]
 | c (v u : AV) : Zg6 [(Str.ofString "at", v), (Str.ofString "key", u)]
theorem Zlh (m : Str × Int) : Zv m [] = none := rfl
theorem YB {α : Type} {es l : List α} {K : List α → Prop} (h : K (es ++ l)) : Zg2 es l K := by rw [Ji]; exact h
theorem Us {k : Str} {i : Int} {es : MkL} (g : Yl false (YQ (Zv (k, i) es)) = false) : YQ (Zv (k, i) es) = false := g
theorem JQ {k : Kd} {i a : Int} {es : MkL} {ws : List WR} {r : MR} (g : Yl false (YQ (Zv (k.s, i) es)) = true) (h : Zl (.mark k i :: ws) a es = r) : r = .bad a := by
 change (match Zv (k.s, i) es with | some _ => MR.bad a | none => Zl ws (a + 1) (es ++ [((k.s, i), a)])) = r at h
 have g : YQ (Zv (k.s, i) es) = true := g
 cases q : Zv (k.s, i) es with
 | none => rw [q] at g; exact xF g
 | some y => simp only [q] at h; exact h.symm
theorem JP {k : Kd} {i a : Int} {es : MkL} {ws : List WR} {r : MR} (g : Yl false (YQ (Zv (k.s, i) es)) = false) (h : Zl (.mark k i :: ws) a es = r) : Zl ws (a + 1) (es ++ [((k.s, i), a)]) = r := by
 change (match Zv (k.s, i) es with | some _ => MR.bad a | none => Zl ws (a + 1) (es ++ [((k.s, i), a)])) = r at h
 have g : YQ (Zv (k.s, i) es) = false := g
 generalize q : Zv (k.s, i) es = zz at g ⊢
 cases zz with
 | none => simp only [q] at h; exact h
 | some y => exact xT g
theorem Zjm (w : WR) : (∃ k i, w = .mark k i) ∨ ∃ n ps, w.av = .row n ps ∧ Yc n [Str.ofString "order", Str.ofString "label", Str.ofString "entry"] = false ∧ ∀ ws a es, Zl (w :: ws) a es = Zl ws (a + 1) es := by
 cases w with
 | mark k i => exact .inl ⟨k, i, rfl⟩
 | ret => exact .inr ⟨_, _, rfl, by decide +kernel, fun _ _ _ => rfl⟩
 | call i => exact .inr ⟨_, _, rfl, by decide +kernel, fun _ _ _ => rfl⟩
 | jmp k i => exact .inr ⟨_, _, rfl, by decide +kernel, fun _ _ _ => rfl⟩
 | jcc g k i => cases g <;> exact .inr ⟨_, _, rfl, by decide +kernel, fun _ _ _ => rfl⟩
theorem Zb7 (k : Kd) : Yc k.s [Str.ofString "order", Str.ofString "label", Str.ofString "entry"] = true := by cases k <;> decide +kernel
theorem ZgK : Xe pgC 60 147 Zbl := by
 intro args K X h
 obtain ⟨ws, e, hl, h1, h2⟩ := h.ok
 subst e
 have hlen : (ws.map WR.av).length = ws.length := List.length_map ..
 refine Zj (Zc (by rw [hlen]; omega)) ?_
 refine X7 (by omega) (by rw [hlen]; omega) ?_
 refine XB (I := fun zs loc σ => ∃ pre ws' es tl, ws = pre ++ ws' ∧ zs = Xx ws'.length pre.length ∧ es.length ≤ pre.length ∧ Zl ws' pre.length es = Zl ws 0 [] ∧ Zg6 tl ∧ loc = (Str.ofString "rows", AV.lst (ws.map WR.av)) :: (Str.ofString "found", AV.ref 0) :: tl ∧ σ = [.dmk es]) ?_ ?_ _ _ _ ?_
 ·intro loc σ h9; obtain ⟨pre, ws', es, tl, hw, hz, -, hgo, -, rfl, rfl⟩ := h9
  have := JG hz
  have hw' : ws' = [] := List.length_eq_zero_iff.mp this
  subst hw'
  exact X6 rfl (h1 _ hgo.symm)
 ·intro v vs loc σ h9; obtain ⟨pre, ws', es, tl, hw, hz, hes, hgo, htl, rfl, rfl⟩ := h9; intro kk XX ih kr kx
  obtain ⟨m, hm, rfl, rfl⟩ := UK hz
  cases ws' with
  | nil => (exfalso; cases hm)
  | cons w ws' =>
   obtain rfl := (Nat.succ.inj hm)
   have hp : pre.length ≤ 100 := by have := congrArg List.length hw; simp at this; omega
   have hat : at? (pre.length : Int) (ws.map WR.av) = some w.av := by rw [hw]; exact Zg1 (by omega)
   have go : ∀ tl' es', Zg6 tl' → es'.length ≤ pre.length + 1 → Zl ws' (pre.length + 1) es' = Zl ws 0 [] → _ := fun tl' es' ht he hg => ih _ _ ⟨pre ++ [w], ws', es', tl', by rw [hw]; simp, by simp, by simp; omega, by simpa using hg, ht, rfl, rfl⟩
   clear ih; clear kr; clear hm; clear hz; clear h1
   obtain ⟨k, i, rfl⟩ | ⟨n, ps, e, hn, eg⟩ := Zjm w
   ·cases htl with
    | a =>
     refine Zy hat ?_
     refine YX (Zb7 k) ?_
     refine Zy hat ?_
     refine Zy hat ?_
     refine ZC (fun g => ?_) (fun g => ?_)
     ·exact kx _ _ _ (h2 _ (JQ g hgo))
     ·refine Zj (Us g) ?_
      refine Zj (Zc (by omega)) ?_
      refine YB ?_
      exact go _ _ (.c _ _) (by simp; omega) (JP g hgo)
    | b v =>
     refine Zy hat ?_
     refine YX (Zb7 k) ?_
     refine Zy hat ?_
     refine Zy hat ?_
     refine ZC (fun g => ?_) (fun g => ?_)
     ·exact kx _ _ _ (h2 _ (JQ g hgo))
     ·refine Zj (Us g) ?_
      refine Zj (Zc (by omega)) ?_
      refine YB ?_
      exact go _ _ (.c _ _) (by simp; omega) (JP g hgo)
    | c v u =>
     refine Zy hat ?_
     refine YX (Zb7 k) ?_
     refine Zy hat ?_
     refine Zy hat ?_
     refine ZC (fun g => ?_) (fun g => ?_)
     ·exact kx _ _ _ (h2 _ (JQ g hgo))
     ·refine Zj (Us g) ?_
      refine Zj (Zc (by omega)) ?_
      refine YB ?_
      exact go _ _ (.c _ _) (by simp; omega) (JP g hgo)
   ·rw [e] at hat
    rw [eg] at hgo
    cases htl with
    | a =>
     refine Zy hat ?_
     refine Zd hn ?_
     exact go _ es (.b _) (by omega) hgo
    | b v =>
     refine Zy hat ?_
     refine Zd hn ?_
     exact go _ es (.b _) (by omega) hgo
    | c v u =>
     refine Zy hat ?_
     refine Zd hn ?_
     exact go _ es (.c _ _) (by omega) hgo
 ·exact ⟨[], ws, [], [], rfl, by rw [hlen]; rfl, by simp, rfl, .a, rfl, rfl⟩
noncomputable def pgM : Pg := Ws pgC 147 60 Zbl
theorem ZiT {ws : List WR} {K : AV → Prop} {X : AX → Prop} (hl : ws.length ≤ 100) (h1 : ∀ es, Zl ws 0 [] = .ok es → K (.dmk es)) (h2 : ∀ a, Zl ws 0 [] = .bad a → X ⟨.int a⟩) : Zbl [.lst (ws.map WR.av)] K X := ⟨ws, rfl, hl, h1, h2⟩
noncomputable def WR.nm : WR → Str
 | .ret => Str.ofString "ret"
 | .mark k i => k.s
 | .call i => Str.ofString "call"
 | .jmp k i => Str.ofString "jmp"
 | .jcc _ k i => Str.ofString "jcc"
noncomputable def WR.ps : WR → List AV
 | .ret => []
 | .mark k i => [.int i]
 | .call i => [.int i]
 | .jmp k i => [.str k.s, .int i]
 | .jcc true k i => [.str (Str.ofString "le"), .str k.s, .int i]
 | .jcc false k i => [.str (Str.ofString "o"), .str k.s, .int i]
noncomputable def Kd.two : Kd → Bool
 | .entry => false
 | _ => true
noncomputable def WR.good : WR → Bool
 | .jmp k _ => k.two
 | .jcc g k _ => g && k.two
 | _ => true
noncomputable def WR.num : WR → Int
 | .ret => 0
 | .mark _ i => i
 | .call i => i
 | .jmp _ i => i
 | .jcc _ _ i => i
noncomputable def WR.ok (w : WR) : Prop := 0 ≤ w.num ∧ w.num < 1000
noncomputable def WR.goal : WR → Option (Str × Int)
 | .call i => some (Kd.entry.s, i)
 | .jmp k i => some (k.s, i)
 | .jcc _ k i => some (k.s, i)
 | _ => none
inductive CR where
 | ok | bad (a : AV)
noncomputable def Zt : List WR → Int → MkL → CR
 | [], _, _ => .ok
 | w :: ws, at_, es => match w.good with
  | false => .bad .none
  | true => match w.goal with
   | none => Zt ws (at_ + 1) es
   | some m => match Zv m es with
    | none => .bad (.int at_)
    | some _ => Zt ws (at_ + 1) es
theorem Zac {i : Int} {p : Int} (h0 : 0 ≤ i) (h1 : i < 1000) : YD 108 i p = true := by
 have a : decide (0 ≤ i) = true := decide_eq_true h0
 have b : decide (i ≤ 1000000) = true := decide_eq_true (by omega)
 show (decide (0 ≤ i) && decide (i ≤ 1000000)) = true
 rw [a, b]; rfl
theorem YO {n : Str} {ps : List AV} (h : sEq n YZ = false) : Yu n ps = false := by delta Yu; rw [h]; rfl
theorem ZcZ (k : Kd) : ZJ k.s Zz = some ⟨⟨[108]⟩⟩ := by cases k <;> decide +kernel
theorem JA : ZJ (Str.ofString "call") Zz = some ⟨⟨[108]⟩⟩ := by decide +kernel
theorem Gw : ZJ (Str.ofString "jmp") Zz = some ⟨⟨[107, 108]⟩⟩ := by decide +kernel
theorem Ui : ZJ (Str.ofString "jcc") Zz = some ⟨⟨[99, 107, 108]⟩⟩ := by decide +kernel
theorem Gv : ZJ (Str.ofString "ret") Zz = some ⟨⟨[]⟩⟩ := by decide +kernel
theorem ZeY (k : Kd) : WH 107 k.s = k.two := by cases k <;> decide +kernel
theorem Zng (w : WR) (h : w.ok) : ZW w.nm w.ps = w.good := by
 obtain ⟨h0, h1⟩ := h
 cases w with
 | ret => rw [WR.nm, Yy Gv rfl, YO (by decide +kernel)]; rfl
 | mark k i =>
  have n : ∀ p, YD 108 i p = true := fun p => Zac h0 h1
  rw [WR.nm, Yy (ZcZ k) rfl, YO (by cases k <;> decide +kernel)]
  show ((YD 108 i (p0 [.int i]) && true) && !false) = true
  rw [n]; rfl
 | call i =>
  have n : ∀ p, YD 108 i p = true := fun p => Zac h0 h1
  rw [WR.nm, Yy JA rfl, YO (by decide +kernel)]
  show ((YD 108 i (p0 [.int i]) && true) && !false) = true
  rw [n]; rfl
 | jmp k i =>
  have n : ∀ p, YD 108 i p = true := fun p => Zac h0 h1
  rw [WR.nm, Yy Gw rfl, YO (by decide +kernel)]
  show ((WH 107 k.s && (YD 108 i (p0 [.str k.s, .int i]) && true)) && !false) = k.two
  rw [n, ZeY]; cases k <;> rfl
 | jcc g k i =>
  have n : ∀ p, YD 108 i p = true := fun p => Zac h0 h1
  cases g
  ·rw [WR.nm, Yy Ui rfl, YO (by decide +kernel)]
   show ((WH 99 (Str.ofString "o") && (WH 107 k.s && (YD 108 i (p0 [.str (Str.ofString "o"), .str k.s, .int i]) && true))) && !false) = false
   have : WH 99 (Str.ofString "o") = false := by decide +kernel
   rw [this]; rfl
  ·rw [WR.nm, Yy Ui rfl, YO (by decide +kernel)]
   show ((WH 99 (Str.ofString "le") && (WH 107 k.s && (YD 108 i (p0 [.str (Str.ofString "le"), .str k.s, .int i]) && true))) && !false) = (true && k.two)
   have : WH 99 (Str.ofString "le") = true := by decide +kernel
   rw [this, n, ZeY]; cases k <;> rfl
theorem U9 {i : Int} {ps : List AV} : VK 108 (.int i) ps := .inr ⟨.inr (.inr (.inr (.inr (.inr (.inr (.inr (.inr rfl))))))), .int i, fun h => by (exfalso; cases h)⟩
theorem Zc2 {x : Str} {ps : List AV} : VK 107 (.str x) ps := .inl ⟨.inr rfl, x, rfl⟩
theorem Zfz {x : Str} {ps : List AV} : VK 99 (.str x) ps := .inl ⟨.inl rfl, x, rfl⟩
theorem Zli (w : WR) : Z4 w.nm w.ps := by
 refine ⟨?_, ?_, ?_⟩
 ·cases w with
  | ret => exact (by decide +kernel : Zf (Str.ofString "ret") ≤ 1000)
  | mark k i => exact (by cases k <;> decide +kernel : Zf k.s ≤ 1000)
  | call i => exact (by decide +kernel : Zf (Str.ofString "call") ≤ 1000)
  | jmp k i => exact (by decide +kernel : Zf (Str.ofString "jmp") ≤ 1000)
  | jcc g k i => exact (by decide +kernel : Zf (Str.ofString "jcc") ≤ 1000)
 ·cases w with
  | jcc g k i => cases g <;> exact (by decide : 3 ≤ 1000)
  | ret => exact (by decide : 0 ≤ 1000)
  | mark k i => exact (by decide : 1 ≤ 1000)
  | call i => exact (by decide : 1 ≤ 1000)
  | jmp k i => exact (by decide : 2 ≤ 1000)
 ·intro y hy hl
  try clear hl; try clear y; try clear decide
  cases w with
  | ret => rw [WR.nm, Gv] at hy; (replace hy := xI hy; cases hy); trivial
  | mark k i => rw [WR.nm, ZcZ] at hy; (replace hy := xI hy; cases hy); exact ⟨U9, fun _ => trivial⟩
  | call i => rw [WR.nm, JA] at hy; (replace hy := xI hy; cases hy); exact ⟨U9, fun _ => trivial⟩
  | jmp k i => rw [WR.nm, Gw] at hy; (replace hy := xI hy; cases hy); exact ⟨Zc2, fun _ => ⟨U9, fun _ => trivial⟩⟩
  | jcc g k i => rw [WR.nm, Ui] at hy; (replace hy := xI hy; cases hy); cases g <;> exact ⟨Zfz, fun _ => ⟨Zc2, fun _ => ⟨U9, fun _ => trivial⟩⟩⟩
structure GR (args : List AV) (K : AV → Prop) (X : AX → Prop) : Prop where
 ok : ∃ ws : List WR, args = [.lst (ws.map WR.av)] ∧ ws.length ≤ 100 ∧ (∀ w ∈ ws, w.ok) ∧ (∀ a, Zl ws 0 [] = .bad a → X ⟨.int a⟩) ∧ (∀ es, Zl ws 0 [] = .ok es → (Zt ws 0 es = .ok → K (.dmk es)) ∧ ∀ a, Zt ws 0 es = .bad a → X ⟨a⟩)
inductive ZiN : Loc → Prop
 | a : ZiN []
 | b (v u : AV) : ZiN [(Str.ofString "at", v), (Str.ofString "goal", u)]
theorem W7 (w : WR) (ws : List WR) (a : Int) (es : MkL) : Zt (w :: ws) a es = (match w.good with | false => .bad .none | true => match w.goal with | none => Zt ws (a + 1) es | some m => match Zv m es with | none => .bad (.int a) | some _ => Zt ws (a + 1) es) := rfl
theorem Zgg {w : WR} {ws : List WR} {a : Int} {es : MkL} {r : CR} (g : w.good = false) (h : Zt (w :: ws) a es = r) : r = .bad .none := by
 rw [W7, g] at h; exact h.symm
theorem Zdk {w : WR} {ws : List WR} {a : Int} {es : MkL} {r : CR} (g : w.good = true) (e : w.goal = none) (h : Zt (w :: ws) a es = r) : Zt ws (a + 1) es = r := by
 rw [W7, g, e] at h; exact h
theorem W5 {w : WR} {ws : List WR} {a : Int} {es : MkL} {r : CR} {m : Str × Int} (g : w.good = true) (e : w.goal = some m) (q : Yl true (YQ (Zv m es)) = true) (h : Zt (w :: ws) a es = r) : r = .bad (.int a) := by
 rw [W7, g, e] at h
 generalize z : Zv m es = zz at q ⊢
 cases zz with
 | none => simp only [z] at h; exact h.symm
 | some y => exact xF q
theorem W3 {w : WR} {ws : List WR} {a : Int} {es : MkL} {r : CR} {m : Str × Int} (g : w.good = true) (e : w.goal = some m) (q : Yl true (YQ (Zv m es)) = false) (h : Zt (w :: ws) a es = r) : Zt ws (a + 1) es = r := by
 rw [W7, g, e] at h
 cases z : Zv m es with
 | none => rw [z] at q; exact xT q
 | some y => simp only [z] at h; exact h
theorem Znh (w : WR) : w.av = .row w.nm w.ps := by
 cases w with
 | jcc g k i => cases g <;> rfl
 | _ => rfl
noncomputable def gS (g : Bool) : Str := match g with | true => Str.ofString "le" | false => Str.ofString "o"
theorem Zf0 (g : Bool) (k : Kd) (i : Int) : (WR.jcc g k i).ps = [.str (gS g), .str k.s, .int i] := by cases g <;> rfl
theorem ZeR (w : WR) : (w.goal = none ∧ sEq w.nm (Str.ofString "jmp") = false ∧ sEq w.nm (Str.ofString "jcc") = false ∧ sEq w.nm (Str.ofString "call") = false) ∨ (∃ i, w = .call i) ∨ (∃ k i, w = .jmp k i) ∨ ∃ g k i, w = .jcc g k i := by
 cases w with
 | ret => exact .inl ⟨rfl, by decide +kernel, by decide +kernel, by decide +kernel⟩
 | mark k i => exact .inl ⟨rfl, by show sEq k.s _ = false; cases k <;> decide +kernel, by show sEq k.s _ = false; cases k <;> decide +kernel, by show sEq k.s _ = false; cases k <;> decide +kernel⟩
 | call i => exact .inr (.inl ⟨i, rfl⟩)
 | jmp k i => exact .inr (.inr (.inl ⟨k, i, rfl⟩))
 | jcc g k i => exact .inr (.inr (.inr ⟨g, k, i, rfl⟩))
theorem ZkT : Xe pgM 70 154 GR := by
 intro args K X h
 obtain ⟨ws, e, hl, hw, h1, h2⟩ := h.ok
 try clear h; try clear X; try clear K; try clear args
 subst e
 have hlen : (ws.map WR.av).length = ws.length := List.length_map ..
 refine ZiT hl (fun es hes => ?_) h1
 obtain ⟨hk, hx⟩ := h2 es hes
 refine Zj (Zc (by rw [hlen]; omega)) ?_
 refine X7 (by omega) (by rw [hlen]; omega) ?_
 refine XB (I := fun zs loc σ => ∃ pre ws' tl, ws = pre ++ ws' ∧ zs = Xx ws'.length pre.length ∧ Zt ws' pre.length es = Zt ws 0 es ∧ ZiN tl ∧ loc = (Str.ofString "rows", AV.lst (ws.map WR.av)) :: (Str.ofString "found", AV.dmk es) :: (Str.ofString "shapes", .dss Zz) :: tl ∧ σ = []) ?_ ?_ _ _ _ ?_
 ·intro loc σ h9; obtain ⟨pre, ws', tl, hq, hz, hgo, -, rfl, rfl⟩ := h9
  have := JG hz
  have hw' : ws' = [] := List.length_eq_zero_iff.mp this
  subst hw'
  exact X6 rfl (hk hgo.symm)
 ·intro v vs loc σ h9; obtain ⟨pre, ws', tl, hq, hz, hgo, htl, rfl, rfl⟩ := h9; intro kk XX ih kr kx
  obtain ⟨m, hm, rfl, rfl⟩ := UK hz
  cases ws' with
  | nil => (exfalso; cases hm)
  | cons w ws' =>
   obtain rfl := (Nat.succ.inj hm)
   have hp : pre.length ≤ 100 := by have := congrArg List.length hq; simp at this; omega
   have hat : at? (pre.length : Int) (ws.map WR.av) = some (.row w.nm w.ps) := by rw [hq, ← Znh]; exact Zg1 (by omega)
   have hwk : w.ok := hw w (by rw [hq]; simp)
   have hok := Zng w hwk
   have hpre := Zli w
   have go : ∀ tl', ZiN tl' → Zt ws' (pre.length + 1) es = Zt ws 0 es → _ := fun tl' ht hg => ih _ _ ⟨pre ++ [w], ws', tl', by rw [hq]; simp, by simp, by simpa using hg, ht, rfl, rfl⟩
   have hx := fun a l σ h => kx ⟨a⟩ l σ (hx a h)
   clear ih; clear kx; clear kr; clear hwk; clear hz; clear hm; clear h1; clear h2; clear hk
   cases htl with
   | a =>
    refine Zy hat ?_
    refine Ze6 hpre (fun g => ?_) (fun g => ?_)
    ·obtain ⟨hg, n1, n2, n3⟩ | ⟨i, rfl⟩ | ⟨k, i, rfl⟩ | ⟨gd, k, i, rfl⟩ := ZeR w
     ·refine Zy hat ?_
      refine Zd n1 ?_
      refine Zd n2 ?_
      refine Zd n3 ?_
      exact go _ (.b _ _) (Zdk (hok.symm.trans g) hg hgo)
     ·refine Zy hat ?_
      refine ZC (fun q => ?_) (fun q => ?_)
      ·exact hx _ _ _ (W5 (hok.symm.trans g) rfl q hgo)
      ·exact go _ (.b _ _) (W3 (hok.symm.trans g) rfl q hgo)
     ·refine Zy hat ?_
      refine ZC (fun q => ?_) (fun q => ?_)
      ·exact hx _ _ _ (W5 (hok.symm.trans g) rfl q hgo)
      ·exact go _ (.b _ _) (W3 (hok.symm.trans g) rfl q hgo)
     ·replace hat := hat.trans (congrArg some (congrArg (AV.row _) (Zf0 gd k i)))
      refine Zy hat ?_
      refine ZC (fun q => ?_) (fun q => ?_)
      ·exact hx _ _ _ (W5 (hok.symm.trans g) rfl q hgo)
      ·exact go _ (.b _ _) (W3 (hok.symm.trans g) rfl q hgo)
    ·exact hx _ _ _ (Zgg (hok.symm.trans g) hgo)
   | b v u =>
    refine Zy hat ?_
    refine Ze6 hpre (fun g => ?_) (fun g => ?_)
    ·obtain ⟨hg, n1, n2, n3⟩ | ⟨i, rfl⟩ | ⟨k, i, rfl⟩ | ⟨gd, k, i, rfl⟩ := ZeR w
     ·refine Zy hat ?_
      refine Zd n1 ?_
      refine Zd n2 ?_
      refine Zd n3 ?_
      exact go _ (.b _ _) (Zdk (hok.symm.trans g) hg hgo)
     ·refine Zy hat ?_
      refine ZC (fun q => ?_) (fun q => ?_)
      ·exact hx _ _ _ (W5 (hok.symm.trans g) rfl q hgo)
      ·exact go _ (.b _ _) (W3 (hok.symm.trans g) rfl q hgo)
     ·refine Zy hat ?_
      refine ZC (fun q => ?_) (fun q => ?_)
      ·exact hx _ _ _ (W5 (hok.symm.trans g) rfl q hgo)
      ·exact go _ (.b _ _) (W3 (hok.symm.trans g) rfl q hgo)
     ·replace hat := hat.trans (congrArg some (congrArg (AV.row _) (Zf0 gd k i)))
      refine Zy hat ?_
      refine ZC (fun q => ?_) (fun q => ?_)
      ·exact hx _ _ _ (W5 (hok.symm.trans g) rfl q hgo)
      ·exact go _ (.b _ _) (W3 (hok.symm.trans g) rfl q hgo)
    ·exact hx _ _ _ (Zgg (hok.symm.trans g) hgo)
 ·exact ⟨[], ws, [], rfl, by rw [hlen]; rfl, rfl, .a, rfl, rfl⟩
noncomputable def WR.isMk : WR → Bool
 | .mark _ _ => true
 | _ => false
theorem Xj {k : Kd} {j i : Int} {ws : List WR} {es : MkL} : Zl (.mark k j :: ws) i es = match Zv (k.s, j) es with | some _ => .bad i | none => Zl ws (i + 1) (es ++ [((k.s, j), i)]) := rfl
theorem Xk {w : WR} {i : Int} {ws : List WR} {es : MkL} (h : w.isMk = false) : Zl (w :: ws) i es = Zl ws (i + 1) es := by
 cases w with
 | mark k j => exact xT h
 | _ => rw [Zl]; intro k i e; (exfalso; cases e)
theorem Wq {w : WR} {i : Int} {ws : List WR} {es : MkL} : Zt (w :: ws) i es = match w.good with
  | false => .bad .none
  | true => match w.goal with
   | none => Zt ws (i + 1) es
   | some m => match Zv m es with
    | none => .bad (.int i)
    | some _ => Zt ws (i + 1) es := by
 rw [Zt] <;> (cases w.good with
 | false => rfl
 | true =>
  cases w.goal with
  | none => rfl
  | some m => cases Zv m es <;> rfl)
theorem XJ : ∀ (a b : List WR) (i : Int) (es : MkL), Zl (a ++ b) i es = match Zl a i es with
  | .ok es' => Zl b (i + a.length) es'
  | .bad x => .bad x
 | [], b, i, es => by show Zl b i es = Zl b (i + ((0 : Nat) : Int)) es; rw [show i + ((0 : Nat) : Int) = i from Int.add_zero i]
 | w :: a, b, i, es => by
  have ih := fun i es => XJ a b i es
  have e : ∀ i : Int, i + 1 + (a.length : Int) = i + ((w :: a).length : Int) := fun i => by simp; omega
  rw [List.cons_append]
  generalize hm : w.isMk = zz at *
  cases zz with
  | true =>
   cases w with
   | mark k j =>
    rw [Xj, Xj]
    generalize Zv (k.s, j) es = zz at *
    cases zz with
    | none => simp only [ih, e]
    | some y => rfl
   | _ => exact xF hm
  | false => rw [Xk hm, Xk hm, ih, e]
theorem XQ : ∀ (js : List WR) (i : Int) (es : MkL), (∀ w ∈ js, w.isMk = false) → Zl js i es = .ok es
 | [], i, es, h => rfl
 | w :: js, i, es, h => by
  have ih := XQ js (i + 1) es fun u hu => h u (.tail _ hu)
  have hw := h w (.head _)
  rw [Xk hw]; exact ih
theorem UU : ∀ (a b : List WR) (i : Int) (es : MkL), Zt (a ++ b) i es = match Zt a i es with
  | .ok => Zt b (i + a.length) es
  | .bad x => .bad x
 | [], b, i, es => by show Zt b i es = Zt b (i + ((0 : Nat) : Int)) es; rw [show i + ((0 : Nat) : Int) = i from Int.add_zero i]
 | w :: a, b, i, es => by
  have ih := fun i => UU a b i es
  have e : ∀ i : Int, i + 1 + (a.length : Int) = i + ((w :: a).length : Int) := fun i => by simp; omega
  rw [List.cons_append, Wq, Wq]
  cases w.good with
  | false => rfl
  | true =>
   cases w.goal with
   | none => simp only [ih, e]
   | some m =>
    generalize q : Zv m es = zz at *
    cases zz with
    | none => simp only [q]
    | some y => simp only [q, ih, e]
theorem V7 : ∀ (js : List WR) (i : Int) (es : MkL), (∀ w ∈ js, w.good = true ∧ ∀ m, w.goal = some m → YQ (Zv m es) = true) → Zt js i es = .ok
 | [], i, es, h => rfl
 | w :: js, i, es, h => by
  have ih := V7 js (i + 1) es fun u hu => h u (.tail _ hu)
  obtain ⟨g, hm⟩ := h w (.head _)
  rw [Wq, g]
  cases q : w.goal with
  | none => exact ih
  | some m =>
   have := hm m q
   generalize z : Zv m es = zz at this ⊢
   cases zz with
   | none => exact xF this
   | some y => simp only [z]; exact ih
structure Zk9 (k₀ : Kd) (ws : List WR) (due : MkL) : Prop where
 len : ws.length ≤ 50
 ok : ∀ w ∈ ws, w.ok
 m0 : Zl ws 0 [] = .ok due
 c0 : Zt ws 0 due = .ok
 m1 : Zl (ws ++ [.jmp .label 900]) 0 [] = .ok due
 c1 : Zt (ws ++ [.jmp .label 900]) 0 due = .bad (.int ws.length)
 m2 : Zl (ws ++ [.mark k₀ 0]) 0 [] = .bad ws.length
 m3 : Zl (ws ++ [.jcc false k₀ 0]) 0 [] = .ok due
 c3 : Zt (ws ++ [.jcc false k₀ 0]) 0 due = .bad .none
 m4 : Zl (ws ++ [.jmp .entry 0]) 0 [] = .ok due
 c4 : Zt (ws ++ [.jmp .entry 0]) 0 due = .bad .none
 sub : ZD due due = true
inductive X0 (due : MkL) : WR → Prop
 | call {i : Int} : 0 ≤ i → i < 1000 → YQ (Zv (Kd.entry.s, i) due) = true → X0 due (.call i)
 | jmp {k : Kd} {i : Int} : 0 ≤ i → i < 1000 → k.two = true → YQ (Zv (k.s, i) due) = true → X0 due (.jmp k i)
 | jcc {k : Kd} {i : Int} : 0 ≤ i → i < 1000 → k.two = true → YQ (Zv (k.s, i) due) = true → X0 due (.jcc true k i)
theorem Znf {k₀ : Kd} {ms js : List WR} {due : MkL} (hms : Zl (.ret :: ms) 0 [] = .ok due) (hmk : ∀ w ∈ ms, w.isMk = true ∧ w.ok) (hl : ms.length ≤ 20) (hj : js.length ≤ 20) (hjs : ∀ w ∈ js, X0 due w)
  (h0 : YQ (Zv (k₀.s, 0) due) = true) (h9 : Zv (Kd.label.s, 900) due = none) (hsub : ZD due due = true) : Zk9 k₀ (.ret :: ms ++ js) due := by
 have jm : ∀ w ∈ js, w.isMk = false := fun w hw => by cases hjs w hw <;> rfl
 have m0 : Zl (.ret :: ms ++ js) 0 [] = .ok due := by rw [XJ, hms]; exact XQ _ _ _ jm
 have c0 : Zt (.ret :: ms ++ js) 0 due = .ok := V7 _ _ _ fun w hw => by
  obtain hw | hw := List.mem_append.mp hw
  ·obtain rfl | hw := List.mem_cons.mp hw
   ·exact ⟨rfl, fun m h => by cases h⟩
   ·have := (hmk w hw).1
    try clear hw; try clear c0; try clear m0; try clear jm; try clear hsub; try clear h9; try clear h0; try clear hjs; try clear hj; try clear hl; try clear hmk; try clear hms; try clear due; try clear js; try clear ms; try clear k₀
    cases w with
    | mark k i => exact ⟨rfl, fun m h => by cases h⟩
    | _ => exact xF this
  ·cases hjs w hw with
   | call a b c => exact ⟨rfl, fun m h => by cases h; exact c⟩
   | jmp a b t c => exact ⟨t, fun m h => by cases h; exact c⟩
   | jcc a b t c => exact ⟨by show (true && _) = true; rw [t]; rfl, fun m h => by cases h; exact c⟩
 have mx : ∀ w : WR, w.isMk = false → Zl (.ret :: ms ++ js ++ [w]) 0 [] = .ok due := fun w hw => by
  rw [XJ, m0]
  exact XQ _ _ _ fun u hu => by cases hu with | head => exact hw | tail _ h => (exfalso; cases h)
 have cx : ∀ (w : WR) (r : CR), Zt [w] (0 + ((.ret :: ms ++ js : List WR).length : Int)) due = r → Zt (.ret :: ms ++ js ++ [w]) 0 due = r := fun w r hr => by
  rw [UU, c0]; exact hr
 refine ⟨by simp; omega, fun w hw => ?_, m0, c0, mx _ rfl, cx _ _ ?_, ?_, mx _ rfl, cx _ _ ?_, mx _ rfl, cx _ _ ?_, hsub⟩
 ·obtain hw | hw := List.mem_append.mp hw
  ·obtain rfl | hw := List.mem_cons.mp hw
   ·exact ⟨by decide, by decide⟩
   ·exact (hmk w hw).2
  ·cases hjs w hw with
   | call a b c => exact ⟨a, b⟩
   | jmp a b t c => exact ⟨a, b⟩
   | jcc a b t c => exact ⟨a, b⟩
 ·show (match Zv (Kd.label.s, 900) due with | none => CR.bad (.int (0 + _)) | some _ => _) = _
  rw [h9, Int.zero_add]
 ·rw [XJ, m0]
  show Zl [.mark k₀ 0] (0 + _) due = _
  rw [Int.zero_add]
  rw [Xj]
  generalize Zv (k₀.s, 0) due = zz at h0 ⊢
  cases zz with
  | none => exact xF h0
  | some y => rfl
 ·rfl
 ·rfl
noncomputable def pgW : Pg := Ws (Ws pgG 147 60 Zbl) 154 70 GR
noncomputable def WO : Yv := Zi 32 (P1 "pen")
theorem Ze5 {ws : List WR} {K : AV → Prop} {X : AX → Prop} (hl : ws.length ≤ 100) (hw : ∀ w ∈ ws, w.ok) (h1 : ∀ a, Zl ws 0 [] = .bad a → X ⟨.int a⟩) (h2 : ∀ es, Zl ws 0 [] = .ok es → (Zt ws 0 es = .ok → K (.dmk es)) ∧ ∀ a, Zt ws 0 es = .bad a → X ⟨a⟩) : GR [.lst (ws.map WR.av)] K X := ⟨ws, rfl, hl, hw, h1, h2⟩
theorem Ve {K : AV → Prop} {X : AX → Prop} (h : ∀ k : Kd, K (.str k.s)) : YV [.pen, .lst [.str (Str.ofString "order"), .str (Str.ofString "label"), .str (Str.ofString "entry")]] K X := by
 refine YR (by decide) (by decide) ?_ ?_
 ·intro v hv
  obtain rfl | hv := List.mem_cons.mp hv
  ·rfl
  obtain rfl | hv := List.mem_cons.mp hv
  ·rfl
  obtain rfl | hv := List.mem_cons.mp hv
  ·rfl
  (exfalso; cases hv)
 ·intro v hv
  obtain rfl | hv := List.mem_cons.mp hv
  ·exact h .order
  obtain rfl | hv := List.mem_cons.mp hv
  ·exact h .label
  obtain rfl | hv := List.mem_cons.mp hv
  ·exact h .entry
  (exfalso; cases hv)
noncomputable def V5 (c : Nat) : FI := ⟨WO.names, true, false, [(Str.ofString "pen", c)]⟩
noncomputable def Zg8 (K : AV → Prop) : KS := fun fl _ σ₁ => match fl with
 | .ret v => kfz K v σ₁
 | .next => kfz K .none σ₁
noncomputable def kT (ks : List Kd) : List AV := ks.map fun k => .str k.s
noncomputable def JR : Int → List Kd → List AV
 | _, [] => []
 | i, k :: ks => .tup [.str k.s, .int i] :: JR (i + 1) ks
noncomputable def Z6 : Int → List Kd → List WR
 | _, [] => []
 | i, k :: ks => .mark k i :: Z6 (i + 1) ks
noncomputable def Xa : Int → List Kd → MkL
 | _, [] => []
 | i, k :: ks => ((k.s, i), i + 1) :: Xa (i + 1) ks
noncomputable def Wk (c : Nat) (s m : AV) : Loc := [(Str.ofString "pen", .cel c .pen), (Str.ofString "kinds", .ref 0), (Str.ofString "marks", .ref 1), (Str.ofString "rows", .ref 3), (Str.ofString "due", .ref 4), (Str.ofString "spot", s), (Str.ofString "mark", m)]
noncomputable def VE (ks : List Kd) (ws : List WR) : Led := [.ali (.lst (kT ks)), .ali (.lst (JR 0 ks)), .lst ((Z6 0 ks).map WR.av), .lst (ws.map WR.av), .dmk (Xa 0 ks)]
theorem Zh8 {c : Nat} {K : KS} {X : KX} {rest : List Stmt} (h : ∀ ks s m, 1 ≤ ks.length → ks.length ≤ 4 → ZjE pgW (ev pgW 118) 118 (V5 c) rest (Wk c s m) (VE ks (.ret :: Z6 0 ks)) K X) :
  Vz pgW (ev pgW 118) 118 (V5 c) (WO.body.take 5 ++ rest) [(Str.ofString "pen", .cel c .pen)] [] K X := by
 refine Zj rfl ?_
 refine Gr (by decide) (by decide) fun d d0 d1 => ?_
 have hd : d = 0 ∨ d = 1 ∨ d = 2 ∨ d = 3 := by omega
 try clear d1; try clear d0; try clear d; try clear rest; try clear X; try clear K; try clear c
 obtain rfl | rfl | rfl | rfl := hd
 ·refine X7 (by decide) (by decide) ?_
  refine Zj rfl ?_
  refine Ve fun k0 => ?_
  exact h [k0] _ _ (by simp) (by simp)
 ·refine X7 (by decide) (by decide) ?_
  refine Zj rfl ?_
  refine Ve fun k0 => ?_
  refine Zj rfl ?_
  refine Ve fun k1 => ?_
  exact h [k0, k1] _ _ (by simp) (by simp)
 ·refine X7 (by decide) (by decide) ?_
  refine Zj rfl ?_
  refine Ve fun k0 => ?_
  refine Zj rfl ?_
  refine Ve fun k1 => ?_
  refine Zj rfl ?_
  refine Ve fun k2 => ?_
  exact h [k0, k1, k2] _ _ (by simp) (by simp)
 ·refine X7 (by decide) (by decide) ?_
  refine Zj rfl ?_
  refine Ve fun k0 => ?_
  refine Zj rfl ?_
  refine Ve fun k1 => ?_
  refine Zj rfl ?_
  refine Ve fun k2 => ?_
  refine Zj rfl ?_
  refine Ve fun k3 => ?_
  exact h [k0, k1, k2, k3] _ _ (by simp) (by simp)
inductive ZbA : Nat → Loc → Prop
 | a : ZbA 0 []
 | b (n : Nat) (k r t l : AV) : ZbA (n + 1) [(Str.ofString "kind", k), (Str.ofString "row", r), (Str.ofString "text", t), (Str.ofString "lead", l)]
structure ZiP (c : Nat) (ks : List Kd) (m : AV) (vs : List AV) (loc : Loc) (σ : Led) : Prop where
 ok : ∃ dn left js s tl junk, ks = dn ++ left ∧ vs = JR dn.length left ∧ js.length = dn.length ∧ (∀ w ∈ js, X0 (Xa 0 ks) w) ∧ ZbA dn.length tl ∧ loc = Wk c s m ++ tl ∧ junk = [] ∧ σ = VE ks (.ret :: Z6 0 ks ++ js) ++ junk
theorem Zbx {α : Type} {a b : α} {P : α → Prop} (h1 : P a) (h2 : P b) : ∀ v ∈ [a, b], P v := fun v hv => (List.mem_cons.mp hv).elim (fun e => e ▸ h1) fun hv => (List.mem_singleton.mp hv) ▸ h2
theorem W1 (k : Kd) (left : List Kd) : ∀ (dn : List Kd) (j : Int), YQ (Zv (k.s, j + dn.length) (Xa j (dn ++ k :: left))) = true
 | [], j => by
  show YQ (Zv (k.s, j + 0) (((k.s, j), j + 1) :: Xa (j + 1) left)) = true
  rw [Xl]
  delta mEq
  have : decide (j + 0 = j) = true := decide_eq_true (by omega)
  simp only [this, show sEq k.s k.s = true from ZH.mpr rfl]
  rfl
 | d :: dn, j => by
  have ih := W1 k left dn (j + 1)
  show YQ (Zv (k.s, j + ((dn.length + 1 : Nat) : Int)) (((d.s, j), j + 1) :: Xa (j + 1) (dn ++ k :: left))) = true
  rw [Xl]
  delta mEq
  have : decide (j + ((dn.length + 1 : Nat) : Int) = j) = false := decide_eq_false (by omega)
  simp only [this]
  have e : j + ((dn.length + 1 : Nat) : Int) = j + 1 + dn.length := by omega
  rw [e]; exact ih
theorem XT {c : Nat} {m s : AV} {dn left : List Kd} {k : Kd} {js : List WR} {w : WR} {tl : Loc} {junk σ : Led} (hjl : js.length = dn.length) (hjs : ∀ w ∈ js, X0 (Xa 0 (dn ++ k :: left)) w)
  (hw : X0 (Xa 0 (dn ++ k :: left)) w) (htl : ZbA (dn.length + 1) tl) (hj : junk = [])
  (hs : σ = [.ali (.lst (kT (dn ++ k :: left))), .ali (.lst (JR 0 (dn ++ k :: left))), .lst ((Z6 0 (dn ++ k :: left)).map WR.av), .lst ((.ret :: Z6 0 (dn ++ k :: left) ++ js).map WR.av ++ [w.av]), .dmk (Xa 0 (dn ++ k :: left))] ++ junk) :
  ZiP c (dn ++ k :: left) m (JR (dn.length + 1) left) (Wk c s m ++ tl) σ := by
 refine ⟨dn ++ [k], left, js ++ [w], s, tl, junk, by simp, by simp, by simp [hjl], fun u hu => ?_, (List.length_append .. ▸ htl), rfl, hj, ?_⟩
 ·obtain hu | hu := List.mem_append.mp hu
  ·exact hjs u hu
  ·cases hu with
   | head => exact hw
   | tail _ h => (exfalso; cases h)
 ·rw [hs]
  delta VE
  have : (.ret :: Z6 0 (dn ++ k :: left) ++ (js ++ [w])) = (.ret :: Z6 0 (dn ++ k :: left) ++ js) ++ [w] := by simp
  rw [this, List.map_append (l₁ := .ret :: Z6 0 (dn ++ k :: left) ++ js)]
  rfl
theorem ZbA.inv {n : Nat} {tl : Loc} (h : ZbA n tl) : (n = 0 ∧ tl = []) ∨ ∃ k r t l, tl = [(Str.ofString "kind", k), (Str.ofString "row", r), (Str.ofString "text", t), (Str.ofString "lead", l)] := by
 cases h with
 | a => exact .inl ⟨rfl, rfl⟩
 | b n k r t l => exact .inr ⟨k, r, t, l, rfl⟩
theorem Vf {a b : Str} (h : a = b) : Yl true (sEq a b) = false := by rw [h, Yq]; rfl
theorem GE : ∀ (dn : List Kd) (k : Kd) (left : List Kd) (c : Int), Z6 c (dn ++ k :: left) = Z6 c dn ++ .mark k (c + dn.length) :: Z6 (c + dn.length + 1) left
 | [], k, left, c => by show WR.mark k c :: _ = WR.mark k (c + ((0 : Nat) : Int)) :: Z6 (c + ((0 : Nat) : Int) + 1) left; rw [show c + ((0 : Nat) : Int) = c by omega]
 | d :: dn, k, left, c => by
  show WR.mark d c :: Z6 (c + 1) (dn ++ k :: left) = _
  rw [GE dn k left (c + 1), show c + 1 + (dn.length : Int) = c + ((d :: dn).length : Nat) by simp; omega]; rfl
theorem XZ : ∀ (ks : List Kd) (c : Int), (Z6 c ks).length = ks.length
 | [], _ => rfl
 | k :: ks, c => congrArg Nat.succ (XZ ks (c + 1))
theorem Vh {i : Int} {dn left : List Kd} {k : Kd} {js : List WR} {r : AV} (hi : i = dn.length) (h : dn.length ≤ 4) : at? (i + 1) ((WR.ret :: Z6 0 (dn ++ k :: left) ++ js).map WR.av ++ [r]) = some (.row k.s [.int i]) := by
 subst hi
 show (match Nat.ble (dn.length + 1) 1000000 with | true => ((WR.ret :: Z6 0 (dn ++ k :: left) ++ js).map WR.av ++ [r])[dn.length + 1]? | false => none) = _
 rw [show Nat.ble (dn.length + 1) 1000000 = true from Nat.ble_eq_true_of_le (by omega), GE, Int.zero_add]
 have e : (WR.ret :: (Z6 0 dn ++ WR.mark k dn.length :: Z6 (dn.length + 1) left) ++ js).map WR.av ++ [r] = (WR.ret :: Z6 0 dn).map WR.av ++ ((WR.mark k dn.length).av :: ((Z6 (dn.length + 1) left ++ js).map WR.av ++ [r])) := by simp
 show (List.map _ _ ++ _)[_]? = _
 rw [e, List.getElem?_append_right (by simp [XZ])]
 simp [XZ]
 rfl
theorem Yj {x : Str} (h : (Nat.ble (Zf x) 1) = true := by rfl) : Zf x ≤ 1 := Nat.le_of_ble_eq_true h
theorem U6 {x : Str} (h : (Nat.ble (Zf x) 4) = true := by rfl) : Zf x ≤ 4 := Nat.le_of_ble_eq_true h
theorem Zhl {x : Str} (h : (Nat.ble (Zf x) 5) = true := by rfl) : Zf x ≤ 5 := Nat.le_of_ble_eq_true h
theorem ZaE (s : Str) (i : Int) : Yl true (Gn [.st s, .nu i] [.st s, .nu i]) = false := by
 show Yl true (match sEq s s with | true => (match decide (i = i) with | true => true | false => false) | false => false) = false
 rw [Yq, decide_eq_true rfl]; rfl
noncomputable def Ze9 : Expr := match (WO.body.drop 5) with
 | .For t _ _ _ _ :: _ => t
 | _ => .Constant .none 0 ⟨0, 0, 0, 0⟩
noncomputable def ZgY : List Stmt := match (WO.body.drop 5) with
 | .For _ _ b _ _ :: _ => b
 | _ => []
theorem ZfW {c : Nat} {ks : List Kd} {js : List WR} (h : ks.length ≤ 4) (hj : js.length ≤ 4) : ((WR.ret :: Z6 c ks ++ js).map WR.av).length + 1 ≤ 16777216 := by
 simp [XZ]; omega
section
variable {c : Nat} {kk : KS} {XX : KX} {m s : AV} {js : List WR} {left : List Kd} {dn : List Kd} {k : Kd} {tl : Loc} {z0 z1 z2 z3 : AV} {i : Int}
theorem Ze2 (hjl : js.length = 0) (hjs : ∀ w ∈ js, X0 (Xa 0 ([] ++ k :: left)) w) (htl : ZbA 0 tl) (h4 : ([] ++ k :: left).length ≤ 4)
  (ih : ∀ loc₂ σ₂, ZiP c ([] ++ k :: left) m (JR ((([] : List Kd).length : Nat) + 1) left) loc₂ σ₂ → kk .next loc₂ σ₂) :
  G5 (ev pgW 118) (V5 c) Ze9 (.tup [.str k.s, .int 0]) (Wk c s m ++ tl) (VE ([] ++ k :: left) (.ret :: Z6 0 ([] ++ k :: left) ++ js) ++ []) (fun l σ => (ev pgW 118).Ss (V5 c) l σ ZgY kk XX) (fun x σ => XX x (Wk c s m ++ tl) σ) := by
 have hlen := ZfW (c := 0) h4 (by omega : js.length ≤ 4)
 have due := W1 k left [] 0
 cases htl <;> cases k
 ·refine Zj rfl ?_
  refine YR (vs := [.row (Str.ofString "jmp") [.str Kd.order.s, .int 0], .row (Str.ofString "jcc") [.str (Str.ofString "le"), .str Kd.order.s, .int 0]]) (by decide) (by decide) (Zbx rfl rfl) (Zbx ?_ ?_)
  ·refine Zj (Zc hlen) ?_
   refine YB ?_
   refine Zm (by decide) ?_
   refine Za (Zc (by decide +kernel)) ?_
   refine YF (ZM.jmp (k := Kd.order.s) (n := 0) (.inl rfl) (.inl rfl)) ?_
   refine Za (Zc (by decide +kernel)) ?_
   refine Zd (by decide +kernel) ?_
   refine YF (ZM.mark (k := Kd.order.s) (n := 0) (.inl rfl) (.inl rfl)) ?_
   refine Za (Zc (by decide +kernel)) ?_
   refine Zd (by decide +kernel) ?_
   exact ih _ _ (XT (w := .jmp Kd.order 0) (junk := []) hjl hjs (X0.jmp (by decide) (by decide) rfl due) (.b _ _ _ _ _) rfl rfl)
  ·refine Zj (Zc hlen) ?_
   refine YB ?_
   refine Zm (by decide) ?_
   refine Za (Zc (by decide +kernel)) ?_
   refine YF (ZM.jcc (k := Kd.order.s) (n := 0) (.inl rfl) (.inl rfl)) ?_
   refine Za (Zc (by decide +kernel)) ?_
   refine Zd (by decide +kernel) ?_
   refine YF (ZM.mark (k := Kd.order.s) (n := 0) (.inl rfl) (.inl rfl)) ?_
   refine Za (Zc (by decide +kernel)) ?_
   refine Zd (by decide +kernel) ?_
   exact ih _ _ (XT (w := .jcc true Kd.order 0) (junk := []) hjl hjs (X0.jcc (by decide) (by decide) rfl due) (.b _ _ _ _ _) rfl rfl)
 ·refine Zj rfl ?_
  refine YR (vs := [.row (Str.ofString "jmp") [.str Kd.label.s, .int 0], .row (Str.ofString "jcc") [.str (Str.ofString "le"), .str Kd.label.s, .int 0]]) (by decide) (by decide) (Zbx rfl rfl) (Zbx ?_ ?_)
  ·refine Zj (Zc hlen) ?_
   refine YB ?_
   refine Zm (by decide) ?_
   refine Za (Zc (by decide +kernel)) ?_
   refine YF (ZM.jmp (k := Kd.label.s) (n := 0) (.inr rfl) (.inl rfl)) ?_
   refine Za (Zc (by decide +kernel)) ?_
   refine Zd (by decide +kernel) ?_
   refine YF (ZM.mark (k := Kd.label.s) (n := 0) (.inr (.inl rfl)) (.inl rfl)) ?_
   refine Za (Zc (by decide +kernel)) ?_
   refine Zd (by decide +kernel) ?_
   exact ih _ _ (XT (w := .jmp Kd.label 0) (junk := []) hjl hjs (X0.jmp (by decide) (by decide) rfl due) (.b _ _ _ _ _) rfl rfl)
  ·refine Zj (Zc hlen) ?_
   refine YB ?_
   refine Zm (by decide) ?_
   refine Za (Zc (by decide +kernel)) ?_
   refine YF (ZM.jcc (k := Kd.label.s) (n := 0) (.inr rfl) (.inl rfl)) ?_
   refine Za (Zc (by decide +kernel)) ?_
   refine Zd (by decide +kernel) ?_
   refine YF (ZM.mark (k := Kd.label.s) (n := 0) (.inr (.inl rfl)) (.inl rfl)) ?_
   refine Za (Zc (by decide +kernel)) ?_
   refine Zd (by decide +kernel) ?_
   exact ih _ _ (XT (w := .jcc true Kd.label 0) (junk := []) hjl hjs (X0.jcc (by decide) (by decide) rfl due) (.b _ _ _ _ _) rfl rfl)
 ·refine Zj (Zc hlen) ?_
  refine YB ?_
  refine Zm (by decide) ?_
  refine Za (Zc (by decide +kernel)) ?_
  refine YF (ZM.call (n := 0) (.inl rfl)) ?_
  refine Za (Zc (by decide +kernel)) ?_
  refine Zd (by decide +kernel) ?_
  refine YF (ZM.mark (k := Kd.entry.s) (n := 0) (.inr (.inr rfl)) (.inl rfl)) ?_
  refine Za (Zc (by decide +kernel)) ?_
  refine Zd (by decide +kernel) ?_
  exact ih _ _ (XT (w := .call 0) (junk := []) hjl hjs (X0.call (by decide) (by decide) due) (.b _ _ _ _ _) rfl rfl)
theorem Zjp (hi : i = dn.length) (hjl : js.length = dn.length) (hjs : ∀ w ∈ js, X0 (Xa 0 (dn ++ k :: left)) w) (h4 : (dn ++ k :: left).length ≤ 4)
  (ih : ∀ loc₂ σ₂, ZiP c (dn ++ k :: left) m (JR (dn.length + 1) left) loc₂ σ₂ → kk .next loc₂ σ₂) :
  G5 (ev pgW 118) (V5 c) Ze9 (.tup [.str k.s, .int i]) (Wk c s m ++ [(Str.ofString "kind", z0), (Str.ofString "row", z1), (Str.ofString "text", z2), (Str.ofString "lead", z3)]) (VE (dn ++ k :: left) (.ret :: Z6 0 (dn ++ k :: left) ++ js) ++ []) (fun l σ => (ev pgW 118).Ss (V5 c) l σ ZgY kk XX) (fun x σ => XX x (Wk c s m ++ [(Str.ofString "kind", z0), (Str.ofString "row", z1), (Str.ofString "text", z2), (Str.ofString "lead", z3)]) σ) := by
 have hlen := ZfW (c := 0) h4 (by rw [hjl]; rw [List.length_append] at h4; omega : js.length ≤ 4)
 have due : YQ (Zv (k.s, i) (Xa 0 (dn ++ k :: left))) = true := by rw [hi]; have := W1 k left dn 0; rwa [Int.zero_add] at this
 have hd : dn.length ≤ 4 := by rw [List.length_append] at h4; omega
 have hp : Sp i := by show i = 0 ∨ i = 1 ∨ i = 2 ∨ i = 3; rw [List.length_append, List.length_cons] at h4; omega
 have h0 : 0 ≤ i := by omega
 have h1 : i < 1000 := by obtain rfl | rfl | rfl | rfl := hp <;> decide
 cases k
 ·refine Zj rfl ?_
  refine YR (vs := [.row (Str.ofString "jmp") [.str Kd.order.s, .int i], .row (Str.ofString "jcc") [.str (Str.ofString "le"), .str Kd.order.s, .int i]]) (by exact Nat.zero_lt_succ _) (by exact (by decide : 2 < 1000)) (Zbx rfl rfl) (Zbx ?_ ?_)
  ·refine Zj (Zc hlen) ?_
   refine YB ?_
   refine Zm (XW hp) ?_
   refine Za (bnd Yj (ZE hp).1) ?_
   refine Zd (ZaE _ _) ?_
   refine YF (ZM.jmp (k := Kd.order.s) (n := i) (.inl rfl) hp) ?_
   refine Za (bnd U6 (bap Yj (ZE hp).1)) ?_
   refine Zd (Vf rfl) ?_
   refine Zy (a := .row Kd.order.s [.int i]) (Vh hi hd) ?_
   refine YF (ZM.mark (k := Kd.order.s) (n := i) (.inl rfl) hp) ?_
   refine Za (bnd (bap Yj (ZE hp).1) Yj) ?_
   refine Zd (Vf rfl) ?_
   refine Zy (a := .row Kd.order.s [.int i]) (Vh hi hd) ?_
   exact ih _ _ (XT (w := .jmp Kd.order i) (junk := []) hjl hjs (X0.jmp h0 h1 rfl due) (.b _ _ _ _ _) rfl rfl)
  ·refine Zj (Zc hlen) ?_
   refine YB ?_
   refine Zm (XW hp) ?_
   refine Za (bnd Yj (ZE hp).1) ?_
   refine Zd (ZaE _ _) ?_
   refine YF (ZM.jcc (k := Kd.order.s) (n := i) (.inl rfl) hp) ?_
   refine Za (bnd U6 (bap Yj (ZE hp).1)) ?_
   refine Zd (Vf rfl) ?_
   refine Zy (a := .row Kd.order.s [.int i]) (Vh hi hd) ?_
   refine YF (ZM.mark (k := Kd.order.s) (n := i) (.inl rfl) hp) ?_
   refine Za (bnd (bap Yj (ZE hp).1) Yj) ?_
   refine Zd (Vf rfl) ?_
   refine Zy (a := .row Kd.order.s [.int i]) (Vh hi hd) ?_
   exact ih _ _ (XT (w := .jcc true Kd.order i) (junk := []) hjl hjs (X0.jcc h0 h1 rfl due) (.b _ _ _ _ _) rfl rfl)
 ·refine Zj rfl ?_
  refine YR (vs := [.row (Str.ofString "jmp") [.str Kd.label.s, .int i], .row (Str.ofString "jcc") [.str (Str.ofString "le"), .str Kd.label.s, .int i]]) (by exact Nat.zero_lt_succ _) (by exact (by decide : 2 < 1000)) (Zbx rfl rfl) (Zbx ?_ ?_)
  ·refine Zj (Zc hlen) ?_
   refine YB ?_
   refine Zm (XW hp) ?_
   refine Za (bnd Yj (ZE hp).1) ?_
   refine Zd (ZaE _ _) ?_
   refine YF (ZM.jmp (k := Kd.label.s) (n := i) (.inr rfl) hp) ?_
   refine Za (bnd U6 (bap Yj (ZE hp).1)) ?_
   refine Zd (Vf rfl) ?_
   refine Zy (a := .row Kd.label.s [.int i]) (Vh hi hd) ?_
   refine YF (ZM.mark (k := Kd.label.s) (n := i) (.inr (.inl rfl)) hp) ?_
   refine Za (bnd (bap Yj (ZE hp).1) Yj) ?_
   refine Zd (Vf rfl) ?_
   refine Zy (a := .row Kd.label.s [.int i]) (Vh hi hd) ?_
   exact ih _ _ (XT (w := .jmp Kd.label i) (junk := []) hjl hjs (X0.jmp h0 h1 rfl due) (.b _ _ _ _ _) rfl rfl)
  ·refine Zj (Zc hlen) ?_
   refine YB ?_
   refine Zm (XW hp) ?_
   refine Za (bnd Yj (ZE hp).1) ?_
   refine Zd (ZaE _ _) ?_
   refine YF (ZM.jcc (k := Kd.label.s) (n := i) (.inr rfl) hp) ?_
   refine Za (bnd U6 (bap Yj (ZE hp).1)) ?_
   refine Zd (Vf rfl) ?_
   refine Zy (a := .row Kd.label.s [.int i]) (Vh hi hd) ?_
   refine YF (ZM.mark (k := Kd.label.s) (n := i) (.inr (.inl rfl)) hp) ?_
   refine Za (bnd (bap Yj (ZE hp).1) Yj) ?_
   refine Zd (Vf rfl) ?_
   refine Zy (a := .row Kd.label.s [.int i]) (Vh hi hd) ?_
   exact ih _ _ (XT (w := .jcc true Kd.label i) (junk := []) hjl hjs (X0.jcc h0 h1 rfl due) (.b _ _ _ _ _) rfl rfl)
 ·refine Zj (Zc hlen) ?_
  refine YB ?_
  refine Zm (XW hp) ?_
  refine Za (bnd Yj (ZE hp).1) ?_
  refine Zd (ZaE _ _) ?_
  refine YF (ZM.call (n := i) hp) ?_
  refine Za (bnd Zhl (bap Yj (ZE hp).1)) ?_
  refine Zd (Vf rfl) ?_
  refine Zy (a := .row Kd.entry.s [.int i]) (Vh hi hd) ?_
  refine YF (ZM.mark (k := Kd.entry.s) (n := i) (.inr (.inr rfl)) hp) ?_
  refine Za (bnd (bap Yj (ZE hp).1) Yj) ?_
  refine Zd (Vf rfl) ?_
  refine Zy (a := .row Kd.entry.s [.int i]) (Vh hi hd) ?_
  exact ih _ _ (XT (w := .call i) (junk := []) hjl hjs (X0.call h0 h1 due) (.b _ _ _ _ _) rfl rfl)
end
theorem GF : ∀ (ks : List Kd) (c : Int), 0 ≤ c → c + ks.length ≤ 900 → ∀ w ∈ Z6 c ks, w.isMk = true ∧ w.ok
 | [], _, _, _, w, h => by (exfalso; cases h)
 | k :: ks, c, h0, h1, w, h => by
  have hl : ((k :: ks).length : Int) = ks.length + 1 := by simp
  obtain rfl | h := List.mem_cons.mp h
  ·exact ⟨rfl, ⟨h0, by show c < 1000; omega⟩⟩
  ·exact GF ks (c + 1) (by omega) (by omega) w h
theorem Zdt (m : Str × Int) : ∀ (ks : List Kd) (c : Int), c + ks.length ≤ m.2 → Zv m (Xa c ks) = none
 | [], _, _ => rfl
 | k :: ks, c, h => by
  have hl : ((k :: ks).length : Int) = ks.length + 1 := by simp
  show Zv m (((k.s, c), c + 1) :: Xa (c + 1) ks) = _
  rw [Xl]
  delta mEq
  have : decide (m.2 = c) = false := decide_eq_false (by omega)
  simp only [this]
  exact Zdt m ks (c + 1) (by omega)
theorem Zbi (m : Str × Int) : ∀ (es : MkL), (∀ p ∈ es, p.1.2 < m.2) → Zv m es = none
 | [], _ => rfl
 | p :: es, h => by
  rw [Xl]
  delta mEq
  have : decide (m.2 = p.1.2) = false := decide_eq_false (by have := h p (.head _); omega)
  simp only [this]
  exact Zbi m es fun q hq => h q (.tail _ hq)
theorem GD : ∀ (ks : List Kd) (c a : Int) (es : MkL), a = c + 1 → (∀ p ∈ es, p.1.2 < c) → Zl (Z6 c ks) a es = .ok (es ++ Xa c ks)
 | [], c, a, es, _, _ => by show MR.ok es = .ok (es ++ []); rw [List.append_nil]
 | k :: ks, c, a, es, ha, h => by
  show Zl (.mark k c :: Z6 (c + 1) ks) a es = _
  rw [Xj, Zbi _ es h]
  show Zl (Z6 (c + 1) ks) (a + 1) (es ++ [((k.s, c), a)]) = _
  rw [GD ks (c + 1) (a + 1) _ (by omega) (fun p hp => ?_)]
  ·rw [ha, List.append_assoc]; rfl
  ·obtain hp | hp := List.mem_append.mp hp
   ·have := h p hp; omega
   ·cases hp with
    | head => show c < c + 1; omega
    | tail _ h => (exfalso; cases h)
theorem Zee (ks : List Kd) : Zl (.ret :: Z6 0 ks) 0 [] = .ok (Xa 0 ks) := by
 rw [Xk rfl]
 exact GD ks 0 1 [] rfl nofun
theorem ZcY (es : MkL) (hn : ∀ p ∈ es, Zv p.1 es = some p.2) : ∀ l : MkL, (∀ p ∈ l, p ∈ es) → ZD l es = true
 | [], _ => rfl
 | p :: l, h => by
  show (match Zv p.1 es with | some j => (match decide (p.2 = j) with | true => ZD l es | false => false) | none => false) = true
  rw [hn p (h p (.head _))]
  simp only [decide_true]
  exact ZcY es hn l fun q hq => h q (.tail _ hq)
theorem Zbh : ∀ (ks : List Kd) (c : Int), ∀ p ∈ Xa c ks, Zv p.1 (Xa c ks) = some p.2 ∧ c ≤ p.1.2
 | [], _, p, h => by (exfalso; cases h)
 | k :: ks, c, p, h => by
  obtain rfl | h := List.mem_cons.mp h
  ·refine ⟨?_, Int.le_refl _⟩
   show Zv _ (((k.s, c), c + 1) :: Xa (c + 1) ks) = _
   rw [Xl]
   delta mEq
   simp only [decide_true, show sEq k.s k.s = true from ZH.mpr rfl]
  ·obtain ⟨a, b⟩ := Zbh ks (c + 1) p h
   refine ⟨?_, by omega⟩
   show Zv _ (((k.s, c), c + 1) :: Xa (c + 1) ks) = _
   rw [Xl]
   delta mEq
   have : decide (p.1.2 = c) = false := decide_eq_false (by omega)
   simp only [this]
   exact a
theorem Zff (ks : List Kd) : ZD (Xa 0 ks) (Xa 0 ks) = true := ZcY _ (fun p hp => (Zbh ks 0 p hp).1) _ fun _ h => h
theorem Zhe {k : Kd} {ks : List Kd} {js : List WR} (h4 : (k :: ks).length ≤ 4) (hj : js.length = (k :: ks).length) (hjs : ∀ w ∈ js, X0 (Xa 0 (k :: ks)) w) : Zk9 k (.ret :: Z6 0 (k :: ks) ++ js) (Xa 0 (k :: ks)) := by
 refine Znf (Zee _) (GF _ 0 (Int.le_refl _) (by omega)) (by rw [XZ]; omega) (by omega) hjs ?_ (Zdt _ _ 0 (by show 0 + ((k :: ks).length : Int) ≤ 900; omega)) (Zff _)
 have := W1 k ks [] 0
 exact this
theorem ZbG {ws : List WR} {w : WR} {K : AV → Prop} {X : AX → Prop} {es : MkL} {a : AV} (hl : ws.length ≤ 50) (hw : ∀ u ∈ ws, u.ok) (ho : w.ok) (hm : Zl (ws ++ [w]) 0 [] = .ok es) (hc : Zt (ws ++ [w]) 0 es = .bad a) (hx : X ⟨a⟩) : GR [.lst (ws.map WR.av ++ [w.av])] K X := by
 have e : ws.map WR.av ++ [w.av] = (ws ++ [w]).map WR.av := by simp
 rw [e]
 refine Ze5 (by simp; omega) (fun u hu => ?_) (fun a h => by rw [hm] at h; (exfalso; cases h)) (fun es' h => ?_)
 ·obtain hu | hu := List.mem_append.mp hu
  ·exact hw u hu
  ·cases hu with
   | head => exact ho
   | tail _ h => (exfalso; cases h)
 ·rw [hm] at h; cases h
  refine ⟨fun h => ?_, fun a' h => ?_⟩
  ·rw [hc] at h; (exfalso; cases h)
  ·rw [hc] at h; cases h; exact hx
theorem Zjy {ws : List WR} {w : WR} {K : AV → Prop} {X : AX → Prop} {a : Int} (hl : ws.length ≤ 50) (hw : ∀ u ∈ ws, u.ok) (ho : w.ok) (hm : Zl (ws ++ [w]) 0 [] = .bad a) (hx : X ⟨.int a⟩) : GR [.lst (ws.map WR.av ++ [w.av])] K X := by
 have e : ws.map WR.av ++ [w.av] = (ws ++ [w]).map WR.av := by simp
 rw [e]
 refine Ze5 (by simp; omega) (fun u hu => ?_) (fun a' h => by rw [hm] at h; cases h; exact hx) (fun es' h => by rw [hm] at h; (exfalso; cases h))
 obtain hu | hu := List.mem_append.mp hu
 ·exact hw u hu
 ·cases hu with
  | head => exact ho
  | tail _ h => (exfalso; cases h)
theorem Zjx {ws : List WR} {es : MkL} {K : AV → Prop} {X : AX → Prop} (hl : ws.length ≤ 50) (hw : ∀ u ∈ ws, u.ok) (hm : Zl ws 0 [] = .ok es) (hc : Zt ws 0 es = .ok) (h : K (.dmk es)) : GR [.lst (ws.map WR.av)] K X := by
 refine Ze5 (by omega) hw (fun a h => by rw [hm] at h; (exfalso; cases h)) (fun es' h' => ?_)
 rw [hm] at h'; cases h'
 exact ⟨fun _ => h, fun a h => by rw [hc] at h; (exfalso; cases h)⟩
theorem Zjz {ws : List WR} {es : MkL} {K : AV → Prop} {X : AX → Prop} (hl : ws.length ≤ 50) (hm : Zl ws 0 [] = .ok es) (h : K (.dmk es)) : Zbl [.lst (ws.map WR.av)] K X := by
 refine ZiT (by omega) (fun es' h' => ?_) (fun a h => by rw [hm] at h; (exfalso; cases h))
 rw [hm] at h'; cases h'; exact h
theorem Jc {ws : List WR} {n : Nat} (h : ws.length ≤ 50) (hn : n ≤ 50) : ZU ((ws.map WR.av).length + n) := Zc (by simp; omega)
theorem Za6 {ws : List WR} (h : ws.length ≤ 50) : ZU (ws.map WR.av).length := Zc (by simp; omega)
theorem ZfE {es : MkL} (h : ZD es es = true) : Yl true (Nat.beq es.length es.length && ZD es es) = false := by
 rw [h]; simp [Yl]
theorem ZdG {ws : List WR} : (!decide ((ws.length : Int) = ((ws.map WR.av).length : Nat))) = false := by simp
theorem Zc4 : 1 ≤ 50 := by decide
theorem zk : (0 : Int) ≤ 0 ∧ (0 : Int) < 1000 := ⟨by decide, by decide⟩
noncomputable def ZhE : List Stmt := WO.body.drop 6
theorem ZkI {c : Nat} {K : AV → Prop} {X : KX} {k : Kd} {ks : List Kd} {ws : List WR} {s m : AV} {tl : Loc} {i : Nat} (htl : ZbA i tl) (W : Zk9 k ws (Xa 0 (k :: ks))) (hk : K (.bool true)) :
  U2 pgW (ev pgW 118) 118 (V5 c) ZhE (Wk c s m ++ tl) (VE (k :: ks) ws) (Zg8 K) X := by
 obtain ⟨wl, wo, m0, c0, m1, c1, m2, m3, c3, m4, c4, sub⟩ := W
 cases htl
 all_goals
  refine Zjx wl wo m0 c0 ?_
  refine Zd (ZfE sub) ?_
  refine Zjz wl m0 ?_
  refine Zd (ZfE sub) ?_
  refine Zj (Za6 wl) ?_
  refine Zj (Za6 wl) ?_
  refine Zj (Jc wl Zc4) ?_
  refine ZbG (w := .jmp .label 900) wl wo ⟨by decide, by decide⟩ m1 c1 ?_
  refine Zd ZdG ?_
  refine Zj (Jc wl Zc4) ?_
  refine Zjy (w := .mark k 0) wl wo zk m2 ?_
  refine Zd ZdG ?_
  refine Zj (Jc wl Zc4) ?_
  refine ZbG (w := .jcc false k 0) wl wo zk m3 c3 ?_
  refine Zj (Jc wl Zc4) ?_
  refine ZbG (w := .jmp .entry 0) wl wo zk m4 c4 ?_
  exact X6 rfl hk
theorem Zhs {c : Nat} {K : AV → Prop} {X : KX} {ks : List Kd} {s m : AV} (h1 : 1 ≤ ks.length) (h4 : ks.length ≤ 4) (hk : K (.bool true)) : ZjE pgW (ev pgW 118) 118 (V5 c) (WO.body.drop 5) (Wk c s m) (VE ks (.ret :: Z6 0 ks)) (Zg8 K) X := by
 refine XB (I := ZiP c ks m) ?_ ?_ _ _ _ ?_
 ·intro loc σ h9; obtain ⟨dn, left, js, s, tl, junk, hks, hvs, hjl, hjs, htl, rfl, hj, rfl⟩ := h9.ok
  subst hj
  have hleft : left = [] := by cases left with | nil => rfl | cons _ _ => exact xC hvs
  subst hleft
  rw [List.append_nil] at hks
  subst hks
  cases ks with
  | nil => (exfalso; cases h1)
  | cons k ks => exact ZkI htl (Zhe h4 hjl hjs) hk
 ·intro v vs loc σ h9; obtain ⟨dn, left, js, s, tl, junk, hks, hvs, hjl, hjs, htl, rfl, hj, rfl⟩ := h9.ok; intro kk XX ih kr kx
  subst hj
  cases left with
  | nil => exact xD hvs
  | cons k left =>
   cases hvs
   subst hks
   obtain ⟨h0, rfl⟩ | ⟨z0, z1, z2, z3, rfl⟩ := htl.inv
   ·obtain rfl := List.eq_nil_of_length_eq_zero h0
    exact Ze2 hjl hjs .a h4 ih
   ·exact Zjp rfl hjl hjs h4 ih
 ·exact ⟨[], ks, [], s, [], [], rfl, rfl, rfl, nofun, .a, rfl, rfl, by rw [List.append_nil, List.append_nil]⟩
theorem ZiC {c : Nat} {K : AV → Prop} {X : KX} (hk : K (.bool true)) : Vz pgW (ev pgW 118) 118 (V5 c) WO.body [(Str.ofString "pen", .cel c .pen)] [] (Zg8 K) X := by
 have h := Zh8 (c := c) (K := Zg8 K) (X := X) (rest := WO.body.drop 5) fun ks s m h1 h4 => Zhs h1 h4 hk
 rw [List.take_append_drop] at h
 exact h
structure Zdy (args : List AV) (K : AV → Prop) (X : AX → Prop) : Prop where
 e : args = [.pen]
 k : K (.bool true)
theorem Zlq {K : AV → Prop} {X : AX → Prop} (h : K (.bool true)) : Zdy [.pen] K X := ⟨rfl, h⟩
structure ZgO (a : Nat) (args : List AV) (K : AV → Prop) (X : AX → Prop) : Prop where
 e : args = [.old a]
 k : K .pen
theorem Zls {a : Nat} {K : AV → Prop} {X : AX → Prop} (h : K .pen) : ZgO a [.old a] K X := ⟨rfl, h⟩
noncomputable def pgL (a : Nat) : Pg := Ws (Ws (Ws pgH 238 120 Zjh) 243 120 Zdy) 189 40 (ZgO a)
noncomputable def frL : Yv := Zi 33 (P1 "script")
noncomputable def fiL (c : Nat) : FI := ⟨frL.names, true, false, [(Str.ofString "number", c)]⟩
noncomputable def ZfT (a : Nat) : Loc := [(Str.ofString "script", .old a)]
noncomputable def ZfS (a : Nat) : Loc := [(Str.ofString "script", .old a), (Str.ofString "pen", .pen)]
noncomputable def ZfR (a : Nat) : Loc := [(Str.ofString "script", .old a), (Str.ofString "pen", .pen), (Str.ofString "turn_no", .int 2)]
noncomputable def JV (a c : Nat) (d : Int) : Loc := [(Str.ofString "number", .cel c (.int d)), (Str.ofString "script", .old a), (Str.ofString "pen", .pen), (Str.ofString "turn_no", .int 2)]
noncomputable def stL (k : Nat) : Stmt := match frL.body[k]? with
 | some s => s
 | none => .Pass ⟨0, 0, 0, 0⟩
noncomputable def exL : Expr := match stL 2 with
 | .Assign _ e _ => e
 | _ => .Constant .none 0 ⟨0, 0, 0, 0⟩
section
variable {a c : Nat} {K : KS} {X : KX}
theorem ZlZ (h : K .next (ZfS a) []) : Z0 (pgL a) (ev (pgL a) 140) 140 (fiL c) (stL 0) (ZfT a) [] K X := by
 refine Zls ?_
 exact h
theorem ZlY (h : K .next (ZfR a) []) : Z0 (pgL a) (ev (pgL a) 140) 140 (fiL c) (stL 1) (ZfS a) [] K X := by
 refine X7 (by decide) (by decide) ?_
 refine ⟨rfl, ?_⟩
 refine ⟨rfl, ?_⟩
 refine ⟨rfl, ?_⟩
 exact h
theorem Znz {K : KE} {X : KC} (h : ∀ d, 0 ≤ d → d < 16 → K (.int d) []) : (ev (pgL a) 140).E (fiL c) (ZfR a) [] exL K X := by
 refine Gr (by decide) (by decide) fun d d0 d1 => ?_
 exact h d d0 d1
end
theorem d16 {d : Int} (h0 : 0 ≤ d) (h1 : d < 16) : d = 0 ∨ d = 1 ∨ d = 2 ∨ d = 3 ∨ d = 4 ∨ d = 5 ∨ d = 6 ∨ d = 7 ∨ d = 8 ∨ d = 9 ∨ d = 10 ∨ d = 11 ∨ d = 12 ∨ d = 13 ∨ d = 14 ∨ d = 15 := G8 h0 h1
section
variable {a c : Nat} {K : KS} {X : KX} {d : Int}
noncomputable def Zda (a c : Nat) (d : Int) : Loc := JV a c d ++ [(Str.ofString "low", .str (Zq 8 d))]
noncomputable def JU (a c : Nat) (d : Int) : Loc := JV a c d ++ [(Str.ofString "low", .str (Zq 8 d)), (Str.ofString "half", .str (Zq 16 d))]
theorem ZlB {x : Str} (e : x = Zq 8 d) (h : K .next (Zda a c d) []) : K .next (JV a c d ++ [(Str.ofString "low", .str x)]) [] := by rw [e]; exact h
theorem ZlA {x : Str} (e : x = Zq 16 d) (h : K .next (JU a c d) []) : K .next (JV a c d ++ [(Str.ofString "low", .str (Zq 8 d)), (Str.ofString "half", .str x)]) [] := by rw [e]; exact h
theorem hi8 (h0 : 0 ≤ d) (h1 : d < 16) (g : decide (d < 8) = false) : Zb (Zb (Str.ofString "r") (Zs d)) (Str.ofString "b") = Zq 8 d :=
 ZX (n := 16) (P := fun d => decide (d < 8) = false → Zb (Zb (Str.ofString "r") (Zs d)) (Str.ofString "b") = Zq 8 d) (by decide +kernel) h0 h1 g
theorem ZnD (h0 : 0 ≤ d) (h1 : d < 16) (g : decide (d < 8) = false) : Zb (Zb (Str.ofString "r") (Zs d)) (Str.ofString "w") = Zq 16 d :=
 ZX (n := 16) (P := fun d => decide (d < 8) = false → Zb (Zb (Str.ofString "r") (Zs d)) (Str.ofString "w") = Zq 16 d) (by decide +kernel) h0 h1 g
theorem Zlz (h0 : 0 ≤ d) (h1 : d < 16) : Zf (Str.ofString "r") + Zf (Zs d) ≤ 16777216 ∧ Zf (Zb (Str.ofString "r") (Zs d)) + 1 ≤ 16777216 := by
 have a := ZaT h0 h1
 have b : Zf (Str.ofString "r") = 1 := by decide +kernel
 rw [Zk]; omega
theorem ZlX (h0 : 0 ≤ d) (h1 : d < 16) (h : K .next (Zda a c d) []) : Z0 (pgL a) (ev (pgL a) 140) 140 (fiL c) (stL 3) (JV a c d) [] K X := by
 have hl := Zlz h0 h1
 refine Zj rfl ?_
 refine ZC (fun g => ?_) (fun g => ?_)
 ·refine Zj rfl ?_
  exact Yi (ZdH h0 (of_decide_eq_true g)) (ZlB rfl h)
 ·refine Zj rfl ?_
  refine Zm (by omega) ?_
  refine Za (Zc hl.1) ?_
  refine Za (Zc hl.2) ?_
  exact ZlB (hi8 h0 h1 g) h
theorem ZlW (h0 : 0 ≤ d) (h1 : d < 16) (h : K .next (JU a c d) []) : Z0 (pgL a) (ev (pgL a) 140) 140 (fiL c) (stL 4) (Zda a c d) [] K X := by
 have hl := Zlz h0 h1
 refine Zj rfl ?_
 refine ZC (fun g => ?_) (fun g => ?_)
 ·refine Zj rfl ?_
  exact Yi (Zbs h0 (of_decide_eq_true g)) (ZlA rfl h)
 ·refine Zj rfl ?_
  refine Zm (by omega) ?_
  refine Za (Zc hl.1) ?_
  refine Za (Zc hl.2) ?_
  exact ZlA (ZnD h0 h1 g) h
theorem Zab {s : Int} (hs : s = 8 ∨ s = 16 ∨ s = 32 ∨ s = 64) (h0 : 0 ≤ d) (h1 : d < 16) : sOk (Zq s d) = true := by
 obtain rfl | rfl | rfl | rfl := hs
 ·exact ZX (n := 16) (P := fun d => sOk (Zq 8 d) = true) (by decide +kernel) h0 h1
 ·exact ZX (n := 16) (P := fun d => sOk (Zq 16 d) = true) (by decide +kernel) h0 h1
 ·exact ZX (n := 16) (P := fun d => sOk (Zq 32 d) = true) (by decide +kernel) h0 h1
 ·exact ZX (n := 16) (P := fun d => sOk (Zq 64 d) = true) (by decide +kernel) h0 h1
theorem Zdu (h0 : 0 ≤ d) (h1 : d < 16) : Xb [.str (Zq 8 d), .str (Zq 16 d), .str (Zq 32 d), .str (Zq 64 d)] = some [.st (Zq 8 d), .st (Zq 16 d), .st (Zq 32 d), .st (Zq 64 d)] := by
 simp only [Xb, dOf, Zab (s := 8) (.inl rfl) h0 h1, Zab (s := 16) (.inr (.inl rfl)) h0 h1, Zab (s := 32) (.inr (.inr (.inl rfl))) h0 h1, Zab (s := 64) (.inr (.inr (.inr rfl))) h0 h1]
theorem ZhO (ds : List D) : Yl true (Gn ds ds) = false := by rw [Uz]; rfl
set_option smartUnfolding false in
theorem ZlV (h0 : 0 ≤ d) (h1 : d < 16) (h : ∀ σ, K .next (JU a c d) σ) : Z0 (pgL a) (ev (pgL a) 140) 140 (fiL c) (stL 5) (JU a c d) [] K X := by
 refine Zj rfl ?_
 refine Xu h0 h1 (.inl rfl) ?_
 refine Zj rfl ?_
 refine Xu h0 h1 (.inr (.inl rfl)) ?_
 refine Zj rfl ?_
 refine Xu h0 h1 (.inr (.inr (.inl rfl))) ?_
 refine Zj rfl ?_
 refine Xu h0 h1 (.inr (.inr (.inr rfl))) ?_
 refine Zj rfl ?_
 refine Yi (GX h0 h1) ?_
 refine Zj rfl ?_
 refine Yi (Xq h0 h1) ?_
 refine Jn (Zdu h0 h1) (Zdu h0 h1) ?_
 refine Zd (ZhO _) ?_
 exact h _
theorem ZlU {σ : Led} (h : ∀ loc σ, K (.ret (.bool true)) loc σ) : Z0 (pgL a) (ev (pgL a) 140) 140 (fiL c) (stL 6) (JU a c d) σ K X := by
 refine Zlq ?_
 exact h _ _
end
section
variable {prog : Program} {w : World} {B₀ : Heap} {outs : List Env} {L : Addr} {loc : Loc} {Λ Λ' : Lay} {σ : List AO} {ρ : List Addr} {h h' : Heap}
theorem Cx.mono {A : Around} {env : Env} {fi : FI} {n m : Nat} (C : Cx B₀ A env outs L fi n) (l : m ≤ n) : Cx B₀ A env outs L fi m :=
 { C with depth := by have := C.depth; omega, units := by have := C.units; omega }
noncomputable def Lay.veil (Λ : Lay) (h : Heap) : Lay := fun a => match Λ a with
 | .led k => (match h.get? a with | some o => .hid o | none => .free)
 | t => t
noncomputable def Vd (ρ : List Addr) (v : AV) : AV := match v with
 | .ref k => (match ρ[k]? with | some a => .old a | none => v)
 | v => v
noncomputable def Gp (ρ : List Addr) (l : Loc) : Loc := l.map fun p => (p.1, Vd ρ p.2)
theorem Zax {k : Nat} {a : Addr} (e : Λ a = .led k) : Λ.veil h a = (match h.get? a with | some o => .hid o | none => .free) := by
 unfold Lay.veil; rw [e]
theorem X5 {a : Addr} (e : ∀ k, Λ a ≠ .led k) : Λ.veil h a = Λ a := by
 delta Lay.veil
 cases q : Λ a with
 | led k => exact (e k q).elim
 | _ => rfl
theorem Xp : Z2 Λ (Λ.veil h) := ⟨fun a o e => by rw [X5 (by rw [e]; exact nofun)]; exact e, fun a e => by rw [X5 (by rw [e]; exact nofun)]; exact e⟩
theorem Vl (x : Str) : ∀ l : Loc, (Gp ρ l).lookup x = (l.lookup x).map (Vd ρ)
 | [] => rfl
 | p :: l => by
  show ((p.1, Vd ρ p.2) :: Gp ρ l).lookup x = _
  rw [List.lookup_cons, List.lookup_cons]
  cases x == p.1 with
  | true => rfl
  | false => exact Vl x l
theorem ZeX (R : Rep0 prog w B₀ Λ σ ρ h) (a : Addr) : Ud h (Λ.veil h) a (Λ.veil h a) := by
 have H := R.tag a
 generalize q : Λ a = zz at H ⊢
 cases zz with
 | led k =>
  rw [Zax q]
  generalize g : h.get? a = zz at *
  cases zz with
  | none => trivial
  | some o => exact g
 | _ =>
  rw [X5 (by rw [q]; exact nofun), q]
  exact H.grow (fun _ e => e) fun c e => by rw [X5 (by rw [e]; exact nofun)]; exact e
theorem ZbD {ρ : List Addr} {a : AV} {v : Value} (h : VT prog w Λ a v) : Vd ρ a = a := by
 cases (h) <;> rfl
theorem Zeb {a : AV} (h : Ym a = false) : ∃ k, a = .ref k := by
 cases a <;> first | exact ⟨_, rfl⟩ | exact xT h
theorem Zaz {ρ : List Addr} {a : AV} (h : Ym a = true) : Vd ρ a = a := by
 cases a <;> first | rfl | exact xF h
theorem Yp.veil {m : Str → Option Value} (l : Yp prog w Λ ρ loc m) : Yp prog w (Λ.veil h) [] (Gp ρ loc) m := fun x => by
 have := l x
 rw [Vl]
 generalize loc.lookup x = zz at this ⊢
 cases zz with
 | none => trivial
 | some a =>
  show (∃ v, m x = some v ∧ VR prog w (Λ.veil h) [] (Vd ρ a) v) ∨ ∃ c u o y, Vd ρ a = .cel c u ∧ _
  obtain ⟨v, h1, h2 | ⟨k, b, rfl, rfl, h3⟩⟩ | ⟨c, u, o, y, rfl, h2, h3, h4⟩ := this
  ·refine .inl ⟨v, h1, .inl ?_⟩
   rw [ZbD h2]; exact h2.mono Xp
  ·refine .inl ⟨_, h1, .inl ?_⟩
   show VT prog w _ (match ρ[k]? with | some a => .old a | none => _) _
   rw [h3]; exact .old b
  ·exact .inr ⟨c, u, o, y, rfl, Xp.frz _ _ h2, h3, h4.mono Xp⟩
theorem Rep.veil (R : Rep prog w B₀ outs L loc Λ σ ρ h) : Rep prog w B₀ outs L (Gp ρ loc) (Λ.veil h) [] [] h where
 b0 := fun a o e => Xp.frz _ _ (R.b0 a o e)
 tag := ZeX R.toRep0
 len := rfl
 led := fun k ao e => by exact xN e
 z0 := R.z0
 sm := R.sm
 cur := by rw [X5 (by rw [R.cur]; exact nofun)]; exact R.cur
 ns := let ⟨m, n, l⟩ := R.ns; ⟨m, n, l.veil⟩
 lA := R.lA
 out := fun env he => by
  obtain ⟨k, L', o, e1, e2, e3⟩ := R.out env he
  exact ⟨k, L', o, e1, by rw [X5 (by rw [e2]; exact nofun)]; exact e2, e3⟩
noncomputable def Lay.unveil (Λ Λ' : Lay) (h : Heap) : Lay := fun a => match Λ a with
 | .led k => (match h.get? a with | some _ => .led k | none => (match Λ' a with | .led _ => .free | t => t))
 | _ => (match Λ' a with | .led _ => .free | t => t)
theorem Jm {k : Nat} {a : Addr} {o : Obj} (e : Λ a = .led k) (g : h.get? a = some o) : Λ.unveil Λ' h a = .led k := by
 delta Lay.unveil; rw [e, g]
theorem Ug {a : Addr} (e : (∀ k, Λ a ≠ .led k) ∨ h.get? a = none) (e' : ∀ k, Λ' a ≠ .led k) : Λ.unveil Λ' h a = Λ' a := by
 have key : (match Λ' a with | .led _ => Tag.free | t => t) = Λ' a := by
  cases q : Λ' a with
  | led k => exact (e' k q).elim
  | _ => rfl
 delta Lay.unveil
 cases q : Λ a with
 | led k =>
  obtain e | e := e
  ·exact (e k q).elim
  ·simp only [e, key]
 | _ => exact key
theorem ZaA {a : Addr} {k : Nat} (e : (∀ k, Λ a ≠ .led k) ∨ h.get? a = none) (e' : Λ' a = .led k) : Λ.unveil Λ' h a = .free := by
 delta Lay.unveil
 cases q : Λ a with
 | led j =>
  obtain e | e := e
  ·exact (e j q).elim
  ·simp only [e, e']
 | _ => simp only [e']
theorem Zay (l : (Λ.veil h).le Λ') {k : Nat} {a : Addr} {o : Obj} (e : Λ a = .led k) (g : h.get? a = some o) : Λ' a = .hid o := by
 refine l.hid ?_
 rw [Zax e, g]
theorem YL (l : (Λ.veil h).le Λ') {a : Addr} {t : Tag} (e : Λ' a = t) (n1 : ∀ o, t ≠ .hid o) (n2 : ∀ k, t ≠ .led k) : Λ.unveil Λ' h a = t := by
 rw [Ug ?_ (by rw [e]; exact n2), e]
 cases g : h.get? a with
 | none => exact .inr rfl
 | some o =>
  left; intro k q
  have := Zay l q g
  rw [e] at this
  exact n1 o this
theorem Y7 (l : (Λ.veil h).le Λ') : Z2 Λ' (Λ.unveil Λ' h) := ⟨fun a o e => YL (t := .frz o) l e (by intro o q; (exfalso; cases q)) (by intro k q; (exfalso; cases q)), fun a e => YL (t := .pen) l e (by intro o q; (exfalso; cases q)) (by intro k q; (exfalso; cases q))⟩
theorem YW (l : (Λ.veil h).le Λ') : Λ.le (Λ.unveil Λ' h) := fun a => by
 generalize q : Λ a = zz at *
 cases zz with
 | led k => exact .inr (.inr ⟨k, rfl⟩)
 | free => exact .inr (.inl rfl)
 | _ =>
  left
  have e : Λ.veil h a = Λ a := X5 (by rw [q]; exact nofun)
  obtain z | z | ⟨k, z⟩ := l a
  ·rw [Ug (.inl (by rw [q]; exact nofun)) (by rw [z, e, q]; exact nofun), z, e, q]
  ·rw [e, q] at z; (exfalso; cases z)
  ·rw [e, q] at z; (exfalso; cases z)
theorem Yp.unveil {m m₀ : Str → Option Value} {ρ' : List Addr} (l₀ : Yp prog w Λ ρ loc m₀) (s1 : Z2 Λ' (Λ.unveil Λ' h)) (l : Yp prog w Λ' ρ' (Gp ρ loc) m) : Yp prog w (Λ.unveil Λ' h) ρ loc m := fun x => by
 have H := l x
 have H₀ := l₀ x
 rw [Vl] at H
 generalize loc.lookup x = zz at H H₀ ⊢
 cases zz with
 | none => trivial
 | some a =>
  change (∃ v, m x = some v ∧ VR prog w Λ' ρ' (Vd ρ a) v) ∨ ∃ c u o y, Vd ρ a = .cel c u ∧ Λ' c = .frz o ∧ o.data = .cell (some y) ∧ VT prog w Λ' u y at H
  generalize hn : Ym a = zz at *
  cases zz with
  | false =>
   obtain ⟨k, rfl⟩ := Zeb hn
   obtain ⟨v₀, _, h2 | ⟨k', b, e1, _, e3⟩⟩ | ⟨c, u, _, _, e, _⟩ := H₀
   ·exact VT.noref h2
   ·cases e1
    have hv : Vd ρ (.ref k) = .old b := by show (match ρ[k]? with | some a => AV.old a | none => _) = _; rw [e3]
    rw [hv] at H
    try clear a; try clear hv; try clear e1; try clear k'; try clear h2; try clear v₀; try clear H₀; try clear x; try clear l; try clear s1; try clear l₀; try clear ρ'; try clear m₀; try clear m
    obtain ⟨v, g1, g2⟩ | ⟨c, u, _, _, e, _⟩ := H
    ·have := g2.old_
     subst this
     exact .inl ⟨_, g1, .inr ⟨k, b, rfl, rfl, e3⟩⟩
    ·(exfalso; cases e)
   ·(exfalso; cases e)
  | true =>
   rw [Zaz hn] at H
   obtain ⟨v, g1, g2⟩ | ⟨c, u, o, y, e, g1, g2, g3⟩ := H
   ·exact .inl ⟨v, g1, .inl ((VR.tree hn g2).mono s1)⟩
   ·exact .inr ⟨c, u, o, y, e, s1.frz _ _ g1, g2, g3.mono s1⟩
theorem Rep.unveil (R : Rep prog w B₀ outs L loc Λ σ ρ h) {σ' : List AO} {ρ' : List Addr} (l : (Λ.veil h).le Λ') (R' : Rep prog w B₀ outs L (Gp ρ loc) Λ' σ' ρ' h') : Rep prog w B₀ outs L loc (Λ.unveil Λ' h) σ ρ h' where
 b0 := fun a o e => (YW l).frz (R.b0 a o e)
 tag := fun a => by
  have H := R'.tag a
  by_cases c : (∀ k, Λ a ≠ .led k) ∨ h.get? a = none
  ·generalize q : Λ' a = zz at H ⊢
   cases zz with
   | led k => rw [ZaA c q]; trivial
   | _ =>
    rw [Ug c (by rw [q]; exact nofun), q]
    exact H.grow (fun _ e => e) fun b e => YL (t := .penq) l e (by intro o q; (exfalso; cases q)) (by intro k q; (exfalso; cases q))
  ·have c1 : ∃ k, Λ a = .led k := Classical.byContradiction fun z => c (.inl fun k e => z ⟨k, e⟩)
   obtain ⟨k, e⟩ := c1
   cases g : h.get? a with
   | none => exact (c (.inr g)).elim
   | some o => rw [Jm e g]; trivial
 len := R.len
 led := fun k ao e => by
  have H := R.led k ao e
  have le := (YW l).sees
  cases ao with
  | ali v => obtain ⟨a, h1, h2⟩ := H; exact ⟨a, h1, h2.mono le⟩
  | dead => trivial
  | _ =>
   obtain ⟨a, o, h1, h2, h3, h4⟩ := H
   refine ⟨a, o, h1, Jm h2 h3, ?_, h4.mono le⟩
   have := R'.tag a
   rw [Zay l h2 h3] at this
   exact this
 z0 := R.z0
 sm := R.sm
 cur := YL (t := .cur) l R'.cur (by intro o q; (exfalso; cases q)) (by intro k q; (exfalso; cases q))
 ns := by
  obtain ⟨m₀, _, l₀⟩ := R.ns
  obtain ⟨m, n, l1⟩ := R'.ns
  exact ⟨m, n, l₀.unveil (Y7 l) l1⟩
 lA := R.lA
 out := fun env he => by
  obtain ⟨k, L', o, e1, e2, e3⟩ := R.out env he
  exact ⟨k, L', o, e1, (YW l).frm e2, e3⟩
theorem Zav.unveil {now : Bool} {x : AX} {e : Addr} (l : (Λ.veil h).le Λ') (H : Zav prog w Λ' h' L now x e) : Zav prog w (Λ.unveil Λ' h) h' L now x e := by
 obtain ⟨oe, vs, a1, a2, a3, a4, ⟨d, od, kvs, v, b1, b2, b3, b4, b5, b6⟩, a6⟩ := H
 have s := Y7 l
 refine ⟨oe, vs, a1, YL (t := .free) l a2 (by intro o q; (exfalso; cases q)) (by intro k q; (exfalso; cases q)), a3, a4, ⟨d, od, kvs, v, b1, b2, s.frz _ _ b3, b4, b5, b6.mono s⟩, ?_⟩
 obtain c | ⟨T, oT, ts, fl, c1, c2, c3⟩ := a6
 ·exact .inl c
 ·exact .inr ⟨T, oT, ts, fl, c1, YL (t := .free) l c2 (by intro o q; (exfalso; cases q)) (by intro k q; (exfalso; cases q)), c3⟩
theorem Zg4 {es : List (Str × AV)} {kvs : List (Str × Value)} : ∀ {m : List (Str × Str)}, G2 es = some m → KVs prog w Λ es kvs → SSs m kvs := by
 induction es generalizing kvs with
 | nil => intro m e g; (replace e := xI e; cases e); cases g; rfl
 | cons p l ih =>
  intro m e g
  unfold G2 at e
  obtain ⟨k, v⟩ := p
  cases v with
  | str x =>
   generalize q : G2 l = zz at e ⊢
   cases zz with
   | none => exact xN e
   | some m' =>
    (replace e := xI e; cases e)
    obtain ⟨_, _, rfl, h1, h2⟩ := g.uncons
    (refine Exists.elim (VT.str_ h1) ?_; clear h1; intro t hh; subst hh)
    exact ⟨_, _, rfl, ih q h2⟩
  | _ => exact xN e
theorem Zgj {v u : AV} {x : Value} (e : fz σ v = some u) (R : Rep prog w B₀ outs L loc Λ σ ρ h) (V : VR prog w Λ ρ v x) : ∃ Λ' σ', Λ.le Λ' ∧ Rep prog w B₀ outs L loc Λ' σ' ρ h ∧ VT prog w Λ' u x := by
 have plain : Ym v = true → v = u → ∃ Λ' σ', Λ.le Λ' ∧ Rep prog w B₀ outs L loc Λ' σ' ρ h ∧ VT prog w Λ' u x := fun n e => by
  subst e
  exact ⟨Λ, σ, Lay.le.refl _, R, V.tree n⟩
 delta fz at e
 cases v with
 | ref k =>
  obtain ⟨a, rfl, e2⟩ := V.ref_
  dsimp only at e
  generalize hk : σ[k]? = zz at e ⊢
  cases zz with
  | none => exact xN e
  | some o =>
   have H := R.led k o hk
   have sm : ∀ b k', Λ b = .led k' → (b == sysModules) = false := fun b k' z => by
    refine beq_eq_false_iff_ne.mpr fun y => ?_
    obtain ⟨o', ho⟩ := R.sm
    have := R.b0 _ _ ho
    rw [← y, z] at this; (exfalso; cases this)
   cases o with
   | lst us =>
    (replace e := xI e; cases e)
    obtain ⟨c, ob, h1, h2, h3, ws, m, h4, rfl⟩ := H
    rw [e2] at h1; (replace h1 := xI h1; cases h1)
    have le : Λ.le (Λ.up a (.frz (Zn ws m))) := Lay.le_up _ (.inr ⟨k, h2⟩)
    have V' : VT prog w (Λ.up a (.frz (Zn ws m))) (.lst us) (.ref a) := .lst (Lay.up_self ..) (h4.mono le.sees)
    exact ⟨_, _, le, R.freeze e2 h2 h3 V', V'⟩
   | ali u' =>
    (replace e := xI e; cases e)
    obtain ⟨c, h1, h2⟩ := H
    rw [e2] at h1; (replace h1 := xI h1; cases h1)
    exact ⟨Λ, σ, Lay.le.refl _, R, h2⟩
   | dsv es =>
    dsimp only at e
    generalize q : G2 es = zz at e ⊢
    cases zz with
    | none => exact xN e
    | some m =>
     (replace e := xI e; cases e)
     obtain ⟨c, ob, h1, h2, h3, kvs, h4, h5⟩ := H
     rw [e2] at h1; (replace h1 := xI h1; cases h1)
     have le : Λ.le (Λ.up a (.frz ob)) := Lay.le_up _ (.inr ⟨k, h2⟩)
     have V' : VT prog w (Λ.up a (.frz ob)) (.dss m) (.ref a) := .dss (sm _ _ h2) (Lay.up_self ..) ⟨kvs, Zg4 q h4, h5⟩
     exact ⟨_, _, le, R.freeze e2 h2 h3 V', V'⟩
   | dmk es =>
    (replace e := xI e; cases e)
    obtain ⟨c, ob, h1, h2, h3, h5⟩ := H
    rw [e2] at h1; (replace h1 := xI h1; cases h1)
    have le : Λ.le (Λ.up a (.frz ob)) := Lay.le_up _ (.inr ⟨k, h2⟩)
    have V' : VT prog w (Λ.up a (.frz ob)) (.dmk es) (.ref a) := .dmk (sm _ _ h2) (Lay.up_self ..) (h5.mono le.sees)
    exact ⟨_, _, le, R.freeze e2 h2 h3 V', V'⟩
   | _ => exact xN e
 | _ => exact plain rfl (Option.some.inj e)
theorem ZgJ {pg : Pg} {N a : Nat} {c : Ct} (S : Snd prog w B₀ pg N) (H : Xe pg N a c) {A : Around} {env : Env} {fi : FI} {n : Nat} {E : Value → Shared → Prop} {Q : Value → Shared → Prop} {s : Shared} {args : List AV} {xs : List Value} {K : KE} {X : KC}
  (C : Cx B₀ A env outs L fi n) (hN : N ≤ n) (hc : fi.calm = true) (h : c args (fun v => K v σ) (fun x => X x σ)) (R : Rep prog w B₀ outs L loc Λ σ ρ s.heap) (V : VTs prog w Λ args xs) (P : PE prog w B₀ outs L loc Λ ρ K Q s) (PX : PX prog w B₀ outs L loc Λ ρ X E s) :
  wpAny (model prog w) A (call (.ref a) xs) Q E s := by
 have h' := H _ _ _ h
 have C' := C.mono hN
 refine S.C C' (by rw [hc]; exact h') R.veil (V.mono Xp).vrs (fun v σ' Λ' ρ' x h₁ tk k l p R' V' => ?_) (fun x σ' Λ' ρ' e h₁ tk k l p R' H' => ?_)
 ·obtain ⟨u, e, hu⟩ := Zo k.ok
  obtain ⟨Λ₂, σ₂, l₂, R₂, T⟩ := Zgj e R' V'
  have l3 := l.trans l₂
  exact P u σ (Λ.unveil Λ₂ s.heap) ρ x h₁ tk hu (YW l3) (List.prefix_refl _) (R.unveil l3 R₂) (.inl (T.mono (Y7 l3)))
 ·exact PX x σ (Λ.unveil Λ' s.heap) ρ e h₁ tk k (YW l) (List.prefix_refl _) (R.unveil l R') (H'.unveil l)
end
structure ZS (K : Frag) (a : Nat) (f : Yv) (o : Obj) (fd : FuncData) : Prop where
 at_ : K.lookup a = some o
 dat : o.data = .func fd
 body : fd.body = .stmts f.body
 names : fd.scope.names = f.names
 kind : fd.scope.kind = .function
 co : fd.scope.isCoroutine = false
 gen : fd.scope.isGenerator = false
 nocell : (fd.scope.names.all fun x => !Wn x.2) = true
 glob : fd.globals = mainGlobals
 bi : fd.builtins = builtinsNs
 code : codeIn K fd.code fd.qualname = true
section
variable {prog : Program} {w : World} {B₀ : Heap} {K : Frag} {a : Nat} {o : Obj} {fd : FuncData} {f : Yv}
theorem ZS.ok (H : ZS K a f o fd) (X : K.In B₀)
  (hb : ∀ args loc xs, f.bind args = some loc → xs.length = args.length → ∃ binds, (∀ s : Shared, B₀.StaysIn s.heap → BindsTo s fd ⟨xs, []⟩ binds) ∧ (∀ y ∈ binds, fd.scope.names.lookup y.1 = some .local) ∧
   ∀ Λ ρ, (∀ a o, B₀.get? a = some o → Λ a = .frz o) → VRs prog w Λ ρ args xs → Yp prog w Λ ρ loc (fun y => binds.reverse.lookup y)) : ZZ prog w B₀ a f :=
 ⟨⟨o, fd, X _ _ H.at_, H.dat, H.body, H.names, H.kind, H.co, H.gen, (fun x hx e => by
  have := List.all_eq_true.mp H.nocell x hx
  rw [e] at this; exact xF this), H.glob, H.bi, codeRec_of X H.code, hb⟩⟩
theorem Y9 {Λ : Lay} {ρ : List Addr} {m : Str → Option Value} : Yp prog w Λ ρ [] m := fun x => trivial
theorem Yp.cons {Λ : Lay} {ρ : List Addr} {loc : Loc} {m : Str → Option Value} {n : Str} {v : AV} {x : Value} (l : Yp prog w Λ ρ loc m) (h : m n = some x) (V : VR prog w Λ ρ v x) : Yp prog w Λ ρ ((n, v) :: loc) m := fun y => by
 rw [List.lookup_cons]
 cases q : y == n with
 | true =>
  have := eq_of_beq q
  subst this
  exact .inl ⟨x, h, V⟩
 | false => exact l y
theorem VRs.three {Λ : Lay} {ρ : List Addr} {v u t : AV} {xs : List Value} (h : VRs prog w Λ ρ [v, u, t] xs) : ∃ x y z, xs = [x, y, z] ∧ VR prog w Λ ρ v x ∧ VR prog w Λ ρ u y ∧ VR prog w Λ ρ t z := by
 obtain ⟨_, _, rfl, h, g⟩ := h.uncons
 obtain ⟨y, z, rfl, h1, h2⟩ := g.two
 exact ⟨_, y, z, rfl, h, h1, h2⟩
noncomputable def Zw (fd : FuncData) (n : Str) : Bool := match fd.scope.names.lookup n with | some k => Ys k | none => false
theorem Zf4 {n : Str} (h : Zw fd n = true) : fd.scope.names.lookup n = some .local := by
 delta Zw at h
 cases q : fd.scope.names.lookup n with
 | none => rw [q] at h; exact xF h
 | some k =>
  rw [q] at h
  cases k <;> first | rfl | exact xF h
theorem Ub {binds : List (Str × Value)} (h : (binds.all fun y => Zw fd y.1) = true) : ∀ y ∈ binds, fd.scope.names.lookup y.1 = some .local := fun y hy => Zf4 (List.all_eq_true.mp h y hy)
theorem bl0 {args : List AV} {loc : Loc} (e : bindL [] args = some loc) : args = [] ∧ loc = [] := by
 cases args with
 | nil => exact ⟨rfl, (xI e).symm⟩
 | cons _ _ => exact xN e
theorem bl1 {n : Str} {ps : List (Str × Option AV)} {args : List AV} {loc : Loc} (e : bindL ((n, none) :: ps) args = some loc) : ∃ v vs l, args = v :: vs ∧ bindL ps vs = some l ∧ loc = (n, v) :: l := by
 cases args with
 | nil => exact xN e
 | cons v vs =>
  change (match bindL ps vs with | some l => some ((n, v) :: l) | none => none) = some loc at e
  generalize q : bindL ps vs = zz at e
  cases zz with
  | none => exact xN e
  | some l => exact ⟨v, vs, l, rfl, q, (xI e).symm⟩
theorem blD {n : Str} {dv : AV} {vs : List AV} {l : Loc} (e : bindL [(n, some dv)] vs = some l) : (vs = [] ∧ l = [(n, dv)]) ∨ ∃ u, vs = [u] ∧ l = [(n, u)] := by
 cases vs with
 | nil => exact .inl ⟨rfl, (xI e).symm⟩
 | cons u us =>
  cases us with
  | nil => exact .inr ⟨u, rfl, (xI e).symm⟩
  | cons _ _ => exact xN e
theorem Za5 {n : Nat} {xs : List Value} (h : xs.length = n + 1) : ∃ x l, xs = x :: l ∧ l.length = n := by
 cases xs with
 | nil => cases h
 | cons x l => exact ⟨x, l, rfl, Nat.succ.inj h⟩
theorem Zeg {xs : List Value} (h : xs.length = 0) : xs = [] := List.eq_nil_of_length_eq_zero h
theorem ZS.ok0 {b : List Stmt} {ns : List (Str × NameKind)} (H : ZS K a ⟨b, ns, bindL []⟩ o fd) (X : K.In B₀) (hb : bindArgs fd ⟨[], []⟩ = pure []) : ZZ prog w B₀ a ⟨b, ns, bindL []⟩ := by
 refine H.ok X fun args loc xs e l => ?_
 obtain ⟨rfl, rfl⟩ := bl0 e
 obtain rfl := Zeg l
 exact ⟨[], fun s _ => BindsTo.of_eq hb, nofun, fun Λ ρ _ _ => Y9⟩
theorem ZS.ok1 {b : List Stmt} {ns : List (Str × NameKind)} {n1 : Str} (H : ZS K a ⟨b, ns, bindL [(n1, none)]⟩ o fd) (X : K.In B₀) (hb : ∀ x, bindArgs fd ⟨[x], []⟩ = pure [(n1, x)]) (h1 : Zw fd n1 = true) : ZZ prog w B₀ a ⟨b, ns, bindL [(n1, none)]⟩ := by
 refine H.ok X fun args loc xs e l => ?_
 obtain ⟨v, vs, l', rfl, e, rfl⟩ := bl1 e
 obtain ⟨rfl, rfl⟩ := bl0 e
 obtain ⟨x, xs, rfl, l⟩ := Za5 l
 obtain rfl := Zeg l
 refine ⟨_, fun s _ => BindsTo.of_eq (hb x), Ub (by show (Zw fd n1 && true) = true; rw [h1]; rfl), fun Λ ρ _ V => ?_⟩
 obtain ⟨y, ey, V⟩ := V.one
 cases ey
 exact Y9.cons (by simp [List.lookup_cons]) V
theorem ZS.ok2 {b : List Stmt} {ns : List (Str × NameKind)} {n1 n2 : Str} (H : ZS K a ⟨b, ns, bindL [(n1, none), (n2, none)]⟩ o fd) (X : K.In B₀) (hb : ∀ x y, bindArgs fd ⟨[x, y], []⟩ = pure [(n1, x), (n2, y)]) (h1 : Zw fd n1 = true) (h2 : Zw fd n2 = true) (ne : (n1 == n2) = false) : ZZ prog w B₀ a ⟨b, ns, bindL [(n1, none), (n2, none)]⟩ := by
 refine H.ok X fun args loc xs e l => ?_
 obtain ⟨v, vs, l', rfl, e, rfl⟩ := bl1 e
 obtain ⟨u, us, l2, rfl, e, rfl⟩ := bl1 e
 obtain ⟨rfl, rfl⟩ := bl0 e
 obtain ⟨x, xs, rfl, l⟩ := Za5 l
 obtain ⟨y, ys, rfl, l⟩ := Za5 l
 obtain rfl := Zeg l
 refine ⟨_, fun s _ => BindsTo.of_eq (hb x y), Ub (by show (Zw fd n1 && (Zw fd n2 && true)) = true; rw [h1, h2]; rfl), fun Λ ρ _ V => ?_⟩
 obtain ⟨x', y', ey, V1, V2⟩ := V.two
 cases ey
 refine (Y9.cons ?_ V2).cons ?_ V1
 ·show ([(n2, y), (n1, x)] : List (Str × Value)).lookup n2 = _; simp [List.lookup_cons]
 ·show ([(n2, y), (n1, x)] : List (Str × Value)).lookup n1 = _; simp [List.lookup_cons, ne]
theorem ZS.ok3 {b : List Stmt} {ns : List (Str × NameKind)} {n1 n2 n3 : Str} (H : ZS K a ⟨b, ns, bindL [(n1, none), (n2, none), (n3, none)]⟩ o fd) (X : K.In B₀) (hb : ∀ x y z, bindArgs fd ⟨[x, y, z], []⟩ = pure [(n1, x), (n2, y), (n3, z)])
  (h1 : Zw fd n1 = true) (h2 : Zw fd n2 = true) (h3 : Zw fd n3 = true) (e12 : (n1 == n2) = false) (e13 : (n1 == n3) = false) (e23 : (n2 == n3) = false) : ZZ prog w B₀ a ⟨b, ns, bindL [(n1, none), (n2, none), (n3, none)]⟩ := by
 refine H.ok X fun args loc xs e l => ?_
 obtain ⟨v, vs, l', rfl, e, rfl⟩ := bl1 e
 obtain ⟨u, us, l2, rfl, e, rfl⟩ := bl1 e
 obtain ⟨t, ts, l3, rfl, e, rfl⟩ := bl1 e
 obtain ⟨rfl, rfl⟩ := bl0 e
 obtain ⟨x, xs, rfl, l⟩ := Za5 l
 obtain ⟨y, ys, rfl, l⟩ := Za5 l
 obtain ⟨z, zs, rfl, l⟩ := Za5 l
 obtain rfl := Zeg l
 refine ⟨_, fun s _ => BindsTo.of_eq (hb x y z), Ub (by show (Zw fd n1 && (Zw fd n2 && (Zw fd n3 && true))) = true; rw [h1, h2, h3]; rfl), fun Λ ρ _ V => ?_⟩
 obtain ⟨x', y', z', ey, V1, V2, V3⟩ := V.three
 cases ey
 refine ((Y9.cons ?_ V3).cons ?_ V2).cons ?_ V1
 ·show ([(n3, z), (n2, y), (n1, x)] : List (Str × Value)).lookup n3 = _; simp [List.lookup_cons]
 ·show ([(n3, z), (n2, y), (n1, x)] : List (Str × Value)).lookup n2 = _; simp [List.lookup_cons, e23]
 ·show ([(n3, z), (n2, y), (n1, x)] : List (Str × Value)).lookup n1 = _; simp [List.lookup_cons, e12, e13]
theorem ZS.okD {b : List Stmt} {ns : List (Str × NameKind)} {n1 n2 : Str} {dv : AV} {y0 : Value} {T : Addr} {oT : Obj} (H : ZS K a ⟨b, ns, bindL [(n1, none), (n2, some dv)]⟩ o fd) (X : K.In B₀)
  (hd : fd.defaults = .ref T) (hT : K.lookup T = some oT) (hTd : oT.data = .seq #[y0] 0) (hv : ∀ Λ ρ, VR prog w Λ ρ dv y0)
  (hb1 : ∀ x, ∃ k, bindArgs fd ⟨[x], []⟩ = seqItems? fd.defaults >>= k ∧ k (some #[y0]) = pure [(n1, x), (n2, y0)])
  (hb2 : ∀ x y, ∃ k, bindArgs fd ⟨[x, y], []⟩ = seqItems? fd.defaults >>= k ∧ k (some #[y0]) = pure [(n1, x), (n2, y)]) (h1 : Zw fd n1 = true) (h2 : Zw fd n2 = true) (ne : (n1 == n2) = false) : ZZ prog w B₀ a ⟨b, ns, bindL [(n1, none), (n2, some dv)]⟩ := by
 have loc : ∀ {x y : Value} {v u : AV} {Λ : Lay} {ρ : List Addr}, VR prog w Λ ρ v x → VR prog w Λ ρ u y → Yp prog w Λ ρ [(n1, v), (n2, u)] (fun z => ([(n1, x), (n2, y)] : List (Str × Value)).reverse.lookup z) := fun {x y v u Λ ρ} V1 V2 => by
  refine (Y9.cons ?_ V2).cons ?_ V1
  ·show ([(n2, y), (n1, x)] : List (Str × Value)).lookup n2 = _; simp [List.lookup_cons]
  ·show ([(n2, y), (n1, x)] : List (Str × Value)).lookup n1 = _; simp [List.lookup_cons, ne]
 have al : ∀ x y : Value, ∀ z ∈ [(n1, x), (n2, y)], fd.scope.names.lookup z.1 = some .local := fun x y => Ub (by show (Zw fd n1 && (Zw fd n2 && true)) = true; rw [h1, h2]; rfl)
 refine H.ok X fun args loc' xs e l => ?_
 obtain ⟨v, vs, l', rfl, e, rfl⟩ := bl1 e
 obtain ⟨x, xs, rfl, l⟩ := Za5 l
 obtain ⟨rfl, rfl⟩ | ⟨u, rfl, rfl⟩ := blD e
 ·obtain rfl := Zeg l
  obtain ⟨k, q1, q2⟩ := hb1 x
  refine ⟨_, fun s st => BindsTo.of_defaults hd (st _ _ (X _ _ hT)) hTd q1 q2, al x y0, fun Λ ρ _ V => ?_⟩
  obtain ⟨x', ey, V1⟩ := V.one
  cases ey
  exact loc V1 (hv Λ ρ)
 ·obtain ⟨y, ys, rfl, l⟩ := Za5 l
  obtain rfl := Zeg l
  obtain ⟨k, q1, q2⟩ := hb2 x y
  refine ⟨_, fun s st => BindsTo.of_defaults hd (st _ _ (X _ _ hT)) hTd q1 q2, al x y, fun Λ ρ _ V => ?_⟩
  obtain ⟨x', y', ey, V1, V2⟩ := V.two
  cases ey
  exact loc V1 V2
end
section
variable {w : World} {B₀ : Heap} {prog : Program}
theorem ZlQ (P : Params) : ∃ o fd, ZS (hK P) 61 ⟨(Zi 4 [(Str.ofString "worth", none), (Str.ofString "size", none)]).body, (Zi 4 [(Str.ofString "worth", none), (Str.ofString "size", none)]).names, bindL [(Str.ofString "worth", none), (Str.ofString "size", none)]⟩ o fd ∧ (∀ x0 x1 : Value, bindArgs fd ⟨[x0, x1], []⟩ = pure [(Str.ofString "worth", x0), (Str.ofString "size", x1)]) ∧ Zw fd (Str.ofString "worth") = true ∧ Zw fd (Str.ofString "size") = true := by
 refine ⟨_, _, ⟨rfl, rfl, ?_, ?_, rfl, rfl, rfl, ?_, rfl, rfl, ?_⟩, ?_, ?_, ?_⟩
 ·kernel_rfl
 ·kernel_rfl
 ·kernel_rfl
 ·kernel_rfl
 ·intros; rfl
 ·kernel_rfl
 ·kernel_rfl
theorem ZnF (X : (hK w.params).In B₀) : ZZ prog w B₀ 61 (Zi 4 [(Str.ofString "worth", none), (Str.ofString "size", none)]) := by
 obtain ⟨o, fd, H, hb, h0, h1⟩ := ZlQ w.params
 exact H.ok2 X hb h0 h1 (by decide +kernel)
theorem ZlN (P : Params) : ∃ o fd, ZS (hK P) 96 ⟨(Zi 8 []).body, (Zi 8 []).names, bindL []⟩ o fd ∧ bindArgs fd ⟨[], []⟩ = pure [] := by
 refine ⟨_, _, ⟨rfl, rfl, ?_, ?_, rfl, rfl, rfl, ?_, rfl, rfl, ?_⟩, ?_⟩
 ·kernel_rfl
 ·kernel_rfl
 ·kernel_rfl
 ·kernel_rfl
 ·rfl
theorem ZnE (X : (hK w.params).In B₀) : ZZ prog w B₀ 96 (Zi 8 []) := by
 obtain ⟨o, fd, H, hb⟩ := ZlN w.params
 exact H.ok0 X hb
theorem Zkt (P : Params) : ∃ o fd, ZS (hK P) 103 ⟨(Zi 9 []).body, (Zi 9 []).names, bindL []⟩ o fd ∧ bindArgs fd ⟨[], []⟩ = pure [] := by
 refine ⟨_, _, ⟨rfl, rfl, ?_, ?_, rfl, rfl, rfl, ?_, rfl, rfl, ?_⟩, ?_⟩
 ·kernel_rfl
 ·kernel_rfl
 ·kernel_rfl
 ·kernel_rfl
 ·rfl
theorem Zmk (X : (hK w.params).In B₀) : ZZ prog w B₀ 103 (Zi 9 []) := by
 obtain ⟨o, fd, H, hb⟩ := Zkt w.params
 exact H.ok0 X hb
theorem Zkr (P : Params) : ∃ o fd, ZS (hK P) 118 ⟨(Zi 11 [(Str.ofString "sort", none), (Str.ofString "part", none), (Str.ofString "parts", none)]).body, (Zi 11 [(Str.ofString "sort", none), (Str.ofString "part", none), (Str.ofString "parts", none)]).names, bindL [(Str.ofString "sort", none), (Str.ofString "part", none), (Str.ofString "parts", none)]⟩ o fd ∧ (∀ x0 x1 x2 : Value, bindArgs fd ⟨[x0, x1, x2], []⟩ = pure [(Str.ofString "sort", x0), (Str.ofString "part", x1), (Str.ofString "parts", x2)]) ∧ Zw fd (Str.ofString "sort") = true ∧ Zw fd (Str.ofString "part") = true ∧ Zw fd (Str.ofString "parts") = true := by
 refine ⟨_, _, ⟨rfl, rfl, ?_, ?_, rfl, rfl, rfl, ?_, rfl, rfl, ?_⟩, ?_, ?_, ?_, ?_⟩
 ·kernel_rfl
 ·kernel_rfl
 ·kernel_rfl
 ·kernel_rfl
 ·intros; rfl
 ·kernel_rfl
 ·kernel_rfl
 ·kernel_rfl
theorem Zmi (X : (hK w.params).In B₀) : ZZ prog w B₀ 118 (Zi 11 [(Str.ofString "sort", none), (Str.ofString "part", none), (Str.ofString "parts", none)]) := by
 obtain ⟨o, fd, H, hb, h0, h1, h2⟩ := Zkr w.params
 exact H.ok3 X hb h0 h1 h2 (by decide +kernel) (by decide +kernel) (by decide +kernel)
theorem Zkp (P : Params) : ∃ o fd, ZS (hK P) 133 ⟨(Zi 13 [(Str.ofString "row", none)]).body, (Zi 13 [(Str.ofString "row", none)]).names, bindL [(Str.ofString "row", none)]⟩ o fd ∧ (∀ x0 : Value, bindArgs fd ⟨[x0], []⟩ = pure [(Str.ofString "row", x0)]) ∧ Zw fd (Str.ofString "row") = true := by
 refine ⟨_, _, ⟨rfl, rfl, ?_, ?_, rfl, rfl, rfl, ?_, rfl, rfl, ?_⟩, ?_, ?_⟩
 ·kernel_rfl
 ·kernel_rfl
 ·kernel_rfl
 ·kernel_rfl
 ·intros; rfl
 ·kernel_rfl
theorem Zmg (X : (hK w.params).In B₀) : ZZ prog w B₀ 133 (Zi 13 [(Str.ofString "row", none)]) := by
 obtain ⟨o, fd, H, hb, h0⟩ := Zkp w.params
 exact H.ok1 X hb h0
theorem Zko (P : Params) : ∃ o fd, ZS (hK P) 140 ⟨(Zi 14 [(Str.ofString "row", none)]).body, (Zi 14 [(Str.ofString "row", none)]).names, bindL [(Str.ofString "row", none)]⟩ o fd ∧ (∀ x0 : Value, bindArgs fd ⟨[x0], []⟩ = pure [(Str.ofString "row", x0)]) ∧ Zw fd (Str.ofString "row") = true := by
 refine ⟨_, _, ⟨rfl, rfl, ?_, ?_, rfl, rfl, rfl, ?_, rfl, rfl, ?_⟩, ?_, ?_⟩
 ·kernel_rfl
 ·kernel_rfl
 ·kernel_rfl
 ·kernel_rfl
 ·intros; rfl
 ·kernel_rfl
theorem Zmf (X : (hK w.params).In B₀) : ZZ prog w B₀ 140 (Zi 14 [(Str.ofString "row", none)]) := by
 obtain ⟨o, fd, H, hb, h0⟩ := Zko w.params
 exact H.ok1 X hb h0
theorem Zkn (P : Params) : ∃ o fd, ZS (hK P) 147 ⟨(Zi 15 [(Str.ofString "rows", none)]).body, (Zi 15 [(Str.ofString "rows", none)]).names, bindL [(Str.ofString "rows", none)]⟩ o fd ∧ (∀ x0 : Value, bindArgs fd ⟨[x0], []⟩ = pure [(Str.ofString "rows", x0)]) ∧ Zw fd (Str.ofString "rows") = true := by
 refine ⟨_, _, ⟨rfl, rfl, ?_, ?_, rfl, rfl, rfl, ?_, rfl, rfl, ?_⟩, ?_, ?_⟩
 ·kernel_rfl
 ·kernel_rfl
 ·kernel_rfl
 ·kernel_rfl
 ·intros; rfl
 ·kernel_rfl
theorem Zme (X : (hK w.params).In B₀) : ZZ prog w B₀ 147 (Zi 15 [(Str.ofString "rows", none)]) := by
 obtain ⟨o, fd, H, hb, h0⟩ := Zkn w.params
 exact H.ok1 X hb h0
theorem Zkm (P : Params) : ∃ o fd, ZS (hK P) 154 ⟨(Zi 16 [(Str.ofString "rows", none)]).body, (Zi 16 [(Str.ofString "rows", none)]).names, bindL [(Str.ofString "rows", none)]⟩ o fd ∧ (∀ x0 : Value, bindArgs fd ⟨[x0], []⟩ = pure [(Str.ofString "rows", x0)]) ∧ Zw fd (Str.ofString "rows") = true := by
 refine ⟨_, _, ⟨rfl, rfl, ?_, ?_, rfl, rfl, rfl, ?_, rfl, rfl, ?_⟩, ?_, ?_⟩
 ·kernel_rfl
 ·kernel_rfl
 ·kernel_rfl
 ·kernel_rfl
 ·intros; rfl
 ·kernel_rfl
theorem Zmd (X : (hK w.params).In B₀) : ZZ prog w B₀ 154 (Zi 16 [(Str.ofString "rows", none)]) := by
 obtain ⟨o, fd, H, hb, h0⟩ := Zkm w.params
 exact H.ok1 X hb h0
theorem Zkl (P : Params) : ∃ o fd, ZS (hK P) 161 ⟨(Zi 17 [(Str.ofString "base", none), (Str.ofString "far", none)]).body, (Zi 17 [(Str.ofString "base", none), (Str.ofString "far", none)]).names, bindL [(Str.ofString "base", none), (Str.ofString "far", none)]⟩ o fd ∧ (∀ x0 x1 : Value, bindArgs fd ⟨[x0, x1], []⟩ = pure [(Str.ofString "base", x0), (Str.ofString "far", x1)]) ∧ Zw fd (Str.ofString "base") = true ∧ Zw fd (Str.ofString "far") = true := by
 refine ⟨_, _, ⟨rfl, rfl, ?_, ?_, rfl, rfl, rfl, ?_, rfl, rfl, ?_⟩, ?_, ?_, ?_⟩
 ·kernel_rfl
 ·kernel_rfl
 ·kernel_rfl
 ·kernel_rfl
 ·intros; rfl
 ·kernel_rfl
 ·kernel_rfl
theorem Zmc (X : (hK w.params).In B₀) : ZZ prog w B₀ 161 (Zi 17 [(Str.ofString "base", none), (Str.ofString "far", none)]) := by
 obtain ⟨o, fd, H, hb, h0, h1⟩ := Zkl w.params
 exact H.ok2 X hb h0 h1 (by decide +kernel)
theorem Zkk (P : Params) : ∃ o fd, ZS (hK P) 168 ⟨(Zi 18 [(Str.ofString "row", none)]).body, (Zi 18 [(Str.ofString "row", none)]).names, bindL [(Str.ofString "row", none)]⟩ o fd ∧ (∀ x0 : Value, bindArgs fd ⟨[x0], []⟩ = pure [(Str.ofString "row", x0)]) ∧ Zw fd (Str.ofString "row") = true := by
 refine ⟨_, _, ⟨rfl, rfl, ?_, ?_, rfl, rfl, rfl, ?_, rfl, rfl, ?_⟩, ?_, ?_⟩
 ·kernel_rfl
 ·kernel_rfl
 ·kernel_rfl
 ·kernel_rfl
 ·intros; rfl
 ·kernel_rfl
theorem Zmb (X : (hK w.params).In B₀) : ZZ prog w B₀ 168 (Zi 18 [(Str.ofString "row", none)]) := by
 obtain ⟨o, fd, H, hb, h0⟩ := Zkk w.params
 exact H.ok1 X hb h0
theorem Zkj (P : Params) : ∃ o fd, ZS (hK P) 175 ⟨(Zi 19 [(Str.ofString "kind", none), (Str.ofString "number", none)]).body, (Zi 19 [(Str.ofString "kind", none), (Str.ofString "number", none)]).names, bindL [(Str.ofString "kind", none), (Str.ofString "number", none)]⟩ o fd ∧ (∀ x0 x1 : Value, bindArgs fd ⟨[x0, x1], []⟩ = pure [(Str.ofString "kind", x0), (Str.ofString "number", x1)]) ∧ Zw fd (Str.ofString "kind") = true ∧ Zw fd (Str.ofString "number") = true := by
 refine ⟨_, _, ⟨rfl, rfl, ?_, ?_, rfl, rfl, rfl, ?_, rfl, rfl, ?_⟩, ?_, ?_, ?_⟩
 ·kernel_rfl
 ·kernel_rfl
 ·kernel_rfl
 ·kernel_rfl
 ·intros; rfl
 ·kernel_rfl
 ·kernel_rfl
theorem Zma (X : (hK w.params).In B₀) : ZZ prog w B₀ 175 (Zi 19 [(Str.ofString "kind", none), (Str.ofString "number", none)]) := by
 obtain ⟨o, fd, H, hb, h0, h1⟩ := Zkj w.params
 exact H.ok2 X hb h0 h1 (by decide +kernel)
theorem Zki (P : Params) : ∃ o fd, ZS (hK P) 182 ⟨(Zi 20 [(Str.ofString "row", none)]).body, (Zi 20 [(Str.ofString "row", none)]).names, bindL [(Str.ofString "row", none)]⟩ o fd ∧ (∀ x0 : Value, bindArgs fd ⟨[x0], []⟩ = pure [(Str.ofString "row", x0)]) ∧ Zw fd (Str.ofString "row") = true := by
 refine ⟨_, _, ⟨rfl, rfl, ?_, ?_, rfl, rfl, rfl, ?_, rfl, rfl, ?_⟩, ?_, ?_⟩
 ·kernel_rfl
 ·kernel_rfl
 ·kernel_rfl
 ·kernel_rfl
 ·intros; rfl
 ·kernel_rfl
theorem Zl9 (X : (hK w.params).In B₀) : ZZ prog w B₀ 182 (Zi 20 [(Str.ofString "row", none)]) := by
 obtain ⟨o, fd, H, hb, h0⟩ := Zki w.params
 exact H.ok1 X hb h0
theorem Zkg (P : Params) : ∃ o fd, ZS (hK P) 196 ⟨(Zi 25 [(Str.ofString "pen", none), (Str.ofString "many", none)]).body, (Zi 25 [(Str.ofString "pen", none), (Str.ofString "many", none)]).names, bindL [(Str.ofString "pen", none), (Str.ofString "many", none)]⟩ o fd ∧ (∀ x0 x1 : Value, bindArgs fd ⟨[x0, x1], []⟩ = pure [(Str.ofString "pen", x0), (Str.ofString "many", x1)]) ∧ Zw fd (Str.ofString "pen") = true ∧ Zw fd (Str.ofString "many") = true := by
 refine ⟨_, _, ⟨rfl, rfl, ?_, ?_, rfl, rfl, rfl, ?_, rfl, rfl, ?_⟩, ?_, ?_, ?_⟩
 ·kernel_rfl
 ·kernel_rfl
 ·kernel_rfl
 ·kernel_rfl
 ·intros; rfl
 ·kernel_rfl
 ·kernel_rfl
theorem Zl7 (X : (hK w.params).In B₀) : ZZ prog w B₀ 196 (Zi 25 [(Str.ofString "pen", none), (Str.ofString "many", none)]) := by
 obtain ⟨o, fd, H, hb, h0, h1⟩ := Zkg w.params
 exact H.ok2 X hb h0 h1 (by decide +kernel)
theorem Zkf (P : Params) : ∃ o fd, ZS (hK P) 203 ⟨(Zi 26 [(Str.ofString "pen", none), (Str.ofString "some", none)]).body, (Zi 26 [(Str.ofString "pen", none), (Str.ofString "some", none)]).names, bindL [(Str.ofString "pen", none), (Str.ofString "some", none)]⟩ o fd ∧ (∀ x0 x1 : Value, bindArgs fd ⟨[x0, x1], []⟩ = pure [(Str.ofString "pen", x0), (Str.ofString "some", x1)]) ∧ Zw fd (Str.ofString "pen") = true ∧ Zw fd (Str.ofString "some") = true := by
 refine ⟨_, _, ⟨rfl, rfl, ?_, ?_, rfl, rfl, rfl, ?_, rfl, rfl, ?_⟩, ?_, ?_, ?_⟩
 ·kernel_rfl
 ·kernel_rfl
 ·kernel_rfl
 ·kernel_rfl
 ·intros; rfl
 ·kernel_rfl
 ·kernel_rfl
theorem Zl6 (X : (hK w.params).In B₀) : ZZ prog w B₀ 203 (Zi 26 [(Str.ofString "pen", none), (Str.ofString "some", none)]) := by
 obtain ⟨o, fd, H, hb, h0, h1⟩ := Zkf w.params
 exact H.ok2 X hb h0 h1 (by decide +kernel)
theorem Zke (P : Params) : ∃ o fd, ZS (hK P) 210 ⟨(Zi 27 [(Str.ofString "number", none), (Str.ofString "size", none)]).body, (Zi 27 [(Str.ofString "number", none), (Str.ofString "size", none)]).names, bindL [(Str.ofString "number", none), (Str.ofString "size", none)]⟩ o fd ∧ (∀ x0 x1 : Value, bindArgs fd ⟨[x0, x1], []⟩ = pure [(Str.ofString "number", x0), (Str.ofString "size", x1)]) ∧ Zw fd (Str.ofString "number") = true ∧ Zw fd (Str.ofString "size") = true := by
 refine ⟨_, _, ⟨rfl, rfl, ?_, ?_, rfl, rfl, rfl, ?_, rfl, rfl, ?_⟩, ?_, ?_, ?_⟩
 ·kernel_rfl
 ·kernel_rfl
 ·kernel_rfl
 ·kernel_rfl
 ·intros; rfl
 ·kernel_rfl
 ·kernel_rfl
theorem Zl5 (X : (hK w.params).In B₀) : ZZ prog w B₀ 210 (Zi 27 [(Str.ofString "number", none), (Str.ofString "size", none)]) := by
 obtain ⟨o, fd, H, hb, h0, h1⟩ := Zke w.params
 exact H.ok2 X hb h0 h1 (by decide +kernel)
theorem Zkd (P : Params) : ∃ o fd, ZS (hK P) 217 ⟨(Zi 28 [(Str.ofString "base", none), (Str.ofString "far", none)]).body, (Zi 28 [(Str.ofString "base", none), (Str.ofString "far", none)]).names, bindL [(Str.ofString "base", none), (Str.ofString "far", none)]⟩ o fd ∧ (∀ x0 x1 : Value, bindArgs fd ⟨[x0, x1], []⟩ = pure [(Str.ofString "base", x0), (Str.ofString "far", x1)]) ∧ Zw fd (Str.ofString "base") = true ∧ Zw fd (Str.ofString "far") = true := by
 refine ⟨_, _, ⟨rfl, rfl, ?_, ?_, rfl, rfl, rfl, ?_, rfl, rfl, ?_⟩, ?_, ?_, ?_⟩
 ·kernel_rfl
 ·kernel_rfl
 ·kernel_rfl
 ·kernel_rfl
 ·intros; rfl
 ·kernel_rfl
 ·kernel_rfl
theorem Zl4 (X : (hK w.params).In B₀) : ZZ prog w B₀ 217 (Zi 28 [(Str.ofString "base", none), (Str.ofString "far", none)]) := by
 obtain ⟨o, fd, H, hb, h0, h1⟩ := Zkd w.params
 exact H.ok2 X hb h0 h1 (by decide +kernel)
theorem Zkc (P : Params) : ∃ o fd, ZS (hK P) 224 ⟨(Zi 29 [(Str.ofString "pen", none)]).body, (Zi 29 [(Str.ofString "pen", none)]).names, bindL [(Str.ofString "pen", none)]⟩ o fd ∧ (∀ x0 : Value, bindArgs fd ⟨[x0], []⟩ = pure [(Str.ofString "pen", x0)]) ∧ Zw fd (Str.ofString "pen") = true := by
 refine ⟨_, _, ⟨rfl, rfl, ?_, ?_, rfl, rfl, rfl, ?_, rfl, rfl, ?_⟩, ?_, ?_⟩
 ·kernel_rfl
 ·kernel_rfl
 ·kernel_rfl
 ·kernel_rfl
 ·intros; rfl
 ·kernel_rfl
theorem Zl3 (X : (hK w.params).In B₀) : ZZ prog w B₀ 224 (Zi 29 [(Str.ofString "pen", none)]) := by
 obtain ⟨o, fd, H, hb, h0⟩ := Zkc w.params
 exact H.ok1 X hb h0
theorem Zkb (P : Params) : ∃ o fd, ZS (hK P) 231 ⟨(Zi 30 [(Str.ofString "name", none), (Str.ofString "parts", none)]).body, (Zi 30 [(Str.ofString "name", none), (Str.ofString "parts", none)]).names, bindL [(Str.ofString "name", none), (Str.ofString "parts", none)]⟩ o fd ∧ (∀ x0 x1 : Value, bindArgs fd ⟨[x0, x1], []⟩ = pure [(Str.ofString "name", x0), (Str.ofString "parts", x1)]) ∧ Zw fd (Str.ofString "name") = true ∧ Zw fd (Str.ofString "parts") = true := by
 refine ⟨_, _, ⟨rfl, rfl, ?_, ?_, rfl, rfl, rfl, ?_, rfl, rfl, ?_⟩, ?_, ?_, ?_⟩
 ·kernel_rfl
 ·kernel_rfl
 ·kernel_rfl
 ·kernel_rfl
 ·intros; rfl
 ·kernel_rfl
 ·kernel_rfl
theorem Zl2 (X : (hK w.params).In B₀) : ZZ prog w B₀ 231 (Zi 30 [(Str.ofString "name", none), (Str.ofString "parts", none)]) := by
 obtain ⟨o, fd, H, hb, h0, h1⟩ := Zkb w.params
 exact H.ok2 X hb h0 h1 (by decide +kernel)
theorem Zka (P : Params) : ∃ o fd, ZS (hK P) 238 ⟨(Zi 31 [(Str.ofString "pen", none)]).body, (Zi 31 [(Str.ofString "pen", none)]).names, bindL [(Str.ofString "pen", none)]⟩ o fd ∧ (∀ x0 : Value, bindArgs fd ⟨[x0], []⟩ = pure [(Str.ofString "pen", x0)]) ∧ Zw fd (Str.ofString "pen") = true := by
 refine ⟨_, _, ⟨rfl, rfl, ?_, ?_, rfl, rfl, rfl, ?_, rfl, rfl, ?_⟩, ?_, ?_⟩
 ·kernel_rfl
 ·kernel_rfl
 ·kernel_rfl
 ·kernel_rfl
 ·intros; rfl
 ·kernel_rfl
theorem Zl1 (X : (hK w.params).In B₀) : ZZ prog w B₀ 238 (Zi 31 [(Str.ofString "pen", none)]) := by
 obtain ⟨o, fd, H, hb, h0⟩ := Zka w.params
 exact H.ok1 X hb h0
theorem Zks (P : Params) : ∃ o fd T oT, ZS (hK P) 111 ⟨(Zi 10 [(Str.ofString "number", none), (Str.ofString "size", some (.int 64))]).body, (Zi 10 [(Str.ofString "number", none), (Str.ofString "size", some (.int 64))]).names, bindL [(Str.ofString "number", none), (Str.ofString "size", some (.int 64))]⟩ o fd ∧
  fd.defaults = .ref T ∧ (hK P).lookup T = some oT ∧ oT.data = .seq #[.int 64 309] 0 ∧ (∀ x : Value, ∃ k, bindArgs fd ⟨[x], []⟩ = seqItems? fd.defaults >>= k ∧ k (some #[.int 64 309]) = pure [(Str.ofString "number", x), (Str.ofString "size", .int 64 309)]) ∧
  (∀ x y : Value, ∃ k, bindArgs fd ⟨[x, y], []⟩ = seqItems? fd.defaults >>= k ∧ k (some #[.int 64 309]) = pure [(Str.ofString "number", x), (Str.ofString "size", y)]) ∧ Zw fd (Str.ofString "number") = true ∧ Zw fd (Str.ofString "size") = true := by
 refine ⟨_, _, _, _, ⟨rfl, rfl, ?_, ?_, rfl, rfl, rfl, ?_, rfl, rfl, ?_⟩, rfl, rfl, rfl, ?_, ?_, ?_, ?_⟩
 ·kernel_rfl
 ·kernel_rfl
 ·kernel_rfl
 ·kernel_rfl
 ·intro x; exact ⟨_, rfl, rfl⟩
 ·intro x y; exact ⟨_, rfl, rfl⟩
 ·kernel_rfl
 ·kernel_rfl
theorem Zmj (X : (hK w.params).In B₀) : ZZ prog w B₀ 111 (Zi 10 [(Str.ofString "number", none), (Str.ofString "size", some (.int 64))]) := by
 obtain ⟨o, fd, T, oT, H, hd', hT, hTd, hb1, hb2, h1, h2⟩ := Zks w.params
 exact H.okD X hd' hT hTd (fun _ _ => Jl _ _) hb1 hb2 h1 h2 (by decide +kernel)
theorem Zkq (P : Params) : ∃ o fd T oT, ZS (hK P) 126 ⟨(Zi 12 [(Str.ofString "row", none), (Str.ofString "shapes", some .none)]).body, (Zi 12 [(Str.ofString "row", none), (Str.ofString "shapes", some .none)]).names, bindL [(Str.ofString "row", none), (Str.ofString "shapes", some .none)]⟩ o fd ∧
  fd.defaults = .ref T ∧ (hK P).lookup T = some oT ∧ oT.data = .seq #[.none] 0 ∧ (∀ x : Value, ∃ k, bindArgs fd ⟨[x], []⟩ = seqItems? fd.defaults >>= k ∧ k (some #[.none]) = pure [(Str.ofString "row", x), (Str.ofString "shapes", .none)]) ∧
  (∀ x y : Value, ∃ k, bindArgs fd ⟨[x, y], []⟩ = seqItems? fd.defaults >>= k ∧ k (some #[.none]) = pure [(Str.ofString "row", x), (Str.ofString "shapes", y)]) ∧ Zw fd (Str.ofString "row") = true ∧ Zw fd (Str.ofString "shapes") = true := by
 refine ⟨_, _, _, _, ⟨rfl, rfl, ?_, ?_, rfl, rfl, rfl, ?_, rfl, rfl, ?_⟩, rfl, rfl, rfl, ?_, ?_, ?_, ?_⟩
 ·kernel_rfl
 ·kernel_rfl
 ·kernel_rfl
 ·kernel_rfl
 ·intro x; exact ⟨_, rfl, rfl⟩
 ·intro x y; exact ⟨_, rfl, rfl⟩
 ·kernel_rfl
 ·kernel_rfl
theorem Zmh (X : (hK w.params).In B₀) : ZZ prog w B₀ 126 (Zi 12 [(Str.ofString "row", none), (Str.ofString "shapes", some .none)]) := by
 obtain ⟨o, fd, T, oT, H, hd', hT, hTd, hb1, hb2, h1, h2⟩ := Zkq w.params
 exact H.okD X hd' hT hTd (fun _ _ => ZeW) hb1 hb2 h1 h2 (by decide +kernel)
theorem ZiL {p : Nat × Yv → Prop} : ∀ x ∈ [], p x := nofun
theorem all_cons {p : Nat × Yv → Prop} {a : Nat × Yv} {l : List (Nat × Yv)} (h : p a) (g : ∀ x ∈ l, p x) : ∀ x ∈ a :: l, p x := fun x hx => by
 cases hx with
 | head => exact h
 | tail _ hx => exact g x hx
theorem Zgm (X : (hK w.params).In B₀) : ∀ a f, Zbe a = some f → ZZ prog w B₀ a f := fun a f e =>
 (show ∀ x ∈ Zgn, ZZ prog w B₀ x.1 x.2 from all_cons (p := fun x => ZZ prog w B₀ x.1 x.2) (ZnF X) (all_cons (p := fun x => ZZ prog w B₀ x.1 x.2) (ZnE X) (all_cons (p := fun x => ZZ prog w B₀ x.1 x.2) (Zmk X) (all_cons (p := fun x => ZZ prog w B₀ x.1 x.2) (Zmj X) (all_cons (p := fun x => ZZ prog w B₀ x.1 x.2) (Zmi X) (all_cons (p := fun x => ZZ prog w B₀ x.1 x.2) (Zmh X) (all_cons (p := fun x => ZZ prog w B₀ x.1 x.2) (Zmg X) (all_cons (p := fun x => ZZ prog w B₀ x.1 x.2) (Zmf X) (all_cons (p := fun x => ZZ prog w B₀ x.1 x.2) (Zme X) (all_cons (p := fun x => ZZ prog w B₀ x.1 x.2) (Zmd X) (all_cons (p := fun x => ZZ prog w B₀ x.1 x.2) (Zmc X) (all_cons (p := fun x => ZZ prog w B₀ x.1 x.2) (Zmb X) (all_cons (p := fun x => ZZ prog w B₀ x.1 x.2) (Zma X) (all_cons (p := fun x => ZZ prog w B₀ x.1 x.2) (Zl9 X) (all_cons (p := fun x => ZZ prog w B₀ x.1 x.2) (Zl7 X) (all_cons (p := fun x => ZZ prog w B₀ x.1 x.2) (Zl6 X) (all_cons (p := fun x => ZZ prog w B₀ x.1 x.2) (Zl5 X) (all_cons (p := fun x => ZZ prog w B₀ x.1 x.2) (Zl4 X) (all_cons (p := fun x => ZZ prog w B₀ x.1 x.2) (Zl3 X) (all_cons (p := fun x => ZZ prog w B₀ x.1 x.2) (Zl2 X) (all_cons (p := fun x => ZZ prog w B₀ x.1 x.2) (Zl1 X) (ZiL)))))))))))))))))))))) (a, f) (J8 e)
end
section
variable {prog : Program} {w : World} {B₀ : Heap} {K : Frag} {mb : Str → Option Value}
noncomputable def Zau (prog : Program) (w : World) (B₀ : Heap) (p : Str × AV) : Prop := Ym p.2 = true ∧ ∃ val, (∀ Λ : Lay, (∀ a o, B₀.get? a = some o → Λ a = .frz o) → VT prog w Λ p.2 val) ∧
 ∀ (env : Env) (A : Around) (E : Value → Shared → Prop) (Q : Value → Shared → Prop) (s : Shared), env.globals = mainGlobals → env.builtins = builtinsNs → B₀.StaysIn s.heap → Q val s → wpAny (model prog w) A (loadGlobal env p.1) Q E s
theorem Uu {x : Str} {v : Value} (X : K.In B₀) (e : nsIn K mainGlobals x = some (some v)) {env : Env} {A : Around} {E : Value → Shared → Prop} {Q : Value → Shared → Prop} {s : Shared} (hg : env.globals = mainGlobals) (st : B₀.StaysIn s.heap) (q : Q v s) : wpAny (model prog w) A (loadGlobal env x) Q E s := by
 unfold loadGlobal
 rw [hg]
 exact wpAny_bind (looks_nsIn X e _ _ _ s st (wpAny_pure q))
theorem Zah {x : Str} {v : Value} (X : K.In B₀) (hb : B₀.Ns builtinsNs mb) (e : nsIn K mainGlobals x = some none) (e2 : mb x = some v) {env : Env} {A : Around} {E : Value → Shared → Prop} {Q : Value → Shared → Prop} {s : Shared} (hg : env.globals = mainGlobals) (hbi : env.builtins = builtinsNs)
  (st : B₀.StaysIn s.heap) (q : Q v s) : wpAny (model prog w) A (loadGlobal env x) Q E s := by
 unfold loadGlobal
 rw [hg, hbi]
 refine wpAny_bind (looks_nsIn X e _ _ _ s st ?_)
 exact wpAny_bind (wpAny_nsGet (hb.keeps st) (by rw [e2]; exact wpAny_pure q))
theorem Yt {x : Str} {a : Nat} (X : K.In B₀) (e : nsIn K mainGlobals x = some (some (.ref a))) : Zau prog w B₀ (x, .old a) :=
 ⟨rfl, _, fun Λ _ => .old a, fun env A E Q s hg hb st q => Uu X e hg st q⟩
theorem Zi9 {x : Str} {i : Int} {t : Tok} (X : K.In B₀) (e : nsIn K mainGlobals x = some (some (.int i t))) : Zau prog w B₀ (x, .int i) :=
 ⟨rfl, _, fun Λ _ => .int i t, fun env A E Q s hg hb st q => Uu X e hg st q⟩
theorem Zib {x : Str} {b : BI} (X : K.In B₀) (hb : B₀.Ns builtinsNs mb) (e : nsIn K mainGlobals x = some none) (e2 : mb x = some (.builtin b.nm)) : Zau prog w B₀ (x, .bi b) :=
 ⟨rfl, _, fun Λ _ => .bi b, fun env A E Q s hg hbi st q => Zah X hb e e2 hg hbi st q⟩
theorem Zcl {x : Str} {b : TY} (X : K.In B₀) (hb : B₀.Ns builtinsNs mb) (e : nsIn K mainGlobals x = some none) (e2 : mb x = some (.type b.nm)) : Zau prog w B₀ (x, .ty b) :=
 ⟨rfl, _, fun Λ _ => .ty b, fun env A E Q s hg hbi st q => Zah X hb e e2 hg hbi st q⟩
theorem Zi8 {x : Str} {a : Nat} {vs : List AV} {ws : List Value} (X : K.In B₀) (e : nsIn K mainGlobals x = some (some (.ref a))) (e2 : K.lookup a = some (ZT ws 0)) (g : ∀ Λ, VTs prog w Λ vs ws) : Zau prog w B₀ (x, .tup vs) :=
 ⟨rfl, _, fun Λ b0 => .tup (b0 _ _ (X _ _ e2)) (g Λ), fun env A E Q s hg hb st q => Uu X e hg st q⟩
theorem ZB {p : Str × AV} {l : List (Str × AV)} (h : Zau prog w B₀ p) (g : ∀ q ∈ l, Zau prog w B₀ q) : ∀ q ∈ p :: l, Zau prog w B₀ q := by
 intro q hq
 obtain rfl | hq := List.mem_cons.mp hq
 ·exact h
 ·exact g q hq
end
theorem Jj {prog : Program} {w : World} (Λ : Lay) : VTs prog w Λ ZbC [.str (Str.ofString "rax") 418, .str (Str.ofString "rcx") 419, .str (Str.ofString "rdx") 420, .str (Str.ofString "rbx") 421, .str (Str.ofString "rsp") 422, .str (Str.ofString "rbp") 423, .str (Str.ofString "rsi") 424, .str (Str.ofString "rdi") 425, .str (Str.ofString "r8") 426, .str (Str.ofString "r9") 427, .str (Str.ofString "r10") 428, .str (Str.ofString "r11") 429, .str (Str.ofString "r12") 430, .str (Str.ofString "r13") 431, .str (Str.ofString "r14") 432, .str (Str.ofString "r15") 433] := (.cons (.str _ _) (.cons (.str _ _) (.cons (.str _ _) (.cons (.str _ _) (.cons (.str _ _) (.cons (.str _ _) (.cons (.str _ _) (.cons (.str _ _) (.cons (.str _ _) (.cons (.str _ _) (.cons (.str _ _) (.cons (.str _ _) (.cons (.str _ _) (.cons (.str _ _) (.cons (.str _ _) (.cons (.str _ _) .nil))))))))))))))))
theorem J5 {prog : Program} {w : World} (Λ : Lay) : VTs prog w Λ Zce [.str (Str.ofString "eax") 435, .str (Str.ofString "ecx") 436, .str (Str.ofString "edx") 437, .str (Str.ofString "ebx") 438, .str (Str.ofString "esp") 439, .str (Str.ofString "ebp") 440, .str (Str.ofString "esi") 441, .str (Str.ofString "edi") 442, .str (Str.ofString "r8d") 443, .str (Str.ofString "r9d") 444, .str (Str.ofString "r10d") 445, .str (Str.ofString "r11d") 446, .str (Str.ofString "r12d") 447, .str (Str.ofString "r13d") 448, .str (Str.ofString "r14d") 449, .str (Str.ofString "r15d") 450] := (.cons (.str _ _) (.cons (.str _ _) (.cons (.str _ _) (.cons (.str _ _) (.cons (.str _ _) (.cons (.str _ _) (.cons (.str _ _) (.cons (.str _ _) (.cons (.str _ _) (.cons (.str _ _) (.cons (.str _ _) (.cons (.str _ _) (.cons (.str _ _) (.cons (.str _ _) (.cons (.str _ _) (.cons (.str _ _) .nil))))))))))))))))
theorem Zm4 : bootBuiltins (Str.ofString "len") = some (.builtin "len") ∧ bootBuiltins (Str.ofString "isinstance") = some (.builtin "isinstance") ∧ bootBuiltins (Str.ofString "abs") = some (.builtin "abs") ∧ bootBuiltins (Str.ofString "min") = some (.builtin "min") ∧
  bootBuiltins (Str.ofString "bool") = some (.type "bool") ∧ bootBuiltins (Str.ofString "int") = some (.type "int") ∧ bootBuiltins (Str.ofString "str") = some (.type "str") ∧ bootBuiltins (Str.ofString "tuple") = some (.type "tuple") ∧ bootBuiltins (Str.ofString "range") = some (.type "range") ∧ bootBuiltins (Str.ofString "zip") = some (.type "zip") ∧ bootBuiltins (Str.ofString "enumerate") = some (.type "enumerate") := by
 refine ⟨?_, ?_, ?_, ?_, ?_, ?_, ?_, ?_, ?_, ?_, ?_⟩ <;> kernel_rfl
theorem Zgh {prog : Program} {w : World} {B₀ : Heap} {mb : Str → Option Value} (X : (hK w.params).In B₀) (hb : B₀.Ns builtinsNs mb) (hbb : ∀ x : Str, x ≠ "__name__" → mb x = bootBuiltins x) : ∀ p ∈ Zdl, Zau prog w B₀ p := by
 obtain ⟨b1, b2, b3, b4, b5, b6, b7, b8, b9, b10, b11⟩ := Zm4
 have nn : ∀ x : Str, (x == ("__name__" : Str)) = false → x ≠ "__name__" := fun x h e => by rw [e] at h; simp at h
 refine ZB (Zib X hb (by kernel_rfl) ((hbb _ (nn _ (by decide +kernel))).trans b1)) ?_
 refine ZB (Zib X hb (by kernel_rfl) ((hbb _ (nn _ (by decide +kernel))).trans b2)) ?_
 refine ZB (Zib X hb (by kernel_rfl) ((hbb _ (nn _ (by decide +kernel))).trans b3)) ?_
 refine ZB (Zib X hb (by kernel_rfl) ((hbb _ (nn _ (by decide +kernel))).trans b4)) ?_
 refine ZB (Zcl X hb (by kernel_rfl) ((hbb _ (nn _ (by decide +kernel))).trans b5)) ?_
 refine ZB (Zcl X hb (by kernel_rfl) ((hbb _ (nn _ (by decide +kernel))).trans b6)) ?_
 refine ZB (Zcl X hb (by kernel_rfl) ((hbb _ (nn _ (by decide +kernel))).trans b7)) ?_
 refine ZB (Zcl X hb (by kernel_rfl) ((hbb _ (nn _ (by decide +kernel))).trans b8)) ?_
 refine ZB (Zcl X hb (by kernel_rfl) ((hbb _ (nn _ (by decide +kernel))).trans b9)) ?_
 refine ZB (Zcl X hb (by kernel_rfl) ((hbb _ (nn _ (by decide +kernel))).trans b10)) ?_
 refine ZB (Zcl X hb (by kernel_rfl) ((hbb _ (nn _ (by decide +kernel))).trans b11)) ?_
 refine ZB (Zi9 (t := 189) X (by kernel_rfl)) ?_
 refine ZB (Zi9 (t := 255) X (by kernel_rfl)) ?_
 refine ZB (Zi8 (a := 183) X (by kernel_rfl) rfl (fun Λ => by first | exact Jj Λ | exact Jj)) ?_
 refine ZB (Zi8 (a := 184) X (by kernel_rfl) rfl (fun Λ => by first | exact J5 Λ | exact J5)) ?_
 refine ZB (Yt X (by kernel_rfl)) ?_
 refine ZB (Yt X (by kernel_rfl)) ?_
 refine ZB (Yt X (by kernel_rfl)) ?_
 refine ZB (Yt X (by kernel_rfl)) ?_
 refine ZB (Yt X (by kernel_rfl)) ?_
 refine ZB (Yt X (by kernel_rfl)) ?_
 refine ZB (Yt X (by kernel_rfl)) ?_
 refine ZB (Yt X (by kernel_rfl)) ?_
 refine ZB (Yt X (by kernel_rfl)) ?_
 refine ZB (Yt X (by kernel_rfl)) ?_
 refine ZB (Yt X (by kernel_rfl)) ?_
 refine ZB (Yt X (by kernel_rfl)) ?_
 refine ZB (Yt X (by kernel_rfl)) ?_
 refine ZB (Yt X (by kernel_rfl)) ?_
 refine ZB (Yt X (by kernel_rfl)) ?_
 refine ZB (Yt X (by kernel_rfl)) ?_
 refine ZB (Yt X (by kernel_rfl)) ?_
 refine ZB (Yt X (by kernel_rfl)) ?_
 refine ZB (Yt X (by kernel_rfl)) ?_
 refine ZB (Yt X (by kernel_rfl)) ?_
 refine ZB (Yt X (by kernel_rfl)) ?_
 refine ZB (Yt X (by kernel_rfl)) ?_
 refine ZB (Yt X (by kernel_rfl)) ?_
 refine ZB (Yt X (by kernel_rfl)) ?_
 refine ZB (Yt X (by kernel_rfl)) ?_
 exact fun q hq => by (exfalso; cases hq)
theorem gok {prog : Program} {w : World} {B₀ : Heap} {mb : Str → Option Value} (X : (hK w.params).In B₀) (hb : B₀.Ns builtinsNs mb) (hbb : ∀ x : Str, x ≠ "__name__" → mb x = bootBuiltins x) {pg : Pg} (hpg : pg.glob = Zdl) : GOk prog w B₀ pg := by
 intro x v e
 rw [hpg] at e
 exact Zgh X hb hbb (x, v) (VO e)
section
variable {prog : Program} {w : World} {B₀ : Heap} {outs : List Env} {L : Addr} {loc : List (Str × AV)} {Λ Λ' : Lay} {σ σ' : List AO} {ρ ρ' : List Addr} {A : Around} {E : Value → Shared → Prop} {s : Shared}
theorem MKs.len : ∀ {es : List ((Str × Int) × Int)} {xs}, MKs Λ es xs → xs.length = es.length
 | [], _, h => by cases (h : _ = _); rfl
 | _ :: _, _, h => by obtain ⟨_, _, _, _, _, _, e, _, g⟩ := h; subst e; simp [g.len]
theorem MKs.cons_ {e : (Str × Int) × Int} {es : List ((Str × Int) × Int)} {xs} (h : MKs Λ (e :: es) xs) : ∃ a t r, xs = (YJ e.1, a, .int e.2 t) :: r ∧ MKs Λ es r := by
 obtain ⟨⟨m, i⟩⟩ := e
 obtain ⟨a, n, t, t', t'', r, q, h, g⟩ := h
 exact ⟨a, t, r, q, g⟩
theorem MKs.drop : ∀ {es : List ((Str × Int) × Int)} {xs} (i : Nat), MKs Λ es xs → MKs Λ (es.drop i) (xs.drop i)
 | [], _, i, h => by cases (h : _ = _); simp; exact rfl
 | _ :: _, _, 0, h => h
 | _ :: _, _, i + 1, h => by obtain ⟨a, t, r, rfl, g⟩ := h.cons_; simpa using g.drop i
theorem Jq (p : (Str × Int) × Int) (l es : List ((Str × Int) × Int)) : ZD (p :: l) es = (match Zv p.1 es with | some j => (match decide (p.2 = j) with | true => ZD l es | false => false) | none => false) := rfl
theorem MKs.find {m : Str × Int} : ∀ {es : List ((Str × Int) × Int)} {xs : List (List TK × Addr × Value)}, MKs Λ es xs → (Zv m es = none ∧ ∀ (j : Nat) (p : Addr × Value), xs[j]? ≠ some (YJ m, p)) ∨ ∃ i : Int, Zv m es = some i ∧ ∀ (j : Nat) (p : Addr × Value), (xs.map (·.1)).Nodup → xs[j]? = some (YJ m, p) → ∃ t, p.2 = .int i t
 | [], _, h => by cases (h : _ = _); exact .inl ⟨rfl, fun j p => by simp⟩
 | e :: es, xs, h => by
  obtain ⟨a, t, r, rfl, g⟩ := h.cons_
  rw [Xl, Zb6]
  by_cases q : m = e.1
  ·refine .inr ⟨e.2, by simp [q], fun j p nd hj => ?_⟩
   cases j with
   | zero => simp at hj; exact ⟨t, by rw [← hj.2]⟩
   | succ j =>
    exfalso
    simp only [List.map_cons, List.nodup_cons] at nd
    refine nd.1 ?_
    rw [← q]
    simp only [List.getElem?_cons_succ] at hj
    exact List.mem_map.mpr ⟨_, List.mem_of_getElem? hj, rfl⟩
  ·simp only [q, decide_false]
   obtain ⟨h1, h2⟩ | ⟨i, h1, h2⟩ := g.find (m := m)
   ·refine .inl ⟨h1, fun j p hj => ?_⟩
    cases j with
    | zero =>
     simp only [List.getElem?_cons_zero, Option.some.injEq, Prod.mk.injEq] at hj
     exact q (VV hj.1).symm
    | succ j => exact h2 j p (by simpa using hj)
   ·refine .inr ⟨i, h1, fun j p nd hj => ?_⟩
    cases j with
    | zero =>
     simp only [List.getElem?_cons_zero, Option.some.injEq, Prod.mk.injEq] at hj
     exact (q (VV hj.1).symm).elim
    | succ j =>
     simp only [List.map_cons, List.nodup_cons] at nd
     exact h2 j p nd.2 (by simpa using hj)
theorem JO {knd : HeapKind prog w (List TK)} {nm : String} {a b : Addr} {xa xb : List (List TK × Addr × Value)} {ea eb : List ((Str × Int) × Int)} {Q : Bool → Shared → Prop} (ha : (a == sysModules) = false) (hb : (b == sysModules) = false)
  (da : Heap.DictOfH knd s.heap a xa) (db : Heap.DictOfH knd s.heap b xb) (ma : MKs Λ ea xa) (mb : MKs Λ eb xb) (hu : knd.room A)
  (h : Q (Nat.beq ea.length eb.length && ZD ea eb) s) : wpAny (model prog w) A (Builtin.Dict.samePairs nm a b) Q E s := by
 obtain ⟨oa, es, ep, hoa, _, hda, hka, hia, hna⟩ := da
 obtain ⟨ob, es', ep', hob, _, hdb, hkb, hib, hnb⟩ := db
 have hla : xa.length = es.size := by rw [← Array.length_toList, hka, List.length_map]
 have hlb : xb.length = es'.size := by rw [← Array.length_toList, hkb, List.length_map]
 have la := ma.len
 have lb := mb.len
 unfold Builtin.Dict.samePairs Builtin.Dict.showsAll
 rw [if_neg (show ¬ (a == sysModules) = true by rw [ha]; exact Bool.false_ne_true), if_neg (show ¬ (b == sysModules) = true by rw [hb]; exact Bool.false_ne_true)]
 refine wpAny_bind (wpAny_pure (wpAny_bind (wpAny_pure ?_)))
 refine wpAny_bind (wpAny_dictEntries hoa hda ?_)
 dsimp only
 refine wpAny_bind (wpAny_dictEntries hob hdb ?_)
 by_cases hsz : es.size = es'.size
 case neg =>
  rw [if_pos (by simpa using hsz)]
  have hbf : Nat.beq ea.length eb.length = false := by
   generalize q : Nat.beq ea.length eb.length = zz at *
   cases zz with
   | false => rfl
   | true => exact absurd (Nat.eq_of_beq_eq_true q) fun e => hsz ((hla.symm.trans la).trans (e.trans (lb.symm.trans hlb)))
  rw [hbf, Bool.false_and] at h
  exact wpAny_bind (wpAny_rule (wpAny_pure h))
 case pos =>
  have hbt : Nat.beq ea.length eb.length = true := by rw [show ea.length = eb.length from (la.symm.trans hla).trans (hsz.trans (hlb.symm.trans lb))]; exact Nat.beq_refl _
  rw [hbt, Bool.true_and] at h
  rw [if_neg (by rw [hsz]; simp)]
  refine wpAny_bind (wpAny_dictEpoch hoa hda ?_)
  refine wpAny_bind ?_
  rw [Std.Legacy.Range.forIn_eq_forIn_range']
  refine wpAny_forIn_list _
   (fun rest q s' => s' = s ∧ q = (none, ()) ∧ ∃ i, rest = List.range' i (es.size - i) ∧ i ≤ es.size ∧ ZD (ea.drop i) eb = ZD ea eb)
   _ ?_ ?_ _ _ ⟨rfl, rfl, 0, by simp, Nat.zero_le _, rfl⟩
  ·intro x rest q s' h9; obtain ⟨rfl, rfl, i, hr, hi, hpre⟩ := h9
   have hlt : i < es.size := by
    obtain h | h := Nat.lt_or_ge i es.size
    ·exact h
    ·rw [Nat.sub_eq_zero_of_le h] at hr; simp at hr
   try clear hi; try clear s'; try clear q; try clear hbt; try clear hbf; try clear lb; try clear la; try clear hla; try clear ep'; try clear ob; try clear hna; try clear ep; try clear oa; try clear db; try clear da; try clear hb; try clear ha; try clear Q; try clear xb; try clear b; try clear nm
   obtain ⟨rfl, hrest⟩ : x = i ∧ rest = List.range' (i + 1) (es.size - (i + 1)) := by
    have e : es.size - i = (es.size - (i + 1)) + 1 := (Nat.succ_pred_eq_of_pos (Nat.sub_pos_of_lt hlt)).symm
    rw [e, List.range'_succ] at hr
    injection hr with h1 h2
    exact ⟨h1, h2⟩
   refine wpAny_bind (wpAny_dictEntries hoa hda ?_)
   rw [Array.getElem?_eq_getElem hlt]
   have hlt' : x < ea.length := (la.symm.trans hla) ▸ hlt
   obtain ⟨⟨m, v⟩, hmv⟩ : ∃ y, ea[x] = y := ⟨_, rfl⟩
   have hdrop : ea.drop x = (m, v) :: ea.drop (x + 1) := by rw [← hmv]; exact List.drop_eq_getElem_cons hlt'
   have md := ma.drop x
   rw [hdrop] at md
   obtain ⟨p, t, r, hxd, _⟩ := md.cons_
   have hx : xa[x]? = some (YJ m, p, .int v t) := by
    have : (xa.drop x)[0]? = some (YJ m, p, .int v t) := by rw [hxd]; rfl
    simpa using this
   have hex : es[x] = entryOfKey knd (YJ m, p, .int v t) := by
    have := entry_at hka x
    rw [hx, Array.getElem?_eq_getElem hlt] at this
    exact Option.some.inj this
   rw [hex]
   have hkp := hia _ (List.mem_of_getElem? hx)
   refine wpAny_bind (wpAny_holding (wpAny_bind (wpAny_dictFind_heap (a := p) (k := YJ m) hu hkp hob hdb hkb hib hnb (fun hn => ?_) (fun j p' hj => ?_))))
   ·obtain ⟨h1, _⟩ | ⟨i', h1, h2⟩ := mb.find (m := m)
    ·have er : ZD ea eb = false := by
      rw [← hpre, hdrop]
      rw [Jq, h1]
     replace h := er ▸ h
     refine wpAny_pure ?_
     show wpAny _ _ (if (!false) = true then _ else _) _ _ _
     rw [if_pos (by decide)]
     exact wpAny_pure (wpAny_pure h)
    ·exfalso
     have := mb.at m
     obtain ⟨_, q2⟩ | ⟨p', i2, t2, q1, q2, q3⟩ := this
     ·rw [q2] at h1; exact xN h1
     ·unfold atKey at q1
      obtain ⟨y, hy1, hy2⟩ := Option.map_eq_some_iff.mp q1
      have hm := List.mem_of_find?_eq_some hy1
      have hk := List.find?_some hy1
      obtain ⟨j, hj⟩ := List.getElem?_of_mem hm
      refine hn j y.2 ?_
      rw [hj]
      congr 1
      exact Prod.ext (by simpa using hk) rfl
   ·have hjlt : j < es'.size := by rw [← hlb]; exact (List.getElem?_eq_some_iff.mp hj).1
    have hej : es'[j] = entryOfKey knd (YJ m, p') := by
     have := entry_at hkb j
     rw [hj, Array.getElem?_eq_getElem hjlt] at this
     exact Option.some.inj this
    refine wpAny_bind (wpAny_dictEntries hob hdb ?_)
    rw [Array.getElem?_eq_getElem hjlt, hej]
    try clear hej; try clear hjlt; try clear hk; try clear hm; try clear hy2; try clear hy1; try clear y; try clear q3; try clear q2; try clear q1; try clear i2; try clear hn; try clear hkp; try clear hex; try clear hx; try clear hxd; try clear r; try clear t; try clear p; try clear md; try clear hmv; try clear hlt'; try clear e; try clear hi
    obtain ⟨_, h2⟩ | ⟨i', h1, h2⟩ := mb.find (m := m)
    ·exact (h2 j p' hj).elim
    ·obtain ⟨t2, ht2⟩ := h2 j p' hnb hj
     obtain ⟨pa, pv⟩ := p'
     subst ht2
     refine wpAny_holding (wpAny_eqBool_int ?_)
     have hstep : ZD (ea.drop x) eb = (match decide (v = i') with | true => ZD (ea.drop (x + 1)) eb | false => false) := by
      rw [hdrop]
      rw [Jq, h1]
     by_cases hv : v = i'
     ·rw [show (v == i') = true from by simp [hv]]
      show wpAny _ _ (if (!true) = true then _ else _) _ _ _
      rw [if_neg (by decide)]
      refine wpAny_bind (wpAny_dictEpoch hoa hda ?_)
      rw [if_neg (by simp)]
      refine wpAny_pure ⟨rfl, rfl, x + 1, hrest, hlt, ?_⟩
      rw [← hpre, hstep, decide_eq_true hv]
     ·have er : ZD ea eb = false := by rw [← hpre, hstep, decide_eq_false hv]
      rw [er] at h
      rw [show (v == i') = false from by simp [hv]]
      show wpAny _ _ (if (!false) = true then _ else _) _ _ _
      rw [if_pos (by decide)]
      exact wpAny_pure (wpAny_pure h)
  ·intro q s' h9; obtain ⟨rfl, rfl, i, hr, hi, hpre⟩ := h9
   have hin : i = es.size := by
    obtain h | h := Nat.lt_or_ge i es.size
    ·have e : es.size - i = (es.size - (i + 1)) + 1 := (Nat.succ_pred_eq_of_pos (Nat.sub_pos_of_lt h)).symm
     rw [e, List.range'_succ] at hr; exact nomatch hr
    ·exact Nat.le_antisymm hi h
   refine wpAny_pure ?_
   have e2 : ZD ea eb = true := by
    rw [← hpre, hin, show es.size = ea.length from hla.symm.trans la, List.drop_length]
    rfl
   rw [e2] at h
   exact h
theorem ZfL {neg : Bool} {a b : Addr} {xa xb : List (List TK × Addr × Value)} {ea eb : List ((Str × Int) × Int)} {Q : Value → Shared → Prop} (ha : (a == sysModules) = false) (hb : (b == sysModules) = false)
  (da : Heap.DictOfH (tupleKind (Xi prog w)) s.heap a xa) (db : Heap.DictOfH (tupleKind (Xi prog w)) s.heap b xb) (ma : MKs Λ ea xa) (mb : MKs Λ eb xb) (hu : A.units + 80 < cLine)
  (h : Q (.bool (Yl neg (Nat.beq ea.length eb.length && ZD ea eb))) s) : wpAny (model prog w) A (compareOp (ZgC neg) (.ref a) (.ref b)) Q E s := by
 have hr : (tupleKind (Xi prog w)).room A.in1 := by
  show A.in1.units < cLine
  simp only [Around.in1_units]; omega
 cases neg with
 | false =>
  refine wpAny_richCompare_same_room (op := .Eq) da.typeIs db.typeIs PySem.F.slot_dict_eq (wpAny_call_entry PySem.F.slot_dict_eq da.typeIs PySem.F.entry_dict_eq ?_ (PySem.F.args_dict_eq_2 _ _)) (by omega)
  refine wpAny_bind ?_
  refine wpAny_bind (wpAny_notOrdered_dict da.typeIs ?_)
  refine wpAny_pure ?_
  refine wpAny_bind (wpAny_isInstance (T := "dict") db.typeIs PySem.F.sub_dict_dict ?_)
  refine wpAny_bind (wpAny_pure (wpAny_bind (wpAny_pure ?_)))
  refine wpAny_bind (JO ha hb da db ma mb hr ?_)
  refine wpAny_pure ⟨_, rfl, ?_, ?_⟩
  ·exact fun x => nomatch x
  ·have e : (Yl false (Nat.beq ea.length eb.length && ZD ea eb)) = ((Nat.beq ea.length eb.length && ZD ea eb) == true) := by cases (Nat.beq ea.length eb.length && ZD ea eb) <;> rfl
   rw [e] at h; exact h
 | true =>
  refine wpAny_richCompare_same_room (op := .NotEq) da.typeIs db.typeIs PySem.F.slot_dict_ne (wpAny_call_entry PySem.F.slot_dict_ne da.typeIs PySem.F.entry_dict_ne ?_ (PySem.F.args_dict_ne_2 _ _)) (by omega)
  refine wpAny_bind ?_
  refine wpAny_bind (wpAny_notOrdered_dict da.typeIs ?_)
  refine wpAny_pure ?_
  refine wpAny_bind (wpAny_isInstance (T := "dict") db.typeIs PySem.F.sub_dict_dict ?_)
  refine wpAny_bind (wpAny_pure (wpAny_bind (wpAny_pure ?_)))
  refine wpAny_bind (JO ha hb da db ma mb hr ?_)
  refine wpAny_pure ⟨_, rfl, ?_, ?_⟩
  ·exact fun x => nomatch x
  ·have e : (Yl true (Nat.beq ea.length eb.length && ZD ea eb)) = ((Nat.beq ea.length eb.length && ZD ea eb) == false) := by cases (Nat.beq ea.length eb.length && ZD ea eb) <;> rfl
   rw [e] at h; exact h
theorem ZkY : ZbB prog w B₀ := by
 intro outs L loc A E Q s σ Λ ρ op a b x y K h R va vb hu hq
 have ordr : Zd9 op a b K → wpAny (model prog w) A (compareOp op x y) Q E s := fun h => by
  obtain ⟨i, rfl⟩ := Gk (D := fun a => Zd9 op a b K) a h
  obtain ⟨j, rfl⟩ := Gk (D := fun b => Zd9 op (.int i) b K) b h
  delta Zd9 at h
  obtain ⟨t, rfl⟩ := va.int_
  obtain ⟨u, rfl⟩ := vb.int_
  exact VH h fun c k => hq c s.toks k
 have eqs : ∀ neg, eqP neg a b σ K → wpAny (model prog w) A (compareOp (ZgC neg) x y) Q E s := fun neg h => by
  by_cases hd : ∃ es, a = .dmk es
  ·obtain ⟨es, rfl⟩ := hd
   change Zdr neg es (XI σ b) K at h
   generalize q : XI σ b = zz at h ⊢
   cases zz with
   | none => exact h.elim
   | some fs =>
    obtain ⟨p, o, rfl, z1, e1, d1⟩ := R.toRep0.marks (v := .dmk es) rfl va
    obtain ⟨p', o', rfl, z2, e2, d2⟩ := R.toRep0.marks q vb
    obtain ⟨xa, ma, da⟩ := d1.dict R.toRep0 e1
    obtain ⟨xb, mb, db⟩ := d2.dict R.toRep0 e2
    exact ZfL z1 z2 da db ma mb hu (hq _ s.toks h)
  ·exact Ziv h (fun es e => hd ⟨es, e⟩) R.toRep0 va vb hu hq
 have eqk : ∀ neg, op = ZgC neg → eqK neg op a b σ K → wpAny (model prog w) A (compareOp op x y) Q E s := fun neg e h => by
  delta eqK at h
  generalize isInt a = zz at h ⊢
  cases zz with
  | true => exact ordr h
  | false => rw [e]; exact eqs neg h
 cases op with
 | Is =>
  obtain rfl := ZdK (D := fun b => ZgU .Is a b σ K) b h
  obtain rfl := vb.none_
  exact Zkv va (hq _ s.toks h)
 | IsNot =>
  obtain rfl := ZdK (D := fun b => ZgU .IsNot a b σ K) b h
  obtain rfl := vb.none_
  exact Zek va (hq _ s.toks h)
 | In => exact Zgb (neg := false) h R.toRep0 va vb hu hq
 | NotIn => exact Zgb (neg := true) h R.toRep0 va vb hu hq
 | Eq => exact eqk false rfl h
 | NotEq => exact eqk true rfl h
 | _ => exact ordr h
end
noncomputable def sAt : Str := Str.ofString "at"
theorem ZkE (P : Params) : findIn (hK P) (.ref 52) "__getattribute__" = some (some (.builtin "BaseException.__getattribute__")) := by kernel_rfl
theorem Zgv (P : Params) : findIn (hK P) (.ref 52) "__getattr__" = some none := by kernel_rfl
theorem Zih (P : Params) : mroIn (hK P) 52 (.type "BaseException") = some true := by kernel_rfl
theorem Zgw (P : Params) (od : Obj) (v : Value) (h : lookIn sAt od = some (some v)) : findObj (hK P) 52 (some od) sAt = some (.value v) := by
 have e1 : findObj (hK P) 52 (some od) sAt = ((lookIn sAt od).bind fun own => match own with | some v => some (.value v) | none => some .missing) := by kernel_rfl
 rw [e1, h]; rfl
section
variable {prog : Program} {w : World} {A : Around} {E : Value → Shared → Prop} {s : Shared} {x : Addr} {ox : Obj} {od : Option Obj} {name : Str} {Q : Value → Shared → Prop} {P : Params}
theorem Zij {v : Value} (X : (hK P).In s.heap) (I : InstAt s.heap x ox 52 od) (hf : findObj (hK P) 52 od name = some (.value v)) (hh : handedIn v = true) (h : Q v { s with toks := s.toks + 1 }) : wpAny (model prog w) A (getAttr (.ref x) name true) Q E s := by
 obtain ⟨hp, g, d, t, os⟩ := s
 have L0 := I.type (M := model prog w)
 have L3 := looks_find (M := model prog w) X I hf
 have L1 := looks_findIn (M := model prog w) X (ZkE P)
 have L2 := looks_findIn (M := model prog w) X (Zgv P)
 have L4 : Looks (model prog w) hp (isInstance (.ref x) (.type "BaseException")) true := L0.andThen (looks_mroIn X (Zih P))
 refine wpAny_bind (wpAny_mkText (wpAny_holding (wpAny_bind (L0.at (wpAny_bind (L1.at ?_))))))
 have hx2 : (onTheHeap (Value.ref 52) && Value.builtin "BaseException.__getattribute__" == Value.builtin "object.__getattribute__") = false := by decide +kernel
 dsimp only
 rw [hx2]
 unfold getAttrByItsOwn hookBefore
 have hx3 : onTheHeap (Value.ref 52) = true := rfl
 rw [hx3]
 refine wpAny_bind (L2.at ?_)
 refine wpAny_bind ?_
 unfold callGetattribute boundAndCalled
 have hx4 : (true && onTheHeap (Value.builtin "BaseException.__getattribute__")) = false := rfl
 rw [hx4]
 rw [PySem.F.attr_Exception.ga.bind]
 repeat wp_step
 refine codeAny_call_builtin PySem.F.attr_Exception.ga.plain PySem.F.entry_bexc_ga ?_
 have hk : builtinKind "BaseException.__getattribute__" = some .slot := by decide +kernel
 have hsplit : splitId "BaseException.__getattribute__" = some ("BaseException", "__getattribute__") := by decide +kernel
 have ha := F.args_bexc_ga (.ref x) (.str name t)
 refine wpAny_bind (L4.at ?_)
 repeat wp_step
 refine wpAny_loadPart I.at_ (wpAny_pure ?_)
 rw [I.cls]
 refine wpAny_bind (L3.at ?_)
 refine wpAny_pure ?_
 dsimp only
 rw [handedOut_of hh]
 exact wpAny_pure h
end
section
variable {prog : Program} {w : World} {B₀ : Heap} {outs : List Env} {L : Addr} {loc : List (Str × AV)} {Λ Λ' : Lay} {σ σ' : List AO} {ρ ρ' : List Addr} {A : Around} {E : Value → Shared → Prop} {s : Shared}
theorem JX (x : Str) (v : Value) : (strKind prog w).is x v = v.isStr x := (strKind prog w).strs x x 0 v (ZO x 0)
theorem Xz {name : Str} {od : Obj} {kvs : List (Str × Value)} {v : Value} (h : od.IsDictOf (strKind prog w) kvs) (e : valueAt kvs name = some v) : lookIn name od = some (some v) := by
 obtain ⟨es, ep, _, hd, _, hp, _⟩ := h
 unfold lookIn
 rw [hd]
 have := hp.find name
 rw [e] at this
 have e2 : (fun x : DictEntry => x.key.isStr name) = fun x => (strKind prog w).is name x.key := by funext x; exact (JX name x.key).symm
 simp only [e2]
 obtain ⟨en, h1, h2⟩ := Option.map_eq_some_iff.mp this
 rw [h1]
 show some (some en.val) = _
 rw [h2]
theorem Zef {name : Str} {od : Obj} {kvs : List (Str × Value)} (h : od.IsDictOf (strKind prog w) kvs) (e : valueAt kvs name = none) : lookIn name od = some none := by
 obtain ⟨es, ep, _, hd, hk, hp, _⟩ := h
 unfold lookIn
 rw [hd]
 have := hp.find name
 rw [e] at this
 have e2 : (fun x : DictEntry => x.key.isStr name) = fun x => (strKind prog w).is name x.key := by funext x; exact (JX name x.key).symm
 simp only [e2]
 have h1 := Option.map_eq_none_iff.mp this
 rw [h1]
 have : es.toList.any (·.refKey) = false := by
  refine List.any_eq_false.mpr fun x hx => ?_
  obtain ⟨k, hk1, _⟩ := hk x (Array.mem_toList_iff.mp hx)
  have := (JX (prog := prog) (w := w) k x.key).symm.trans hk1
  unfold DictEntry.refKey
  cases q : x.key <;> simp
  rw [q] at this
  exact xF this
 rw [this]
 rfl
theorem Zeo {v : AV} {x : Value} (V : VT prog w Λ v x) : handedIn x = true := by
 cases V with
 | bi n => cases n <;> decide +kernel
 | _ => rfl
variable {P : Params}
theorem ZbT (R : Rep prog w B₀ outs L loc Λ σ ρ s.heap) {nm : Str} {vs : List AV} {x : Value} (V : VR prog w Λ ρ (.row nm vs) x) : ∃ a d p ws n t od, x = .ref a ∧ Λ a = .frz (instObj ZjI d) ∧ Λ d = .frz od ∧ od.IsDictOf (strKind prog w) [(ZG, .str nm t), (Zu, .ref p)] ∧
  Λ p = .frz (ZT ws n) ∧ VTs prog w Λ vs ws ∧ InstAt s.heap a (instObj ZjI d) 85 (some od) := by
 obtain h | ⟨_, _, e, _⟩ := V
 ·cases h with
  | @row _ t _ ws a d p n od h1 h2 h3 h4 h5 => exact ⟨a, d, p, ws, n, t, od, rfl, h1, h2, h3, h4, h5, ⟨R.frzAt h1, rfl, rfl, R.frzAt h2⟩⟩
 ·(exfalso; cases e)
theorem JD (P : Params) : findIn (hK P) (.ref 85) "__getattribute__" = some (some (.builtin "object.__getattribute__")) := by kernel_rfl
theorem ZaW (P : Params) (od : Obj) (v : Value) (h : lookIn ZG od = some (some v)) : findObj (hK P) 85 (some od) ZG = some (.value v) := by
 have e1 : findObj (hK P) 85 (some od) ZG = ((lookIn ZG od).bind fun own => match own with | some v => some (.value v) | none => some .missing) := by kernel_rfl
 rw [e1, h]; rfl
theorem GA (P : Params) (od : Obj) (v : Value) (h : lookIn Zu od = some (some v)) : findObj (hK P) 85 (some od) Zu = some (.value v) := by
 have e1 : findObj (hK P) 85 (some od) Zu = ((lookIn Zu od).bind fun own => match own with | some v => some (.value v) | none => some .missing) := by kernel_rfl
 rw [e1, h]; rfl
theorem ZiI (X : (hK w.params).In B₀) {o : AV} {m : Str} {x : Value} {K : KE} {Q : Value → Shared → Prop} (h : ZdF o m σ K) (R : Rep prog w B₀ outs L loc Λ σ ρ s.heap) (V : VR prog w Λ ρ o x) (Pe : PE prog w B₀ outs L loc Λ ρ K Q s) :
  wpAny (model prog w) A (getAttr x m true) Q E s := by
 have XK : (hK w.params).In s.heap := X.keeps R.toRep0.keep
 delta ZdF at h
 cases o with
 | row nm vs =>
  obtain ⟨a, d, p, ws, n, t, od, rfl, h1, h2, h3, h4, h5, I⟩ := ZbT R V
  simp only at h
  generalize q : sEq m ZG = zz at h ⊢
  cases zz with
  | true =>
   obtain rfl := ZH.mp q
   exact get_value XK I (JD _) (ZaW _ _ _ (Xz h3 rfl)) rfl (Pe.out R h (Jk nm t) _)
  | false =>
   simp only at h
   generalize q2 : sEq m Zu = zz at h ⊢
   cases zz with
   | true =>
    obtain rfl := ZH.mp q2
    exact get_value XK I (JD _) (GA _ _ _ (Xz h3 rfl)) rfl (Pe.out R h (.inl (.tup h4 h5)) _)
   | false => exact h.elim
 | exc v =>
  simp only at h
  generalize q : sEq m (Str.ofString "at") = zz at h ⊢
  cases zz with
  | false => exact h.elim
  | true =>
   obtain rfl := ZH.mp q
   obtain V | ⟨_, _, e, _⟩ := V
   ·cases V with
    | exc h1 h2 hn h3 h4 h5 h6 g => exact Zij XK ⟨R.frzAt h1, h2, hn, by rw [h3]; exact R.frzAt h4⟩ (Zgw _ _ _ (Xz h5 h6)) (Zeo g) (Pe.out R h (.inl g) _)
   ·(exfalso; cases e)
 | _ => exact h.elim
end
section
variable {prog : Program} {w : World} {B₀ : Heap} {outs : List Env} {L : Addr} {loc : List (Str × AV)} {Λ Λ' : Lay} {σ σ' : List AO} {ρ ρ' : List Addr} {A : Around} {E : Value → Shared → Prop} {s : Shared} {h h' : Heap} {K : Frag} {x C dx : Addr}
theorem Rep.reveal (R : Rep prog w B₀ outs L loc Λ σ ρ h) {d : Addr} {o : Obj} (hd : Λ d = .hid o) : Rep prog w B₀ outs L loc (Λ.up d (.frz o)) σ ρ h ∧ Z2 Λ (Λ.up d (.frz o)) := by
 have sees : Z2 Λ (Λ.up d (.frz o)) := ⟨fun a x e => by rw [Lay.up_ne _ _ fun q => by rw [q, hd] at e; (exfalso; cases e)]; exact e, fun a e => by rw [Lay.up_ne _ _ fun q => by rw [q, hd] at e; (exfalso; cases e)]; exact e⟩
 have nL : L ≠ d := fun q => by rw [← q, R.cur] at hd; (exfalso; cases hd)
 have nsR : ∃ m, h.Ns L m ∧ Yp prog w (Λ.up d (.frz o)) ρ loc m := by
  obtain ⟨m, n, l⟩ := R.ns
  exact ⟨m, n, l.mono sees (List.prefix_refl _)⟩
 have curR : (Λ.up d (.frz o)) L = .cur := by rw [Lay.up_ne _ _ nL]; exact R.cur
 refine ⟨⟨⟨fun b x e => sees.frz _ _ (R.b0 b x e), fun b => ?_, R.len, fun k x e => ?_, R.z0, R.sm⟩, fun env he => ?_, curR, nsR, R.lA⟩, sees⟩
 ·have H := R.tag b
  by_cases q : b = d
  ·subst q; rw [Lay.up_self]; rw [hd] at H; exact H
  ·rw [Lay.up_ne _ _ q]
   exact H.grow (fun _ e => e) fun c z => by rw [Lay.up_ne _ _ fun q => by rw [q, hd] at z; (exfalso; cases z)]; exact z
 ·have H := R.led k x e
  cases x with
  | ali v => obtain ⟨a, h1, h2⟩ := H; exact ⟨a, h1, h2.mono sees⟩
  | dead => trivial
  | _ =>
   obtain ⟨a, o1, h1, h2, h3, h4⟩ := H
   have na : a ≠ d := fun q => by rw [q, hd] at h2; (exfalso; cases h2)
   exact ⟨a, o1, h1, by rw [Lay.up_ne _ _ na]; exact h2, h3, h4.mono sees⟩
 ·obtain ⟨k, L', ob, e1, e2, e3⟩ := R.out env he
  exact ⟨k, L', ob, e1, by rw [Lay.up_ne _ _ fun q => by rw [q, hd] at e2; (exfalso; cases e2)]; exact e2, e3⟩
set_option tactic.hygienic true in
theorem UN {name : Str} {o : Obj} (hl : (lookIn name o).isSome = true) : ∃ es n, o.data = .dict es n ∧ (!es.any (·.key.isStr name) && es.any (·.refKey)) = false := by
 delta lookIn at hl
 generalize o.data = zz at hl ⊢
 cases zz with
 | dict es n =>
  refine ⟨es, n, rfl, ?_⟩
  rw [← Array.any_toList, ← Array.any_toList]
  dsimp only at hl
  generalize he : es.toList.find? (·.key.isStr name) = zz at hl
  cases zz with
  | some en => rw [List.any_eq_true.mpr ⟨en, List.mem_of_find?_eq_some he, List.find?_some he⟩]; rfl
  | none =>
   have : es.toList.any (·.refKey) = false := by
    cases z : es.toList.any (·.refKey) with
    | false => rfl
    | true => dsimp only at hl; rw [if_pos z] at hl; exact xF hl
   rw [this, Bool.and_false]
 | _ => exact xF hl
theorem ZhM {ox od od' : Obj} {name : Str} {tk : Tok} {v : Value} {es : List DictEntry} {n : Nat} {R : Result → Shared → Prop} (X : K.In s.heap) (I : InstAt s.heap x ox C (some od)) (hd : ox.dict = some dx)
  (hp : plainOver K C = true) (ht : takerIn K C name = some none) (hh : (clsIn K C).any (·.hasDict) = true) (hl : (lookIn name od).isSome = true) (D : s.heap.get? dx = some od)
  (e : Obj.putName name (PyData.keyHash w.params name) (.str name s.toks) v od = od') (e' : od'.data = .dict es.toArray n) (hz : es.length ≤ 1000)
  (q : R (.ok (.ret .none)) { s with heap := s.heap.update dx (Obj.putName name (PyData.keyHash w.params name) (.str name s.toks) v), toks := s.toks + 1 }) :
  codeAny (model prog w) A (.call (.builtin "object.__setattr__") ⟨[.ref x, .str name tk, v], []⟩) R s := by
 refine osa_open X I hp ht fun b => ?_
 obtain ⟨cd, hc, hd'⟩ := any_some hh
 have D' : (s.heap.update dx (Obj.putName name (PyData.keyHash w.params name) (.str name s.toks) v)).get? dx = some od' := by
  rw [← e]
  exact Heap.get?_update_self _ D (by rw [e]; obtain ⟨_, _, dd, _⟩ := od'; cases e'; rfl)
 obtain ⟨hx, hcl, hn, -⟩ := I
 try clear hn; try clear dd; try clear cd; try clear b; try clear toks; try clear heap; try clear s; try clear hz; try clear e; try clear hh; try clear ht; try clear hp; try clear I; try clear R; try clear n; try clear es; try clear v; try clear tk; try clear od'; try clear od
 obtain ⟨oc, odi, oda, osl⟩ := ox
 dsimp only at hcl hd
 subst hcl hd
 refine wpAny_bind (wpAny_pure (wpAny_bind (wpAny_bind (wpAny_loadPart hx (wpAny_bind ((looks_clsIn X hc).here ?_))))))
 rw [hd']
 refine wpAny_pure (a := some dx) (wpAny_bind (wpAny_pure (wpAny_bind ?_)))
 refine wpAny_bind (wpAny_bind (wpAny_askSetting (wpAny_pure (wpAny_bind (wpAny_mkText (wpAny_bind (wpAny_loadPart D ?_)))))))
 obtain ⟨es₀, n₀, q', c⟩ := UN hl
 rw [q']
 dsimp only
 rw [aRefKeyMayBeTheName_at, c]
 refine wpAny_updatePart D ?_
 refine wpAny_bind (wpAny_lookBehind D' (by rw [e']; exact pastItsLine_dict (by rw [List.size_toArray, sizeLine_eq]; omega)) ?_)
 exact wpAny_pure q
theorem Zc0 {ox od od' : Obj} {name : Str} {v : Value} {es : List DictEntry} {n : Nat} {Q : Unit → Shared → Prop} (X : K.In s.heap) (I : InstAt s.heap x ox C (some od)) (hd : ox.dict = some dx) (hs : findIn K (.ref C) "__setattr__" = some (some (.builtin "object.__setattr__")))
  (hp : plainOver K C = true) (ht : takerIn K C name = some none) (hh : (clsIn K C).any (·.hasDict) = true) (hl : (lookIn name od).isSome = true) (D : s.heap.get? dx = some od)
  (e : Obj.putName name (PyData.keyHash w.params name) (.str name (s.toks + 1)) v od = od') (e' : od'.data = .dict es.toArray n) (hz : es.length ≤ 1000)
  (q : Q () { s with heap := s.heap.update dx (Obj.putName name (PyData.keyHash w.params name) (.str name (s.toks + 1)) v), toks := s.toks + 2 }) : wpAny (model prog w) A (setAttr (.ref x) name v) Q E s :=
 set_plain X I hs (ZhM (s := { s with toks := s.toks + 1 }) X I hd hp ht hh hl D e e' hz q)
end
noncomputable def ZF : Str := Str.ofString "self"
theorem ZlP (P : Params) : ∃ o fd names p1 p2 p3 p4 q1 q2 q3 q4, ZS (hK P) 75 ⟨[.Assign [.Attribute (.Name ZF p1) ZG p2] (.Name ZG p3) p4, .Assign [.Attribute (.Name ZF q1) Zu q2] (.Name Zu q3) q4], names, bindL [(ZF, none), (ZG, none), (Zu, none)]⟩ o fd ∧
  (∀ x y z : Value, bindArgs fd ⟨[x, y, z], []⟩ = pure [(ZF, x), (ZG, y), (Zu, z)]) ∧ Zw fd ZF = true ∧ Zw fd ZG = true ∧ Zw fd Zu = true ∧ Ze ZF names = some .local ∧ Ze ZG names = some .local ∧ Ze Zu names = some .local := by
 refine ⟨_, _, _, _, _, _, _, _, _, _, _, ⟨rfl, rfl, rfl, rfl, rfl, rfl, rfl, ?_, rfl, rfl, ?_⟩, ?_, ?_, ?_, ?_, ?_, ?_, ?_⟩
 ·kernel_rfl
 ·kernel_rfl
 ·intro x y z; rfl
 ·kernel_rfl
 ·kernel_rfl
 ·kernel_rfl
 ·kernel_rfl
 ·kernel_rfl
 ·kernel_rfl
theorem Zd3 (P : Params) : makesIn (hK P) 85 = true := by kernel_rfl
theorem Zft (P : Params) : findIn (hK P) (.ref 85) "__init__" = some (some (.ref 75)) := by kernel_rfl
theorem ZbS (P : Params) : isFn (hK P) (.ref 75) = true := by kernel_rfl
theorem Zfr (P : Params) : findIn (hK P) (.ref 85) "__setattr__" = some (some (.builtin "object.__setattr__")) := by kernel_rfl
theorem Zfs (P : Params) : plainOver (hK P) 85 = true := by kernel_rfl
theorem ZjG (P : Params) : takerIn (hK P) 85 ZG = some none := by kernel_rfl
theorem ZjF (P : Params) : takerIn (hK P) 85 Zu = some none := by kernel_rfl
theorem Zfu (P : Params) : (clsIn (hK P) 85).any (·.hasDict) = true := by kernel_rfl
section
variable {prog : Program} {w : World} {B₀ : Heap} {outs : List Env} {L : Addr} {loc : List (Str × AV)} {Λ Λ' : Lay} {σ σ' : List AO} {ρ ρ' : List Addr} {A : Around} {E : Value → Shared → Prop} {s : Shared} {pg : Pg} {env : Env} {fi : FI} {n : Nat}
theorem ZeZ (R : Rep prog w B₀ outs L loc Λ σ ρ s.heap) {m : Str → Option Value} {x dx : Addr} {h' : Heap} {ox od : Obj} (l : Yp prog w Λ ρ loc m) (F' : Fr B₀ L h' m) (N' : News B₀ L h' ((x, ox) :: (dx, od) :: Xo B₀ L s.heap))
  (hlt : ∀ p ∈ Xo B₀ L s.heap, p.1 < dx) (hlt2 : dx < x) : ∃ Λ', Λ.le Λ' ∧ Λ' x = .free ∧ Λ' dx = .free ∧ Rep prog w B₀ outs L loc Λ' σ ρ h' := by
 have hx := N' (x, ox) (.head _)
 have hdx := N' (dx, od) (.tail _ (.head _))
 have nx : s.heap.get? x = none := by
  generalize q : s.heap.get? x = zz at *
  cases zz with
  | none => rfl
  | some o => exact absurd (hlt (x, o) (XH.mpr ⟨q, hx.2.1, hx.2.2⟩)) (Nat.lt_asymm hlt2)
 have ndx : s.heap.get? dx = none := by
  generalize q : s.heap.get? dx = zz at *
  cases zz with
  | none => rfl
  | some o => exact absurd (hlt (dx, o) (XH.mpr ⟨q, hdx.2.1, hdx.2.2⟩)) (Nat.lt_irrefl _)
 have N'' : News B₀ L h' (Xo B₀ L s.heap) := fun p hp => N' p (.tail _ (.tail _ hp))
 obtain ⟨Λ₁, l1, f1, e1, R1⟩ := R.forget ndx
 obtain ⟨Λ₂, l2, f2, e2, R2⟩ := R1.forget nx
 exact ⟨Λ₂, l1.trans l2, e2, f2 _ e1, R2.back F' (l.mono (l1.trans l2).sees (List.prefix_refl _)) N''⟩
theorem Rep.other {h h' : Heap} (R : Rep prog w B₀ outs L loc Λ σ ρ h) {d : Addr} (hd : Λ d = .free) (hs : ∀ b o, b ≠ d → h.get? b = some o → h'.get? b = some o) : Rep prog w B₀ outs L loc Λ σ ρ h' :=
 R.slots (fun b o hb e => hs b o (fun q => by rw [q, hd] at hb; exact xF hb) e) (fun b o hb e => ⟨o.slots, hs b o (fun q => by rw [q, hd] at hb; exact xF hb) e⟩)
theorem Zfv {P : Params} (hP : P = w.params) {tk1 tk2 : Tok} {nm : Str} {tn : Tok} {pp : Addr} : Obj.IsDictOf (strKind prog w) ⟨.type "dict", none, .dict [⟨PyData.keyHash P ZG, .str ZG tk1, .str nm tn⟩, ⟨PyData.keyHash P Zu, .str Zu tk2, .ref pp⟩].toArray 2, #[]⟩ [(ZG, .str nm tn), (Zu, .ref pp)] := by
 subst hP
 refine ⟨_, _, ⟨rfl, rfl, rfl⟩, rfl, ?_, ?_, ?_⟩
 ·intro e he
  have : e ∈ ([⟨PyData.keyHash w.params ZG, .str ZG tk1, .str nm tn⟩, ⟨PyData.keyHash w.params Zu, .str Zu tk2, .ref pp⟩] : List DictEntry) := by simpa using he
  obtain rfl | this := List.mem_cons.mp this
  ·exact ⟨ZG, ZO _ _, rfl⟩
  ·obtain rfl | this := List.mem_cons.mp this
   ·exact ⟨Zu, ZO _ _, rfl⟩
   ·(exfalso; cases this)
 ·exact .cons (ZO _ _) rfl (.cons (ZO _ _) rfl .nil)
 ·show [ZG, Zu].Nodup
  decide +kernel
theorem ZjH (X : (hK w.params).In B₀) (hlim : B₀.NoLimit) (G : GOk prog w B₀ pg) {Q : Value → Shared → Prop} {nm : Str} {vs : List AV} {x y : Value} {K : KE} (C : Cx B₀ A env outs L fi (n + 1)) (hk : K (.row nm vs) σ) (R : Rep prog w B₀ outs L loc Λ σ ρ s.heap)
  (V1 : VR prog w Λ ρ (.str nm) x) (V2 : VR prog w Λ ρ (.tup vs) y) (P : PE prog w B₀ outs L loc Λ ρ K Q s) : wpAny (model prog w) A (call (.ref 85) [x, y]) Q E s := by
 obtain ⟨t, rfl⟩ := V1.str_
 obtain ⟨pa, ws, n', rfl, hp, g⟩ := V2.tup_
 obtain ⟨m, F, l⟩ := R.frame
 have hkm : env.scope.kind ≠ .module := by rw [C.kind]; exact nofun
 obtain ⟨o, fd, names, p1, p2, p3, p4, q1, q2, q3, q4, H, hb, i1, i2, i3, k1, k2, k3⟩ := ZlP w.params
 refine call_cls F X (VQ B₀ L s.heap) (Zd3 _) (Zft _) (ZbS _) fun a d h' F' N' hlt hlt2 => ?_
 obtain ⟨Λ₁, l₁, ea, ed, R₁⟩ := ZeZ R l F' N' hlt hlt2
 have st := R₁.toRep0.keep
 have FO := H.ok3 (prog := prog) (w := w) X hb i1 i2 i3 (by decide +kernel) (by decide +kernel) (by decide +kernel)
 obtain ⟨o', fd', ho, hd', hbody, hnames, hkind, hco, hgen, hcell, hgl, hbi, hcode, hbind⟩ := FO.ex
 obtain ⟨binds, hB, hloc, hLoc⟩ := hbind [.old a, .str nm, .tup vs] [(ZF, .old a), (ZG, .str nm), (Zu, .tup vs)] [.ref a, .str nm t, .ref pa] rfl rfl
 refine codeAny_call_def (fd := fd') (binds := binds) ?_ (st _ _ ho) hd' (hlim.keeps st) (hcode.keeps st) hbody (hB { s with heap := h' } st) hcell hloc (fun h₀ hns hkeep => ?_) hco hgen hkind
 ·exact Nat.lt_of_le_of_lt (Nat.le_trans (Nat.add_le_add_left (Nat.succ_le_succ (Nat.zero_le n)) A.depth) C.depth) (by decide)
 ·have hv : ∀ {Λ' : Lay}, Z2 Λ₁ Λ' → VRs prog w Λ' ρ [.old a, .str nm, .tup vs] [.ref a, .str nm t, .ref pa] := fun ss =>
   .cons (.inl (.old a)) (.cons (.inl (.str nm t)) (.cons (.inl (.tup (ss.frz _ _ (l₁.frz hp)) (g.mono (l₁.sees.trans ss)))) .nil))
  obtain ⟨Λ₂, oL, R₂, sees, hoL, tL, tL', hne, fr, hst⟩ := R₁.enterCall (b := fi.comp) hkm C.frame (L' := h'.objs.size) (Heap.get?_none_of_le (Nat.le_refl _)) R₁.toRep0.size hkeep hns (fun Λ' ss bb => hLoc Λ' ρ bb (hv ss))
  obtain ⟨m₂, ns₂, lr₂⟩ := R₂.ns
  have e1 : ∀ {z : Str} {v : AV}, [(ZF, AV.old a), (ZG, .str nm), (Zu, .tup vs)].lookup z = some v → Za3 v = true → ∃ y, m₂ z = some y ∧ VR prog w Λ₂ ρ v y := fun h1 h2 => lr₂.look h1 h2
  obtain ⟨ys, hys, Vs⟩ := e1 (z := ZF) rfl rfl
  obtain rfl := Vs.old_
  obtain ⟨yn, hyn, Vn⟩ := e1 (z := ZG) rfl rfl
  obtain ⟨tn, rfl⟩ := Vn.str_
  obtain ⟨yp, hyp, Vp⟩ := e1 (z := Zu) rfl rfl
  obtain ⟨pp, wsp, np, rfl, hpp, gp⟩ := Vp.tup_
  have hko : ∀ z k, Ze z names = some k → (callEnv fd' h'.objs.size 75).kindOf z = some k := fun z k e => by
   show fd'.scope.names.lookup z = some k
   rw [hnames, ← Ye]; exact e
  have hke : (callEnv fd' h'.objs.size 75).scope.kind = .function := hkind
  refine wpAny_execs_cons (Z9 rfl rfl ?_ rfl)
  refine wpAny_Name (wpAny_loadName_local hke (hko _ _ k2) ns₂ hyn ?_) (by decide +kernel)
  rw [assign_Attribute]
  refine wpAny_bind (wpAny_holding (wpAny_Name (wpAny_loadName_local hke (hko _ _ k1) ns₂ hys ?_) (by decide +kernel)))
  refine wpAny_bind (wpAny_standAt (wpAny_bind (wpAny_holding ?_)))
  have XK : (hK w.params).In h₀ := X.keeps R₂.toRep0.keep
  have naL : a ≠ L := fun q => by rw [q, R₁.cur] at ea; (exfalso; cases ea)
  have ndL : d ≠ L := fun q => by rw [q, R₁.cur] at ed; (exfalso; cases ed)
  have ga : h'.get? a = some (instObj 85 d) := (N' _ (.head _)).1
  have gd : h'.get? d = some (dictOf [] 0) := (N' _ (.tail _ (.head _))).1
  have naL' : a ≠ h'.objs.size := fun q => by rw [q, Heap.get?_none_of_le (Nat.le_refl _)] at ga; exact xN ga
  have ndL' : d ≠ h'.objs.size := fun q => by rw [q, Heap.get?_none_of_le (Nat.le_refl _)] at gd; exact xN gd
  have e2a : Λ₂ a = .free := (hst a naL naL').trans ea
  have e2d : Λ₂ d = .free := (hst d ndL ndL').trans ed
  have h2a : h₀.get? a = some (instObj 85 d) := hkeep _ _ ga
  have h2d : h₀.get? d = some (dictOf [] 0) := hkeep _ _ gd
  have hne2 : a ≠ d := fun q => by rw [q] at hlt2; exact Nat.lt_irrefl _ hlt2
  refine Zc0 (od' := ⟨.type "dict", none, .dict [⟨PyData.keyHash w.params ZG, .str ZG (s.toks + binds.length + 1), .str nm tn⟩].toArray 1, #[]⟩) XK ⟨h2a, rfl, rfl, h2d⟩ rfl (Zfr _) (Zfs _) (ZjG _) (Zfu _) rfl h2d rfl rfl (by simp) ?_
  refine wpAny_release ?_
  have up1 : (h₀.update d (Obj.putName ZG (PyData.keyHash w.params ZG) (.str ZG (s.toks + binds.length + 1)) (.str nm tn))).get? d = some ⟨.type "dict", none, .dict [⟨PyData.keyHash w.params ZG, .str ZG (s.toks + binds.length + 1), .str nm tn⟩].toArray 1, #[]⟩ := Heap.get?_update_self _ h2d rfl
  have ot1 : ∀ b y, b ≠ d → h₀.get? b = some y → (h₀.update d (Obj.putName ZG (PyData.keyHash w.params ZG) (.str ZG (s.toks + binds.length + 1)) (.str nm tn))).get? b = some y := fun b y nb e => (Heap.get?_update_other _ _ (Ne.symm nb)).trans e
  generalize hh1 : h₀.update d (Obj.putName ZG (PyData.keyHash w.params ZG) (.str ZG (s.toks + binds.length + 1)) (.str nm tn)) = h₁ at up1 ot1 ⊢
  have R₃ := R₂.other e2d ot1
  have h3a := ot1 a _ hne2 h2a
  obtain ⟨m₃, ns₃, lr₃⟩ := R₃.ns
  have e3 : ∀ {z : Str} {v : AV}, [(ZF, AV.old a), (ZG, .str nm), (Zu, .tup vs)].lookup z = some v → Za3 v = true → ∃ y, m₃ z = some y ∧ VR prog w Λ₂ ρ v y := fun h1 h2 => lr₃.look h1 h2
  obtain ⟨ys, hys, Vs⟩ := e3 (z := ZF) rfl rfl
  obtain rfl := Vs.old_
  obtain ⟨yp, hyp, Vp⟩ := e3 (z := Zu) rfl rfl
  obtain ⟨pp, wsp, np, rfl, hpp, gp⟩ := Vp.tup_
  refine wpAny_execs_cons (Z9 rfl rfl ?_ rfl)
  refine wpAny_Name (wpAny_loadName_local hke (hko _ _ k3) ns₃ hyp ?_) (by decide +kernel)
  rw [assign_Attribute]
  refine wpAny_bind (wpAny_holding (wpAny_Name (wpAny_loadName_local hke (hko _ _ k1) ns₃ hys ?_) (by decide +kernel)))
  refine wpAny_bind (wpAny_standAt (wpAny_bind (wpAny_holding ?_)))
  have XK₁ : (hK w.params).In h₁ := X.keeps R₃.toRep0.keep
  refine Zc0 (od' := ⟨.type "dict", none, .dict [⟨PyData.keyHash w.params ZG, .str ZG (s.toks + binds.length + 1), .str nm tn⟩, ⟨PyData.keyHash w.params Zu, .str Zu (s.toks + binds.length + 2 + 1), .ref pp⟩].toArray 2, #[]⟩) XK₁ ⟨h3a, rfl, rfl, up1⟩ rfl (Zfr _) (Zfs _) (ZjF _) (Zfu _) rfl up1 rfl rfl (by simp) ?_
  refine wpAny_release ?_
  have up2 : (h₁.update d (Obj.putName Zu (PyData.keyHash w.params Zu) (.str Zu (s.toks + binds.length + 2 + 1)) (.ref pp))).get? d = some ⟨.type "dict", none, .dict [⟨PyData.keyHash w.params ZG, .str ZG (s.toks + binds.length + 1), .str nm tn⟩, ⟨PyData.keyHash w.params Zu, .str Zu (s.toks + binds.length + 2 + 1), .ref pp⟩].toArray 2, #[]⟩ := Heap.get?_update_self _ up1 rfl
  have ot2 : ∀ b y, b ≠ d → h₁.get? b = some y → (h₁.update d (Obj.putName Zu (PyData.keyHash w.params Zu) (.str Zu (s.toks + binds.length + 2 + 1)) (.ref pp))).get? b = some y := fun b y nb e => (Heap.get?_update_other _ _ (Ne.symm nb)).trans e
  generalize hh2 : h₁.update d (Obj.putName Zu (PyData.keyHash w.params Zu) (.str Zu (s.toks + binds.length + 2 + 1)) (.ref pp)) = h₂ at up2 ot2 ⊢
  have R₄ := R₃.other e2d ot2
  have h4a := ot2 a _ hne2 h3a
  refine wpAny_execs_nil ?_
  obtain ⟨Λ₃, l₃, s₃, R₅, f₃⟩ := R₁.exitCall hoL sees tL tL' hne fr hst (Lay.le.refl _) (List.prefix_refl _) R₄
  have R₆ := R₅.settle (t := .frz _) (f₃ _ e2d) up2
  have fa : (Λ₃.up d (.frz ⟨.type "dict", none, .dict [⟨PyData.keyHash w.params ZG, .str ZG (s.toks + binds.length + 1), .str nm tn⟩, ⟨PyData.keyHash w.params Zu, .str Zu (s.toks + binds.length + 2 + 1), .ref pp⟩].toArray 2, #[]⟩)) a = .free := by rw [Lay.up_ne _ _ hne2]; exact f₃ _ e2a
  have R₇ := R₆.settle (t := .frz (instObj 85 d)) fa h4a
  have la := Lay.le_up (Λ := Λ₃) (.frz ⟨.type "dict", none, .dict [⟨PyData.keyHash w.params ZG, .str ZG (s.toks + binds.length + 1), .str nm tn⟩, ⟨PyData.keyHash w.params Zu, .str Zu (s.toks + binds.length + 2 + 1), .ref pp⟩].toArray 2, #[]⟩) (.inl (f₃ _ e2d))
  have lb := Lay.le_up (.frz (instObj 85 d)) (.inl fa)
  refine ⟨rfl, P _ σ _ ρ _ h₂ _ hk ((l₁.trans l₃).trans (la.trans lb)) (List.prefix_refl _) R₇ (.inl ?_)⟩
  have sf : Z2 Λ₂ _ := s₃.trans (la.trans lb).sees
  exact .row (Lay.up_self ..) (lb.frz (Lay.up_self ..)) (Zfv rfl) (sf.frz _ _ hpp) (gp.mono sf)
end
noncomputable def Uj : Str := Str.ofString "tuple"
theorem ZlO (P : Params) : ∃ o fd names p1 p2 p3 p4 p5 p6 p7 p8 k, ZS (hK P) 82 ⟨[.Return (some (.Tuple [.Attribute (.Name ZF p1) ZG p2, .Call (.Name Uj p3) [.Attribute (.Name ZF p4) Zu p5] [] p6] k p7)) p8], names, bindL [(ZF, none)]⟩ o fd ∧
  (∀ x : Value, bindArgs fd ⟨[x], []⟩ = pure [(ZF, x)]) ∧ Zw fd ZF = true ∧ Ze ZF names = some .local ∧ Ze Uj names = some .globalImplicit := by
 refine ⟨_, _, _, _, _, _, _, _, _, _, _, _, ⟨rfl, rfl, rfl, rfl, rfl, rfl, rfl, ?_, rfl, rfl, ?_⟩, ?_, ?_, ?_, ?_⟩
 ·kernel_rfl
 ·kernel_rfl
 ·intro x; rfl
 ·kernel_rfl
 ·kernel_rfl
 ·kernel_rfl
section
variable {prog : Program} {w : World} {B₀ : Heap} {outs : List Env} {L : Addr} {loc : List (Str × AV)} {Λ Λ' : Lay} {σ σ' : List AO} {ρ ρ' : List Addr} {A : Around} {E : Value → Shared → Prop} {s : Shared} {pg : Pg} {env : Env} {fi : FI} {n : Nat}
theorem ZaQ {K : Frag} {C a : Addr} {ox : Obj} {od : Option Obj} {m : Str} {v : Value} {m₂ : Str → Option Value} {p1 p2 : Pos} {Q : Value → Shared → Prop} (X : K.In s.heap) (I : InstAt s.heap a ox C od) (hga : findIn K (.ref C) "__getattribute__" = some (some (.builtin "object.__getattribute__")))
  (hf : findObj K C od m = some (.value v)) (hh : handedIn v = true) (hke : env.scope.kind = .function) (hk : env.kindOf ZF = some .local) (ns : s.heap.Ns env.locals m₂) (hs : m₂ ZF = some (.ref a))
  (q : Q v { s with toks := s.toks + 1 }) : wpAny (model prog w) A (eval (.Attribute (.Name ZF p1) m p2) env) Q E s := by
 show wpAny (model prog w) A (do
   let ov ← attributeBase (.Name ZF p1) m env (eval (.Name ZF p1) env)
   standAt p2.atName
   let r ← holding [ov] (getAttr ov m true)
   letTemporaryGo (.Name ZF p1) ov r
   pure r) Q E s
 rw [W8 (o := .Name ZF p1) rfl]
 refine wpAny_bind (wpAny_Name (wpAny_loadName_local hke hk ns hs ?_) (by decide +kernel))
 refine wpAny_bind (wpAny_standAt (wpAny_bind (wpAny_holding ?_)))
 refine get_value X I hga hf hh ?_
 exact wpAny_bind (wpAny_letTemporaryGo (wpAny_pure q))
theorem Zhh (X : (hK w.params).In B₀) (hlim : B₀.NoLimit) (G : GOk prog w B₀ pg) (hT : Ze Uj pg.glob = some (.ty .tuple)) {Q : Value → Shared → Prop} {nm : Str} {vs : List AV} {x : Value} {K : KE} (C : Cx B₀ A env outs L fi (n + 1)) (hk : K (.tup [.str nm, .tup vs]) σ) (R : Rep prog w B₀ outs L loc Λ σ ρ s.heap)
  (V : VR prog w Λ ρ (.row nm vs) x) (P : PE prog w B₀ outs L loc Λ ρ K Q s) : wpAny (model prog w) A (call (.ref 82) [x]) Q E s := by
 have hkm : env.scope.kind ≠ .module := by rw [C.kind]; exact nofun
 obtain ⟨o, fd, names, p1, p2, p3, p4, p5, p6, p7, p8, kk, H, hb, i1, k1, k2⟩ := ZlO w.params
 have st := R.toRep0.keep
 have FO := H.ok1 (prog := prog) (w := w) X hb i1
 obtain ⟨o', fd', ho, hd', hbody, hnames, hkind, hco, hgen, hcell, hgl, hbi, hcode, hbind⟩ := FO.ex
 obtain ⟨binds, hB, hloc, hLoc⟩ := hbind [.row nm vs] [(ZF, .row nm vs)] [x] rfl rfl
 refine wpAny_call (codeAny_call_def (fd := fd') (binds := binds) ?_ (st _ _ ho) hd' (hlim.keeps st) (hcode.keeps st) hbody (hB s st) hcell hloc (fun h₀ hns hkeep => ?_) hco hgen hkind)
 ·exact Nat.lt_of_le_of_lt (Nat.le_trans (Nat.le_add_right _ _) C.depth) (by decide)
 ·obtain ⟨Λ₁, oL, R₁, sees, hoL, tL, tL', hne, fr, hst⟩ := R.enterCall (b := fi.comp) hkm C.frame (L' := s.heap.objs.size) R.none0 R.toRep0.size hkeep hns (fun Λ' ss bb => hLoc Λ' ρ bb (.cons (V.mono ss (List.prefix_refl _)) .nil))
  obtain ⟨m₂, ns₂, lr₂⟩ := R₁.ns
  obtain ⟨ys, hys, Vs⟩ := lr₂.look (x := ZF) (a := .row nm vs) rfl rfl
  obtain ⟨a, d, p, ws, n', t, od, rfl, h1, h2, h3, h4, h5, I⟩ := ZbT (s := { s with heap := h₀ }) R₁ Vs
  have XK : (hK w.params).In h₀ := X.keeps R₁.toRep0.keep
  have hke : (callEnv fd' s.heap.objs.size 82).scope.kind = .function := hkind
  have hko : ∀ z k, Ze z names = some k → (callEnv fd' s.heap.objs.size 82).kindOf z = some k := fun z k e => by
   show fd'.scope.names.lookup z = some k
   rw [hnames, ← Ye]; exact e
  refine wpAny_execs_cons (wpAny_Return_some (wpAny_Tuple ?_))
  refine wpAny_items_cons (ZaQ (s := { s with heap := h₀, toks := s.toks + binds.length }) XK I (JD _) (ZaW _ _ _ (Xz h3 rfl)) rfl hke (hko _ _ k1) ns₂ hys ?_) rfl
  refine wpAny_items_cons ?_ rfl
  show wpAny _ _ (do callWith p6 (← eval (.Name Uj p3) (callEnv fd' s.heap.objs.size 82)) [] (backTo p6 (starEach [.Attribute (.Name ZF p4) Zu p5] (callEnv fd' s.heap.objs.size 82))) (backToKw p6 (keywordEach [] (callEnv fd' s.heap.objs.size 82)))) _ _ _
  refine wpAny_bind (wpAny_Name ?_ (by decide +kernel))
  rw [loadName_read hke (hko _ _ k2)]
  obtain ⟨_, val, hv, hl⟩ := G Uj _ hT
  obtain rfl := (hv Λ₁ R₁.b0).ty_
  refine hl _ _ _ _ _ hgl hbi R₁.toRep0.keep ?_
  refine PySem.callWith_type (Yg (es := [.Attribute (.Name ZF p4) Zu p5]) rfl) (YT rfl ?_)
  refine wpAny_items_cons (ZaQ (s := { s with heap := h₀, toks := s.toks + binds.length + 1 }) XK I (JD _) (GA _ _ _ (Xz h3 rfl)) rfl hke (hko _ _ k1) ns₂ hys ?_) rfl
  refine wpAny_items_nil ?_
  refine call_tuple_tup (YG (R₁.toRep0.frzAt h4)) ?_
  refine wpAny_items_nil ?_
  refine ⟨by show 2 ≤ sizeLine; decide, ?_⟩
  obtain ⟨Λ₂, l₂, e₂, R₂⟩ := R₁.push (ZT [.str nm t, .ref p] 0) rfl
  obtain ⟨Λ₃, l₃, s₃, R₃, _⟩ := R.exitCall hoL sees tL tL' hne fr hst l₂ (List.prefix_refl _) R₂
  refine P _ σ Λ₃ ρ _ _ _ hk l₃ (List.prefix_refl _) R₃ (.inl ?_)
  have ss := l₂.sees.trans s₃
  exact .tup (n := 0) (s₃.frz _ _ e₂) (.cons (.str nm t) (.cons (.tup (ss.frz _ _ h4) (h5.mono ss)) .nil))
end
theorem ZhC (P : Params) : findIn (hK P) (.ref 85) "__getattr__" = some none := by kernel_rfl
theorem Zfq (P : Params) : findIn (hK P) (.ref 85) (Str.ofString "told") = some (some (.ref 82)) := by kernel_rfl
theorem Zhi (P : Params) : typeIn (hK P) (.ref 82) = some (.type "function") := by kernel_rfl
theorem ZdO (P : Params) : keepIn (hK P) (.ref 82) = true := by kernel_rfl
theorem Zgu (P : Params) : keepIn (hK P) (.ref 52) = true := by kernel_rfl
theorem Zig (P : Params) : exmOne (hK P) (.ref 52) (.ref 52) = some true := by kernel_rfl
theorem Zei (P : Params) : ∀ a ∈ [85, 61, 96, 103, 111, 118, 126, 133, 140, 147, 154, 161, 168, 175, 182, 189, 196, 203, 210, 217, 224, 231, 238, 243], keepIn (hK P) (.ref a) = true := by
 have h : ([85, 61, 96, 103, 111, 118, 126, 133, 140, 147, 154, 161, 168, 175, 182, 189, 196, 203, 210, 217, 224, 231, 238, 243].all fun a => keepIn (hK P) (.ref a)) = true := by kernel_rfl
 exact List.all_eq_true.mp h
section
variable {prog : Program} {w : World} {B₀ : Heap} {outs : List Env} {L : Addr} {loc : List (Str × AV)} {Λ Λ' : Lay} {σ σ' : List AO} {ρ ρ' : List Addr} {A : Around} {E : Value → Shared → Prop} {s : Shared} {pg : Pg} {env : Env} {fi : FI} {n : Nat}
theorem Zjr (X : (hK w.params).In B₀) {Q : Value × List Value → Shared → Prop} {nm : Str} {vs : List AV} {x : Value} {pl : Sem Bool} (R : Rep prog w B₀ outs L loc Λ σ ρ s.heap) (V : VR prog w Λ ρ (.row nm vs) x) (h : Q (.ref ZaC, [x]) s) :
  wpAny (model prog w) A (getMethod x (Str.ofString "told") pl) Q E s := by
 obtain ⟨a, d, p, ws, n', t, od, rfl, h1, h2, h3, h4, h5, I⟩ := ZbT R V
 have XK : (hK w.params).In s.heap := X.keeps R.toRep0.keep
 refine method_fn XK I (JD _) (ZhC _) (Zfq _) (Zhi _) ?_ h
 show (lookIn (Str.ofString "told") od).map (·.isSome) = some false
 rw [Zef h3 (by kernel_rfl)]
 rfl
theorem Zii (X : (hK w.params).In B₀) {Q : Bool → Shared → Prop} {e : Addr} {oe : Obj} (st : B₀.StaysIn s.heap) (he : s.heap.get? e = some oe) (hc : oe.cls = .ref 52) (h : Q true s) : wpAny (model prog w) A (excMatches (.ref e) (.ref 52)) Q E s :=
 exm_one (M := model prog w) (X.keeps st) (hc ▸ (Looks.ld he).andThen .now) (Zig _) A Q E s (fun _ _ e => e) h
theorem Zh2 {pg : Pg} (hf : pg.fn = Zbe) (hc : ∀ a, YQ (pg.ctr a) = true → a ∈ [85, 61, 96, 103, 111, 118, 126, 133, 140, 147, 154, 161, 168, 175, 182, 189, 196, 203, 210, 217, 224, 231, 238, 243]) (P : Params) : ∀ a, WU pg (.old a) = true → keepIn (hK P) (.ref a) = true := by
 intro a h
 refine Zei P a ?_
 change (match Nat.beq a 85 with | true => true | false => (match YQ (pg.fn a) with | true => true | false => YQ (pg.ctr a))) = true at h
 generalize q : Nat.beq a 85 = zz at h ⊢
 cases zz with
 | true => rw [Nat.eq_of_beq_eq_true q]; decide
 | false =>
  generalize q2 : YQ (pg.fn a) = zz at h ⊢
  cases zz with
  | false => exact hc a h
  | true =>
   rw [hf] at q2
   cases q3 : Zbe a with
   | none => rw [q3] at q2; exact xF q2
   | some f => exact (by decide : ∀ a ∈ [61, 96, 103, 111, 118, 126, 133, 140, 147, 154, 161, 168, 175, 182, 196, 203, 210, 217, 224, 231, 238], a ∈ [85, 61, 96, 103, 111, 118, 126, 133, 140, 147, 154, 161, 168, 175, 182, 189, 196, 203, 210, 217, 224, 231, 238, 243]) a (show a ∈ Zgn.map (·.1) from List.mem_map_of_mem (f := (·.1)) (J8 q3))
end
theorem Zif (P : Params) : subIn (hK P) (.ref 52) (.type "BaseException") = some true := by kernel_rfl
theorem Zgt (P : Params) : typeIn (hK P) (.ref 52) = some (.type "type") := by kernel_rfl
section
variable {prog : Program} {w : World} {B₀ : Heap} {outs : List Env} {L : Addr} {loc : List (Str × AV)} {Λ Λ' : Lay} {σ σ' : List AO} {ρ ρ' : List Addr} {A : Around} {E : Value → Shared → Prop} {s : Shared} {pg : Pg} {env : Env} {fi : FI} {n : Nat}
theorem ZbV (X : (hK w.params).In B₀) {Q : Flow → Shared → Prop} {x : AX} {e : Addr} (hh : A.handled = none) (st : B₀.StaysIn s.heap) (H : XC prog w Λ s.heap x e) (hE : ∀ tk, E (.ref e) { s with toks := tk }) :
  wpAny (model prog w) A (raiseStmt env (some (pure (.ref e))) none) Q E s := by
 obtain ⟨oe, vs, ha, _, hd, h2, ⟨d, od, kvs, v, b1, _⟩, h1⟩ := H
 have XK := X.keeps st
 have T : Looks (model prog w) s.heap (typeOf (.ref e)) (.ref 52) := b1 ▸ (Looks.ld ha).andThen .now
 have S : Looks (model prog w) s.heap (isInstance (.ref e) (.type "BaseException")) true := T.andThen (looks_subIn XK (Zif _))
 have TT : Looks (model prog w) s.heap (typeOf (.ref 52)) (.type "type") := looks_typeIn XK (Zgt _)
 have hnt : ∀ {Q' : Bool → Shared → Prop}, Q' false s → wpAny (model prog w) A (isType (.ref e)) Q' E s := by
  intro Q' hq
  refine wpAny_bind (wpAny_loadPart ha ?_)
  rw [hd]; exact wpAny_pure hq
 refine wpAny_bind (wpAny_pure ?_)
 refine wpAny_bind (wpAny_pure ?_)
 dsimp only
 refine wpAny_bind (wpAny_holding ?_)
 refine wpAny_bind (wpAny_bind (hnt ?_))
 refine wpAny_pure ?_
 refine wpAny_bind (S.here ?_)
 refine wpAny_pure ?_
 refine wpAny_bind (hnt ?_)
 refine wpAny_bind (wpAny_bind (T.here (wpAny_bind (TT.here ?_))))
 rw [if_pos (by decide)]
 refine wpAny_pure ?_
 refine wpAny_bind (wpAny_bind (wpAny_field ha hd h1 ?_))
 rw [if_neg (by decide)]
 refine wpAny_pure (wpAny_bind (wpAny_handled ?_))
 rw [hh]
 first
  | exact wpAny_throw (hE _)
  | exact wpAny_bind (wpAny_pure (wpAny_throw (hE _)))
end
theorem Ux (P : Params) : ∃ nm q N bs G sn sub ab col dd k0 k1 k2 k3 k5, (hK P).lookup 52 = some (excClassObj nm q 52 N bs [.ref G, .type "Exception", .type "BaseException", .type "object"] true sn sub ab col dd k0 k1 k2 k3 k5 "Exception.__new__") :=
 ⟨_, _, _, _, _, _, _, _, _, _, _, _, _, _, _, rfl⟩
theorem Zis (P : Params) : specialIn (hK P) (.ref 52) "__call__" = some (some (.builtin "type.__call__")) := by kernel_rfl
theorem ZkF (P : Params) : instIn (hK P) (.ref 52) (.type "type") = some true := by kernel_rfl
theorem Zim (P : Params) : mroIn (hK P) 52 (.ref 52) = some true := by kernel_rfl
theorem Zip (P : Params) : findIn (hK P) (.ref 52) "__init__" = some (some (.ref 29)) := by kernel_rfl
theorem Zgz (P : Params) : typeIn (hK P) (.ref 29) = some (.type "function") := by kernel_rfl
theorem Zja (P : Params) : findIn (hK P) (.ref 52) "__setattr__" = some (some (.builtin "object.__setattr__")) := by kernel_rfl
noncomputable def Z1 : Str := Str.ofString "what"
theorem Zmy (P : Params) : takerIn (hK P) 52 Z1 = some none := by kernel_rfl
theorem Zmx (P : Params) : takerIn (hK P) 52 sAt = some none := by kernel_rfl
theorem ZnV (P : Params) : (clsIn (hK P) 52).any (·.hasDict) = true := by kernel_rfl
theorem ZkG (P : Params) : mroIn (hK P) 52 (.type "object") = some true := by kernel_rfl
theorem Zmz (P : Params) : findCls (hK P) (.type "Exception") (.type "type") (Str.ofString "__init__") = some (.val (.builtin "Exception.__init__")) := by kernel_rfl
section
variable {prog : Program} {w : World} {A : Around} {R : Result → Shared → Prop} {h : Heap} {g : Array GenState} {d : Drawn} {t : Nat} {os : OsState} {P : Params}
noncomputable def YN (t0 : Addr) (dx : Option Addr) : Obj := { cls := .ref 52, dict := dx, data := .fields #[.ref t0, .none, .none, .none, .bool false, .none] }
noncomputable def ZaB (l : List Value) : Obj := { cls := .type "tuple", data := .seq l.toArray }
theorem ZkH {rest : List Value} (X : (hK P).In h) (hq : R (.ok (.ret (.ref (h.objs.size + 1)))) ⟨(h.push (ZaB rest)).push (YN h.objs.size none), g, d, t, os⟩) (hrest : rest.length ≤ sizeLine) :
  codeAny (model prog w) A (.call (.builtin "Exception.__new__") ⟨.ref 52 :: rest, []⟩) R ⟨h, g, d, t, os⟩ := by
 obtain ⟨nm, q, N, bs, G, sn, sub, ab, col, dd, k0, k1, k2, k3, k5, e⟩ := Ux P
 have hC := X _ _ e
 have Fn := PySem.F.excBase_Exception
 have hcB : (Value.ref 52 :: [.ref G, .type "Exception", .type "BaseException", .type "object"]).contains (.type "Exception") = true := by simp
 have hcA : (Value.ref 52 :: [.ref G, .type "Exception", .type "BaseException", .type "object"]).contains (.type "AttributeError") = false := by simp
 have hcN : (Value.ref 52 :: [.ref G, .type "Exception", .type "BaseException", .type "object"]).contains (.type "NameError") = false := by simp
 have hstar := Fn.noStar
 refine codeAny_call_builtin_code (Code.quiet_builtin _ Fn.quiet) ?_
 simp only [checkBuiltinCall, Fn.newKind, Fn.newSplit, Fn.newRow]
 repeat (first | refine wpAny_loadPart_at hC ?_ | (refine wpAny_isSubtype_exc hC ?_; rw [hcB]) | refine wpAny_staticBase_exc hC ?_ | refine wpAny_madeBy_exc hC ?_ | simp only [bne_self_eq_false, Bool.false_eq_true, if_false] | wp_step)
 have hends := Fn.ends
 refine codeAny_builtinAt Fn.entry ?_
 refine PySem.wpAt_bind ?_
 refine PySem.wpAt_bind (PySem.wpAt_stack fun p below => PySem.wpAt_of_wpAny ?_)
 wp_walk
 refine PySem.wpAt_of_wpAny ?_
 rw [Fn.owner]
 repeat (first | with_reducible refine wpAny_madeHere_exc Fn.canon hC ?_ | with_reducible refine wpAny_loadPart_at hC ?_ | (with_reducible refine wpAny_isSubtype_exc hC ?_; first | rw [hcB] | rw [hcA] | rw [hcN]) | wp_step)
 show R _ _
 rw [Heap.size_push]
 exact hq
theorem Zez (X : (hK P).In h) : Looks (model prog w) h (Bind.madeBy (.ref 52)) (some "Exception.__new__") := by
 obtain ⟨nm, q, N, bs, G, sn, sub, ab, col, dd, k0, k1, k2, k3, k5, e⟩ := Ux P
 intro A Q E s k z
 obtain ⟨hp, g, d, t, os⟩ := s
 exact wpAny_madeBy_exc (k _ _ (X _ _ e)) z
theorem Zin {rest : List Value} (X : (hK P).In h) (hrest : rest.length ≤ sizeLine)
  (hq : codeAny (model prog w) (A.under (.builtin "type.__call__" ⟨.ref 52 :: rest, []⟩)) (.call (.ref 29) ⟨.ref (h.objs.size + 1) :: rest, []⟩) (InitBack (h.objs.size + 1) R) ⟨(h.push (ZaB rest)).push (YN h.objs.size none), g, d, t, os⟩) :
  codeAny (model prog w) A (.call (.ref 52) ⟨rest, []⟩) R ⟨h, g, d, t, os⟩ := by
 obtain ⟨nm, q, N, bs, G, sn, sub, ab, col, dd, k0, k1, k2, k3, k5, e⟩ := Ux P
 have hC := X _ _ e
 have call := looks_specialIn (M := model prog w) X (Zis P)
 have typ := looks_instIn (M := model prog w) X (ZkF P)
 have made := Zez (prog := prog) (w := w) X
 have self := looks_mroIn (M := model prog w) X (Zim P)
 have hi := looks_findIn (M := model prog w) X (Zip P)
 have hb := bind_fn (M := model prog w) X (.ref (h.objs.size + 1)) (Zgz P)
 refine codeAny_of_tree ?_
 refine nd_load hC ?_
 show wpAny _ _ (callAny.viaDunder (.ref 52) _) _ _ _
 refine wpAny_bind (call.at ?_)
 dsimp only
 rw [tc_bind]
 refine wpAny_bind (wpAny_pure (wpAny_bind (wpAny_pure ?_)))
 refine wpAny_pure (a := Fin.again (.call (.builtin "type.__call__") ⟨.ref 52 :: rest, []⟩)) (And.intro rfl ?_)
 refine codeAny_call_builtin_at (Code.quiet_builtin _ (by decide +kernel)) entry_typeCall (check_slot tc_kind tc_split typ (tc_args _ _ _) ?_)
 have hm : Looks (model prog w) h (mroOf (.ref 52)) [.ref 52, .ref G, .type "Exception", .type "BaseException", .type "object"] := ((Looks.ld (part := none) hC).andThen .now).andThen .now
 repeat (first | simp only [List.isEmpty_cons, Bool.false_eq_true, if_false] | with_reducible refine wpAny_call ?_ | lk)
 refine ZkH X ?_ hrest
 have k : ∀ b o, h.get? b = some o → ((h.push (ZaB rest)).push (YN h.objs.size none)).get? b = some o := fun b o e => Heap.get?_push_of_some _ (Heap.get?_push_of_some _ e)
 have hx : ((h.push (ZaB rest)).push (YN h.objs.size none)).get? (h.objs.size + 1) = some (YN h.objs.size none) := by
  refine Heap.get?_push_at ?_ rfl
  rw [Heap.size_push]
 have t1 : Looks (model prog w) ((h.push (ZaB rest)).push (YN h.objs.size none)) (typeOf (.ref (h.objs.size + 1))) (.ref 52) := (Looks.ld hx).andThen .now
 have s1 := self.keeps k
 have i1 := hi.keeps k
 have b1 := hb.keeps k
 repeat (first | with_reducible refine wpAny_call ?_ | lk)
 refine codeAny_mono hq fun r s' z => ?_
 obtain e | (v | _ | _ | _) := r <;> first | exact z | exact z.elim | skip
 obtain ⟨rfl, z⟩ := z
 exact wpAny_pure (wpAny_pure z)
end
section
open PySem.Builtin PySem.Builtin.ObjectAttr
section
variable {prog : Program} {w : World} {A : Around} {E : Value → Shared → Prop} {R : Result → Shared → Prop} {h : Heap} {g : Array GenState} {d : Drawn} {t : Nat} {os : OsState} {P : Params} {e : Addr} {t0 : Addr}
theorem ZmA {x : Value} {Q : Value → Shared → Prop} (X : (hK P).In h) (he : h.get? e = some (YN t0 none))
  (hq : ∀ h', (∀ b o, b ≠ e → h.get? b = some o → h'.get? b = some o) → h'.get? e = some (YN h.objs.size none) → Q .none ⟨h', g, d, t, os⟩) :
  wpAny (model prog w) A (call (.builtin "Exception.__init__") [.ref e, x]) Q E ⟨h, g, d, t, os⟩ := by
 obtain ⟨nm, q, N, bs, G, sn, sub, ab, col, dd, k0, k1, k2, k3, k5, e0⟩ := Ux P
 have hC := X _ _ e0
 have F := PySem.F.excBase_Exception
 have hcB : (Value.ref 52 :: [.ref G, .type "Exception", .type "BaseException", .type "object"]).contains (.type "Exception") = true := by simp
 have hshort := F.noStar
 have hcls : (YN t0 none).cls = .ref 52 := rfl
 refine wpAny_call (codeAny_call_builtin F.init.plain F.initEntry ?_)
 simp only [checkBuiltinCall, F.initKind, F.initSplit, F.initRow]
 repeat (first | (with_reducible refine wpAny_loadPart_at he ?_; rw [hcls]) | with_reducible refine wpAny_loadPart_at hC ?_ | (with_reducible refine wpAny_isSubtype_exc hC ?_; rw [hcB]) | wp_step)
 have es : e ≠ h.objs.size := Nat.ne_of_lt (Heap.lt_size he)
 refine hq _ (fun b o nb hb => ?_) ?_
 ·rw [Heap.get?_update_other _ _ (Ne.symm nb)]
  exact Heap.get?_push_of_some _ hb
 ·rw [Heap.get?_update_self _ (Heap.get?_push_of_some _ he) rfl]
  rfl
end
section
variable {prog : Program} {w : World} {A : Around} {E : Value → Shared → Prop} {R : Result → Shared → Prop} {s : Shared} {e : Addr} {t0 : Addr} {ox : Obj} {od od' : Option Obj} {name : Str} {tk : Tok} {v : Value}
set_option tactic.hygienic true in
theorem ZfB {dx : Addr} {od od' : Obj} {es : List DictEntry} {n : Nat} {Q : Fin → Shared → Prop} (hl : (lookIn name od).isSome = true) (D : s.heap.get? dx = some od)
  (e : Obj.putName name (PyData.keyHash w.params name) (.str name s.toks) v od = od') (e' : od'.data = .dict es.toArray n) (hz : es.length ≤ 1000)
  (q : Q (.done (.ret .none)) { s with heap := s.heap.update dx (Obj.putName name (PyData.keyHash w.params name) (.str name s.toks) v), toks := s.toks + 1 }) :
  wpAny (model prog w) A (storeInDict dx (.str name tk) name v) Q E s := by
 have D' : (s.heap.update dx (Obj.putName name (PyData.keyHash w.params name) (.str name s.toks) v)).get? dx = some od' := by
  rw [← e]
  exact Heap.get?_update_self _ D (by rw [e]; obtain ⟨_, _, dd, _⟩ := od'; cases e'; rfl)
 refine wpAny_bind (wpAny_pure (wpAny_bind ?_))
 refine wpAny_bind (wpAny_bind (wpAny_askSetting (wpAny_pure (wpAny_bind (wpAny_mkText (wpAny_bind (wpAny_loadPart D ?_)))))))
 obtain ⟨es₀, n₀, q', c⟩ := UN hl
 rw [q']
 dsimp only
 rw [aRefKeyMayBeTheName_at, c]
 refine wpAny_updatePart D ?_
 refine wpAny_bind (wpAny_lookBehind D' (by rw [e']; exact pastItsLine_dict (by rw [List.size_toArray, sizeLine_eq]; omega)) ?_)
 exact wpAny_pure q
theorem Zgy {od : Option Obj} (X : (hK w.params).In s.heap) (I : InstAt s.heap e ox 52 od) (ht : takerIn (hK w.params) 52 name = some none)
  (h : ∀ b, wpAny (model prog w) A.in1 (storeInOwnDict (.ref e) (.ref 52) (.str name tk) name v b)
   (fun fin s' => match fin with | .done f => R (.ok f) s' | .again c' => c'.quiet = true ∧ codeAny (model prog w) A c' R s') (fun e s' => R (.error e) s') s) :
  codeAny (model prog w) A (.call (.builtin "object.__setattr__") ⟨[.ref e, .str name tk, v], []⟩) R s := by
 have SF := PySem.F.store_object
 obtain ⟨nm, q, N, bs, G, sn, sb, ab, col, dd, k0, k1, k2, k3, k5, e0⟩ := Ux w.params
 have sub : Looks (model prog w) s.heap (isInstance (.ref e) (.type "object")) true := I.type.andThen (looks_mroIn X (ZkG w.params))
 refine codeAny_call_builtin SF.slot.plain SF.entry (@check_slot (model prog w) _ _ s "object.__setattr__" "object" "__setattr__" (.ref e) [.str name tk, v] [] _ SF.kind SF.split sub (SF.args (.ref e) (.str name tk) v) ?_)
 obtain ⟨attr, ha, hr⟩ := Option.bind_eq_some_iff.mp ht
 have hC := X _ _ e0
 have hm : Looks (model prog w) s.heap (mroOf (.ref 52)) [.ref 52, .ref G, .type "Exception", .type "BaseException", .type "object"] := ((Looks.ld (part := none) hC).andThen .now).andThen .now
 have L3 : Looks (model prog w) s.heap (storeTaker? attr) none := by
  cases attr with
  | none => exact .now
  | some a =>
   obtain ⟨b, hb, hz⟩ := Option.map_eq_some_iff.mp hr
   refine (looks_takesIn X hb).andThen ?_
   cases b <;> first | exact .now | exact xS hz
 rw [osa_eq, refuse_eq]
 refine wpAny_bind (wpAny_bind (I.type.here (wpAny_bind (hm.here ?_))))
 rw [refuseLoop_ref, refuseLoop_ref, PySem.F.store_Exception.passes]
 refine wpAny_pure (wpAny_bind (I.type.here (wpAny_bind ((looks_findIn X ha).here (wpAny_bind (L3.here ?_))))))
 exact h _
theorem ZgA (P : Params) : ∃ cd, clsIn (hK P) 52 = some cd ∧ cd.hasDict = true := by
 obtain ⟨nm, q, N, bs, G, sn, sb, ab, col, dd, k0, k1, k2, k3, k5, e0⟩ := Ux P
 exact ⟨_, by unfold clsIn; rw [e0], rfl⟩
theorem Zil {Q : Unit → Shared → Prop} {P : Params} (hP : P = w.params) (X : (hK P).In s.heap) (he : s.heap.get? e = some (YN t0 none)) (ht : takerIn (hK P) 52 name = some none)
  (hq : ∀ h' dx, (∀ b o, b ≠ e → s.heap.get? b = some o → h'.get? b = some o) → h'.get? e = some (YN t0 (some dx)) → s.heap.get? dx = none → dx ≠ e →
   h'.get? dx = some ⟨.type "dict", none, .dict [⟨PyData.keyHash P name, .str name (s.toks + 1), v⟩].toArray 1, #[]⟩ → Q () { s with heap := h', toks := s.toks + 2 }) :
  wpAny (model prog w) A (setAttr (.ref e) name v) Q E s := by
 subst hP
 obtain ⟨hp, g, d, t, os⟩ := s
 have I : InstAt hp e (YN t0 none) 52 none := ⟨he, rfl, rfl, trivial⟩
 obtain ⟨cd, hc, hcd⟩ := ZgA w.params
 refine set_plain (od := none) X I (Zja _) ?_
 refine Zgy (s := ⟨hp, g, d, t + 1, os⟩) X I ht fun b => ?_
 refine wpAny_bind (wpAny_pure (wpAny_bind (wpAny_bind (wpAny_loadPart he (wpAny_bind ((looks_clsIn X hc).at ?_))))))
 rw [hcd]
 have es : e ≠ hp.objs.size := Nat.ne_of_lt (Heap.lt_size he)
 have hx₁ : (hp.push { cls := .type "dict", data := .dict #[] }).get? e = some (YN t0 none) := Heap.get?_push_of_some _ he
 refine wpAny_bind (wpAny_alloc' ?_)
 refine wpAny_bind (wpAny_update' hx₁ ?_)
 refine wpAny_pure ?_
 have hgd : ((hp.push { cls := .type "dict", data := .dict #[] }).update e fun o => { cls := o.cls, dict := some hp.objs.size, data := o.data, slots := o.slots }).get? hp.objs.size = some { cls := .type "dict", data := .dict #[] } :=
  (Heap.get?_update_ne _ _ _ _ es.symm).trans (Heap.get?_push_at rfl rfl)
 refine ZfB (s := ⟨_, g, d, t + 1, os⟩) (od' := ⟨.type "dict", none, .dict [⟨PyData.keyHash w.params name, .str name (t + 1), v⟩].toArray 1, #[]⟩) ?_ hgd rfl rfl (by simp) ?_
 ·rfl
 ·refine hq _ hp.objs.size (fun b o nb hb => ?_) ?_ (Heap.get?_none_of_le (Nat.le_refl _)) es.symm ?_
  ·have nz : b ≠ hp.objs.size := Nat.ne_of_lt (Heap.lt_size hb)
   exact (Heap.get?_update_ne _ _ _ _ nz).trans ((Heap.get?_update_ne _ _ _ _ nb).trans (Heap.get?_push_of_some _ hb))
  ·refine (Heap.get?_update_ne _ _ _ _ es).trans (Heap.get?_update_self _ hx₁ rfl)
  ·exact Heap.get?_update_self _ hgd rfl
theorem Zik {Q : Unit → Shared → Prop} {P : Params} {dx : Addr} {od od' : Obj} {es : List DictEntry} {n : Nat} (hP : P = w.params) (X : (hK P).In s.heap) (he : s.heap.get? e = some (YN t0 (some dx))) (D : s.heap.get? dx = some od) (ht : takerIn (hK P) 52 name = some none)
  (hl : (lookIn name od).isSome = true) (e1 : Obj.putName name (PyData.keyHash P name) (.str name (s.toks + 1)) v od = od') (e' : od'.data = .dict es.toArray n) (hz : es.length ≤ 1000)
  (hq : ∀ h', (∀ b o, b ≠ dx → s.heap.get? b = some o → h'.get? b = some o) → h'.get? dx = some od' → Q () { s with heap := h', toks := s.toks + 2 }) :
  wpAny (model prog w) A (setAttr (.ref e) name v) Q E s := by
 subst hP
 obtain ⟨hp, g, d, t, os⟩ := s
 have I : InstAt hp e (YN t0 (some dx)) 52 (some od) := ⟨he, rfl, rfl, D⟩
 obtain ⟨cd, hc, hcd⟩ := ZgA w.params
 refine set_plain (od := some od) X I (Zja _) ?_
 refine Zgy (s := ⟨hp, g, d, t + 1, os⟩) X I ht fun b => ?_
 refine wpAny_bind (wpAny_pure (wpAny_bind (wpAny_bind (wpAny_loadPart he (wpAny_bind ((looks_clsIn X hc).at ?_))))))
 rw [hcd]
 refine wpAny_pure ?_
 refine ZfB (s := ⟨hp, g, d, t + 1, os⟩) hl D e1 e' hz ?_
 refine hq _ (fun b o nb hb => (Heap.get?_update_ne _ _ _ _ nb).trans hb) ?_
 rw [← e1]
 exact Heap.get?_update_self _ D (by rw [e1]; obtain ⟨_, _, dd, _⟩ := od'; cases e'; rfl)
end
end
noncomputable def U3 : Str := Str.ofString "Exception"
noncomputable def Zly : Str := Str.ofString "__init__"
theorem ZlR (P : Params) {G : Prop} (kk : ∀ o fd names p0 p1 p2 p3 p4 p5 q0 q1 q2 q3 r0 r1 r2 r3 T oT, ZS (hK P) 29 ⟨[.Expr (.Call (.Attribute (.Name U3 p1) Zly p2) [.Name ZF p3, .Name Z1 p4] [] p5) p0, .Assign [.Attribute (.Name ZF q1) Z1 q2] (.Name Z1 q3) q0, .Assign [.Attribute (.Name ZF r1) sAt r2] (.Name sAt r3) r0], names, bindL [(ZF, none), (Z1, none), (sAt, none)]⟩ o fd → fd.defaults = .ref T → (hK P).lookup T = some oT → oT.data = .seq #[.none] 0 → ((∀ x y : Value, ∃ k, bindArgs fd ⟨[x, y], []⟩ = seqItems? fd.defaults >>= k ∧ k (some #[.none]) = pure [(ZF, x), (Z1, y), (sAt, .none)])) → ((∀ x y z : Value, ∃ k, bindArgs fd ⟨[x, y, z], []⟩ = seqItems? fd.defaults >>= k ∧ k (some #[.none]) = pure [(ZF, x), (Z1, y), (sAt, z)])) → Zw fd ZF = true → Zw fd Z1 = true → Zw fd sAt = true → Ze ZF names = some .local → Ze Z1 names = some .local → Ze sAt names = some .local → Ze U3 names = some .globalImplicit → Nat.beq p2.endLine p5.line = true → G) : G := by
 refine kk _ _ _ _ _ _ _ _ _ _ _ _ _ _ _ _ _ _ _ ⟨rfl, rfl, rfl, rfl, rfl, rfl, rfl, ?_, rfl, rfl, ?_⟩ rfl rfl rfl ?_ ?_ ?_ ?_ ?_ ?_ ?_ ?_ ?_ ?_
 ·kernel_rfl
 ·kernel_rfl
 ·intro x y; exact ⟨_, rfl, rfl⟩
 ·intro x y z; exact ⟨_, rfl, rfl⟩
 ·kernel_rfl
 ·kernel_rfl
 ·kernel_rfl
 ·kernel_rfl
 ·kernel_rfl
 ·kernel_rfl
 ·kernel_rfl
 ·kernel_rfl
theorem Zit : bootBuiltins U3 = some (.type "Exception") := by kernel_rfl
theorem Ziq (P : Params) : nsIn (hK P) mainGlobals U3 = some none := by kernel_rfl
theorem Zmw : typeOf (.type "Exception") = pure (.type "type") := by first | rfl | kernel_rfl
theorem Zio : (Z1 == sAt) = false := by decide +kernel
section
variable {prog : Program} {w : World} {B₀ : Heap} {mb : Str → Option Value}
theorem Zir {P : Params} (hP : P = w.params) {tk1 tk2 : Tok} {x y : Value} : Obj.IsDictOf (strKind prog w) ⟨.type "dict", none, .dict [⟨PyData.keyHash P Z1, .str Z1 tk1, x⟩, ⟨PyData.keyHash P sAt, .str sAt tk2, y⟩].toArray 2, #[]⟩ [(Z1, x), (sAt, y)] := by
 subst hP
 refine ⟨_, _, ⟨rfl, rfl, rfl⟩, rfl, ?_, ?_, ?_⟩
 ·intro e he
  have : e ∈ ([⟨PyData.keyHash w.params Z1, .str Z1 tk1, x⟩, ⟨PyData.keyHash w.params sAt, .str sAt tk2, y⟩] : List DictEntry) := by simpa using he
  obtain rfl | this := List.mem_cons.mp this
  ·exact ⟨Z1, ZO _ _, rfl⟩
  ·obtain rfl | this := List.mem_cons.mp this
   ·exact ⟨sAt, ZO _ _, rfl⟩
   ·(exfalso; cases this)
 ·exact .cons (ZO _ _) rfl (.cons (ZO _ _) rfl .nil)
 ·show [Z1, sAt].Nodup
  decide +kernel
variable {outs : List Env} {L : Addr} {loc : List (Str × AV)} {Λ Λ' : Lay} {σ σ' : List AO} {ρ ρ' : List Addr} {A : Around} {E : Value → Shared → Prop} {s : Shared} {env : Env} {fi : FI} {n : Nat}
set_option maxHeartbeats 2000000 in
theorem ZeT {Λ : Lay} {v : AV} {x : Value} (V : VT prog w Λ v x) : Ym v = true := by
 cases (V) <;> rfl
theorem ZeU {Λ : Lay} {v : AV} {x : Value} (V : VT prog w Λ v x) : Za3 v = true := by
 cases (V) <;> rfl
theorem Zdo (X : (hK w.params).In B₀) (hlim : B₀.NoLimit) (hb : B₀.Ns builtinsNs mb) (hbb : mb U3 = some (.type "Exception")) {Q : Value → Shared → Prop} {x y : Value} {tx : Tok} {wh : Str} {av : AV} {rest : List Value} (C : Cx B₀ A env outs L fi (n + 1)) (hx : x = .str wh tx)
  (Vy : ∀ Λ, VT prog w Λ av y) (hr : (rest = [x] ∧ y = .none) ∨ rest = [x, y]) (R : Rep prog w B₀ outs L loc Λ σ ρ s.heap)
  (hQ : ∀ e Λ' h' tk, Λ.le Λ' → Rep prog w B₀ outs L loc Λ' σ ρ h' → XC prog w Λ' h' ⟨av⟩ e → Q (.ref e) { s with heap := h', toks := tk }) : wpAny (model prog w) A (call (.ref 52) rest) Q E s := by
 obtain ⟨h, g, d, t, os⟩ := s
 have hkm : env.scope.kind ≠ .module := by rw [C.kind]; exact nofun
 refine ZlR w.params fun o fd names p0 p1 p2 p3 p4 p5 q0 q1 q2 q3 r0 r1 r2 r3 T oT H hdf hT hTd hb1 hb2 i1 i2 i3 k1 k2 k3 k4 hl => ?_
 have hrest : rest.length ≤ sizeLine := by obtain ⟨rfl, _⟩ | rfl := hr <;> (rw [sizeLine_eq]; simp)
 have hB : ∀ (e : Addr) (s : Shared), B₀.StaysIn s.heap → BindsTo s fd ⟨.ref e :: rest, []⟩ [(ZF, .ref e), (Z1, x), (sAt, y)] := by
  obtain ⟨rfl, rfl⟩ | rfl := hr
  ·intro e s st
   obtain ⟨k, q1, q2⟩ := hb1 (.ref e) x
   exact BindsTo.of_defaults hdf (st _ _ (X _ _ hT)) hTd q1 q2
  ·intro e s st
   obtain ⟨k, q1, q2⟩ := hb2 (.ref e) x y
   exact BindsTo.of_defaults hdf (st _ _ (X _ _ hT)) hTd q1 q2
 have XK : (hK w.params).In h := X.keeps R.toRep0.keep
 refine wpAny_call (Zin XK hrest ?_)
 have keep2 : ∀ b o, h.get? b = some o → ((h.push (ZaB rest)).push (YN h.objs.size none)).get? b = some o := fun b o e => Heap.get?_push_of_some _ (Heap.get?_push_of_some _ e)
 have ga : ((h.push (ZaB rest)).push (YN h.objs.size none)).get? (h.objs.size + 1) = some (YN h.objs.size none) := by
  refine Heap.get?_push_at ?_ rfl
  rw [Heap.size_push]
 obtain ⟨Λ₁, l₁, _, ea, R₀⟩ := R.forget (a := h.objs.size + 1) (Heap.get?_none_of_le (Nat.le_succ _))
 have R₁ := R₀.grow keep2
 generalize hh' : (h.push (ZaB rest)).push (YN h.objs.size none) = h' at ga R₁ ⊢
 generalize he' : h.objs.size + 1 = e at ga ea ⊢
 have st := R₁.toRep0.keep
 have hcell : ∀ y ∈ fd.scope.names, y.2 ≠ .cell := fun y hy z => by
  have := List.all_eq_true.mp H.nocell y hy
  rw [z] at this; exact xF this
 refine codeAny_call_def (fd := fd) (binds := [(ZF, .ref e), (Z1, x), (sAt, y)]) ?_ (st _ _ (X _ _ H.at_)) H.dat (hlim.keeps st) ((codeRec_of X H.code).keeps st) H.body (hB e _ st) hcell
  (Ub (by show (Zw fd ZF && (Zw fd Z1 && (Zw fd sAt && true))) = true; rw [i1, i2, i3]; rfl)) (fun h₂ hns hkeep => ?_) H.co H.gen H.kind
 ·exact Nat.lt_of_le_of_lt (Nat.le_trans (Nat.add_le_add_left (Nat.succ_le_succ (Nat.zero_le n)) A.depth) C.depth) (by decide)
 ·have hLoc : ∀ (Λ : Lay) (ρ : List Addr), Yp prog w Λ ρ [(ZF, .old e), (Z1, .str wh), (sAt, av)] (fun z => ([(ZF, .ref e), (Z1, x), (sAt, y)] : List (Str × Value)).reverse.lookup z) := fun Λ ρ => by
   refine ((Y9.cons ?_ (.inl (Vy Λ))).cons ?_ (show VR prog w Λ ρ (.str wh) x from hx ▸ Jk wh tx)).cons ?_ (.inl (.old e))
   ·show ([(sAt, y), (Z1, x), (ZF, .ref e)] : List (Str × Value)).lookup sAt = _; simp [List.lookup_cons]
   ·show ([(sAt, y), (Z1, x), (ZF, .ref e)] : List (Str × Value)).lookup Z1 = _; simp [List.lookup_cons, Zio]
   ·have n1 : (ZF == sAt) = false := by decide +kernel
    have n2 : (ZF == Z1) = false := by decide +kernel
    show ([(sAt, y), (Z1, x), (ZF, .ref e)] : List (Str × Value)).lookup ZF = _; simp [List.lookup_cons, n1, n2]
  obtain ⟨Λ₂, oL, R₂, sees, hoL, tL, tL', hne, fr, hst⟩ := R₁.enterCall (b := fi.comp) hkm C.frame (L' := h'.objs.size) (Heap.get?_none_of_le (Nat.le_refl _)) R₁.toRep0.size hkeep hns (fun Λ' ss bb => hLoc Λ' ρ)
  have hko : ∀ z k, Ze z names = some k → (callEnv fd h'.objs.size 29).kindOf z = some k := fun z k e => by
   show fd.scope.names.lookup z = some k
   rw [H.names, ← Ye]; exact e
  have hke : (callEnv fd h'.objs.size 29).scope.kind = .function := H.kind
  have neL : e ≠ L := fun q => by rw [q, R₁.cur] at ea; (exfalso; cases ea)
  have neL' : e ≠ h'.objs.size := fun q => by rw [q, Heap.get?_none_of_le (Nat.le_refl _)] at ga; exact xN ga
  have e2 : Λ₂ e = .free := (hst e neL neL').trans ea
  have g2 : h₂.get? e = some (YN h.objs.size none) := hkeep _ _ ga
  have X2 : (hK w.params).In h₂ := X.keeps R₂.toRep0.keep
  obtain ⟨m₂, ns₂, lr₂⟩ := R₂.ns
  obtain ⟨m₂', F₂, _⟩ := R₂.frame
  refine wpAny_execs_cons (wpAny_Expr_any ?_ (VG hke) (Wb rfl _ _))
  rw [arm_eval_Call, W8 rfl]
  refine wpAny_bind (wpAny_Name ?_ (by decide +kernel))
  rw [loadName_read hke (hko _ _ k4)]
  refine Zah X hb (Ziq _) hbb H.glob H.bi R₂.toRep0.keep ?_
  refine wpAny_bind (wpAny_standAt ?_)
  unfold methodCall
  have few : methodCallForm (([.Name ZF p3, .Name Z1 p4] : List Expr).length + ([] : List Keyword).length) (backTo p5 (starEach [.Name ZF p3, .Name Z1 p4] (callEnv fd h'.objs.size 29))) (backToKw p5 (keywordEach [] (callEnv fd h'.objs.size 29))) = true := by
   unfold methodCallForm
   rw [Y8 rfl]
   rfl
  rw [few]
  refine wpAny_bind (wpAny_holding ?_)
  refine method_type F₂ X Zmw (by decide +kernel) (Zmz _) (by decide +kernel) ?_
  have hp : methodCallPos true (.Name U3 p1) (callEnv fd h'.objs.size 29) p2 p5 = pure p5 := by
   unfold methodCallPos
   have e1 : p2.endLine = p5.line := Nat.eq_of_beq_eq_true hl
   simp [e1]
  rw [hp]
  refine wpAny_bind (wpAny_pure ?_)
  obtain ⟨ys, hys, Vs⟩ := lr₂.look (x := ZF) rfl rfl
  obtain rfl := Vs.old_
  obtain ⟨yw, hyw, Vw⟩ := lr₂.look (x := Z1) rfl rfl
  obtain ⟨tw, rfl⟩ := Vw.str_
  refine callWith_builtin (Yg rfl) (YT rfl (spliced_more (wpAny_Name (wpAny_loadName_local hke (hko _ _ k1) ns₂ hys ?_) (by decide +kernel))))
  refine spliced_more (wpAny_Name (wpAny_loadName_local hke (hko _ _ k2) ns₂ hyw ?_) (by decide +kernel))
  refine spliced_none ?_
  refine ZmA X2 g2 fun h₃ o₃ g₃ => ?_
  have R₃ := R₂.other e2 o₃
  have X3 : (hK w.params).In h₃ := X.keeps R₃.toRep0.keep
  obtain ⟨m₃, ns₃, lr₃⟩ := R₃.ns
  obtain ⟨ys, hys, Vs⟩ := lr₃.look (x := ZF) rfl rfl
  obtain rfl := Vs.old_
  obtain ⟨yw, hyw, Vw⟩ := lr₃.look (x := Z1) rfl rfl
  obtain ⟨tw', rfl⟩ := Vw.str_
  refine wpAny_execs_cons (Z9 rfl rfl ?_ rfl)
  refine wpAny_Name (wpAny_loadName_local hke (hko _ _ k2) ns₃ hyw ?_) (by decide +kernel)
  rw [assign_Attribute]
  refine wpAny_bind (wpAny_holding (wpAny_Name (wpAny_loadName_local hke (hko _ _ k1) ns₃ hys ?_) (by decide +kernel)))
  refine wpAny_bind (wpAny_standAt (wpAny_bind (wpAny_holding ?_)))
  refine Zil rfl X3 g₃ (Zmy _) fun h₄ dx o₄ g₄ n₄ ne₄ d₄ => ?_
  refine wpAny_release ?_
  obtain ⟨Λ₃, l₃, f₃, e₃, R₃'⟩ := R₃.forget n₄
  have R₄ := R₃'.other (f₃ _ e2) o₄
  have X4 : (hK w.params).In h₄ := X.keeps R₄.toRep0.keep
  obtain ⟨m₄, ns₄, lr₄⟩ := R₄.ns
  obtain ⟨ys, hys, Vs⟩ := lr₄.look (x := ZF) rfl rfl
  obtain rfl := Vs.old_
  refine wpAny_execs_cons (Z9 rfl rfl ?_ rfl)
  obtain ⟨ya, hya, Va⟩ : ∃ ya, m₄ sAt = some ya ∧ VR prog w Λ₃ ρ av ya := lr₄.look (x := sAt) rfl (ZeU (Vy Λ))
  refine wpAny_Name (wpAny_loadName_local hke (hko _ _ k3) ns₄ hya ?_) (by decide +kernel)
  rw [assign_Attribute]
  refine wpAny_bind (wpAny_holding (wpAny_Name (wpAny_loadName_local hke (hko _ _ k1) ns₄ hys ?_) (by decide +kernel)))
  refine wpAny_bind (wpAny_standAt (wpAny_bind (wpAny_holding ?_)))
  refine Zik (od' := ⟨.type "dict", none, .dict [⟨PyData.keyHash w.params Z1, .str Z1 _, .str wh tw'⟩, ⟨PyData.keyHash w.params sAt, .str sAt _, ya⟩].toArray 2, #[]⟩) rfl X4 g₄ d₄ (Zmx _) rfl rfl rfl (by simp) fun h₅ o₅ d₅ => ?_
  refine wpAny_release ?_
  have R₅ := R₄.other (d := dx) e₃ o₅
  have g₅ := o₅ e _ ne₄.symm g₄
  refine wpAny_execs_nil ?_
  obtain ⟨Λ₄, l₄, s₄, R₆, f₄⟩ := R₁.exitCall hoL sees tL tL' hne fr hst l₃ (List.prefix_refl _) R₅
  have R₇ := R₆.settle (t := .frz _) (f₄ _ e₃) d₅
  have lz := fun od : Obj => Lay.le_up (Λ := Λ₄) (a := dx) (.frz od) (.inl (f₄ _ e₃))
  have hn := ZeT (Vy Λ)
  refine ⟨rfl, hQ e _ h₅ _ ((l₁.trans l₄).trans (lz _)) R₇ ⟨_, _, g₅, ?_, rfl, (by simp), ⟨dx, _, _, ya, rfl, rfl, Lay.up_self .., Zir rfl, rfl, ((Va.tree hn).mono s₄).mono (lz _).sees⟩, rfl⟩⟩
  rw [Lay.up_ne _ _ ne₄.symm]
  exact f₄ _ (f₃ _ e2)
theorem ZjW (X : (hK w.params).In B₀) (hlim : B₀.NoLimit) (hb : B₀.Ns builtinsNs mb) (hbb : mb U3 = some (.type "Exception")) {Q : Value → Shared → Prop} {vs : List AV} {xs : List Value} {K : AV → Prop} (C : Cx B₀ A env outs L fi (n + 1))
  (hv : Zgx vs K) (R : Rep prog w B₀ outs L loc Λ σ ρ s.heap) (V : VRs prog w Λ ρ vs xs)
  (hQ : ∀ a e Λ' h' tk, K a → Λ.le Λ' → Rep prog w B₀ outs L loc Λ' σ ρ h' → XC prog w Λ' h' ⟨a⟩ e → Q (.ref e) { s with heap := h', toks := tk }) : wpAny (model prog w) A (call (.ref 52) xs) Q E s := by
 cases vs with
 | nil => exact hv.elim
 | cons m vs =>
  cases m with
  | str m =>
   cases vs with
   | nil =>
    obtain ⟨x, rfl, Vx⟩ := V.one
    obtain ⟨t, rfl⟩ := Vx.str_
    exact Zdo X hlim hb hbb C rfl (fun _ => .none) (.inl ⟨rfl, rfl⟩) R fun e Λ' h' tk l R' H => hQ _ e Λ' h' tk hv l R' H
   | cons u vs =>
    cases vs with
    | cons _ _ => exact hv.elim
    | nil =>
     cases u with
     | int i =>
      obtain ⟨x, y, rfl, Vx, Vy⟩ := V.two
      obtain ⟨t, rfl⟩ := Vx.str_
      obtain ⟨u, rfl⟩ := Vy.int_
      exact Zdo X hlim hb hbb C rfl (fun _ => .int i u) (.inr rfl) R fun e Λ' h' tk l R' H => hQ _ e Λ' h' tk hv l R' H
     | _ => exact hv.elim
  | _ => exact hv.elim
end
noncomputable abbrev Xg : Str := Str.ofString "pen"
noncomputable abbrev Xw : Str := Str.ofString "many"
noncomputable abbrev We : Str := Str.ofString "digit"
noncomputable abbrev Yk : Str := Str.ofString "int"
noncomputable abbrev Zlx : Str := Str.ofString "pop"
noncomputable abbrev pn (i : Int) (a b c : Pos) : Expr := .Subscript (.Name Xg a) (.Constant (.int i) 0 b) c
noncomputable abbrev kI (i : Int) (a : Pos) : Expr := .Constant (.int i) 0 a
section
variable {prog : Program} {w : World} {B₀ : Heap} {outs : List Env} {L : Addr} {loc : List (Str × AV)} {Λ Λ' : Lay} {σ σ' : List AO} {ρ ρ' : List Addr} {A : Around} {E : Value → Shared → Prop} {s : Shared} {pg : Pg} {env : Env} {fi : FI} {n : Nat} {h h' : Heap}
theorem Rep.retouch (R : Rep prog w B₀ outs L loc Λ σ ρ h) {P : Addr} {t : Tag} (hP : Λ P = t) (ht : t = .pen ∨ t = .penq) (hs : ∀ b o, b ≠ P → h.get? b = some o → h'.get? b = some o) (ho : Ud h' Λ P t) : Rep prog w B₀ outs L loc Λ σ ρ h' := by
 have nL : L ≠ P := fun q => by rw [← q, R.cur] at hP; obtain rfl | rfl := ht <;> (exfalso; cases hP)
 obtain ⟨m, ns, l⟩ := R.ns
 refine ⟨⟨R.b0, fun a => ?_, R.len, fun k ao e => (R.led k ao e).grow fun a o z => hs a o fun q => ?_, R.z0, R.sm⟩, R.out, R.cur, ⟨m, ns.at' fun o e => hs _ o nL e, l⟩, R.lA⟩
 ·by_cases q : a = P
  ·subst q; rw [hP]; exact ho
  ·exact (R.tag a).grow (fun o => hs a o q) fun _ q => q
 ·rw [q, hP] at z; obtain rfl | rfl := ht <;> (exfalso; cases z)
theorem Rep.penAt (R : Rep prog w B₀ outs L loc Λ σ ρ h) {P : Addr} (hP : Λ P = .pen) : ∃ q c t u t' n, Λ q = .penq ∧ h.get? P = some (Zn [.ref q, .int c t, .int u t'] n) := by
 have := R.tag P
 rw [hP] at this
 obtain ⟨o, e, q, c, t, u, t', n, hq, rfl⟩ := this
 exact ⟨q, c, t, u, t', n, hq, e⟩
theorem Rep.queueAt (R : Rep prog w B₀ outs L loc Λ σ ρ h) {q : Addr} (hq : Λ q = .penq) : ∃ ws ns n, IntsAre ws ns ∧ ws.length ≤ 1000 ∧ h.get? q = some (Zn ws n) := by
 have := R.tag q
 rw [hq] at this
 obtain ⟨o, e, ws, ns, n, h1, h2, rfl⟩ := this
 exact ⟨ws, ns, n, h1, h2, e⟩
theorem VR.pen_ {x : Value} (V : VR prog w Λ ρ .pen x) : ∃ P, x = .ref P ∧ Λ P = .pen := by
 obtain V | ⟨_, _, e, _⟩ := V
 ·cases V with | pen h => exact ⟨_, rfl, h⟩
 ·(exfalso; cases e)
theorem W0 {i : Int} {a b c : Pos} {m : Str → Option Value} {P : Addr} {ws : List Value} {k : Nat} {v : Value} {Q : Value → Shared → Prop} (hk : env.scope.kind = .function) (hx : env.kindOf Xg = some .local) (ns : s.heap.Ns env.locals m) (hm : m Xg = some (.ref P))
  (e : s.heap.get? P = some (Zn ws k)) (h0 : 0 ≤ i) (h1 : i < 2 ^ 63) (hv : ws[i.toNat]? = some v) (hq : ∀ tk, Q v { s with toks := tk }) : wpAny (model prog w) A (eval (pn i a b c) env) Q E s := by
 refine PyProof.Rows.Subscript_ (wpAny_Name (wpAny_loadName_local hk hx ns hm ?_) (by decide +kernel))
 refine wpAny_Constant_int ?_
 exact Xv (ZQ e).typeIs slot_list_getitem.lookup (wpAny_getItem_list (ZQ e) h0 h1 (by simpa using hv) (hq _)) rfl
theorem JK {i : Int} {a b c : Pos} {m : Str → Option Value} {P : Addr} {ws : List Value} {k : Nat} {v : Value} {Q : Unit → Shared → Prop} (hk : env.scope.kind = .function) (hx : env.kindOf Xg = some .local) (ns : s.heap.Ns env.locals m) (hm : m Xg = some (.ref P))
  (e : s.heap.get? P = some (Zn ws k)) (h0 : 0 ≤ i) (h1 : i < 2 ^ 63) (hlt : i.toNat < ws.length)
  (hq : ∀ h' tk, (∀ b o, b ≠ P → s.heap.get? b = some o → h'.get? b = some o) → h'.get? P = some (Zn (ws.set i.toNat v) k) → Q () { s with heap := h', toks := tk }) : wpAny (model prog w) A (assign (pn i a b c) env v) Q E s := by
 rw [assign_Subscript]
 refine wpAny_bind (wpAny_holding (wpAny_Name (wpAny_loadName_local hk hx ns hm ?_) (by decide +kernel)))
 refine wpAny_bind (wpAny_holding (wpAny_Constant_int ?_))
 refine wpAny_bind (wpAny_standAt (wpAny_bind (wpAny_holding ?_)))
 refine ki_setAt (items := ws.toArray) (n := k) e h0 h1 (by simp; omega) ?_
 refine wpAny_release (hq _ _ (fun b o nb hb => (Heap.get?_update_ne _ _ _ _ nb).trans hb) ?_)
 have q := PySem.IsL.update (n := k) e (fun xs => xs.setIfInBounds i.toNat v)
 have e1 : ws.toArray.setIfInBounds i.toNat v = (ws.set i.toNat v).toArray := by
  apply Array.toList_inj.mp
  simp
 rw [e1, if_pos (by simp)] at q
 exact q
theorem Zkx {i : Expr} {p q : Pos} {Q : Value → Shared → Prop} (hk : env.scope.kind = .function) (hx : env.kindOf Yk = some .globalImplicit) (hg : ∀ (Q : Value → Shared → Prop) (s : Shared), B₀.StaysIn s.heap → Q (.type "int") s → wpAny (model prog w) A (loadGlobal env Yk) Q E s) (hn : noStar [i] = true) (st : B₀.StaysIn s.heap)
  (h : wpAny (model prog w) A (eval i env) (fun v s' => ∃ n t, v = .int n t ∧ Q (.int n t) s') E s) : wpAny (model prog w) A (eval (.Call (.Name Yk p) [i] [] q) env) Q E s := by
 have he : eval (.Call (.Name Yk p) [i] [] q) env = (do callWith q (← eval (.Name Yk p) env) [] (backTo q (starEach [i] env)) (backToKw q (keywordEach [] env))) := rfl
 rw [he]
 refine wpAny_bind (wpAny_Name ?_ (by decide +kernel))
 rw [loadName_read hk hx]
 refine hg _ _ st ?_
 try clear he; try clear st; try clear s; try clear Q; try clear hg; try clear hx; try clear hk; try clear q; try clear p
 refine PySem.callWith_type (Yg hn) (YT hn ?_)
 refine spliced_more (wpAny_mono h (fun v s' hv => ?_) fun _ _ e => e) (by
  cases i <;> first | rfl | exact xF hn)
 obtain ⟨n, t, rfl, hQ⟩ := hv
 exact spliced_none (call_int_int hQ)
theorem ZjP {a b c d e f : Pos} {m : Str → Option Value} {P q : Addr} {ws us : List Value} {k j : Nat} {y : Value} {Q : Value → Shared → Prop} (hk : env.scope.kind = .function) (hx : env.kindOf Xg = some .local) (ns : s.heap.Ns env.locals m) (hm : m Xg = some (.ref P))
  (e1 : s.heap.get? P = some (Zn ws k)) (hv : ws[0]? = some (.ref q)) (e2 : s.heap.get? q = some (Zn (y :: us) j)) (hz : us.length ≤ 1000) (hl : Nat.beq d.endLine f.line = true)
  (hq : ∀ h' tk, (∀ b o, b ≠ q → s.heap.get? b = some o → h'.get? b = some o) → h'.get? q = some (Zn us (j + 1)) → Q y { s with heap := h', toks := tk }) :
  wpAny (model prog w) A (eval (.Call (.Attribute (pn 0 a b c) Zlx d) [kI 0 e] [] f) env) Q E s := by
 rw [arm_eval_Call, W8 rfl]
 refine wpAny_bind (W0 hk hx ns hm e1 (by decide) (by decide) hv fun tk => ?_)
 refine wpAny_bind (wpAny_standAt ?_)
 unfold methodCall
 have few : methodCallForm (([kI 0 e] : List Expr).length + ([] : List Keyword).length) (backTo f (starEach [kI 0 e] env)) (backToKw f (keywordEach [] env)) = true := by
  unfold methodCallForm
  rw [Y8 rfl]
  rfl
 rw [few]
 refine wpAny_bind (wpAny_holding ?_)
 refine getMethod_builtin ⟨_, e2, rfl⟩ PySem.F.plainAttrs_list PySem.F.slot_list_pop PySem.F.type_list_pop (fun a e => by cases e; exact ⟨_, e2, rfl⟩) ?_
 have hp : methodCallPos true (pn 0 a b c) env d f = pure f := by
  unfold methodCallPos
  have e1 : d.endLine = f.line := Nat.eq_of_beq_eq_true hl
  simp [e1]
 rw [hp]
 refine wpAny_bind (wpAny_pure ?_)
 refine callWith_builtin (Yg rfl) (YT rfl (spliced_more (wpAny_Constant_int ?_)))
 refine spliced_none ?_
 have hs : (y :: us).toArray.size ≤ sizeLine := by rw [List.size_toArray, sizeLine_eq, List.length_cons]; omega
 refine call_meets PySem.F.slot_list_pop ⟨_, e2, rfl⟩ PySem.F.entry_list_pop (PySem.F.args_list_pop_2 _ _) (PySem.MeetsSeq.list_pop_at q _ j 0 _ 0 y rfl ?_ (by simp) hs) ⟨e2, hq _ _ (fun b o nb hb => (Heap.get?_update_ne _ _ _ _ nb).trans hb) ?_⟩
 ·simp [seqIndex?]
 ·have z := PySem.IsL.update (n := j) e2 (fun xs => xs.eraseIdxIfInBounds 0)
  have e3 : ((y :: us).toArray).eraseIdxIfInBounds 0 = us.toArray := by
   apply Array.toList_inj.mp
   simp [Array.eraseIdxIfInBounds]
  rw [e3, if_neg (by simp)] at z
  exact z
end
section
variable {prog : Program} {w : World} {B₀ : Heap} {outs : List Env} {L : Addr} {loc : List (Str × AV)} {Λ Λ' : Lay} {σ σ' : List AO} {ρ ρ' : List Addr} {A : Around} {E : Value → Shared → Prop} {s : Shared} {pg : Pg} {env : Env} {fi : FI} {n : Nat} {h h' : Heap} {Q : Flow → Shared → Prop}
theorem ZmK {a1 a2 a3 b1 b2 b3 c d e : Pos} (C : Cx B₀ A env outs L fi n) (kp : Ze Xg fi.names = some .local) (hl : loc.lookup Xg = some .pen) (R : Rep prog w B₀ outs L loc Λ σ ρ s.heap)
  (hq : ∀ h' tk, Rep prog w B₀ outs L loc Λ σ ρ h' → Q .next { s with heap := h', toks := tk }) : wpAny (model prog w) A (exec (.Assign [pn 1 a1 a2 a3] (.BinOp (pn 1 b1 b2 b3) .Add (kI 1 c) d) e) env) Q E s := by
 have hx : env.kindOf Xg = some .local := (C.kindOf _).trans kp
 obtain ⟨m, ns, l⟩ := R.ns
 rw [← C.locals] at ns
 obtain ⟨x, hm, V⟩ := l.look hl rfl
 obtain ⟨P, rfl, hP⟩ := V.pen_
 obtain ⟨q, c, t, u, t', j, hq', ep⟩ := R.penAt hP
 refine Z9 rfl rfl ?_ rfl
 refine wpAny_BinOp (W0 C.kind hx ns hm ep (by decide) (by decide) rfl fun tk => ?_)
 refine wpAny_Constant_int (add_int ?_)
 refine JK C.kind hx ns hm ep (by decide) (by decide) (by simp) fun h' tk hs ho => ?_
 exact hq h' tk (R.retouch hP (.inl rfl) hs ⟨_, ho, q, c + 1, _, u, t', j, hq', rfl⟩)
theorem ZmJ {a1 a2 a3 a4 a5 b1 b2 b3 b4 b5 c d1 d2 d3 e1 e2 e3 e4 e5 f g h2 : Pos} (C : Cx B₀ A env outs L fi n) (kp : Ze Xg fi.names = some .local) (hl : loc.lookup Xg = some .pen) (R : Rep prog w B₀ outs L loc Λ σ ρ s.heap) (hu : A.units + 64 < cLine) (hb : Nat.beq e4.endLine f.line = true)
  (hq : ∀ h' tk, Rep prog w B₀ outs L loc Λ σ ρ h' → Q .next { s with heap := h', toks := tk }) :
  wpAny (model prog w) A (exec (.If (.BoolOp .And [.Compare (pn 2 a1 a2 a3) [.Eq] [kI 0 a4] a5, .Compare (pn 0 b1 b2 b3) [.NotEq] [.List [] b4] b5] c) [.Assign [pn 2 d1 d2 d3] (.Call (.Attribute (pn 0 e1 e2 e3) Zlx e4) [kI 0 e5] [] f) g] [] h2) env) Q E s := by
 have hx : env.kindOf Xg = some .local := (C.kindOf _).trans kp
 obtain ⟨m, ns, l⟩ := R.ns
 rw [← C.locals] at ns
 obtain ⟨x, hm, V⟩ := l.look hl rfl
 obtain ⟨P, rfl, hP⟩ := V.pen_
 obtain ⟨q, c, t, u, t', j, hq', ep⟩ := R.penAt hP
 obtain ⟨ws, vs, k, iw, hw, eq⟩ := R.queueAt hq'
 rw [arm_exec_If]
 refine wpAny_bind (wpAny_standAt (wpAny_bind (wpAny_isTrue_BoolOp (wpAny_allTrue_And_cons ?_))))
 show wpAny (model prog w) A (do testChain a5 (← eval (pn 2 a1 a2 a3) env) [.Eq] (markedEach [.Eq] [kI 0 a4] (evalEach [kI 0 a4] env))) _ E s
 rw [marks_of rfl]
 refine wpAny_bind (W0 C.kind hx ns hm ep (by decide) (by decide) rfl fun tk => ?_)
 refine test_last (wpAny_Constant_int ?_)
 refine VH (op := .Eq) (K := fun _ => True) trivial fun b _ => wpAny_truthy_bool ?_
 cases b with
 | false => exact wpAny_execs_nil (env := env) (hq _ _ R)
 | true =>
  refine wpAny_allTrue_And_cons ?_
  show wpAny (model prog w) A (do testChain b5 (← eval (pn 0 b1 b2 b3) env) [.NotEq] (markedEach [.NotEq] [.List [] b4] (evalEach [.List [] b4] env))) _ E _
  rw [marks_of rfl]
  refine wpAny_bind (W0 C.kind hx ns hm ep (by decide) (by decide) rfl fun tk => ?_)
  refine test_last (wpAny_List (spliced_none ⟨by simp, ?_⟩))
  have R₁ := R.grow (h' := s.heap.push (Zn [] 0)) fun b o e => Heap.get?_push_of_some _ e
  have ns₁ : (s.heap.push (Zn [] 0)).Ns env.locals m := ns.at' fun o e => Heap.get?_push_of_some _ e
  have ep₁ : (s.heap.push (Zn [] 0)).get? P = _ := Heap.get?_push_of_some _ ep
  have eq₁ : (s.heap.push (Zn [] 0)).get? q = _ := Heap.get?_push_of_some _ eq
  have en : (s.heap.push (Zn [] 0)).get? s.heap.objs.size = some (Zn [] 0) := Heap.get?_push_at rfl rfl
  refine ne_intsK (ZQ eq₁) iw (ZQ en) .nil hu (wpAny_truthy_bool ?_)
  generalize hz : decide (vs = []) = zz at *
  cases zz with
  | true => exact wpAny_execs_nil (env := env) (hq _ _ R₁)
  | false =>
   refine wpAny_allTrue_And_nil ?_
   cases iw with
   | nil => simp at hz
   | @cons y t₀ ws vs iw =>
    refine wpAny_execs_cons (Z9 rfl rfl ?_ rfl)
    refine ZjP C.kind hx ns₁ hm ep₁ rfl eq₁ (by simp at hw; omega) hb fun h' tk hs ho => ?_
    have R₂ := R₁.retouch hq' (.inr rfl) hs ⟨_, ho, ws, vs, _, iw, (by simp at hw; omega), rfl⟩
    have npq : P ≠ q := fun z => by rw [z, hq'] at hP; (exfalso; cases hP)
    have nLq : env.locals ≠ q := fun z => by rw [C.locals] at z; rw [← z, R.cur] at hq'; (exfalso; cases hq')
    refine JK C.kind hx (ns₁.at' fun o e => hs _ o nLq e) hm (hs _ _ npq ep₁) (by decide) (by decide) (by simp) fun h'' tk' hs' ho' => ?_
    refine wpAny_execs_nil (env := env) (hq h'' tk' (R₂.retouch hP (.inl rfl) hs' ⟨_, ho', q, c, t, y, _, j, hq', rfl⟩))
theorem Zf9 {a b c p q : Pos} {Q : Value → Shared → Prop} (C : Cx B₀ A env outs L fi n) (kp : Ze Xg fi.names = some .local) (ki : Ze Yk fi.names = some .globalImplicit) (hl : loc.lookup Xg = some .pen) (R : Rep prog w B₀ outs L loc Λ σ ρ s.heap)
  (hg : ∀ (Q : Value → Shared → Prop) (s : Shared), B₀.StaysIn s.heap → Q (.type "int") s → wpAny (model prog w) A (loadGlobal env Yk) Q E s)
  (hq : ∀ u t tk, Q (.int u t) { s with toks := tk }) : wpAny (model prog w) A (eval (.Call (.Name Yk p) [pn 2 a b c] [] q) env) Q E s := by
 obtain ⟨m, ns, l⟩ := R.ns
 rw [← C.locals] at ns
 obtain ⟨x, hm, V⟩ := l.look hl rfl
 obtain ⟨P, rfl, hP⟩ := V.pen_
 obtain ⟨q, c, t, u, t', j, hq', ep⟩ := R.penAt hP
 refine Zkx C.kind ((C.kindOf _).trans ki) hg rfl R.toRep0.keep ?_
 exact W0 C.kind ((C.kindOf _).trans kp) ns hm ep (by decide) (by decide) rfl fun tk => ⟨u, t', rfl, hq _ _ _⟩
theorem Ut {a : Pos} {k : Int} {Q : Value → Shared → Prop} (C : Cx B₀ A env outs L fi n) (km : Ze Xw fi.names = some .local) (hl : loc.lookup Xw = some (.int k)) (R : Rep prog w B₀ outs L loc Λ σ ρ s.heap) (hq : ∀ t, Q (.int k t) s) :
  wpAny (model prog w) A (eval (.Name Xw a) env) Q E s := by
 obtain ⟨m, ns, l⟩ := R.ns
 rw [← C.locals] at ns
 obtain ⟨x, hm, V⟩ := l.look hl rfl
 obtain ⟨t, rfl⟩ := V.int_
 exact wpAny_Name (wpAny_loadName_local C.kind ((C.kindOf _).trans km) ns hm (hq t)) (by decide +kernel)
theorem ZmI {a b c p q r v o e : Pos} {k : Int} (h0 : 0 < k) (C : Cx B₀ A env outs L fi n) (kp : Ze Xg fi.names = some .local) (ki : Ze Yk fi.names = some .globalImplicit) (km : Ze Xw fi.names = some .local) (kd : Ze We fi.names = some .local)
  (hl : loc.lookup Xg = some .pen) (hm : loc.lookup Xw = some (.int k)) (R : Rep prog w B₀ outs L loc Λ σ ρ s.heap)
  (hg : ∀ (A : Around) (E : Value → Shared → Prop) (Q : Value → Shared → Prop) (s : Shared), B₀.StaysIn s.heap → Q (.type "int") s → wpAny (model prog w) A (loadGlobal env Yk) Q E s)
  (hq : ∀ d h' tk, Rep prog w B₀ outs L (WC We (.int d) loc) Λ σ ρ h' → Q .next { s with heap := h', toks := tk }) :
  wpAny (model prog w) A (exec (.Assign [.Name We v] (.BinOp (.Call (.Name Yk p) [pn 2 a b c] [] q) .Mod (.Name Xw r) o) e) env) Q E s := by
 refine Z9 rfl rfl ?_ rfl
 refine wpAny_BinOp (Zf9 C kp ki hl R (hg _ _) fun u t tk => ?_)
 refine Ut (s := { s with toks := tk }) C km hm R fun t' => ?_
 refine mod_int' (by omega) ?_
 show wpAny (model prog w) A (do standAt v; bindName env We _) _ E _
 refine wpAny_bind (wpAny_standAt (wpAny_bindName ?_))
 refine Wh (s := { s with toks := tk + 1 }) (K := fun l => l = WC We (.int (u.fmod k)) loc) C ?_ R (Jl _ _) fun h' loc' e R' => ?_
 ·rw [Wi, kd]
 ·subst e
  exact hq _ h' _ R'
theorem ZmH {a b c p q r o e a1 a2 a3 : Pos} {k : Int} (h0 : 0 < k) (h9 : k < 1000) (C : Cx B₀ A env outs L fi n) (kp : Ze Xg fi.names = some .local) (ki : Ze Yk fi.names = some .globalImplicit) (km : Ze Xw fi.names = some .local)
  (hl : loc.lookup Xg = some .pen) (hm : loc.lookup Xw = some (.int k)) (R : Rep prog w B₀ outs L loc Λ σ ρ s.heap)
  (hg : ∀ (A : Around) (E : Value → Shared → Prop) (Q : Value → Shared → Prop) (s : Shared), B₀.StaysIn s.heap → Q (.type "int") s → wpAny (model prog w) A (loadGlobal env Yk) Q E s)
  (hq : ∀ h' tk, Rep prog w B₀ outs L loc Λ σ ρ h' → Q .next { s with heap := h', toks := tk }) :
  wpAny (model prog w) A (exec (.Assign [pn 2 a1 a2 a3] (.BinOp (.Call (.Name Yk p) [pn 2 a b c] [] q) .FloorDiv (.Name Xw r) o) e) env) Q E s := by
 refine Z9 rfl rfl ?_ rfl
 refine wpAny_BinOp (Zf9 C kp ki hl R (hg _ _) fun u t tk => ?_)
 refine Ut (s := { s with toks := tk }) C km hm R fun t' => ?_
 refine floordiv_int (by omega) ?_ (.inl (PyProof.noPylong_small (by omega)))
 obtain ⟨m, ns, l⟩ := R.ns
 rw [← C.locals] at ns
 obtain ⟨x, hm, V⟩ := l.look hl rfl
 obtain ⟨P, rfl, hP⟩ := V.pen_
 obtain ⟨q, c, t, u', t', j, hq', ep⟩ := R.penAt hP
 refine JK (s := { s with toks := tk + 1 }) C.kind ((C.kindOf _).trans kp) ns hm ep (by decide) (by decide) (by simp) fun h' tk hs ho => ?_
 exact hq h' tk (R.retouch hP (.inl rfl) hs ⟨_, ho, q, c, t, _, _, j, hq', rfl⟩)
theorem ZmG {a b c p q r o e : Pos} {k d : Int} (h0 : 0 < k) (C : Cx B₀ A env outs L fi n) (kp : Ze Xg fi.names = some .local) (km : Ze Xw fi.names = some .local) (kd : Ze We fi.names = some .local)
  (hl : loc.lookup Xg = some .pen) (hm : loc.lookup Xw = some (.int k)) (hd : loc.lookup We = some (.int d)) (R : Rep prog w B₀ outs L loc Λ σ ρ s.heap)
  (hq : ∀ d t tk, 0 ≤ d → d < k → Q (.ret (.int d t)) { s with toks := tk }) :
  wpAny (model prog w) A (exec (.Return (some (.BinOp (.BinOp (.Name We p) .Add (pn 1 a b c) q) .Mod (.Name Xw r) o)) e) env) Q E s := by
 refine wpAny_Return_some ?_
 obtain ⟨m, ns, l⟩ := R.ns
 rw [← C.locals] at ns
 obtain ⟨x, hm', V⟩ := l.look hl rfl
 obtain ⟨P, rfl, hP⟩ := V.pen_
 obtain ⟨q, c, t, u, t', j, hq', ep⟩ := R.penAt hP
 obtain ⟨y, hy, V2⟩ := l.look hd rfl
 obtain ⟨td, rfl⟩ := V2.int_
 refine wpAny_BinOp (wpAny_BinOp (wpAny_Name (wpAny_loadName_local C.kind ((C.kindOf _).trans kd) ns hy ?_) (by decide +kernel)))
 refine W0 C.kind ((C.kindOf _).trans kp) ns hm' ep (by decide) (by decide) rfl fun tk => ?_
 refine add_int ?_
 refine Ut (s := { s with toks := tk + 1 }) C km hm R fun t' => ?_
 refine mod_int' (by omega) ?_
 exact hq _ _ _ (fmod_lo _ h0) (fmod_hi _ h0)
end
noncomputable def VZ : Yv := Zi 25 (P2 "pen" "many")
theorem ZnB : Ze Xg VZ.names = some .local ∧ Ze Xw VZ.names = some .local ∧ Ze We VZ.names = some .local ∧ Ze Yk VZ.names = some .globalImplicit := by
 refine ⟨?_, ?_, ?_, ?_⟩ <;> kernel_rfl
section
variable {prog : Program} {w : World} {B₀ : Heap} {outs : List Env} {L : Addr} {loc : List (Str × AV)} {Λ Λ' : Lay} {σ σ' : List AO} {ρ ρ' : List Addr} {A : Around} {E : Value → Shared → Prop} {s : Shared} {pg : Pg} {env : Env} {fi : FI} {n : Nat} {h h' : Heap}
theorem ZgF {k : Int} {Q : Flow → Shared → Prop} (h0 : 0 < k) (h9 : k < 1000) (C : Cx B₀ A env outs L ⟨VZ.names, fi.calm, false, []⟩ n) (hu : A.units + 64 < cLine)
  (hg : ∀ (A : Around) (E : Value → Shared → Prop) (Q : Value → Shared → Prop) (s : Shared), B₀.StaysIn s.heap → Q (.type "int") s → wpAny (model prog w) A (loadGlobal env Yk) Q E s)
  (R : Rep prog w B₀ outs L [(Xg, .pen), (Xw, .int k)] Λ σ ρ s.heap)
  (hq : ∀ d t h' loc' tk, 0 ≤ d → d < k → Rep prog w B₀ outs L loc' Λ σ ρ h' → Q (.ret (.int d t)) { s with heap := h', toks := tk }) : wpAny (model prog w) A (execs VZ.body env) Q E s := by
 obtain ⟨kp, km, kd, ki⟩ := ZnB
 refine wpAny_execs_cons (ZmK C kp rfl R fun h₁ tk₁ R₁ => ?_)
 refine wpAny_execs_cons (ZmJ (s := { s with heap := h₁, toks := tk₁ }) C kp rfl R₁ hu rfl fun h₂ tk₂ R₂ => ?_)
 refine wpAny_execs_cons (ZmI (s := { s with heap := h₂, toks := tk₂ }) h0 C kp ki km kd rfl rfl R₂ hg fun d h₃ tk₃ R₃ => ?_)
 refine wpAny_execs_cons (ZmH (s := { s with heap := h₃, toks := tk₃ }) h0 h9 C kp ki km rfl rfl R₃ hg fun h₄ tk₄ R₄ => ?_)
 refine wpAny_execs_cons (ZmG (s := { s with heap := h₄, toks := tk₄ }) h0 C kp km kd rfl rfl rfl R₄ fun d t tk₅ h1 h2 => ?_)
 exact hq d t h₄ _ tk₅ h1 h2 R₄
theorem Zix (X : (hK w.params).In B₀) (hlim : B₀.NoLimit) (G : GOk prog w B₀ pg) (hpg : Ze Yk pg.glob = some (.ty .int)) {args : List AV} {xs : List Value} {K : KE} {X' : KC} {Q : Value → Shared → Prop} (C : Cx B₀ A env outs L fi n) (hn : 5 ≤ n)
  (hc : Zdz args (fun v => K v σ) (fun x => X' x σ)) (R : Rep prog w B₀ outs L loc Λ σ ρ s.heap) (V : VTs prog w Λ args xs) (P : PE prog w B₀ outs L loc Λ ρ K Q s) : wpAny (model prog w) A (call (.ref 196) xs) Q E s := by
 obtain ⟨k, rfl, h0, h9, hk⟩ := hc
 obtain ⟨o, fd, ho, hd', hbody, hnames, hkind, hco, hgen, hcell, hgl, hbi, hcode, hbind⟩ := (Zgm (prog := prog) (w := w) X 196 VZ rfl).ex
 obtain ⟨binds, hB, hloc, hLoc⟩ := hbind [.pen, .int k] [(Xg, .pen), (Xw, .int k)] xs rfl V.length
 have hkm : env.scope.kind ≠ .module := by rw [C.kind]; exact nofun
 have st := R.toRep0.keep
 have hV : ∀ {Λ' : Lay}, Z2 Λ Λ' → VRs prog w Λ' ρ [.pen, .int k] xs := fun ss => (V.mono ss).vrs
 refine wpAny_call (codeAny_call_def (fd := fd) (body := VZ.body) (binds := binds) ?_ (st _ o ho) hd' (hlim.keeps st) (hcode.keeps st) hbody (hB s st) hcell hloc (fun h₀ hns hkeep => ?_) hco hgen hkind)
 ·have := C.depth
  show A.depth < 1000
  omega
 ·obtain ⟨Λ₁, oL, R₁, sees, hoL, tL, tL', hne, fr, hst⟩ := R.enterCall (b := fi.comp) hkm C.frame (L' := s.heap.objs.size) R.none0 R.toRep0.size hkeep hns (fun Λ' ss bb => hLoc Λ' ρ bb (hV ss))
  have hC' : Cx B₀ (A.deeper (callEnv fd s.heap.objs.size 196)) (callEnv fd s.heap.objs.size 196) (Y6 fi.comp env outs) s.heap.objs.size ⟨VZ.names, fi.calm, false, []⟩ 0 := by
   refine ⟨by rw [Around.frames_deeper C.frames]; rfl, fun _ => rfl, fun x c q => by (exact xN q), rfl, hkind, hnames, fun q => C.calm q, hgl, hbi, ?_, ?_⟩
   ·have := C.depth
    show A.depth + 1 + 0 ≤ 990
    omega
   ·have := C.units
    show A.units + 3 + 8 * 0 ≤ 9800
    omega
  obtain ⟨_, val, hv, hl⟩ := G _ _ hpg
  obtain rfl := VR.ty_ (ρ := ρ) (.inl (hv Λ R.b0))
  have hu := hC'.room
  refine ZgF (s := { s with heap := h₀, toks := s.toks + binds.length }) h0 h9 hC' (by omega) (fun A E Q s st q => hl _ A E Q s hC'.globals hC'.builtins st q) R₁ fun d t h₂ loc₂ tk₂ d0 d1 R₂ => ?_
  obtain ⟨Λ₃, l₃, s₃, R₃, _⟩ := R.exitCall hoL sees tL tL' hne fr hst (Lay.le.refl _) (List.prefix_refl _) R₂
  exact P _ σ Λ₃ ρ _ h₂ tk₂ (hk d d0 d1) l₃ (List.prefix_refl _) R₃ (Jl d t)
end
noncomputable def ZhD (K : KE) : KS := fun fl _ σ₁ => match fl with | .ret v => K v σ₁ | .next => K .none σ₁
structure ZcQ (K : Frag) (a : Nat) (f : Yv) (x0 : Str) (o : Obj) (fd : FuncData) : Prop where
 at_ : K.lookup a = some o
 dat : o.data = .func fd
 body : fd.body = .stmts f.body
 names : fd.scope.names = f.names
 kind : fd.scope.kind = .function
 co : fd.scope.isCoroutine = false
 gen : fd.scope.isGenerator = false
 clo : fd.closure = []
 cf : ∀ k, cellsFrom k fd.scope.names [] = [(x0, k)]
 ck : fd.scope.names.lookup x0 = some .cell
 glob : fd.globals = mainGlobals
 bi : fd.builtins = builtinsNs
 code : codeIn K fd.code fd.qualname = true
 bind : ∀ x : Value, bindArgs fd ⟨[x], []⟩ = pure [(x0, x)]
section
variable {prog : Program} {w : World} {B₀ : Heap} {outs : List Env} {L : Addr} {loc : List (Str × AV)} {Λ Λ' : Lay} {σ σ' : List AO} {ρ ρ' : List Addr} {A : Around} {E : Value → Shared → Prop} {s : Shared} {pg : Pg} {env : Env} {fi : FI} {n : Nat} {h h' : Heap}
theorem ZeD {Kf : Frag} {a : Nat} {f : Yv} {x0 : Str} {o : Obj} {fd : FuncData} (H : ZcQ Kf a f x0 o fd) (X : Kf.In B₀) (hlim : B₀.NoLimit) (S : Snd prog w B₀ pg n) (C : Cx B₀ A env outs L fi (n + 1)) (hcalm : fi.calm = true) {v : AV} {x : Value} {K : KE} {Q : Value → Shared → Prop}
  (hb : ∀ c, (ev pg n).Ss ⟨f.names, true, false, [(x0, c)]⟩ [(x0, .cel c v)] σ f.body (ZhD K) (fun _ _ _ => False))
  (R : Rep prog w B₀ outs L loc Λ σ ρ s.heap) (V : VT prog w Λ v x) (P : PE prog w B₀ outs L loc Λ ρ K Q s) : wpAny (model prog w) A (call (.ref a) [x]) Q E s := by
 have hkm : env.scope.kind ≠ .module := by rw [C.kind]; exact nofun
 have st := R.toRep0.keep
 obtain ⟨Λ₀, l₀, _, ec, R₀⟩ := R.forget (a := s.heap.objs.size + 1) (Heap.get?_none_of_le (Nat.le_succ _))
 have hkc : (callEnvC fd s.heap.objs.size a).kindOf x0 = some .cell := H.ck
 refine wpAny_call (codeAny_call_cells (fd := fd) (body := f.body) (binds := [(x0, x)]) ?_ (st _ _ (X _ _ H.at_)) H.dat (hlim.keeps st) ((codeRec_of X H.code).keeps st) H.body (H.bind x) H.clo (fun y hy => ?_) (fun s₁ I => ?_) H.co H.gen H.kind)
 ·have := C.depth
  show A.depth < 1000
  omega
 ·cases hy with
  | head => exact .inr ⟨H.ck, by rw [H.cf]; simp⟩
  | tail _ h => (exfalso; cases h)
 ·obtain ⟨h₁, tk, rfl, hkeep⟩ := I.done
  have hns := I.toInCall.ns
  obtain ⟨oc, hoc, hdc⟩ := I.cell x0 (s.heap.objs.size + 1) (by show (cellsFrom (s.heap.objs.size + 1) fd.scope.names []).lookup x0 = _; rw [H.cf]; simp)
  have hd' : oc.data = .cell (some x) := by
   rw [hdc]
   unfold bindC
   rw [hkc, if_neg (by decide)]
   unfold bindC
   simp
  obtain ⟨Λ₁, oL, R₁, sees, hoL, tL, tL', hne, fr, hst⟩ := R₀.enterCall (b := fi.comp) hkm C.frame (L' := s.heap.objs.size) R.none0 R.toRep0.size hkeep hns (loc' := []) (fun Λ' ss bb => Y9)
  have ncL : s.heap.objs.size + 1 ≠ L := fun q => by rw [q, R₀.cur] at ec; (exfalso; cases ec)
  have e1 : Λ₁ (s.heap.objs.size + 1) = .free := (hst _ ncL (Nat.succ_ne_self _)).trans ec
  have R₂ := R₁.settle (t := .frz oc) e1 hoc
  have l₂ := Lay.le_up (Λ := Λ₁) (a := s.heap.objs.size + 1) (.frz oc) (.inl e1)
  obtain ⟨m₂, ns₂, _⟩ := R₂.ns
  have R₃ : Rep prog w B₀ (Y6 fi.comp env outs) s.heap.objs.size [(x0, .cel (s.heap.objs.size + 1) v)] _ σ ρ h₁ := { R₂ with ns := ⟨m₂, ns₂, fun y => by
   rw [List.lookup_cons]
   cases q : y == x0 with
   | false => exact trivial
   | true => exact .inr ⟨_, _, oc, x, rfl, Lay.up_self .., hd', ((V.mono l₀.sees).mono sees).mono l₂.sees⟩⟩ }
  have hC' : Cx B₀ (A.deeper (callEnvC fd s.heap.objs.size a)) (callEnvC fd s.heap.objs.size a) (Y6 fi.comp env outs) s.heap.objs.size ⟨f.names, true, false, [(x0, s.heap.objs.size + 1)]⟩ n := by
   refine ⟨by rw [Around.frames_deeper C.frames]; rfl, fun _ => rfl, fun y c q => ?_, rfl, H.kind, H.names, fun q => C.calm hcalm, H.glob, H.bi, ?_, ?_⟩
   ·show (cellsFrom (s.heap.objs.size + 1) fd.scope.names []).lookup y = _
    rw [H.cf, ← Ye]; exact q
   ·have := C.depth
    show A.depth + 1 + n ≤ 990
    omega
   ·have := C.units
    show A.units + 3 + 8 * n ≤ 9800
    omega
  refine S.Ss hC' (s := { s with heap := h₁, toks := tk }) (hb _) R₃ (fun fl loc₂ σ₂ Λ₂ ρ₂ flv h₂ tk₂ k₂ l₂' p₂ R₄ hfl => ?_) (fun x loc₂ σ₂ Λ₂ ρ₂ e h₂ tk₂ k₂ l₂ p₂ R₂ H₂ => k₂.elim)
  obtain ⟨Λ₃, l₃, s₃, R₅, _⟩ := R₀.exitCall hoL sees tL tL' hne fr hst (l₂.trans l₂') p₂ R₄
  cases hfl with
  | next => exact P _ σ₂ Λ₃ ρ₂ _ h₂ tk₂ k₂ (l₀.trans l₃) p₂ R₅ ZeV
  | ret V₂ => exact P _ σ₂ Λ₃ ρ₂ _ h₂ tk₂ k₂ (l₀.trans l₃) p₂ R₅ (V₂.mono s₃ (List.prefix_refl _))
theorem ZgV {Kf : Frag} {a : Nat} {f : Yv} {x0 : Str} {o : Obj} {fd : FuncData} (H : ZcQ Kf a f x0 o fd) (X : Kf.In B₀) (hlim : B₀.NoLimit) {N : Nat} (S : Snd prog w B₀ pg N) (C : Cx B₀ A env outs L fi n) (hN : N + 1 ≤ n) (hcalm : fi.calm = true) {v : AV} {x : Value} {K : KE} {Q : Value → Shared → Prop}
  (hb : ∀ c, (ev pg N).Ss ⟨f.names, true, false, [(x0, c)]⟩ [(x0, .cel c v)] [] f.body (ZhD (kfz fun u => K u σ)) (fun _ _ _ => False))
  (R : Rep prog w B₀ outs L loc Λ σ ρ s.heap) (V : VT prog w Λ v x) (P : PE prog w B₀ outs L loc Λ ρ K Q s) : wpAny (model prog w) A (call (.ref a) [x]) Q E s := by
 refine ZeD H X hlim S (C.mono hN) hcalm hb R.veil (V.mono Xp) (fun v σ' Λ' ρ' x h₁ tk k l p R' V' => ?_)
 obtain ⟨u, e, hu⟩ := Zo k.ok
 obtain ⟨Λ₂, σ₂, l₂, R₂, T⟩ := Zgj e R' V'
 have l3 := l.trans l₂
 exact P u σ (Λ.unveil Λ₂ s.heap) ρ x h₁ tk hu (YW l3) (List.prefix_refl _) (R.unveil l3 R₂) (.inl (T.mono (Y7 l3)))
end
theorem Zj9 (P : Params) : ∃ o fd, ZcQ (hK P) 243 WO (Str.ofString "pen") o fd := by
 refine ⟨_, _, ⟨rfl, rfl, ?_, ?_, rfl, rfl, rfl, rfl, ?_, ?_, rfl, rfl, ?_, ?_⟩⟩
 ·kernel_rfl
 ·kernel_rfl
 ·intro k; rfl
 ·rfl
 ·kernel_rfl
 ·intro x; rfl
theorem ZmB {pg : Pg} {n : Nat} {fi : FI} {loc : Loc} {σ : Led} {ss : List Stmt} {K : KS} {X : KX} (hc : fi.comp = false) (h : Vz pg (ev pg n) n fi ss loc σ K X) : (ev pg (n + 1)).Ss fi loc σ ss K X := Zj hc h
theorem Zhf {c : Nat} {K : AV → Prop} (hk : K (.bool true)) : (ev pgW 119).Ss ⟨WO.names, true, false, [(Str.ofString "pen", c)]⟩ [(Str.ofString "pen", .cel c .pen)] [] WO.body (ZhD (kfz K)) (fun _ _ _ => False) := by
 have e : ZhD (kfz K) = Zg8 K := by
  funext fl l σ₁
  cases fl <;> rfl
 rw [e]
 exact ZmB (n := 118) rfl (ZiC hk)
section
variable {prog : Program} {w : World} {B₀ : Heap} {outs : List Env} {L : Addr} {loc : List (Str × AV)} {Λ Λ' : Lay} {σ σ' : List AO} {ρ ρ' : List Addr} {A : Around} {E : Value → Shared → Prop} {s : Shared} {pg : Pg} {env : Env} {fi : FI} {n : Nat} {h h' : Heap}
theorem Zhd (X : (hK w.params).In B₀) (hlim : B₀.NoLimit) (S : Snd prog w B₀ pgW 119) {args : List AV} {xs : List Value} {K : KE} {X' : KC} {Q : Value → Shared → Prop} (C : Cx B₀ A env outs L fi n) (hN : 120 ≤ n) (hcalm : fi.calm = true)
  (hc : Zdy args (fun v => K v σ) (fun x => X' x σ)) (R : Rep prog w B₀ outs L loc Λ σ ρ s.heap) (V : VTs prog w Λ args xs) (P : PE prog w B₀ outs L loc Λ ρ K Q s) : wpAny (model prog w) A (call (.ref 243) xs) Q E s := by
 obtain ⟨rfl, hk⟩ := hc
 obtain ⟨_, _, rfl, V1, V⟩ := V.uncons
 (have hh := VTs.unnil V; clear V; subst hh)
 obtain ⟨o, fd, H⟩ := Zj9 w.params
 refine ZgV H X hlim S C hN hcalm (K := K) (fun c => ?_) R V1 P
 exact Zhf hk
end
noncomputable abbrev WD : Str := Str.ofString "cell"
noncomputable abbrev ZaV : Str := Str.ofString "abs"
noncomputable abbrev Yd : Str := Str.ofString "script"
noncomputable def Wu (vs : List AV) : Prop := ∀ v ∈ vs, ∃ i, v = .int i
section
variable {prog : Program} {w : World} {B₀ : Heap} {outs : List Env} {L : Addr} {loc : List (Str × AV)} {Λ Λ' : Lay} {σ σ' : List AO} {ρ ρ' : List Addr} {A : Around} {E : Value → Shared → Prop} {s : Shared} {pg : Pg} {env : Env} {fi : FI} {n : Nat} {h h' : Heap}
theorem ZgX {f : Str} {g : Value} {i : Expr} {p q : Pos} {Q : Value → Shared → Prop} (hk : env.scope.kind = .function) (hx : env.kindOf f = some .globalImplicit) (hd : (f == ("__debug__" : Str)) = false)
  (hg : ∀ (E : Value → Shared → Prop) (Q : Value → Shared → Prop) (s : Shared), B₀.StaysIn s.heap → Q g s → wpAny (model prog w) A (loadGlobal env f) Q E s) (hgk : (∃ n, g = .builtin n) ∨ ∃ n, g = .type n) (hn : noStar [i] = true) (st : B₀.StaysIn s.heap)
  (h : wpAny (model prog w) A (eval i env) (fun v s' => wpAny (model prog w) A (call g [v]) Q E s') E s) : wpAny (model prog w) A (eval (.Call (.Name f p) [i] [] q) env) Q E s := by
 have he : eval (.Call (.Name f p) [i] [] q) env = (do callWith q (← eval (.Name f p) env) [] (backTo q (starEach [i] env)) (backToKw q (keywordEach [] env))) := rfl
 rw [he]
 refine wpAny_bind (wpAny_Name ?_ hd)
 rw [loadName_read hk hx]
 refine hg _ _ _ st ?_
 have inner : wpAny (model prog w) A (spliced (backTo q (starEach [i] env))) (fun vs s' => wpAny (model prog w) A (call g ([] ++ vs)) Q E s') E s := by
  refine spliced_more (wpAny_mono h (fun v s' hv => spliced_none hv) fun _ _ e => e) (by
   cases i <;> first | rfl | exact xF hn)
 obtain ⟨n, rfl⟩ | ⟨n, rfl⟩ := hgk
 ·exact callWith_builtin (Yg hn) (YT hn inner)
 ·exact PySem.callWith_type (Yg hn) (YT hn inner)
theorem ZgE {a1 a2 a3 a4 a5 a6 a7 b1 b2 b3 b4 b5 c1 : Pos} {i : Int} {Q : Value → Shared → Prop} (C : Cx B₀ A env outs L fi n) (kc : Ze WD fi.names = some .local) (ka : Ze ZaV fi.names = some .globalImplicit) (ki : Ze Yk fi.names = some .globalImplicit)
  (hgA : ∀ (E : Value → Shared → Prop) (Q : Value → Shared → Prop) (s : Shared), B₀.StaysIn s.heap → Q (.builtin "abs") s → wpAny (model prog w) A (loadGlobal env ZaV) Q E s)
  (hgI : ∀ (E : Value → Shared → Prop) (Q : Value → Shared → Prop) (s : Shared), B₀.StaysIn s.heap → Q (.type "int") s → wpAny (model prog w) A (loadGlobal env Yk) Q E s)
  (hl : loc.lookup WD = some (.int i)) (R : Rep prog w B₀ outs L loc Λ σ ρ s.heap) (hq : ∀ j t tk, Q (.int j t) { s with toks := tk }) :
  wpAny (model prog w) A (eval (.BinOp (.BinOp (kI 2 a1) .Mult (.Call (.Name ZaV a2) [.Call (.Name Yk a3) [.Name WD a4] [] a5] [] a6) a7) .Add (.Call (.Name Yk b1) [.Compare (.Name WD b2) [.Lt] [kI 0 b3] b4] [] b5) c1) env) Q E s := by
 obtain ⟨m, ns, l⟩ := R.ns
 rw [← C.locals] at ns
 obtain ⟨x, hm, V⟩ := l.look hl rfl
 obtain ⟨t, rfl⟩ := V.int_
 have st := R.toRep0.keep
 refine wpAny_BinOp (wpAny_BinOp (wpAny_Constant_int ?_))
 refine ZgX C.kind ((C.kindOf _).trans ka) (by decide +kernel) hgA (.inl ⟨_, rfl⟩) rfl st ?_
 refine ZgX C.kind ((C.kindOf _).trans ki) (by decide +kernel) hgI (.inr ⟨_, rfl⟩) rfl st ?_
 refine wpAny_Name (wpAny_loadName_local C.kind ((C.kindOf _).trans kc) ns hm ?_) (by decide +kernel)
 refine call_int_int (call_abs_int fun u tk => ?_)
 refine mul_int ?_ (IntMulOk.of_left (by decide +kernel))
 refine ZgX C.kind ((C.kindOf _).trans ki) (by decide +kernel) hgI (.inr ⟨_, rfl⟩) rfl st ?_
 show wpAny (model prog w) A (do compareChain b4 (← eval (.Name WD b2) env) [.Lt] (markedEach [.Lt] [kI 0 b3] (evalEach [kI 0 b3] env))) _ E _
 rw [marks_of rfl]
 refine wpAny_bind (wpAny_Name (wpAny_loadName_local C.kind ((C.kindOf _).trans kc) ns hm ?_) (by decide +kernel))
 refine chain_last (wpAny_Constant_int ?_)
 refine VH (op := .Lt) (K := fun _ => True) trivial fun b _ => ?_
 refine call_int_bool ?_
 exact add_int (hq _ _ _)
end
section
variable {prog : Program} {w : World} {B₀ : Heap} {outs : List Env} {L : Addr} {loc : List (Str × AV)} {Λ Λ' : Lay} {σ σ' : List AO} {ρ ρ' : List Addr} {A : Around} {E : Value → Shared → Prop} {s : Shared} {pg : Pg} {env : Env} {fi : FI} {n : Nat} {h h' : Heap}
noncomputable def ZcN (prog : Program) (w : World) (B₀ : Heap) (A : Around) (outs : List Env) (C' : Addr) (t elt : Expr) (cenv : Env) : Prop :=
 ∀ {loc : Loc} {Λ : Lay} {ρ : List Addr} {σ : Led} {s : Shared} {i : Int} {x : Value} {Q : Value → Shared → Prop} {E : Value → Shared → Prop}, Rep prog w B₀ outs C' loc Λ σ ρ s.heap → VT prog w Λ (.int i) x →
  (∀ loc' h' tk j u, Rep prog w B₀ outs C' loc' Λ σ ρ h' → Q (.int j u) { s with heap := h', toks := tk }) → wpAny (model prog w) A (assign t cenv x) (fun _ s₂ => wpAny (model prog w) A (eval elt cenv) Q E s₂) E s
inductive Zld (prog : Program) (w : World) (B₀ : Heap) (outs' : List Env) (C' : Addr) (St : List AV → Lay → Prop) (σ : Led) (Λb Λ : Lay) (ρ₀ : List Addr) (s₀ : Shared) (m : Nat) (s' : Shared) : Prop
 | mk (vs us : List AV) (loc : Loc) (Λ' : Lay) (ρ : List Addr) (h : Heap) (tk : Nat) (e : s' = { s₀ with heap := h, toks := tk }) (em : m = vs.length) (l : Λb.le Λ') (ss : Z2 Λ Λ') (p : ρ₀ <+: ρ) (st : St vs Λ') (hv : Wu vs) (hu : Wu us) (hlen : us.length + vs.length ≤ 1000) (R : Rep prog w B₀ outs' C' loc Λ' (σ ++ [.lst us]) ρ h) : Zld prog w B₀ outs' C' St σ Λb Λ ρ₀ s₀ m s'
theorem ZdN {cenv : Env} {C' : Addr} {outs' : List Env} {t elt iter : Expr} {scope : Scope} {pos : Pos} {I D : Addr} {St : List AV → Lay → Prop} {vs us : List AV} {Λ₀ Λb Λ : Lay} {ρ₀ ρ : List Addr} {s₀ s : Shared} {R : Result → Shared → Prop}
  (hs : ∃ h tk, s = { s₀ with heap := h, toks := tk }) (lb : Λb.le Λ) (p0 : ρ₀ <+: ρ) (hD : ρ₀[σ.length]? = some D) (hbase : ∀ c, c ≠ L → c ≠ C' → Λb c = Λ₀ c) (hL : Λ₀ L = .cur) (Fd : ZcR prog w A B₀ Λ₀ t I St) (st : St vs Λ)
  (hturn : ZcN prog w B₀ A outs' C' t elt cenv) (hv : Wu vs) (hu : Wu us) (hlen : us.length + vs.length ≤ 1000) (R₁ : Rep prog w B₀ outs' C' loc Λ (σ ++ [.lst us]) ρ s.heap)
  (P : ∀ loc' us' Λ' ρ' h' tk, Wu us' → us'.length ≤ 1000 → Λb.le Λ' → Z2 Λ Λ' → ρ₀ <+: ρ' → Rep prog w B₀ outs' C' loc' Λ' (σ ++ [.lst us']) ρ' h' → R (.ok .next) { s₀ with heap := h', toks := tk }) :
  codeAny (model prog w) A (.compLoop (.ListComp elt [⟨t, iter, [], 0⟩] scope pos) 0 (.ref I) (.ref D) cenv) R s := by
 refine V6 (fun m s' => Zld prog w B₀ outs' C' St σ Λb Λ ρ₀ s₀ m s') ?_ vs.length ?_
 ·intro m s' h9; obtain ⟨vs, us, loc, Λ', ρ, hh, tk, rfl, rfl, l, ss, p, st, hv, hu, hlen, R'⟩ := h9
  have hb : ∀ c o, Lax Λ₀ c → Λ' c = .hid o → Lax Λb c := fun c o q e => by
   have n1 : c ≠ C' := fun z => by rw [z, R'.cur] at e; (exfalso; cases e)
   have n2 : c ≠ L := fun z => by rw [z] at q; obtain q | ⟨_, q⟩ := q <;> (rw [hL] at q; (exfalso; cases q))
   delta Lax
   rw [hbase c n2 n1]; exact q
  cases vs with
  | nil =>
   refine Fd.done (s := { s₀ with heap := hh, toks := tk }) hb l st R' fun Λ₁ h' tk' l' s' R'' => ?_
   exact P loc us Λ₁ ρ h' tk' hu (by simp at hlen; exact hlen) l' (ss.trans s') p R''
  | cons v vs =>
   obtain ⟨i, rfl⟩ := hv v (.head _)
   refine wpAny_mono (Fd.next (s := { s₀ with heap := hh, toks := tk }) (Q := fun x s₁ => wpAny (model prog w) A (assign t cenv x) (fun _ s₂ => wpAny (model prog w) A (eval elt cenv) (fun x s₃ =>
     wpAny (model prog w) A (call (.builtin "list.append") [.ref D, x]) (fun _ s₄ => ∃ m, m < (AV.int i :: vs).length ∧ Zld prog w B₀ outs' C' St σ Λb Λ ρ₀ s₀ m s₄) (notedBy (model prog w) A cenv fun e s' => R (.error e) s') s₃)
     (notedBy (model prog w) A cenv fun e s' => R (.error e) s') s₂) (notedBy (model prog w) A cenv fun e s' => R (.error e) s') s₁) (E := notedBy (model prog w) A cenv fun e s' => R (.error e) s') hb l st R' fun x Λ₁ h₁ tk₁ l₁ s₁ R₁ V₁ st₁ => ?_) (fun r s₁ hr => ?_) fun _ _ e => e
   ·refine hturn (s := { s₀ with heap := h₁, toks := tk₁ }) R₁ V₁ fun loc₃ h₃ tk₃ j u R₃ => ?_
    obtain ⟨c2, ob2, g1, g2, g3, ws2, m2, g4, rfl⟩ := R₃.led σ.length (.lst us) (by simp)
    have e2' := ZY p hD
    rw [e2'] at g1; (replace g1 := xI g1; cases g1)
    have hsz : ws2.length ≤ sizeLine := by rw [g4.length, sizeLine_eq]; simp at hlen; omega
    refine append_at (s := { s₀ with heap := h₃, toks := tk₃ }) g3 (fun h₄ sb ho => ?_) (by simpa using hsz)
    have g4' : VTs prog w Λ₁ (us ++ [.int j]) (ws2 ++ [.int j u]) := g4.append (.cons (.int j u) .nil)
    have R₄ := R₃.set (ao := .lst (us ++ [.int j])) e2' g2 (fun b o ne e => (sb.2 b ne).trans e) ho ⟨ws2 ++ [.int j u], m2 + 1, g4', by simp [Zn]⟩
    have eσ : (σ ++ [AO.lst us]).set σ.length (.lst (us ++ [.int j])) = σ ++ [.lst (us ++ [.int j])] := by simp
    rw [eσ] at R₄
    refine ⟨vs.length, Nat.lt_succ_self _, vs, us ++ [.int j], loc₃, Λ₁, ρ, h₄, tk₃, rfl, rfl, l₁, ss.trans s₁, p, st₁, fun v hv' => hv v (.tail _ hv'), fun v hv' => ?_, by simp at hlen ⊢; omega, R₄⟩
    obtain q | q := List.mem_append.mp hv'
    ·exact hu v q
    ·cases q with
     | head => exact ⟨j, rfl⟩
     | tail _ q => (exfalso; cases q)
   ·cases r with
    | none => exact hr.elim
    | some x => exact hr
 ·obtain ⟨hh, tk, rfl⟩ := hs
  exact ⟨vs, us, loc, Λ, ρ, hh, tk, rfl, rfl, lb, ⟨fun _ _ e => e, fun _ e => e⟩, p0, st, hv, hu, hlen, R₁⟩
theorem ZgS (C : Cx B₀ A env outs L fi n) {el t it : Expr} {scope : Scope} {pos : Pos} {cs : List (Str × Nat)} {Q : Value → Shared → Prop} (hcp : fi.comp = false) (hh : A.handled = none)
  (hfun : scope.kind = .function) (hnm : YC scope.names scope.names = true) (hcs : WT fi.cells scope.names [] = some cs) (hfold : ∀ x, foldedSetIterable it env x = pure x)
  (hturn : ∀ C', Cx B₀ A (compEnvC scope cs C' env) (env :: outs) C' (Gc fi scope.names cs) n → ZcN prog w B₀ A (env :: outs) C' t el (compEnvC scope cs C' env))
  (hit : wpAny (model prog w) A (eval it env) (fun x s₁ => ∃ b ws m vs Λ' h' tk, x = .ref b ∧ s₁ = { s with heap := h', toks := tk } ∧ Λ.le Λ' ∧ Rep prog w B₀ outs L loc Λ' σ ρ h' ∧ Λ' b = .frz (Zn ws m) ∧ VTs prog w Λ' vs ws ∧ Wu vs ∧ vs.length ≤ 1000) E s)
  (P : ∀ D us Λ' ρ' h' tk, Wu us → us.length ≤ 1000 → Λ.le Λ' → ρ <+: ρ' → Rep prog w B₀ outs L loc Λ' (σ ++ [.lst us]) ρ' h' → ρ'[σ.length]? = some D → Q (.ref D) { s with heap := h', toks := tk }) :
  wpAny (model prog w) A (eval (.ListComp el [⟨t, it, [], 0⟩] scope pos) env) Q E s := by
 rw [eval_ListComp]
 have hkm : env.scope.kind ≠ .module := by rw [C.kind]; exact nofun
 have hNm := Xm hnm
 refine wpAny_comprehension_free (use := none) rfl hfold (Gd C.cells hcs) hfun (fun x hx => (hNm x hx).2) (wpAny_mono hit (fun x s₁ hx => ?_) fun _ _ e => e)
 obtain ⟨b, ws, m, vs, Λ₀, h₀, tk₀, rfl, rfl, l₀, R₀, ea, g, hv, hlen⟩ := hx
 refine GI (t := t) (s := { s with heap := h₀, toks := tk₀ }) hh R₀ ea g fun I St Λ₁ h₁ tk₁ Fd st l₁ R₁ => ?_
 have hcell : ∀ y ∈ scope.names, y.2 ≠ .cell := fun y hy => (hNm y hy).1
 refine wpAny_newObj_type (wpAny_newFunctionEnv hcell (by intro y hy; simp at hy) (fun h₃ hns₃ hsb₃ => ?_) hfun)
 obtain ⟨Λ₂, l₂, R₂⟩ := R₁.pushLed (ao := .lst []) (o := Zn [] 0) ⟨[], 0, .nil, rfl⟩ rfl
 have st₂ := Fd.keep st (VX l₂)
 have keep : ∀ b o, (h₁.push (Zn [] 0)).get? b = some o → h₃.get? b = some o := fun b o e =>
  hsb₃.extBut b o (Nat.ne_of_lt (Heap.lt_size e)) (Heap.get?_push_of_some _ e)
 obtain ⟨Λc, oL, R₃, sees, hoL, tL, tL', hne, fr, hst⟩ := R₂.enterCall (b := false) hkm (fun _ => C.frame hcp) (L' := (h₁.push (Zn [] 0)).objs.size) (Heap.get?_none_of_le (Nat.le_refl _)) R₂.toRep0.size keep hns₃
  (loc' := []) (fun Λ' ss _ => fun x => trivial)
 have st₃ := Fd.keep st₂ (Λ' := Λc) ⟨fun {a o} e => by
   have a1 : a ≠ L := fun q => by rw [q, R₂.cur] at e; (exfalso; cases e)
   have a2 : a ≠ (h₁.push (Zn [] 0)).objs.size := fun q => by
    obtain z | ⟨_, z⟩ := fr <;> (rw [q, z] at e; (exfalso; cases e))
   rw [hst a a1 a2]; exact e, fun {a o} e => sees.frz _ _ e, sees⟩
 have fr0 : Lax Λ₀ (h₁.push (Zn [] 0)).objs.size := by
  obtain z | z := (l₁.trans l₂) (h₁.push (Zn [] 0)).objs.size
  ·obtain y | ⟨j, y⟩ := fr
   ·exact .inl (z.symm.trans y)
   ·exact .inr ⟨j, z.symm.trans y⟩
  ·exact z
 have lb : ((Λ₀.up L (.frm oL)).up (h₁.push (Zn [] 0)).objs.size .cur).le Λc := fun b => by
  by_cases q : b = (h₁.push (Zn [] 0)).objs.size
  ·subst q; left; rw [Lay.up_self, tL']
  ·by_cases q2 : b = L
   ·subst q2; left; rw [Lay.up_ne _ _ q, Lay.up_self, tL]
   ·rw [Lay.up_ne _ _ q, Lay.up_ne _ _ q2, hst b q2 q]
    exact (l₁.trans l₂) b
 have eD : (ρ ++ [h₁.objs.size])[σ.length]? = some h₁.objs.size := by
  rw [← R₀.toRep0.len]; simp
 have loop := ZdN (L := L) (iter := it) (scope := scope) (pos := pos) (I := I) (D := h₁.objs.size) (s₀ := s) (s := { s with heap := h₃, toks := tk₁ + 0 })
  (R := compPost (model prog w) A E none Q (.ref h₁.objs.size) (h₁.push (Zn [] 0)).objs.size) ⟨h₃, _, rfl⟩ lb (List.prefix_refl _) eD
  (fun c c1 c2 => by rw [Lay.up_ne _ _ c2, Lay.up_ne _ _ c1]) R₀.cur Fd st₃ (hturn _ (C.comp hcp hfun hcs)) hv (us := []) (fun v hv => by (exfalso; cases hv)) (by simpa using hlen) R₃ (fun loc' us' Λ' ρ' h' tk hu' hl' lK sK pK RK => by
   obtain ⟨Λ₄, l₄, s₄, R₄, f₄⟩ := R₂.exitComp (Λ₀ := Λ₀) hoL (l₁.trans l₂) fr0 R₀.cur sees hne lK sK pK RK
   obtain ⟨m, nsC, _⟩ := RK.ns
   refine ⟨m, nsC, fun h'' sb => P h₁.objs.size us' Λ₄ ρ' h'' tk hu' hl' (l₀.trans l₄) ((List.prefix_append _ _).trans pK) (R₄.growF fun b o nf q => (sb.2 b fun z => nf (by rw [z]; exact f₄)).trans q) (ZY pK eD)⟩)
 exact codeAny_compStart_list loop (Fd.self (s := { s with heap := h₃, toks := tk₁ + 0 }) st₃ R₃ loop)
end
noncomputable def UQ : Yv := Zi 24 [(Yd, none)]
theorem Zkh (P : Params) : ∃ o fd, ZS (hK P) 189 ⟨UQ.body, UQ.names, bindL [(Yd, none)]⟩ o fd ∧ (∀ x0 : Value, bindArgs fd ⟨[x0], []⟩ = pure [(Yd, x0)]) ∧ Zw fd Yd = true := by
 refine ⟨_, _, ⟨rfl, rfl, ?_, ?_, rfl, rfl, rfl, ?_, rfl, rfl, ?_⟩, ?_, ?_⟩
 ·kernel_rfl
 ·kernel_rfl
 ·kernel_rfl
 ·kernel_rfl
 ·intros; rfl
 ·kernel_rfl
theorem ZnC : Ze Yd UQ.names = some .local := by kernel_rfl
section
variable {prog : Program} {w : World} {B₀ : Heap} {outs : List Env} {L : Addr} {loc : List (Str × AV)} {Λ Λ' : Lay} {σ σ' : List AO} {ρ ρ' : List Addr} {A : Around} {E : Value → Shared → Prop} {s : Shared} {pg : Pg} {env : Env} {fi : FI} {n : Nat} {h h' : Heap}
theorem Zl8 (X : (hK w.params).In B₀) : ZZ prog w B₀ 189 UQ := by
 obtain ⟨o, fd, H, hb, h0⟩ := Zkh w.params
 exact H.ok1 X hb h0
theorem Rep.kill (R : Rep prog w B₀ outs L loc Λ σ ρ h) {k : Nat} {a : Addr} {t : Tag} (ha : ρ[k]? = some a) (hl : Λ a = .led k) (ht : Ud h (Λ.up a t) a t) (hc : t ≠ .cur) : Rep prog w B₀ outs L loc (Λ.up a t) (σ.set k .dead) ρ h := by
 have le : Λ.le (Λ.up a t) := Lay.le_up _ (.inr ⟨k, hl⟩)
 have nL : L ≠ a := fun q => by rw [← q, R.cur] at hl; (exfalso; cases hl)
 obtain ⟨m, ns, l⟩ := R.ns
 refine ⟨⟨fun b o e => le.frz (R.b0 b o e), fun b => ?_, by simp [R.len], fun i x e => ?_, R.z0, R.sm⟩, R.out.mono le, by rw [Lay.up_ne _ _ nL]; exact R.cur, ⟨m, ns, l.mono le.sees (List.prefix_refl _)⟩, R.lA⟩
 ·by_cases q : b = a
  ·subst q; rw [Lay.up_self]; exact ht
  ·rw [Lay.up_ne _ _ q]
   exact (R.tag b).grow (fun _ e => e) fun c e => by
    obtain z | z | ⟨_, z⟩ := le c
    ·exact z.trans e
    ·rw [e] at z; (exfalso; cases z)
    ·rw [e] at z; (exfalso; cases z)
 ·by_cases hi : i = k
  ·subst hi
   have hk : i < σ.length := by rw [← R.len]; exact (List.getElem?_eq_some_iff.mp ha).1
   rw [List.getElem?_set_self hk] at e; (replace e := xI e; cases e)
   trivial
  ·rw [List.getElem?_set_ne (fun q => hi q.symm)] at e
   refine (R.led i x e).up le.sees (List.prefix_refl _) fun b z => ?_
   have : b ≠ a := fun q => by rw [q, hl] at z; cases z; exact hi rfl
   rw [Lay.up_ne _ _ this]; exact z
theorem ZeS {ws : List Value} {ns : List Int} (h : IntsAre ws ns) : VTs prog w Λ (ns.map .int) ws := by
 induction h with
 | nil => exact .nil
 | cons i t _ ih => exact .cons (.int i t) ih
theorem Zbb : ∀ {us : List AV} {ws : List Value}, Wu us → VTs prog w Λ us ws → ∃ ns, IntsAre ws ns
 | [], _, _, h => by (have hh := VTs.unnil h; clear h; subst hh); exact ⟨[], .nil⟩
 | v :: us, _, hu, h => by
  obtain ⟨_, _, rfl, V, g⟩ := h.uncons
  obtain ⟨i, rfl⟩ := hu v (.head _)
  obtain ⟨ns, e⟩ := Zbb (fun u hu' => hu u (.tail _ hu')) g
  cases V with
  | int i t => exact ⟨i :: ns, .cons i t e⟩
theorem ZbN {a1 a2 a3 a4 : Pos} {P : Addr} {ws : List Value} {ns : List Int} {Q : Value → Shared → Prop} (C : Cx B₀ A env outs L fi n) (ks : Ze Yd fi.names = some .local) (hl : loc.lookup Yd = some (.old P)) (hS : B₀.IsList P ws.toArray) (hi : IntsAre ws ns) (hlen : ws.length ≤ 63)
  (R : Rep prog w B₀ outs L loc Λ σ ρ s.heap)
  (hq : ∀ b us vs Λ' h' tk, Λ.le Λ' → Rep prog w B₀ outs L loc Λ' σ ρ h' → Λ' b = .frz (Zn us 0) → VTs prog w Λ' vs us → Wu vs → vs.length ≤ 1000 → Q (.ref b) { s with heap := h', toks := tk }) :
  wpAny (model prog w) A (eval (.Subscript (.Name Yd a1) (.Slice none (some (kI 40 a2)) none a3) a4) env) Q E s := by
 obtain ⟨m, F, l⟩ := R.frame
 have ns' := F.ns
 rw [← C.locals] at ns'
 obtain ⟨x, hm, V⟩ := l.look hl rfl
 obtain rfl := V.old_
 refine PyProof.Rows.Subscript_ (wpAny_Name (wpAny_loadName_local C.kind ((C.kindOf _).trans ks) ns' hm ?_) (by decide +kernel))
 show wpAny (model prog w) A (do
  let l ← valueOrNone none
  let u ← holding [l] (valueOrNone (some (eval (kI 40 a2) env)))
  let st ← holding [l, u] (valueOrNone none)
  newFields "slice" [l, u, st]) _ E _
 refine wpAny_bind (wpAny_pure (wpAny_bind (wpAny_holding (wpAny_Constant_int (k := 0) (pos := a2) ?_))))
 refine wpAny_bind (wpAny_holding (wpAny_pure ?_))
 refine wpAny_newObj_type ?_ (by show 3 ≤ sizeLine + 2; decide)
 refine slice_list (s := { s with toks := s.toks + 1 }) (lo := none) (hi := some 40) F (VQ B₀ L s.heap) (stays_list R.toRep0.keep hS) .none (.int _ _) (fun h' F' N' => ?_) (hsz := by rw [List.size_toArray, sizeLine_eq]; omega)
 obtain ⟨Λ', l', eb, R'⟩ := R.backFrz F' l N' (Heap.get?_none_of_le (Nat.le_succ _))
 have hp := PyProof.Rows.slice_ints_uptoW hi (y := 40) (by decide)
 have hlen' : (ns.take 40).length ≤ 1000 := by
  have := hi.length
  simp; omega
 refine hq _ (slicePick ws.toArray none (some 40) none).toList ((ns.take 40).map .int) Λ' h' _ l' R' (by rw [eb]; simp [Zn]) (ZeS hp) (fun v hv => ?_) (by simpa using hlen')
 obtain ⟨i, _, rfl⟩ := List.mem_map.mp hv
 exact ⟨i, rfl⟩
end
section
variable {prog : Program} {w : World} {B₀ : Heap} {outs : List Env} {L : Addr} {loc : List (Str × AV)} {Λ Λ' : Lay} {σ σ' : List AO} {ρ ρ' : List Addr} {A : Around} {E : Value → Shared → Prop} {s : Shared} {pg : Pg} {env : Env} {fi : FI} {n : Nat} {h h' : Heap}
theorem Zi7 (G : GOk prog w B₀ pg) {x : Str} {v : AV} {y : Value} (e : Ze x pg.glob = some v) (hv : ∀ (Λ : Lay) (z : Value), VT prog w Λ v z → z = y) (R : Rep0 prog w B₀ Λ σ ρ h) {A : Around} {env : Env} (g1 : env.globals = mainGlobals) (g2 : env.builtins = builtinsNs) :
  ∀ (E : Value → Shared → Prop) (Q : Value → Shared → Prop) (s : Shared), B₀.StaysIn s.heap → Q y s → wpAny (model prog w) A (loadGlobal env x) Q E s := by
 obtain ⟨_, val, q, hl⟩ := G _ _ e
 obtain rfl := hv _ _ (q Λ R.b0)
 exact fun E Q s st h => hl env A E Q s g1 g2 st h
theorem Ze1 {a0 a1 a2 a3 a4 a5 a6 a7 b1 b2 b3 b4 b5 c1 : Pos} {cenv : Env} {C' : Addr} {fc : FI} (G : GOk prog w B₀ pg) (gA : Ze ZaV pg.glob = some (.bi .abs)) (gI : Ze Yk pg.glob = some (.ty .int)) (C : Cx B₀ A cenv outs C' fc n)
  (kc : Ze WD fc.names = some .local) (ka : Ze ZaV fc.names = some .globalImplicit) (ki : Ze Yk fc.names = some .globalImplicit) :
  ZcN prog w B₀ A outs C' (.Name WD a0) (.BinOp (.BinOp (kI 2 a1) .Mult (.Call (.Name ZaV a2) [.Call (.Name Yk a3) [.Name WD a4] [] a5] [] a6) a7) .Add (.Call (.Name Yk b1) [.Compare (.Name WD b2) [.Lt] [kI 0 b3] b4] [] b5) c1) cenv := by
 intro loc Λ ρ σ s i x Q E R V hq
 show wpAny (model prog w) A (do standAt a0; bindName cenv WD x) _ E s
 refine wpAny_bind (wpAny_standAt (wpAny_bindName ?_))
 refine Wh (K := fun l => l = WC WD (.int i) loc) C ?_ R (.inl V) fun h' loc' e R' => ?_
 ·rw [Wi, kc]
 ·subst e
  refine ZgE (i := i) (s := { s with heap := h', toks := s.toks + 1 }) C kc ka ki (Zi7 G gA (fun _ _ V => by (have hh := VT.bi_ V; clear V; subst hh); rfl) R.toRep0 C.globals C.builtins) (Zi7 G gI (fun _ _ V => by (have hh := VT.ty_ V; clear V; subst hh); rfl) R.toRep0 C.globals C.builtins) (by rw [WY]; simp) R' fun j t tk => ?_
  exact hq _ h' tk j t R'
theorem ZhL {P : Addr} {ws : List Value} {ns : List Int} {Q : Flow → Shared → Prop} (G : GOk prog w B₀ pg) (gA : Ze ZaV pg.glob = some (.bi .abs)) (gI : Ze Yk pg.glob = some (.ty .int)) (C : Cx B₀ A env outs L ⟨UQ.names, true, false, []⟩ n)
  (hS : B₀.IsList P ws.toArray) (hi : IntsAre ws ns) (hlen : ws.length ≤ 63) (R : Rep prog w B₀ outs L [(Yd, .old P)] Λ σ ρ s.heap)
  (hq : ∀ b loc' Λ' σ' ρ' h' tk, Λ.le Λ' → ρ <+: ρ' → Rep prog w B₀ outs L loc' Λ' σ' ρ' h' → Λ' b = .pen → Q (.ret (.ref b)) { s with heap := h', toks := tk }) : wpAny (model prog w) A (execs UQ.body env) Q E s := by
 refine wpAny_execs_cons (wpAny_Return_some (wpAny_List (spliced_more ?_)))
 refine ZgS (cs := []) C rfl (C.calm rfl) rfl rfl rfl (fun x => rfl) (fun C' CC => ?_) (ZbN C ZnC rfl hS hi hlen R fun b us vs Λ' h' tk l R' eb g hv hl => ⟨b, us, 0, vs, Λ', h', tk, rfl, rfl, l, R', eb, g, hv, hl⟩) (fun D us Λ' ρ' h' tk hu hl l p R' eD => ?_)
 ·exact Ze1 G gA gI CC (by kernel_rfl) (by kernel_rfl) (by kernel_rfl)
 ·refine spliced_more (wpAny_Constant_int ?_)
  refine spliced_more (wpAny_Constant_int ?_)
  refine spliced_none ⟨by rw [sizeLine_eq]; simp, ?_⟩
  obtain ⟨D', o, e1, e2, e3, ws', m, g, rfl⟩ := R'.led σ.length (.lst us) (by simp)
  rw [eD] at e1; (replace e1 := xI e1; cases e1)
  obtain ⟨ns', iw⟩ := Zbb hu g
  have R₁ := R'.kill (t := .penq) eD e2 ⟨_, e3, ws', ns', m, iw, by rw [g.length]; exact hl, rfl⟩ nofun
  have l₁ := Lay.le_up (Λ := Λ') (a := D) .penq (.inr ⟨_, e2⟩)
  obtain ⟨Λ₂, l₂, _, f₂, R₂⟩ := R₁.forget (a := h'.objs.size) (Heap.get?_none_of_le (Nat.le_refl _))
  have eq : Λ₂ D = .penq := by
   obtain z | z | ⟨_, z⟩ := l₂ D
   ·rw [z, Lay.up_self]
   ·rw [Lay.up_self] at z; (exfalso; cases z)
   ·rw [Lay.up_self] at z; (exfalso; cases z)
  have nD : D ≠ h'.objs.size := fun z => by rw [z, f₂] at eq; (exfalso; cases eq)
  have R₃ := R₂.grow (h' := h'.push (Zn [.ref D, .int 0 tk, .int 0 (tk + 1)] 0)) fun b o e => Heap.get?_push_of_some _ e
  have R₄ := R₃.settle (t := .pen) f₂ ⟨_, Heap.get?_push_at rfl rfl, D, 0, tk, 0, tk + 1, 0, by rw [Lay.up_ne _ _ nD]; exact eq, rfl⟩
  exact hq _ _ _ _ _ _ _ ((l.trans l₁).trans (l₂.trans (Lay.le_up _ (.inl f₂)))) p R₄ (Lay.up_self ..)
end
section
variable {prog : Program} {w : World} {B₀ : Heap} {outs : List Env} {L : Addr} {loc : List (Str × AV)} {Λ Λ' : Lay} {σ σ' : List AO} {ρ ρ' : List Addr} {A : Around} {E : Value → Shared → Prop} {s : Shared} {pg : Pg} {env : Env} {fi : FI} {n : Nat} {h h' : Heap} {mb : Str → Option Value}
theorem ZfA {P : Addr} {ws : List Value} {ns : List Int} {Q : Value → Shared → Prop} (X : (hK w.params).In B₀) (hlim : B₀.NoLimit) (G : GOk prog w B₀ pg) (gA : Ze ZaV pg.glob = some (.bi .abs)) (gI : Ze Yk pg.glob = some (.ty .int)) (C : Cx B₀ A env outs L fi n) (hn : 5 ≤ n) (hcalm : fi.calm = true)
  (hS : B₀.IsList P ws.toArray) (hi : IntsAre ws ns) (hlen : ws.length ≤ 63) (R : Rep prog w B₀ outs L loc Λ σ ρ s.heap)
  (hq : ∀ b Λ' σ' ρ' h' tk, Λ.le Λ' → ρ <+: ρ' → Rep prog w B₀ outs L loc Λ' σ' ρ' h' → Λ' b = .pen → Q (.ref b) { s with heap := h', toks := tk }) : wpAny (model prog w) A (call (.ref 189) [.ref P]) Q E s := by
 obtain ⟨o, fd, ho, hd', hbody, hnames, hkind, hco, hgen, hcell, hgl, hbi, hcode, hbind⟩ := (Zl8 (prog := prog) (w := w) X).ex
 obtain ⟨binds, hB, hloc, hLoc⟩ := hbind [.old P] [(Yd, .old P)] [.ref P] rfl rfl
 have hkm : env.scope.kind ≠ .module := by rw [C.kind]; exact nofun
 have st := R.toRep0.keep
 refine wpAny_call (codeAny_call_def (fd := fd) (body := UQ.body) (binds := binds) ?_ (st _ o ho) hd' (hlim.keeps st) (hcode.keeps st) hbody (hB s st) hcell hloc (fun h₀ hns hkeep => ?_) hco hgen hkind)
 ·have := C.depth
  show A.depth < 1000
  omega
 ·obtain ⟨Λ₁, oL, R₁, sees, hoL, tL, tL', hne, fr, hst⟩ := R.enterCall (b := fi.comp) hkm C.frame (L' := s.heap.objs.size) R.none0 R.toRep0.size hkeep hns (fun Λ' ss bb => hLoc Λ' ρ bb (.cons (.inl (.old P)) .nil))
  have hC' : Cx B₀ (A.deeper (callEnv fd s.heap.objs.size 189)) (callEnv fd s.heap.objs.size 189) (Y6 fi.comp env outs) s.heap.objs.size ⟨UQ.names, true, false, []⟩ 0 := by
   refine ⟨by rw [Around.frames_deeper C.frames]; rfl, fun _ => rfl, fun x c q => by (exact xN q), rfl, hkind, hnames, fun q => C.calm hcalm, hgl, hbi, ?_, ?_⟩
   ·have := C.depth
    show A.depth + 1 + 0 ≤ 990
    omega
   ·have := C.units
    show A.units + 3 + 8 * 0 ≤ 9800
    omega
  refine ZhL (s := { s with heap := h₀, toks := s.toks + binds.length }) G gA gI hC' hS hi hlen R₁ fun b loc₂ Λ₂ σ₂ ρ₂ h₂ tk₂ l₂ p₂ R₂ eb => ?_
  obtain ⟨Λ₃, l₃, s₃, R₃, _⟩ := R.exitCall hoL sees tL tL' hne fr hst l₂ p₂ R₂
  exact hq b Λ₃ σ₂ ρ₂ h₂ tk₂ l₃ p₂ R₃ (s₃.pen _ eb)
noncomputable def ZeJ (prog : Program) (w : World) (B₀ : Heap) (a N : Nat) (c : Ct) : Prop :=
 ∀ {outs : List Env} {L : Addr} {loc : Loc} {A : Around} {env : Env} {fi : FI} {n : Nat} {E : Value → Shared → Prop} {Q : Value → Shared → Prop} {s : Shared} {σ : Led} {Λ : Lay} {ρ : List Addr} {args : List AV} {xs : List Value} {K : KE} {X : KC}, Cx B₀ A env outs L fi n → N ≤ n → fi.calm = true →
  c args (fun v => K v σ) (fun x => X x σ) → Rep prog w B₀ outs L loc Λ σ ρ s.heap → VTs prog w Λ args xs → PE prog w B₀ outs L loc Λ ρ K Q s → PX prog w B₀ outs L loc Λ ρ X E s → wpAny (model prog w) A (call (.ref a) xs) Q E s
structure ZeM (prog : Program) (w : World) (B₀ : Heap) (mb : Str → Option Value) : Prop where
 X : (hK w.params).In B₀
 lim : B₀.NoLimit
 b : B₀.Ns builtinsNs mb
 bb : ∀ x : Str, x ≠ "__name__" → mb x = bootBuiltins x
noncomputable def Zi2 : List Nat := [85, 61, 96, 103, 111, 118, 126, 133, 140, 147, 154, 161, 168, 175, 182, 189, 196, 203, 210, 217, 224, 231, 238, 243]
structure Tow (prog : Program) (w : World) (B₀ : Heap) (pg : Pg) : Prop where
 glob : pg.glob = Zdl
 fn : pg.fn = Zbe
 keys : ∀ a, YQ (pg.ctr a) = true → a ∈ Zi2
 ctrs : ∀ a c, pg.ctr a = some c → ZeJ prog w B₀ a c.1 c.2
theorem ZkD : mb U3 = bootBuiltins U3 → mb U3 = some (.type "Exception") := fun h => h.trans Zit
theorem Tow.prims (D : ZeM prog w B₀ mb) (T : Tow prog w B₀ pg) : YU prog w B₀ (hK w.params) pg := by
 have G : GOk prog w B₀ pg := gok D.X D.b D.bb T.glob
 have hT : Ze Uj pg.glob = some (.ty .tuple) := by rw [T.glob]; kernel_rfl
 have nn : U3 ≠ ("__name__" : Str) := fun e => by
  have : (U3 == ("__name__" : Str)) = false := by decide +kernel
  rw [e] at this; simp at this
 exact {
  X := D.X
  G := G
  M := ZkY
  keep := Zh2 T.fn T.keys _
  attr := fun h R V P => ZiI D.X h R V P
  row := fun C hk R V1 V2 P => ZjH D.X D.lim G C hk R V1 V2 P
  told := fun C hk R V P => Zhh D.X D.lim G hT C hk R V P
  toldM := fun R V h => Zjr D.X R V h
  toldK := ZdO _
  ctr := fun C e hN hc h R V P PX => T.ctrs _ _ e C hN hc h R V P PX
  mkExc := fun C hh hv R V hQ => ZjW D.X D.lim D.b (ZkD (D.bb _ nn)) C hv R V hQ
  excKeep := Zgu _
  excHit := fun st he hc h => Zii D.X st he hc h
  raiseTail := fun hh st H hE => ZbV D.X hh st H hE }
theorem Tow.snd (D : ZeM prog w B₀ mb) (T : Tow prog w B₀ pg) (n : Nat) : Snd prog w B₀ pg n := G1 (T.prims D) (fun a f e => Zgm D.X a f (by rw [← T.fn]; exact e)) D.lim n
theorem Tow.ctr (D : ZeM prog w B₀ mb) (T : Tow prog w B₀ pg) {N a : Nat} {c : Ct} (H : Xe pg N a c) : ZeJ prog w B₀ a N c := fun C hN hc h R V P PX => ZgJ (T.snd D N) H C hN hc h R V P PX
theorem Tow.add (T : Tow prog w B₀ pg) {N a : Nat} {c : Ct} (ha : a ∈ Zi2) (H : ZeJ prog w B₀ a N c) : Tow prog w B₀ (Ws pg a N c) := by
 refine ⟨T.glob, T.fn, fun b hb => ?_, fun b d hd => ?_⟩
 ·change YQ (match Nat.beq b a with | true => some (N, c) | false => pg.ctr b) = true at hb
  generalize q : Nat.beq b a = zz at hb ⊢
  cases zz with
  | true => rw [Nat.eq_of_beq_eq_true q]; exact ha
  | false => exact T.keys b hb
 ·change (match Nat.beq b a with | true => some (N, c) | false => pg.ctr b) = some d at hd
  generalize q : Nat.beq b a = zz at hd ⊢
  cases zz with
  | true =>
   (replace hd := xI hd; cases hd)
   rw [Nat.eq_of_beq_eq_true q]; exact @H
  | false => exact T.ctrs b d hd
theorem t0 : Tow prog w B₀ pg0 := ⟨rfl, rfl, (fun a h => by exact xF h), (fun a c h => by exact xN h)⟩
section
variable (D : ZeM prog w B₀ mb)
include D
theorem tA : Tow prog w B₀ pgA := t0.add (by decide) (t0.ctr D ZmN)
theorem tB : Tow prog w B₀ pgB := (tA D).add (by decide) ((tA D).ctr D ZkV)
theorem tC : Tow prog w B₀ pgC := (tB D).add (by decide) ((tB D).ctr D ZkU)
theorem tD : Tow prog w B₀ pgD := ((tC D).add (by decide) ((tC D).ctr D ZkW)).add (by decide) ((tC D).ctr D ZkP)
theorem tE : Tow prog w B₀ pgE := ((tD D).add (by decide) ((tD D).ctr D ZkS)).add (by decide) ((tD D).ctr D ZkO)
theorem ZkJ : ZeJ prog w B₀ 196 5 Zdz := fun C hN hc h R V P PX => Zix (pg := pg0) D.X D.lim (gok D.X D.b D.bb rfl) (by kernel_rfl) C hN h R V P
theorem tF : Tow prog w B₀ pgF := ((tE D).add (by decide) ((tE D).ctr D ZkR)).add (by decide) (ZkJ D)
theorem tG : Tow prog w B₀ pgG := (tF D).add (by decide) ((tF D).ctr D ZkQ)
theorem tM : Tow prog w B₀ pgM := (tC D).add (by decide) ((tC D).ctr D ZgK)
theorem tW : Tow prog w B₀ pgW := ((tG D).add (by decide) ((tC D).ctr D ZgK)).add (by decide) ((tM D).ctr D ZkT)
theorem tH : Tow prog w B₀ pgH := ((tG D).add (by decide) ((tG D).ctr D ZkM)).add (by decide) ((tG D).ctr D ZkN)
theorem Zjl : ZeJ prog w B₀ 243 120 Zdy := fun C hN hc h R V P PX => Zhd D.X D.lim ((tW D).snd D 119) C hN hc h R V P
theorem ZlC {P : Addr} {ws : List Value} {ns : List Int} (hS : B₀.IsList P ws.toArray) (hi : IntsAre ws ns) (hlen : ws.length ≤ 63) : ZeJ prog w B₀ 189 40 (ZgO P) := by
 intro outs L loc A env fi n E Q s σ Λ ρ args xs K X' C hN hc h R V P' PX
 obtain ⟨rfl, hk⟩ := h
 obtain ⟨_, _, rfl, V1, V⟩ := V.uncons
 (have hh := VTs.unnil V; clear V; subst hh)
 (have hh := VT.old_ V1; clear V1; subst hh)
 refine ZfA (pg := pg0) D.X D.lim (gok D.X D.b D.bb rfl) (by kernel_rfl) (by kernel_rfl) C (by omega) hc hS hi hlen R.veil fun b Λ' σ' ρ' h' tk l p R' e => ?_
 exact P' .pen σ (Λ.unveil Λ' s.heap) ρ (.ref b) h' tk hk (YW l) (List.prefix_refl _) (R.unveil l R') (.inl (.pen ((Y7 l).pen _ e)))
theorem tL {P : Addr} {ws : List Value} {ns : List Int} (hS : B₀.IsList P ws.toArray) (hi : IntsAre ws ns) (hlen : ws.length ≤ 63) : Tow prog w B₀ (pgL P) :=
 (((tH D).add (by decide) ((tH D).ctr D ZkL)).add (by decide) (Zjl D)).add (by decide) (ZlC D hS hi hlen)
end
end
noncomputable abbrev XE : Str := Str.ofString "number"
set_option backward.match.sparseCases true in
theorem ZhK (h : Heap) (n : Nat) (hn : h.objs.size = n + 1) (q : h.get? n = none) : ∀ b : Nat, ({ h with objs := h.objs.pop } : Heap).get? b = h.get? b := fun b => by
 have hsz : h.objs.pop.size = n := by simp [hn]
 by_cases hb : b < n
 ·have : h.objs.pop[b]? = h.objs[b]? := by
   rw [Array.getElem?_pop, if_pos (by rw [hn]; exact hb)]
  show (match h.objs.pop[b]? with | some ⟨_, _, .freed, _⟩ => none | o => o) = (match h.objs[b]? with | some ⟨_, _, .freed, _⟩ => none | o => o)
  rw [this]
 ·have e1 : ({ h with objs := h.objs.pop } : Heap).get? b = none := Heap.get?_none_of_le (show h.objs.pop.size ≤ b by rw [hsz]; exact Nat.le_of_not_lt hb)
  rw [e1]
  by_cases hb2 : b = n
  ·rw [hb2]; exact q.symm
  ·exact (Heap.get?_none_of_le (show h.objs.size ≤ b by rw [hn]; omega)).symm
theorem Gq : ∀ (n : Nat) (h : Heap) (a : Addr) (o : Obj), h.objs.size = n → h.get? a = some o → ∃ B : Heap, (∀ b, B.get? b = h.get? b) ∧ B.objs.size ≤ h.objs.size ∧ 0 < B.objs.size ∧ ∃ o, B.get? (B.objs.size - 1) = some o
 | 0, h, a, o, hn, e => by
  have := Heap.lt_size e
  rw [hn] at this
  exact absurd this (Nat.not_lt_zero _)
 | n + 1, h, a, o, hn, e => by
  generalize q : h.get? n = zz at *
  cases zz with
  | some o' => exact ⟨h, fun _ => rfl, Nat.le_refl _, by rw [hn]; exact Nat.succ_pos _, o', by rw [hn]; exact q⟩
  | none =>
   have hsz : h.objs.pop.size = n := by simp [hn]
   have same := ZhK h n hn q
   obtain ⟨B, h1, h2, h3, h4⟩ := Gq n { h with objs := h.objs.pop } a o hsz ((same a).trans e)
   exact ⟨B, fun b => (h1 b).trans (same b), by rw [hn]; exact Nat.le_succ_of_le (hsz ▸ h2), h3, h4⟩
theorem Zm5 : frL.body = [stL 0, stL 1, stL 2, stL 3, stL 4, stL 5, stL 6] := by rfl
theorem Zni : ∃ p1 p2, stL 2 = .Assign [.Name XE p1] exL p2 := ⟨_, _, rfl⟩
theorem kL : Ze Yd frL.names = some .local ∧ frL.names.lookup XE = some .cell := by
 refine ⟨?_, ?_⟩ <;> kernel_rfl
section
variable {prog : Program} {w : World} {B₀ : Heap} {outs : List Env} {L : Addr} {loc : List (Str × AV)} {Λ Λ' : Lay} {σ σ' : List AO} {ρ ρ' : List Addr} {A : Around} {E : Value → Shared → Prop} {s : Shared} {pg : Pg} {env : Env} {fi : FI} {n : Nat} {h h' : Heap} {mb : Str → Option Value}
theorem ZfX {P c : Addr} {oc : Obj} {Q : Flow → Shared → Prop} (T : ∀ n, Snd prog w B₀ (pgL P) n) (Pm : YU prog w B₀ (hK w.params) (pgL P)) (C : Cx B₀ A env outs L (fiL c) 141) (R : Rep prog w B₀ outs L (ZfT P) Λ [] ρ s.heap) (hc : Λ c = .hid oc) (hco : oc.data = .cell none)
  (hq : ∀ loc' Λ' σ' ρ' h' tk, Rep prog w B₀ outs L loc' Λ' σ' ρ' h' → Q (.ret (.bool true)) { s with heap := h', toks := tk }) : wpAny (model prog w) A (execs frL.body env) Q E s := by
 rw [Zm5]
 have nope : ∀ {Λ : Lay} {ρ : List Addr} {s : Shared}, PXS prog w B₀ outs L Λ ρ (fun _ _ _ => False) E s := fun x loc σ Λ ρ e h tk k => k.elim
 have Xn : KX := fun _ _ _ => False
 refine wpAny_execs_cons (Gj Pm (T 140) C rfl (X := fun _ _ _ => False) (ZlZ (K := fun fl loc σ => fl = .next ∧ loc = ZfS P ∧ σ = []) ⟨rfl, rfl, rfl⟩) R (fun fl loc₁ σ₁ Λ₁ ρ₁ flv h₁ tk₁ k₁ l₁ p₁ R₁ hfl => ?_) nope)
 obtain ⟨rfl, rfl, rfl⟩ := k₁
 cases hfl
 refine wpAny_execs_cons (Gj Pm (T 140) C rfl (s := { s with heap := h₁, toks := tk₁ }) (X := fun _ _ _ => False) (ZlY (K := fun fl loc σ => fl = .next ∧ loc = ZfR P ∧ σ = []) ⟨rfl, rfl, rfl⟩) R₁ (fun fl loc₂ σ₂ Λ₂ ρ₂ flv h₂ tk₂ k₂ l₂ p₂ R₂ hfl => ?_) nope)
 obtain ⟨rfl, rfl, rfl⟩ := k₂
 cases hfl
 obtain ⟨p1, p2, e2⟩ := Zni
 rw [e2]
 refine wpAny_execs_cons (Z9 rfl rfl ?_ rfl)
 refine (T 140).E C.less (s := { s with heap := h₂, toks := tk₂ }) (X := fun _ _ => False) (Znz (K := fun v σ => σ = [] ∧ ∃ d : Int, 0 ≤ d ∧ d < 16 ∧ v = .int d) fun d d0 d1 => ⟨rfl, d, d0, d1, rfl⟩) R₂ (fun v σ₃ Λ₃ ρ₃ x h₃ tk₃ k₃ l₃ p₃ R₃ V₃ => ?_) (fun x σ' Λ' ρ' e h' tk k => k.elim)
 obtain ⟨rfl, d, d0, d1, rfl⟩ := k₃
 obtain ⟨u, rfl⟩ := V₃.int_
 have c3 : Λ₃ c = .hid oc := l₃.hid (l₂.hid (l₁.hid hc))
 show wpAny (model prog w) A (do standAt p1; bindName env XE (.int d u)) _ E _
 refine wpAny_bind (wpAny_standAt (wpAny_bindName ?_))
 have hkc : env.kindOf XE = some .cell := by
  rw [C.kindOf, Ye]; exact kL.2
 refine wpAny_storeName_cell C.kind hkc (C.cells XE c rfl) ⟨oc, R₃.hidAt c3, hco⟩ fun h₄ hc₄ hs₄ => ?_
 obtain ⟨oc', ho', hd'⟩ := hc₄
 have R₄ := R₃.rehid c3 (h' := h₄) (fun b o nb e => (hs₄.2 b nb).trans e) ho'
 obtain ⟨R₅, ss₅⟩ := R₄.reveal (Lay.up_self ..)
 obtain ⟨m₅, ns₅, lr₅⟩ := R₅.ns
 have R₆ : Rep prog w B₀ outs L (JV P c d) _ [] ρ₃ h₄ := { R₅ with ns := ⟨m₅, ns₅, fun y => by
  delta JV
  rw [List.lookup_cons]
  cases q : y == Str.ofString "number" with
  | true => exact .inr ⟨_, _, oc', .int d u, rfl, Lay.up_self .., hd', .int d u⟩
  | false => exact lr₅ y⟩ }
 refine wpAny_execs_cons (Gj Pm (T 140) C rfl (s := { s with heap := h₄, toks := tk₃ }) (X := fun _ _ _ => False) (ZlX d0 d1 (K := fun fl loc σ => fl = .next ∧ loc = Zda P c d ∧ σ = []) ⟨rfl, rfl, rfl⟩) R₆ (fun fl loc₇ σ₇ Λ₇ ρ₇ flv h₇ tk₇ k₇ l₇ p₇ R₇ hfl => ?_) nope)
 obtain ⟨rfl, rfl, rfl⟩ := k₇
 cases hfl
 refine wpAny_execs_cons (Gj Pm (T 140) C rfl (s := { s with heap := h₇, toks := tk₇ }) (X := fun _ _ _ => False) (ZlW d0 d1 (K := fun fl loc σ => fl = .next ∧ loc = JU P c d ∧ σ = []) ⟨rfl, rfl, rfl⟩) R₇ (fun fl loc₈ σ₈ Λ₈ ρ₈ flv h₈ tk₈ k₈ l₈ p₈ R₈ hfl => ?_) nope)
 obtain ⟨rfl, rfl, rfl⟩ := k₈
 cases hfl
 refine wpAny_execs_cons (Gj Pm (T 140) C rfl (s := { s with heap := h₈, toks := tk₈ }) (X := fun _ _ _ => False) (ZlV d0 d1 (K := fun fl loc σ => fl = .next ∧ loc = JU P c d) fun σ => ⟨rfl, rfl⟩) R₈ (fun fl loc₉ σ₉ Λ₉ ρ₉ flv h₉ tk₉ k₉ l₉ p₉ R₉ hfl => ?_) nope)
 obtain ⟨rfl, rfl⟩ := k₉
 cases hfl
 refine wpAny_execs_cons (Gj Pm (T 140) C rfl (s := { s with heap := h₉, toks := tk₉ }) (X := fun _ _ _ => False) (ZlU (K := fun fl loc σ => fl = .ret (.bool true)) fun _ _ => rfl) R₉ (fun fl loc₀ σ₀ Λ₀ ρ₀ flv h₀ tk₀ k₀ l₀ p₀ R₀ hfl => ?_) nope)
 subst k₀
 cases hfl with
 | ret V =>
  obtain rfl := V.bool_
  exact hq loc₀ Λ₀ σ₀ ρ₀ h₀ tk₀ R₀
noncomputable def Za8 (B : Heap) (Lf : Addr) (oc : Obj) : Lay := fun a => if a = Lf then .cur else if a = Lf + 1 then .hid oc else match B.get? a with
 | some o => .frz o
 | none => .free
structure Zm8 (w : World) (s : Shared) (fa P : Addr) (o : Obj) (fd : FuncData) : Prop where
 at_ : s.heap.get? fa = some o
 dat : o.data = .func fd
 body : fd.body = .stmts frL.body
 names : fd.scope.names = frL.names
 kind : fd.scope.kind = .function
 co : fd.scope.isCoroutine = false
 gen : fd.scope.isGenerator = false
 clo : fd.closure = []
 cf : ∀ k, cellsFrom k fd.scope.names [] = [(XE, k)]
 glob : fd.globals = mainGlobals
 bi : fd.builtins = builtinsNs
 code : s.heap.CodeRec fd.code fd.qualname
 bind : bindArgs fd ⟨[.ref P], []⟩ = pure [(Yd, .ref P)]
theorem Zh0 {fa P : Addr} {o : Obj} {fd : FuncData} {ws : List Value} {ns : List Int} {Q : Value → Shared → Prop} (D : ZeM prog w s.heap mb) (H : Zm8 w s fa P o fd) (sys : ∃ o, s.heap.get? sysModules = some o)
  (hS : s.heap.IsList P ws.toArray) (hi : IntsAre ws ns) (hlen : ws.length ≤ 63)
  (hq : ∀ h' tk, s.heap.StaysIn h' → Q (.bool true) { s with heap := h', toks := tk }) : wpAny (model prog w) callerA (call (.ref fa) [.ref P]) Q E s := by
 obtain ⟨B, hB, hsz, z1, z2⟩ := Gq _ s.heap fa o rfl H.at_
 have kB : ∀ b o, s.heap.get? b = some o → B.get? b = some o := fun b o e => (hB b).trans e
 have DB : ZeM prog w B mb := ⟨D.X.keeps kB, D.lim.keeps kB, D.b.keeps kB, D.bb⟩
 have T := tL DB (P := P) (stays_list (base := s.heap) (h := B) kB hS) hi hlen
 have hks : (callEnvC fd s.heap.objs.size fa).kindOf Yd = some .local := by
  show fd.scope.names.lookup Yd = _
  rw [H.names, ← Ye]; exact kL.1
 refine wpAny_call (codeAny_call_cells (fd := fd) (body := frL.body) (binds := [(Yd, .ref P)]) (by decide) H.at_ H.dat D.lim H.code H.body H.bind H.clo (fun y hy => ?_) (fun s₁ I => ?_) H.co H.gen H.kind)
 ·cases hy with
  | head => exact .inl hks
  | tail _ h => (exfalso; cases h)
 ·obtain ⟨h₁, tk, rfl, hkeep⟩ := I.done
  have hns := I.toInCall.ns
  obtain ⟨oc, hoc, hdc⟩ := I.cell XE (s.heap.objs.size + 1) (by show (cellsFrom (s.heap.objs.size + 1) fd.scope.names []).lookup XE = _; rw [H.cf]; simp)
  have hm : PySem.bindL (callEnvC fd s.heap.objs.size fa).kindOf [(Yd, .ref P)] (fun _ => none) Yd = some (.ref P) := by
   unfold PySem.bindL
   rw [if_pos hks]
   unfold PySem.bindL
   simp
  have hco : oc.data = .cell none := by
   rw [hdc]
   unfold bindC
   rw [if_pos hks]
   rfl
  have b1 : B.get? s.heap.objs.size = none := (hB _).trans (Heap.get?_none_of_le (Nat.le_refl _))
  have b2 : B.get? (s.heap.objs.size + 1) = none := (hB _).trans (Heap.get?_none_of_le (Nat.le_succ _))
  have lfrz : ∀ a o, B.get? a = some o → Za8 B s.heap.objs.size oc a = .frz o := fun a o e => by
   delta Za8
   rw [if_neg (fun q => by rw [q, b1] at e; exact xN e), if_neg (fun q => by rw [q, b2] at e; exact xN e), e]
  have lcur : Za8 B s.heap.objs.size oc s.heap.objs.size = .cur := if_pos rfl
  have lhid : Za8 B s.heap.objs.size oc (s.heap.objs.size + 1) = .hid oc := by
   delta Za8
   rw [if_neg (Nat.succ_ne_self _), if_pos rfl]
  have R : Rep prog w B [] s.heap.objs.size (ZfT P) (Za8 B s.heap.objs.size oc) [] [] h₁ := by
   refine ⟨⟨lfrz, fun a => ?_, rfl, fun k ao e => (by exact xN e), ⟨z1, z2⟩, ?_⟩, fun env he => (by cases he), lcur, ⟨_, hns, ?_⟩, hsz⟩
   ·by_cases q : a = s.heap.objs.size
    ·subst q
     rw [lcur]
     obtain ⟨oL, _, _, e, _⟩ := hns
     exact ⟨oL, e⟩
    ·by_cases q2 : a = s.heap.objs.size + 1
     ·subst q2
      rw [lhid]; exact hoc
     ·generalize z : B.get? a = zz at *
      cases zz with
      | some o => rw [lfrz a o z]; exact hkeep _ _ ((hB a).symm.trans z)
      | none =>
       have : Za8 B s.heap.objs.size oc a = .free := by
        delta Za8
        rw [if_neg q, if_neg q2, z]
       rw [this]; trivial
   ·obtain ⟨o, e⟩ := sys
    exact ⟨o, kB _ _ e⟩
   ·exact Y9.cons hm (.inl (.old P))
  have hC : Cx B (callerA.deeper (callEnvC fd s.heap.objs.size fa)) (callEnvC fd s.heap.objs.size fa) [] s.heap.objs.size (fiL (s.heap.objs.size + 1)) 141 := by
   refine ⟨by rw [Around.frames_deeper (outer := []) rfl]; rfl, fun _ => rfl, fun y c q => ?_, rfl, H.kind, H.names, fun q => rfl, H.glob, H.bi, ?_, ?_⟩
   ·show (cellsFrom (s.heap.objs.size + 1) fd.scope.names []).lookup y = _
    rw [H.cf, ← Ye]; exact q
   ·show 1 + claimMargin + 1 + 141 ≤ 990
    decide
   ·show 4 + 3 + 8 * 141 ≤ 9800
    decide
  refine ZfX (s := { s with heap := h₁, toks := tk }) (fun n => T.snd DB n) (T.prims DB) hC R lhid hco fun loc' Λ' σ' ρ' h' tk' R' => ?_
  exact hq h' tk' fun b o e => R'.toRep0.keep b o (kB b o e)
end
theorem ZjR : importsNone Mine.hv = true := by kernel_rfl
theorem Zd7 (A : List WData) : PySem.Challenge.rw_ok0158_01.row.claim.post A (WData.bool true) A = true := by
 show (WShape.has [] (.bool true) .bool && WTm.holds [] (.eq .res (.lit (.bool true))) { args := A, res := some (.bool true), after := A }) = true
 first
  | (kernel_rfl; done)
  | (simp [WTm.holds, WTm.value]; done)
set_option tactic.hygienic true in
theorem the_law : PySem.Challenge.rw_ok0158_01.Holds := by
 w_on
 refine holds_law Zlw fun Zlw => ?_
 refine PySem.W.holds_open (q := hv) (loose := [Str.ofString "GateError", Str.ofString "register_name", Str.ofString "check_row"]) (Xt := fun s => xlAt hv [] s && recOk [] s) (XP := XL hv []) (Yf := hH.obs) (Ya := hH.val) (YP := hH.says) (N := 3272) ?hl hH.of hH.keeps (fun s e => xl_of s (Bool.and_eq_true_iff.mp e).1) XL.keeps (by rfl) (by rfl) (by rfl) (fun s e => recFacts_of (Bool.and_eq_true_iff.mp e).2) (by rfl) (by assumption) (by kernel_rfl) ⟨rfl, rfl, rfl, rfl, rfl, by kernel_rfl⟩ ?hw ?hc
 case hl => exact hl0
 case hw => w_witness2
 intro w s₀ s₁ mg mb G Y fa o pm cd doc dV kV ho hd' hcd hD hmg hg args vals as hpre hlay hrd hwl hlo
 have KX := kIn_of Y
 refine Ground.open G ?_
 intro T B D TE TW
 obtain ⟨mm, hmm, _⟩ := (T.seer ZjR).mods
 obtain ⟨osys, _, _, esys, _⟩ := hmm
 have hdV : dV = .none := by
  obtain ⟨_, e⟩ | ⟨e, _⟩ := hD.pos
  ·exact e
  ·exact (e rfl).elim
 have hkV : kV = .none := by
  obtain ⟨_, e⟩ | ⟨e, _⟩ := hD.kw
  ·exact e
  ·exact (e rfl).elim
 subst hdV hkV
 wrow_args hpre hlay hrd hwl hlo
 rename_i ns _ _ _ _ _ _ _ P ws _ hL _ _ _ hI _ hcond _
 have hlen : ws.length ≤ 63 := by
  have := hI.length
  omega
 refine Zh0 (mb := mb) (prog := PySem.Challenge.rw_ok0158_01.row.toRowW.prog) ⟨KX, T.nolimit, T.b, T.builtins⟩ ⟨ho, hd', ?_, ?_, rfl, rfl, rfl, rfl, ?_, rfl, rfl, hcd, ?_⟩ ⟨osys, esys⟩ hL hI hlen (fun h' tk st => ?_)
 ·kernel_rfl
 ·kernel_rfl
 ·intro k; rfl
 ·rfl
 ·refine ⟨.inl ⟨.bool true, .bool true, [], rfl, fun _ => rfl, .bool true, ?_, fun _ => ⟨.nil, nofun⟩⟩, .of_keep st, rfl, .of_eq hg⟩
  exact Zd7 _
end Mine
theorem PySem.Challenge.cw_ok0158_01_holds : PySem.Challenge.rw_ok0158_01.Holds :=
 Mine.the_law
