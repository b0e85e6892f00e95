import PyProof.Rows.All
import Wide.All
import OpenK.AllK
import Wide.FinOn
import PySem.Challenge.RW_pq1468_01
open PySem PySem.W PySem.Spec PySem.Calls PyProof.Rows
set_option Elab.async false
set_option maxRecDepth 100000
set_option maxHeartbeats 8000000
set_option linter.all false
set_option rowWalk.seconds 0
set_option compiler.extract_closed false
set_option maxRecDepth 100000
set_option maxHeartbeats 8000000
namespace hd
noncomputable def fa (i : Nat) : Arguments := match PySem.Challenge.pw_pq1468_01.main.body[i]? with | some (.FunctionDef _ a _ _ _ _ _ _ _ _) => a | some (.ClassDef _ _ _ (.FunctionDef _ a _ _ _ _ _ _ _ _ :: _) _ _ _ _ _ _ _) => a | _ => ⟨[], [], none, [], [], none, []⟩
noncomputable def fb (i : Nat) : List Stmt := match PySem.Challenge.pw_pq1468_01.main.body[i]? with | some (.FunctionDef _ _ b _ _ _ _ _ _ _) => b | some (.ClassDef _ _ _ (.FunctionDef _ _ b _ _ _ _ _ _ _ :: _) _ _ _ _ _ _ _) => b | _ => []
noncomputable def fs (i : Nat) : Scope := match PySem.Challenge.pw_pq1468_01.main.body[i]? with | some (.FunctionDef _ _ _ _ _ _ s _ _ _) => s | some (.ClassDef _ _ _ (.FunctionDef _ _ _ _ _ _ s _ _ _ :: _) _ _ _ _ _ _ _) => s | _ => ⟨.function, [], false, false, []⟩
noncomputable def en (P : Params) (k : String) (t : Tok) (v : Value) : DictEntry := ⟨PyData.keyHash P (Str.ofString k), .str (Str.ofString k) t, v⟩
noncomputable def o3 (P : Params) : Obj := ⟨.type "dict", none, .dict #[en P "__name__" 165 (.str "law_pq1468_01" 693), en P "__doc__" 166 (.none), en P "__package__" 167 (.none), en P "__loader__" 168 (.builtin "__main__.__loader__#opaque"), en P "__spec__" 169 (.none), en P "__annotations__" 170 (.ref 6), en P "__builtins__" 171 (.ref 4), en P "__file__" 173 (.str "/claim/cut.py" 172), en P "__cached__" 174 (.none), en P "REG_B" 190 (.int (0) 189), en P "REG_C" 192 (.int (1) 191), en P "REG_F" 194 (.int (6) 193), en P "REG_A" 196 (.int (7) 195), en P "Cpu" 237 (.ref 31), en P "Ports" 268 (.ref 52), en P "cpu_row" 276 (.ref 63), en P "pair" 284 (.ref 70), en P "set_pair" 293 (.ref 77), en P "peek" 301 (.ref 84), en P "poke" 310 (.ref 91), en P "peek16" 318 (.ref 98), en P "poke16" 327 (.ref 105), en P "fetch" 336 (.ref 112), en P "fetch16" 345 (.ref 119), en P "pop" 354 (.ref 126), en P "port_in" 363 (.ref 133), en P "port_out" 372 (.ref 140), en P "S" 376 (.int (128) 375), en P "Z" 378 (.int (64) 377), en P "Y" 380 (.int (32) 379), en P "H" 382 (.int (16) 381), en P "X" 384 (.int (8) 383), en P "PV" 386 (.int (4) 385), en P "N" 388 (.int (2) 387), en P "C" 390 (.int (1) 389), en P "YX" 392 (.int (40) 391), en P "parity" 399 (.ref 147), en P "szyx" 406 (.ref 154), en P "sub8" 418 (.ref 161), en P "neg" 425 (.ref 168), en P "high_flags" 434 (.ref 175), en P "word_flags" 441 (.ref 182), en P "adc16" 453 (.ref 189), en P "sbc16" 465 (.ref 196), en P "rrd" 475 (.ref 203), en P "rld" 485 (.ref 210), en P "load_flags" 494 (.ref 217), en P "in_flags" 502 (.ref 224), en P "move_flags" 513 (.ref 231), en P "seek_flags" 526 (.ref 238), en P "port_flags" 537 (.ref 245), en P "BC" 541 (.int (0) 540), en P "DE" 543 (.int (1) 542), en P "HL" 545 (.int (2) 544), en P "NOTHING" 547 (.int (6) 546), en P "STATES_OF_NONE" 549 (.int (8) 548), en P "STATES_OF_ONE_ROUND" 551 (.int (16) 550), en P "STATES_OF_GOING_ON" 553 (.int (21) 552), en P "MODES" 562 (.ref 246), en P "STATES_BY_Z" 571 (.ref 247), en P "do_ed" 584 (.ref 254), en P "come_in" 594 (.ref 261), en P "add_words" 604 (.ref 268), en P "load_words" 614 (.ref 275), en P "do_special" 626 (.ref 282), en P "do_block" 639 (.ref 289), en P "lead" 648 (.ref 296), en P "move_one" 659 (.ref 303), en P "seek_one" 670 (.ref 310), en P "take_one" 681 (.ref 317), en P "send_one" 692 (.ref 324), en P "_law_pool" 700 (.ref 329), en P "_law_draw" 708 (.ref 336), en P "_law_pair" 716 (.ref 343), en P "_law_rounds" 728 (.ref 350), en P "_law_cpu" 734 (.ref 355), en P "_law_flags" 746 (.ref 362), en P "_law_moved_right" 752 (.ref 367), en P "_law_sought_right" 758 (.ref 372), en P "_law_ports_right" 764 (.ref 377), en P "_law_once_right" 770 (.ref 382), en P "law" 780 (.ref 389)] 82, #[]⟩
noncomputable def o2 (P : Params) : Obj := ⟨.none, none, .dict #[] 0, #[]⟩
noncomputable def o28 : Obj := by
  refine' (?f : (p : Arguments) → (b : List Stmt) → (s : Scope) → fa 5 = p → fb 5 = b → fs 5 = s → Obj) _ _ _ ?hp ?hb ?hs
  case f => exact fun p b s _ _ _ => ⟨.type "function", none, .func ⟨"__init__", "Cpu.__init__", p, .stmts b, s, 3, [], .none, .none, .none, .str "z80.cpu" 187, none, .ref 27, .none, 0⟩, #[]⟩
  case hp => (conv => lhs; whnf)
  case hb => (conv => lhs; whnf)
  case hs => (conv => lhs; whnf)
noncomputable def o27 : Obj := ⟨.type "code", none, .fields #[.str "__init__" 209, .str "Cpu.__init__" 210, .str "/claim/cut.py" 211, .int (8) 0, .int (1) 0, .int (0) 0, .int (0) 0, .int (3) 0, .ref 22, .bool true, .int (181) 0, .ref 23, .none, .ref 24, .ref 25, .ref 26, .int (213) 0, .int (8) 0, .str "/claim/cut.py" 214], #[]⟩
noncomputable def o49 : Obj := by
  refine' (?f : (p : Arguments) → (b : List Stmt) → (s : Scope) → fa 6 = p → fb 6 = b → fs 6 = s → Obj) _ _ _ ?hp ?hb ?hs
  case f => exact fun p b s _ _ _ => ⟨.type "function", none, .func ⟨"__init__", "Ports.__init__", p, .stmts b, s, 3, [], .none, .none, .none, .str "z80.cpu" 187, none, .ref 48, .none, 0⟩, #[]⟩
  case hp => (conv => lhs; whnf)
  case hb => (conv => lhs; whnf)
  case hs => (conv => lhs; whnf)
noncomputable def o48 : Obj := ⟨.type "code", none, .fields #[.str "__init__" 250, .str "Ports.__init__" 251, .str "/claim/cut.py" 252, .int (25) 0, .int (2) 0, .int (0) 0, .int (0) 0, .int (3) 0, .ref 43, .bool true, .int (181) 0, .ref 44, .none, .ref 45, .ref 46, .ref 47, .int (255) 0, .int (25) 0, .str "/claim/cut.py" 256], #[]⟩
noncomputable def o63 : Obj := by
  refine' (?f : (p : Arguments) → (b : List Stmt) → (s : Scope) → fa 7 = p → fb 7 = b → fs 7 = s → Obj) _ _ _ ?hp ?hb ?hs
  case f => exact fun p b s _ _ _ => ⟨.type "function", none, .func ⟨"cpu_row", "cpu_row", p, .stmts b, s, 3, [], .none, .none, .none, .str "z80.cpu" 187, none, .ref 62, .none, 0⟩, #[]⟩
  case hp => (conv => lhs; whnf)
  case hb => (conv => lhs; whnf)
  case hs => (conv => lhs; whnf)
noncomputable def o62 : Obj := ⟨.type "code", none, .fields #[.str "cpu_row" 269, .str "cpu_row" 270, .str "/claim/cut.py" 271, .int (29) 0, .int (1) 0, .int (0) 0, .int (0) 0, .int (3) 0, .ref 57, .bool true, .int (181) 0, .ref 58, .none, .ref 59, .ref 60, .ref 61, .int (274) 0, .int (29) 0, .str "/claim/cut.py" 275], #[]⟩
noncomputable def o70 : Obj := by
  refine' (?f : (p : Arguments) → (b : List Stmt) → (s : Scope) → fa 8 = p → fb 8 = b → fs 8 = s → Obj) _ _ _ ?hp ?hb ?hs
  case f => exact fun p b s _ _ _ => ⟨.type "function", none, .func ⟨"pair", "pair", p, .stmts b, s, 3, [], .none, .none, .none, .str "z80.cpu" 187, none, .ref 69, .none, 0⟩, #[]⟩
  case hp => (conv => lhs; whnf)
  case hb => (conv => lhs; whnf)
  case hs => (conv => lhs; whnf)
noncomputable def o69 : Obj := ⟨.type "code", none, .fields #[.str "pair" 277, .str "pair" 278, .str "/claim/cut.py" 279, .int (32) 0, .int (2) 0, .int (0) 0, .int (0) 0, .int (3) 0, .ref 64, .bool true, .int (181) 0, .ref 65, .none, .ref 66, .ref 67, .ref 68, .int (282) 0, .int (32) 0, .str "/claim/cut.py" 283], #[]⟩
noncomputable def o77 : Obj := by
  refine' (?f : (p : Arguments) → (b : List Stmt) → (s : Scope) → fa 9 = p → fb 9 = b → fs 9 = s → Obj) _ _ _ ?hp ?hb ?hs
  case f => exact fun p b s _ _ _ => ⟨.type "function", none, .func ⟨"set_pair", "set_pair", p, .stmts b, s, 3, [], .none, .none, .none, .str "z80.cpu" 187, none, .ref 76, .none, 0⟩, #[]⟩
  case hp => (conv => lhs; whnf)
  case hb => (conv => lhs; whnf)
  case hs => (conv => lhs; whnf)
noncomputable def o76 : Obj := ⟨.type "code", none, .fields #[.str "set_pair" 285, .str "set_pair" 286, .str "/claim/cut.py" 287, .int (34) 0, .int (3) 0, .int (0) 0, .int (0) 0, .int (3) 0, .ref 71, .bool true, .int (181) 0, .ref 72, .none, .ref 73, .ref 74, .ref 75, .int (291) 0, .int (34) 0, .str "/claim/cut.py" 292], #[]⟩
noncomputable def o84 : Obj := by
  refine' (?f : (p : Arguments) → (b : List Stmt) → (s : Scope) → fa 10 = p → fb 10 = b → fs 10 = s → Obj) _ _ _ ?hp ?hb ?hs
  case f => exact fun p b s _ _ _ => ⟨.type "function", none, .func ⟨"peek", "peek", p, .stmts b, s, 3, [], .none, .none, .none, .str "z80.cpu" 187, none, .ref 83, .none, 0⟩, #[]⟩
  case hp => (conv => lhs; whnf)
  case hb => (conv => lhs; whnf)
  case hs => (conv => lhs; whnf)
noncomputable def o83 : Obj := ⟨.type "code", none, .fields #[.str "peek" 294, .str "peek" 295, .str "/claim/cut.py" 296, .int (40) 0, .int (2) 0, .int (0) 0, .int (0) 0, .int (3) 0, .ref 78, .bool true, .int (181) 0, .ref 79, .none, .ref 80, .ref 81, .ref 82, .int (299) 0, .int (40) 0, .str "/claim/cut.py" 300], #[]⟩
noncomputable def o91 : Obj := by
  refine' (?f : (p : Arguments) → (b : List Stmt) → (s : Scope) → fa 11 = p → fb 11 = b → fs 11 = s → Obj) _ _ _ ?hp ?hb ?hs
  case f => exact fun p b s _ _ _ => ⟨.type "function", none, .func ⟨"poke", "poke", p, .stmts b, s, 3, [], .none, .none, .none, .str "z80.cpu" 187, none, .ref 90, .none, 0⟩, #[]⟩
  case hp => (conv => lhs; whnf)
  case hb => (conv => lhs; whnf)
  case hs => (conv => lhs; whnf)
noncomputable def o90 : Obj := ⟨.type "code", none, .fields #[.str "poke" 302, .str "poke" 303, .str "/claim/cut.py" 304, .int (42) 0, .int (3) 0, .int (0) 0, .int (0) 0, .int (3) 0, .ref 85, .bool true, .int (181) 0, .ref 86, .none, .ref 87, .ref 88, .ref 89, .int (308) 0, .int (42) 0, .str "/claim/cut.py" 309], #[]⟩
noncomputable def o133 : Obj := by
  refine' (?f : (p : Arguments) → (b : List Stmt) → (s : Scope) → fa 17 = p → fb 17 = b → fs 17 = s → Obj) _ _ _ ?hp ?hb ?hs
  case f => exact fun p b s _ _ _ => ⟨.type "function", none, .func ⟨"port_in", "port_in", p, .stmts b, s, 3, [], .none, .none, .none, .str "z80.cpu" 187, none, .ref 132, .none, 0⟩, #[]⟩
  case hp => (conv => lhs; whnf)
  case hb => (conv => lhs; whnf)
  case hs => (conv => lhs; whnf)
noncomputable def o132 : Obj := ⟨.type "code", none, .fields #[.str "port_in" 355, .str "port_in" 356, .str "/claim/cut.py" 357, .int (60) 0, .int (2) 0, .int (0) 0, .int (0) 0, .int (3) 0, .ref 127, .bool true, .int (181) 0, .ref 128, .none, .ref 129, .ref 130, .ref 131, .int (361) 0, .int (60) 0, .str "/claim/cut.py" 362], #[]⟩
noncomputable def o140 : Obj := by
  refine' (?f : (p : Arguments) → (b : List Stmt) → (s : Scope) → fa 18 = p → fb 18 = b → fs 18 = s → Obj) _ _ _ ?hp ?hb ?hs
  case f => exact fun p b s _ _ _ => ⟨.type "function", none, .func ⟨"port_out", "port_out", p, .stmts b, s, 3, [], .none, .none, .none, .str "z80.cpu" 187, none, .ref 139, .none, 0⟩, #[]⟩
  case hp => (conv => lhs; whnf)
  case hb => (conv => lhs; whnf)
  case hs => (conv => lhs; whnf)
noncomputable def o139 : Obj := ⟨.type "code", none, .fields #[.str "port_out" 364, .str "port_out" 365, .str "/claim/cut.py" 366, .int (66) 0, .int (3) 0, .int (0) 0, .int (0) 0, .int (3) 0, .ref 134, .bool true, .int (181) 0, .ref 135, .none, .ref 136, .ref 137, .ref 138, .int (370) 0, .int (66) 0, .str "/claim/cut.py" 371], #[]⟩
noncomputable def o147 : Obj := by
  refine' (?f : (p : Arguments) → (b : List Stmt) → (s : Scope) → fa 29 = p → fb 29 = b → fs 29 = s → Obj) _ _ _ ?hp ?hb ?hs
  case f => exact fun p b s _ _ _ => ⟨.type "function", none, .func ⟨"parity", "parity", p, .stmts b, s, 3, [], .none, .none, .none, .str "z80.flags" 373, none, .ref 146, .none, 0⟩, #[]⟩
  case hp => (conv => lhs; whnf)
  case hb => (conv => lhs; whnf)
  case hs => (conv => lhs; whnf)
noncomputable def o146 : Obj := ⟨.type "code", none, .fields #[.str "parity" 393, .str "parity" 394, .str "/claim/cut.py" 395, .int (78) 0, .int (1) 0, .int (0) 0, .int (0) 0, .int (3) 0, .ref 141, .bool true, .int (181) 0, .ref 142, .none, .ref 143, .ref 144, .ref 145, .int (397) 0, .int (78) 0, .str "/claim/cut.py" 398], #[]⟩
noncomputable def o154 : Obj := by
  refine' (?f : (p : Arguments) → (b : List Stmt) → (s : Scope) → fa 30 = p → fb 30 = b → fs 30 = s → Obj) _ _ _ ?hp ?hb ?hs
  case f => exact fun p b s _ _ _ => ⟨.type "function", none, .func ⟨"szyx", "szyx", p, .stmts b, s, 3, [], .none, .none, .none, .str "z80.flags" 373, none, .ref 153, .none, 0⟩, #[]⟩
  case hp => (conv => lhs; whnf)
  case hb => (conv => lhs; whnf)
  case hs => (conv => lhs; whnf)
noncomputable def o153 : Obj := ⟨.type "code", none, .fields #[.str "szyx" 400, .str "szyx" 401, .str "/claim/cut.py" 402, .int (83) 0, .int (1) 0, .int (0) 0, .int (0) 0, .int (3) 0, .ref 148, .bool true, .int (181) 0, .ref 149, .none, .ref 150, .ref 151, .ref 152, .int (404) 0, .int (83) 0, .str "/claim/cut.py" 405], #[]⟩
noncomputable def o161 : Obj := by
  refine' (?f : (p : Arguments) → (b : List Stmt) → (s : Scope) → fa 31 = p → fb 31 = b → fs 31 = s → Obj) _ _ _ ?hp ?hb ?hs
  case f => exact fun p b s _ _ _ => ⟨.type "function", none, .func ⟨"sub8", "sub8", p, .stmts b, s, 3, [], .none, .none, .none, .str "z80.flags" 373, none, .ref 160, .none, 0⟩, #[]⟩
  case hp => (conv => lhs; whnf)
  case hb => (conv => lhs; whnf)
  case hs => (conv => lhs; whnf)
noncomputable def o160 : Obj := ⟨.type "code", none, .fields #[.str "sub8" 407, .str "sub8" 408, .str "/claim/cut.py" 409, .int (85) 0, .int (3) 0, .int (0) 0, .int (0) 0, .int (3) 0, .ref 155, .bool true, .int (181) 0, .ref 156, .none, .ref 157, .ref 158, .ref 159, .int (416) 0, .int (85) 0, .str "/claim/cut.py" 417], #[]⟩
noncomputable def o231 : Obj := by
  refine' (?f : (p : Arguments) → (b : List Stmt) → (s : Scope) → fa 41 = p → fb 41 = b → fs 41 = s → Obj) _ _ _ ?hp ?hb ?hs
  case f => exact fun p b s _ _ _ => ⟨.type "function", none, .func ⟨"move_flags", "move_flags", p, .stmts b, s, 3, [], .none, .none, .none, .str "z80.flags" 373, none, .ref 230, .none, 0⟩, #[]⟩
  case hp => (conv => lhs; whnf)
  case hb => (conv => lhs; whnf)
  case hs => (conv => lhs; whnf)
noncomputable def o230 : Obj := ⟨.type "code", none, .fields #[.str "move_flags" 503, .str "move_flags" 504, .str "/claim/cut.py" 505, .int (116) 0, .int (4) 0, .int (0) 0, .int (0) 0, .int (3) 0, .ref 225, .bool true, .int (181) 0, .ref 226, .none, .ref 227, .ref 228, .ref 229, .int (511) 0, .int (116) 0, .str "/claim/cut.py" 512], #[]⟩
noncomputable def o238 : Obj := by
  refine' (?f : (p : Arguments) → (b : List Stmt) → (s : Scope) → fa 42 = p → fb 42 = b → fs 42 = s → Obj) _ _ _ ?hp ?hb ?hs
  case f => exact fun p b s _ _ _ => ⟨.type "function", none, .func ⟨"seek_flags", "seek_flags", p, .stmts b, s, 3, [], .none, .none, .none, .str "z80.flags" 373, none, .ref 237, .none, 0⟩, #[]⟩
  case hp => (conv => lhs; whnf)
  case hb => (conv => lhs; whnf)
  case hs => (conv => lhs; whnf)
noncomputable def o237 : Obj := ⟨.type "code", none, .fields #[.str "seek_flags" 514, .str "seek_flags" 515, .str "/claim/cut.py" 516, .int (119) 0, .int (4) 0, .int (0) 0, .int (0) 0, .int (3) 0, .ref 232, .bool true, .int (181) 0, .ref 233, .none, .ref 234, .ref 235, .ref 236, .int (524) 0, .int (119) 0, .str "/claim/cut.py" 525], #[]⟩
noncomputable def o245 : Obj := by
  refine' (?f : (p : Arguments) → (b : List Stmt) → (s : Scope) → fa 43 = p → fb 43 = b → fs 43 = s → Obj) _ _ _ ?hp ?hb ?hs
  case f => exact fun p b s _ _ _ => ⟨.type "function", none, .func ⟨"port_flags", "port_flags", p, .stmts b, s, 3, [], .none, .none, .none, .str "z80.flags" 373, none, .ref 244, .none, 0⟩, #[]⟩
  case hp => (conv => lhs; whnf)
  case hb => (conv => lhs; whnf)
  case hs => (conv => lhs; whnf)
noncomputable def o244 : Obj := ⟨.type "code", none, .fields #[.str "port_flags" 527, .str "port_flags" 528, .str "/claim/cut.py" 529, .int (123) 0, .int (3) 0, .int (0) 0, .int (0) 0, .int (3) 0, .ref 239, .bool true, .int (181) 0, .ref 240, .none, .ref 241, .ref 242, .ref 243, .int (535) 0, .int (123) 0, .str "/claim/cut.py" 536], #[]⟩
noncomputable def o254 : Obj := by
  refine' (?f : (p : Arguments) → (b : List Stmt) → (s : Scope) → fa 54 = p → fb 54 = b → fs 54 = s → Obj) _ _ _ ?hp ?hb ?hs
  case f => exact fun p b s _ _ _ => ⟨.type "function", none, .func ⟨"do_ed", "do_ed", p, .stmts b, s, 3, [], .none, .none, .none, .str "z80.rules_ed" 538, none, .ref 253, .none, 0⟩, #[]⟩
  case hp => (conv => lhs; whnf)
  case hb => (conv => lhs; whnf)
  case hs => (conv => lhs; whnf)
noncomputable def o253 : Obj := ⟨.type "code", none, .fields #[.str "do_ed" 572, .str "do_ed" 573, .str "/claim/cut.py" 574, .int (137) 0, .int (4) 0, .int (0) 0, .int (0) 0, .int (3) 0, .ref 248, .bool true, .int (181) 0, .ref 249, .none, .ref 250, .ref 251, .ref 252, .int (582) 0, .int (137) 0, .str "/claim/cut.py" 583], #[]⟩
noncomputable def o289 : Obj := by
  refine' (?f : (p : Arguments) → (b : List Stmt) → (s : Scope) → fa 59 = p → fb 59 = b → fs 59 = s → Obj) _ _ _ ?hp ?hb ?hs
  case f => exact fun p b s _ _ _ => ⟨.type "function", none, .func ⟨"do_block", "do_block", p, .stmts b, s, 3, [], .none, .none, .none, .str "z80.rules_ed" 538, none, .ref 288, .none, 0⟩, #[]⟩
  case hp => (conv => lhs; whnf)
  case hb => (conv => lhs; whnf)
  case hs => (conv => lhs; whnf)
noncomputable def o288 : Obj := ⟨.type "code", none, .fields #[.str "do_block" 627, .str "do_block" 628, .str "/claim/cut.py" 629, .int (192) 0, .int (5) 0, .int (0) 0, .int (0) 0, .int (3) 0, .ref 283, .bool true, .int (181) 0, .ref 284, .none, .ref 285, .ref 286, .ref 287, .int (637) 0, .int (192) 0, .str "/claim/cut.py" 638], #[]⟩
noncomputable def o296 : Obj := by
  refine' (?f : (p : Arguments) → (b : List Stmt) → (s : Scope) → fa 60 = p → fb 60 = b → fs 60 = s → Obj) _ _ _ ?hp ?hb ?hs
  case f => exact fun p b s _ _ _ => ⟨.type "function", none, .func ⟨"lead", "lead", p, .stmts b, s, 3, [], .none, .none, .none, .str "z80.rules_ed" 538, none, .ref 295, .none, 0⟩, #[]⟩
  case hp => (conv => lhs; whnf)
  case hb => (conv => lhs; whnf)
  case hs => (conv => lhs; whnf)
noncomputable def o295 : Obj := ⟨.type "code", none, .fields #[.str "lead" 640, .str "lead" 641, .str "/claim/cut.py" 642, .int (206) 0, .int (3) 0, .int (0) 0, .int (0) 0, .int (3) 0, .ref 290, .bool true, .int (181) 0, .ref 291, .none, .ref 292, .ref 293, .ref 294, .int (646) 0, .int (206) 0, .str "/claim/cut.py" 647], #[]⟩
noncomputable def o303 : Obj := by
  refine' (?f : (p : Arguments) → (b : List Stmt) → (s : Scope) → fa 61 = p → fb 61 = b → fs 61 = s → Obj) _ _ _ ?hp ?hb ?hs
  case f => exact fun p b s _ _ _ => ⟨.type "function", none, .func ⟨"move_one", "move_one", p, .stmts b, s, 3, [], .none, .none, .none, .str "z80.rules_ed" 538, none, .ref 302, .none, 0⟩, #[]⟩
  case hp => (conv => lhs; whnf)
  case hb => (conv => lhs; whnf)
  case hs => (conv => lhs; whnf)
noncomputable def o302 : Obj := ⟨.type "code", none, .fields #[.str "move_one" 649, .str "move_one" 650, .str "/claim/cut.py" 651, .int (209) 0, .int (3) 0, .int (0) 0, .int (0) 0, .int (3) 0, .ref 297, .bool true, .int (181) 0, .ref 298, .none, .ref 299, .ref 300, .ref 301, .int (657) 0, .int (209) 0, .str "/claim/cut.py" 658], #[]⟩
noncomputable def o310 : Obj := by
  refine' (?f : (p : Arguments) → (b : List Stmt) → (s : Scope) → fa 62 = p → fb 62 = b → fs 62 = s → Obj) _ _ _ ?hp ?hb ?hs
  case f => exact fun p b s _ _ _ => ⟨.type "function", none, .func ⟨"seek_one", "seek_one", p, .stmts b, s, 3, [], .none, .none, .none, .str "z80.rules_ed" 538, none, .ref 309, .none, 0⟩, #[]⟩
  case hp => (conv => lhs; whnf)
  case hb => (conv => lhs; whnf)
  case hs => (conv => lhs; whnf)
noncomputable def o309 : Obj := ⟨.type "code", none, .fields #[.str "seek_one" 660, .str "seek_one" 661, .str "/claim/cut.py" 662, .int (217) 0, .int (3) 0, .int (0) 0, .int (0) 0, .int (3) 0, .ref 304, .bool true, .int (181) 0, .ref 305, .none, .ref 306, .ref 307, .ref 308, .int (668) 0, .int (217) 0, .str "/claim/cut.py" 669], #[]⟩
noncomputable def o317 : Obj := by
  refine' (?f : (p : Arguments) → (b : List Stmt) → (s : Scope) → fa 63 = p → fb 63 = b → fs 63 = s → Obj) _ _ _ ?hp ?hb ?hs
  case f => exact fun p b s _ _ _ => ⟨.type "function", none, .func ⟨"take_one", "take_one", p, .stmts b, s, 3, [], .none, .none, .none, .str "z80.rules_ed" 538, none, .ref 316, .none, 0⟩, #[]⟩
  case hp => (conv => lhs; whnf)
  case hb => (conv => lhs; whnf)
  case hs => (conv => lhs; whnf)
noncomputable def o316 : Obj := ⟨.type "code", none, .fields #[.str "take_one" 671, .str "take_one" 672, .str "/claim/cut.py" 673, .int (223) 0, .int (4) 0, .int (0) 0, .int (0) 0, .int (3) 0, .ref 311, .bool true, .int (181) 0, .ref 312, .none, .ref 313, .ref 314, .ref 315, .int (679) 0, .int (223) 0, .str "/claim/cut.py" 680], #[]⟩
noncomputable def o324 : Obj := by
  refine' (?f : (p : Arguments) → (b : List Stmt) → (s : Scope) → fa 64 = p → fb 64 = b → fs 64 = s → Obj) _ _ _ ?hp ?hb ?hs
  case f => exact fun p b s _ _ _ => ⟨.type "function", none, .func ⟨"send_one", "send_one", p, .stmts b, s, 3, [], .none, .none, .none, .str "z80.rules_ed" 538, none, .ref 323, .none, 0⟩, #[]⟩
  case hp => (conv => lhs; whnf)
  case hb => (conv => lhs; whnf)
  case hs => (conv => lhs; whnf)
noncomputable def o323 : Obj := ⟨.type "code", none, .fields #[.str "send_one" 682, .str "send_one" 683, .str "/claim/cut.py" 684, .int (230) 0, .int (4) 0, .int (0) 0, .int (0) 0, .int (3) 0, .ref 318, .bool true, .int (181) 0, .ref 319, .none, .ref 320, .ref 321, .ref 322, .int (690) 0, .int (230) 0, .str "/claim/cut.py" 691], #[]⟩
noncomputable def o329 : Obj := by
  refine' (?f : (p : Arguments) → (b : List Stmt) → (s : Scope) → fa 66 = p → fb 66 = b → fs 66 = s → Obj) _ _ _ ?hp ?hb ?hs
  case f => exact fun p b s _ _ _ => ⟨.type "function", none, .func ⟨"_law_pool", "_law_pool", p, .stmts b, s, 3, [], .none, .none, .none, .str "law_pq1468_01" 693, none, .ref 328, .none, 0⟩, #[]⟩
  case hp => (conv => lhs; whnf)
  case hb => (conv => lhs; whnf)
  case hs => (conv => lhs; whnf)
noncomputable def o328 : Obj := ⟨.type "code", none, .fields #[.str "_law_pool" 695, .str "_law_pool" 696, .str "/claim/cut.py" 697, .int (238) 0, .int (1) 0, .int (0) 0, .int (0) 0, .int (3) 0, .ref 325, .bool true, .int (181) 0, .ref 326, .none, .none, .none, .ref 327, .int (698) 0, .int (238) 0, .str "/claim/cut.py" 699], #[]⟩
noncomputable def o336 : Obj := by
  refine' (?f : (p : Arguments) → (b : List Stmt) → (s : Scope) → fa 67 = p → fb 67 = b → fs 67 = s → Obj) _ _ _ ?hp ?hb ?hs
  case f => exact fun p b s _ _ _ => ⟨.type "function", none, .func ⟨"_law_draw", "_law_draw", p, .stmts b, s, 3, [], .none, .none, .none, .str "law_pq1468_01" 693, none, .ref 335, .none, 0⟩, #[]⟩
  case hp => (conv => lhs; whnf)
  case hb => (conv => lhs; whnf)
  case hs => (conv => lhs; whnf)
noncomputable def o335 : Obj := ⟨.type "code", none, .fields #[.str "_law_draw" 701, .str "_law_draw" 702, .str "/claim/cut.py" 703, .int (241) 0, .int (2) 0, .int (0) 0, .int (0) 0, .int (3) 0, .ref 330, .bool true, .int (181) 0, .ref 331, .none, .ref 332, .ref 333, .ref 334, .int (706) 0, .int (241) 0, .str "/claim/cut.py" 707], #[]⟩
noncomputable def o343 : Obj := by
  refine' (?f : (p : Arguments) → (b : List Stmt) → (s : Scope) → fa 68 = p → fb 68 = b → fs 68 = s → Obj) _ _ _ ?hp ?hb ?hs
  case f => exact fun p b s _ _ _ => ⟨.type "function", none, .func ⟨"_law_pair", "_law_pair", p, .stmts b, s, 3, [], .none, .none, .none, .str "law_pq1468_01" 693, none, .ref 342, .none, 0⟩, #[]⟩
  case hp => (conv => lhs; whnf)
  case hb => (conv => lhs; whnf)
  case hs => (conv => lhs; whnf)
noncomputable def o342 : Obj := ⟨.type "code", none, .fields #[.str "_law_pair" 709, .str "_law_pair" 710, .str "/claim/cut.py" 711, .int (247) 0, .int (2) 0, .int (0) 0, .int (0) 0, .int (3) 0, .ref 337, .bool true, .int (181) 0, .ref 338, .none, .ref 339, .ref 340, .ref 341, .int (714) 0, .int (247) 0, .str "/claim/cut.py" 715], #[]⟩
noncomputable def o350 : Obj := by
  refine' (?f : (p : Arguments) → (b : List Stmt) → (s : Scope) → fa 69 = p → fb 69 = b → fs 69 = s → Obj) _ _ _ ?hp ?hb ?hs
  case f => exact fun p b s _ _ _ => ⟨.type "function", none, .func ⟨"_law_rounds", "_law_rounds", p, .stmts b, s, 3, [], .none, .none, .none, .str "law_pq1468_01" 693, none, .ref 349, .none, 0⟩, #[]⟩
  case hp => (conv => lhs; whnf)
  case hb => (conv => lhs; whnf)
  case hs => (conv => lhs; whnf)
noncomputable def o349 : Obj := ⟨.type "code", none, .fields #[.str "_law_rounds" 717, .str "_law_rounds" 718, .str "/claim/cut.py" 719, .int (249) 0, .int (4) 0, .int (0) 0, .int (0) 0, .int (3) 0, .ref 344, .bool true, .int (181) 0, .ref 345, .none, .ref 346, .ref 347, .ref 348, .int (726) 0, .int (249) 0, .str "/claim/cut.py" 727], #[]⟩
noncomputable def o355 : Obj := by
  refine' (?f : (p : Arguments) → (b : List Stmt) → (s : Scope) → fa 70 = p → fb 70 = b → fs 70 = s → Obj) _ _ _ ?hp ?hb ?hs
  case f => exact fun p b s _ _ _ => ⟨.type "function", none, .func ⟨"_law_cpu", "_law_cpu", p, .stmts b, s, 3, [], .none, .none, .none, .str "law_pq1468_01" 693, none, .ref 354, .none, 0⟩, #[]⟩
  case hp => (conv => lhs; whnf)
  case hb => (conv => lhs; whnf)
  case hs => (conv => lhs; whnf)
noncomputable def o354 : Obj := ⟨.type "code", none, .fields #[.str "_law_cpu" 729, .str "_law_cpu" 730, .str "/claim/cut.py" 731, .int (260) 0, .int (2) 0, .int (0) 0, .int (0) 0, .int (3) 0, .ref 351, .bool true, .int (181) 0, .ref 352, .none, .none, .none, .ref 353, .int (732) 0, .int (260) 0, .str "/claim/cut.py" 733], #[]⟩
noncomputable def o362 : Obj := by
  refine' (?f : (p : Arguments) → (b : List Stmt) → (s : Scope) → fa 71 = p → fb 71 = b → fs 71 = s → Obj) _ _ _ ?hp ?hb ?hs
  case f => exact fun p b s _ _ _ => ⟨.type "function", none, .func ⟨"_law_flags", "_law_flags", p, .stmts b, s, 3, [], .none, .none, .none, .str "law_pq1468_01" 693, none, .ref 361, .none, 0⟩, #[]⟩
  case hp => (conv => lhs; whnf)
  case hb => (conv => lhs; whnf)
  case hs => (conv => lhs; whnf)
noncomputable def o361 : Obj := ⟨.type "code", none, .fields #[.str "_law_flags" 735, .str "_law_flags" 736, .str "/claim/cut.py" 737, .int (266) 0, .int (3) 0, .int (0) 0, .int (0) 0, .int (3) 0, .ref 356, .bool true, .int (181) 0, .ref 357, .none, .ref 358, .ref 359, .ref 360, .int (744) 0, .int (266) 0, .str "/claim/cut.py" 745], #[]⟩
noncomputable def o367 : Obj := by
  refine' (?f : (p : Arguments) → (b : List Stmt) → (s : Scope) → fa 72 = p → fb 72 = b → fs 72 = s → Obj) _ _ _ ?hp ?hb ?hs
  case f => exact fun p b s _ _ _ => ⟨.type "function", none, .func ⟨"_law_moved_right", "_law_moved_right", p, .stmts b, s, 3, [], .none, .none, .none, .str "law_pq1468_01" 693, none, .ref 366, .none, 0⟩, #[]⟩
  case hp => (conv => lhs; whnf)
  case hb => (conv => lhs; whnf)
  case hs => (conv => lhs; whnf)
noncomputable def o366 : Obj := ⟨.type "code", none, .fields #[.str "_law_moved_right" 747, .str "_law_moved_right" 748, .str "/claim/cut.py" 749, .int (271) 0, .int (2) 0, .int (0) 0, .int (0) 0, .int (3) 0, .ref 363, .bool true, .int (181) 0, .ref 364, .none, .none, .none, .ref 365, .int (750) 0, .int (271) 0, .str "/claim/cut.py" 751], #[]⟩
noncomputable def o372 : Obj := by
  refine' (?f : (p : Arguments) → (b : List Stmt) → (s : Scope) → fa 73 = p → fb 73 = b → fs 73 = s → Obj) _ _ _ ?hp ?hb ?hs
  case f => exact fun p b s _ _ _ => ⟨.type "function", none, .func ⟨"_law_sought_right", "_law_sought_right", p, .stmts b, s, 3, [], .none, .none, .none, .str "law_pq1468_01" 693, none, .ref 371, .none, 0⟩, #[]⟩
  case hp => (conv => lhs; whnf)
  case hb => (conv => lhs; whnf)
  case hs => (conv => lhs; whnf)
noncomputable def o371 : Obj := ⟨.type "code", none, .fields #[.str "_law_sought_right" 753, .str "_law_sought_right" 754, .str "/claim/cut.py" 755, .int (285) 0, .int (2) 0, .int (0) 0, .int (0) 0, .int (3) 0, .ref 368, .bool true, .int (181) 0, .ref 369, .none, .none, .none, .ref 370, .int (756) 0, .int (285) 0, .str "/claim/cut.py" 757], #[]⟩
noncomputable def o377 : Obj := by
  refine' (?f : (p : Arguments) → (b : List Stmt) → (s : Scope) → fa 74 = p → fb 74 = b → fs 74 = s → Obj) _ _ _ ?hp ?hb ?hs
  case f => exact fun p b s _ _ _ => ⟨.type "function", none, .func ⟨"_law_ports_right", "_law_ports_right", p, .stmts b, s, 3, [], .none, .none, .none, .str "law_pq1468_01" 693, none, .ref 376, .none, 0⟩, #[]⟩
  case hp => (conv => lhs; whnf)
  case hb => (conv => lhs; whnf)
  case hs => (conv => lhs; whnf)
noncomputable def o376 : Obj := ⟨.type "code", none, .fields #[.str "_law_ports_right" 759, .str "_law_ports_right" 760, .str "/claim/cut.py" 761, .int (301) 0, .int (3) 0, .int (0) 0, .int (0) 0, .int (3) 0, .ref 373, .bool true, .int (181) 0, .ref 374, .none, .none, .none, .ref 375, .int (762) 0, .int (301) 0, .str "/claim/cut.py" 763], #[]⟩
noncomputable def o382 : Obj := by
  refine' (?f : (p : Arguments) → (b : List Stmt) → (s : Scope) → fa 75 = p → fb 75 = b → fs 75 = s → Obj) _ _ _ ?hp ?hb ?hs
  case f => exact fun p b s _ _ _ => ⟨.type "function", none, .func ⟨"_law_once_right", "_law_once_right", p, .stmts b, s, 3, [], .none, .none, .none, .str "law_pq1468_01" 693, none, .ref 381, .none, 0⟩, #[]⟩
  case hp => (conv => lhs; whnf)
  case hb => (conv => lhs; whnf)
  case hs => (conv => lhs; whnf)
noncomputable def o381 : Obj := ⟨.type "code", none, .fields #[.str "_law_once_right" 765, .str "_law_once_right" 766, .str "/claim/cut.py" 767, .int (321) 0, .int (1) 0, .int (0) 0, .int (0) 0, .int (3) 0, .ref 378, .bool true, .int (181) 0, .ref 379, .none, .none, .none, .ref 380, .int (768) 0, .int (321) 0, .str "/claim/cut.py" 769], #[]⟩
noncomputable def o389 : Obj := by
  refine' (?f : (p : Arguments) → (b : List Stmt) → (s : Scope) → fa 76 = p → fb 76 = b → fs 76 = s → Obj) _ _ _ ?hp ?hb ?hs
  case f => exact fun p b s _ _ _ => ⟨.type "function", none, .func ⟨"law", "law", p, .stmts b, s, 3, [], .none, .none, .none, .str "law_pq1468_01" 693, none, .ref 388, .none, 0⟩, #[]⟩
  case hp => (conv => lhs; whnf)
  case hb => (conv => lhs; whnf)
  case hs => (conv => lhs; whnf)
noncomputable def o388 : Obj := ⟨.type "code", none, .fields #[.str "law" 771, .str "law" 772, .str "/claim/cut.py" 773, .int (332) 0, .int (1) 0, .int (0) 0, .int (0) 0, .int (3) 0, .ref 383, .bool true, .int (181) 0, .ref 384, .none, .ref 385, .ref 386, .ref 387, .int (778) 0, .int (332) 0, .str "/claim/cut.py" 779], #[]⟩
noncomputable def o31 : Obj := ⟨.type "type", none, .cls { name := "Cpu", bases := [.type "object"], mro := [.ref 31, .type "object"], ns := 30, qualname := "Cpu", hasDict := true, slotNames := [], subclasses := [], abstract := false, collection := none, hasDel := false }, #[none, none, some (.str "Cpu" 197), some (.str "Cpu" 205), some (.builtin "object.__new__"), some (.bool true)]⟩
noncomputable def o30 (P : Params) : Obj := ⟨.type "dict", none, .dict #[en P "__module__" 204 (.str "z80.cpu" 187), en P "__firstlineno__" 208 (.int (6) 207), en P "__init__" 215 (.ref 28), en P "__static_attributes__" 230 (.ref 29), en P "__dict__" 232 (.ref 32), en P "__weakref__" 234 (.ref 33), en P "__doc__" 235 (.none)] 4, #[]⟩
noncomputable def o32 : Obj := ⟨.type "getset_descriptor", none, .fields #[.str "__dict__" 231, .ref 31, .builtin "function.__dict__", .builtin "function.__dict__#set"], #[]⟩
noncomputable def o33 : Obj := ⟨.type "getset_descriptor", none, .fields #[.str "__weakref__" 233, .ref 31, .builtin "ExceptionGroup.__weakref__", .none], #[]⟩
noncomputable def o52 : Obj := ⟨.type "type", none, .cls { name := "Ports", bases := [.type "object"], mro := [.ref 52, .type "object"], ns := 51, qualname := "Ports", hasDict := true, slotNames := [], subclasses := [], abstract := false, collection := none, hasDel := false }, #[none, none, some (.str "Ports" 238), some (.str "Ports" 246), some (.builtin "object.__new__"), some (.bool true)]⟩
noncomputable def o51 (P : Params) : Obj := ⟨.type "dict", none, .dict #[en P "__module__" 245 (.str "z80.cpu" 187), en P "__firstlineno__" 249 (.int (23) 248), en P "__init__" 257 (.ref 49), en P "__static_attributes__" 261 (.ref 50), en P "__dict__" 263 (.ref 53), en P "__weakref__" 265 (.ref 54), en P "__doc__" 266 (.none)] 4, #[]⟩
noncomputable def o53 : Obj := ⟨.type "getset_descriptor", none, .fields #[.str "__dict__" 262, .ref 52, .builtin "function.__dict__", .builtin "function.__dict__#set"], #[]⟩
noncomputable def o54 : Obj := ⟨.type "getset_descriptor", none, .fields #[.str "__weakref__" 264, .ref 52, .builtin "ExceptionGroup.__weakref__", .none], #[]⟩
noncomputable def o246 : Obj := ⟨.type "list", none, .seq #[.int (0) 554, .int (0) 555, .int (1) 556, .int (2) 557, .int (0) 558, .int (0) 559, .int (1) 560, .int (2) 561] 0, #[]⟩
noncomputable def o247 : Obj := ⟨.type "list", none, .seq #[.int (12) 563, .int (12) 564, .int (15) 565, .int (20) 566, .int (8) 567, .int (14) 568, .int (8) 569, .int (9) 570] 0, #[]⟩
noncomputable def heap_39 : Params → Frag := fun P => (nat_lit 3, o3 P) :: (nat_lit 2, o2 P) :: (nat_lit 28, o28) :: (nat_lit 27, o27) :: (nat_lit 49, o49) :: (nat_lit 48, o48) :: (nat_lit 63, o63) :: (nat_lit 62, o62) :: (nat_lit 70, o70) :: (nat_lit 69, o69) :: (nat_lit 77, o77) :: (nat_lit 76, o76) :: (nat_lit 84, o84) :: (nat_lit 83, o83) :: (nat_lit 91, o91) :: (nat_lit 90, o90) :: (nat_lit 133, o133) :: (nat_lit 132, o132) :: (nat_lit 140, o140) :: (nat_lit 139, o139) :: (nat_lit 147, o147) :: (nat_lit 146, o146) :: (nat_lit 154, o154) :: (nat_lit 153, o153) :: (nat_lit 161, o161) :: (nat_lit 160, o160) :: (nat_lit 231, o231) :: (nat_lit 230, o230) :: (nat_lit 238, o238) :: (nat_lit 237, o237) :: (nat_lit 245, o245) :: (nat_lit 244, o244) :: (nat_lit 254, o254) :: (nat_lit 253, o253) :: (nat_lit 289, o289) :: (nat_lit 288, o288) :: (nat_lit 296, o296) :: (nat_lit 295, o295) :: (nat_lit 303, o303) :: (nat_lit 302, o302) :: (nat_lit 310, o310) :: (nat_lit 309, o309) :: (nat_lit 317, o317) :: (nat_lit 316, o316) :: (nat_lit 324, o324) :: (nat_lit 323, o323) :: (nat_lit 329, o329) :: (nat_lit 328, o328) :: (nat_lit 336, o336) :: (nat_lit 335, o335) :: (nat_lit 343, o343) :: (nat_lit 342, o342) :: (nat_lit 350, o350) :: (nat_lit 349, o349) :: (nat_lit 355, o355) :: (nat_lit 354, o354) :: (nat_lit 362, o362) :: (nat_lit 361, o361) :: (nat_lit 367, o367) :: (nat_lit 366, o366) :: (nat_lit 372, o372) :: (nat_lit 371, o371) :: (nat_lit 377, o377) :: (nat_lit 376, o376) :: (nat_lit 382, o382) :: (nat_lit 381, o381) :: (nat_lit 389, o389) :: (nat_lit 388, o388) :: (nat_lit 31, o31) :: (nat_lit 30, o30 P) :: (nat_lit 32, o32) :: (nat_lit 33, o33) :: (nat_lit 52, o52) :: (nat_lit 51, o51 P) :: (nat_lit 53, o53) :: (nat_lit 54, o54) :: (nat_lit 246, o246) :: (nat_lit 247, o247) :: []
noncomputable def as_39 : List Addr := [3, 2, 28, 27, 49, 48, 63, 62, 70, 69, 77, 76, 84, 83, 91, 90, 133, 132, 140, 139, 147, 146, 154, 153, 161, 160, 231, 230, 238, 237, 245, 244, 254, 253, 289, 288, 296, 295, 303, 302, 310, 309, 317, 316, 324, 323, 329, 328, 336, 335, 343, 342, 350, 349, 355, 354, 362, 361, 367, 366, 372, 371, 377, 376, 382, 381, 389, 388, 31, 30, 32, 33, 52, 51, 53, 54, 246, 247]
end hd
namespace hd
noncomputable def view_39 : Program := view PySem.Challenge.pw_pq1468_01 [76]
noncomputable def loose : List Str := (["REG_B", "REG_C", "REG_F", "REG_A", "Cpu", "Ports", "cpu_row", "pair", "set_pair", "peek", "poke", "peek16", "poke16", "fetch", "fetch16", "pop", "port_in", "port_out", "S", "Z", "Y", "H", "X", "PV", "N", "C", "YX", "parity", "szyx", "sub8", "neg", "high_flags", "word_flags", "adc16", "sbc16", "rrd", "rld", "load_flags", "in_flags", "move_flags", "seek_flags", "port_flags", "BC", "DE", "HL", "NOTHING", "STATES_OF_NONE", "STATES_OF_ONE_ROUND", "STATES_OF_GOING_ON", "MODES", "STATES_BY_Z", "do_ed", "come_in", "add_words", "load_words", "do_special", "do_block", "lead", "move_one", "seek_one", "take_one", "send_one", "_law_pool", "_law_draw", "_law_pair", "_law_rounds", "_law_cpu", "_law_flags", "_law_moved_right", "_law_sought_right", "_law_ports_right", "_law_once_right"] : List String).map Str.ofString
abbrev row : OpenRow := PySem.Challenge.rw_pq1468_01.row
theorem keys (P : Params) : as_39 = (heap_39 P).map (·.1) := by kernel_rfl
noncomputable abbrev hook : Hook := kHook heap_39 as_39 keys
noncomputable def te : Obj := ⟨.type "tuple", none, .seq #[] 0, #[]⟩
noncomputable def fe : Obj := ⟨.none, none, .fields #[], #[]⟩
noncomputable def tu (l : List Value) : Obj := ⟨.type "tuple", none, .seq ⟨l⟩ 0, #[]⟩
noncomputable def cf (i : Nat) (n q : Str) : Obj := ⟨.none, none, .func ⟨n, q, fa i, .stmts (fb i), fs i, 0, [], .none, .none, .none, .none, none, .none, .none, 0⟩, #[]⟩
noncomputable def ff (i : Nat) (n m : Str) (t c : Nat) : Obj := ⟨.type "function", none, .func ⟨n, n, fa i, .stmts (fb i), fs i, 3, [], .none, .none, .none, .str m t, none, .ref c, .none, 0⟩, #[]⟩
noncomputable def co (n : Str) (t : Nat) (l ac : Int) (r : Nat) (x y z : Value) (m : Int) : Obj := ⟨.type "code", none, .fields #[.str n t, .str n (t + 1), .str "/claim/cut.py" (t + 2), .int l 0, .int ac 0, .int 0 0, .int 0 0, .int 3 0, .ref r, .bool true, .int 181 0, .ref (r + 1), .none, x, y, z, .int m 0, .int l 0, .str "/claim/cut.py" (m.toNat + 1)], #[]⟩
noncomputable def es (P : Params) (v : Value) : List DictEntry := en P "__name__" 165 v :: en P "__doc__" 166 (.none) :: en P "__package__" 167 (.none) :: en P "__loader__" 168 (.builtin "__main__.__loader__#opaque") :: en P "__spec__" 169 (.none) :: en P "__annotations__" 170 (.ref 6) :: en P "__builtins__" 171 (.ref 4) :: en P "__file__" 173 (.str "/claim/cut.py" 172) :: en P "__cached__" 174 (.none) :: en P "REG_B" 190 (.int (0) 189) :: en P "REG_C" 192 (.int (1) 191) :: en P "REG_F" 194 (.int (6) 193) :: en P "REG_A" 196 (.int (7) 195) :: en P "Cpu" 237 (.ref 31) :: en P "Ports" 268 (.ref 52) :: en P "cpu_row" 276 (.ref 63) :: en P "pair" 284 (.ref 70) :: en P "set_pair" 293 (.ref 77) :: en P "peek" 301 (.ref 84) :: en P "poke" 310 (.ref 91) :: en P "peek16" 318 (.ref 98) :: en P "poke16" 327 (.ref 105) :: en P "fetch" 336 (.ref 112) :: en P "fetch16" 345 (.ref 119) :: en P "pop" 354 (.ref 126) :: en P "port_in" 363 (.ref 133) :: en P "port_out" 372 (.ref 140) :: en P "S" 376 (.int (128) 375) :: en P "Z" 378 (.int (64) 377) :: en P "Y" 380 (.int (32) 379) :: en P "H" 382 (.int (16) 381) :: en P "X" 384 (.int (8) 383) :: en P "PV" 386 (.int (4) 385) :: en P "N" 388 (.int (2) 387) :: en P "C" 390 (.int (1) 389) :: en P "YX" 392 (.int (40) 391) :: en P "parity" 399 (.ref 147) :: en P "szyx" 406 (.ref 154) :: en P "sub8" 418 (.ref 161) :: en P "neg" 425 (.ref 168) :: en P "high_flags" 434 (.ref 175) :: en P "word_flags" 441 (.ref 182) :: en P "adc16" 453 (.ref 189) :: en P "sbc16" 465 (.ref 196) :: en P "rrd" 475 (.ref 203) :: en P "rld" 485 (.ref 210) :: en P "load_flags" 494 (.ref 217) :: en P "in_flags" 502 (.ref 224) :: en P "move_flags" 513 (.ref 231) :: en P "seek_flags" 526 (.ref 238) :: en P "port_flags" 537 (.ref 245) :: en P "BC" 541 (.int (0) 540) :: en P "DE" 543 (.int (1) 542) :: en P "HL" 545 (.int (2) 544) :: en P "NOTHING" 547 (.int (6) 546) :: en P "STATES_OF_NONE" 549 (.int (8) 548) :: en P "STATES_OF_ONE_ROUND" 551 (.int (16) 550) :: en P "STATES_OF_GOING_ON" 553 (.int (21) 552) :: en P "MODES" 562 (.ref 246) :: en P "STATES_BY_Z" 571 (.ref 247) :: en P "do_ed" 584 (.ref 254) :: en P "come_in" 594 (.ref 261) :: en P "add_words" 604 (.ref 268) :: en P "load_words" 614 (.ref 275) :: en P "do_special" 626 (.ref 282) :: en P "do_block" 639 (.ref 289) :: en P "lead" 648 (.ref 296) :: en P "move_one" 659 (.ref 303) :: en P "seek_one" 670 (.ref 310) :: en P "take_one" 681 (.ref 317) :: en P "send_one" 692 (.ref 324) :: en P "_law_pool" 700 (.ref 329) :: en P "_law_draw" 708 (.ref 336) :: en P "_law_pair" 716 (.ref 343) :: en P "_law_rounds" 728 (.ref 350) :: en P "_law_cpu" 734 (.ref 355) :: en P "_law_flags" 746 (.ref 362) :: en P "_law_moved_right" 752 (.ref 367) :: en P "_law_sought_right" 758 (.ref 372) :: en P "_law_ports_right" 764 (.ref 377) :: en P "_law_once_right" 770 (.ref 382) :: en P "law" 780 (.ref 389) :: []
noncomputable def ks : List Value := .int (6) 0 :: .int (0) 0 :: .ref 20 :: .int (23) 0 :: .int (0) 0 :: .ref 41 :: .int (29) 0 :: .int (0) 0 :: .ref 62 :: .int (32) 0 :: .int (0) 0 :: .ref 69 :: .int (34) 0 :: .int (0) 0 :: .ref 76 :: .int (40) 0 :: .int (0) 0 :: .ref 83 :: .int (42) 0 :: .int (0) 0 :: .ref 90 :: .int (44) 0 :: .int (0) 0 :: .ref 97 :: .int (46) 0 :: .int (0) 0 :: .ref 104 :: .int (49) 0 :: .int (0) 0 :: .ref 111 :: .int (53) 0 :: .int (0) 0 :: .ref 118 :: .int (56) 0 :: .int (0) 0 :: .ref 125 :: .int (60) 0 :: .int (0) 0 :: .ref 132 :: .int (66) 0 :: .int (0) 0 :: .ref 139 :: .int (78) 0 :: .int (0) 0 :: .ref 146 :: .int (83) 0 :: .int (0) 0 :: .ref 153 :: .int (85) 0 :: .int (0) 0 :: .ref 160 :: .int (90) 0 :: .int (0) 0 :: .ref 167 :: .int (92) 0 :: .int (0) 0 :: .ref 174 :: .int (94) 0 :: .int (0) 0 :: .ref 181 :: .int (96) 0 :: .int (0) 0 :: .ref 188 :: .int (101) 0 :: .int (0) 0 :: .ref 195 :: .int (106) 0 :: .int (0) 0 :: .ref 202 :: .int (109) 0 :: .int (0) 0 :: .ref 209 :: .int (112) 0 :: .int (0) 0 :: .ref 216 :: .int (114) 0 :: .int (0) 0 :: .ref 223 :: .int (116) 0 :: .int (0) 0 :: .ref 230 :: .int (119) 0 :: .int (0) 0 :: .ref 237 :: .int (123) 0 :: .int (0) 0 :: .ref 244 :: .int (137) 0 :: .int (0) 0 :: .ref 253 :: .int (161) 0 :: .int (0) 0 :: .ref 260 :: .int (166) 0 :: .int (0) 0 :: .ref 267 :: .int (170) 0 :: .int (0) 0 :: .ref 274 :: .int (176) 0 :: .int (0) 0 :: .ref 281 :: .int (192) 0 :: .int (0) 0 :: .ref 288 :: .int (206) 0 :: .int (0) 0 :: .ref 295 :: .int (209) 0 :: .int (0) 0 :: .ref 302 :: .int (217) 0 :: .int (0) 0 :: .ref 309 :: .int (223) 0 :: .int (0) 0 :: .ref 316 :: .int (230) 0 :: .int (0) 0 :: .ref 323 :: .int (238) 0 :: .int (0) 0 :: .ref 328 :: .int (241) 0 :: .int (0) 0 :: .ref 335 :: .int (247) 0 :: .int (0) 0 :: .ref 342 :: .int (249) 0 :: .int (0) 0 :: .ref 349 :: .int (260) 0 :: .int (0) 0 :: .ref 354 :: .int (266) 0 :: .int (0) 0 :: .ref 361 :: .int (271) 0 :: .int (0) 0 :: .ref 366 :: .int (285) 0 :: .int (0) 0 :: .ref 371 :: .int (301) 0 :: .int (0) 0 :: .ref 376 :: .int (321) 0 :: .int (0) 0 :: .ref 381 :: .int (332) 0 :: .int (0) 0 :: .ref 388 :: []
noncomputable def o3k (P : Params) (v : Value) (k : Nat) : Obj := ⟨.type "dict", none, .dict ⟨(es P v).take k⟩ k, #[]⟩
noncomputable def o12k (j : Nat) : Obj := ⟨.none, none, .fields ⟨ks.take j⟩, #[]⟩
noncomputable def objs (P : Params) (v : Value) (k j : Nat) : List Obj := PySem.W.boot_o_0 P :: PySem.W.boot_o_1 P :: PySem.W.boot_o_2 P :: o3k P v k :: PySem.W.boot_o_4 P :: PySem.W.boot_o_5 P :: PySem.W.boot_o_6 P :: PySem.W.boot_o_7 P :: PySem.W.boot_o_8 P :: PySem.W.boot_o_9 P :: PySem.W.boot_o_10 P :: te :: o12k j :: ⟨.type "code", none, .fields #[.str "<module>" 182, .str "<module>" 183, .str "/claim/cut.py" 184, .int (1) 0, .int (0) 0, .int (0) 0, .int (0) 0, .int (0) 0, .ref 11, .bool false, .int (181) 0, .ref 12, .none, .none, .none, .none, .int (185) 0, .int (1) 0, .str "/claim/cut.py" 186], #[]⟩ :: ⟨.type "frame", none, .plain, #[some (.ref 13), some (.ref 3), some (.ref 3), none, some (.str "__main__" 164), none, some (.ref 0)]⟩ :: te :: ⟨.type "builtin_function_or_method", none, .fields #[.builtin "type.__prepare__", .type "type"], #[]⟩ :: ⟨.type "dict", none, .dict #[en P "__module__" 204 (.str "z80.cpu" 187), en P "__qualname__" 206 (.str "Cpu" 205), en P "__firstlineno__" 208 (.int (6) 207), en P "__init__" 215 (.ref 28), en P "__static_attributes__" 230 (.ref 29)] 5, #[]⟩ :: te :: ⟨.none, none, .fields #[.int (8) 0, .int (4) 0, .ref 27], #[]⟩ :: ⟨.type "code", none, .fields #[.str "Cpu" 199, .str "Cpu" 200, .str "/claim/cut.py" 201, .int (6) 0, .int (0) 0, .int (0) 0, .int (0) 0, .int (0) 0, .ref 18, .bool false, .int (181) 0, .ref 19, .none, .none, .none, .none, .int (202) 0, .int (6) 0, .str "/claim/cut.py" 203], #[]⟩ :: ⟨.type "frame", none, .plain, #[some (.ref 20), some (.ref 3), some (.ref 17), none, some (.str "z80.cpu" 187), none, some (.ref 0)]⟩ :: te :: fe :: tu [.str "self" 212] :: te :: cf 5 "__init__" "Cpu.__init__" :: o27 :: o28 :: tu [.str "i" 216, .str "iff1" 217, .str "iff2" 218, .str "is_halted" 219, .str "is_held" 220, .str "ix" 221, .str "iy" 222, .str "mode" 223, .str "pc" 224, .str "r" 225, .str "ref" 226, .str "s" 227, .str "sp" 228, .str "states" 229] :: o30 P :: o31 :: o32 :: o33 :: ⟨.type "super", none, .fields #[.ref 31, .ref 31, .ref 31], #[]⟩ :: ⟨.type "builtin_function_or_method", none, .fields #[.builtin "object.__init_subclass__", .ref 31], #[]⟩ :: te :: ⟨.type "builtin_function_or_method", none, .fields #[.builtin "type.__prepare__", .type "type"], #[]⟩ :: ⟨.type "dict", none, .dict #[en P "__module__" 245 (.str "z80.cpu" 187), en P "__qualname__" 247 (.str "Ports" 246), en P "__firstlineno__" 249 (.int (23) 248), en P "__init__" 257 (.ref 49), en P "__static_attributes__" 261 (.ref 50)] 5, #[]⟩ :: te :: ⟨.none, none, .fields #[.int (25) 0, .int (4) 0, .ref 48], #[]⟩ :: ⟨.type "code", none, .fields #[.str "Ports" 240, .str "Ports" 241, .str "/claim/cut.py" 242, .int (23) 0, .int (0) 0, .int (0) 0, .int (0) 0, .int (0) 0, .ref 39, .bool false, .int (181) 0, .ref 40, .none, .none, .none, .none, .int (243) 0, .int (23) 0, .str "/claim/cut.py" 244], #[]⟩ :: ⟨.type "frame", none, .plain, #[some (.ref 41), some (.ref 3), some (.ref 38), none, some (.str "z80.cpu" 187), none, some (.ref 0)]⟩ :: te :: fe :: tu [.str "self" 253, .str "ins" 254] :: te :: cf 6 "__init__" "Ports.__init__" :: o48 :: o49 :: tu [.str "at" 258, .str "ins" 259, .str "outs" 260] :: o51 P :: o52 :: o53 :: o54 :: ⟨.type "super", none, .fields #[.ref 52, .ref 52, .ref 52], #[]⟩ :: ⟨.type "builtin_function_or_method", none, .fields #[.builtin "object.__init_subclass__", .ref 52], #[]⟩ :: te :: fe :: tu [.str "cpu" 272, .str "row" 273] :: te :: cf 7 "cpu_row" "cpu_row" :: o62 :: o63 :: te :: fe :: tu [.str "cpu" 280, .str "p" 281] :: te :: cf 8 "pair" "pair" :: o69 :: o70 :: te :: fe :: tu [.str "cpu" 288, .str "p" 289, .str "value" 290] :: te :: cf 9 "set_pair" "set_pair" :: o76 :: o77 :: te :: fe :: tu [.str "memory" 297, .str "at" 298] :: te :: cf 10 "peek" "peek" :: o83 :: o84 :: te :: fe :: tu [.str "memory" 305, .str "at" 306, .str "octet" 307] :: te :: cf 11 "poke" "poke" :: o90 :: o91 :: te :: fe :: tu [.str "memory" 314, .str "at" 315] :: te :: cf 12 "peek16" "peek16" :: co "peek16" 311 44 2 92 (.ref 94) (.ref 95) (.ref 96) 316 :: ff 12 "peek16" "z80.cpu" 187 97 :: te :: fe :: tu [.str "memory" 322, .str "at" 323, .str "value" 324] :: te :: cf 13 "poke16" "poke16" :: co "poke16" 319 46 3 99 (.ref 101) (.ref 102) (.ref 103) 325 :: ff 13 "poke16" "z80.cpu" 187 104 :: te :: fe :: tu [.str "cpu" 331, .str "memory" 332, .str "octet" 333] :: te :: cf 14 "fetch" "fetch" :: co "fetch" 328 49 2 106 (.ref 108) (.ref 109) (.ref 110) 334 :: ff 14 "fetch" "z80.cpu" 187 111 :: te :: fe :: tu [.str "cpu" 340, .str "memory" 341, .str "under" 342] :: te :: cf 15 "fetch16" "fetch16" :: co "fetch16" 337 53 2 113 (.ref 115) (.ref 116) (.ref 117) 343 :: ff 15 "fetch16" "z80.cpu" 187 118 :: te :: fe :: tu [.str "cpu" 349, .str "memory" 350, .str "value" 351] :: te :: cf 16 "pop" "pop" :: co "pop" 346 56 2 120 (.ref 122) (.ref 123) (.ref 124) 352 :: ff 16 "pop" "z80.cpu" 187 125 :: te :: fe :: tu [.str "ports" 358, .str "number" 359, .str "octet" 360] :: te :: cf 17 "port_in" "port_in" :: o132 :: o133 :: te :: fe :: tu [.str "ports" 367, .str "number" 368, .str "octet" 369] :: te :: cf 18 "port_out" "port_out" :: o139 :: o140 :: te :: fe :: tu [.str "v" 396] :: te :: cf 29 "parity" "parity" :: o146 :: o147 :: te :: fe :: tu [.str "v" 403] :: te :: cf 30 "szyx" "szyx" :: o153 :: o154 :: te :: fe :: tu [.str "a" 410, .str "b" 411, .str "carry" 412, .str "whole" 413, .str "r" 414, .str "over" 415] :: te :: cf 31 "sub8" "sub8" :: o160 :: o161 :: te :: fe :: tu [.str "a" 422] :: te :: cf 32 "neg" "neg" :: co "neg" 419 90 1 162 (.ref 164) (.ref 165) (.ref 166) 423 :: ff 32 "neg" "z80.flags" 373 167 :: te :: fe :: tu [.str "x" 429, .str "y" 430, .str "r" 431] :: te :: cf 33 "high_flags" "high_flags" :: co "high_flags" 426 92 3 169 (.ref 171) (.ref 172) (.ref 173) 432 :: ff 33 "high_flags" "z80.flags" 373 174 :: te :: fe :: tu [.str "r" 438] :: te :: cf 34 "word_flags" "word_flags" :: co "word_flags" 435 94 1 176 (.ref 178) (.ref 179) (.ref 180) 439 :: ff 34 "word_flags" "z80.flags" 373 181 :: te :: fe :: tu [.str "x" 445, .str "y" 446, .str "carry" 447, .str "whole" 448, .str "r" 449, .str "over" 450] :: te :: cf 35 "adc16" "adc16" :: co "adc16" 442 96 3 183 (.ref 185) (.ref 186) (.ref 187) 451 :: ff 35 "adc16" "z80.flags" 373 188 :: te :: fe :: tu [.str "x" 457, .str "y" 458, .str "carry" 459, .str "whole" 460, .str "r" 461, .str "over" 462] :: te :: cf 36 "sbc16" "sbc16" :: co "sbc16" 454 101 3 190 (.ref 192) (.ref 193) (.ref 194) 463 :: ff 36 "sbc16" "z80.flags" 373 195 :: te :: fe :: tu [.str "a" 469, .str "v" 470, .str "f" 471, .str "r" 472] :: te :: cf 37 "rrd" "rrd" :: co "rrd" 466 106 3 197 (.ref 199) (.ref 200) (.ref 201) 473 :: ff 37 "rrd" "z80.flags" 373 202 :: te :: fe :: tu [.str "a" 479, .str "v" 480, .str "f" 481, .str "r" 482] :: te :: cf 38 "rld" "rld" :: co "rld" 476 109 3 204 (.ref 206) (.ref 207) (.ref 208) 483 :: ff 38 "rld" "z80.flags" 373 209 :: te :: fe :: tu [.str "v" 489, .str "iff2" 490, .str "f" 491] :: te :: cf 39 "load_flags" "load_flags" :: co "load_flags" 486 112 3 211 (.ref 213) (.ref 214) (.ref 215) 492 :: ff 39 "load_flags" "z80.flags" 373 216 :: te :: fe :: tu [.str "v" 498, .str "f" 499] :: te :: cf 40 "in_flags" "in_flags" :: co "in_flags" 495 114 2 218 (.ref 220) (.ref 221) (.ref 222) 500 :: ff 40 "in_flags" "z80.flags" 373 223 :: te :: fe :: tu [.str "a" 506, .str "octet" 507, .str "left" 508, .str "f" 509, .str "told" 510] :: te :: cf 41 "move_flags" "move_flags" :: o230 :: o231 :: te :: fe :: tu [.str "a" 517, .str "octet" 518, .str "left" 519, .str "f" 520, .str "r" 521, .str "found" 522, .str "told" 523] :: te :: cf 42 "seek_flags" "seek_flags" :: o237 :: o238 :: te :: fe :: tu [.str "octet" 530, .str "beside" 531, .str "left" 532, .str "whole" 533, .str "carry" 534] :: te :: cf 43 "port_flags" "port_flags" :: o244 :: o245 :: o246 :: o247 :: te :: fe :: tu [.str "cpu" 575, .str "memory" 576, .str "ports" 577, .str "octet" 578, .str "x" 579, .str "y" 580, .str "z" 581] :: te :: cf 54 "do_ed" "do_ed" :: o253 :: o254 :: te :: fe :: tu [.str "cpu" 588, .str "ports" 589, .str "y" 590, .str "v" 591] :: te :: cf 55 "come_in" "come_in" :: co "come_in" 585 161 3 255 (.ref 257) (.ref 258) (.ref 259) 592 :: ff 55 "come_in" "z80.rules_ed" 538 260 :: te :: fe :: tu [.str "cpu" 598, .str "y" 599, .str "work" 600, .str "told" 601] :: te :: cf 56 "add_words" "add_words" :: co "add_words" 595 166 2 262 (.ref 264) (.ref 265) (.ref 266) 602 :: ff 56 "add_words" "z80.rules_ed" 538 267 :: te :: fe :: tu [.str "cpu" 608, .str "memory" 609, .str "y" 610, .str "at" 611] :: te :: cf 57 "load_words" "load_words" :: co "load_words" 605 170 3 269 (.ref 271) (.ref 272) (.ref 273) 612 :: ff 57 "load_words" "z80.rules_ed" 538 274 :: te :: fe :: tu [.str "cpu" 618, .str "memory" 619, .str "y" 620, .str "work" 621, .str "at" 622, .str "v" 623] :: te :: cf 58 "do_special" "do_special" :: co "do_special" 615 176 3 276 (.ref 278) (.ref 279) (.ref 280) 624 :: ff 58 "do_special" "z80.rules_ed" 538 281 :: te :: fe :: tu [.str "cpu" 630, .str "memory" 631, .str "ports" 632, .str "y" 633, .str "z" 634, .str "step" 635, .str "goes_on" 636] :: te :: cf 59 "do_block" "do_block" :: o288 :: o289 :: te :: fe :: tu [.str "cpu" 643, .str "p" 644, .str "step" 645] :: te :: cf 60 "lead" "lead" :: o295 :: o296 :: te :: fe :: tu [.str "cpu" 652, .str "memory" 653, .str "step" 654, .str "v" 655, .str "left" 656] :: te :: cf 61 "move_one" "move_one" :: o302 :: o303 :: te :: fe :: tu [.str "cpu" 663, .str "memory" 664, .str "step" 665, .str "v" 666, .str "left" 667] :: te :: cf 62 "seek_one" "seek_one" :: o309 :: o310 :: te :: fe :: tu [.str "cpu" 674, .str "memory" 675, .str "ports" 676, .str "step" 677, .str "v" 678] :: te :: cf 63 "take_one" "take_one" :: o316 :: o317 :: te :: fe :: tu [.str "cpu" 685, .str "memory" 686, .str "ports" 687, .str "step" 688, .str "v" 689] :: te :: cf 64 "send_one" "send_one" :: o323 :: o324 :: te :: fe :: cf 66 "_law_pool" "_law_pool" :: o328 :: o329 :: te :: fe :: tu [.str "pool" 704, .str "many" 705] :: te :: cf 67 "_law_draw" "_law_draw" :: o335 :: o336 :: te :: fe :: tu [.str "cpu" 712, .str "at" 713] :: te :: cf 68 "_law_pair" "_law_pair" :: o342 :: o343 :: te :: fe :: tu [.str "cpu" 720, .str "memory" 721, .str "ports" 722, .str "octet" 723, .str "many" 724, .str "states" 725] :: te :: cf 69 "_law_rounds" "_law_rounds" :: o349 :: o350 :: te :: fe :: cf 70 "_law_cpu" "_law_cpu" :: o354 :: o355 :: te :: fe :: tu [.str "came" 738, .str "f" 739, .str "kept" 740, .str "found" 741, .str "bit" 742, .str "stands" 743] :: te :: cf 71 "_law_flags" "_law_flags" :: o361 :: o362 :: te :: fe :: cf 72 "_law_moved_right" "_law_moved_right" :: o366 :: o367 :: te :: fe :: cf 73 "_law_sought_right" "_law_sought_right" :: o371 :: o372 :: te :: fe :: cf 74 "_law_ports_right" "_law_ports_right" :: o376 :: o377 :: te :: fe :: cf 75 "_law_once_right" "_law_once_right" :: o381 :: o382 :: te :: fe :: tu [.str "script" 774, .str "pool" 775, .str "form" 776, .str "way" 777] :: te :: cf 76 "law" "law" :: o388 :: o389 :: []
noncomputable def ev : Bool → List Obj → List Obj
  | _, [] => []
  | true, a :: l => a :: ev false l
  | false, _ :: l => ev true l
noncomputable def bt : Nat → List Obj → BT
  | 0, _ => .nil
  | _ + 1, [] => .nil
  | f + 1, o :: l => .node o (bt f (ev true l)) (bt f (ev false l))
noncomputable def st (w : World) (os : OsState) (v : Value) (k j n t : Nat) : SharedT := ⟨bt 10 ((objs w.params v k j).take n), n, (boot_heap w.params).life, #[], boot_drawn, t, os⟩
abbrev pg : Program := PySem.Challenge.pw_pq1468_01
abbrev ann : Option Value := some (.ref 6)
noncomputable abbrev env : Env := { scope := pg.main.scope, locals := mainNs, globals := mainNs, cells := [], code := .ref 13, frame := some 14 }
noncomputable abbrev bd : List Stmt := behindTheImports pg
noncomputable abbrev cd : Code := .body bd env
abbrev q0 : PySem.Pos := ⟨0, 0, 0, 0⟩
noncomputable abbrev gr (w : World) (a c n : Nat) (s s' : SharedT) (p p' : PySem.Pos) : Prop := segRunT treeTable pg w 11 ann 1 n s (piecesOf ((bd.drop a).take c) env cd p [topFrame q0]) = some (.next, s', cd, p')
abbrev rn (w : World) (a n : Nat) (s : Shared) (r : Shared) (p : PySem.Pos) : Prop := topRun treeTable pg w 11 ann n s (restOf (bd.drop a) env cd p [topFrame q0]) = some r
theorem cut {w : World} {s s' : SharedT} {r : Shared} {p p' : PySem.Pos} {m : Nat} (a c n : Nat) (h : gr w a c n s s' p p') (k : rn w (a + c) m s'.abs r p') : rn w a (n + m) s.abs r p := by
  have e := List.take_append_drop c (bd.drop a)
  rw [List.drop_drop] at e
  unfold rn
  rw [← e]
  exact piece_app (segRun_of h) k
theorem pre (w : World) (os : OsState) : topGo treeTable pg w 11 ann 12 ⟨boot_heap w.params, #[], boot_drawn, boot_toks, os⟩ (topStub pg) = some ((st w os (.str "__main__" 164) 9 0 15 187).abs, ⟨denote treeTable cd, cd, ⟨0, 0, 0, 0⟩, [topFrame q0]⟩) := by kernel_rfl
theorem blk (w : World) (os : OsState) : segRun treeTable pg w 11 ann 1 1 (st w os (.str "__main__" 164) 9 0 15 187).abs (blockOf bd env cd ⟨0, 0, 0, 0⟩ [topFrame q0]) = some (.next, (st w os (.str "__main__" 164) 9 0 15 187).abs, cd, ⟨0, 0, 0, 0⟩) := by kernel_rfl
theorem g0 (w : World) (os : OsState) : gr w 0 5 46 (st w os (.str "__main__" 164) 9 0 15 187) (st w os (.str "z80.cpu" 187) 13 0 15 197) ⟨0, 0, 0, 0⟩ ⟨5, 0, 5, 5⟩ := by kernel_rfl
theorem g1 (w : World) (os : OsState) : gr w 5 1 235 (st w os (.str "z80.cpu" 187) 13 0 15 197) (st w os (.str "z80.cpu" 187) 14 3 36 238) ⟨5, 0, 5, 5⟩ ⟨6, 0, 22, 23⟩ := by kernel_rfl
theorem g2 (w : World) (os : OsState) : gr w 6 1 225 (st w os (.str "z80.cpu" 187) 14 3 36 238) (st w os (.str "z80.cpu" 187) 15 6 57 269) ⟨6, 0, 22, 23⟩ ⟨23, 0, 28, 22⟩ := by kernel_rfl
theorem g3 (w : World) (os : OsState) : gr w 7 7 214 (st w os (.str "z80.cpu" 187) 15 6 57 269) (st w os (.str "z80.cpu" 187) 22 27 106 328) ⟨23, 0, 28, 22⟩ ⟨46, 0, 48, 50⟩ := by kernel_rfl
theorem g4 (w : World) (os : OsState) : gr w 14 14 237 (st w os (.str "z80.cpu" 187) 22 27 106 328) (st w os (.str "z80.flags" 373) 35 42 141 391) ⟨46, 0, 48, 50⟩ ⟨76, 0, 76, 1⟩ := by kernel_rfl
theorem g5 (w : World) (os : OsState) : gr w 28 8 225 (st w os (.str "z80.flags" 373) 35 42 141 391) (st w os (.str "z80.flags" 373) 43 63 190 454) ⟨76, 0, 76, 1⟩ ⟨96, 0, 100, 87⟩ := by kernel_rfl
theorem g6 (w : World) (os : OsState) : gr w 36 7 228 (st w os (.str "z80.flags" 373) 43 63 190 454) (st w os (.str "z80.flags" 373) 50 84 239 527) ⟨96, 0, 100, 87⟩ ⟨119, 0, 122, 100⟩ := by kernel_rfl
theorem g7 (w : World) (os : OsState) : gr w 43 14 241 (st w os (.str "z80.flags" 373) 50 84 239 527) (st w os (.str "z80.rules_ed" 538) 63 96 269 605) ⟨119, 0, 122, 100⟩ ⟨166, 0, 169, 27⟩ := by kernel_rfl
theorem g8 (w : World) (os : OsState) : gr w 57 7 232 (st w os (.str "z80.rules_ed" 538) 63 96 269 605) (st w os (.str "z80.rules_ed" 538) 70 117 318 682) ⟨166, 0, 169, 27⟩ ⟨223, 0, 229, 28⟩ := by kernel_rfl
theorem g9 (w : World) (os : OsState) : gr w 64 8 223 (st w os (.str "z80.rules_ed" 538) 70 117 318 682) (st w os (.str "law_pq1468_01" 693) 77 138 363 747) ⟨223, 0, 229, 28⟩ ⟨266, 0, 270, 16⟩ := by kernel_rfl
theorem g10 (w : World) (os : OsState) : gr w 72 5 137 (st w os (.str "law_pq1468_01" 693) 77 138 363 747) (st w os (.str "law_pq1468_01" 693) 82 153 390 781) ⟨266, 0, 270, 16⟩ ⟨332, 0, 341, 83⟩ := by kernel_rfl
theorem fin (w : World) (os : OsState) : rn w 77 2 (st w os (.str "law_pq1468_01" 693) 82 153 390 781).abs (st w os (.str "law_pq1468_01" 693) 82 153 390 781).abs ⟨332, 0, 341, 83⟩ := by kernel_rfl
theorem run (w : World) (os : OsState) : topRun treeTable pg w 11 ann (12 + (1 + (46 + (235 + (225 + (214 + (237 + (225 + (228 + (241 + (232 + (223 + (137 + 2))))))))))))) ⟨boot_heap w.params, #[], boot_drawn, boot_toks, os⟩ (topStub pg) = some (st w os (.str "law_pq1468_01" 693) 82 153 390 781).abs :=
  go_top (pre w os) (piece_block (blk w os) (cut 0 5 46 (g0 w os) (cut 5 1 235 (g1 w os) (cut 6 1 225 (g2 w os) (cut 7 7 214 (g3 w os) (cut 14 14 237 (g4 w os) (cut 28 8 225 (g5 w os) (cut 36 7 228 (g6 w os) (cut 43 14 241 (g7 w os) (cut 57 7 232 (g8 w os) (cut 64 8 223 (g9 w os) (cut 72 5 137 (g10 w os) (fin w os)))))))))))))
theorem opn : ∀ w : World, (fencedOpening treeTable pg w 4590).map (fun s => (s.heap, s.gens, s.drawn, s.toks)) = some (boot_heap w.params, Array.mk [], boot_drawn, boot_toks) :=
  boot_open (by kernel_rfl) (by decide +kernel) (fun s => by kernel_rfl)
theorem siz (w : World) : ((boot_heap w.params).isNs mainGlobals && (Array.mk [] : Array GenState).size == 0, (boot_heap w.params).objs.size, (boot_heap w.params).nsMap mainGlobals "__annotations__") = (true, 11, ann) := by kernel_rfl
noncomputable def h1 (P : Params) : Heap := absHeap (bt 10 ((objs P (.str "law_pq1468_01" 693) 82 153).take 390)) 390 (boot_heap P).life
theorem look (w : World) : (fun os : OsState => ((staticsOk (importedModules pg.main.body) (boot_heap w.params) (h1 w.params) && namesBound pg (h1 w.params) && gensDone ⟨h1 w.params, #[], boot_drawn, 781, os⟩ && laidKept (boot_heap w.params) (h1 w.params)),
        openSeen view_39 loose (importedModules pg.main.body) (fun s => xlAt view_39 [] s && recOk (RowW.records row.toRowW) s) true ⟨h1 w.params, #[], boot_drawn, 781, os⟩, Hook.obs hook ⟨h1 w.params, #[], boot_drawn, 781, os⟩)) = fun _ => (true, openGood view_39 loose, Hook.val hook w) := by kernel_rfl
theorem left : LeftO row.prog view_39 loose (fun s => xlAt view_39 [] s && recOk (RowW.records row.toRowW) s) (Hook.obs hook) (Hook.val hook) 4590 :=
  LeftO.of_pieces (p := pg) (H₁ := h1) (k₁ := 781) opn siz run (by decide +kernel) look
theorem said : PySem.Challenge.rw_pq1468_01.wellSaid = true := by
  unfold OpenLaw.wellSaid OpenRow.wellSaid OpenRow.partSaid looksOpen
  repeat' with_reducible apply look_both
  all_goals decide +kernel
theorem whole : row.prog.tablesWhole = true := by decide +kernel
theorem well : (chainsOk view_39 && opensWell row.prog && (frees row.toRowW && row.within.isEmpty)) = true := by decide +kernel
end hd
namespace Mz

def Back (h₀ : Heap) (L : Addr) (m : Str → Option Value) (led small : List (Addr × Obj)) (g : Heap) (R : Result → Shared → Prop) (v : Value) (s' : Shared) : Prop :=
  ∃ L' m' small' led', Fr g L' s'.heap m' ∧ News g L' s'.heap small' ∧ (∀ q ∈ led', q ∈ small' ∨ (q ∈ led ∧ q.1 ∉ small.map (·.1))) ∧
    (Fr h₀ L s'.heap m → News h₀ L s'.heap led' → R (.ok (.ret v)) s')

theorem back_ {h₀ : Heap} {L : Addr} {m : Str → Option Value} {led small small' led' : List (Addr × Obj)} {g : Heap} {R : Result → Shared → Prop} {v : Value} {s' : Shared} {L' : Addr} {m' : Str → Option Value}
    (F' : Fr g L' s'.heap m') (N' : News g L' s'.heap small') (hl : ∀ q ∈ led', q ∈ small' ∨ (q ∈ led ∧ q.1 ∉ small.map (·.1)))
    (k : Fr h₀ L s'.heap m → News h₀ L s'.heap led' → R (.ok (.ret v)) s') : Back h₀ L m led small g R v s' := ⟨_, _, _, _, F', N', hl, k⟩

section
variable {prog : Program} {w : World} {A₀ A : Around} {s : Shared} {base h₀ : Heap} {outer : List Env} {L : Addr} {m mg mb : Str → Option Value} {env : Env} {led small : List (Addr × Obj)} {K : Frag}
  {R : Result → Shared → Prop} {name qual : Str} {params : Arguments} {body : List Stmt} {scope : Scope} {dV kV doc pm cdv ct oc : Value} {an od : Option Addr} {osl : Array (Option Value)} {f : Addr} {args : Args} {binds : List (Str × Value)}
  {p : Program} {loose : List Str} {mean : ExcName → Option Value}

theorem code_in (B : Below A₀ base outer h₀) (F : Fr h₀ L s.heap m) (X : K.In h₀) (N : News h₀ L s.heap led) (T : Top p loose mean mg mb h₀) (hsub : ∀ q ∈ small, q ∈ led)
    (hA : A.frames = some (env :: outer)) (hf : env.frame = some L) (hke : env.scope.kind = .function)
    (ho : K.lookup f = some ⟨oc, od, .func (fnOf name qual params body scope dV kV doc pm an cdv ct), osl⟩) (hcd : codeIn K cdv qual = true) (hroom : A.depth < recursionLimit)
    (hbind : BindsTo s (fnOf name qual params body scope dV kV doc pm an cdv ct) args binds) (hloc : ∀ y ∈ binds, scope.names.lookup y.1 = some .local)
    (h : ∀ g L' h₁ tk, Fr g L' h₁ (fun y => binds.reverse.lookup y) → News g L' h₁ small → Below A base (env :: outer) g → K.In g → Top p loose mean mg mb g → (∀ q ∈ led, q.1 < L') → (∀ q ∈ led, q.1 ∉ small.map (·.1) → g.get? q.1 = some q.2) →
      wpAny (model prog w) (A.deeper (envOf qual scope L' f cdv)) (execs body (envOf qual scope L' f cdv))
        (fun fl s' => Back h₀ L m led small g R (match fl with | .ret v => v | _ => .none) s') (fun _ _ => False)
        { s with heap := h₁, toks := tk })
    (hco : scope.isCoroutine = false) (hgen : scope.isGenerator = false) (hk : scope.kind = .function)
    (hcell : ∀ x ∈ scope.names, x.2 ≠ .cell) : codeAny (model prog w) A (.call (.ref f) args) R s := by
  have N₁ : News h₀ L s.heap small := fun q hq => N q (hsub q hq)
  obtain ⟨FG, BG, st, _⟩ := groundX (R := R) B F N₁ hA hf hke
  refine codeAny_call_def (fd := fnOf name qual params body scope dV kV doc pm an cdv ct) (body := body) (binds := binds) hroom ((X.keeps F.keep) _ _ ho) rfl (T.nolimit.keeps F.keep) (codeRec_of (X.keeps F.keep) hcd) rfl hbind hcell hloc (fun h₁ hns hk₁ => ?_) hco hgen hk
  refine wpAny_mono (h _ s.heap.objs.size h₁ _ ⟨hns, fun b o e => hk₁ b o (of_hideAll _ e), Nat.le_of_eq (hideAll_size _ _)⟩
    (fun q hq => ⟨hk₁ _ _ (N₁ q hq).1, Nat.ne_of_lt (Heap.lt_size (N₁ q hq).1), hideAll_none _ (List.mem_map_of_mem hq)⟩) BG (X.keeps st) (T.keeps st) (fun q hq => Heap.lt_size (N q hq).1) (fun q hq hn => hideAll_get _ (N q hq).1 hn)) (fun fl s' hl => ?_) fun _ _ y => y.elim
  obtain ⟨L', m', small', led', F', N', hl, k⟩ := hl
  obtain ⟨oL, es, ep, hL, r⟩ := FG.ns
  refine k ⟨⟨oL, es, ep, F'.keep L oL hL, r⟩, fun b o e => F'.keep b o (st b o e), F.above⟩ fun q hq => ?_
  rcases hl q hq with hq | ⟨hq, hn⟩
  · refine ⟨(N' q hq).1, fun e => ?_, ?_⟩
    · have := (N' q hq).2.2; rw [e, hL] at this; cases this
    · cases e : h₀.get? q.1 with
      | none => rfl
      | some o => have := (N' q hq).2.2; rw [st _ _ e] at this; cases this
  · exact ⟨F'.keep _ _ (hideAll_get _ (N q hq).1 hn), (N q hq).2⟩
end

theorem sub_nil {led : List (Addr × Obj)} : ∀ q ∈ ([] : List (Addr × Obj)), q ∈ led := fun _ h => nomatch h
theorem sub_cons {led l : List (Addr × Obj)} {x : Addr × Obj} (h : x ∈ led) (hs : ∀ q ∈ l, q ∈ led) : ∀ q ∈ x :: l, q ∈ led := fun q hq => by
  rcases List.mem_cons.mp hq with rfl | hq
  · exact h
  · exact hs q hq

/-- led' is led but for what is changed or new -/
def Ups (chg led led' : List (Addr × Obj)) : Prop := ∀ q ∈ led', q ∈ chg ∨ (q ∈ led ∧ ∀ p ∈ chg, p.1 ≠ q.1)
theorem Ups.none (led : List (Addr × Obj)) : Ups [] led led := fun q h => .inr ⟨h, fun _ h => nomatch h⟩
theorem Ups.one {a : Addr} {o : Obj} {led : List (Addr × Obj)} {G : Obj → List (Addr × Obj)} (U : UpdF a o led G) (o' : Obj) : Ups [(a, o')] led (G o') := by
  obtain ⟨pre, post, rfl, hg, h1, h2⟩ := U.split
  intro q hq
  rw [hg] at hq
  rcases List.mem_append.mp hq with hq | hq
  · exact .inr ⟨List.mem_append_left _ hq, fun p hp => by rw [List.mem_singleton.mp hp]; exact Ne.symm (h1 q hq)⟩
  · rcases List.mem_cons.mp hq with rfl | hq
    · exact .inl (.head _)
    · exact .inr ⟨List.mem_append_right _ (.tail _ hq), fun p hp => by rw [List.mem_singleton.mp hp]; exact Ne.symm (h2 q hq)⟩
theorem Ups.more {a : Addr} {o o' : Obj} {chg led l1 : List (Addr × Obj)} {G : Obj → List (Addr × Obj)} (V : Ups chg led l1) (U : UpdF a o l1 G) (ha : ∀ p ∈ chg, p.1 ≠ a) : Ups ((a, o') :: chg) led (G o') := by
  intro q hq
  rcases Ups.one U o' q hq with hq | ⟨hq, hn⟩
  · rw [List.mem_singleton.mp hq]; exact .inl (.head _)
  · rcases V q hq with hq | ⟨hq, hm⟩
    · exact .inl (.tail _ hq)
    · refine .inr ⟨hq, fun p hp => ?_⟩
      rcases List.mem_cons.mp hp with rfl | hp
      · exact hn _ (.head _)
      · exact hm p hp
theorem Ups.new {a : Addr} {o : Obj} {chg led l1 : List (Addr × Obj)} (V : Ups chg led l1) (ha : ∀ p ∈ led, p.1 ≠ a) : Ups ((a, o) :: chg) led ((a, o) :: l1) := by
  intro q hq
  rcases List.mem_cons.mp hq with rfl | hq
  · exact .inl (.head _)
  · rcases V q hq with hq | ⟨hq, hm⟩
    · exact .inl (.tail _ hq)
    · refine .inr ⟨hq, fun p hp => ?_⟩
      rcases List.mem_cons.mp hp with rfl | hp
      · exact Ne.symm (ha q hq)
      · exact hm p hp

theorem ups_led {h₀ h : Heap} {L : Addr} {led led' small small' chg : List (Addr × Obj)} (N : News h₀ L h led) (U : Ups chg led led') (hsub : ∀ q ∈ small, q ∈ led)
    (hc : ∀ q ∈ chg, q ∈ small') (hs : ∀ q ∈ small, q ∈ small' ∨ ∃ p ∈ chg, p.1 = q.1) : ∀ q ∈ led', q ∈ small' ∨ (q ∈ led ∧ q.1 ∉ small.map (·.1)) := by
  intro q hq
  rcases U q hq with hq | ⟨hq, hn⟩
  · exact .inl (hc q hq)
  · by_cases hm : q.1 ∈ small.map (·.1)
    · obtain ⟨p, hp, e⟩ := List.mem_map.mp hm
      have e2 : p = q := by
        have a := (N p (hsub p hp)).1
        rw [e, (N q hq).1] at a
        exact Prod.ext e (Option.some.inj a).symm
      subst e2
      rcases hs p hp with h | ⟨r, hr, e⟩
      · exact .inl h
      · exact absurd e (hn r hr)
    · exact .inr ⟨hq, hm⟩
theorem keeps_nil {small' chg : List (Addr × Obj)} : ∀ q ∈ ([] : List (Addr × Obj)), q ∈ small' ∨ ∃ p ∈ chg, p.1 = q.1 := fun _ h => nomatch h
theorem keeps_cons {x : Addr × Obj} {l small' chg : List (Addr × Obj)} (h : x ∈ small' ∨ ∃ p ∈ chg, p.1 = x.1) (hs : ∀ q ∈ l, q ∈ small' ∨ ∃ p ∈ chg, p.1 = q.1) : ∀ q ∈ x :: l, q ∈ small' ∨ ∃ p ∈ chg, p.1 = q.1 := fun q hq => by
  rcases List.mem_cons.mp hq with rfl | hq
  · exact h
  · exact hs q hq

theorem dec_pos {c : Prop} {i : Decidable c} {a b : Prop} (hc : c) (h : a) : if decide c = true then a else b := by rw [if_pos (decide_eq_true hc)]; exact h
theorem dec_neg {c : Prop} {i : Decidable c} {a b : Prop} (hc : ¬ c) (h : b) : if decide c = true then a else b := by rw [if_neg (by rw [decide_eq_false hc]; decide)]; exact h
theorem beq_pos {x y : Int} {a b : Prop} (hc : x = y) (h : a) : if (x == y) = true then a else b := by rw [if_pos (beq_iff_eq.mpr hc)]; exact h
theorem beq_neg {x y : Int} {a b : Prop} (hc : x ≠ y) (h : b) : if (x == y) = true then a else b := by rw [if_neg (fun e => hc (beq_iff_eq.mp e))]; exact h
theorem bne_pos {x y : Int} {a b : Prop} (hc : x ≠ y) (h : a) : if (x != y) = true then a else b := by rw [if_pos (bne_iff_ne.mpr hc)]; exact h
theorem bne_neg {x y : Int} {a b : Prop} (hc : x = y) (h : b) : if (x != y) = true then a else b := by rw [if_neg (fun e => bne_iff_ne.mp e hc)]; exact h

theorem getD_of {ns : List Int} {l u : Int} (h : ∀ x ∈ ns, l ≤ x ∧ x < u) (h0 : l ≤ 0 ∧ 0 < u) (i : Nat) : l ≤ ns.getD i 0 ∧ ns.getD i 0 < u := by
  rw [List.getD_eq_getElem?_getD]
  cases e : ns[i]? with
  | none => exact h0
  | some x => exact h x (List.mem_of_getElem? e)
theorem or256 {x y : Int} (hx : 0 ≤ x) (hy : 0 ≤ y ∧ y < 256) : Builtin.bitOr (x * 2 ^ Int.toNat 8) y = x * 256 + y := by
  have e : (2 : Int) ^ Int.toNat 8 = 256 := by decide
  rw [e, bitOr_and]
  have : Builtin.bitAnd (x * 256) y = 0 := by
    rw [bitAnd_pp (by omega) hy.1]
    have e2 : (x * 256).toNat = x.toNat <<< 8 := by rw [Nat.shiftLeft_eq]; omega
    rw [e2]
    have : (x.toNat <<< 8) &&& y.toNat = 0 := by
      apply Nat.eq_of_testBit_eq
      intro j
      rw [Nat.testBit_and, Nat.testBit_shiftLeft, Nat.zero_testBit]
      by_cases hj : 8 ≤ j
      · have : y.toNat.testBit j = false := Nat.testBit_lt_two_pow (Nat.lt_of_lt_of_le (by omega : y.toNat < 2 ^ 8) (Nat.pow_le_pow_right (by decide) hj))
        rw [this, Bool.and_false]
      · have : decide (j ≥ 8) = false := decide_eq_false hj
        rw [this, Bool.false_and, Bool.false_and]
    rw [this]; rfl
  omega
end Mz
namespace Mz
theorem b8 (v : Int) : Builtin.bitAnd (v.fdiv (2 ^ Int.toNat 8)) 255 = v / 256 % 256 := by
  rw [bitAnd_m8, show (2 : Int) ^ Int.toNat 8 = 256 from by decide, Int.fdiv_eq_ediv_of_nonneg v (by decide)]
theorem fmod_len {p : Int} {ns : List Int} {n : Nat} (h : ns.length = n) : p.fmod (ns.length : Int) = p % (n : Int) := by
  rw [h, Int.fmod_eq_emod_of_nonneg p (by omega)]
theorem one_mem {x : Addr × Obj} {l : List (Addr × Obj)} (h : x ∈ l) : ∀ q ∈ [x], q ∈ l := fun q hq => by rw [List.mem_singleton.mp hq]; exact h
section
variable {prog : Program} {w : World} {A : Around} {E : Value → Shared → Prop} {s : Shared} {h₀ : Heap} {L D : Addr} {m : Str → Option Value} {led : List (Addr × Obj)} {G : Obj → List (Addr × Obj)} {vs : List Value} {ns : List Int} {n : Nat} {k x : Int} {t u : Tok}
theorem set_at {ns' : List Int} {Q : Unit → Shared → Prop} (F : Fr h₀ L s.heap m) (N : News h₀ L s.heap led) (U : UpdF D (listOf vs.toArray n) led G) (hi : IntsAre vs ns) (h0 : 0 ≤ k) (h1 : k < ns.length) (hfit : k < 2 ^ 63) (hs : ns.set k.toNat x = ns')
    (h : ∀ h' vs', Fr h₀ L h' m → News h₀ L h' (G (listOf vs'.toArray n)) → IntsAre vs' ns' → ns'.length = ns.length → Q () { s with heap := h' }) :
    wpAny (model prog w) A (setItem (.ref D) (.int k t) (.int x u)) Q E s := by
  obtain ⟨pre, post, e1, e2, h2, h3⟩ := U.split
  have U' : ∀ o', Upd D (listOf vs.toArray n) o' led (G o') := by
    intro o'
    rw [e1, e2 o']
    clear e1 N U e2
    induction pre with
    | nil => exact .head h3
    | cons p r ih => exact .tail (h2 p (.head _)) (ih fun q hq => h2 q (.tail _ hq))
  subst hs
  exact ksa_set F N (U' _) hi h0 h1 hfit fun h' F' N' hi' hl' _ => h h' _ F' N' hi' hl'
theorem sub_at {value slice : PySem.Expr} {y : Int} {Q : Value → Shared → Prop} (N : News h₀ L s.heap led) (hm : (D, listOf vs.toArray n) ∈ led) (hi : IntsAre vs ns) (h0 : 0 ≤ k) (h1 : k < ns.length) (hfit : k < 2 ^ 63) (hy : ns.getD k.toNat 0 = y)
    (h : ∀ t, Q (.int y t) s) (hs : subscripted slice false (.ref D) (.int k u) = operate [.ref D, .int k u] (getItem (.ref D) (.int k u)) := by with_unfolding_all rfl) :
    wpAny (model prog w) A (subscriptTail value slice (.ref D) (.int k u)) Q E s := by
  subst hy
  exact ksa_sub N hm hi h0 h1 hfit h hs
end
end Mz
namespace Mz
theorem retB {Q : Value → Shared → Prop} {x y : Bool} {s' : Shared} (e : y = x) (h : Q (.bool y) s') : Q (.bool x) s' := e ▸ h
theorem retI {Q : Value → Shared → Prop} {x y : Int} {t : Tok} {s' : Shared} (e : y = x) (h : Q (.int y t) s') : Q (.int x t) s' := e ▸ h
abbrev tupO (vs : List Value) : Obj := { cls := .type "tuple", data := .seq vs.toArray }

def parF (v : Int) : Int :=
  if Builtin.bitAnd (Builtin.bitXor (Builtin.bitXor (Builtin.bitXor v (v.fdiv (2 ^ Int.toNat 4))) ((Builtin.bitXor v (v.fdiv (2 ^ Int.toNat 4))).fdiv (2 ^ Int.toNat 2)))
    ((Builtin.bitXor (Builtin.bitXor v (v.fdiv (2 ^ Int.toNat 4))) ((Builtin.bitXor v (v.fdiv (2 ^ Int.toNat 4))).fdiv (2 ^ Int.toNat 2))).fdiv (2 ^ Int.toNat 1))) 1 ≠ 0 then 0 else 4
def szF (v : Int) : Int := Builtin.bitOr (Builtin.bitAnd v (Builtin.bitOr 128 40)) (if v = 0 then 64 else 0)
end Mz
namespace Mz
def mvF (x v l f : Int) : Int := Builtin.bitOr (Builtin.bitOr (Builtin.bitOr (Builtin.bitAnd f (Builtin.bitOr (Builtin.bitOr 128 64) 1)) (if Builtin.bitAnd (x + v) 2 ≠ 0 then 32 else 0)) (Builtin.bitAnd (x + v) 8)) (if l ≠ 0 then 4 else 0)
end Mz
namespace Mz
theorem new_ne {g h' : Heap} {L' : Addr} {led small small' : List (Addr × Obj)} {D : Addr} {o : Obj} (hg : ∀ q ∈ led, q.1 ∉ small.map (·.1) → g.get? q.1 = some q.2) (N' : News g L' h' small') (hm : (D, o) ∈ small') (hs : ∀ q ∈ small, q.1 ≠ D) : ∀ q ∈ led, q.1 ≠ D := fun q hq e => by
  by_cases h : q.1 ∈ small.map (·.1)
  · obtain ⟨p, hp, e2⟩ := List.mem_map.mp h
    exact hs p hp (e2.trans e)
  · have := hg q hq h
    rw [e, (N' _ hm).2.2] at this
    cases this
def NeA (a b : Nat) : Prop := a ≠ b
theorem NeA.out {a b : Nat} (h : NeA a b) : a ≠ b := h
theorem NeA.of {a b : Nat} (h : a ≠ b) : NeA a b := h
theorem NeA.symm {a b : Nat} (h : NeA a b) : NeA b a := fun e => h e.symm
noncomputable def AllNe (D : Nat) : List (Addr × Obj) → Prop
  | [] => True
  | p :: r => NeA p.1 D ∧ AllNe D r
theorem allNe_of {D : Addr} : ∀ {l : List (Addr × Obj)}, (∀ p ∈ l, p.1 ≠ D) → AllNe D l
  | [], _ => trivial
  | p :: _, h => ⟨h p (.head _), allNe_of fun q hq => h q (.tail _ hq)⟩
theorem off1_of {D : Addr} : ∀ {l : List (Addr × Obj)}, (∀ p ∈ l, p.1 ≠ D) → LCg.Off1 D l
  | [], _ => trivial
  | p :: _, h => ⟨h p (.head _), off1_of fun q hq => h q (.tail _ hq)⟩
def sbR (x v l : Int) : Int := Builtin.bitAnd (x - v - l) 255
def sbF (x v l : Int) : Int := Builtin.bitOr (Builtin.bitOr (Builtin.bitOr (Builtin.bitOr (szF (Builtin.bitAnd (x - v - l) 255)) (Builtin.bitAnd (Builtin.bitXor (Builtin.bitXor x v) (Builtin.bitAnd (x - v - l) 255)) 16))
  (if Builtin.bitAnd (Builtin.bitAnd (Builtin.bitXor x v) (Builtin.bitXor x (Builtin.bitAnd (x - v - l) 255))) 128 ≠ 0 then 4 else 0)) 2) (if x - v - l < 0 then 1 else 0)
theorem newsTup {g h : Heap} {L D : Addr} {r x y : Int} {t1 t2 : Tok} (e : y = x) (N : News g L h [(D, tupO [.int r t1, .int x t2])]) : News g L h [(D, tupO [.int r t1, .int y t2])] := e ▸ N
end Mz
namespace Mz
def skT (x v : Int) : Int := sbR x v 0 - (if Builtin.bitAnd (sbF x v 0) 16 ≠ 0 then 1 else 0)
def skF (x v l f : Int) : Int := Builtin.bitOr (Builtin.bitOr (Builtin.bitOr (Builtin.bitOr (Builtin.bitOr (Builtin.bitAnd (sbF x v 0) (Builtin.bitOr (Builtin.bitOr 128 64) 16)) (if Builtin.bitAnd (skT x v) 2 ≠ 0 then 32 else 0)) (Builtin.bitAnd (skT x v) 8)) (if l ≠ 0 then 4 else 0)) 2) (Builtin.bitAnd f 1)
theorem skT_1 {x v : Int} (h : Builtin.bitAnd (sbF x v 0) 16 ≠ 0) : skT x v = sbR x v 0 - 1 := by unfold skT; rw [if_pos h]
theorem skT_0 {x v : Int} (h : Builtin.bitAnd (sbF x v 0) 16 = 0) : skT x v = sbR x v 0 - 0 := by unfold skT; rw [if_neg (fun e => e h)]
def ptF (x v l : Int) : Int := Builtin.bitOr (Builtin.bitOr (Builtin.bitOr (szF l) (if x + v > 255 then Builtin.bitOr 16 1 else 0)) (parF (Builtin.bitXor (Builtin.bitAnd (x + v) 7) l))) (if Builtin.bitAnd x 128 ≠ 0 then 2 else 0)
end Mz
namespace Mz
inductive Rem (d : Addr) (o : Obj) : List (Addr × Obj) → List (Addr × Obj) → Prop
  | head {r} : (∀ p ∈ r, p.1 ≠ d) → Rem d o ((d, o) :: r) r
  | tail {p r r'} : p.1 ≠ d → Rem d o r r' → Rem d o (p :: r) (p :: r')
theorem Rem.tl {d : Addr} {o : Obj} {p : Addr × Obj} {r r' : List (Addr × Obj)} (hb : Rem d o r r') (ha : p.1 ≠ d) : Rem d o (p :: r) (p :: r') := .tail ha hb
theorem updf_tl {d : Addr} {o : Obj} {p : Addr × Obj} {r : List (Addr × Obj)} {g : Obj → List (Addr × Obj)} (hb : UpdF d o r g) (ha : p.1 ≠ d) : UpdF d o (p :: r) (fun o' => p :: g o') := .tail ha hb
theorem Rem.mem {d : Addr} {o : Obj} : ∀ {l l' : List (Addr × Obj)}, Rem d o l l' → (d, o) ∈ l
  | _, _, .head _ => .head _
  | _, _, .tail _ r => .tail _ r.mem
theorem Rem.sub {d : Addr} {o : Obj} : ∀ {l l' : List (Addr × Obj)}, Rem d o l l' → ∀ q ∈ l', q ∈ l ∧ q.1 ≠ d
  | _, _, .head h => fun q hq => ⟨.tail _ hq, h q hq⟩
  | _, _, .tail h r => fun q hq => by
    rcases List.mem_cons.mp hq with rfl | hq
    · exact ⟨.head _, h⟩
    · exact ⟨.tail _ (r.sub q hq).1, (r.sub q hq).2⟩
theorem Ups.rem1 {a : Addr} {o o' : Obj} {led l1 : List (Addr × Obj)} (V : Rem a o led l1) : Ups [(a, o')] led ((a, o') :: l1) := fun q hq => by
  rcases List.mem_cons.mp hq with rfl | hq
  · exact .inl (.head _)
  · exact .inr ⟨(V.sub q hq).1, fun p hp => by rw [List.mem_singleton.mp hp]; exact Ne.symm (V.sub q hq).2⟩
theorem Ups.rem2 {a b : Addr} {o o' u u' : Obj} {led l1 l2 : List (Addr × Obj)} (V : Rem a o led l1) (W : Rem b u l1 l2) : Ups [(a, o'), (b, u')] led ((a, o') :: (b, u') :: l2) := fun q hq => by
  rcases List.mem_cons.mp hq with rfl | hq
  · exact .inl (.head _)
  · rcases List.mem_cons.mp hq with rfl | hq
    · exact .inl (.tail _ (.head _))
    · have h := W.sub q hq
      have k := V.sub q h.1
      refine .inr ⟨k.1, fun p hp => ?_⟩
      rcases List.mem_cons.mp hp with rfl | hp
      · exact Ne.symm k.2
      · rw [List.mem_singleton.mp hp]; exact Ne.symm h.2
theorem Ups.rem3 {a b c : Addr} {o o' u u' v v' : Obj} {led l1 l2 l3 : List (Addr × Obj)} (V : Rem a o led l1) (W : Rem b u l1 l2) (Z : Rem c v l2 l3) : Ups [(a, o'), (b, u'), (c, v')] led ((a, o') :: (b, u') :: (c, v') :: l3) := fun q hq => by
  rcases List.mem_cons.mp hq with rfl | hq
  · exact .inl (.head _)
  · rcases List.mem_cons.mp hq with rfl | hq
    · exact .inl (.tail _ (.head _))
    · rcases List.mem_cons.mp hq with rfl | hq
      · exact .inl (.tail _ (.tail _ (.head _)))
      · have z := Z.sub q hq
        have h := W.sub q z.1
        have k := V.sub q h.1
        refine .inr ⟨k.1, fun p hp => ?_⟩
        rcases List.mem_cons.mp hp with rfl | hp
        · exact Ne.symm k.2
        · rcases List.mem_cons.mp hp with rfl | hp
          · exact Ne.symm h.2
          · rw [List.mem_singleton.mp hp]; exact Ne.symm z.2

def pr (ns : List Int) (p : Int) : Int := ns.getD (2 * p).toNat 0 * 256 + ns.getD (2 * p + 1).toNat 0
def setPr (ns : List Int) (p v : Int) : List Int := (ns.set (2 * p).toNat (v / 256 % 256)).set (2 * p + 1).toNat (v % 256)
def Byt (ns : List Int) : Prop := ∀ i : Nat, i < 6 → 0 ≤ ns.getD i 0 ∧ ns.getD i 0 < 256
theorem setPr_len {ns : List Int} {p v : Int} {n : Nat} (h : ns.length = n) : (setPr ns p v).length = n := by unfold setPr; rw [List.length_set, List.length_set]; exact h
theorem setPr_byt {ns : List Int} {p v : Int} (h : Byt ns) : Byt (setPr ns p v) := fun i hi => by
  have h9 := h i hi
  unfold setPr
  simp only [List.getD_eq_getElem?_getD, List.getElem?_set, List.length_set] at h9 ⊢
  (repeat' split) <;> (try simp only [Option.getD_some, Option.getD_none]) <;> omega
theorem pr_setPr {ns : List Int} {p v : Int} (hl : ns.length = 8) (hp : 0 ≤ p ∧ p ≤ 2) (hv : 0 ≤ v ∧ v < 65536) : pr (setPr ns p v) p = v := by
  unfold pr setPr
  have e1 : (2 * p).toNat ≠ (2 * p + 1).toNat := by omega
  have e2 : (2 * p).toNat < ns.length := by omega
  have e3 : (2 * p + 1).toNat < ns.length := by omega
  have e4 : ¬ (2 * p + 1).toNat = (2 * p).toNat := by omega
  simp only [List.getD_eq_getElem?_getD, List.getElem?_set, List.length_set, e2, e3, e4, if_true, if_false, Option.getD_some, eq_self]
  omega
def R (bc de hl f a : Int) : List Int := [bc / 256, bc % 256, de / 256, de % 256, hl / 256, hl % 256, f, a]
section
variable {bc de hl f a v : Int}
theorem prR0 : pr (R bc de hl f a) 0 = bc := by show bc / 256 * 256 + bc % 256 = bc; omega
theorem prR1 : pr (R bc de hl f a) 1 = de := by show de / 256 * 256 + de % 256 = de; omega
theorem prR2 : pr (R bc de hl f a) 2 = hl := by show hl / 256 * 256 + hl % 256 = hl; omega
theorem hi8 (h : 0 ≤ v ∧ v < 65536) : v / 256 % 256 = v / 256 := by omega
theorem setR0 (h : 0 ≤ v ∧ v < 65536) : setPr (R bc de hl f a) 0 v = R v de hl f a := by show [v / 256 % 256, v % 256, _, _, _, _, _, _] = _; rw [hi8 h]; rfl
theorem setR1 (h : 0 ≤ v ∧ v < 65536) : setPr (R bc de hl f a) 1 v = R bc v hl f a := by show [_, _, v / 256 % 256, v % 256, _, _, _, _] = _; rw [hi8 h]; rfl
theorem setR2 (h : 0 ≤ v ∧ v < 65536) : setPr (R bc de hl f a) 2 v = R bc de v f a := by show [_, _, _, _, v / 256 % 256, v % 256, _, _] = _; rw [hi8 h]; rfl
theorem R_len : (R bc de hl f a).length = 8 := rfl
theorem R_byt (h1 : 0 ≤ bc ∧ bc < 65536) (h2 : 0 ≤ de ∧ de < 65536) (h3 : 0 ≤ hl ∧ hl < 65536) : Byt (R bc de hl f a)
  | 0, _ => by show 0 ≤ bc / 256 ∧ bc / 256 < 256; omega
  | 1, _ => by show 0 ≤ bc % 256 ∧ bc % 256 < 256; omega
  | 2, _ => by show 0 ≤ de / 256 ∧ de / 256 < 256; omega
  | 3, _ => by show 0 ≤ de % 256 ∧ de % 256 < 256; omega
  | 4, _ => by show 0 ≤ hl / 256 ∧ hl / 256 < 256; omega
  | 5, _ => by show 0 ≤ hl % 256 ∧ hl % 256 < 256; omega
  | n + 6, h => absurd h (by omega)
theorem R_s0 {x : Int} : (R bc de hl f a).set (Int.toNat 0) x = R (x * 256 + bc % 256) de hl f a := by
  show [x, _, _, _, _, _, _, _] = [(x * 256 + bc % 256) / 256, (x * 256 + bc % 256) % 256, _, _, _, _, _, _]
  rw [show (x * 256 + bc % 256) / 256 = x from by omega, show (x * 256 + bc % 256) % 256 = bc % 256 from by omega]
theorem R_s0b {x : Int} : (R bc de hl f a).set (Int.toNat 0) (Builtin.bitAnd x 255) = R (x % 256 * 256 + bc % 256) de hl f a := by rw [bitAnd_m8, R_s0]
theorem R_s6 {x : Int} : (R bc de hl f a).set (Int.toNat 6) x = R bc de hl x a := rfl
theorem R_g0 : (R bc de hl f a).getD (Int.toNat 0) 0 = bc / 256 := rfl
theorem R_g1 : (R bc de hl f a).getD (Int.toNat 1) 0 = bc % 256 := rfl
theorem R_g6 : (R bc de hl f a).getD (Int.toNat 6) 0 = f := rfl
theorem R_g7 : (R bc de hl f a).getD (Int.toNat 7) 0 = a := rfl
theorem md16 (x : Int) : 0 ≤ x % 65536 ∧ x % 65536 < 65536 := by omega
end
theorem sh8' {x : Int} (h : 0 ≤ x ∧ x < 256) : x.natAbs < 2 ^ 64 := by omega
end Mz
namespace Mz
theorem isStr_ne {v : Value} {x y : Str} (h : v.isStr x = true) (hn : y ≠ x) : v.isStr y = false := by
  cases v with
  | str s t =>
    have e : s = x := by simpa [Value.isStr] using h
    subst e
    simpa [Value.isStr] using (fun e => hn e.symm)
  | _ => cases h
theorem find_same {name : Str} {hsh : Int} {key v : Value} : ∀ {es : List DictEntry} {e0 : DictEntry}, es.find? (·.key.isStr name) = some e0 → (putL name hsh key v es).find? (·.key.isStr name) = some ⟨e0.hash, e0.key, v⟩
  | [], _, h => by cases h
  | e :: r, e0, h => by
    unfold putL
    cases q : e.key.isStr name with
    | true =>
      simp only [List.find?_cons, q, if_true, Option.some.injEq] at h ⊢
      subst h; rfl
    | false =>
      simp only [List.find?_cons, q, Bool.false_eq_true, if_false] at h ⊢
      exact find_same h
theorem find_oth {name y : Str} {hsh : Int} {key v : Value} (hn : y ≠ name) : ∀ {es : List DictEntry}, (es.find? (·.key.isStr name)).isSome = true → (putL name hsh key v es).find? (·.key.isStr y) = es.find? (·.key.isStr y)
  | [], h => by cases h
  | e :: r, h => by
    unfold putL
    cases q : e.key.isStr name with
    | true =>
      simp only [List.find?_cons, if_true, isStr_ne q hn]
    | false =>
      simp only [List.find?_cons, q, Bool.false_eq_true, if_false] at h ⊢
      cases q2 : e.key.isStr y with
      | true => rfl
      | false => exact find_oth hn h
theorem put_any {name : Str} {hsh : Int} {key v : Value} : ∀ {es : List DictEntry}, (es.find? (·.key.isStr name)).isSome = true → (putL name hsh key v es).any (·.refKey) = es.any (·.refKey)
  | [], h => by cases h
  | e :: r, h => by
    unfold putL
    cases q : e.key.isStr name with
    | true => simp only [if_true, List.any_cons]; rfl
    | false =>
      simp only [List.find?_cons, q, Bool.false_eq_true, if_false] at h ⊢
      simp only [List.any_cons, put_any h]
theorem put_len {name : Str} {hsh : Int} {key v : Value} : ∀ {es : List DictEntry}, (es.find? (·.key.isStr name)).isSome = true → (putL name hsh key v es).length = es.length
  | [], h => by cases h
  | e :: r, h => by
    unfold putL
    cases q : e.key.isStr name with
    | true => rfl
    | false =>
      simp only [List.find?_cons, q, Bool.false_eq_true, if_false] at h ⊢
      simp only [List.length_cons, put_len h]
theorem getL_find {name : Str} {es : List DictEntry} {v : Value} (h : getL name es = some (some v)) : ∃ e, es.find? (·.key.isStr name) = some e ∧ e.val = v := by
  unfold getL at h
  split at h
  · rename_i e he; exact ⟨e, he, by simpa using h⟩
  · split at h <;> cases h
theorem getL_put {name : Str} {hsh : Int} {key v v₀ : Value} {es : List DictEntry} (h : getL name es = some (some v₀)) : getL name (putL name hsh key v es) = some (some v) := by
  obtain ⟨e, he, _⟩ := getL_find h
  unfold getL
  rw [find_same he]
theorem getL_put_oth {name y : Str} {hsh : Int} {key v v₀ : Value} {es : List DictEntry} (h : getL name es = some (some v₀)) (hn : y ≠ name) : getL y (putL name hsh key v es) = getL y es := by
  obtain ⟨e, he, _⟩ := getL_find h
  have hs : (es.find? (·.key.isStr name)).isSome = true := by rw [he]; rfl
  unfold getL
  rw [find_oth hn hs, put_any hs]
theorem getL_oth {name y : Str} {v : Value} {es es' : List DictEntry} (ho : ∀ y, y ≠ name → getL y es' = getL y es) (hn : y ≠ name) (h : getL y es = some (some v)) : getL y es' = some (some v) := (ho y hn).trans h
section
variable {prog : Program} {w : World} {A : Around} {E : Value → Shared → Prop} {s : Shared} {K : Frag} {x C dx L : Addr} {h₀ : Heap} {m : Str → Option Value} {led l1 : List (Addr × Obj)} {ox : Obj} {es : List DictEntry} {n : Nat} {name : Str} {v v₀ : Value}
theorem set_own {Q : Unit → Shared → Prop} (F : Fr h₀ L s.heap m) (X₀ : K.In h₀) (N : News h₀ L s.heap led) (I : InstAt s.heap x ox C (some (dictOf es n))) (hd : ox.dict = some dx)
    (hs : findIn K (.ref C) "__setattr__" = some (some (.builtin "object.__setattr__"))) (hp : plainOver K C = true) (ht : takerIn K C name = some none) (hh : hasDictIn K C = true) (hl : getL name es = some (some v₀))
    (hz : es.length ≤ 100) (V : Rem dx (dictOf es n) led l1)
    (h : ∀ h' es' n', getL name es' = some (some v) → (∀ y, y ≠ name → getL y es' = getL y es) → es'.length ≤ 100 → Fr h₀ L h' m → News h₀ L h' ((dx, dictOf es' n') :: l1) → Q () { s with heap := h', toks := s.toks + 2 }) :
    wpAny (model prog w) A (setAttr (.ref x) name v) Q E s := by
  obtain ⟨e, he, _⟩ := getL_find hl
  have hs' : (es.find? (·.key.isStr name)).isSome = true := by rw [he]; rfl
  have U : ∀ o', ∃ led', Upd dx (dictOf es n) o' led led' ∧ ∀ q ∈ (dx, o') :: l1, q ∈ led' := by
    intro o'
    clear h N I
    induction V with
    | head hr => exact ⟨_, .head hr, fun q hq => hq⟩
    | tail hne r ih =>
      obtain ⟨led', U, hq⟩ := ih
      refine ⟨_, .tail hne U, fun q hq' => ?_⟩
      rcases List.mem_cons.mp hq' with rfl | hq'
      · exact .tail _ (hq _ (.head _))
      · rcases List.mem_cons.mp hq' with rfl | hq'
        · exact .head _
        · exact .tail _ (hq _ (.tail _ hq'))
  obtain ⟨led', U, hq⟩ := U (dictOf (putL name (PyData.keyHash w.params name) (.str name (s.toks + 1)) v es) (putN name es n))
  refine set_dict F X₀ N I hd hs hp ht hh (by rw [hl]; rfl) rfl U (by rw [put_len hs']; omega) fun h' F' N' => ?_
  exact h h' _ _ (getL_put hl) (fun y hy => getL_put_oth hl hy) (by rw [put_len hs']; exact hz) F' fun q hq' => N' q (hq q hq')
end
end Mz
namespace Mz
theorem Ups.rem1new {a b : Addr} {o o' u : Obj} {led l1 : List (Addr × Obj)} (V : Rem a o led l1) (hb : ∀ p ∈ led, p.1 ≠ b) : Ups [(a, o'), (b, u)] led ((a, o') :: (b, u) :: l1) := fun q hq => by
  rcases List.mem_cons.mp hq with rfl | hq
  · exact .inl (.head _)
  · rcases List.mem_cons.mp hq with rfl | hq
    · exact .inl (.tail _ (.head _))
    · have k := V.sub q hq
      refine .inr ⟨k.1, fun p hp => ?_⟩
      rcases List.mem_cons.mp hp with rfl | hp
      · exact Ne.symm k.2
      · rw [List.mem_singleton.mp hp]; exact Ne.symm (hb q k.1)
theorem two_mem {x y : Addr × Obj} {l : List (Addr × Obj)} (h : x ∈ l) (k : y ∈ l) : ∀ q ∈ [x, y], q ∈ l := fun q hq => by
  rcases List.mem_cons.mp hq with rfl | hq
  · exact h
  · exact one_mem k q hq
theorem three_mem {x y z : Addr × Obj} {l : List (Addr × Obj)} (h : x ∈ l) (k : y ∈ l) (j : z ∈ l) : ∀ q ∈ [x, y, z], q ∈ l := fun q hq => by
  rcases List.mem_cons.mp hq with rfl | hq
  · exact h
  · exact two_mem k j q hq
theorem ne3 {a b c D : Addr} {x y z : Obj} (h : a < D ∧ b < D ∧ c < D) : ∀ q ∈ [(a, x), (b, y), (c, z)], q.1 ≠ D := fun q hq => by
  rcases List.mem_cons.mp hq with rfl | hq
  · exact Nat.ne_of_lt h.1
  · rcases List.mem_cons.mp hq with rfl | hq
    · exact Nat.ne_of_lt h.2.1
    · rw [List.mem_singleton.mp hq]; exact Nat.ne_of_lt h.2.2
end Mz
namespace Mz
theorem byte_at {ms : List Int} (h : ∀ x ∈ ms, 0 ≤ x ∧ x < 256) (i : Nat) : ms.getD i 0 % 256 = ms.getD i 0 := by have := getD_of h (by decide) i; omega
end Mz

namespace Mz
noncomputable abbrev PR : PySem.Program := PySem.Challenge.rw_pq1468_01.row.prog
noncomputable abbrev LO : List Str := looseW hd.view_39 hd.loose
theorem dp1 {d a b c c' : Nat} (h : d + a < c) (e : (Nat.ble b a && Nat.ble c c') = true) : d + b < c' := by
  have e := Bool.and_eq_true_iff.mp e
  exact Nat.lt_of_lt_of_le (Nat.lt_of_le_of_lt (Nat.add_le_add_left (Nat.le_of_ble_eq_true e.1) d) h) (Nat.le_of_ble_eq_true e.2)
theorem dp2 {d a b₁ b₂ c c' : Nat} (h : d + a < c) (e : (Nat.ble (b₁ + b₂) a && Nat.ble c c') = true) : d + b₁ + b₂ < c' := Nat.add_assoc d b₁ b₂ ▸ dp1 h e
theorem lt_tr {x m y : Nat} (b : m < y) (a : x < m) : x < y := Nat.lt_trans a b
theorem lt_s {x L : Nat} (h : x < L) : x < L + 1 := Nat.lt_succ_of_lt h
theorem all_cons {p : Addr × Obj} {d : Addr} {l : List (Addr × Obj)} (a : p.1 ≠ d) (b : ∀ q ∈ l, q.1 ≠ d) : ∀ q ∈ p :: l, q.1 ≠ d := fun q h => by
  rcases List.mem_cons.mp h with rfl | h
  · exact a
  · exact b q h
def Lts (d : Nat) (as : List Nat) : Prop := ∀ a ∈ as, a < d
def Nes (d : Nat) (as : List Nat) : Prop := ∀ a ∈ as, a ≠ d
theorem lts_of {d : Addr} {l : List (Addr × Obj)} (h : ∀ p ∈ l, p.1 < d) : Lts d (l.map Prod.fst) := fun a ha => by
  obtain ⟨p, hp, rfl⟩ := List.mem_map.mp ha
  exact h p hp
theorem nes_of {d : Addr} {l : List (Addr × Obj)} (h : ∀ p ∈ l, p.1 ≠ d) : Nes d (l.map Prod.fst) := fun a ha => by
  obtain ⟨p, hp, rfl⟩ := List.mem_map.mp ha
  exact h p hp
theorem Lts.lt {d x : Nat} {as : List Nat} (h : Lts d as) (m : x ∈ as) : x < d := h x m
theorem Nes.ne {d x : Nat} {as : List Nat} (h : Nes d as) (m : x ∈ as) : x ≠ d := h x m
theorem ne_lts {d : Addr} {as : List Nat} {l : List (Addr × Obj)} (h : Lts d as) (e : l.map Prod.fst = as) : ∀ p ∈ l, p.1 ≠ d := fun p hp => Nat.ne_of_lt (h p.1 (e ▸ List.mem_map_of_mem hp))
theorem ne_nes {d : Addr} {as : List Nat} {l : List (Addr × Obj)} (h : Nes d as) (e : l.map Prod.fst = as) : ∀ p ∈ l, p.1 ≠ d := fun p hp => h p.1 (e ▸ List.mem_map_of_mem hp)
def MarkL (_ : List (Addr × Obj)) : Prop := True
def MarkF (_ : Str → Option Value) : Prop := True
theorem letL {h₀ h : Heap} {L : Addr} {led : List (Addr × Obj)} {P : Prop} (N : News h₀ L h led) (k : let l9 := led; News h₀ L h l9 → MarkL l9 → P) : P := k N trivial
theorem letF {h₀ h : Heap} {L : Addr} {m : Str → Option Value} {P : Prop} (F : Fr h₀ L h m) (k : let m9 := m; Fr h₀ L h m9 → MarkF m9 → P) : P := k F trivial
theorem hasL {h₀ h : Heap} {L : Addr} {led : List (Addr × Obj)} {P : Prop} (_ : News h₀ L h led) (_ : MarkL led) (p : P) : P := p
theorem hasF {h₀ h : Heap} {L : Addr} {m : Str → Option Value} {P : Prop} (_ : Fr h₀ L h m) (_ : MarkF m) (p : P) : P := p
end Mz

namespace Mz
theorem bne_t {x y : Int} (h : x ≠ y) : (x != y) = true := bne_iff_ne.mpr h
theorem andB_t {x y : Bool} (h : x = true) : (x && y) = y := by rw [h]; rfl
theorem andB_f {x : Int} {y : Bool} (h : x = 0) : ((x != 0) && y) = (x != 0) := by subst h; rfl
theorem mod_mod8 (x : Int) : x % 256 % 256 = x % 256 := by omega
theorem lo8 (x y : Int) : (x * 256 + y % 256) % 256 % 256 = y % 256 := by omega
theorem Ups.rem2new {a b c : Addr} {o o' u u' v : Obj} {led l1 l2 : List (Addr × Obj)} (V : Rem a o led l1) (W : Rem b u l1 l2) (hc : ∀ p ∈ led, p.1 ≠ c) : Ups [(a, o'), (b, u'), (c, v)] led ((a, o') :: (b, u') :: (c, v) :: l2) := fun q hq => by
  rcases List.mem_cons.mp hq with rfl | hq
  · exact .inl (.head _)
  · rcases List.mem_cons.mp hq with rfl | hq
    · exact .inl (.tail _ (.head _))
    · rcases List.mem_cons.mp hq with rfl | hq
      · exact .inl (.tail _ (.tail _ (.head _)))
      · have h := W.sub q hq
        have k := V.sub q h.1
        refine .inr ⟨k.1, fun p hp => ?_⟩
        rcases List.mem_cons.mp hp with rfl | hp
        · exact Ne.symm k.2
        · rcases List.mem_cons.mp hp with rfl | hp
          · exact Ne.symm h.2
          · rw [List.mem_singleton.mp hp]; exact Ne.symm (hc q k.1)
theorem ne_of_lts {D : Addr} : ∀ {l : List (Addr × Obj)}, (∀ q ∈ l, q.1 < D) → ∀ q ∈ l, q.1 ≠ D := fun h q hq => Nat.ne_of_lt (h q hq)
end Mz
namespace Mz
theorem of_allNe {D : Addr} : ∀ {l : List (Addr × Obj)}, AllNe D l → ∀ p ∈ l, p.1 ≠ D
  | [], _ => fun _ h => nomatch h
  | p :: r, h => fun q hq => by
    rcases List.mem_cons.mp hq with rfl | hq
    · exact h.1
    · exact of_allNe h.2 q hq
end Mz
namespace Mz
def Halt (p : Prop) : Prop := p
theorem halt {p : Prop} (h : Halt p) : p := h
theorem unhalt {p : Prop} (h : p) : Halt p := h
end Mz

local macro_rules | `(tactic| walk_at "call ref") => `(tactic| k_extra "mz:call ref")
local macro_rules | `(tactic| walk_at "getAttr ref") => `(tactic| k_extra "mz:getAttr ref")
local macro_rules | `(tactic| walk_at "setAttr ref") => `(tactic| k_extra "mz:setAttr ref")
local macro_rules | `(tactic| walk_at "exec While Compare cons nil") => `(tactic| k_extra "mz:exec While Compare cons nil")
local macro_rules | `(tactic| walk_at "CompSrc") => `(tactic| k_extra "mz:CompSrc")
local macro_rules | `(tactic| walk_at "eval ListComp") => `(tactic| k_extra "mz:eval ListComp")
local macro_rules | `(tactic| walk_at "exec For Tuple Name cons nil") => `(tactic| k_extra "mz:exec For Tuple Name cons nil")
local macro_rules | `(tactic| walk_at "exec For Name Call cons nil") => `(tactic| k_extra "mz:exec For Name Call cons nil")
local macro_rules | `(tactic| walk_at "pyIter ref") => `(tactic| k_extra "mz:pyIter ref")
local macro_rules | `(tactic| walk_at "InvEndN") => `(tactic| k_extra "mz:InvEndN")
local macro_rules | `(tactic| walk_at "subscriptTail") => `(tactic| k_extra "mz:subscriptTail")
local macro_rules | `(tactic| walk_at "setItem ref int") => `(tactic| k_extra "mz:setItem ref int")
local macro_rules | `(tactic| walk_at "CompSrc Subscript cons ref") => `(tactic| k_extra "mz:CompSrc Subscript cons ref")
local macro_rules | `(tactic| walk_at "eval IfExp") => `(tactic| k_extra "mz:eval IfExp")
local macro_rules | `(tactic| walk_at "call builtin:list.index") => `(tactic| k_extra "mz:call builtin:list.index")
local macro_rules | `(tactic| walk_at "call type:range") => `(tactic| k_extra "mz:call type:range")
local macro_rules | `(tactic| walk_at "CompSrc BinOp cons ref") => `(tactic| k_extra "mz:CompSrc BinOp cons ref")
local macro_rules | `(tactic| walk_at "TbEnd") => `(tactic| k_extra "mz:TbEnd")
local macro_rules | `(tactic| walk_at "call builtin:list.append") => `(tactic| k_extra "mz:call builtin:list.append")
local macro_rules | `(tactic| walk_at "compareOp NotEq ref ref") => `(tactic| k_extra "mz:compareOp NotEq ref ref")
local macro_rules | `(tactic| walk_at "storeName") => `(tactic| k_extra "mz:storeName")
local macro_rules | `(tactic| walk_at "ite") => `(tactic| k_extra "mz:ite")
local macro_rules | `(tactic| walk_at "binaryOp LShift int int") => `(tactic| k_extra "mz:binaryOp LShift int int")
local macro_rules | `(tactic| k_units) => `(tactic| ktr_units)
local macro_rules | `(tactic| ksa_idx) => `(tactic| k_extra "mz ksa_idx")
local macro_rules | `(tactic| k_ne) => `(tactic| k_extra "mz k_ne")
local macro_rules | `(tactic| k_all) => `(tactic| k_extra "mz k_all")
local macro_rules | `(tactic| k_lt $h:ident) => `(tactic| (replace $h := Mz.lts_of $h; (try dsimp only [List.map] at $h:ident)))
example : PySem.Challenge.rw_pq1468_01 = PySem.Challenge.rw_pq1468_01 ∧ hd.heap_39 = hd.heap_39 := by
  k_fill
  exact ⟨rfl, rfl⟩

example : True := by
  k_with_none
  k_with "mz enter" => ((case k6 => k_is); (case k7 => k_is); (case k8 => ktr_room); (case k9 => exact BindsTo.of_eq rfl); (case c5 => decide); (case kB => exact locs rfl); (case c2 => exact rfl); (case c3 => exact rfl); (case c4 => exact rfl); k_whole; intro g'x L'x h'x tk'x F'x N'x B'x X'x T'x l'x hg'x; (try dsimp only); (try k_fold))
  k_with "mz steps" => repeat' (first | (k_unfold; (try dsimp only)) | (walk1; (try dsimp only)) | (dsimp only; walk1) | (dsimp only; k_unfold; (try dsimp only)) | (k_unmd; k_unfold; (try dsimp only)))
  k_with "mz keeps" => first | exact Mz.keeps_nil | (refine Mz.keeps_cons ?_ ?_; (first | (refine Or.inl ?_; k_mem) | exact Or.inr ⟨_, .head _, rfl⟩ | exact Or.inr ⟨_, .tail _ (.head _), rfl⟩ | exact Or.inr ⟨_, .tail _ (.tail _ (.head _)), rfl⟩ | exact Or.inr ⟨_, .tail _ (.tail _ (.tail _ (.head _))), rfl⟩ | exact Or.inr ⟨_, .tail _ (.tail _ (.tail _ (.tail _ (.head _)))), rfl⟩); k_extra "mz keeps")
  k_with "mz:ite" => first | refine Mz.beq_pos (by omega) ?_ | refine Mz.beq_neg (by omega) ?_ | refine Mz.bne_pos (by omega) ?_ | refine Mz.bne_neg (by omega) ?_ | refine Mz.dec_pos (by omega) ?_ | refine Mz.dec_neg (by omega) ?_
  k_with "mz:binaryOp LShift int int" => refine lshift_int_small (by decide) (by decide) (Mz.sh8' (by assumption)) ?_
  k_with "mz:setItem ref int" => (k_here; (with_reducible show wpAny _ _ (setItem (Value.ref _) (Value.int _ _) (Value.int _ _)) _ _ _); k_dflt (refine' Mz.set_at ?k1_6 ?k2_6 ?k3_6 ?k4_6 ?k5_6 ?k6_6 ?k7_6 ?k8_6 ?_; (case k1_6 => k_asm); (case k2_6 => k_asm); (case k3_6 => k_updF); (case k4_6 => with_reducible assumption); (case k5_6 => ksa_idx); (case k6_6 => ksa_idx); (case k7_6 => ksa_idx); (case k8_6 => first | exact Mz.R_s6 | exact Mz.R_s0b | exact Mz.R_s0 | exact rfl); k_whole); intro h'x vs'x F'x N'x hi'x hl'x; (try dsimp only at N'x); (try k_sweep))
  k_with "mz dp" => ((try dsimp only [ktrTop, Around.deeper]); first | exact Mz.dp2 (by with_reducible assumption) rfl | exact Mz.dp1 (by with_reducible assumption) rfl | omega)
  k_with "mz ctx" => ((case cB => k_asm); (case cF => k_asm); (case cX => k_asm); (case cN => k_asm); (case cT => k_asm); (case ck => exact rfl); (case cz => k_extra "mz dp"); (case cu => k_extra "mz dp"))
  k_with "mz ifs" => ((repeat' split) <;> first | with_reducible rfl | (exfalso; first | contradiction | omega))
  k_with "mz rem" => first | (refine' Mz.Rem.head ?a_10; (case a_10 => k_all)) | (refine' Mz.Rem.tail ?a_10 ?b_10; (case a_10 => k_ne); (case b_10 => k_extra "mz rem"))
  k_with "mz len" => first | with_reducible assumption | exact Mz.R_len | with_reducible exact Mz.setPr_len (by k_extra "mz len")
  k_with "mz byt" => first | with_reducible assumption | exact Mz.R_byt (by omega) (by omega) (by omega) | with_reducible exact Mz.setPr_byt (by k_extra "mz byt")
  k_with "mz getL" => first | with_reducible assumption | (refine' Mz.getL_oth ?ga_13 ?gb_13 ?gc_13; (case ga_13 => with_reducible assumption); (case gb_13 => decide +kernel); (case gc_13 => k_extra "mz getL"))
  k_with "mz:getAttr ref" => (k_here; k_dflt (refine' get_own ?k1_14 ?k2_14 ?k3_14 ?k4_14 ?k5_14 ?k6_14 ?k7_14 ?k8_14 ?k9_14 ?_; (case k1_14 => k_asm); (case k2_14 => k_asm); (case k3_14 => k_inst); (case k4_14 => k_is); (case k5_14 => k_is); (case k6_14 => k_is); (case k7_14 => k_is); (case k8_14 => k_extra "mz getL"); (case k9_14 => k_handed); k_whole))
  k_with "mz:setAttr ref" => (k_here; k_dflt (refine' Mz.set_own ?k1_15 ?k2_15 ?k3_15 ?k4_15 ?k5_15 ?k6_15 ?k7_15 ?k8_15 ?k9_15 ?k10_15 ?k11_15 ?k12_15 ?_; (case k1_15 => k_asm); (case k2_15 => k_asm); (case k3_15 => k_asm); (case k4_15 => k_inst); (case k5_15 => exact rfl); (case k6_15 => k_is); (case k7_15 => k_is); (case k8_15 => k_is); (case k9_15 => k_is); (case k10_15 => k_extra "mz getL"); (case k11_15 => first | with_reducible assumption | omega); (case k12_15 => k_extra "mz rem"); k_whole; intro h'x es'x n'x hs'x ho'x hz'x F'x N'x; (try k_sweep)))
  k_with "mz:subscriptTail" => (k_here; (with_reducible show wpAny _ _ (subscriptTail _ _ (Value.ref _) (Value.int _ _)) _ _ _); k_dflt (refine' Mz.sub_at ?k1_16 ?k2_16 ?k3_16 ?k4_16 ?k5_16 ?k6_16 ?k8_16 ?_ ?k7_16; (case k1_16 => k_asm); (case k2_16 => k_mem); (case k3_16 => with_reducible assumption); (case k4_16 => ksa_idx); (case k5_16 => ksa_idx); (case k6_16 => ksa_idx); (case k7_16 => with_unfolding_all rfl); (case k8_16 => first | with_reducible_and_instances exact Mz.R_g0 | with_reducible_and_instances exact Mz.R_g1 | with_reducible_and_instances exact Mz.R_g6 | with_reducible_and_instances exact Mz.R_g7 | exact Mz.R_g0 | exact Mz.R_g1 | exact Mz.R_g6 | exact Mz.R_g7 | exact rfl); k_whole); intro _)
  k_with "mz lt" => first | exact Mz.Lts.lt (by with_reducible assumption) (by k_mem) | with_reducible assumption | exact Mz.lt_s (by k_extra "mz lt")
  k_with "mz and" => first | exact And.left (by with_reducible assumption) | exact And.left (And.right (by with_reducible assumption)) | exact And.left (And.right (And.right (by with_reducible assumption))) | exact And.left (And.right (And.right (And.right (by with_reducible assumption)))) | exact And.left (And.right (And.right (And.right (And.right (by with_reducible assumption))))) | exact And.left (And.right (And.right (And.right (And.right (And.right (by with_reducible assumption)))))) | exact And.left (And.right (And.right (And.right (And.right (And.right (And.right (by with_reducible assumption))))))) | exact And.right (by with_reducible assumption) | exact And.right (And.right (by with_reducible assumption)) | exact And.right (And.right (And.right (by with_reducible assumption))) | exact And.right (And.right (And.right (And.right (by with_reducible assumption)))) | exact And.right (And.right (And.right (And.right (And.right (by with_reducible assumption))))) | exact And.right (And.right (And.right (And.right (And.right (And.right (by with_reducible assumption))))))
  k_with "mz neq" => first | exact Nat.ne_of_lt (Mz.Lts.lt (by with_reducible assumption) (by k_mem)) | exact Nat.ne_of_gt (Mz.Lts.lt (by with_reducible assumption) (by k_mem)) | exact Mz.Nes.ne (by with_reducible assumption) (by k_mem) | exact Ne.symm (Mz.Nes.ne (by with_reducible assumption) (by k_mem)) | exact Nat.ne_of_lt (by with_reducible assumption) | exact Nat.ne_of_gt (by with_reducible assumption) | exact Nat.ne_of_gt (Mz.lt_s (by k_extra "mz lt")) | exact Nat.ne_of_lt (Mz.lt_s (by k_extra "mz lt")) | exact Nat.ne_of_gt (Mz.lt_tr (by with_reducible assumption) (by k_extra "mz lt")) | exact Nat.ne_of_lt (Mz.lt_tr (by with_reducible assumption) (by k_extra "mz lt")) | exact Mz.NeA.out (by k_extra "mz and") | exact Ne.symm (Mz.NeA.out (by k_extra "mz and"))
  k_with "mz all" => first | exact List.forall_mem_nil _ | ((with_reducible refine Mz.all_cons ?_ ?_); (k_ne); (k_extra "mz all")) | exact OwnOff.ne (by assumption) (by k_memK) | exact Mz.all_cons (by k_ne) (by k_extra "mz all")
  k_with "mz ne" => first | with_reducible assumption | exact Mz.NeA.symm (by with_reducible assumption) | exact Mz.NeA.of (by k_extra "mz neq") | exact Mz.NeA.of (by omega)
  k_with "mz nes" => first | (refine And.intro ?_ ?_; (k_extra "mz ne"); (k_extra "mz nes")) | k_extra "mz ne"
  k_with "mz ksa_idx" => ((rw [Mz.R_len]); decide)
  k_with "mz k_ne" => (refine neN ?_; (try dsimp only); first | exact Mz.NeA.out (by with_reducible assumption) | exact Ne.symm (Mz.NeA.out (by with_reducible assumption)) | k_extra "mz neq" | omega)
  k_with "mz k_all" => first | exact Mz.ne_lts (by with_reducible assumption) (by exact rfl) | exact Mz.ne_nes (by with_reducible assumption) (by exact rfl) | k_extra "mz all"
  trivial
namespace Mz
section
variable {w : World} {dp un : Nat} {gd : Option (List Code)} {cn : Str} {cs : Scope} {a : Addr} {ccd : Value} {cl : List (Str × Addr)} {outer : List Env} {A₀ : Around} {base h₀ : Heap} {L : Addr} {m mg mb : Str → Option Value} {mean : ExcName → Option Value}
  {led : List (Addr × Obj)} {s : Shared} {Q E : Value → Shared → Prop}
  (B : Below A₀ base outer h₀) (F : Fr h₀ L s.heap m) (X : (hd.heap_39 w.params).In h₀) (N : News h₀ L s.heap led) (T : Top hd.view_39 LO mean mg mb h₀) (hk : cs.kind = .function) (hz : dp + 10 < 900) (hu : un + 100 < 2000)
include B F X N T hk hz hu

theorem c_pair {c dx rl : Addr} {es : List DictEntry} {n k : Nat} {vs : List Value} {ns : List Int} {p x : Int} {tp : Tok}
    (h1 : (c, instObj 31 dx) ∈ led) (h2 : (dx, dictOf es n) ∈ led) (h3 : (rl, listOf vs.toArray k) ∈ led) (hi : IntsAre vs ns) (hl : ns.length = 8)
    (hr : getL (Str.ofString "r") es = some (some (.ref rl))) (hp : 0 ≤ p ∧ p ≤ 2) (hb : Byt ns) (hx : pr ns p = x)
    (ret : ∀ t h' tk', Fr h₀ L h' m → News h₀ L h' led → Q (.int x t) { s with heap := h', toks := tk' }) :
    wpAny (model PR w) (ktrTop dp un gd cn cs L a ccd cl outer) (call (.ref 70) [.ref c, .int p tp]) Q E s := by
  refine wpAny_call ?_
  k_dflt (refine' code_in (K := hd.heap_39 w.params) (small := [(c, instObj 31 dx), (dx, dictOf es n), (rl, listOf vs.toArray k)]) B F X N T (sub_cons h1 (sub_cons h2 (sub_cons h3 sub_nil))) rfl rfl hk ?k6 ?k7 ?k8 ?k9 ?kB ?_ ?c2 ?c3 ?c4 ?c5)
  k_extra "mz enter"
  have hb1 := hb (2 * p).toNat (by omega)
  have hb2 := hb (2 * p + 1).toNat (by omega)
  k_extra "mz steps"
  refine back_ (by k_asm) (by k_asm) (ups_led N (Ups.none led) (sub_cons h1 (sub_cons h2 (sub_cons h3 sub_nil))) (fun _ h => nomatch h) (by k_extra "mz keeps")) ?_
  intro kF kN
  dsimp only
  rw [or256 hb1.1 hb2]
  subst hx
  exact ret _ _ _ kF kN
end
end Mz

namespace Mz
section
variable {w : World} {dp un : Nat} {gd : Option (List Code)} {cn : Str} {cs : Scope} {a : Addr} {ccd : Value} {cl : List (Str × Addr)} {outer : List Env} {A₀ : Around} {base h₀ : Heap} {L : Addr} {m mg mb : Str → Option Value} {mean : ExcName → Option Value}
  {led : List (Addr × Obj)} {s : Shared} {Q E : Value → Shared → Prop}
  (B : Below A₀ base outer h₀) (F : Fr h₀ L s.heap m) (X : (hd.heap_39 w.params).In h₀) (N : News h₀ L s.heap led) (T : Top hd.view_39 LO mean mg mb h₀) (hk : cs.kind = .function) (hz : dp + 10 < 900) (hu : un + 100 < 2000)
include B F X N T hk hz hu

theorem c_set_pair {c dx rl : Addr} {es : List DictEntry} {n k : Nat} {vs : List Value} {ns : List Int} {p v : Int} {tp tv : Tok} {l1 : List (Addr × Obj)}
    (h1 : (c, instObj 31 dx) ∈ led) (h2 : (dx, dictOf es n) ∈ led) (hi : IntsAre vs ns) (hl : ns.length = 8)
    (hr : getL (Str.ofString "r") es = some (some (.ref rl))) (hp : 0 ≤ p ∧ p ≤ 2) (hne : NeA rl c ∧ NeA rl dx) (V : Rem rl (listOf vs.toArray k) led l1)
    (ret : ∀ vs' h' tk', IntsAre vs' (setPr ns p v) → Fr h₀ L h' m → News h₀ L h' ((rl, listOf vs'.toArray k) :: l1) → Q .none { s with heap := h', toks := tk' }) :
    wpAny (model PR w) (ktrTop dp un gd cn cs L a ccd cl outer) (call (.ref 77) [.ref c, .int p tp, .int v tv]) Q E s := by
  have h3 := V.mem
  obtain ⟨n1, n2⟩ := hne
  refine wpAny_call ?_
  k_dflt (refine' code_in (K := hd.heap_39 w.params) (small := [(c, instObj 31 dx), (dx, dictOf es n), (rl, listOf vs.toArray k)]) B F X N T (sub_cons h1 (sub_cons h2 (sub_cons h3 sub_nil))) rfl rfl hk ?k6 ?k7 ?k8 ?k9 ?kB ?_ ?c2 ?c3 ?c4 ?c5)
  k_extra "mz enter"
  k_extra "mz steps"
  (with_reducible rename IntsAre _ (List.set (List.set _ _ _) _ _) => hi9)
  rw [b8, bitAnd_m8] at hi9
  refine back_ (by k_asm) (by k_asm) (ups_led N (Ups.rem1 V) (sub_cons h1 (sub_cons h2 (sub_cons h3 sub_nil))) (one_mem (by k_mem)) (by k_extra "mz keeps")) ?_
  intro kF kN
  exact ret _ _ _ hi9 kF kN

theorem c_peek {mm : Addr} {k : Nat} {vs : List Value} {ns : List Int} {p : Int} {tp : Tok}
    (h3 : (mm, listOf vs.toArray k) ∈ led) (hi : IntsAre vs ns) (hl : ns.length = 64) (hp : 0 ≤ p ∧ p < 2 ^ 62)
    (ret : ∀ t h' tk', Fr h₀ L h' m → News h₀ L h' led → Q (.int (ns.getD (p % 64).toNat 0) t) { s with heap := h', toks := tk' }) :
    wpAny (model PR w) (ktrTop dp un gd cn cs L a ccd cl outer) (call (.ref 84) [.ref mm, .int p tp]) Q E s := by
  refine wpAny_call ?_
  k_dflt (refine' code_in (K := hd.heap_39 w.params) (small := [(mm, listOf vs.toArray k)]) B F X N T (sub_cons h3 sub_nil) rfl rfl hk ?k6 ?k7 ?k8 ?k9 ?kB ?_ ?c2 ?c3 ?c4 ?c5)
  k_extra "mz enter"
  k_extra "mz steps"
  refine back_ (by k_asm) (by k_asm) (ups_led N (Ups.none led) (sub_cons h3 sub_nil) (fun _ h => nomatch h) (by k_extra "mz keeps")) ?_
  intro kF kN
  dsimp only
  rw [fmod_len hl]
  exact ret _ _ _ kF kN

theorem c_poke {mm : Addr} {k : Nat} {vs : List Value} {ns : List Int} {p v : Int} {tp tv : Tok} {l1 : List (Addr × Obj)}
    (hi : IntsAre vs ns) (hl : ns.length = 64) (hp : 0 ≤ p ∧ p < 2 ^ 62) (V : Rem mm (listOf vs.toArray k) led l1)
    (ret : ∀ vs' h' tk', IntsAre vs' (ns.set (p % 64).toNat (v % 256)) → Fr h₀ L h' m → News h₀ L h' ((mm, listOf vs'.toArray k) :: l1) → Q .none { s with heap := h', toks := tk' }) :
    wpAny (model PR w) (ktrTop dp un gd cn cs L a ccd cl outer) (call (.ref 91) [.ref mm, .int p tp, .int v tv]) Q E s := by
  have h3 := V.mem
  refine wpAny_call ?_
  k_dflt (refine' code_in (K := hd.heap_39 w.params) (small := [(mm, listOf vs.toArray k)]) B F X N T (sub_cons h3 sub_nil) rfl rfl hk ?k6 ?k7 ?k8 ?k9 ?kB ?_ ?c2 ?c3 ?c4 ?c5)
  k_extra "mz enter"
  k_extra "mz steps"
  (with_reducible rename IntsAre _ (List.set _ _ _) => hi9)
  rw [fmod_len hl, bitAnd_m8] at hi9
  refine back_ (by k_asm) (by k_asm) (ups_led N (Ups.rem1 V) (sub_cons h3 sub_nil) (one_mem (by k_mem)) (by k_extra "mz keeps")) ?_
  intro kF kN
  exact ret _ _ _ hi9 kF kN
end
end Mz

namespace Mz
section
variable {w : World} {dp un : Nat} {gd : Option (List Code)} {cn : Str} {cs : Scope} {a : Addr} {ccd : Value} {cl : List (Str × Addr)} {outer : List Env} {A₀ : Around} {base h₀ : Heap} {L : Addr} {m mg mb : Str → Option Value} {mean : ExcName → Option Value}
  {led : List (Addr × Obj)} {s : Shared} {Q E : Value → Shared → Prop}
  (B : Below A₀ base outer h₀) (F : Fr h₀ L s.heap m) (X : (hd.heap_39 w.params).In h₀) (N : News h₀ L s.heap led) (T : Top hd.view_39 LO mean mg mb h₀) (hk : cs.kind = .function) (hz : dp + 10 < 900) (hu : un + 100 < 2000)
include B F X N T hk hz hu
theorem c_parity {v : Int} {tv : Tok}
    (ret : ∀ t h' tk', Fr h₀ L h' m → News h₀ L h' led → Q (.int (parF v) t) { s with heap := h', toks := tk' }) :
    wpAny (model PR w) (ktrTop dp un gd cn cs L a ccd cl outer) (call (.ref 147) [.int v tv]) Q E s := by
  refine wpAny_call ?_
  k_dflt (refine' code_in (K := hd.heap_39 w.params) (small := []) B F X N T sub_nil rfl rfl hk ?k6 ?k7 ?k8 ?k9 ?kB ?_ ?c2 ?c3 ?c4 ?c5)
  k_extra "mz enter"
  k_extra "mz steps"
  all_goals
    refine back_ (by k_asm) (by k_asm) (ups_led N (Ups.none led) sub_nil (fun _ h => nomatch h) (by k_extra "mz keeps")) ?_
    intro kF kN
  · exact retI (if_pos (by assumption)) (ret _ _ _ kF kN)
  · exact retI (if_neg (fun h => h (by assumption))) (ret _ _ _ kF kN)
theorem c_szyx {v : Int} {tv : Tok}
    (ret : ∀ t h' tk', Fr h₀ L h' m → News h₀ L h' led → Q (.int (szF v) t) { s with heap := h', toks := tk' }) :
    wpAny (model PR w) (ktrTop dp un gd cn cs L a ccd cl outer) (call (.ref 154) [.int v tv]) Q E s := by
  refine wpAny_call ?_
  k_dflt (refine' code_in (K := hd.heap_39 w.params) (small := []) B F X N T sub_nil rfl rfl hk ?k6 ?k7 ?k8 ?k9 ?kB ?_ ?c2 ?c3 ?c4 ?c5)
  k_extra "mz enter"
  k_extra "mz steps"
  all_goals
    refine back_ (by k_asm) (by k_asm) (ups_led N (Ups.none led) sub_nil (fun _ h => nomatch h) (by k_extra "mz keeps")) ?_
    intro kF kN
  · exact retI (by unfold szF; rw [if_pos (by assumption)]) (ret _ _ _ kF kN)
  · exact retI (by unfold szF; rw [if_neg (by assumption)]) (ret _ _ _ kF kN)
theorem c_move_flags {x v l f : Int} {tx tv tl tf : Tok}
    (ret : ∀ t h' tk', Fr h₀ L h' m → News h₀ L h' led → Q (.int (mvF x v l f) t) { s with heap := h', toks := tk' }) :
    wpAny (model PR w) (ktrTop dp un gd cn cs L a ccd cl outer) (call (.ref 231) [.int x tx, .int v tv, .int l tl, .int f tf]) Q E s := by
  refine wpAny_call ?_
  k_dflt (refine' code_in (K := hd.heap_39 w.params) (small := []) B F X N T sub_nil rfl rfl hk ?k6 ?k7 ?k8 ?k9 ?kB ?_ ?c2 ?c3 ?c4 ?c5)
  k_extra "mz enter"
  k_extra "mz steps"
  all_goals
    refine back_ (by k_asm) (by k_asm) (ups_led N (Ups.none led) sub_nil (fun _ h => nomatch h) (by k_extra "mz keeps")) ?_
    intro kF kN
    refine retI ?_ (ret _ _ _ kF kN)
    unfold mvF
    k_extra "mz ifs"
end
end Mz

section
example : True := by
  k_with "mz:call ref" => (k_here; (with_reducible show wpAny _ _ (call (Value.ref 154) _) _ _ _); k_dflt (refine' Mz.c_szyx ?cB ?cF ?cX ?cN ?cT ?ck ?cz ?cu ?_; k_extra "mz ctx"; k_whole); intro t9x h9x tk9x F9x N9x; (try dsimp only); (try k_sweep))
  k_with "mz:call ref" => (k_here; (with_reducible show wpAny _ _ (call (Value.ref 147) _) _ _ _); k_dflt (refine' Mz.c_parity ?cB ?cF ?cX ?cN ?cT ?ck ?cz ?cu ?_; k_extra "mz ctx"; k_whole); intro t9x h9x tk9x F9x N9x; (try dsimp only); (try k_sweep))
  trivial
namespace Mz
section
variable {w : World} {dp un : Nat} {gd : Option (List Code)} {cn : Str} {cs : Scope} {a : Addr} {ccd : Value} {cl : List (Str × Addr)} {outer : List Env} {A₀ : Around} {base h₀ : Heap} {L : Addr} {m mg mb : Str → Option Value} {mean : ExcName → Option Value}
  {led : List (Addr × Obj)} {s : Shared} {Q E : Value → Shared → Prop}
  (B : Below A₀ base outer h₀) (F : Fr h₀ L s.heap m) (X : (hd.heap_39 w.params).In h₀) (N : News h₀ L s.heap led) (T : Top hd.view_39 LO mean mg mb h₀) (hk : cs.kind = .function) (hz : dp + 11 < 900) (hu : un + 110 < 2000)
include B F X N T hk hz hu
theorem c_sub8 {x v l : Int} {tx tv tl : Tok}
    (ret : ∀ q t1 t2 h' tk', (∀ p ∈ led, p.1 ≠ q) → Fr h₀ L h' m → News h₀ L h' ((q, tupO [.int (sbR x v l) t1, .int (sbF x v l) t2]) :: led) → Q (.ref q) { s with heap := h', toks := tk' }) :
    wpAny (model PR w) (ktrTop dp un gd cn cs L a ccd cl outer) (call (.ref 161) [.int x tx, .int v tv, .int l tl]) Q E s := by
  refine wpAny_call ?_
  k_dflt (refine' code_in (K := hd.heap_39 w.params) (small := []) B F X N T sub_nil rfl rfl hk ?k6 ?k7 ?k8 ?k9 ?kB ?_ ?c2 ?c3 ?c4 ?c5)
  k_extra "mz enter"
  k_extra "mz steps"
  all_goals
    (with_reducible rename News _ _ _ [_] => N9)
    have N8 := newsTup (y := sbF x v l) (by unfold sbF; k_extra "mz ifs") N9
    have hne := new_ne (led := led) (small := []) (by assumption) N8 (.head _) (fun _ h => nomatch h)
    refine back_ (by k_asm) N8 (ups_led N (Ups.new (Ups.none led) hne) sub_nil (one_mem (by k_mem)) (by k_extra "mz keeps")) ?_
    intro kF kN
    exact ret _ _ _ _ _ hne kF kN
end
end Mz

example : True := by
  k_with "mz:call ref" => (k_here; (with_reducible show wpAny _ _ (call (Value.ref 161) _) _ _ _); k_dflt (refine' Mz.c_sub8 ?cB ?cF ?cX ?cN ?cT ?ck ?cz ?cu ?_; k_extra "mz ctx"; k_whole); intro q9x t19x t29x h9x tk9x o9x F9x N9x; (replace o9x := Mz.nes_of o9x); (try dsimp only [List.map] at o9x); (try dsimp only); (try k_sweep))
  trivial
namespace Mz
section
variable {w : World} {dp un : Nat} {gd : Option (List Code)} {cn : Str} {cs : Scope} {a : Addr} {ccd : Value} {cl : List (Str × Addr)} {outer : List Env} {A₀ : Around} {base h₀ : Heap} {L : Addr} {m mg mb : Str → Option Value} {mean : ExcName → Option Value}
  {led : List (Addr × Obj)} {s : Shared} {Q E : Value → Shared → Prop}
  (B : Below A₀ base outer h₀) (F : Fr h₀ L s.heap m) (X : (hd.heap_39 w.params).In h₀) (N : News h₀ L s.heap led) (T : Top hd.view_39 LO mean mg mb h₀) (hk : cs.kind = .function) (hz : dp + 12 < 900) (hu : un + 120 < 2000)
include B F X N T hk hz hu
theorem c_seek_flags {x v l f : Int} {tx tv tl tf : Tok}
    (ret : ∀ t h' tk', Fr h₀ L h' m → News h₀ L h' led → Q (.int (skF x v l f) t) { s with heap := h', toks := tk' }) :
    wpAny (model PR w) (ktrTop dp un gd cn cs L a ccd cl outer) (call (.ref 238) [.int x tx, .int v tv, .int l tl, .int f tf]) Q E s := by
  refine wpAny_call ?_
  k_dflt (refine' code_in (K := hd.heap_39 w.params) (small := []) B F X N T sub_nil rfl rfl hk ?k6 ?k7 ?k8 ?k9 ?kB ?_ ?c2 ?c3 ?c4 ?c5)
  k_extra "mz enter"
  k_extra "mz steps"
  all_goals
    refine back_ (by k_asm) (by k_asm) (ups_led N (Ups.none led) sub_nil (fun _ h => nomatch h) (by k_extra "mz keeps")) ?_
    intro kF kN
    refine retI ?_ (ret _ _ _ kF kN)
    unfold skF
    first | rw [skT_1 (by with_reducible assumption)] | rw [skT_0 (by with_reducible assumption)]
    k_extra "mz ifs"
theorem c_port_flags {x v l : Int} {tx tv tl : Tok}
    (ret : ∀ t h' tk', Fr h₀ L h' m → News h₀ L h' led → Q (.int (ptF x v l) t) { s with heap := h', toks := tk' }) :
    wpAny (model PR w) (ktrTop dp un gd cn cs L a ccd cl outer) (call (.ref 245) [.int x tx, .int v tv, .int l tl]) Q E s := by
  refine wpAny_call ?_
  k_dflt (refine' code_in (K := hd.heap_39 w.params) (small := []) B F X N T sub_nil rfl rfl hk ?k6 ?k7 ?k8 ?k9 ?kB ?_ ?c2 ?c3 ?c4 ?c5)
  k_extra "mz enter"
  k_extra "mz steps"
  all_goals
    refine back_ (by k_asm) (by k_asm) (ups_led N (Ups.none led) sub_nil (fun _ h => nomatch h) (by k_extra "mz keeps")) ?_
    intro kF kN
    refine retI ?_ (ret _ _ _ kF kN)
    unfold ptF
    k_extra "mz ifs"
end
end Mz

example : True := by
  k_with "mz:call ref" => (k_here; (with_reducible show wpAny _ _ (call (Value.ref 70) _) _ _ _); k_dflt (refine' Mz.c_pair ?cB ?cF ?cX ?cN ?cT ?ck ?cz ?cu ?h1_26 ?h2_26 ?h3_26 ?hi_26 ?hl_26 ?hr_26 ?hp_26 ?hb_26 ?hx_26 ?_; k_extra "mz ctx"; (case hr_26 => k_extra "mz getL"); (case h1_26 => k_mem); (case h2_26 => k_mem); (case h3_26 => k_mem); (case hi_26 => with_reducible assumption); (case hl_26 => k_extra "mz len"); (case hp_26 => omega); (case hb_26 => k_extra "mz byt"); (case hx_26 => first | exact Mz.prR0 | exact Mz.prR1 | exact Mz.prR2 | exact rfl); k_whole); intro t9x h9x tk9x F9x N9x; (try dsimp only); (try k_sweep))
  k_with "mz:call ref" => (k_here; (with_reducible show wpAny _ _ (call (Value.ref 77) _) _ _ _); k_dflt (refine' Mz.c_set_pair ?cB ?cF ?cX ?cN ?cT ?ck ?cz ?cu ?h1_27 ?h2_27 ?hi_27 ?hl_27 ?hr_27 ?hp_27 ?hne_27 ?V_27 ?_; k_extra "mz ctx"; (case hr_27 => with_reducible assumption); (case h1_27 => k_mem); (case h2_27 => k_mem); (case V_27 => k_extra "mz rem"); (case hi_27 => with_reducible assumption); (case hl_27 => k_extra "mz len"); (case hp_27 => omega); (case hne_27 => k_extra "mz nes"); k_whole); intro vs9x h9x tk9x hi9x F9x N9x; (try dsimp only); (try k_sweep))
  k_with "mz:call ref" => (k_here; (with_reducible show wpAny _ _ (call (Value.ref 84) _) _ _ _); k_dflt (refine' Mz.c_peek ?cB ?cF ?cX ?cN ?cT ?ck ?cz ?cu ?h3_28 ?hi_28 ?hl_28 ?hp_28 ?_; k_extra "mz ctx"; (case h3_28 => k_mem); (case hi_28 => with_reducible assumption); (case hl_28 => with_reducible assumption); (case hp_28 => omega); k_whole); intro t9x h9x tk9x F9x N9x; (try dsimp only); (try k_sweep))
  k_with "mz:call ref" => (k_here; (with_reducible show wpAny _ _ (call (Value.ref 91) _) _ _ _); k_dflt (refine' Mz.c_poke ?cB ?cF ?cX ?cN ?cT ?ck ?cz ?cu ?hi_29 ?hl_29 ?hp_29 ?V_29 ?_; k_extra "mz ctx"; (case V_29 => k_extra "mz rem"); (case hi_29 => with_reducible assumption); (case hl_29 => with_reducible assumption); (case hp_29 => omega); k_whole); intro vs9x h9x tk9x hi9x F9x N9x; (try dsimp only); (try k_sweep))
  trivial
namespace Mz
section
variable {w : World} {dp un : Nat} {gd : Option (List Code)} {cn : Str} {cs : Scope} {a : Addr} {ccd : Value} {cl : List (Str × Addr)} {outer : List Env} {A₀ : Around} {base h₀ : Heap} {L : Addr} {m mg mb : Str → Option Value} {mean : ExcName → Option Value}
  {led : List (Addr × Obj)} {s : Shared} {Q E : Value → Shared → Prop}
  (B : Below A₀ base outer h₀) (F : Fr h₀ L s.heap m) (X : (hd.heap_39 w.params).In h₀) (N : News h₀ L s.heap led) (T : Top hd.view_39 LO mean mg mb h₀) (hk : cs.kind = .function) (hz : dp + 11 < 900) (hu : un + 110 < 2000)
include B F X N T hk hz hu

theorem c_lead {c dx rl : Addr} {es : List DictEntry} {n k : Nat} {vs : List Value} {ns ns' : List Int} {p st x : Int} {tp ts : Tok} {l1 : List (Addr × Obj)}
    (h1 : (c, instObj 31 dx) ∈ led) (h2 : (dx, dictOf es n) ∈ led) (hi : IntsAre vs ns) (hl : ns.length = 8)
    (hr : getL (Str.ofString "r") es = some (some (.ref rl))) (hp : 0 ≤ p ∧ p ≤ 2) (hne : NeA rl c ∧ NeA rl dx) (V : Rem rl (listOf vs.toArray k) led l1) (hb : Byt ns)
    (hx : pr ns p = x) (hs : setPr ns p ((x + st) % 65536) = ns')
    (ret : ∀ t vs' h' tk', IntsAre vs' ns' → Fr h₀ L h' m → News h₀ L h' ((rl, listOf vs'.toArray k) :: l1) → Q (.int ((x + st) % 65536) t) { s with heap := h', toks := tk' }) :
    wpAny (model PR w) (ktrTop dp un gd cn cs L a ccd cl outer) (call (.ref 296) [.ref c, .int p tp, .int st ts]) Q E s := by
  have h3 := V.mem
  obtain ⟨n1, n2⟩ := hne
  refine wpAny_call ?_
  k_dflt (refine' code_in (K := hd.heap_39 w.params) (small := [(c, instObj 31 dx), (dx, dictOf es n), (rl, listOf vs.toArray k)]) B F X N T (sub_cons h1 (sub_cons h2 (sub_cons h3 sub_nil))) rfl rfl hk ?k6 ?k7 ?k8 ?k9 ?kB ?_ ?c2 ?c3 ?c4 ?c5)
  k_extra "mz enter"
  k_extra "mz steps"
  (with_reducible rename IntsAre _ (setPr _ _ _) => hi8)
  rw [bitAnd_m16] at hi8
  have e1 : (pr ns p + st) % 65536 = (x + st) % 65536 := by rw [hx]
  rw [e1, hs] at hi8
  refine back_ (by k_asm) (by k_asm) (ups_led N (Ups.rem1 V) (sub_cons h1 (sub_cons h2 (sub_cons h3 sub_nil))) (one_mem (by k_mem)) (by k_extra "mz keeps")) ?_
  intro kF kN
  refine retI ?_ (ret _ _ _ _ hi8 kF kN)
  rw [bitAnd_m16, pr_setPr hl hp (md16 _), hx]

theorem c_port_in {p dp' il : Addr} {es : List DictEntry} {n k : Nat} {vs : List Value} {ns : List Int} {num at_ : Int} {tn ta : Tok} {l1 : List (Addr × Obj)}
    (h1 : (p, instObj 52 dp') ∈ led) (h3 : (il, listOf vs.toArray k) ∈ led) (hi : IntsAre vs ns) (hl : 0 < ns.length ∧ ns.length ≤ 8) (hz1 : es.length ≤ 100) (hne : NeA dp' p ∧ NeA dp' il)
    (hr : getL (Str.ofString "ins") es = some (some (.ref il))) (ha : getL (Str.ofString "at") es = some (some (.int at_ ta))) (h0 : 0 ≤ at_ ∧ at_ < 2 ^ 60)
    (V : Rem dp' (dictOf es n) led l1)
    (ret : ∀ t es' n' h' tk' t2, es'.length ≤ 100 → (∀ y, y ≠ Str.ofString "at" → getL y es' = getL y es) → getL (Str.ofString "ins") es' = some (some (.ref il)) → getL (Str.ofString "at") es' = some (some (.int (at_ + 1) t2)) → Fr h₀ L h' m → News h₀ L h' ((dp', dictOf es' n') :: l1) → Q (.int (ns.getD (at_ % ns.length).toNat 0 % 256) t) { s with heap := h', toks := tk' }) :
    wpAny (model PR w) (ktrTop dp un gd cn cs L a ccd cl outer) (call (.ref 133) [.ref p, .int num tn]) Q E s := by
  have h2 := V.mem
  obtain ⟨n1, n2⟩ := hne
  refine wpAny_call ?_
  k_dflt (refine' code_in (K := hd.heap_39 w.params) (small := [(p, instObj 52 dp'), (dp', dictOf es n), (il, listOf vs.toArray k)]) B F X N T (sub_cons h1 (sub_cons h2 (sub_cons h3 sub_nil))) rfl rfl hk ?k6 ?k7 ?k8 ?k9 ?kB ?_ ?c2 ?c3 ?c4 ?c5)
  k_extra "mz enter"
  k_extra "mz steps"
  have e1 : getL (Str.ofString "ins") _ = _ := getL_oth (by with_reducible assumption) (by decide +kernel) hr
  refine back_ (by k_asm) (by k_asm) (ups_led N (Ups.rem1 V) (sub_cons h1 (sub_cons h2 (sub_cons h3 sub_nil))) (one_mem (by k_mem)) (by k_extra "mz keeps")) ?_
  intro kF kN
  refine retI ?_ (ret _ _ _ _ _ _ (by with_reducible assumption) (by with_reducible assumption) e1 (by with_reducible assumption) kF kN)
  rw [bitAnd_m8, Int.fmod_eq_emod_of_nonneg at_ (by omega)]

theorem c_port_out {p dp' ol : Addr} {es : List DictEntry} {n k : Nat} {vs : List Value} {num oct : Int} {tn to : Tok} {l1 : List (Addr × Obj)}
    (h1 : (p, instObj 52 dp') ∈ led) (h2 : (dp', dictOf es n) ∈ led) (hl : vs.length ≤ 1000)
    (hr : getL (Str.ofString "outs") es = some (some (.ref ol))) (hne : NeA ol p ∧ NeA ol dp')
    (V : Rem ol (listOf vs.toArray k) led l1)
    (ret : ∀ q t1 t2 h' tk' k', (∀ p ∈ led, p.1 ≠ q) → Fr h₀ L h' m → News h₀ L h' ((ol, listOf (vs ++ [Value.ref q]).toArray k') :: (q, tupO [.int (num % 256) t1, .int (oct % 256) t2]) :: l1) → Q .none { s with heap := h', toks := tk' }) :
    wpAny (model PR w) (ktrTop dp un gd cn cs L a ccd cl outer) (call (.ref 140) [.ref p, .int num tn, .int oct to]) Q E s := by
  have h3 := V.mem
  obtain ⟨n1, n2⟩ := hne
  refine wpAny_call ?_
  k_dflt (refine' code_in (K := hd.heap_39 w.params) (small := [(p, instObj 52 dp'), (dp', dictOf es n), (ol, listOf vs.toArray k)]) B F X N T (sub_cons h1 (sub_cons h2 (sub_cons h3 sub_nil))) rfl rfl hk ?k6 ?k7 ?k8 ?k9 ?kB ?_ ?c2 ?c3 ?c4 ?c5)
  k_extra "mz enter"
  k_extra "mz steps"
  first
    | (with_reducible rename News _ _ _ ((_, _) :: _ :: _ :: (_, listOf (Array.push _ _) _) :: _) => N9)
    | (with_reducible rename News _ _ _ ((_, _) :: _ :: _ :: (_, listOf _ _) :: _) => N9)
    | (with_reducible rename News _ _ _ _ => N9)
  (try simp only [List.push_toArray] at N9)
  simp only [bitAnd_m8] at N9
  have hnew := new_ne (led := led) (by assumption) N9 (.head _) (ne_lts (by with_reducible assumption) (by exact rfl))
  refine back_ (by k_asm) N9 (ups_led N (Ups.rem1new V hnew) (sub_cons h1 (sub_cons h2 (sub_cons h3 sub_nil))) (two_mem (by k_mem) (by k_mem)) (by k_extra "mz keeps")) ?_
  intro kF kN
  exact ret _ _ _ _ _ _ hnew kF kN
end
end Mz

example : True := by
  k_with "mz:call ref" => (k_here; (with_reducible show wpAny _ _ (call (Value.ref 231) _) _ _ _); k_dflt (refine' Mz.c_move_flags ?cB ?cF ?cX ?cN ?cT ?ck ?cz ?cu ?_; k_extra "mz ctx"; k_whole); intro t9x h9x tk9x F9x N9x; (try dsimp only); (try k_sweep))
  k_with "mz:call ref" => (k_here; (with_reducible show wpAny _ _ (call (Value.ref 238) _) _ _ _); k_dflt (refine' Mz.c_seek_flags ?cB ?cF ?cX ?cN ?cT ?ck ?cz ?cu ?_; k_extra "mz ctx"; k_whole); intro t9x h9x tk9x F9x N9x; (try dsimp only); (try k_sweep))
  k_with "mz:call ref" => (k_here; (with_reducible show wpAny _ _ (call (Value.ref 245) _) _ _ _); k_dflt (refine' Mz.c_port_flags ?cB ?cF ?cX ?cN ?cT ?ck ?cz ?cu ?_; k_extra "mz ctx"; k_whole); intro t9x h9x tk9x F9x N9x; (try dsimp only); (try k_sweep))
  k_with "mz:call ref" => (k_here; (with_reducible show wpAny _ _ (call (Value.ref 296) _) _ _ _); k_dflt (refine' Mz.c_lead ?cB ?cF ?cX ?cN ?cT ?ck ?cz ?cu ?h1_36 ?h2_36 ?hi_36 ?hl_36 ?hr_36 ?hp_36 ?hne_36 ?V_36 ?hb_36 ?hx_36 ?hs_36 ?_; k_extra "mz ctx"; (case hr_36 => k_extra "mz getL"); (case h1_36 => k_mem); (case h2_36 => k_mem); (case V_36 => k_extra "mz rem"); (case hi_36 => with_reducible assumption); (case hl_36 => k_extra "mz len"); (case hp_36 => omega); (case hne_36 => k_extra "mz nes"); (case hb_36 => k_extra "mz byt"); (case hx_36 => first | exact Mz.prR0 | exact Mz.prR1 | exact Mz.prR2); (case hs_36 => first | exact Mz.setR0 (Mz.md16 _) | exact Mz.setR1 (Mz.md16 _) | exact Mz.setR2 (Mz.md16 _)); k_whole); intro t9x vs9x h9x tk9x hi9x F9x N9x; (try dsimp only); (try k_sweep))
  k_with "mz:call ref" => (k_here; (with_reducible show wpAny _ _ (call (Value.ref 133) _) _ _ _); k_dflt (refine' Mz.c_port_in ?cB ?cF ?cX ?cN ?cT ?ck ?cz ?cu ?h1_37 ?h3_37 ?hi_37 ?hl_37 ?hz1_37 ?hne_37 ?hr_37 ?ha_37 ?h0_37 ?V_37 ?_; k_extra "mz ctx"; (case hr_37 => k_extra "mz getL"); (case ha_37 => k_extra "mz getL"); (case h1_37 => k_mem); (case h3_37 => k_mem); (case hi_37 => with_reducible assumption); (case V_37 => k_extra "mz rem"); (case hl_37 => omega); (case hz1_37 => first | with_reducible assumption | omega); (case hne_37 => k_extra "mz nes"); (case h0_37 => omega); k_whole); intro t9x es9x n9x h9x tk9x t29x z9x go9x g9x g8x F9x N9x; (try dsimp only); (try k_sweep))
  k_with "mz:call ref" => (k_here; (with_reducible show wpAny _ _ (call (Value.ref 140) _) _ _ _); k_dflt (refine' Mz.c_port_out ?cB ?cF ?cX ?cN ?cT ?ck ?cz ?cu ?h1_38 ?h2_38 ?hl_38 ?hr_38 ?hne_38 ?V_38 ?_; k_extra "mz ctx"; (case hr_38 => k_extra "mz getL"); (case h1_38 => k_mem); (case h2_38 => k_mem); (case V_38 => k_extra "mz rem"); (case hl_38 => omega); (case hne_38 => k_extra "mz nes"); k_whole); intro q9x t19x t29x h9x tk9x k9x o9x F9x N9x; (replace o9x := Mz.nes_of o9x); (try dsimp only [List.map] at o9x); (try dsimp only); (try k_sweep))
  trivial
namespace Mz
section
variable {w : World} {dp un : Nat} {gd : Option (List Code)} {cn : Str} {cs : Scope} {a : Addr} {ccd : Value} {cl : List (Str × Addr)} {outer : List Env} {A₀ : Around} {base h₀ : Heap} {L : Addr} {m mg mb : Str → Option Value} {mean : ExcName → Option Value}
  {led : List (Addr × Obj)} {s : Shared} {Q E : Value → Shared → Prop}
  (B : Below A₀ base outer h₀) (F : Fr h₀ L s.heap m) (X : (hd.heap_39 w.params).In h₀) (N : News h₀ L s.heap led) (T : Top hd.view_39 LO mean mg mb h₀) (hk : cs.kind = .function) (hz : dp + 13 < 900) (hu : un + 130 < 2000)
include B F X N T hk hz hu

theorem c_move_one {c dx rl mm : Addr} {es : List DictEntry} {n k km : Nat} {vs mv : List Value} {ms : List Int} {bc de hl f av st : Int} {ts : Tok} {l1 l2 : List (Addr × Obj)}
    (h1 : (c, instObj 31 dx) ∈ led) (h2 : (dx, dictOf es n) ∈ led) (hi : IntsAre vs (R bc de hl f av)) (hm : IntsAre mv ms) (hml : ms.length = 64) (hmb : ∀ x ∈ ms, 0 ≤ x ∧ x < 256)
    (hbc : 0 ≤ bc ∧ bc < 65536) (hde : 0 ≤ de ∧ de < 65536) (hhl : 0 ≤ hl ∧ hl < 65536)
    (hr : getL (Str.ofString "r") es = some (some (.ref rl))) (hne : NeA rl c ∧ NeA rl dx ∧ NeA mm c ∧ NeA mm dx ∧ NeA mm rl)
    (V1 : Rem rl (listOf vs.toArray k) led l1) (V2 : Rem mm (listOf mv.toArray km) l1 l2)
    (ret : ∀ vs' mv' h' tk', IntsAre vs' (R ((bc + -1) % 65536) ((de + st) % 65536) ((hl + st) % 65536) (mvF av (ms.getD (hl % 64).toNat 0) ((bc + -1) % 65536) f) av) →
      IntsAre mv' (ms.set (de % 64).toNat (ms.getD (hl % 64).toNat 0)) → Fr h₀ L h' m → News h₀ L h' ((rl, listOf vs'.toArray k) :: (mm, listOf mv'.toArray km) :: l2) → Q (.bool ((bc + -1) % 65536 != 0)) { s with heap := h', toks := tk' }) :
    wpAny (model PR w) (ktrTop dp un gd cn cs L a ccd cl outer) (call (.ref 303) [.ref c, .ref mm, .int st ts]) Q E s := by
  have h3 := V1.mem
  have h4 := (V1.sub _ V2.mem).1
  obtain ⟨n1, n2, n3, n4, n5⟩ := hne
  refine wpAny_call ?_
  k_dflt (refine' code_in (K := hd.heap_39 w.params) (small := [(c, instObj 31 dx), (dx, dictOf es n), (rl, listOf vs.toArray k), (mm, listOf mv.toArray km)]) B F X N T (sub_cons h1 (sub_cons h2 (sub_cons h3 (sub_cons h4 sub_nil)))) rfl rfl hk ?k6 ?k7 ?k8 ?k9 ?kB ?_ ?c2 ?c3 ?c4 ?c5)
  k_extra "mz enter"
  k_extra "mz steps"
  (with_reducible rename IntsAre _ (R _ _ _ (mvF _ _ _ _) _) => hi8)
  (with_reducible rename IntsAre _ (List.set _ _ _) => hm8)
  rw [byte_at hmb] at hm8
  refine back_ (by k_asm) (by k_asm) (ups_led N (Ups.rem2 V1 V2) (sub_cons h1 (sub_cons h2 (sub_cons h3 (sub_cons h4 sub_nil)))) (two_mem (by k_mem) (by k_mem)) (by k_extra "mz keeps")) ?_
  intro kF kN
  exact ret _ _ _ _ hi8 hm8 kF kN
end
end Mz

namespace Mz
section
variable {w : World} {dp un : Nat} {gd : Option (List Code)} {cn : Str} {cs : Scope} {a : Addr} {ccd : Value} {cl : List (Str × Addr)} {outer : List Env} {A₀ : Around} {base h₀ : Heap} {L : Addr} {m mg mb : Str → Option Value} {mean : ExcName → Option Value}
  {led : List (Addr × Obj)} {s : Shared} {Q E : Value → Shared → Prop}
  (B : Below A₀ base outer h₀) (F : Fr h₀ L s.heap m) (X : (hd.heap_39 w.params).In h₀) (N : News h₀ L s.heap led) (T : Top hd.view_39 LO mean mg mb h₀) (hk : cs.kind = .function) (hz : dp + 13 < 900) (hu : un + 130 < 2000)
include B F X N T hk hz hu

theorem c_seek_one {c dx rl mm : Addr} {es : List DictEntry} {n k km : Nat} {vs mv : List Value} {ms : List Int} {bc de hl f av st : Int} {ts : Tok} {l1 : List (Addr × Obj)}
    (h1 : (c, instObj 31 dx) ∈ led) (h2 : (dx, dictOf es n) ∈ led) (h4 : (mm, listOf mv.toArray km) ∈ led) (hi : IntsAre vs (R bc de hl f av)) (hm : IntsAre mv ms) (hml : ms.length = 64)
    (hbc : 0 ≤ bc ∧ bc < 65536) (hde : 0 ≤ de ∧ de < 65536) (hhl : 0 ≤ hl ∧ hl < 65536)
    (hr : getL (Str.ofString "r") es = some (some (.ref rl))) (hne : NeA rl c ∧ NeA rl dx ∧ NeA rl mm)
    (V1 : Rem rl (listOf vs.toArray k) led l1)
    (ret : ∀ vs' h' tk', IntsAre vs' (R ((bc + -1) % 65536) de ((hl + st) % 65536) (skF av (ms.getD (hl % 64).toNat 0) ((bc + -1) % 65536) f) av) →
      Fr h₀ L h' m → News h₀ L h' ((rl, listOf vs'.toArray k) :: l1) → Q (.bool ((bc + -1) % 65536 != 0 && Builtin.bitAnd (skF av (ms.getD (hl % 64).toNat 0) ((bc + -1) % 65536) f) 64 == 0)) { s with heap := h', toks := tk' }) :
    wpAny (model PR w) (ktrTop dp un gd cn cs L a ccd cl outer) (call (.ref 310) [.ref c, .ref mm, .int st ts]) Q E s := by
  have h3 := V1.mem
  obtain ⟨n1, n2, n3⟩ := hne
  refine wpAny_call ?_
  k_dflt (refine' code_in (K := hd.heap_39 w.params) (small := [(c, instObj 31 dx), (dx, dictOf es n), (rl, listOf vs.toArray k), (mm, listOf mv.toArray km)]) B F X N T (sub_cons h1 (sub_cons h2 (sub_cons h3 (sub_cons h4 sub_nil)))) rfl rfl hk ?k6 ?k7 ?k8 ?k9 ?kB ?_ ?c2 ?c3 ?c4 ?c5)
  k_extra "mz enter"
  k_extra "mz steps"
  all_goals
    (with_reducible rename IntsAre _ (R _ _ _ (skF _ _ _ _) _) => hi8)
    refine back_ (by k_asm) (by k_asm) (ups_led N (Ups.rem1 V1) (sub_cons h1 (sub_cons h2 (sub_cons h3 (sub_cons h4 sub_nil)))) (one_mem (by k_mem)) (by k_extra "mz keeps")) ?_
    intro kF kN
  · exact retB (andB_t (bne_t (by with_reducible assumption))) (ret _ _ _ hi8 kF kN)
  · exact retB (andB_f (by with_reducible assumption)) (ret _ _ _ hi8 kF kN)
end
end Mz

namespace Mz
section
variable {w : World} {dp un : Nat} {gd : Option (List Code)} {cn : Str} {cs : Scope} {a : Addr} {ccd : Value} {cl : List (Str × Addr)} {outer : List Env} {A₀ : Around} {base h₀ : Heap} {L : Addr} {m mg mb : Str → Option Value} {mean : ExcName → Option Value}
  {led : List (Addr × Obj)} {s : Shared} {Q E : Value → Shared → Prop}
  (B : Below A₀ base outer h₀) (F : Fr h₀ L s.heap m) (X : (hd.heap_39 w.params).In h₀) (N : News h₀ L s.heap led) (T : Top hd.view_39 LO mean mg mb h₀) (hk : cs.kind = .function) (hz : dp + 13 < 900) (hu : un + 130 < 2000)
include B F X N T hk hz hu

theorem c_take_one {c dx rl mm p pd il : Addr} {es pes : List DictEntry} {n k km pn ki : Nat} {vs mv iv : List Value} {ms is : List Int} {bc de hl f av st at_ : Int} {ts ta : Tok} {l1 l2 l3 : List (Addr × Obj)}
    (h1 : (c, instObj 31 dx) ∈ led) (h2 : (dx, dictOf es n) ∈ led) (h5 : (p, instObj 52 pd) ∈ led) (h6 : (il, listOf iv.toArray ki) ∈ led) (hi : IntsAre vs (R bc de hl f av)) (hm : IntsAre mv ms) (hml : ms.length = 64)
    (hin : IntsAre iv is) (hil : 0 < is.length ∧ is.length ≤ 8) (hz1 : pes.length ≤ 100)
    (hbc : 0 ≤ bc ∧ bc < 65536) (hde : 0 ≤ de ∧ de < 65536) (hhl : 0 ≤ hl ∧ hl < 65536) (h0 : 0 ≤ at_ ∧ at_ < 2 ^ 60)
    (hr : getL (Str.ofString "r") es = some (some (.ref rl))) (hri : getL (Str.ofString "ins") pes = some (some (.ref il))) (hra : getL (Str.ofString "at") pes = some (some (.int at_ ta)))
    (hne : NeA rl c ∧ NeA rl dx ∧ NeA mm c ∧ NeA mm dx ∧ NeA mm rl ∧ NeA rl p ∧ NeA rl pd ∧ NeA rl il ∧ NeA mm p ∧ NeA mm pd ∧ NeA mm il ∧ NeA pd c ∧ NeA pd dx ∧ NeA pd p ∧ NeA pd il)
    (V1 : Rem rl (listOf vs.toArray k) led l1) (V2 : Rem mm (listOf mv.toArray km) l1 l2) (V3 : Rem pd (dictOf pes pn) l2 l3)
    (ret : ∀ vs' mv' pes' pn' t2 h' tk', IntsAre vs' (R ((bc / 256 - 1) % 256 * 256 + bc % 256) de ((hl + st) % 65536) (ptF (is.getD (at_ % is.length).toNat 0 % 256) ((((bc / 256 - 1) % 256 * 256 + bc % 256) % 256 + st) % 256) (((bc / 256 - 1) % 256 * 256 + bc % 256) / 256)) av) →
      IntsAre mv' (ms.set (hl % 64).toNat (is.getD (at_ % is.length).toNat 0 % 256)) → pes'.length ≤ 100 → (∀ y, y ≠ Str.ofString "at" → getL y pes' = getL y pes) → getL (Str.ofString "ins") pes' = some (some (.ref il)) → getL (Str.ofString "at") pes' = some (some (.int (at_ + 1) t2)) →
      Fr h₀ L h' m → News h₀ L h' ((rl, listOf vs'.toArray k) :: (mm, listOf mv'.toArray km) :: (pd, dictOf pes' pn') :: l3) → Q (.bool (((bc / 256 - 1) % 256 * 256 + bc % 256) / 256 != 0)) { s with heap := h', toks := tk' }) :
    wpAny (model PR w) (ktrTop dp un gd cn cs L a ccd cl outer) (call (.ref 317) [.ref c, .ref mm, .ref p, .int st ts]) Q E s := by
  have h3 := V1.mem
  have h4 := (V1.sub _ V2.mem).1
  have h7 := (V1.sub _ (V2.sub _ V3.mem).1).1
  obtain ⟨n1, n2, n3, n4, n5, n6, n7, n8, n9, n10, n11, n12, n13, n14, n15⟩ := hne
  refine wpAny_call ?_
  k_dflt (refine' code_in (K := hd.heap_39 w.params) (small := [(c, instObj 31 dx), (dx, dictOf es n), (rl, listOf vs.toArray k), (mm, listOf mv.toArray km), (p, instObj 52 pd), (pd, dictOf pes pn), (il, listOf iv.toArray ki)]) B F X N T (sub_cons h1 (sub_cons h2 (sub_cons h3 (sub_cons h4 (sub_cons h5 (sub_cons h7 (sub_cons h6 sub_nil))))))) rfl rfl hk ?k6 ?k7 ?k8 ?k9 ?kB ?_ ?c2 ?c3 ?c4 ?c5)
  k_extra "mz enter"
  k_extra "mz steps"
  (with_reducible rename IntsAre _ (R _ _ _ (ptF _ _ _) _) => hi8)
  (with_reducible rename IntsAre _ (List.set _ _ _) => hm8)
  rw [bitAnd_m8] at hi8
  rw [mod_mod8] at hm8
  refine back_ (by k_asm) (by k_asm) (ups_led N (Ups.rem3 V1 V2 V3) (sub_cons h1 (sub_cons h2 (sub_cons h3 (sub_cons h4 (sub_cons h5 (sub_cons h7 (sub_cons h6 sub_nil))))))) (three_mem (by k_mem) (by k_mem) (by k_mem)) (by k_extra "mz keeps")) ?_
  intro kF kN
  exact ret _ _ _ _ _ _ _ hi8 hm8 (by with_reducible assumption) (by with_reducible assumption) (by k_extra "mz getL") (by k_extra "mz getL") kF kN
end
end Mz

namespace Mz
section
variable {w : World} {dp un : Nat} {gd : Option (List Code)} {cn : Str} {cs : Scope} {a : Addr} {ccd : Value} {cl : List (Str × Addr)} {outer : List Env} {A₀ : Around} {base h₀ : Heap} {L : Addr} {m mg mb : Str → Option Value} {mean : ExcName → Option Value}
  {led : List (Addr × Obj)} {s : Shared} {Q E : Value → Shared → Prop}
  (B : Below A₀ base outer h₀) (F : Fr h₀ L s.heap m) (X : (hd.heap_39 w.params).In h₀) (N : News h₀ L s.heap led) (T : Top hd.view_39 LO mean mg mb h₀) (hk : cs.kind = .function) (hz : dp + 13 < 900) (hu : un + 130 < 2000)
include B F X N T hk hz hu

theorem c_send_one {c dx rl mm p pd ol : Addr} {es pes : List DictEntry} {n k km pn ko : Nat} {vs mv ov : List Value} {ms : List Int} {bc de hl f av st : Int} {ts : Tok} {l1 l2 : List (Addr × Obj)}
    (h1 : (c, instObj 31 dx) ∈ led) (h2 : (dx, dictOf es n) ∈ led) (h4 : (mm, listOf mv.toArray km) ∈ led) (h5 : (p, instObj 52 pd) ∈ led) (h6 : (pd, dictOf pes pn) ∈ led) (hi : IntsAre vs (R bc de hl f av)) (hm : IntsAre mv ms) (hml : ms.length = 64) (hmb : ∀ x ∈ ms, 0 ≤ x ∧ x < 256)
    (hol : ov.length ≤ 1000)
    (hbc : 0 ≤ bc ∧ bc < 65536) (hde : 0 ≤ de ∧ de < 65536) (hhl : 0 ≤ hl ∧ hl < 65536)
    (hr : getL (Str.ofString "r") es = some (some (.ref rl))) (hro : getL (Str.ofString "outs") pes = some (some (.ref ol)))
    (hne : NeA rl c ∧ NeA rl dx ∧ NeA rl mm ∧ NeA rl p ∧ NeA rl pd ∧ NeA ol c ∧ NeA ol dx ∧ NeA ol rl ∧ NeA ol mm ∧ NeA ol p ∧ NeA ol pd)
    (V1 : Rem rl (listOf vs.toArray k) led l1) (V2 : Rem ol (listOf ov.toArray ko) l1 l2)
    (ret : ∀ vs' q t1 t2 ko' h' tk', IntsAre vs' (R ((bc / 256 - 1) % 256 * 256 + bc % 256) de ((hl + st) % 65536) (ptF (ms.getD (hl % 64).toNat 0) ((hl + st) % 65536 % 256) (((bc / 256 - 1) % 256 * 256 + bc % 256) / 256)) av) → (∀ p ∈ led, p.1 ≠ q) →
      Fr h₀ L h' m → News h₀ L h' ((rl, listOf vs'.toArray k) :: (ol, listOf (ov ++ [Value.ref q]).toArray ko') :: (q, tupO [.int (bc % 256) t1, .int (ms.getD (hl % 64).toNat 0) t2]) :: l2) → Q (.bool (((bc / 256 - 1) % 256 * 256 + bc % 256) / 256 != 0)) { s with heap := h', toks := tk' }) :
    wpAny (model PR w) (ktrTop dp un gd cn cs L a ccd cl outer) (call (.ref 324) [.ref c, .ref mm, .ref p, .int st ts]) Q E s := by
  have h3 := V1.mem
  have h7 := (V1.sub _ V2.mem).1
  obtain ⟨n1, n2, n3, n4, n5, n6, n7, n8, n9, n10, n11⟩ := hne
  refine wpAny_call ?_
  k_dflt (refine' code_in (K := hd.heap_39 w.params) (small := [(c, instObj 31 dx), (dx, dictOf es n), (rl, listOf vs.toArray k), (mm, listOf mv.toArray km), (p, instObj 52 pd), (pd, dictOf pes pn), (ol, listOf ov.toArray ko)]) B F X N T (sub_cons h1 (sub_cons h2 (sub_cons h3 (sub_cons h4 (sub_cons h5 (sub_cons h6 (sub_cons h7 sub_nil))))))) rfl rfl hk ?k6 ?k7 ?k8 ?k9 ?kB ?_ ?c2 ?c3 ?c4 ?c5)
  k_extra "mz enter"
  k_extra "mz steps"
  (with_reducible rename IntsAre _ (R _ _ _ (ptF _ _ _) _) => hi8)
  (with_reducible rename News _ _ _ (_ :: (_, tupO _) :: _) => N9)
  rw [bitAnd_m8] at hi8
  rw [byte_at hmb, lo8] at N9
  have hnew := new_ne (led := led) (by assumption) N9 (.tail _ (.head _)) (of_allNe (by (simp only [AllNe, and_true]); k_extra "mz nes"))
  refine back_ (by k_asm) N9 (ups_led N (Ups.rem2new V1 V2 hnew) (sub_cons h1 (sub_cons h2 (sub_cons h3 (sub_cons h4 (sub_cons h5 (sub_cons h6 (sub_cons h7 sub_nil))))))) (three_mem (by k_mem) (by k_mem) (by k_mem)) (by k_extra "mz keeps")) ?_
  intro kF kN
  exact ret _ _ _ _ _ _ _ hi8 hnew kF kN
end
end Mz

end
namespace Mz
structure S where
  bc : Int
  de : Int
  hl : Int
  f : Int
  a : Int
  ms : List Int
  at_ : Int
  outs : List (Int × Int)
structure Ad where
  c : Addr
  dx : Addr
  rl : Addr
  mm : Addr
  p : Addr
  pd : Addr
  il : Addr
  ol : Addr
def S.val (x : S) : Int := x.ms.getD (x.hl % 64).toNat 0
def S.bX (x : S) : Int := (x.bc / 256 - 1) % 256 * 256 + x.bc % 256
def st0 (st : Int) (x : S) : S := { x with bc := (x.bc + -1) % 65536, de := (x.de + st) % 65536, hl := (x.hl + st) % 65536, f := mvF x.a x.val ((x.bc + -1) % 65536) x.f, ms := x.ms.set (x.de % 64).toNat x.val }
def st1 (st : Int) (x : S) : S := { x with bc := (x.bc + -1) % 65536, hl := (x.hl + st) % 65536, f := skF x.a x.val ((x.bc + -1) % 65536) x.f }
def vin (is : List Int) (x : S) : Int := is.getD (x.at_ % is.length).toNat 0 % 256
def st2 (is : List Int) (st : Int) (x : S) : S := { x with bc := x.bX, hl := (x.hl + st) % 65536, f := ptF (vin is x) ((x.bX % 256 + st) % 256) (x.bX / 256), ms := x.ms.set (x.hl % 64).toNat (vin is x), at_ := x.at_ + 1 }
def st3 (st : Int) (x : S) : S := { x with bc := x.bX, hl := (x.hl + st) % 65536, f := ptF x.val ((x.hl + st) % 65536 % 256) (x.bX / 256), outs := x.outs ++ [(x.bc % 256, x.val)] }
def stp (z : Int) (is : List Int) (st : Int) (x : S) : S := if z = 0 then st0 st x else if z = 1 then st1 st x else if z = 2 then st2 is st x else st3 st x
def goes (z : Int) (x : S) : Bool := if z = 0 then x.bc != 0 else if z = 1 then (x.bc != 0 && Builtin.bitAnd x.f 64 == 0) else x.bc / 256 != 0
def Dist (A : Ad) : Prop := NeA A.c A.dx ∧ NeA A.c A.rl ∧ NeA A.c A.mm ∧ NeA A.c A.p ∧ NeA A.c A.pd ∧ NeA A.c A.il ∧ NeA A.c A.ol ∧
  NeA A.dx A.rl ∧ NeA A.dx A.mm ∧ NeA A.dx A.p ∧ NeA A.dx A.pd ∧ NeA A.dx A.il ∧ NeA A.dx A.ol ∧
  NeA A.rl A.mm ∧ NeA A.rl A.p ∧ NeA A.rl A.pd ∧ NeA A.rl A.il ∧ NeA A.rl A.ol ∧
  NeA A.mm A.p ∧ NeA A.mm A.pd ∧ NeA A.mm A.il ∧ NeA A.mm A.ol ∧
  NeA A.p A.pd ∧ NeA A.p A.il ∧ NeA A.p A.ol ∧ NeA A.pd A.il ∧ NeA A.pd A.ol ∧ NeA A.il A.ol
def Off (A : Ad) (q : Addr) : Prop := NeA q A.rl ∧ NeA q A.mm ∧ NeA q A.dx ∧ NeA q A.pd ∧ NeA q A.ol
def TupAt (led : List (Addr × Obj)) (A : Ad) (v : Value) (o : Int × Int) : Prop := ∃ q t1 t2, v = .ref q ∧ (q, tupO [.int o.1 t1, .int o.2 t2]) ∈ led ∧ Off A q
def OutsAre (led : List (Addr × Obj)) (A : Ad) (ov : List Value) (outs : List (Int × Int)) : Prop := ov.length = outs.length ∧ ∀ (i : Nat) v o, ov[i]? = some v → outs[i]? = some o → TupAt led A v o
/-- what a call changes: the objects at five places -/
def five (A : Ad) (es : List DictEntry) (n : Nat) (vs : List Value) (k : Nat) (mv : List Value) (km : Nat) (pes : List DictEntry) (pn : Nat) (ov : List Value) (ko : Nat) : List (Addr × Obj) :=
  [(A.rl, listOf vs.toArray k), (A.mm, listOf mv.toArray km), (A.dx, dictOf es n), (A.pd, dictOf pes pn), (A.ol, listOf ov.toArray ko)]
def three (A : Ad) (iv : List Value) (ki : Nat) : List (Addr × Obj) := [(A.c, instObj 31 A.dx), (A.p, instObj 52 A.pd), (A.il, listOf iv.toArray ki)]
structure Vals (A : Ad) (is : List Int) (x : S) (pc : Int) (es : List DictEntry) (vs mv : List Value) (pes : List DictEntry) (iv : List Value) : Prop where
  gr : getL (Str.ofString "r") es = some (some (.ref A.rl))
  gp : ∃ t, getL (Str.ofString "pc") es = some (some (.int pc t))
  ze : es.length ≤ 100
  gi : getL (Str.ofString "ins") pes = some (some (.ref A.il))
  go : getL (Str.ofString "outs") pes = some (some (.ref A.ol))
  ga : ∃ t, getL (Str.ofString "at") pes = some (some (.int x.at_ t))
  zp : pes.length ≤ 100
  ir : IntsAre vs (R x.bc x.de x.hl x.f x.a)
  im : IntsAre mv x.ms
  ii : IntsAre iv is
  ml : x.ms.length = 64
  mb : ∀ y ∈ x.ms, 0 ≤ y ∧ y < 256
  ib : ∀ y ∈ is, 0 ≤ y ∧ y < 256
  il : is.length ≤ 8
  bc : 0 ≤ x.bc ∧ x.bc < 65536
  de : 0 ≤ x.de ∧ x.de < 65536
  hl : 0 ≤ x.hl ∧ x.hl < 65536
  at0 : 0 ≤ x.at_
  pc0 : 0 ≤ pc ∧ pc < 65536
def Mch (led : List (Addr × Obj)) (A : Ad) (is : List Int) (x : S) (pc : Int) : Prop :=
  ∃ es n vs k mv km pes pn iv ki ov ko, Vals A is x pc es vs mv pes iv ∧ (∀ q ∈ three A iv ki, q ∈ led) ∧ (∀ q ∈ five A es n vs k mv km pes pn ov ko, q ∈ led) ∧ OutsAre led A ov x.outs
/-- all that stands elsewhere is kept -/
def Kept (A : Ad) (led led' : List (Addr × Obj)) : Prop := ∀ q ∈ led, Off A q.1 → q ∈ led'
def offB (A : Ad) (q : Addr × Obj) : Bool := decide (q.1 ≠ A.rl) && decide (q.1 ≠ A.mm) && decide (q.1 ≠ A.dx) && decide (q.1 ≠ A.pd) && decide (q.1 ≠ A.ol)
theorem offB_iff {A : Ad} {q : Addr × Obj} : offB A q = true ↔ Off A q.1 := by
  unfold offB Off NeA
  simp only [Bool.and_eq_true, decide_eq_true_eq]
  constructor
  · rintro ⟨⟨⟨⟨h1, h2⟩, h3⟩, h4⟩, h5⟩; exact ⟨h1, h2, h3, h4, h5⟩
  · rintro ⟨h1, h2, h3, h4, h5⟩; exact ⟨⟨⟨⟨h1, h2⟩, h3⟩, h4⟩, h5⟩
/-- the ledger behind a call: what is changed or new, and the rest -/
def after (A : Ad) (chg led : List (Addr × Obj)) : List (Addr × Obj) := chg ++ led.filter (offB A)
theorem after_kept {A : Ad} {chg led : List (Addr × Obj)} : Kept A led (after A chg led) := fun q hq h => List.mem_append_right _ (List.mem_filter.mpr ⟨hq, offB_iff.mpr h⟩)
theorem ups_after {A : Ad} {chg led : List (Addr × Obj)} (h : ∀ p ∈ chg, (p.1 = A.rl ∨ p.1 = A.mm ∨ p.1 = A.dx ∨ p.1 = A.pd ∨ p.1 = A.ol) ∨ ∀ q ∈ led, q.1 ≠ p.1) : Ups chg led (after A chg led) := fun q hq => by
  rcases List.mem_append.mp hq with hq | hq
  · exact .inl hq
  · obtain ⟨hm, ho⟩ := List.mem_filter.mp hq
    obtain ⟨h1, h2, h3, h4, h5⟩ := offB_iff.mp ho
    refine .inr ⟨hm, fun p hp => ?_⟩
    rcases h p hp with (e | e | e | e | e) | e
    · rw [e]; exact fun e2 => h1 e2.symm
    · rw [e]; exact fun e2 => h2 e2.symm
    · rw [e]; exact fun e2 => h3 e2.symm
    · rw [e]; exact fun e2 => h4 e2.symm
    · rw [e]; exact fun e2 => h5 e2.symm
    · exact Ne.symm (e q hm)
theorem five_chg {A : Ad} {led : List (Addr × Obj)} {es n vs k mv km pes pn ov ko} : ∀ p ∈ five A es n vs k mv km pes pn ov ko, (p.1 = A.rl ∨ p.1 = A.mm ∨ p.1 = A.dx ∨ p.1 = A.pd ∨ p.1 = A.ol) ∨ ∀ q ∈ led, q.1 ≠ p.1 := fun p hp => by
  simp only [five, List.mem_cons, List.not_mem_nil, or_false] at hp
  rcases hp with rfl | rfl | rfl | rfl | rfl
  · exact .inl (.inl rfl)
  · exact .inl (.inr (.inl rfl))
  · exact .inl (.inr (.inr (.inl rfl)))
  · exact .inl (.inr (.inr (.inr (.inl rfl))))
  · exact .inl (.inr (.inr (.inr (.inr rfl))))
theorem app_all {P : Addr × Obj → Prop} {l l' : List (Addr × Obj)} (h : ∀ p ∈ l, P p) (h' : ∀ p ∈ l', P p) : ∀ p ∈ l ++ l', P p := fun p hp => (List.mem_append.mp hp).elim (h p) (h' p)
theorem OutsAre.keep {A : Ad} {led led' : List (Addr × Obj)} {ov : List Value} {outs : List (Int × Int)} (h : OutsAre led A ov outs) (k : Kept A led led') : OutsAre led' A ov outs := by
  refine ⟨h.1, fun i v o hv ho => ?_⟩
  obtain ⟨q, t1, t2, e, hm, hf⟩ := h.2 i v o hv ho
  exact ⟨q, t1, t2, e, k _ hm hf, hf⟩
theorem OutsAre.snoc {A : Ad} {led : List (Addr × Obj)} {ov : List Value} {outs : List (Int × Int)} {q : Addr} {b v : Int} {t1 t2 : Tok} (h : OutsAre led A ov outs) (hq : (q, tupO [.int b t1, .int v t2]) ∈ led) (hf : Off A q) : OutsAre led A (ov ++ [.ref q]) (outs ++ [(b, v)]) := by
  refine ⟨by rw [List.length_append, List.length_append, h.1]; rfl, fun i v' o hv ho => ?_⟩
  by_cases hi : i < outs.length
  · rw [List.getElem?_append_left hi] at ho
    rw [List.getElem?_append_left (by rw [h.1]; exact hi)] at hv
    exact h.2 i v' o hv ho
  · rw [List.getElem?_append_right (by omega)] at ho
    rw [List.getElem?_append_right (by rw [h.1]; omega)] at hv
    rw [h.1] at hv
    cases e : i - outs.length with
    | zero =>
      rw [e] at ho hv
      simp only [List.getElem?_cons_zero, Option.some.injEq] at ho hv
      subst ho hv
      exact ⟨q, t1, t2, rfl, hq, hf⟩
    | succ j => rw [e] at ho; cases ho
theorem set_bytes {l : List Int} {i : Nat} {v : Int} (h : ∀ y ∈ l, 0 ≤ y ∧ y < 256) (hv : 0 ≤ v ∧ v < 256) : ∀ y ∈ l.set i v, 0 ≤ y ∧ y < 256 := fun y hy => by
  rcases List.mem_or_eq_of_mem_set hy with h' | rfl
  · exact h y h'
  · exact hv
theorem val_byte {x : S} (h : ∀ y ∈ x.ms, 0 ≤ y ∧ y < 256) : 0 ≤ x.val ∧ x.val < 256 := getD_of h (by decide) _
theorem vin_byte {is : List Int} {x : S} : 0 ≤ vin is x ∧ vin is x < 256 := by unfold vin; omega
theorem bX_word {x : S} : 0 ≤ x.bX ∧ x.bX < 65536 := by unfold S.bX; omega
end Mz
namespace Mz
theorem three_off {A : Ad} (D : Dist A) {iv : List Value} {ki : Nat} : ∀ q ∈ three A iv ki, Off A q.1 := by
  obtain ⟨n1, n2, n3, n4, n5, n6, n7, n8, n9, n10, n11, n12, n13, n14, n15, n16, n17, n18, n19, n20, n21, n22, n23, n24, n25, n26, n27, n28⟩ := D
  intro q hq
  simp only [three, List.mem_cons, List.not_mem_nil, or_false] at hq
  rcases hq with rfl | rfl | rfl
  · exact ⟨n2, n3, n1, n5, n7⟩
  · exact ⟨n15.symm, n19.symm, n10.symm, n23, n25⟩
  · exact ⟨n17.symm, n21.symm, n12.symm, n26.symm, n28⟩
theorem back_mach {h₀ : Heap} {L L' : Addr} {m m' : Str → Option Value} {led small small' new : List (Addr × Obj)} {g : Heap} {Rr : Result → Shared → Prop} {v : Value} {s s' : Shared} {A : Ad} {is : List Int} {x' : S} {pc' : Int}
    {es n vs k mv km pes pn iv ki ov ko}
    (F' : Fr g L' s'.heap m') (N' : News g L' s'.heap small') (N : News h₀ L s.heap led) (hsub : ∀ q ∈ small, q ∈ led)
    (h5 : ∀ q ∈ five A es n vs k mv km pes pn ov ko, q ∈ small') (hn : ∀ q ∈ new, q ∈ small')
    (hs : ∀ q ∈ small, q ∈ small' ∨ ∃ p ∈ five A es n vs k mv km pes pn ov ko, p.1 = q.1)
    (hfresh : ∀ p ∈ new, ∀ q ∈ led, q.1 ≠ p.1) (h3 : ∀ q ∈ three A iv ki, q ∈ led) (V' : Vals A is x' pc' es vs mv pes iv) (D : Dist A)
    (ho : ∀ led', Kept A led led' → (∀ q ∈ new, q ∈ led') → OutsAre led' A ov x'.outs)
    (kk : ∀ led', Fr h₀ L s'.heap m → News h₀ L s'.heap led' → Mch led' A is x' pc' → Kept A led led' → Rr (.ok (.ret v)) s') : Back h₀ L m led small g Rr v s' := by
  refine back_ (led' := after A (five A es n vs k mv km pes pn ov ko ++ new) led) F' N' (ups_led N (ups_after (app_all five_chg fun p hp => .inr (hfresh p hp))) hsub (app_all h5 hn) fun q hq => ?_) fun kF kN => ?_
  · rcases hs q hq with h | ⟨p, hp, e⟩
    · exact .inl h
    · exact .inr ⟨p, List.mem_append_left _ hp, e⟩
  · refine kk _ kF kN ⟨es, n, vs, k, mv, km, pes, pn, iv, ki, ov, ko, V', fun q hq => after_kept q (h3 q hq) (three_off D q hq), fun q hq => List.mem_append_left _ (List.mem_append_left _ hq), ho _ after_kept fun q hq => List.mem_append_left _ (List.mem_append_right _ hq)⟩ after_kept
theorem no_new {P : Addr × Obj → Prop} : ∀ q ∈ ([] : List (Addr × Obj)), P q := fun _ h => nomatch h
theorem five_in {A : Ad} {l : List (Addr × Obj)} {es n vs k mv km pes pn ov ko} (h1 : (A.rl, listOf vs.toArray k) ∈ l) (h2 : (A.mm, listOf mv.toArray km) ∈ l) (h3 : (A.dx, dictOf es n) ∈ l) (h4 : (A.pd, dictOf pes pn) ∈ l) (h5 : (A.ol, listOf ov.toArray ko) ∈ l) : ∀ q ∈ five A es n vs k mv km pes pn ov ko, q ∈ l :=
  sub_cons h1 (sub_cons h2 (sub_cons h3 (sub_cons h4 (sub_cons h5 sub_nil))))
theorem m16 (x : Int) : Builtin.bitAnd x 65535 = x % 65536 := bitAnd_m16 x
theorem md16' (x : Int) : 0 ≤ x % 65536 ∧ x % 65536 < 65536 := by omega
theorem bne_iff' {x y : Int} : (x != y) = true ↔ x ≠ y := bne_iff_ne
end Mz
namespace Mz
theorem goes0_iff {x : S} : goes 0 x = true ↔ x.bc ≠ 0 := bne_iff_ne
theorem goes1_iff {x : S} : goes 1 x = true ↔ x.bc ≠ 0 ∧ Builtin.bitAnd x.f 64 = 0 := by
  show (x.bc != 0 && Builtin.bitAnd x.f 64 == 0) = true ↔ _
  rw [Bool.and_eq_true, bne_iff_ne, beq_iff_eq]
theorem goes2_iff {x : S} : goes 2 x = true ↔ x.bc / 256 ≠ 0 := bne_iff_ne
theorem goes3_iff {x : S} : goes 3 x = true ↔ x.bc / 256 ≠ 0 := bne_iff_ne
end Mz
namespace Mz
section
variable {A : Ad} {is : List Int} {bc de hl f av at_ pc st : Int} {ms : List Int} {outs : List (Int × Int)} {es es' : List DictEntry} {vs mv : List Value} {pes pes' : List DictEntry} {iv vs' mv' : List Value} {t : Tok}
theorem vals0 (V : Vals A is ⟨bc, de, hl, f, av, ms, at_, outs⟩ pc es vs mv pes iv) (hi : IntsAre vs' (R ((bc + -1) % 65536) ((de + st) % 65536) ((hl + st) % 65536) (mvF av (ms.getD (hl % 64).toNat 0) ((bc + -1) % 65536) f) av))
    (hm : IntsAre mv' (ms.set (de % 64).toNat (ms.getD (hl % 64).toNat 0))) : Vals A is (st0 st ⟨bc, de, hl, f, av, ms, at_, outs⟩) pc es vs' mv' pes iv where
  gr := V.gr
  gp := V.gp
  ze := V.ze
  gi := V.gi
  go := V.go
  ga := V.ga
  zp := V.zp
  ir := hi
  im := hm
  ii := V.ii
  ml := (List.length_set ..).trans V.ml
  mb := set_bytes V.mb (val_byte V.mb)
  ib := V.ib
  il := V.il
  bc := md16' _
  de := md16' _
  hl := md16' _
  at0 := V.at0
  pc0 := V.pc0
theorem vals1 (V : Vals A is ⟨bc, de, hl, f, av, ms, at_, outs⟩ pc es vs mv pes iv) (hi : IntsAre vs' (R ((bc + -1) % 65536) de ((hl + st) % 65536) (skF av (ms.getD (hl % 64).toNat 0) ((bc + -1) % 65536) f) av)) :
    Vals A is (st1 st ⟨bc, de, hl, f, av, ms, at_, outs⟩) pc es vs' mv pes iv where
  gr := V.gr
  gp := V.gp
  ze := V.ze
  gi := V.gi
  go := V.go
  ga := V.ga
  zp := V.zp
  ir := hi
  im := V.im
  ii := V.ii
  ml := V.ml
  mb := V.mb
  ib := V.ib
  il := V.il
  bc := md16' _
  de := V.de
  hl := md16' _
  at0 := V.at0
  pc0 := V.pc0
theorem vals2 (V : Vals A is ⟨bc, de, hl, f, av, ms, at_, outs⟩ pc es vs mv pes iv)
    (hi : IntsAre vs' (R ((bc / 256 - 1) % 256 * 256 + bc % 256) de ((hl + st) % 65536) (ptF (is.getD (at_ % is.length).toNat 0 % 256) ((((bc / 256 - 1) % 256 * 256 + bc % 256) % 256 + st) % 256) (((bc / 256 - 1) % 256 * 256 + bc % 256) / 256)) av))
    (hm : IntsAre mv' (ms.set (hl % 64).toNat (is.getD (at_ % is.length).toNat 0 % 256))) (hz : pes'.length ≤ 100) (hgi : getL (Str.ofString "ins") pes' = some (some (.ref A.il))) (hgo : getL (Str.ofString "outs") pes' = some (some (.ref A.ol))) (hga : getL (Str.ofString "at") pes' = some (some (.int (at_ + 1) t))) :
    Vals A is (st2 is st ⟨bc, de, hl, f, av, ms, at_, outs⟩) pc es vs' mv' pes' iv where
  gr := V.gr
  gp := V.gp
  ze := V.ze
  gi := hgi
  go := hgo
  ga := ⟨_, hga⟩
  zp := hz
  ir := hi
  im := hm
  ii := V.ii
  ml := (List.length_set ..).trans V.ml
  mb := set_bytes V.mb vin_byte
  ib := V.ib
  il := V.il
  bc := bX_word
  de := V.de
  hl := md16' _
  at0 := Int.le_trans V.at0 (Int.le_add_of_nonneg_right (by decide))
  pc0 := V.pc0
theorem vals3 (V : Vals A is ⟨bc, de, hl, f, av, ms, at_, outs⟩ pc es vs mv pes iv)
    (hi : IntsAre vs' (R ((bc / 256 - 1) % 256 * 256 + bc % 256) de ((hl + st) % 65536) (ptF (ms.getD (hl % 64).toNat 0) ((hl + st) % 65536 % 256) (((bc / 256 - 1) % 256 * 256 + bc % 256) / 256)) av)) :
    Vals A is (st3 st ⟨bc, de, hl, f, av, ms, at_, outs⟩) pc es vs' mv pes iv where
  gr := V.gr
  gp := V.gp
  ze := V.ze
  gi := V.gi
  go := V.go
  ga := V.ga
  zp := V.zp
  ir := hi
  im := V.im
  ii := V.ii
  ml := V.ml
  mb := V.mb
  ib := V.ib
  il := V.il
  bc := bX_word
  de := V.de
  hl := md16' _
  at0 := V.at0
  pc0 := V.pc0
theorem vals_pc {x : S} (V : Vals A is x pc es vs mv pes iv) (hp : getL (Str.ofString "pc") es' = some (some (.int (Builtin.bitAnd (pc - 2) 65535) t))) (ho : ∀ y, y ≠ Str.ofString "pc" → getL y es' = getL y es) (hz : es'.length ≤ 100) : Vals A is x ((pc - 2) % 65536) es' vs mv pes iv where
  gr := (ho _ (by decide +kernel)).trans V.gr
  gp := ⟨t, by rw [hp, m16]⟩
  ze := hz
  gi := V.gi
  go := V.go
  ga := V.ga
  zp := V.zp
  ir := V.ir
  im := V.im
  ii := V.ii
  ml := V.ml
  mb := V.mb
  ib := V.ib
  il := V.il
  bc := V.bc
  de := V.de
  hl := V.hl
  at0 := V.at0
  pc0 := md16' _
theorem ng_y {y : Int} {P : Prop} (h : y < 6) : ¬ (y ≥ 6 ∧ P) := fun k => by omega
variable {y : Int}
theorem ng0 (h : (bc + -1) % 65536 = 0) : ¬ (y ≥ 6 ∧ goes 0 (st0 st ⟨bc, de, hl, f, av, ms, at_, outs⟩) = true) := fun k => goes0_iff.mp k.2 h
theorem ps0 (hy : ¬ y < 6) (h : (bc + -1) % 65536 ≠ 0) : y ≥ 6 ∧ goes 0 (st0 st ⟨bc, de, hl, f, av, ms, at_, outs⟩) = true := ⟨by omega, goes0_iff.mpr h⟩
theorem ng1 (h : ((bc + -1) % 65536 != 0 && Builtin.bitAnd (skF av (ms.getD (hl % 64).toNat 0) ((bc + -1) % 65536) f) 64 == 0) = false) : ¬ (y ≥ 6 ∧ goes 1 (st1 st ⟨bc, de, hl, f, av, ms, at_, outs⟩) = true) := fun k => Bool.false_ne_true (h.symm.trans k.2)
theorem ps1 (hy : ¬ y < 6) (h : ((bc + -1) % 65536 != 0 && Builtin.bitAnd (skF av (ms.getD (hl % 64).toNat 0) ((bc + -1) % 65536) f) 64 == 0) = true) : y ≥ 6 ∧ goes 1 (st1 st ⟨bc, de, hl, f, av, ms, at_, outs⟩) = true := ⟨by omega, h⟩
theorem ng2 (h : ((bc / 256 - 1) % 256 * 256 + bc % 256) / 256 = 0) : ¬ (y ≥ 6 ∧ goes 2 (st2 is st ⟨bc, de, hl, f, av, ms, at_, outs⟩) = true) := fun k => goes2_iff.mp k.2 h
theorem ps2 (hy : ¬ y < 6) (h : ((bc / 256 - 1) % 256 * 256 + bc % 256) / 256 ≠ 0) : y ≥ 6 ∧ goes 2 (st2 is st ⟨bc, de, hl, f, av, ms, at_, outs⟩) = true := ⟨by omega, goes2_iff.mpr h⟩
theorem ng3 (h : ((bc / 256 - 1) % 256 * 256 + bc % 256) / 256 = 0) : ¬ (y ≥ 6 ∧ goes 3 (st3 st ⟨bc, de, hl, f, av, ms, at_, outs⟩) = true) := fun k => goes3_iff.mp k.2 h
theorem ps3 (hy : ¬ y < 6) (h : ((bc / 256 - 1) % 256 * 256 + bc % 256) / 256 ≠ 0) : y ≥ 6 ∧ goes 3 (st3 st ⟨bc, de, hl, f, av, ms, at_, outs⟩) = true := ⟨by omega, goes3_iff.mpr h⟩
end
end Mz

section
example : True := by
  k_with_none
  k_with "mz enter" => ((case k6 => k_is); (case k7 => k_is); (case k8 => ktr_room); (case k9 => exact BindsTo.of_eq rfl); (case c5 => decide); (case kB => exact locs rfl); (case c2 => exact rfl); (case c3 => exact rfl); (case c4 => exact rfl); k_whole; intro g'x L'x h'x tk'x F'x N'x B'x X'x T'x l'x hg'x; (try dsimp only); (try k_fold))
  k_with "mz steps" => repeat' (first | (k_unfold; (try dsimp only)) | (walk1; (try dsimp only)) | (dsimp only; walk1) | (dsimp only; k_unfold; (try dsimp only)) | (k_unmd; k_unfold; (try dsimp only)))
  k_with "mz keeps" => first | exact Mz.keeps_nil | (refine Mz.keeps_cons ?_ ?_; (first | (refine Or.inl ?_; k_mem) | exact Or.inr ⟨_, .head _, rfl⟩ | exact Or.inr ⟨_, .tail _ (.head _), rfl⟩ | exact Or.inr ⟨_, .tail _ (.tail _ (.head _)), rfl⟩ | exact Or.inr ⟨_, .tail _ (.tail _ (.tail _ (.head _))), rfl⟩ | exact Or.inr ⟨_, .tail _ (.tail _ (.tail _ (.tail _ (.head _)))), rfl⟩); k_extra "mz keeps")
  k_with "mz:ite" => first | refine Mz.beq_pos (by omega) ?_ | refine Mz.beq_neg (by omega) ?_ | refine Mz.bne_pos (by omega) ?_ | refine Mz.bne_neg (by omega) ?_ | refine Mz.dec_pos (by omega) ?_ | refine Mz.dec_neg (by omega) ?_
  k_with "mz:binaryOp LShift int int" => refine lshift_int_small (by decide) (by decide) (Mz.sh8' (by assumption)) ?_
  k_with "mz:setItem ref int" => (k_here; (with_reducible show wpAny _ _ (setItem (Value.ref _) (Value.int _ _) (Value.int _ _)) _ _ _); k_dflt (refine' Mz.set_at ?k1_6 ?k2_6 ?k3_6 ?k4_6 ?k5_6 ?k6_6 ?k7_6 ?k8_6 ?_; (case k1_6 => k_asm); (case k2_6 => k_asm); (case k3_6 => k_updF); (case k4_6 => with_reducible assumption); (case k5_6 => ksa_idx); (case k6_6 => ksa_idx); (case k7_6 => ksa_idx); (case k8_6 => first | exact Mz.R_s6 | exact Mz.R_s0b | exact Mz.R_s0 | exact rfl); k_whole); intro h'x vs'x F'x N'x hi'x hl'x; (try dsimp only at N'x); (try k_sweep))
  k_with "mz dp" => ((try dsimp only [ktrTop, Around.deeper]); first | exact Mz.dp2 (by with_reducible assumption) rfl | exact Mz.dp1 (by with_reducible assumption) rfl | omega)
  k_with "mz ctx" => ((case cB => k_asm); (case cF => k_asm); (case cX => k_asm); (case cN => k_asm); (case cT => k_asm); (case ck => exact rfl); (case cz => k_extra "mz dp"); (case cu => k_extra "mz dp"))
  k_with "mz ifs" => ((repeat' split) <;> first | with_reducible rfl | (exfalso; first | contradiction | omega))
  k_with "mz rem" => first | (refine' Mz.Rem.head ?a_10; (case a_10 => k_all)) | (refine' Mz.Rem.tail ?a_10 ?b_10; (case a_10 => k_ne); (case b_10 => k_extra "mz rem"))
  k_with "mz len" => first | with_reducible assumption | exact Mz.R_len | with_reducible exact Mz.setPr_len (by k_extra "mz len")
  k_with "mz byt" => first | with_reducible assumption | exact Mz.R_byt (by omega) (by omega) (by omega) | with_reducible exact Mz.setPr_byt (by k_extra "mz byt")
  k_with "mz getL" => first | with_reducible assumption | (refine' Mz.getL_oth ?ga_13 ?gb_13 ?gc_13; (case ga_13 => with_reducible assumption); (case gb_13 => decide +kernel); (case gc_13 => k_extra "mz getL"))
  k_with "mz:getAttr ref" => (k_here; k_dflt (refine' get_own ?k1_14 ?k2_14 ?k3_14 ?k4_14 ?k5_14 ?k6_14 ?k7_14 ?k8_14 ?k9_14 ?_; (case k1_14 => k_asm); (case k2_14 => k_asm); (case k3_14 => k_inst); (case k4_14 => k_is); (case k5_14 => k_is); (case k6_14 => k_is); (case k7_14 => k_is); (case k8_14 => k_extra "mz getL"); (case k9_14 => k_handed); k_whole))
  k_with "mz:setAttr ref" => (k_here; k_dflt (refine' Mz.set_own ?k1_15 ?k2_15 ?k3_15 ?k4_15 ?k5_15 ?k6_15 ?k7_15 ?k8_15 ?k9_15 ?k10_15 ?k11_15 ?k12_15 ?_; (case k1_15 => k_asm); (case k2_15 => k_asm); (case k3_15 => k_asm); (case k4_15 => k_inst); (case k5_15 => exact rfl); (case k6_15 => k_is); (case k7_15 => k_is); (case k8_15 => k_is); (case k9_15 => k_is); (case k10_15 => k_extra "mz getL"); (case k11_15 => first | with_reducible assumption | omega); (case k12_15 => k_extra "mz rem"); k_whole; intro h'x es'x n'x hs'x ho'x hz'x F'x N'x; (try k_sweep)))
  k_with "mz:subscriptTail" => (k_here; (with_reducible show wpAny _ _ (subscriptTail _ _ (Value.ref _) (Value.int _ _)) _ _ _); k_dflt (refine' Mz.sub_at ?k1_16 ?k2_16 ?k3_16 ?k4_16 ?k5_16 ?k6_16 ?k8_16 ?_ ?k7_16; (case k1_16 => k_asm); (case k2_16 => k_mem); (case k3_16 => with_reducible assumption); (case k4_16 => ksa_idx); (case k5_16 => ksa_idx); (case k6_16 => ksa_idx); (case k7_16 => with_unfolding_all rfl); (case k8_16 => first | with_reducible_and_instances exact Mz.R_g0 | with_reducible_and_instances exact Mz.R_g1 | with_reducible_and_instances exact Mz.R_g6 | with_reducible_and_instances exact Mz.R_g7 | exact Mz.R_g0 | exact Mz.R_g1 | exact Mz.R_g6 | exact Mz.R_g7 | exact rfl); k_whole); intro _)
  k_with "mz lt" => first | exact Mz.Lts.lt (by with_reducible assumption) (by k_mem) | with_reducible assumption | exact Mz.lt_s (by k_extra "mz lt")
  k_with "mz and" => first | exact And.left (by with_reducible assumption) | exact And.left (And.right (by with_reducible assumption)) | exact And.left (And.right (And.right (by with_reducible assumption))) | exact And.left (And.right (And.right (And.right (by with_reducible assumption)))) | exact And.left (And.right (And.right (And.right (And.right (by with_reducible assumption))))) | exact And.left (And.right (And.right (And.right (And.right (And.right (by with_reducible assumption)))))) | exact And.left (And.right (And.right (And.right (And.right (And.right (And.right (by with_reducible assumption))))))) | exact And.right (by with_reducible assumption) | exact And.right (And.right (by with_reducible assumption)) | exact And.right (And.right (And.right (by with_reducible assumption))) | exact And.right (And.right (And.right (And.right (by with_reducible assumption)))) | exact And.right (And.right (And.right (And.right (And.right (by with_reducible assumption))))) | exact And.right (And.right (And.right (And.right (And.right (And.right (by with_reducible assumption))))))
  k_with "mz neq" => first | exact Nat.ne_of_lt (Mz.Lts.lt (by with_reducible assumption) (by k_mem)) | exact Nat.ne_of_gt (Mz.Lts.lt (by with_reducible assumption) (by k_mem)) | exact Mz.Nes.ne (by with_reducible assumption) (by k_mem) | exact Ne.symm (Mz.Nes.ne (by with_reducible assumption) (by k_mem)) | exact Nat.ne_of_lt (by with_reducible assumption) | exact Nat.ne_of_gt (by with_reducible assumption) | exact Nat.ne_of_gt (Mz.lt_s (by k_extra "mz lt")) | exact Nat.ne_of_lt (Mz.lt_s (by k_extra "mz lt")) | exact Nat.ne_of_gt (Mz.lt_tr (by with_reducible assumption) (by k_extra "mz lt")) | exact Nat.ne_of_lt (Mz.lt_tr (by with_reducible assumption) (by k_extra "mz lt")) | exact Mz.NeA.out (by k_extra "mz and") | exact Ne.symm (Mz.NeA.out (by k_extra "mz and"))
  k_with "mz all" => first | exact List.forall_mem_nil _ | ((with_reducible refine Mz.all_cons ?_ ?_); (k_ne); (k_extra "mz all")) | exact OwnOff.ne (by assumption) (by k_memK) | exact Mz.all_cons (by k_ne) (by k_extra "mz all")
  k_with "mz ne" => first | with_reducible assumption | exact Mz.NeA.symm (by with_reducible assumption) | exact Mz.NeA.of (by k_extra "mz neq") | exact Mz.NeA.of (by omega)
  k_with "mz nes" => first | (refine And.intro ?_ ?_; (k_extra "mz ne"); (k_extra "mz nes")) | k_extra "mz ne"
  k_with "mz ksa_idx" => ((rw [Mz.R_len]); decide)
  k_with "mz k_ne" => (refine neN ?_; (try dsimp only); first | exact Mz.NeA.out (by with_reducible assumption) | exact Ne.symm (Mz.NeA.out (by with_reducible assumption)) | k_extra "mz neq" | omega)
  k_with "mz k_all" => first | exact Mz.ne_lts (by with_reducible assumption) (by exact rfl) | exact Mz.ne_nes (by with_reducible assumption) (by exact rfl) | k_extra "mz all"
  k_with "mz:call ref" => (k_here; (with_reducible show wpAny _ _ (call (Value.ref 303) _) _ _ _); k_dflt (refine' Mz.c_move_one ?cB ?cF ?cX ?cN ?cT ?ck ?cz ?cu ?h1_39 ?h2_39 ?hi_39 ?hm_39 ?hml_39 ?hmb_39 ?hbc_39 ?hde_39 ?hhl_39 ?hr_39 ?hne_39 ?V1_39 ?V2_39 ?_; k_extra "mz ctx"; (case h1_39 => k_mem); (case h2_39 => k_mem); (case hr_39 => with_reducible assumption); (case V1_39 => k_extra "mz rem"); (case V2_39 => k_extra "mz rem"); (case hi_39 => with_reducible assumption); (case hm_39 => with_reducible assumption); (case hml_39 => with_reducible assumption); (case hmb_39 => with_reducible assumption); (case hbc_39 => with_reducible assumption); (case hde_39 => with_reducible assumption); (case hhl_39 => with_reducible assumption); (case hne_39 => k_extra "mz nes"); k_whole); intro vs9x mv9x h9x tk9x hi9x hm9x F9x N9x; (try dsimp only); (try k_sweep))
  k_with "mz:call ref" => (k_here; (with_reducible show wpAny _ _ (call (Value.ref 310) _) _ _ _); k_dflt (refine' Mz.c_seek_one ?cB ?cF ?cX ?cN ?cT ?ck ?cz ?cu ?h1_40 ?h2_40 ?h4_40 ?hi_40 ?hm_40 ?hml_40 ?hbc_40 ?hde_40 ?hhl_40 ?hr_40 ?hne_40 ?V1_40 ?_; k_extra "mz ctx"; (case h1_40 => k_mem); (case h2_40 => k_mem); (case hr_40 => with_reducible assumption); (case V1_40 => k_extra "mz rem"); (case h4_40 => k_mem); (case hi_40 => with_reducible assumption); (case hm_40 => with_reducible assumption); (case hml_40 => with_reducible assumption); (case hbc_40 => with_reducible assumption); (case hde_40 => with_reducible assumption); (case hhl_40 => with_reducible assumption); (case hne_40 => k_extra "mz nes"); k_whole); intro vs9x h9x tk9x hi9x F9x N9x; (try dsimp only); (try k_sweep))
  k_with "mz:call ref" => (k_here; (with_reducible show wpAny _ _ (call (Value.ref 317) _) _ _ _); k_dflt (refine' Mz.c_take_one ?cB ?cF ?cX ?cN ?cT ?ck ?cz ?cu ?h1_41 ?h2_41 ?h5_41 ?h6_41 ?hi_41 ?hm_41 ?hml_41 ?hin_41 ?hil_41 ?hz1_41 ?hbc_41 ?hde_41 ?hhl_41 ?h0_41 ?hr_41 ?hri_41 ?hra_41 ?hne_41 ?V1_41 ?V2_41 ?V3_41 ?_; k_extra "mz ctx"; (case h1_41 => k_mem); (case h2_41 => k_mem); (case h5_41 => k_mem); (case hr_41 => with_reducible assumption); (case V1_41 => k_extra "mz rem"); (case V2_41 => k_extra "mz rem"); (case V3_41 => k_extra "mz rem"); (case hri_41 => with_reducible assumption); (case hra_41 => with_reducible assumption); (case h6_41 => k_mem); (case hi_41 => with_reducible assumption); (case hm_41 => with_reducible assumption); (case hml_41 => with_reducible assumption); (case hin_41 => with_reducible assumption); (case hil_41 => with_reducible assumption); (case hz1_41 => with_reducible assumption); (case hbc_41 => with_reducible assumption); (case hde_41 => with_reducible assumption); (case hhl_41 => with_reducible assumption); (case h0_41 => with_reducible assumption); (case hne_41 => k_extra "mz nes"); k_whole); intro vs9x mv9x pes9x pn9x t29x h9x tk9x hi9x hm9x zp9x go9x gi9x ga9x F9x N9x; (try dsimp only); (try k_sweep))
  k_with "mz:call ref" => (k_here; (with_reducible show wpAny _ _ (call (Value.ref 324) _) _ _ _); k_dflt (refine' Mz.c_send_one ?cB ?cF ?cX ?cN ?cT ?ck ?cz ?cu ?h1_42 ?h2_42 ?h4_42 ?h5_42 ?h6_42 ?hi_42 ?hm_42 ?hml_42 ?hmb_42 ?hol_42 ?hbc_42 ?hde_42 ?hhl_42 ?hr_42 ?hro_42 ?hne_42 ?V1_42 ?V2_42 ?_; k_extra "mz ctx"; (case h1_42 => k_mem); (case h2_42 => k_mem); (case h5_42 => k_mem); (case h6_42 => k_mem); (case hr_42 => with_reducible assumption); (case hro_42 => with_reducible assumption); (case V1_42 => k_extra "mz rem"); (case V2_42 => k_extra "mz rem"); (case h4_42 => k_mem); (case hi_42 => with_reducible assumption); (case hm_42 => with_reducible assumption); (case hml_42 => with_reducible assumption); (case hmb_42 => with_reducible assumption); (case hol_42 => with_reducible assumption); (case hbc_42 => with_reducible assumption); (case hde_42 => with_reducible assumption); (case hhl_42 => with_reducible assumption); (case hne_42 => k_extra "mz nes"); k_whole); intro vs9x q9x t19x t29x k9x h9x tk9x hi9x o9x F9x N9x; (replace o9x := Mz.nes_of o9x); (try dsimp only [List.map] at o9x); (try dsimp only); (try k_sweep))
  trivial
namespace Mz
section
variable {w : World} {dp un : Nat} {gd : Option (List Code)} {cn : Str} {cs : Scope} {a : Addr} {ccd : Value} {cl : List (Str × Addr)} {outer : List Env} {A₀ : Around} {base h₀ : Heap} {L : Addr} {m mg mb : Str → Option Value} {mean : ExcName → Option Value}
  {led : List (Addr × Obj)} {s : Shared} {Q E : Value → Shared → Prop}
  (B : Below A₀ base outer h₀) (F : Fr h₀ L s.heap m) (X : (hd.heap_39 w.params).In h₀) (N : News h₀ L s.heap led) (T : Top hd.view_39 LO mean mg mb h₀) (hk : cs.kind = .function) (hz : dp + 14 < 900) (hu : un + 140 < 2000)
include B F X N T hk hz hu

theorem c_blk0 {A : Ad} {is : List Int} {x : S} {pc y st : Int} {ty tz : Tok} (M : Mch led A is x pc) (D : Dist A) (hsz : x.at_ < 2 ^ 59 ∧ x.outs.length ≤ 900) 
    (hy : 4 ≤ y ∧ y ≤ 7) (hst : (Builtin.bitAnd y 1 = 0 → st = 1) ∧ (Builtin.bitAnd y 1 ≠ 0 → st = -1))
    (ret : ∀ led' t h' tk', Fr h₀ L h' m → News h₀ L h' led' → Mch led' A is (st0 st x) (if y ≥ 6 ∧ goes 0 (st0 st x) = true then (pc - 2) % 65536 else pc) → Kept A led led' →
      Q (.int (if y ≥ 6 ∧ goes 0 (st0 st x) = true then 21 else 16) t) { s with heap := h', toks := tk' }) :
    wpAny (model PR w) (ktrTop dp un gd cn cs L a ccd cl outer) (call (.ref 289) [.ref A.c, .ref A.mm, .ref A.p, .int y ty, .int 0 tz]) Q E s := by
  obtain ⟨es, n, vs, k, mv, km, pes, pn, iv, ki, ov, ko, V, s3, s5, ho⟩ := M
  obtain ⟨c, dx, rl, mm, p, pd, il, ol⟩ := A
  obtain ⟨bc, de, hl, f, av, ms, at_, outs⟩ := x
  obtain ⟨gr, ⟨tp, gp⟩, ze, gi, go, ⟨ta, ga⟩, zp, ir, im, ii, ml, mb, ib, ilen, hbc, hde, hhl, hat, hpc⟩ := id V
  have V0 := V
  clear V
  have D0 := D
  obtain ⟨n1, n2, n3, n4, n5, n6, n7, n8, n9, n10, n11, n12, n13, n14, n15, n16, n17, n18, n19, n20, n21, n22, n23, n24, n25, n26, n27, n28⟩ := D
  have hsub := app_all s3 s5
  dsimp only at *
  refine wpAny_call ?_
  k_dflt (refine' code_in (K := hd.heap_39 w.params) (small := [(c, instObj 31 dx), (p, instObj 52 pd), (il, listOf iv.toArray ki), (rl, listOf vs.toArray k), (mm, listOf mv.toArray km), (dx, dictOf es n), (pd, dictOf pes pn), (ol, listOf ov.toArray ko)]) B F X N T hsub rfl rfl hk ?k6 ?k7 ?k8 ?k9 ?kB ?_ ?c2 ?c3 ?c4 ?c5)
  k_extra "mz enter"
  k_extra "mz steps"
  all_goals
    first
      | (simp only [if_neg (ng_y (y := y) (by with_reducible assumption))] at ret)
      | (simp only [if_neg (ng0 (y := y) (by with_reducible assumption))] at ret)
      | (simp only [if_pos (ps0 (y := y) (by with_reducible assumption) (by with_reducible assumption))] at ret)
  all_goals
    (first | (have e9 := hst.1 (by with_reducible assumption); subst e9) | (have e9 := hst.2 (by with_reducible assumption); subst e9))
  all_goals
    refine back_mach (A := ⟨c, dx, rl, mm, p, pd, il, ol⟩) (new := []) (is := is) (by k_asm) (by k_asm) N hsub (five_in (by k_mem) (by k_mem) (by k_mem) (by k_mem) (by k_mem)) no_new (by k_extra "mz keeps") no_new s3 ?_ D0 (fun _ kk _ => ho.keep kk) (fun led' kF kN M K => ret led' _ _ _ kF kN M K)
    first
      | exact vals0 V0 (by with_reducible assumption) (by with_reducible assumption)
      | exact vals_pc (vals0 V0 (by with_reducible assumption) (by with_reducible assumption)) (by with_reducible assumption) (by with_reducible assumption) (by with_reducible assumption)
end
end Mz

namespace Mz
section
variable {w : World} {dp un : Nat} {gd : Option (List Code)} {cn : Str} {cs : Scope} {a : Addr} {ccd : Value} {cl : List (Str × Addr)} {outer : List Env} {A₀ : Around} {base h₀ : Heap} {L : Addr} {m mg mb : Str → Option Value} {mean : ExcName → Option Value}
  {led : List (Addr × Obj)} {s : Shared} {Q E : Value → Shared → Prop}
  (B : Below A₀ base outer h₀) (F : Fr h₀ L s.heap m) (X : (hd.heap_39 w.params).In h₀) (N : News h₀ L s.heap led) (T : Top hd.view_39 LO mean mg mb h₀) (hk : cs.kind = .function) (hz : dp + 14 < 900) (hu : un + 140 < 2000)
include B F X N T hk hz hu

theorem c_blk1 {A : Ad} {is : List Int} {x : S} {pc y st : Int} {ty tz : Tok} (M : Mch led A is x pc) (D : Dist A) (hsz : x.at_ < 2 ^ 59 ∧ x.outs.length ≤ 900) 
    (hy : 4 ≤ y ∧ y ≤ 7) (hst : (Builtin.bitAnd y 1 = 0 → st = 1) ∧ (Builtin.bitAnd y 1 ≠ 0 → st = -1))
    (ret : ∀ led' t h' tk', Fr h₀ L h' m → News h₀ L h' led' → Mch led' A is (st1 st x) (if y ≥ 6 ∧ goes 1 (st1 st x) = true then (pc - 2) % 65536 else pc) → Kept A led led' →
      Q (.int (if y ≥ 6 ∧ goes 1 (st1 st x) = true then 21 else 16) t) { s with heap := h', toks := tk' }) :
    wpAny (model PR w) (ktrTop dp un gd cn cs L a ccd cl outer) (call (.ref 289) [.ref A.c, .ref A.mm, .ref A.p, .int y ty, .int 1 tz]) Q E s := by
  obtain ⟨es, n, vs, k, mv, km, pes, pn, iv, ki, ov, ko, V, s3, s5, ho⟩ := M
  obtain ⟨c, dx, rl, mm, p, pd, il, ol⟩ := A
  obtain ⟨bc, de, hl, f, av, ms, at_, outs⟩ := x
  obtain ⟨gr, ⟨tp, gp⟩, ze, gi, go, ⟨ta, ga⟩, zp, ir, im, ii, ml, mb, ib, ilen, hbc, hde, hhl, hat, hpc⟩ := id V
  have V0 := V
  clear V
  have D0 := D
  obtain ⟨n1, n2, n3, n4, n5, n6, n7, n8, n9, n10, n11, n12, n13, n14, n15, n16, n17, n18, n19, n20, n21, n22, n23, n24, n25, n26, n27, n28⟩ := D
  have hsub := app_all s3 s5
  dsimp only at *
  refine wpAny_call ?_
  k_dflt (refine' code_in (K := hd.heap_39 w.params) (small := [(c, instObj 31 dx), (p, instObj 52 pd), (il, listOf iv.toArray ki), (rl, listOf vs.toArray k), (mm, listOf mv.toArray km), (dx, dictOf es n), (pd, dictOf pes pn), (ol, listOf ov.toArray ko)]) B F X N T hsub rfl rfl hk ?k6 ?k7 ?k8 ?k9 ?kB ?_ ?c2 ?c3 ?c4 ?c5)
  k_extra "mz enter"
  k_extra "mz steps"
  all_goals
    first
      | (simp only [if_neg (ng_y (y := y) (by with_reducible assumption))] at ret)
      | (simp only [if_neg (ng1 (y := y) (by with_reducible assumption))] at ret)
      | (simp only [if_pos (ps1 (y := y) (by with_reducible assumption) (by with_reducible assumption))] at ret)
  all_goals
    (first | (have e9 := hst.1 (by with_reducible assumption); subst e9) | (have e9 := hst.2 (by with_reducible assumption); subst e9))
  all_goals
    refine back_mach (A := ⟨c, dx, rl, mm, p, pd, il, ol⟩) (new := []) (is := is) (by k_asm) (by k_asm) N hsub (five_in (by k_mem) (by k_mem) (by k_mem) (by k_mem) (by k_mem)) no_new (by k_extra "mz keeps") no_new s3 ?_ D0 (fun _ kk _ => ho.keep kk) (fun led' kF kN M K => ret led' _ _ _ kF kN M K)
    first
      | exact vals1 V0 (by with_reducible assumption)
      | exact vals_pc (vals1 V0 (by with_reducible assumption)) (by with_reducible assumption) (by with_reducible assumption) (by with_reducible assumption)
end
end Mz

namespace Mz
section
variable {w : World} {dp un : Nat} {gd : Option (List Code)} {cn : Str} {cs : Scope} {a : Addr} {ccd : Value} {cl : List (Str × Addr)} {outer : List Env} {A₀ : Around} {base h₀ : Heap} {L : Addr} {m mg mb : Str → Option Value} {mean : ExcName → Option Value}
  {led : List (Addr × Obj)} {s : Shared} {Q E : Value → Shared → Prop}
  (B : Below A₀ base outer h₀) (F : Fr h₀ L s.heap m) (X : (hd.heap_39 w.params).In h₀) (N : News h₀ L s.heap led) (T : Top hd.view_39 LO mean mg mb h₀) (hk : cs.kind = .function) (hz : dp + 14 < 900) (hu : un + 140 < 2000)
include B F X N T hk hz hu

theorem c_blk2 {A : Ad} {is : List Int} {x : S} {pc y st : Int} {ty tz : Tok} (M : Mch led A is x pc) (D : Dist A) (hsz : x.at_ < 2 ^ 59 ∧ x.outs.length ≤ 900) (hin : 0 < is.length) 
    (hy : 4 ≤ y ∧ y ≤ 7) (hst : (Builtin.bitAnd y 1 = 0 → st = 1) ∧ (Builtin.bitAnd y 1 ≠ 0 → st = -1))
    (ret : ∀ led' t h' tk', Fr h₀ L h' m → News h₀ L h' led' → Mch led' A is (st2 is st x) (if y ≥ 6 ∧ goes 2 (st2 is st x) = true then (pc - 2) % 65536 else pc) → Kept A led led' →
      Q (.int (if y ≥ 6 ∧ goes 2 (st2 is st x) = true then 21 else 16) t) { s with heap := h', toks := tk' }) :
    wpAny (model PR w) (ktrTop dp un gd cn cs L a ccd cl outer) (call (.ref 289) [.ref A.c, .ref A.mm, .ref A.p, .int y ty, .int 2 tz]) Q E s := by
  obtain ⟨es, n, vs, k, mv, km, pes, pn, iv, ki, ov, ko, V, s3, s5, ho⟩ := M
  obtain ⟨c, dx, rl, mm, p, pd, il, ol⟩ := A
  obtain ⟨bc, de, hl, f, av, ms, at_, outs⟩ := x
  obtain ⟨gr, ⟨tp, gp⟩, ze, gi, go, ⟨ta, ga⟩, zp, ir, im, ii, ml, mb, ib, ilen, hbc, hde, hhl, hat, hpc⟩ := id V
  have V0 := V
  clear V
  have D0 := D
  obtain ⟨n1, n2, n3, n4, n5, n6, n7, n8, n9, n10, n11, n12, n13, n14, n15, n16, n17, n18, n19, n20, n21, n22, n23, n24, n25, n26, n27, n28⟩ := D
  have hsub := app_all s3 s5
  dsimp only at *
  have hil : 0 < is.length ∧ is.length ≤ 8 := ⟨hin, ilen⟩
  have h0 : 0 ≤ at_ ∧ at_ < 2 ^ 60 := by omega
  refine wpAny_call ?_
  k_dflt (refine' code_in (K := hd.heap_39 w.params) (small := [(c, instObj 31 dx), (p, instObj 52 pd), (il, listOf iv.toArray ki), (rl, listOf vs.toArray k), (mm, listOf mv.toArray km), (dx, dictOf es n), (pd, dictOf pes pn), (ol, listOf ov.toArray ko)]) B F X N T hsub rfl rfl hk ?k6 ?k7 ?k8 ?k9 ?kB ?_ ?c2 ?c3 ?c4 ?c5)
  k_extra "mz enter"
  k_extra "mz steps"
  all_goals
    first
      | (simp only [if_neg (ng_y (y := y) (by with_reducible assumption))] at ret)
      | (simp only [if_neg (ng2 (y := y) (by with_reducible assumption))] at ret)
      | (simp only [if_pos (ps2 (y := y) (by with_reducible assumption) (by with_reducible assumption))] at ret)
  all_goals
    (first | (have e9 := hst.1 (by with_reducible assumption); subst e9) | (have e9 := hst.2 (by with_reducible assumption); subst e9))
  all_goals
    refine back_mach (A := ⟨c, dx, rl, mm, p, pd, il, ol⟩) (new := []) (is := is) (by k_asm) (by k_asm) N hsub (five_in (by k_mem) (by k_mem) (by k_mem) (by k_mem) (by k_mem)) no_new (by k_extra "mz keeps") no_new s3 ?_ D0 (fun _ kk _ => ho.keep kk) (fun led' kF kN M K => ret led' _ _ _ kF kN M K)
    first
      | exact vals2 V0 (by with_reducible assumption) (by with_reducible assumption) (by with_reducible assumption) (by with_reducible assumption) (by k_extra "mz getL") (by with_reducible assumption)
      | exact vals_pc (vals2 V0 (by with_reducible assumption) (by with_reducible assumption) (by with_reducible assumption) (by with_reducible assumption) (by k_extra "mz getL") (by with_reducible assumption)) (by with_reducible assumption) (by with_reducible assumption) (by with_reducible assumption)
end
end Mz

namespace Mz
section
variable {w : World} {dp un : Nat} {gd : Option (List Code)} {cn : Str} {cs : Scope} {a : Addr} {ccd : Value} {cl : List (Str × Addr)} {outer : List Env} {A₀ : Around} {base h₀ : Heap} {L : Addr} {m mg mb : Str → Option Value} {mean : ExcName → Option Value}
  {led : List (Addr × Obj)} {s : Shared} {Q E : Value → Shared → Prop}
  (B : Below A₀ base outer h₀) (F : Fr h₀ L s.heap m) (X : (hd.heap_39 w.params).In h₀) (N : News h₀ L s.heap led) (T : Top hd.view_39 LO mean mg mb h₀) (hk : cs.kind = .function) (hz : dp + 14 < 900) (hu : un + 140 < 2000)
include B F X N T hk hz hu

theorem c_blk3 {A : Ad} {is : List Int} {x : S} {pc y st : Int} {ty tz : Tok} (M : Mch led A is x pc) (D : Dist A) (hsz : x.at_ < 2 ^ 59 ∧ x.outs.length ≤ 900) 
    (hy : 4 ≤ y ∧ y ≤ 7) (hst : (Builtin.bitAnd y 1 = 0 → st = 1) ∧ (Builtin.bitAnd y 1 ≠ 0 → st = -1))
    (ret : ∀ led' t h' tk', Fr h₀ L h' m → News h₀ L h' led' → Mch led' A is (st3 st x) (if y ≥ 6 ∧ goes 3 (st3 st x) = true then (pc - 2) % 65536 else pc) → Kept A led led' →
      Q (.int (if y ≥ 6 ∧ goes 3 (st3 st x) = true then 21 else 16) t) { s with heap := h', toks := tk' }) :
    wpAny (model PR w) (ktrTop dp un gd cn cs L a ccd cl outer) (call (.ref 289) [.ref A.c, .ref A.mm, .ref A.p, .int y ty, .int 3 tz]) Q E s := by
  obtain ⟨es, n, vs, k, mv, km, pes, pn, iv, ki, ov, ko, V, s3, s5, ho⟩ := M
  obtain ⟨c, dx, rl, mm, p, pd, il, ol⟩ := A
  obtain ⟨bc, de, hl, f, av, ms, at_, outs⟩ := x
  obtain ⟨gr, ⟨tp, gp⟩, ze, gi, go, ⟨ta, ga⟩, zp, ir, im, ii, ml, mb, ib, ilen, hbc, hde, hhl, hat, hpc⟩ := id V
  have V0 := V
  clear V
  have D0 := D
  obtain ⟨n1, n2, n3, n4, n5, n6, n7, n8, n9, n10, n11, n12, n13, n14, n15, n16, n17, n18, n19, n20, n21, n22, n23, n24, n25, n26, n27, n28⟩ := D
  have hsub := app_all s3 s5
  dsimp only at *
  have hol : ov.length ≤ 1000 := by have := ho.1; omega
  refine wpAny_call ?_
  k_dflt (refine' code_in (K := hd.heap_39 w.params) (small := [(c, instObj 31 dx), (p, instObj 52 pd), (il, listOf iv.toArray ki), (rl, listOf vs.toArray k), (mm, listOf mv.toArray km), (dx, dictOf es n), (pd, dictOf pes pn), (ol, listOf ov.toArray ko)]) B F X N T hsub rfl rfl hk ?k6 ?k7 ?k8 ?k9 ?kB ?_ ?c2 ?c3 ?c4 ?c5)
  k_extra "mz enter"
  k_extra "mz steps"
  all_goals
    first
      | (simp only [if_neg (ng_y (y := y) (by with_reducible assumption))] at ret)
      | (simp only [if_neg (ng3 (y := y) (by with_reducible assumption))] at ret)
      | (simp only [if_pos (ps3 (y := y) (by with_reducible assumption) (by with_reducible assumption))] at ret)
  all_goals
    (first | (have e9 := hst.1 (by with_reducible assumption); subst e9) | (have e9 := hst.2 (by with_reducible assumption); subst e9))
  all_goals
    (with_reducible rename News _ _ _ _ => N7)
    have hm7 := N7 (_, tupO [.int (bc % 256) _, .int (ms.getD (hl % 64).toNat 0) _]) (by k_mem)
    have hfr := new_ne (led := led) (by with_reducible assumption) N7 (o := tupO [.int (bc % 256) _, .int (ms.getD (hl % 64).toNat 0) _]) (by k_mem) (of_allNe (by (simp only [AllNe, and_true]); k_extra "mz nes"))
    have hoff : Off ⟨c, dx, rl, mm, p, pd, il, ol⟩ _ := ⟨(hfr _ (s5 _ (.head _))).symm, (hfr _ (s5 _ (.tail _ (.head _)))).symm, (hfr _ (s5 _ (.tail _ (.tail _ (.head _))))).symm, (hfr _ (s5 _ (.tail _ (.tail _ (.tail _ (.head _)))))).symm, (hfr _ (s5 _ (.tail _ (.tail _ (.tail _ (.tail _ (.head _))))))).symm⟩
    refine back_mach (A := ⟨c, dx, rl, mm, p, pd, il, ol⟩) (new := [(_, tupO [.int (bc % 256) _, .int (ms.getD (hl % 64).toNat 0) _])]) (is := is) (by k_asm) (by k_asm) N hsub (five_in (by k_mem) (by k_mem) (by k_mem) (by k_mem) (by k_mem)) (one_mem (by k_mem)) (by k_extra "mz keeps") (fun p hp => by rw [List.mem_singleton.mp hp]; exact hfr) s3 ?_ D0 (fun _ kk hm => (ho.keep kk).snoc (hm _ (.head _)) hoff) (fun led' kF kN M K => ret led' _ _ _ kF kN M K)
    first
      | exact vals3 V0 (by with_reducible assumption)
      | exact vals_pc (vals3 V0 (by with_reducible assumption)) (by with_reducible assumption) (by with_reducible assumption) (by with_reducible assumption)
end
end Mz

end
namespace Mz
section
variable {w : World} {dp un : Nat} {gd : Option (List Code)} {cn : Str} {cs : Scope} {a : Addr} {ccd : Value} {cl : List (Str × Addr)} {outer : List Env} {A₀ : Around} {base h₀ : Heap} {L : Addr} {m mg mb : Str → Option Value} {mean : ExcName → Option Value}
  {led : List (Addr × Obj)} {s : Shared} {Q E : Value → Shared → Prop}
  (B : Below A₀ base outer h₀) (F : Fr h₀ L s.heap m) (X : (hd.heap_39 w.params).In h₀) (N : News h₀ L s.heap led) (T : Top hd.view_39 LO mean mg mb h₀) (hk : cs.kind = .function) (hz : dp + 14 < 900) (hu : un + 140 < 2000)
include B F X N T hk hz hu

theorem c_blk {A : Ad} {is : List Int} {x : S} {pc y z st : Int} {ty tz : Tok} (M : Mch led A is x pc) (D : Dist A) (hsz : x.at_ < 2 ^ 59 ∧ x.outs.length ≤ 900) (hin : z = 2 → 0 < is.length)
    (hy : 4 ≤ y ∧ y ≤ 7) (hz4 : 0 ≤ z ∧ z < 4) (hst : (Builtin.bitAnd y 1 = 0 → st = 1) ∧ (Builtin.bitAnd y 1 ≠ 0 → st = -1))
    (ret : ∀ led' t h' tk', Fr h₀ L h' m → News h₀ L h' led' → Mch led' A is (stp z is st x) (if y ≥ 6 ∧ goes z (stp z is st x) = true then (pc - 2) % 65536 else pc) → Kept A led led' →
      Q (.int (if y ≥ 6 ∧ goes z (stp z is st x) = true then 21 else 16) t) { s with heap := h', toks := tk' }) :
    wpAny (model PR w) (ktrTop dp un gd cn cs L a ccd cl outer) (call (.ref 289) [.ref A.c, .ref A.mm, .ref A.p, .int y ty, .int z tz]) Q E s := by
  have hz' : z = 0 ∨ z = 1 ∨ z = 2 ∨ z = 3 := by omega
  rcases hz' with rfl | rfl | rfl | rfl
  · exact c_blk0 B F X N T hk hz hu M D hsz hy hst ret
  · exact c_blk1 B F X N T hk hz hu M D hsz hy hst ret
  · exact c_blk2 B F X N T hk hz hu M D hsz (hin rfl) hy hst ret
  · exact c_blk3 B F X N T hk hz hu M D hsz hy hst ret
end
theorem Mch.mono {led led' : List (Addr × Obj)} {A : Ad} {is : List Int} {x : S} {pc : Int} (M : Mch led A is x pc) (h : ∀ q ∈ led, q ∈ led') : Mch led' A is x pc := by
  obtain ⟨es, n, vs, k, mv, km, pes, pn, iv, ki, ov, ko, V, s3, s5, ho⟩ := M
  refine ⟨es, n, vs, k, mv, km, pes, pn, iv, ki, ov, ko, V, fun q hq => h q (s3 q hq), fun q hq => h q (s5 q hq), ho.1, fun i v o hv hw => ?_⟩
  obtain ⟨q, t1, t2, e, hm, hf⟩ := ho.2 i v o hv hw
  exact ⟨q, t1, t2, e, h _ hm, hf⟩
theorem Kept.trans {A : Ad} {l1 l2 l3 : List (Addr × Obj)} (h : Kept A l1 l2) (k : Kept A l2 l3) : Kept A l1 l3 := fun q hq ho => k q (h q hq ho) ho
theorem Kept.of_sub {A : Ad} {l1 l2 l3 : List (Addr × Obj)} (k : Kept A l2 l3) (h : ∀ q ∈ l1, q ∈ l2) : Kept A l1 l3 := fun q hq ho => k q (h q hq) ho
def OctOk (oct : Int) : Prop := 160 ≤ oct ∧ oct < 192 ∧ oct % 8 < 4
def octZ (oct : Int) : Int := oct % 8
def octSt (oct : Int) : Int := if oct / 8 % 2 = 0 then 1 else -1
theorem oct6 {oct : Int} (h : OctOk oct) : oct.fdiv (2 ^ Int.toNat 6) = 2 := by
  rw [show (2 : Int) ^ Int.toNat 6 = 64 from by decide, Int.fdiv_eq_ediv_of_nonneg oct (by decide)]
  obtain ⟨h1, h2, h3⟩ := h; omega
theorem oct3 (oct : Int) : Builtin.bitAnd (oct.fdiv (2 ^ Int.toNat 3)) 7 = oct / 8 % 8 := by
  rw [bitAnd_m3, show (2 : Int) ^ Int.toNat 3 = 8 from by decide, Int.fdiv_eq_ediv_of_nonneg oct (by decide)]
theorem oct0 (oct : Int) : Builtin.bitAnd oct 7 = octZ oct := bitAnd_m3 oct
theorem octS (oct : Int) : (Builtin.bitAnd (oct / 8 % 8) 1 = 0 → octSt oct = 1) ∧ (Builtin.bitAnd (oct / 8 % 8) 1 ≠ 0 → octSt oct = -1) := by
  rw [bitAnd_m1]
  unfold octSt
  constructor <;> intro h <;> split <;> omega
end Mz

section
example : True := by
  k_with_none
  k_with "mz enter" => ((case k6 => k_is); (case k7 => k_is); (case k8 => ktr_room); (case k9 => exact BindsTo.of_eq rfl); (case c5 => decide); (case kB => exact locs rfl); (case c2 => exact rfl); (case c3 => exact rfl); (case c4 => exact rfl); k_whole; intro g'x L'x h'x tk'x F'x N'x B'x X'x T'x l'x hg'x; (try dsimp only); (try k_fold))
  k_with "mz steps" => repeat' (first | (k_unfold; (try dsimp only)) | (walk1; (try dsimp only)) | (dsimp only; walk1) | (dsimp only; k_unfold; (try dsimp only)) | (k_unmd; k_unfold; (try dsimp only)))
  k_with "mz keeps" => first | exact Mz.keeps_nil | (refine Mz.keeps_cons ?_ ?_; (first | (refine Or.inl ?_; k_mem) | exact Or.inr ⟨_, .head _, rfl⟩ | exact Or.inr ⟨_, .tail _ (.head _), rfl⟩ | exact Or.inr ⟨_, .tail _ (.tail _ (.head _)), rfl⟩ | exact Or.inr ⟨_, .tail _ (.tail _ (.tail _ (.head _))), rfl⟩ | exact Or.inr ⟨_, .tail _ (.tail _ (.tail _ (.tail _ (.head _)))), rfl⟩); k_extra "mz keeps")
  k_with "mz:ite" => first | refine Mz.beq_pos (by omega) ?_ | refine Mz.beq_neg (by omega) ?_ | refine Mz.bne_pos (by omega) ?_ | refine Mz.bne_neg (by omega) ?_ | refine Mz.dec_pos (by omega) ?_ | refine Mz.dec_neg (by omega) ?_
  k_with "mz:binaryOp LShift int int" => refine lshift_int_small (by decide) (by decide) (Mz.sh8' (by assumption)) ?_
  k_with "mz:setItem ref int" => (k_here; (with_reducible show wpAny _ _ (setItem (Value.ref _) (Value.int _ _) (Value.int _ _)) _ _ _); k_dflt (refine' Mz.set_at ?k1_6 ?k2_6 ?k3_6 ?k4_6 ?k5_6 ?k6_6 ?k7_6 ?k8_6 ?_; (case k1_6 => k_asm); (case k2_6 => k_asm); (case k3_6 => k_updF); (case k4_6 => with_reducible assumption); (case k5_6 => ksa_idx); (case k6_6 => ksa_idx); (case k7_6 => ksa_idx); (case k8_6 => first | exact Mz.R_s6 | exact Mz.R_s0b | exact Mz.R_s0 | exact rfl); k_whole); intro h'x vs'x F'x N'x hi'x hl'x; (try dsimp only at N'x); (try k_sweep))
  k_with "mz dp" => ((try dsimp only [ktrTop, Around.deeper]); first | exact Mz.dp2 (by with_reducible assumption) rfl | exact Mz.dp1 (by with_reducible assumption) rfl | omega)
  k_with "mz ctx" => ((case cB => k_asm); (case cF => k_asm); (case cX => k_asm); (case cN => k_asm); (case cT => k_asm); (case ck => exact rfl); (case cz => k_extra "mz dp"); (case cu => k_extra "mz dp"))
  k_with "mz ifs" => ((repeat' split) <;> first | with_reducible rfl | (exfalso; first | contradiction | omega))
  k_with "mz rem" => first | (refine' Mz.Rem.head ?a_10; (case a_10 => k_all)) | (refine' Mz.Rem.tail ?a_10 ?b_10; (case a_10 => k_ne); (case b_10 => k_extra "mz rem"))
  k_with "mz len" => first | with_reducible assumption | exact Mz.R_len | with_reducible exact Mz.setPr_len (by k_extra "mz len")
  k_with "mz byt" => first | with_reducible assumption | exact Mz.R_byt (by omega) (by omega) (by omega) | with_reducible exact Mz.setPr_byt (by k_extra "mz byt")
  k_with "mz getL" => first | with_reducible assumption | (refine' Mz.getL_oth ?ga_13 ?gb_13 ?gc_13; (case ga_13 => with_reducible assumption); (case gb_13 => decide +kernel); (case gc_13 => k_extra "mz getL"))
  k_with "mz:getAttr ref" => (k_here; k_dflt (refine' get_own ?k1_14 ?k2_14 ?k3_14 ?k4_14 ?k5_14 ?k6_14 ?k7_14 ?k8_14 ?k9_14 ?_; (case k1_14 => k_asm); (case k2_14 => k_asm); (case k3_14 => k_inst); (case k4_14 => k_is); (case k5_14 => k_is); (case k6_14 => k_is); (case k7_14 => k_is); (case k8_14 => k_extra "mz getL"); (case k9_14 => k_handed); k_whole))
  k_with "mz:setAttr ref" => (k_here; k_dflt (refine' Mz.set_own ?k1_15 ?k2_15 ?k3_15 ?k4_15 ?k5_15 ?k6_15 ?k7_15 ?k8_15 ?k9_15 ?k10_15 ?k11_15 ?k12_15 ?_; (case k1_15 => k_asm); (case k2_15 => k_asm); (case k3_15 => k_asm); (case k4_15 => k_inst); (case k5_15 => exact rfl); (case k6_15 => k_is); (case k7_15 => k_is); (case k8_15 => k_is); (case k9_15 => k_is); (case k10_15 => k_extra "mz getL"); (case k11_15 => first | with_reducible assumption | omega); (case k12_15 => k_extra "mz rem"); k_whole; intro h'x es'x n'x hs'x ho'x hz'x F'x N'x; (try k_sweep)))
  k_with "mz:subscriptTail" => (k_here; (with_reducible show wpAny _ _ (subscriptTail _ _ (Value.ref _) (Value.int _ _)) _ _ _); k_dflt (refine' Mz.sub_at ?k1_16 ?k2_16 ?k3_16 ?k4_16 ?k5_16 ?k6_16 ?k8_16 ?_ ?k7_16; (case k1_16 => k_asm); (case k2_16 => k_mem); (case k3_16 => with_reducible assumption); (case k4_16 => ksa_idx); (case k5_16 => ksa_idx); (case k6_16 => ksa_idx); (case k7_16 => with_unfolding_all rfl); (case k8_16 => first | with_reducible_and_instances exact Mz.R_g0 | with_reducible_and_instances exact Mz.R_g1 | with_reducible_and_instances exact Mz.R_g6 | with_reducible_and_instances exact Mz.R_g7 | exact Mz.R_g0 | exact Mz.R_g1 | exact Mz.R_g6 | exact Mz.R_g7 | exact rfl); k_whole); intro _)
  k_with "mz lt" => first | exact Mz.Lts.lt (by with_reducible assumption) (by k_mem) | with_reducible assumption | exact Mz.lt_s (by k_extra "mz lt")
  k_with "mz and" => first | exact And.left (by with_reducible assumption) | exact And.left (And.right (by with_reducible assumption)) | exact And.left (And.right (And.right (by with_reducible assumption))) | exact And.left (And.right (And.right (And.right (by with_reducible assumption)))) | exact And.left (And.right (And.right (And.right (And.right (by with_reducible assumption))))) | exact And.left (And.right (And.right (And.right (And.right (And.right (by with_reducible assumption)))))) | exact And.left (And.right (And.right (And.right (And.right (And.right (And.right (by with_reducible assumption))))))) | exact And.right (by with_reducible assumption) | exact And.right (And.right (by with_reducible assumption)) | exact And.right (And.right (And.right (by with_reducible assumption))) | exact And.right (And.right (And.right (And.right (by with_reducible assumption)))) | exact And.right (And.right (And.right (And.right (And.right (by with_reducible assumption))))) | exact And.right (And.right (And.right (And.right (And.right (And.right (by with_reducible assumption))))))
  k_with "mz neq" => first | exact Nat.ne_of_lt (Mz.Lts.lt (by with_reducible assumption) (by k_mem)) | exact Nat.ne_of_gt (Mz.Lts.lt (by with_reducible assumption) (by k_mem)) | exact Mz.Nes.ne (by with_reducible assumption) (by k_mem) | exact Ne.symm (Mz.Nes.ne (by with_reducible assumption) (by k_mem)) | exact Nat.ne_of_lt (by with_reducible assumption) | exact Nat.ne_of_gt (by with_reducible assumption) | exact Nat.ne_of_gt (Mz.lt_s (by k_extra "mz lt")) | exact Nat.ne_of_lt (Mz.lt_s (by k_extra "mz lt")) | exact Nat.ne_of_gt (Mz.lt_tr (by with_reducible assumption) (by k_extra "mz lt")) | exact Nat.ne_of_lt (Mz.lt_tr (by with_reducible assumption) (by k_extra "mz lt")) | exact Mz.NeA.out (by k_extra "mz and") | exact Ne.symm (Mz.NeA.out (by k_extra "mz and"))
  k_with "mz all" => first | exact List.forall_mem_nil _ | ((with_reducible refine Mz.all_cons ?_ ?_); (k_ne); (k_extra "mz all")) | exact OwnOff.ne (by assumption) (by k_memK) | exact Mz.all_cons (by k_ne) (by k_extra "mz all")
  k_with "mz ne" => first | with_reducible assumption | exact Mz.NeA.symm (by with_reducible assumption) | exact Mz.NeA.of (by k_extra "mz neq") | exact Mz.NeA.of (by omega)
  k_with "mz nes" => first | (refine And.intro ?_ ?_; (k_extra "mz ne"); (k_extra "mz nes")) | k_extra "mz ne"
  k_with "mz ksa_idx" => ((rw [Mz.R_len]); decide)
  k_with "mz k_ne" => (refine neN ?_; (try dsimp only); first | exact Mz.NeA.out (by with_reducible assumption) | exact Ne.symm (Mz.NeA.out (by with_reducible assumption)) | k_extra "mz neq" | omega)
  k_with "mz k_all" => first | exact Mz.ne_lts (by with_reducible assumption) (by exact rfl) | exact Mz.ne_nes (by with_reducible assumption) (by exact rfl) | k_extra "mz all"
  k_with "mz:call ref" => (k_here; (with_reducible show wpAny _ _ (call (Value.ref 289) _) _ _ _); rw [Mz.oct3, Mz.oct0]; k_dflt (refine' Mz.c_blk ?cB ?cF ?cX ?cN ?cT ?ck ?cz ?cu ?hM_43 ?hD_43 ?hsz_43 ?hin_43 ?hy_43 ?hz4_43 ?hst_43 ?_; k_extra "mz ctx"; (case hM_43 => (refine' Mz.Mch.mono ?ma_43 ?mb_43; (case ma_43 => with_reducible assumption); (case mb_43 => exact fun _ h => List.Mem.tail _ h))); (case hD_43 => with_reducible assumption); (case hsz_43 => with_reducible assumption); (case hin_43 => with_reducible assumption); (case hy_43 => with_reducible assumption); (case hz4_43 => with_reducible assumption); (case hst_43 => exact Mz.octS _); k_whole); intro led9x t9x h9x tk9x F9x N9x M9x K9x; (try dsimp only))
  trivial
namespace Mz
section
variable {w : World} {dp un : Nat} {gd : Option (List Code)} {cn : Str} {cs : Scope} {a : Addr} {ccd : Value} {cl : List (Str × Addr)} {outer : List Env} {A₀ : Around} {base h₀ : Heap} {L : Addr} {m mg mb : Str → Option Value} {mean : ExcName → Option Value}
  {led : List (Addr × Obj)} {s : Shared} {Q E : Value → Shared → Prop}
  (B : Below A₀ base outer h₀) (F : Fr h₀ L s.heap m) (X : (hd.heap_39 w.params).In h₀) (N : News h₀ L s.heap led) (T : Top hd.view_39 LO mean mg mb h₀) (hk : cs.kind = .function) (hz : dp + 15 < 900) (hu : un + 150 < 2000)
include B F X N T hk hz hu

theorem c_ed {A : Ad} {is : List Int} {x : S} {pc oct : Int} {to : Tok} (M : Mch led A is x pc) (D : Dist A) (hsz : x.at_ < 2 ^ 59 ∧ x.outs.length ≤ 900) (hin : octZ oct = 2 → 0 < is.length) (hoct : OctOk oct)
    (ret : ∀ led' t h' tk', Fr h₀ L h' m → News h₀ L h' led' → Mch led' A is (stp (octZ oct) is (octSt oct) x) (if oct ≥ 176 ∧ goes (octZ oct) (stp (octZ oct) is (octSt oct) x) = true then (pc - 2) % 65536 else pc) → Kept A led led' →
      Q (.int (if oct ≥ 176 ∧ goes (octZ oct) (stp (octZ oct) is (octSt oct) x) = true then 21 else 16) t) { s with heap := h', toks := tk' }) :
    wpAny (model PR w) (ktrTop dp un gd cn cs L a ccd cl outer) (call (.ref 254) [.ref A.c, .ref A.mm, .ref A.p, .int oct to]) Q E s := by
  have h6 := oct6 hoct
  have h3 : 3 < Builtin.bitAnd (oct.fdiv (2 ^ Int.toNat 3)) 7 := by rw [oct3]; obtain ⟨g1, g2, g3⟩ := hoct; omega
  have h0 : Builtin.bitAnd oct 7 < 4 := by rw [oct0]; exact hoct.2.2
  have hy : 4 ≤ oct / 8 % 8 ∧ oct / 8 % 8 ≤ 7 := by obtain ⟨g1, g2, g3⟩ := hoct; omega
  have hz4 : 0 ≤ octZ oct ∧ octZ oct < 4 := ⟨by unfold octZ; omega, hoct.2.2⟩
  have e6 : (oct ≥ 176) = (oct / 8 % 8 ≥ 6) := by obtain ⟨g1, g2, g3⟩ := hoct; exact propext ⟨fun _ => by omega, fun _ => by omega⟩
  simp only [e6] at ret
  refine wpAny_call ?_
  k_dflt (refine' code_in (K := hd.heap_39 w.params) (small := led) B F X N T (fun _ h => h) rfl rfl hk ?k6 ?k7 ?k8 ?k9 ?kB ?_ ?c2 ?c3 ?c4 ?c5)
  k_extra "mz enter"
  k_extra "mz steps"
  (with_reducible rename Fr _ _ _ _ => F9)
  (with_reducible rename News _ _ _ _ => N9)
  (with_reducible rename Mch _ _ _ _ _ => M9)
  (with_reducible rename Kept _ _ _ => K9)
  exact back_ F9 N9 (fun q hq => .inl hq) (fun kF kN => ret _ _ _ _ kF kN M9 (K9.of_sub (fun _ h => .tail _ h)))
end
end Mz

end
example : True := by
  k_with_none
  k_with "mz enter" => ((case k6 => k_is); (case k7 => k_is); (case k8 => ktr_room); (case k9 => exact BindsTo.of_eq rfl); (case c5 => decide); (case kB => exact locs rfl); (case c2 => exact rfl); (case c3 => exact rfl); (case c4 => exact rfl); k_whole; intro g'x L'x h'x tk'x F'x N'x B'x X'x T'x l'x hg'x; (try dsimp only); (try k_fold))
  k_with "mz steps" => repeat' (first | (k_unfold; (try dsimp only)) | (walk1; (try dsimp only)) | (dsimp only; walk1) | (dsimp only; k_unfold; (try dsimp only)) | (k_unmd; k_unfold; (try dsimp only)))
  k_with "mz keeps" => first | exact Mz.keeps_nil | (refine Mz.keeps_cons ?_ ?_; (first | (refine Or.inl ?_; k_mem) | exact Or.inr ⟨_, .head _, rfl⟩ | exact Or.inr ⟨_, .tail _ (.head _), rfl⟩ | exact Or.inr ⟨_, .tail _ (.tail _ (.head _)), rfl⟩ | exact Or.inr ⟨_, .tail _ (.tail _ (.tail _ (.head _))), rfl⟩ | exact Or.inr ⟨_, .tail _ (.tail _ (.tail _ (.tail _ (.head _)))), rfl⟩); k_extra "mz keeps")
  k_with "mz:ite" => first | refine Mz.beq_pos (by omega) ?_ | refine Mz.beq_neg (by omega) ?_ | refine Mz.bne_pos (by omega) ?_ | refine Mz.bne_neg (by omega) ?_ | refine Mz.dec_pos (by omega) ?_ | refine Mz.dec_neg (by omega) ?_
  k_with "mz:binaryOp LShift int int" => refine lshift_int_small (by decide) (by decide) (Mz.sh8' (by assumption)) ?_
  k_with "mz:setItem ref int" => (k_here; (with_reducible show wpAny _ _ (setItem (Value.ref _) (Value.int _ _) (Value.int _ _)) _ _ _); k_dflt (refine' Mz.set_at ?k1_6 ?k2_6 ?k3_6 ?k4_6 ?k5_6 ?k6_6 ?k7_6 ?k8_6 ?_; (case k1_6 => k_asm); (case k2_6 => k_asm); (case k3_6 => k_updF); (case k4_6 => with_reducible assumption); (case k5_6 => ksa_idx); (case k6_6 => ksa_idx); (case k7_6 => ksa_idx); (case k8_6 => first | exact Mz.R_s6 | exact Mz.R_s0b | exact Mz.R_s0 | exact rfl); k_whole); intro h'x vs'x F'x N'x hi'x hl'x; (try dsimp only at N'x); (try k_sweep))
  k_with "mz dp" => ((try dsimp only [ktrTop, Around.deeper]); first | exact Mz.dp2 (by with_reducible assumption) rfl | exact Mz.dp1 (by with_reducible assumption) rfl | omega)
  k_with "mz ctx" => ((case cB => k_asm); (case cF => k_asm); (case cX => k_asm); (case cN => k_asm); (case cT => k_asm); (case ck => exact rfl); (case cz => k_extra "mz dp"); (case cu => k_extra "mz dp"))
  k_with "mz ifs" => ((repeat' split) <;> first | with_reducible rfl | (exfalso; first | contradiction | omega))
  k_with "mz rem" => first | (refine' Mz.Rem.head ?a_10; (case a_10 => k_all)) | (refine' Mz.Rem.tail ?a_10 ?b_10; (case a_10 => k_ne); (case b_10 => k_extra "mz rem"))
  k_with "mz len" => first | with_reducible assumption | exact Mz.R_len | with_reducible exact Mz.setPr_len (by k_extra "mz len")
  k_with "mz byt" => first | with_reducible assumption | exact Mz.R_byt (by omega) (by omega) (by omega) | with_reducible exact Mz.setPr_byt (by k_extra "mz byt")
  k_with "mz getL" => first | with_reducible assumption | (refine' Mz.getL_oth ?ga_13 ?gb_13 ?gc_13; (case ga_13 => with_reducible assumption); (case gb_13 => decide +kernel); (case gc_13 => k_extra "mz getL"))
  k_with "mz:getAttr ref" => (k_here; k_dflt (refine' get_own ?k1_14 ?k2_14 ?k3_14 ?k4_14 ?k5_14 ?k6_14 ?k7_14 ?k8_14 ?k9_14 ?_; (case k1_14 => k_asm); (case k2_14 => k_asm); (case k3_14 => k_inst); (case k4_14 => k_is); (case k5_14 => k_is); (case k6_14 => k_is); (case k7_14 => k_is); (case k8_14 => k_extra "mz getL"); (case k9_14 => k_handed); k_whole))
  k_with "mz:setAttr ref" => (k_here; k_dflt (refine' Mz.set_own ?k1_15 ?k2_15 ?k3_15 ?k4_15 ?k5_15 ?k6_15 ?k7_15 ?k8_15 ?k9_15 ?k10_15 ?k11_15 ?k12_15 ?_; (case k1_15 => k_asm); (case k2_15 => k_asm); (case k3_15 => k_asm); (case k4_15 => k_inst); (case k5_15 => exact rfl); (case k6_15 => k_is); (case k7_15 => k_is); (case k8_15 => k_is); (case k9_15 => k_is); (case k10_15 => k_extra "mz getL"); (case k11_15 => first | with_reducible assumption | omega); (case k12_15 => k_extra "mz rem"); k_whole; intro h'x es'x n'x hs'x ho'x hz'x F'x N'x; (try k_sweep)))
  k_with "mz:subscriptTail" => (k_here; (with_reducible show wpAny _ _ (subscriptTail _ _ (Value.ref _) (Value.int _ _)) _ _ _); k_dflt (refine' Mz.sub_at ?k1_16 ?k2_16 ?k3_16 ?k4_16 ?k5_16 ?k6_16 ?k8_16 ?_ ?k7_16; (case k1_16 => k_asm); (case k2_16 => k_mem); (case k3_16 => with_reducible assumption); (case k4_16 => ksa_idx); (case k5_16 => ksa_idx); (case k6_16 => ksa_idx); (case k7_16 => with_unfolding_all rfl); (case k8_16 => first | with_reducible_and_instances exact Mz.R_g0 | with_reducible_and_instances exact Mz.R_g1 | with_reducible_and_instances exact Mz.R_g6 | with_reducible_and_instances exact Mz.R_g7 | exact Mz.R_g0 | exact Mz.R_g1 | exact Mz.R_g6 | exact Mz.R_g7 | exact rfl); k_whole); intro _)
  k_with "mz lt" => first | exact Mz.Lts.lt (by with_reducible assumption) (by k_mem) | with_reducible assumption | exact Mz.lt_s (by k_extra "mz lt")
  k_with "mz and" => first | exact And.left (by with_reducible assumption) | exact And.left (And.right (by with_reducible assumption)) | exact And.left (And.right (And.right (by with_reducible assumption))) | exact And.left (And.right (And.right (And.right (by with_reducible assumption)))) | exact And.left (And.right (And.right (And.right (And.right (by with_reducible assumption))))) | exact And.left (And.right (And.right (And.right (And.right (And.right (by with_reducible assumption)))))) | exact And.left (And.right (And.right (And.right (And.right (And.right (And.right (by with_reducible assumption))))))) | exact And.right (by with_reducible assumption) | exact And.right (And.right (by with_reducible assumption)) | exact And.right (And.right (And.right (by with_reducible assumption))) | exact And.right (And.right (And.right (And.right (by with_reducible assumption)))) | exact And.right (And.right (And.right (And.right (And.right (by with_reducible assumption))))) | exact And.right (And.right (And.right (And.right (And.right (And.right (by with_reducible assumption))))))
  k_with "mz neq" => first | exact Nat.ne_of_lt (Mz.Lts.lt (by with_reducible assumption) (by k_mem)) | exact Nat.ne_of_gt (Mz.Lts.lt (by with_reducible assumption) (by k_mem)) | exact Mz.Nes.ne (by with_reducible assumption) (by k_mem) | exact Ne.symm (Mz.Nes.ne (by with_reducible assumption) (by k_mem)) | exact Nat.ne_of_lt (by with_reducible assumption) | exact Nat.ne_of_gt (by with_reducible assumption) | exact Nat.ne_of_gt (Mz.lt_s (by k_extra "mz lt")) | exact Nat.ne_of_lt (Mz.lt_s (by k_extra "mz lt")) | exact Nat.ne_of_gt (Mz.lt_tr (by with_reducible assumption) (by k_extra "mz lt")) | exact Nat.ne_of_lt (Mz.lt_tr (by with_reducible assumption) (by k_extra "mz lt")) | exact Mz.NeA.out (by k_extra "mz and") | exact Ne.symm (Mz.NeA.out (by k_extra "mz and"))
  k_with "mz all" => first | exact List.forall_mem_nil _ | ((with_reducible refine Mz.all_cons ?_ ?_); (k_ne); (k_extra "mz all")) | exact OwnOff.ne (by assumption) (by k_memK) | exact Mz.all_cons (by k_ne) (by k_extra "mz all")
  k_with "mz ne" => first | with_reducible assumption | exact Mz.NeA.symm (by with_reducible assumption) | exact Mz.NeA.of (by k_extra "mz neq") | exact Mz.NeA.of (by omega)
  k_with "mz nes" => first | (refine And.intro ?_ ?_; (k_extra "mz ne"); (k_extra "mz nes")) | k_extra "mz ne"
  k_with "mz ksa_idx" => ((rw [Mz.R_len]); decide)
  k_with "mz k_ne" => (refine neN ?_; (try dsimp only); first | exact Mz.NeA.out (by with_reducible assumption) | exact Ne.symm (Mz.NeA.out (by with_reducible assumption)) | k_extra "mz neq" | omega)
  k_with "mz k_all" => first | exact Mz.ne_lts (by with_reducible assumption) (by exact rfl) | exact Mz.ne_nes (by with_reducible assumption) (by exact rfl) | k_extra "mz all"
  trivial
namespace Mz
section
variable {w : World} {Ar : Around} {h₀ : Heap} {L : Addr} {m : Str → Option Value} {led : List (Addr × Obj)} {s : Shared} {E : Value → Shared → Prop} {A : Ad} {is : List Int} {x : S} {pc v : Int}
theorem get_pc {expr : Bool} {Q : Value → Shared → Prop} (F : Fr h₀ L s.heap m) (X : (hd.heap_39 w.params).In h₀) (N : News h₀ L s.heap led) (M : Mch led A is x pc) (h : ∀ t, Q (.int pc t) { s with toks := s.toks + 1 }) :
    wpAny (model PR w) Ar (getAttr (.ref A.c) (Str.ofString "pc") expr) Q E s := by
  obtain ⟨es, n, vs, k, mv, km, pes, pn, iv, ki, ov, ko, V, s3, s5, ho⟩ := M
  obtain ⟨t, hp⟩ := V.gp
  exact get_own (K := hd.heap_39 w.params) F X (InstAt.of_news N (s3 _ (.head _)) (s5 _ (.tail _ (.tail _ (.head _))))) (by k_is) (by k_is) (by k_is) (by k_is) hp rfl (h t)
theorem set_pc {Q : Unit → Shared → Prop} {t : Tok} (F : Fr h₀ L s.heap m) (X : (hd.heap_39 w.params).In h₀) (N : News h₀ L s.heap led) (M : Mch led A is x pc) (D : Dist A) (hv : 0 ≤ v ∧ v < 65536)
    (h : ∀ h' led', Fr h₀ L h' m → News h₀ L h' led' → Mch led' A is x v → Kept A led led' → Q () { s with heap := h', toks := s.toks + 2 }) :
    wpAny (model PR w) Ar (setAttr (.ref A.c) (Str.ofString "pc") (.int v t)) Q E s := by
  obtain ⟨es, n, vs, k, mv, km, pes, pn, iv, ki, ov, ko, V, s3, s5, ho⟩ := M
  obtain ⟨tp, hp⟩ := V.gp
  have hdx : (A.dx, dictOf es n) ∈ led := s5 _ (.tail _ (.tail _ (.head _)))
  have hin : ∀ q ∈ led, q.1 ≠ A.dx → q ∈ led.filter (fun q => decide (q.1 ≠ A.dx)) := fun q hq hn => List.mem_filter.mpr ⟨hq, decide_eq_true hn⟩
  refine set_own (K := hd.heap_39 w.params) (led := (A.dx, dictOf es n) :: led.filter (fun q => decide (q.1 ≠ A.dx))) (l1 := led.filter (fun q => decide (q.1 ≠ A.dx))) F X (fun q hq => ?_) (InstAt.of_news N (s3 _ (.head _)) hdx) rfl (by k_is) (by k_is) (by k_is) (by k_is) hp V.ze (.head fun p hp => of_decide_eq_true (List.mem_filter.mp hp).2) fun h' es' n' hp' ho' hz' F' N' => ?_
  · rcases List.mem_cons.mp hq with rfl | hq
    · exact N _ hdx
    · exact N _ (List.mem_filter.mp hq).1
  · have kept : Kept A led ((A.dx, dictOf es' n') :: led.filter (fun q => decide (q.1 ≠ A.dx))) := fun q hq hf => .tail _ (hin q hq hf.2.2.1)
    have D0 := D
    obtain ⟨n1, n2, n3, n4, n5, n6, n7, n8, n9, n10, n11, n12, n13, n14, n15, n16, n17, n18, n19, n20, n21, n22, n23, n24, n25, n26, n27, n28⟩ := D
    refine h h' _ F' N' ⟨es', n', vs, k, mv, km, pes, pn, iv, ki, ov, ko, ⟨(ho' _ (by decide +kernel)).trans V.gr, ⟨t, hp'⟩, hz', V.gi, V.go, V.ga, V.zp, V.ir, V.im, V.ii, V.ml, V.mb, V.ib, V.il, V.bc, V.de, V.hl, V.at0, hv⟩, fun q hq => kept _ (s3 q hq) (three_off D0 q hq), five_in ?_ ?_ (.head _) ?_ ?_, ho.keep kept⟩ kept
    · exact .tail _ (hin _ (s5 _ (.head _)) n8.symm)
    · exact .tail _ (hin _ (s5 _ (.tail _ (.head _))) n9.symm)
    · exact .tail _ (hin _ (s5 _ (.tail _ (.tail _ (.tail _ (.head _))))) n11.symm)
    · exact .tail _ (hin _ (s5 _ (.tail _ (.tail _ (.tail _ (.tail _ (.head _)))))) n13.symm)
end
noncomputable def iter (z : Int) (is : List Int) (st : Int) (x : S) : Nat → S
  | 0 => x
  | n + 1 => stp z is st (iter z is st x n)
theorem stp_at {z : Int} {is : List Int} {st : Int} {x : S} : (stp z is st x).at_ ≤ x.at_ + 1 ∧ (stp z is st x).outs.length ≤ x.outs.length + 1 := by
  unfold stp
  split
  · exact ⟨by show x.at_ ≤ _; omega, Nat.le_succ _⟩
  · split
    · exact ⟨by show x.at_ ≤ _; omega, Nat.le_succ _⟩
    · split
      · exact ⟨Int.le_refl _, Nat.le_succ _⟩
      · exact ⟨by show x.at_ ≤ _; omega, by show (x.outs ++ [_]).length ≤ _; rw [List.length_append]; exact Nat.le_refl _⟩
theorem iter_at {z : Int} {is : List Int} {st : Int} {x : S} : ∀ n, (iter z is st x n).at_ ≤ x.at_ + n ∧ (iter z is st x n).outs.length ≤ x.outs.length + n
  | 0 => ⟨by show x.at_ ≤ _; omega, Nat.le_refl _⟩
  | n + 1 => by
    have h := iter_at (z := z) (is := is) (st := st) (x := x) n
    have k := stp_at (z := z) (is := is) (st := st) (x := iter z is st x n)
    refine ⟨?_, ?_⟩
    · show (stp z is st _).at_ ≤ _; omega
    · show (stp z is st _).outs.length ≤ _; omega
end Mz

namespace Mz
section
variable {w : World} {dp un : Nat} {gd : Option (List Code)} {cn : Str} {cs : Scope} {a : Addr} {ccd : Value} {cl : List (Str × Addr)} {outer : List Env} {A₀ : Around} {base h₀ : Heap} {L : Addr} {m mg mb : Str → Option Value} {mean : ExcName → Option Value}
  {led : List (Addr × Obj)} {s : Shared} {Q E : Value → Shared → Prop}
  (B : Below A₀ base outer h₀) (F : Fr h₀ L s.heap m) (X : (hd.heap_39 w.params).In h₀) (N : News h₀ L s.heap led) (T : Top hd.view_39 LO mean mg mb h₀) (hk : cs.kind = .function) (hz : dp + 15 < 900) (hu : un + 150 < 2000)
include B F X N T hk hz hu
theorem c_ed2 {A : Ad} {is : List Int} {x : S} {oct : Int} {to : Tok} (M : Mch led A is x 102) (D : Dist A) (hsz : x.at_ < 2 ^ 59 ∧ x.outs.length ≤ 900) (hin : octZ oct = 2 → 0 < is.length) (hoct : OctOk oct) (hrep : oct ≥ 176)
    (ret1 : goes (octZ oct) (stp (octZ oct) is (octSt oct) x) = true → ∀ led' t h' tk', Fr h₀ L h' m → News h₀ L h' led' → Mch led' A is (stp (octZ oct) is (octSt oct) x) 100 → Kept A led led' → Q (.int 21 t) { s with heap := h', toks := tk' })
    (ret2 : goes (octZ oct) (stp (octZ oct) is (octSt oct) x) = false → ∀ led' t h' tk', Fr h₀ L h' m → News h₀ L h' led' → Mch led' A is (stp (octZ oct) is (octSt oct) x) 102 → Kept A led led' → Q (.int 16 t) { s with heap := h', toks := tk' }) :
    wpAny (model PR w) (ktrTop dp un gd cn cs L a ccd cl outer) (call (.ref 254) [.ref A.c, .ref A.mm, .ref A.p, .int oct to]) Q E s := by
  refine c_ed B F X N T hk hz hu M D hsz hin hoct fun led' t h' tk' kF kN kM kK => ?_
  by_cases e : goes (octZ oct) (stp (octZ oct) is (octSt oct) x) = true
  · have hc : oct ≥ 176 ∧ goes (octZ oct) (stp (octZ oct) is (octSt oct) x) = true := ⟨hrep, e⟩
    rw [if_pos hc] at kM
    rw [if_pos hc]
    exact ret1 e led' t h' tk' kF kN kM kK
  · have hc : ¬ (oct ≥ 176 ∧ goes (octZ oct) (stp (octZ oct) is (octSt oct) x) = true) := fun h => e h.2
    rw [if_neg hc] at kM
    rw [if_neg hc]
    exact ret2 (Bool.eq_false_iff.mpr e) led' t h' tk' kF kN kM kK
end
structure Rs where
  i : Nat
  led : List (Addr × Obj)
  t1 : Tok
  t2 : Tok
end Mz

section
example : True := by
  k_with "mz:getAttr ref" => (k_here; k_dflt (refine' Mz.get_pc ?k1_44 ?k2_44 ?k3_44 ?k4_44 ?_; (case k1_44 => k_asm); (case k2_44 => k_asm); (case k3_44 => k_asm); (case k4_44 => with_reducible assumption); k_whole); intro _)
  k_with "mz:setAttr ref" => (k_here; k_dflt (refine' Mz.set_pc ?k1_45 ?k2_45 ?k3_45 ?k4_45 ?k5_45 ?k6_45 ?_; (case k1_45 => k_asm); (case k2_45 => k_asm); (case k3_45 => k_asm); (case k4_45 => with_reducible assumption); (case k5_45 => with_reducible assumption); (case k6_45 => decide); k_whole); intro h9x led9x F9x N9x M9x K9x; (try dsimp only))
  k_with "mz:call ref" => (k_here; (with_reducible show wpAny _ _ (call (Value.ref 254) _) _ _ _); k_dflt (refine' Mz.c_ed2 ?cB ?cF ?cX ?cN ?cT ?ck ?cz ?cu ?hM_46 ?hD_46 ?hsz_46 ?hin_46 ?ho_46 ?hp_46 ?_ ?_; k_extra "mz ctx"; (case hM_46 => with_reducible assumption); (case hD_46 => with_reducible assumption); (case hsz_46 => with_reducible assumption); (case hin_46 => with_reducible assumption); (case ho_46 => with_reducible assumption); (case hp_46 => with_reducible assumption); k_whole); (intro hg9x led9x t9x h9x tk9x F9x N9x M9x K9x; (try dsimp only)))
  k_with "mz:exec While Compare cons nil" => (refine Mz.halt ?_)
  trivial
namespace Mz
section
variable {w : World} {dp un : Nat} {gd : Option (List Code)} {cn : Str} {cs : Scope} {a : Addr} {ccd : Value} {cl : List (Str × Addr)} {outer : List Env} {A₀ : Around} {base h₀ : Heap} {L : Addr} {m mg mb : Str → Option Value} {mean : ExcName → Option Value}
  {led : List (Addr × Obj)} {s : Shared} {Q E : Value → Shared → Prop}
  (B : Below A₀ base outer h₀) (F : Fr h₀ L s.heap m) (X : (hd.heap_39 w.params).In h₀) (N : News h₀ L s.heap led) (T : Top hd.view_39 LO mean mg mb h₀) (hk : cs.kind = .function) (hz : dp + 16 < 900) (hu : un + 160 < 2000)
include B F X N T hk hz hu
theorem c_rounds {A : Ad} {is : List Int} {x : S} {pc oct : Int} {n : Nat} {to : Tok} (M : Mch led A is x pc) (D : Dist A) (hn : 1 ≤ n ∧ n ≤ 300) (hat : x.at_ + n < 2 ^ 59 ∧ x.outs.length + n ≤ 900) (hin : octZ oct = 2 → 0 < is.length) (hoct : OctOk oct) (hrep : oct ≥ 176)
    (hgo : ∀ j, 1 ≤ j → j ≤ n → (goes (octZ oct) (iter (octZ oct) is (octSt oct) x j) = true ↔ j < n))
    (ret : ∀ led' q t1 t2 h' tk', Fr h₀ L h' m → News h₀ L h' ((q, tupO [.int n t1, .int (21 * n - 5) t2]) :: led') → Mch led' A is (iter (octZ oct) is (octSt oct) x n) 102 → Kept A led led' → (∀ p ∈ led', p.1 ≠ q) → Q (.ref q) { s with heap := h', toks := tk' }) :
    wpAny (model PR w) (ktrTop dp un gd cn cs L a ccd cl outer) (call (.ref 350) [.ref A.c, .ref A.mm, .ref A.p, .int oct to]) Q E s := by
  refine wpAny_call ?_
  k_dflt (refine' code_in (K := hd.heap_39 w.params) (small := led) B F X N T (fun _ h => h) rfl rfl hk ?k6 ?k7 ?k8 ?k9 ?kB ?_ ?c2 ?c3 ?c4 ?c5)
  k_extra "mz enter"
  k_extra "mz steps"
  refine unhalt ?_
  (with_reducible rename Fr _ _ _ _ => F9)
  (with_reducible rename News _ _ _ _ => N9)
  have N0 := kst_newsOf (l' := led) N9 (fun p hp => List.Mem.tail _ hp)
  refine' ksw_while (σ := Rs) (fun c => c.led) (fun c => [(Str.ofString "many", .int c.i c.t1), (Str.ofString "states", .int (21 * c.i) c.t2)]) (fun c => ∃ pc, Mch c.led A is (iter (octZ oct) is (octSt oct) x c.i) pc) [] (fun c => c.i < n ∧ Kept A led c.led) (fun c => n - c.i) ⟨0, led, _, _⟩ F9 N0 ⟨pc, M⟩ ?kk ⟨hn.1, fun _ h _ => h⟩ ?tt
  case kk => exact List.forall_mem_cons.mpr ⟨by with_unfolding_all rfl, List.forall_mem_cons.mpr ⟨by with_unfolding_all rfl, List.forall_mem_nil _⟩⟩
  rintro ⟨i, led1, t1, t2⟩ u h1 tk1 ⟨pc1, M1⟩ ⟨hi, K1⟩ F1 N1
  dsimp only at hi K1 N1 M1
  simp only [kstB, List.contains_nil, Bool.false_eq_true, if_false] at F1
  clear F9 N9 N0 F N M
  have hsz : (iter (octZ oct) is (octSt oct) x i).at_ < 2 ^ 59 ∧ (iter (octZ oct) is (octSt oct) x i).outs.length ≤ 900 := by
    have := iter_at (z := octZ oct) (is := is) (st := octSt oct) (x := x) i
    omega
  k_extra "mz steps"
  · (with_reducible rename Fr _ _ _ _ => F9)
    (with_reducible rename News _ _ _ _ => N9)
    (with_reducible rename Mch _ A is (stp _ _ _ _) 100 => M9)
    (with_reducible rename Kept A _ _ => Kb)
    (with_reducible rename Kept A led1 _ => Ka)
    (with_reducible rename goes _ _ = true => hg)
    have hlt := (hgo (i + 1) (by omega) (by omega)).mp hg
    rw [show 21 * (i : Int) + 21 = 21 * ((i + 1 : Nat) : Int) from by omega, show (i : Int) + 1 = ((i + 1 : Nat) : Int) from rfl] at F9
    exact ksw_end ⟨i + 1, _, _, _⟩ F9 N9 (fun p h => h) ⟨100, M9⟩ (List.forall_mem_cons.mpr ⟨by with_unfolding_all rfl, List.forall_mem_cons.mpr ⟨by with_unfolding_all rfl, List.forall_mem_nil _⟩⟩) (by ksw_same) ⟨hlt, K1.trans (Ka.trans Kb)⟩ (by show n - (i + 1) < n - i; omega)
  · (with_reducible rename Fr _ _ _ _ => F9)
    (with_reducible rename News _ _ _ _ => N9)
    (with_reducible rename Mch _ A is (stp _ _ _ _) 102 => M9)
    (with_reducible rename Kept A _ _ => Kb)
    (with_reducible rename Kept A led1 _ => Ka)
    (with_reducible rename goes _ _ = false => hg)
    have hnl : ¬ (i + 1 < n) := fun h => by
      have h2 := (hgo (i + 1) (by omega) (by omega)).mpr h
      exact Bool.false_ne_true (hg.symm.trans h2)
    have en : n = i + 1 := by omega
    subst en
    rw [show 21 * (i : Int) + 16 = 21 * ((i + 1 : Nat) : Int) - 5 from by omega, show (i : Int) + 1 = ((i + 1 : Nat) : Int) from rfl] at N9
    exact back_ F9 N9 (fun q hq => .inl hq) (fun kF kN => ret _ _ _ _ _ _ kF kN M9 (K1.trans (Ka.trans Kb)) (by first | exact ne_of_lts (by with_reducible assumption) | exact ne_lts (by with_reducible assumption) (by exact rfl)))
end
end Mz

end
namespace Mz
section
variable {prog : Program} {w : World} {A₀ A : Around} {s : Shared} {base h₀ : Heap} {outer : List Env} {L : Addr} {m mg mb : Str → Option Value} {env : Env} {led small : List (Addr × Obj)} {K : Frag}
  {R : Result → Shared → Prop} {name qual : Str} {params : Arguments} {body : List Stmt} {scope : Scope} {dV kV doc pm cdv ct oc : Value} {an od : Option Addr} {osl : Array (Option Value)} {f : Addr} {args : Args} {binds : List (Str × Value)}
  {p : Program} {loose : List Str} {mean : ExcName → Option Value}

theorem code_inC (B : Below A₀ base outer h₀) (F : Fr h₀ L s.heap m) (X : K.In h₀) (N : News h₀ L s.heap led) (T : Top p loose mean mg mb h₀) (hsub : ∀ q ∈ small, q ∈ led)
    (hA : A.frames = some (env :: outer)) (hf : env.frame = some L) (hke : env.scope.kind = .function)
    (ho : K.lookup f = some ⟨oc, od, .func (fnOf name qual params body scope dV kV doc pm an cdv ct), osl⟩) (hcd : codeIn K cdv qual = true) (hroom : A.depth < recursionLimit)
    (hbind : BindsTo s (fnOf name qual params body scope dV kV doc pm an cdv ct) args binds) (hkind : (binds.all fun y => scope.names.lookup y.1 == some .local || scope.names.lookup y.1 == some .cell) = true)
    (hnd : ((cellsFrom 0 scope.names []).map (·.1)).Nodup)
    (h : ∀ g L' h₁ tk cells, Fr g L' h₁ (bindL (envOfC qual scope L' f cdv).kindOf binds fun _ => none) → News g L' h₁ (cells ++ small) →
      CellsAre (bindC (envOfC qual scope L' f cdv).kindOf binds fun _ => none) (cellsFrom (L' + 1) scope.names []) cells → Below A base (env :: outer) g → K.In g → Top p loose mean mg mb g → (∀ q ∈ small, q.1 < L') → (∀ q ∈ led, q.1 < L') → (∀ q ∈ led, q.1 ∉ small.map (·.1) → g.get? q.1 = some q.2) →
      wpAny (model prog w) (A.deeper (envOfC qual scope L' f cdv)) (execs body (envOfC qual scope L' f cdv))
        (fun fl s' => Back h₀ L m led small g R (match fl with | .ret v => v | _ => .none) s') (fun _ _ => False)
        { s with heap := h₁, toks := tk })
    (hco : scope.isCoroutine = false) (hgen : scope.isGenerator = false) (hk : scope.kind = .function) : codeAny (model prog w) A (.call (.ref f) args) R s := by
  have N₁ : News h₀ L s.heap small := fun q hq => N q (hsub q hq)
  obtain ⟨FG, BG, st, _⟩ := groundX (R := R) B F N₁ hA hf hke
  refine codeAny_call_function hroom ((X.keeps F.keep) _ _ ho) rfl hco hgen rfl (codeRec_of (X.keeps F.keep) hcd) (hbind _ _ _ _ ?_)
  refine wpAny_newFunctionEnv_cells hk (kindsX hkind _) fun env' he s' x => ?_
  subst he
  refine ⟨(T.nolimit.keeps F.keep).keeps x.toInCall.keep, codeAny_func ?_⟩
  obtain ⟨h₁, tk, rfl, _⟩ := x.done
  have hk₁ := x.toInCall.keep
  obtain ⟨cells, NC, Y⟩ := Cl.news (h₀ := s.heap) (Nat.le_refl _) fun n c hm => ⟨x.cell n c (lookup_of_mem_nodup (cellsFrom_names scope.names 0 (s.heap.objs.size + 1) [] [] rfl ▸ hnd) hm), x.above n c hm⟩
  refine wpAny_mono (h _ s.heap.objs.size h₁ tk cells ⟨x.toInCall.ns, fun b o e => hk₁ b o (of_hideAll _ e), Nat.le_of_eq (hideAll_size _ _)⟩ (fun q hq => ?_) Y BG (X.keeps st) (T.keeps st) (fun q hq => Heap.lt_size (N₁ q hq).1) (fun q hq => Heap.lt_size (N q hq).1) (fun q hq hn => hideAll_get _ (N q hq).1 hn)) (fun fl s' hl => ?_) fun _ _ y => y.elim
  · rcases List.mem_append.mp hq with hq | hq
    · refine ⟨(NC q hq).1, (NC q hq).2.1, ?_⟩
      cases e : (hideAll s.heap (small.map (·.1))).get? q.1 with
      | none => rfl
      | some o => have := of_hideAll _ e; rw [(NC q hq).2.2] at this; cases this
    · exact ⟨hk₁ _ _ (N₁ q hq).1, Nat.ne_of_lt (Heap.lt_size (N₁ q hq).1), hideAll_none _ (List.mem_map_of_mem hq)⟩
  obtain ⟨L', m', small', led', F', N', hl, k⟩ := hl
  obtain ⟨oL, es, ep, hL, r⟩ := FG.ns
  refine k ⟨⟨oL, es, ep, F'.keep L oL hL, r⟩, fun b o e => F'.keep b o (st b o e), F.above⟩ fun q hq => ?_
  rcases hl q hq with hq | ⟨hq, hn⟩
  · refine ⟨(N' q hq).1, fun e => ?_, ?_⟩
    · have := (N' q hq).2.2; rw [e, hL] at this; cases this
    · cases e : h₀.get? q.1 with
      | none => rfl
      | some o => have := (N' q hq).2.2; rw [st _ _ e] at this; cases this
  · exact ⟨F'.keep _ _ (hideAll_get _ (N q hq).1 hn), (N q hq).2⟩
end
/-- the pool of draws, as the ledger bears it -/
structure PoolV (gl : Addr) (gs : List Int) (gv : List Value) (i s : Int) : Prop where
  gi : IntsAre gv gs
  g0 : ∀ x ∈ gs, 0 ≤ x
  gn : gs.length ≤ 20
  i0 : 0 ≤ i
  iN : i ≤ gs.length
  s0 : 0 ≤ s
  sN : s < 1000003
end Mz
namespace Mz
theorem fm_bd {x m : Int} (h : 1 ≤ m) : 0 ≤ x.fmod m ∧ x.fmod m < m := by
  rw [Int.fmod_eq_emod_of_nonneg x (by omega)]
  exact ⟨Int.emod_nonneg _ (by omega), Int.emod_lt_of_pos _ (by omega)⟩
end Mz
namespace Mz
theorem Ups.rem1news {a : Addr} {o o' : Obj} {led l1 nw : List (Addr × Obj)} (V : Rem a o led l1) (hn : ∀ p ∈ nw, ∀ q ∈ led, q.1 ≠ p.1) : Ups ((a, o') :: nw) led ((a, o') :: (nw ++ l1)) := fun q hq => by
  rcases List.mem_cons.mp hq with rfl | hq
  · exact .inl (.head _)
  · rcases List.mem_append.mp hq with hq | hq
    · exact .inl (.tail _ hq)
    · have k := V.sub q hq
      refine .inr ⟨k.1, fun p hp => ?_⟩
      rcases List.mem_cons.mp hp with rfl | hp
      · exact Ne.symm k.2
      · exact Ne.symm (hn p hp q k.1)
structure CpuD (es : List DictEntry) (rl sl : Addr) : Prop where
  r : getL (Str.ofString "r") es = some (some (.ref rl))
  s : getL (Str.ofString "s") es = some (some (.ref sl))
  ix : ∃ t, getL (Str.ofString "ix") es = some (some (.int 0 t))
  iy : ∃ t, getL (Str.ofString "iy") es = some (some (.int 0 t))
  sp : ∃ t, getL (Str.ofString "sp") es = some (some (.int 0 t))
  pc : ∃ t, getL (Str.ofString "pc") es = some (some (.int 0 t))
  i : ∃ t, getL (Str.ofString "i") es = some (some (.int 0 t))
  ref : ∃ t, getL (Str.ofString "ref") es = some (some (.int 0 t))
  iff1 : ∃ t, getL (Str.ofString "iff1") es = some (some (.int 0 t))
  iff2 : ∃ t, getL (Str.ofString "iff2") es = some (some (.int 0 t))
  mode : ∃ t, getL (Str.ofString "mode") es = some (some (.int 0 t))
  halted : getL (Str.ofString "is_halted") es = some (some (.bool false))
  held : getL (Str.ofString "is_held") es = some (some (.bool false))
  states : ∃ t, getL (Str.ofString "states") es = some (some (.int 0 t))
  z : es.length ≤ 100
theorem cpu_regs {vs : List Value} {ns : List Int} {cnt d2 d4 : Int} (hl : ns.length = 8) (hb : ∀ x ∈ ns, 0 ≤ x ∧ x < 256) (hc : 0 ≤ cnt ∧ cnt < 256) (h2 : 0 ≤ d2 ∧ d2 < 4) (h4 : 0 ≤ d4 ∧ d4 < 4)
    (hi : IntsAre vs ((((ns.set (Int.toNat 0) 0).set (Int.toNat 1) cnt).set (Int.toNat 2) d2).set (Int.toNat 4) d4)) :
    ∃ de hl f a, IntsAre vs (R cnt de hl f a) ∧ (0 ≤ de ∧ de < 1024) ∧ (0 ≤ hl ∧ hl < 1024) ∧ (0 ≤ f ∧ f < 256) ∧ (0 ≤ a ∧ a < 256) := by
  match ns, hl with
  | [x0, x1, x2, x3, x4, x5, x6, x7], _ =>
    have b3 := hb x3 (by simp)
    have b5 := hb x5 (by simp)
    have b6 := hb x6 (by simp)
    have b7 := hb x7 (by simp)
    refine ⟨d2 * 256 + x3, d4 * 256 + x5, x6, x7, ?_, by omega, by omega, b6, b7⟩
    have e : R cnt (d2 * 256 + x3) (d4 * 256 + x5) x6 x7 = [0, cnt, d2, x3, d4, x5, x6, x7] := by
      unfold R
      rw [show cnt / 256 = 0 from by omega, show cnt % 256 = cnt from by omega, show (d2 * 256 + x3) / 256 = d2 from by omega, show (d2 * 256 + x3) % 256 = x3 from by omega, show (d4 * 256 + x5) / 256 = d4 from by omega, show (d4 * 256 + x5) % 256 = x5 from by omega]
    rw [e]
    exact hi
end Mz
namespace Mz
theorem cpu_back {g h₀ : Heap} {L L' pl gl c dx rl sl : Addr} {m m' : Str → Option Value} {led l1 small' : List (Addr × Obj)} {po po' glo o3 o4 : Obj} {es : List DictEntry} {n : Nat} {R : Result → Shared → Prop} {s' : Shared}
    (N : ∃ s, News h₀ L s led) (V : Rem pl po led l1) (h2 : (gl, glo) ∈ led) (hg : ∀ q ∈ led, q.1 ∉ [(pl, po), (gl, glo)].map (·.1) → g.get? q.1 = some q.2) (F' : Fr g L' s'.heap m') (N' : News g L' s'.heap small')
    (hp : (pl, po') ∈ small') (hgl : (gl, glo) ∈ small') (hm1 : (c, instObj 31 dx) ∈ small') (hm2 : (dx, dictOf es n) ∈ small') (cd : CpuD es rl sl) (hm3 : (rl, o3) ∈ small') (hm4 : (sl, o4) ∈ small')
    (e1 : NeA pl c ∧ NeA gl c) (e2 : NeA pl dx ∧ NeA gl dx) (e3 : NeA pl rl ∧ NeA gl rl) (e4 : NeA pl sl ∧ NeA gl sl)
    (kk : (∀ p ∈ led, p.1 ≠ c) → (∀ p ∈ led, p.1 ≠ dx) → (∀ p ∈ led, p.1 ≠ rl) → (∀ p ∈ led, p.1 ≠ sl) → Fr h₀ L s'.heap m → News h₀ L s'.heap ((pl, po') :: (c, instObj 31 dx) :: (dx, dictOf es n) :: (rl, o3) :: (sl, o4) :: l1) → R (.ok (.ret (.ref c))) s') :
    Back h₀ L m led [(pl, po), (gl, glo)] g R (.ref c) s' := by
  obtain ⟨s, N⟩ := N
  have two : ∀ {d : Addr}, NeA pl d ∧ NeA gl d → ∀ q ∈ [(pl, po), (gl, glo)], q.1 ≠ d := fun h => List.forall_mem_cons.mpr ⟨h.1, List.forall_mem_cons.mpr ⟨h.2, List.forall_mem_nil _⟩⟩
  have n1 := new_ne (led := led) hg N' hm1 (two e1)
  have n2 := new_ne (led := led) hg N' hm2 (two e2)
  have n3 := new_ne (led := led) hg N' hm3 (two e3)
  have n4 := new_ne (led := led) hg N' hm4 (two e4)
  refine back_ F' N' (ups_led N (Ups.rem1news (o' := po') (nw := [(c, instObj 31 dx), (dx, dictOf es n), (rl, o3), (sl, o4)]) V (List.forall_mem_cons.mpr ⟨n1, List.forall_mem_cons.mpr ⟨n2, List.forall_mem_cons.mpr ⟨n3, List.forall_mem_cons.mpr ⟨n4, List.forall_mem_nil _⟩⟩⟩⟩)) (sub_cons V.mem (sub_cons h2 sub_nil)) (sub_cons hp (sub_cons hm1 (sub_cons hm2 (sub_cons hm3 (sub_cons hm4 sub_nil))))) (List.forall_mem_cons.mpr ⟨.inr ⟨_, .head _, rfl⟩, List.forall_mem_cons.mpr ⟨.inl hgl, List.forall_mem_nil _⟩⟩)) (kk n1 n2 n3 n4)
end Mz

example : True := by
  k_with_none
  k_with "mz enter" => ((case k6 => k_is); (case k7 => k_is); (case k8 => ktr_room); (case k9 => exact BindsTo.of_eq rfl); (case c5 => decide); (case kB => exact locs rfl); (case c2 => exact rfl); (case c3 => exact rfl); (case c4 => exact rfl); k_whole; intro g'x L'x h'x tk'x F'x N'x B'x X'x T'x l'x hg'x; (try dsimp only); (try k_fold))
  k_with "mz steps" => repeat' (first | (k_unfold; (try dsimp only)) | (walk1; (try dsimp only)) | (dsimp only; walk1) | (dsimp only; k_unfold; (try dsimp only)) | (k_unmd; k_unfold; (try dsimp only)))
  k_with "mz keeps" => first | exact Mz.keeps_nil | (refine Mz.keeps_cons ?_ ?_; (first | (refine Or.inl ?_; k_mem) | exact Or.inr ⟨_, .head _, rfl⟩ | exact Or.inr ⟨_, .tail _ (.head _), rfl⟩ | exact Or.inr ⟨_, .tail _ (.tail _ (.head _)), rfl⟩ | exact Or.inr ⟨_, .tail _ (.tail _ (.tail _ (.head _))), rfl⟩ | exact Or.inr ⟨_, .tail _ (.tail _ (.tail _ (.tail _ (.head _)))), rfl⟩); k_extra "mz keeps")
  k_with "mz:ite" => first | refine Mz.beq_pos (by omega) ?_ | refine Mz.beq_neg (by omega) ?_ | refine Mz.bne_pos (by omega) ?_ | refine Mz.bne_neg (by omega) ?_ | refine Mz.dec_pos (by omega) ?_ | refine Mz.dec_neg (by omega) ?_
  k_with "mz:binaryOp LShift int int" => refine lshift_int_small (by decide) (by decide) (Mz.sh8' (by assumption)) ?_
  k_with "mz:setItem ref int" => (k_here; (with_reducible show wpAny _ _ (setItem (Value.ref _) (Value.int _ _) (Value.int _ _)) _ _ _); k_dflt (refine' Mz.set_at ?k1_6 ?k2_6 ?k3_6 ?k4_6 ?k5_6 ?k6_6 ?k7_6 ?k8_6 ?_; (case k1_6 => k_asm); (case k2_6 => k_asm); (case k3_6 => k_updF); (case k4_6 => with_reducible assumption); (case k5_6 => ksa_idx); (case k6_6 => ksa_idx); (case k7_6 => ksa_idx); (case k8_6 => first | exact Mz.R_s6 | exact Mz.R_s0b | exact Mz.R_s0 | exact rfl); k_whole); intro h'x vs'x F'x N'x hi'x hl'x; (try dsimp only at N'x); (try k_sweep))
  k_with "mz dp" => ((try dsimp only [ktrTop, Around.deeper]); first | exact Mz.dp2 (by with_reducible assumption) rfl | exact Mz.dp1 (by with_reducible assumption) rfl | omega)
  k_with "mz ctx" => ((case cB => k_asm); (case cF => k_asm); (case cX => k_asm); (case cN => k_asm); (case cT => k_asm); (case ck => exact rfl); (case cz => k_extra "mz dp"); (case cu => k_extra "mz dp"))
  k_with "mz ifs" => ((repeat' split) <;> first | with_reducible rfl | (exfalso; first | contradiction | omega))
  k_with "mz rem" => first | (refine' Mz.Rem.head ?a_10; (case a_10 => k_all)) | (refine' Mz.Rem.tail ?a_10 ?b_10; (case a_10 => k_ne); (case b_10 => k_extra "mz rem"))
  k_with "mz len" => first | with_reducible assumption | exact Mz.R_len | with_reducible exact Mz.setPr_len (by k_extra "mz len")
  k_with "mz byt" => first | with_reducible assumption | exact Mz.R_byt (by omega) (by omega) (by omega) | with_reducible exact Mz.setPr_byt (by k_extra "mz byt")
  k_with "mz getL" => first | with_reducible assumption | (refine' Mz.getL_oth ?ga_13 ?gb_13 ?gc_13; (case ga_13 => with_reducible assumption); (case gb_13 => decide +kernel); (case gc_13 => k_extra "mz getL"))
  k_with "mz:getAttr ref" => (k_here; k_dflt (refine' get_own ?k1_14 ?k2_14 ?k3_14 ?k4_14 ?k5_14 ?k6_14 ?k7_14 ?k8_14 ?k9_14 ?_; (case k1_14 => k_asm); (case k2_14 => k_asm); (case k3_14 => k_inst); (case k4_14 => k_is); (case k5_14 => k_is); (case k6_14 => k_is); (case k7_14 => k_is); (case k8_14 => k_extra "mz getL"); (case k9_14 => k_handed); k_whole))
  k_with "mz:setAttr ref" => (k_here; k_dflt (refine' Mz.set_own ?k1_15 ?k2_15 ?k3_15 ?k4_15 ?k5_15 ?k6_15 ?k7_15 ?k8_15 ?k9_15 ?k10_15 ?k11_15 ?k12_15 ?_; (case k1_15 => k_asm); (case k2_15 => k_asm); (case k3_15 => k_asm); (case k4_15 => k_inst); (case k5_15 => exact rfl); (case k6_15 => k_is); (case k7_15 => k_is); (case k8_15 => k_is); (case k9_15 => k_is); (case k10_15 => k_extra "mz getL"); (case k11_15 => first | with_reducible assumption | omega); (case k12_15 => k_extra "mz rem"); k_whole; intro h'x es'x n'x hs'x ho'x hz'x F'x N'x; (try k_sweep)))
  k_with "mz:subscriptTail" => (k_here; (with_reducible show wpAny _ _ (subscriptTail _ _ (Value.ref _) (Value.int _ _)) _ _ _); k_dflt (refine' Mz.sub_at ?k1_16 ?k2_16 ?k3_16 ?k4_16 ?k5_16 ?k6_16 ?k8_16 ?_ ?k7_16; (case k1_16 => k_asm); (case k2_16 => k_mem); (case k3_16 => with_reducible assumption); (case k4_16 => ksa_idx); (case k5_16 => ksa_idx); (case k6_16 => ksa_idx); (case k7_16 => with_unfolding_all rfl); (case k8_16 => first | with_reducible_and_instances exact Mz.R_g0 | with_reducible_and_instances exact Mz.R_g1 | with_reducible_and_instances exact Mz.R_g6 | with_reducible_and_instances exact Mz.R_g7 | exact Mz.R_g0 | exact Mz.R_g1 | exact Mz.R_g6 | exact Mz.R_g7 | exact rfl); k_whole); intro _)
  k_with "mz lt" => first | exact Mz.Lts.lt (by with_reducible assumption) (by k_mem) | with_reducible assumption | exact Mz.lt_s (by k_extra "mz lt")
  k_with "mz and" => first | exact And.left (by with_reducible assumption) | exact And.left (And.right (by with_reducible assumption)) | exact And.left (And.right (And.right (by with_reducible assumption))) | exact And.left (And.right (And.right (And.right (by with_reducible assumption)))) | exact And.left (And.right (And.right (And.right (And.right (by with_reducible assumption))))) | exact And.left (And.right (And.right (And.right (And.right (And.right (by with_reducible assumption)))))) | exact And.left (And.right (And.right (And.right (And.right (And.right (And.right (by with_reducible assumption))))))) | exact And.right (by with_reducible assumption) | exact And.right (And.right (by with_reducible assumption)) | exact And.right (And.right (And.right (by with_reducible assumption))) | exact And.right (And.right (And.right (And.right (by with_reducible assumption)))) | exact And.right (And.right (And.right (And.right (And.right (by with_reducible assumption))))) | exact And.right (And.right (And.right (And.right (And.right (And.right (by with_reducible assumption))))))
  k_with "mz neq" => first | exact Nat.ne_of_lt (Mz.Lts.lt (by with_reducible assumption) (by k_mem)) | exact Nat.ne_of_gt (Mz.Lts.lt (by with_reducible assumption) (by k_mem)) | exact Mz.Nes.ne (by with_reducible assumption) (by k_mem) | exact Ne.symm (Mz.Nes.ne (by with_reducible assumption) (by k_mem)) | exact Nat.ne_of_lt (by with_reducible assumption) | exact Nat.ne_of_gt (by with_reducible assumption) | exact Nat.ne_of_gt (Mz.lt_s (by k_extra "mz lt")) | exact Nat.ne_of_lt (Mz.lt_s (by k_extra "mz lt")) | exact Nat.ne_of_gt (Mz.lt_tr (by with_reducible assumption) (by k_extra "mz lt")) | exact Nat.ne_of_lt (Mz.lt_tr (by with_reducible assumption) (by k_extra "mz lt")) | exact Mz.NeA.out (by k_extra "mz and") | exact Ne.symm (Mz.NeA.out (by k_extra "mz and"))
  k_with "mz all" => first | exact List.forall_mem_nil _ | ((with_reducible refine Mz.all_cons ?_ ?_); (k_ne); (k_extra "mz all")) | exact OwnOff.ne (by assumption) (by k_memK) | exact Mz.all_cons (by k_ne) (by k_extra "mz all")
  k_with "mz ne" => first | with_reducible assumption | exact Mz.NeA.symm (by with_reducible assumption) | exact Mz.NeA.of (by k_extra "mz neq") | exact Mz.NeA.of (by omega)
  k_with "mz nes" => first | (refine And.intro ?_ ?_; (k_extra "mz ne"); (k_extra "mz nes")) | k_extra "mz ne"
  k_with "mz ksa_idx" => ((rw [Mz.R_len]); decide)
  k_with "mz k_ne" => (refine neN ?_; (try dsimp only); first | exact Mz.NeA.out (by with_reducible assumption) | exact Ne.symm (Mz.NeA.out (by with_reducible assumption)) | k_extra "mz neq" | omega)
  k_with "mz k_all" => first | exact Mz.ne_lts (by with_reducible assumption) (by exact rfl) | exact Mz.ne_nes (by with_reducible assumption) (by exact rfl) | k_extra "mz all"
  trivial
namespace Mz
section
variable {w : World} {dp un : Nat} {gd : Option (List Code)} {cn : Str} {cs : Scope} {a : Addr} {ccd : Value} {cl : List (Str × Addr)} {outer : List Env} {A₀ : Around} {base h₀ : Heap} {L : Addr} {m mg mb : Str → Option Value} {mean : ExcName → Option Value}
  {led : List (Addr × Obj)} {s : Shared} {Q E : Value → Shared → Prop}
  (B : Below A₀ base outer h₀) (F : Fr h₀ L s.heap m) (X : (hd.heap_39 w.params).In h₀) (N : News h₀ L s.heap led) (T : Top hd.view_39 LO mean mg mb h₀) (hk : cs.kind = .function) (hz : dp + 10 < 900) (hu : un + 100 < 2000)
include B F X N T hk hz hu
theorem c_draw {pl gl : Addr} {k kg : Nat} {gv : List Value} {gs : List Int} {i r many : Int} {ti ts tm : Tok} {l1 : List (Addr × Obj)}
    (h2 : (gl, listOf gv.toArray kg) ∈ led) (V : Rem pl (listOf [.ref gl, .int i ti, .int r ts].toArray k) led l1) (P : PoolV gl gs gv i r) (hne : NeA pl gl) (hm : 1 ≤ many ∧ many ≤ 256)
    (ret : ∀ v t i' ti' r' ts' h' tk', 0 ≤ v ∧ v < many → PoolV gl gs gv i' r' → Fr h₀ L h' m → News h₀ L h' ((pl, listOf [.ref gl, .int i' ti', .int r' ts'].toArray k) :: l1) → Q (.int v t) { s with heap := h', toks := tk' }) :
    wpAny (model PR w) (ktrTop dp un gd cn cs L a ccd cl outer) (call (.ref 336) [.ref pl, .int many tm]) Q E s := by
  have h1 := V.mem
  obtain ⟨gi, g0, gn, i0, iN, s0, sN⟩ := P
  refine wpAny_call ?_
  k_dflt (refine' code_in (K := hd.heap_39 w.params) (small := [(pl, listOf [.ref gl, .int i ti, .int r ts].toArray k), (gl, listOf gv.toArray kg)]) B F X N T (sub_cons h1 (sub_cons h2 sub_nil)) rfl rfl hk ?k6 ?k7 ?k8 ?k9 ?kB ?_ ?c2 ?c3 ?c4 ?c5)
  k_extra "mz enter"
  k_extra "mz steps"
  all_goals
    refine back_ (by k_asm) (by k_asm) (ups_led N (Ups.rem1 V) (sub_cons h1 (sub_cons h2 sub_nil)) (one_mem (by k_mem)) (by k_extra "mz keeps")) (fun kF kN => ret _ _ _ _ _ _ _ _ (fm_bd hm.1) ⟨gi, g0, gn, ?_, ?_, ?_, ?_⟩ kF kN)
  all_goals first | omega | exact (fm_bd (by decide)).1 | exact (fm_bd (by decide)).2
end
end Mz

namespace Mz
theorem sum_bd : ∀ (gs : List Int), 0 ≤ (gs.map (fun k' => k'.fmod 9973)).sum ∧ (gs.map (fun k' => k'.fmod 9973)).sum ≤ 9972 * gs.length
  | [] => by simp
  | x :: r => by
    have h := sum_bd r
    have b := fm_bd (x := x) (m := 9973) (by decide)
    simp only [List.map_cons, List.sum_cons, List.length_cons]
    omega
theorem pool_ok {gl : Addr} {ns : List Int} {ys : List Value} (hi : IntsAre ys (List.map (fun k' => if k' < 0 then -k' else k') (List.take 20 ns))) :
    PoolV gl (List.map (fun k' => if k' < 0 then -k' else k') (List.take 20 ns)) ys 0 (13 + (List.map (fun k' => k'.fmod 9973) (List.map (fun k' => if k' < 0 then -k' else k') (List.take 20 ns))).sum) := by
  have hl : (List.map (fun k' => if k' < 0 then -k' else k') (List.take 20 ns)).length ≤ 20 := by rw [List.length_map, List.length_take]; omega
  have hs := sum_bd (List.map (fun k' => if k' < 0 then -k' else k') (List.take 20 ns))
  refine ⟨hi, fun x hx => ?_, hl, Int.le_refl _, by omega, by omega, by omega⟩
  obtain ⟨y, _, rfl⟩ := List.mem_map.mp hx
  split <;> omega
section
variable {w : World} {dp un : Nat} {gd : Option (List Code)} {cn : Str} {cs : Scope} {a : Addr} {ccd : Value} {cl : List (Str × Addr)} {outer : List Env} {A₀ : Around} {base h₀ : Heap} {L : Addr} {m mg mb : Str → Option Value} {mean : ExcName → Option Value}
  {led : List (Addr × Obj)} {s : Shared} {Q E : Value → Shared → Prop}
  (B : Below A₀ base outer h₀) (F : Fr h₀ L s.heap m) (X : (hd.heap_39 w.params).In h₀) (N : News h₀ L s.heap led) (T : Top hd.view_39 LO mean mg mb h₀) (hk : cs.kind = .function) (hz : dp + 10 < 900) (hu : un + 100 < 2000)
include B F X N T hk hz hu
theorem c_lpair {c dx rl : Addr} {es : List DictEntry} {n k : Nat} {vs : List Value} {ns : List Int} {p x : Int} {tp : Tok}
    (h1 : (c, instObj 31 dx) ∈ led) (h2 : (dx, dictOf es n) ∈ led) (h3 : (rl, listOf vs.toArray k) ∈ led) (hi : IntsAre vs ns) (hl : ns.length = 8)
    (hr : getL (Str.ofString "r") es = some (some (.ref rl))) (hp : 0 ≤ p ∧ p ≤ 6) (hx : ns.getD p.toNat 0 * 256 + ns.getD (p + 1).toNat 0 = x)
    (ret : ∀ t h' tk', Fr h₀ L h' m → News h₀ L h' led → Q (.int x t) { s with heap := h', toks := tk' }) :
    wpAny (model PR w) (ktrTop dp un gd cn cs L a ccd cl outer) (call (.ref 343) [.ref c, .int p tp]) Q E s := by
  refine wpAny_call ?_
  k_dflt (refine' code_in (K := hd.heap_39 w.params) (small := [(c, instObj 31 dx), (dx, dictOf es n), (rl, listOf vs.toArray k)]) B F X N T (sub_cons h1 (sub_cons h2 (sub_cons h3 sub_nil))) rfl rfl hk ?k6 ?k7 ?k8 ?k9 ?kB ?_ ?c2 ?c3 ?c4 ?c5)
  k_extra "mz enter"
  k_extra "mz steps"
  refine back_ (by k_asm) (by k_asm) (ups_led N (Ups.none led) (sub_cons h1 (sub_cons h2 (sub_cons h3 sub_nil))) (fun _ h => nomatch h) (by k_extra "mz keeps")) ?_
  intro kF kN
  exact retI hx.symm (ret _ _ _ kF kN)
theorem c_lpool {sl : Addr} {k : Nat} {vs : List Value} {ns : List Int} (h1 : (sl, listOf vs.toArray k) ∈ led) (hi : IntsAre vs ns) (hl : ns.length ≤ 63)
    (ret : ∀ pl gl gv gs r ti ts kg h' tk', PoolV gl gs gv 0 r → NeA pl gl → (∀ p ∈ led, p.1 ≠ pl) → (∀ p ∈ led, p.1 ≠ gl) → Fr h₀ L h' m → News h₀ L h' ((pl, listOf [.ref gl, .int 0 ti, .int r ts].toArray 0) :: (gl, listOf gv.toArray kg) :: led) → Q (.ref pl) { s with heap := h', toks := tk' }) :
    wpAny (model PR w) (ktrTop dp un gd cn cs L a ccd cl outer) (call (.ref 329) [.ref sl]) Q E s := by
  refine wpAny_call ?_
  k_dflt (refine' code_in (K := hd.heap_39 w.params) (small := [(sl, listOf vs.toArray k)]) B F X N T (sub_cons h1 sub_nil) rfl rfl hk ?k6 ?k7 ?k8 ?k9 ?kB ?_ ?c2 ?c3 ?c4 ?c5)
  k_extra "mz enter"
  k_extra "mz steps"
  (with_reducible rename News _ _ _ _ => N9)
  (with_reducible rename IntsAre _ (List.map _ (List.take _ _)) => hi9)
  have e1 := new_ne (led := led) (by assumption) N9 (.head _) (List.forall_mem_cons.mpr ⟨NeA.out (by k_extra "mz ne"), List.forall_mem_nil _⟩)
  have e2 := new_ne (led := led) (by assumption) N9 (.tail _ (.tail _ (.head _))) (List.forall_mem_cons.mpr ⟨NeA.out (by k_extra "mz ne"), List.forall_mem_nil _⟩)
  refine back_ (by k_asm) N9 (ups_led N (Ups.new (Ups.new (Ups.none led) e2) e1) (sub_cons h1 sub_nil) (two_mem (.head _) (.tail _ (.tail _ (.head _)))) (List.forall_mem_cons.mpr ⟨.inl (by k_mem), List.forall_mem_nil _⟩)) (fun kF kN => ret _ _ _ _ _ _ _ _ _ _ (pool_ok hi9) (by k_extra "mz ne") e1 e2 kF kN)
end
end Mz

namespace Mz
theorem items_ind {prog : Program} {w : World} {A : Around} {E : Value → Shared → Prop} {h₀ : Heap} {env : Env} {target : Expr} {body : List Stmt} {Q : Flow → Shared → Prop} {s : Shared} {ws : List (Addr × String)} {keep news : List (Addr × Obj)} (J : List Value → (Str → Option Value) → Prop)
    (hk : SubL keep news)
    (hnil : ∀ m, J [] m → ∀ h tk, Fr h₀ env.locals h m → News h₀ env.locals h news → Q .next { s with heap := h, toks := tk })
    (hcons : ∀ v r m h tk, J (v :: r) m → Fr h₀ env.locals h m → AllObj ws (fun its => News h₀ env.locals h (its ++ news) →
      wpAny (model prog w) A (assign target env v) (fun _ s₂ => wpAny (model prog w) A (execs body env) (UnrPostW h₀ env.locals { s with heap := h, toks := tk } its (fun m' n' => n' = news ∧ J r m') Q) E s₂) E { s with heap := h, toks := tk })) :
    ∀ (vs : List Value) m, J vs m → ItemsRest prog w A E h₀ env target body Q s ws keep (vs.map .val) m news := by
  intro vs
  induction vs with
  | nil => intro m hj; exact ItemsRest.zero (hnil m hj)
  | cons v r ih =>
    intro m hj
    refine ItemsRest.val fun h tk F => ?_
    have key : ∀ {ws : List (Addr × String)} {k k' : List (Addr × Obj) → Prop}, (∀ its, k its → k' its) → AllObj ws k → AllObj ws k' := by
      intro ws
      induction ws with
      | nil => intro k k' h x; exact h _ x
      | cons w r ih => intro k k' h x o ho; exact ih (fun its => h _) (x o ho)
    refine key (fun its hh N => ?_) (hcons v r m h tk hj F)
    refine wpAny_mono (hh N) (fun _ s₂ p => wpAny_mono p (fun f s₃ q => ?_) fun _ _ x => x) fun _ _ x => x
    have up : UnrEndW h₀ env.locals { s with heap := h, toks := tk } its (fun m' n' => n' = news ∧ J r m') s₃ → UnrEndW h₀ env.locals { s with heap := h, toks := tk } its (fun m' n' => SubL keep n' ∧ ItemsRest prog w A E h₀ env target body Q s ws keep (r.map .val) m' n') s₃ := by
      rintro ⟨h', tk', m', n', e, F', N', ho, rfl, hj'⟩
      exact ⟨h', tk', m', _, e, F', N', ho, hk, ih m' hj'⟩
    cases f with
    | ret v => exact q
    | brk => exact q
    | next => exact up q
    | cont => exact up q
inductive BitsAre (led : List (Addr × Obj)) : List Value → List (Int × Bool) → Prop
  | nil : BitsAre led [] []
  | cons {q b t s r bs} : (q, tupO [.int b t, .bool s]) ∈ led → BitsAre led r bs → BitsAre led (.ref q :: r) ((b, s) :: bs)
noncomputable def tot : List (Int × Bool) → Int
  | [] => 0
  | p :: r => (if p.2 = true then p.1 else 0) + tot r
end Mz
namespace Mz
theorem fdiv_1 (x : Int) : x.fdiv 1 = x := by rw [Int.fdiv_eq_ediv_of_nonneg x (by decide)]; exact Int.ediv_one x
theorem fr_norm {h₀ h : Heap} {L : Addr} {m : Str → Option Value} {x : Str} {v : Value} (F : Fr h₀ L h m) (e : m x = some v) : Fr h₀ L h (fun y => if y = x then some v else m y) := by
  have em : (fun y => if y = x then some v else m y) = m := by
    funext y
    by_cases hy : y = x
    · rw [if_pos hy, hy, e]
    · rw [if_neg hy]
  rw [em]; exact F
end Mz

namespace Mz
section
variable {bc de hl f a : Int}
theorem lp0 : (R bc de hl f a).getD (Int.toNat 0) 0 * 256 + (R bc de hl f a).getD (Int.toNat (0 + 1)) 0 = bc := by show bc / 256 * 256 + bc % 256 = bc; omega
theorem lp2 : (R bc de hl f a).getD (Int.toNat 2) 0 * 256 + (R bc de hl f a).getD (Int.toNat (2 + 1)) 0 = de := by show de / 256 * 256 + de % 256 = de; omega
theorem lp4 : (R bc de hl f a).getD (Int.toNat 4) 0 * 256 + (R bc de hl f a).getD (Int.toNat (4 + 1)) 0 = hl := by show hl / 256 * 256 + hl % 256 = hl; omega
end
end Mz
namespace Mz
structure Ds where
  ds : List Int
  dv : List Value
  last : Int
  t : Tok
def DLed (D : Addr) (kd : Nat) (rest : List (Addr × Obj)) (c : Ds) : List (Addr × Obj) := (D, listOf c.dv.toArray kd) :: rest
def DPs (c : Ds) : List (Str × Value) := [(Str.ofString "last", .int c.last c.t)]
def DFacts (c : Ds) : Prop := IntsAre c.dv c.ds
def DP (Dn : Nat → List Int × Int) (pre : List Int) (c : Ds) : Prop := (c.ds, c.last) = Dn pre.length
section
variable {prog : Program} {w : World} {A : Around} {E : Value → Shared → Prop} {s : Shared} {env : Env} {h₀ : Heap} {x : Str} {body : List Stmt} {Q : Flow → Shared → Prop}
theorem range_due {rr D : Addr} {b last0 : Int} {t0 t1 t2 t3 : Tok} {n kd : Nat} {m₀ : Str → Option Value} {led rest : List (Addr × Obj)} {dv : List Value} {ds : List Int} (Dn : Nat → List Int × Int)
    (hh : A.handled = none) (hD : m₀ (Str.ofString "due") = some (.ref D)) (hl : m₀ (Str.ofString "last") = some (.int last0 t3)) (hr : IsRange s.heap rr 0 b 1 t0 t1 t2) (hb : b = n ∧ n ≤ 300) (F : Fr h₀ env.locals s.heap m₀) (N : News h₀ env.locals s.heap led) (V : Rem D (listOf dv.toArray kd) led rest) (hi : IntsAre dv ds)
    (h0 : (ds, last0) = Dn 0)
    (turn : ∀ (c : Ds) (pre : List Int) (k : Int) t (u : Str → Option Value) h tk own, k = pre.length → pre.length < n → OwnOff own (D :: rest.map (·.1)) → IntsAre c.dv c.ds → (c.ds, c.last) = Dn pre.length →
      Fr h₀ env.locals h (fun y => if y = x then some (.int k t) else if y = Str.ofString "last" then some (.int c.last c.t) else m₀ y) → News h₀ env.locals h ((D, listOf c.dv.toArray kd) :: (rest ++ own)) →
      wpAny (model prog w) A (execs body env) (InvPostN h₀ env.locals (KstS (DLed D kd rest) DPs DFacts x [] m₀ (DP Dn) (pre ++ [k])) own (D :: rest.map (·.1)) { s with heap := h, toks := tk } Q) E { s with heap := h, toks := tk })
    (done : ∀ (c : Ds) (u : Str → Option Value) h tk, IntsAre c.dv c.ds → (c.ds, c.last) = Dn n → Fr h₀ env.locals h (fun y => if y = x then u y else if y = Str.ofString "last" then some (.int c.last c.t) else m₀ y) → News h₀ env.locals h ((D, listOf c.dv.toArray kd) :: rest) → Q .next { s with heap := h, toks := tk }) :
    wpAny (model prog w) A (pyIter (.ref rr)) (fun it s₂ => LoopAtV prog w A h₀ env x body Q E it s₂) E s := by
  have N1 : News h₀ env.locals s.heap ((D, listOf dv.toArray kd) :: rest) := kst_newsOf N fun p hp => by
    rcases List.mem_cons.mp hp with rfl | hp
    · exact V.mem
    · exact (V.sub p hp).1
  obtain ⟨rfl, hn⟩ := hb
  have hsm : Builtin.Range.small 0 (n : Int) 1 = true := small_one (by decide) (by decide) (by omega) (by omega)
  refine kst_range (n := n) (σ := Ds) (DLed D kd rest) DPs DFacts [] (DP Dn) ⟨ds, dv, last0, t3⟩ hh hr hsm ?_ F N1 hi (List.forall_mem_cons.mpr ⟨hl, List.forall_mem_nil _⟩) h0 ?_ ?_
  · rw [rangeSize_nat]; congr 1 <;> omega
  · intro c pre k t u h tk own hk hlt hoff hf hp F' N'
    refine turn c pre k t u h tk own (by omega) hlt hoff hf hp ?_ N'
    simp only [kstB, DPs, List.contains_nil, Bool.false_eq_true, if_false] at F'
    exact F'
  · intro c u h tk hf hp F' N'
    unfold DP at hp
    rw [rangeKs_length] at hp
    simp only [kstB, DPs, List.contains_nil, Bool.false_eq_true, if_false] at F'
    exact done c u h tk hf hp F' N'
end
end Mz

namespace Mz
def mvK : Int := Builtin.bitOr (Builtin.bitOr 128 64) 1
def mvBits (a v : Int) : List (Int × Bool) := [(32, (a + v) % 256 / 2 % 2 == 1), (8, (a + v) % 256 / 8 % 2 == 1)]
def mvPs : List Int := [0, 1, 64, 65, 128, 129, 192, 193]
theorem fin_of {n : Nat} {x : Int} (h : 0 ≤ x ∧ x < n) : ∃ i : Fin n, x = ((i.val : Nat) : Int) := ⟨⟨x.toNat, by omega⟩, by show x = (x.toNat : Int); omega⟩
theorem mv_p {f : Int} (h : 0 ≤ f ∧ f < 256) : Builtin.bitAnd f mvK ∈ mvPs := by
  obtain ⟨i, rfl⟩ := fin_of (n := 256) h
  revert i
  decide +kernel
theorem told2 {t : Int} (h : 0 ≤ t ∧ t < 512) : Builtin.bitAnd t 2 = (if t % 256 / 2 % 2 = 1 then 2 else 0) ∧ Builtin.bitAnd t 8 = (if t % 256 / 8 % 2 = 1 then 8 else 0) := by
  obtain ⟨i, rfl⟩ := fin_of (n := 512) h
  revert i
  decide +kernel
theorem mv_or : ∀ p ∈ mvPs, ∀ y ∈ [(0 : Int), 32], ∀ x ∈ [(0 : Int), 8], ∀ l ∈ [(0 : Int), 4], Builtin.bitOr (Builtin.bitOr (Builtin.bitOr p y) x) l = p + y + x + l ∧ Builtin.bitAnd (Builtin.bitOr (Builtin.bitOr (Builtin.bitOr p y) x) l) mvK = p := by decide +kernel
theorem if_mem {p : Prop} [Decidable p] {x : Int} : (if p then x else 0) ∈ [(0 : Int), x] := by by_cases h : p <;> simp [h]
theorem mvF_ok {a v l f : Int} (hf : Builtin.bitAnd f mvK ∈ mvPs) (ha : 0 ≤ a ∧ a < 256) (hv : 0 ≤ v ∧ v < 256) :
    Builtin.bitAnd (mvF a v l f) mvK = Builtin.bitAnd f mvK ∧ (l = 0 → mvF a v l f = Builtin.bitAnd f mvK + tot (mvBits a v)) := by
  obtain ⟨t2, t8⟩ := told2 (t := a + v) (by omega)
  unfold mvF
  rw [t2, t8]
  have h := mv_or _ hf _ (if_mem (p := (if (a + v) % 256 / 2 % 2 = 1 then (2 : Int) else 0) ≠ 0)) _ (if_mem (p := (a + v) % 256 / 8 % 2 = 1)) _ (if_mem (p := l ≠ 0))
  refine ⟨h.2, fun hl => ?_⟩
  refine h.1.trans ?_
  subst hl
  simp only [tot, mvBits, beq_iff_eq]
  split <;> split <;> (try split) <;> simp_all <;> omega

/-- the law's own reckoning of a move: turn by turn -/
noncomputable def mvD (ms : List Int) (hl de way : Int) : Nat → List Int × Int
  | 0 => (ms, 0)
  | j + 1 => ((mvD ms hl de way j).1.set ((de + way * j) % 64).toNat ((mvD ms hl de way j).1.getD ((hl + way * j) % 64).toNat 0), (mvD ms hl de way j).1.getD ((hl + way * j) % 64).toNat 0)
theorem mvD_len {ms : List Int} {hl de way : Int} : ∀ j, (mvD ms hl de way j).1.length = ms.length
  | 0 => rfl
  | j + 1 => by show (List.set _ _ _).length = _; rw [List.length_set, mvD_len j]
theorem mvD_byte {ms : List Int} {hl de way : Int} (h : ∀ y ∈ ms, 0 ≤ y ∧ y < 256) : ∀ j, (∀ y ∈ (mvD ms hl de way j).1, 0 ≤ y ∧ y < 256) ∧ (0 ≤ (mvD ms hl de way j).2 ∧ (mvD ms hl de way j).2 < 256)
  | 0 => ⟨h, by show 0 ≤ (0 : Int) ∧ (0 : Int) < 256; decide⟩
  | j + 1 => by
    have ih := (mvD_byte (hl := hl) (de := de) (way := way) h j).1
    exact ⟨set_bytes ih (getD_of ih (by decide) _), getD_of ih (by decide) _⟩
theorem mod64 (x : Int) : x % 65536 % 64 = x % 64 := by omega
theorem step16 (x y : Int) : (x % 65536 + y) % 65536 = (x + y) % 65536 := by omega
theorem mul_step (x way : Int) (j : Nat) : x + way * ((j + 1 : Nat) : Int) = x + way * j + way := by
  have : way * ((j + 1 : Nat) : Int) = way * j + way := by
    rw [show ((j + 1 : Nat) : Int) = (j : Int) + 1 from rfl, Int.mul_add, Int.mul_one]
  omega
theorem mv_iter {is ms : List Int} {n de hl f a at_ way : Int} {outs : List (Int × Int)} (hn : 0 ≤ n ∧ n < 256) (hde : 0 ≤ de ∧ de < 65536) (hhl : 0 ≤ hl ∧ hl < 65536) (hf : 0 ≤ f ∧ f < 256) (ha : 0 ≤ a ∧ a < 256) (hm : ∀ y ∈ ms, 0 ≤ y ∧ y < 256) :
    ∀ j : Nat, (j : Int) ≤ n → ∃ f', iter 0 is way ⟨n, de, hl, f, a, ms, at_, outs⟩ j = ⟨n - j, (de + way * j) % 65536, (hl + way * j) % 65536, f', a, (mvD ms hl de way j).1, at_, outs⟩ ∧ Builtin.bitAnd f' mvK = Builtin.bitAnd f mvK ∧
      ((j : Int) = n → 1 ≤ j → f' = Builtin.bitAnd f mvK + tot (mvBits a (mvD ms hl de way j).2))
  | 0, _ => ⟨f, by
      show (⟨n, de, hl, f, a, ms, at_, outs⟩ : S) = ⟨n - (0 : Nat), (de + way * (0 : Nat)) % 65536, (hl + way * (0 : Nat)) % 65536, f, a, ms, at_, outs⟩
      have e1 : n - ((0 : Nat) : Int) = n := by omega
      have e2 : (de + way * ((0 : Nat) : Int)) % 65536 = de := by rw [show ((0 : Nat) : Int) = 0 from rfl, Int.mul_zero]; omega
      have e3 : (hl + way * ((0 : Nat) : Int)) % 65536 = hl := by rw [show ((0 : Nat) : Int) = 0 from rfl, Int.mul_zero]; omega
      rw [e1, e2, e3], rfl, fun _ h => absurd h (by decide)⟩
  | j + 1, hj => by
    obtain ⟨f', e, hf', _⟩ := mv_iter (is := is) (at_ := at_) (way := way) (outs := outs) hn hde hhl hf ha hm j (by omega)
    have hb := mvD_byte (hl := hl) (de := de) (way := way) hm j
    have hv := getD_of hb.1 (by decide) ((hl + way * j) % 64).toNat
    have hbc : (n - (j : Int) + -1) % 65536 = n - ((j + 1 : Nat) : Int) := by omega
    have k := mvF_ok (a := a) (v := (mvD ms hl de way j).1.getD ((hl + way * j) % 64).toNat 0) (l := n - ((j + 1 : Nat) : Int)) (f := f') (by rw [hf']; exact mv_p hf) ha hv
    refine ⟨mvF a ((mvD ms hl de way j).1.getD ((hl + way * j) % 64).toNat 0) (n - ((j + 1 : Nat) : Int)) f', ?_, k.1.trans hf', fun hjn _ => ?_⟩
    · show st0 way (iter 0 is way ⟨n, de, hl, f, a, ms, at_, outs⟩ j) = _
      rw [e]
      simp only [st0, S.val, mod64, step16, hbc, mul_step]
      rfl
    · rw [k.2 (by omega), hf']; rfl
theorem mv_goes {is ms : List Int} {n de hl f a at_ way : Int} {outs : List (Int × Int)} (hn : 0 ≤ n ∧ n < 256) (hde : 0 ≤ de ∧ de < 65536) (hhl : 0 ≤ hl ∧ hl < 65536) (hf : 0 ≤ f ∧ f < 256) (ha : 0 ≤ a ∧ a < 256) (hm : ∀ y ∈ ms, 0 ≤ y ∧ y < 256) (j : Nat) (hj : (j : Int) ≤ n) :
    goes 0 (iter 0 is way ⟨n, de, hl, f, a, ms, at_, outs⟩ j) = true ↔ (j : Int) < n := by
  obtain ⟨f', e, _⟩ := mv_iter (is := is) (at_ := at_) (way := way) (outs := outs) hn hde hhl hf ha hm j hj
  rw [e, goes0_iff]
  show n - (j : Int) ≠ 0 ↔ _
  omega
end Mz

namespace Mz
theorem regs_of {vs : List Value} {cnt de hl f a : Int} (_ : IntsAre vs (R cnt de hl f a)) : ∃ d' h' f' a', d' = de ∧ h' = hl ∧ f' = f ∧ a' = a := ⟨_, _, _, _, rfl, rfl, rfl, rfl⟩
theorem list_of {vs : List Value} {ns : List Int} (_ : IntsAre vs ns) : ∃ ns', ns' = ns := ⟨_, rfl⟩
theorem fm_lt {x : Int} {l : List Int} (h : l.length = 64) : x.fmod 64 < (l.length : Int) := by rw [h]; exact (fm_bd (by decide)).2
theorem fm_fit {x : Int} : x.fmod 64 < 2 ^ 63 := by have := (fm_bd (x := x) (m := 64) (by decide)).2; omega
theorem fm64 (x : Int) : x.fmod 64 = x % 64 := Int.fmod_eq_emod_of_nonneg x (by decide)
theorem mvD_next {ms ds : List Int} {hl de way last k : Int} {pre : List Int} (hp : (ds, last) = mvD ms hl de way pre.length) (hk : k = pre.length) :
    (ds.set ((de + way * k).fmod 64).toNat (ds.getD ((hl + way * k).fmod 64).toNat 0), ds.getD ((hl + way * k).fmod 64).toNat 0) = mvD ms hl de way (pre ++ [k]).length := by
  rw [List.length_append, List.length_singleton, fm64, fm64]
  have e : ds = (mvD ms hl de way pre.length).1 := congrArg Prod.fst hp
  subst e hk
  rfl
theorem due_end {h₀ h' : Heap} {L D : Addr} {m' m₀ : Str → Option Value} {x : Str} {own rest : List (Addr × Obj)} {kd tk : Nat} {dv : List Value} {ds pre : List Int} {last k : Int} {t : Tok} {Dn : Nat → List Int × Int} {s₁ : Shared}
    (F : Fr h₀ L h' m') (N : News h₀ L h' ((D, listOf dv.toArray kd) :: (rest ++ own))) (hi : IntsAre dv ds) (hl : m' (Str.ofString "last") = some (.int last t)) (hr : ∀ z, z ≠ x → z ≠ Str.ofString "last" → m' z = m₀ z) (hp : (ds, last) = Dn (pre ++ [k]).length) :
    InvEndN h₀ L (KstS (DLed D kd rest) DPs DFacts x [] m₀ (DP Dn) (pre ++ [k])) own (D :: rest.map (·.1)) s₁ { s₁ with heap := h', toks := tk } :=
  kst_end (σ := Ds) (Led := DLed D kd rest) (ps := DPs) (Facts := DFacts) (stored := []) (P := DP Dn) (Ds.mk ds dv last t) F N (fun p hp => by
    rcases List.mem_cons.mp hp with rfl | hp
    · exact .head _
    · exact .tail _ (List.mem_append_left _ hp)) (fun p hp => .tail _ (List.mem_append_right _ hp)) rfl hi (List.forall_mem_cons.mpr ⟨hl, List.forall_mem_nil _⟩) (fun z h1 h2 _ => hr z h1 (h2 _ (.head _))) hp
theorem mv_told {a l f : Int} : Builtin.bitAnd f mvK + tot (mvBits a l) = Builtin.bitAnd f (128 + 64 + 1) + tot [(32, (((a + l).fmod 256).fdiv 2).fmod 2 == 1), (8, (((a + l).fmod 256).fdiv 8).fmod 2 == 1)] := by
  have e : mvK = 128 + 64 + 1 := by decide
  rw [e, Int.fmod_eq_emod_of_nonneg (a + l) (by decide), Int.fdiv_eq_ediv_of_nonneg _ (by decide), Int.fmod_eq_emod_of_nonneg _ (by decide), Int.fdiv_eq_ediv_of_nonneg _ (by decide), Int.fmod_eq_emod_of_nonneg _ (by decide)]
  rfl
theorem fm16 (x : Int) : x.fmod 65536 = x % 65536 := Int.fmod_eq_emod_of_nonneg x (by decide)
end Mz

namespace Mz
/-- what a search tells: the flags behind the round that met v -/
def skBits (a v : Int) (l4 : Bool) : List (Int × Bool) :=
  [(128, decide ((a - v) % 256 > 127)), (64, a == v), (32, (a - v - (if a % 16 < v % 16 then 1 else 0)) % 256 / 2 % 2 == 1), (16, decide (a % 16 < v % 16)), (8, (a - v - (if a % 16 < v % 16 then 1 else 0)) % 256 / 8 % 2 == 1), (4, l4), (2, true)]
def skG (a v y c : Int) : Int := Builtin.bitOr (Builtin.bitOr (Builtin.bitOr (Builtin.bitOr (Builtin.bitOr (Builtin.bitAnd (sbF a v 0) (Builtin.bitOr (Builtin.bitOr 128 64) 16)) (if Builtin.bitAnd (skT a v) 2 ≠ 0 then 32 else 0)) (Builtin.bitAnd (skT a v) 8)) y) 2) c
theorem skG_ok : ∀ a : Fin 6, ∀ v : Fin 5, ∀ l : Bool, ∀ c : Fin 2,
    skG ((a.val : Nat) : Int) ((v.val : Nat) : Int) (if l = true then 4 else 0) ((c.val : Nat) : Int) = ((c.val : Nat) : Int) + tot (skBits ((a.val : Nat) : Int) ((v.val : Nat) : Int) l) ∧
    Builtin.bitAnd (skG ((a.val : Nat) : Int) ((v.val : Nat) : Int) (if l = true then 4 else 0) ((c.val : Nat) : Int)) 1 = ((c.val : Nat) : Int) ∧
    (Builtin.bitAnd (skG ((a.val : Nat) : Int) ((v.val : Nat) : Int) (if l = true then 4 else 0) ((c.val : Nat) : Int)) 64 = 0 ↔ a.val ≠ v.val) := by decide +kernel
theorem bit1 {f : Int} (h : 0 ≤ f ∧ f < 256) : 0 ≤ Builtin.bitAnd f 1 ∧ Builtin.bitAnd f 1 < 2 := by
  obtain ⟨i, rfl⟩ := fin_of (n := 256) h
  revert i
  decide +kernel
theorem skF_ok {a v l f : Int} (ha : 0 ≤ a ∧ a < 6) (hv : 0 ≤ v ∧ v < 5) (hf : 0 ≤ Builtin.bitAnd f 1 ∧ Builtin.bitAnd f 1 < 2) :
    skF a v l f = Builtin.bitAnd f 1 + tot (skBits a v (decide (l ≠ 0))) ∧ Builtin.bitAnd (skF a v l f) 1 = Builtin.bitAnd f 1 ∧ (Builtin.bitAnd (skF a v l f) 64 = 0 ↔ a ≠ v) := by
  have e : skF a v l f = skG a v (if decide (l ≠ 0) = true then 4 else 0) (Builtin.bitAnd f 1) := by
    unfold skF skG
    congr 3
    by_cases h : l = 0 <;> simp [h]
  rw [e]
  obtain ⟨ai, rfl⟩ := fin_of (n := 6) ha
  obtain ⟨vi, rfl⟩ := fin_of (n := 5) hv
  obtain ⟨ci, hc⟩ := fin_of (n := 2) hf
  rw [hc]
  have k := skG_ok ai vi (decide (l ≠ 0)) ci
  refine ⟨k.1, k.2.1, k.2.2.trans ?_⟩
  constructor
  · intro h h2; exact h (Int.ofNat.inj h2)
  · intro h h2; exact h (congrArg _ h2)
/-- the octet that turn j of a search meets -/
def skV (ms : List Int) (hl way : Int) (j : Nat) : Int := ms.getD ((hl + way * j) % 64).toNat 0
theorem sk_iter {is ms : List Int} {n de hl f a at_ way : Int} {outs : List (Int × Int)} (hn : 0 ≤ n ∧ n < 256) (hhl : 0 ≤ hl ∧ hl < 65536) (hf : 0 ≤ f ∧ f < 256) (ha : 0 ≤ a ∧ a < 6) (hm : ∀ y ∈ ms, 0 ≤ y ∧ y < 5) :
    ∀ j : Nat, (j : Int) ≤ n → ∃ f', iter 1 is way ⟨n, de, hl, f, a, ms, at_, outs⟩ j = ⟨n - j, de, (hl + way * j) % 65536, f', a, ms, at_, outs⟩ ∧ Builtin.bitAnd f' 1 = Builtin.bitAnd f 1 ∧
      (∀ i, j = i + 1 → f' = Builtin.bitAnd f 1 + tot (skBits a (skV ms hl way i) (decide (n - j ≠ 0))) ∧ (Builtin.bitAnd f' 64 = 0 ↔ a ≠ skV ms hl way i))
  | 0, _ => ⟨f, by
      show (⟨n, de, hl, f, a, ms, at_, outs⟩ : S) = ⟨n - (0 : Nat), de, (hl + way * (0 : Nat)) % 65536, f, a, ms, at_, outs⟩
      have e1 : n - ((0 : Nat) : Int) = n := by omega
      have e3 : (hl + way * ((0 : Nat) : Int)) % 65536 = hl := by rw [show ((0 : Nat) : Int) = 0 from rfl, Int.mul_zero]; omega
      rw [e1, e3], rfl, fun i h => absurd h (by omega)⟩
  | j + 1, hj => by
    obtain ⟨f', e, hf', _⟩ := sk_iter (is := is) (de := de) (at_ := at_) (way := way) (outs := outs) hn hhl hf ha hm j (by omega)
    have hv := getD_of hm (by decide) ((hl + way * j) % 64).toNat
    have hbc : (n - (j : Int) + -1) % 65536 = n - ((j + 1 : Nat) : Int) := by omega
    have k := skF_ok (a := a) (v := ms.getD ((hl + way * j) % 64).toNat 0) (l := n - ((j + 1 : Nat) : Int)) (f := f') ha hv (by rw [hf']; exact bit1 hf)
    refine ⟨skF a (ms.getD ((hl + way * j) % 64).toNat 0) (n - ((j + 1 : Nat) : Int)) f', ?_, k.2.1.trans hf', fun i hi => ?_⟩
    · show st1 way (iter 1 is way ⟨n, de, hl, f, a, ms, at_, outs⟩ j) = _
      rw [e]
      simp only [st1, S.val, mod64, step16, hbc, mul_step]
    · obtain rfl : j = i := by omega
      refine ⟨?_, k.2.2⟩
      rw [k.1, hf']; rfl
theorem sk_goes {is ms : List Int} {n de hl f a at_ way : Int} {outs : List (Int × Int)} {k : Nat} (hn : 0 ≤ n ∧ n < 256) (hhl : 0 ≤ hl ∧ hl < 65536) (hf : 0 ≤ f ∧ f < 256) (ha : 0 ≤ a ∧ a < 6) (hm : ∀ y ∈ ms, 0 ≤ y ∧ y < 5)
    (hk : (k : Int) ≤ n) (h1 : ∀ i, i + 1 < k → a ≠ skV ms hl way i) (h2 : ∀ i, k = i + 1 → (k : Int) < n → a = skV ms hl way i) (j : Nat) (hj1 : 1 ≤ j) (hj : j ≤ k) :
    goes 1 (iter 1 is way ⟨n, de, hl, f, a, ms, at_, outs⟩ j) = true ↔ j < k := by
  obtain ⟨i, rfl⟩ : ∃ i, j = i + 1 := ⟨j - 1, by omega⟩
  obtain ⟨f', e, _, hfl⟩ := sk_iter (is := is) (de := de) (at_ := at_) (way := way) (outs := outs) hn hhl hf ha hm (i + 1) (by omega)
  have hz := (hfl i rfl).2
  rw [e, goes1_iff]
  show n - ((i + 1 : Nat) : Int) ≠ 0 ∧ Builtin.bitAnd f' 64 = 0 ↔ _
  rw [hz]
  constructor
  · rintro ⟨g1, g2⟩
    rcases Nat.lt_or_ge (i + 1) k with h | h
    · exact h
    · have ek : k = i + 1 := by omega
      subst ek
      exact absurd (h2 i rfl (by omega)) g2
  · intro h
    exact ⟨by omega, h1 i h⟩
end Mz

namespace Mz
def WayQ (way c1 c2 : Int) (s : Shared) (v : Value) (s' : Shared) : Prop := ∃ val t tk, ((way = 1 ∧ val = c1) ∨ (way = -1 ∧ val = c2)) ∧ v = .int val t ∧ s' = { s with toks := tk }
theorem WayQ.one {way c1 c2 : Int} {s : Shared} {t : Tok} {tk : Nat} (h : way = 1) : WayQ way c1 c2 s (.int c1 t) { s with toks := tk } := ⟨_, _, _, .inl ⟨h, rfl⟩, rfl, rfl⟩
theorem WayQ.two {way c1 c2 : Int} {s : Shared} {t : Tok} {tk : Nat} (h : way = -1) : WayQ way c1 c2 s (.int c2 t) { s with toks := tk } := ⟨_, _, _, .inr ⟨h, rfl⟩, rfl, rfl⟩
/-- many: where the search ends -/
def ManyIs (ms : List Int) (hl way a cnt many : Int) : Prop := 1 ≤ many ∧ many ≤ cnt ∧ (∀ i : Nat, (i : Int) + 1 < many → a ≠ skV ms hl way i) ∧ (∀ i : Nat, many = (i : Int) + 1 → many < cnt → a = skV ms hl way i)
def ManyQ (ms : List Int) (hl way a cnt : Int) (s : Shared) (v : Value) (s' : Shared) : Prop := ∃ val t tk, ManyIs ms hl way a cnt val ∧ v = .int val t ∧ s' = { s with toks := tk }
section
variable {M : Model} {A : Around} {E : Value → Shared → Prop} {s : Shared} {env : Env} {Q : Value → Shared → Prop}
theorem way_cut {c1 c2 : Int} {k1 k2 : Nat} {p1 p2 pos : Pos} {test : Expr} (way : Int) (h : wpAny M A (eval (.IfExp test (.Constant (.int c1) k1 p1) (.Constant (.int c2) k2 p2) pos) env) (WayQ way c1 c2 s) E s)
    (ret : ∀ val t tk, ((way = 1 ∧ val = c1) ∨ (way = -1 ∧ val = c2)) → Q (.int val t) { s with toks := tk }) : wpAny M A (eval (.IfExp test (.Constant (.int c1) k1 p1) (.Constant (.int c2) k2 p2) pos) env) Q E s :=
  wpAny_mono h (fun v s' ⟨val, t, tk, hv, e1, e2⟩ => by subst e1 e2; exact ret val t tk hv) fun _ _ e => e
theorem many_cut {e : Expr} (ms : List Int) (hl way a cnt : Int) (h : wpAny M A (eval e env) (ManyQ ms hl way a cnt s) E s)
    (ret : ∀ val t tk, ManyIs ms hl way a cnt val → Q (.int val t) { s with toks := tk }) : wpAny M A (eval e env) Q E s :=
  wpAny_mono h (fun v s' ⟨val, t, tk, hv, e1, e2⟩ => by subst e1 e2; exact ret val t tk hv) fun _ _ e => e
end
theorem many_get {ms : List Int} {hl way : Int} {n i : Nat} (h : i < n) : ((List.range n).map (skV ms hl way))[i]? = some (skV ms hl way i) := by
  rw [List.getElem?_map, List.getElem?_range h]; rfl
theorem ManyQ.found {ms : List Int} {hl way a cnt : Int} {n : Nat} {s : Shared} {t : Tok} {tk : Nat} (hn : cnt = n) (h : (((List.range n).map (skV ms hl way)).any fun x => x == a) = true) :
    ManyQ ms hl way a cnt s (.int ((((List.range n).map (skV ms hl way)).idxOf a : Nat) + 1) t) { s with toks := tk } := by
  have hm : a ∈ (List.range n).map (skV ms hl way) := by
    obtain ⟨x, hx, e⟩ := List.any_eq_true.mp h
    rw [← beq_iff_eq.mp e]; exact hx
  have hj := List.idxOf_lt_length_iff.mpr hm
  have hlen : ((List.range n).map (skV ms hl way)).length = n := by rw [List.length_map, List.length_range]
  refine ⟨_, _, _, ⟨by omega, by omega, fun i hi e => ?_, fun i hi _ => ?_⟩, rfl, rfl⟩
  · have hin : i < n := by omega
    have hlt : i < ((List.range n).map (skV ms hl way)).idxOf a := by omega
    have nb := List.not_of_lt_findIdx (p := (· == a)) hlt
    have g := many_get (ms := ms) (hl := hl) (way := way) hin
    rw [List.getElem?_eq_getElem (by omega)] at g
    rw [Option.some.inj g] at nb
    simp [e] at nb
  · have ei : ((List.range n).map (skV ms hl way)).idxOf a = i := by omega
    have g := many_get (ms := ms) (hl := hl) (way := way) (n := n) (i := i) (by omega)
    subst ei
    rw [List.getElem?_eq_getElem hj, List.getElem_idxOf hj] at g
    exact Option.some.inj g
theorem ManyQ.none {ms : List Int} {hl way a cnt : Int} {n : Nat} {s : Shared} {t : Tok} {tk : Nat} (hn : cnt = n) (h1 : 1 ≤ cnt) (h : (((List.range n).map (skV ms hl way)).any fun x => x == a) = false) :
    ManyQ ms hl way a cnt s (.int cnt t) { s with toks := tk } := by
  refine ⟨_, _, _, ⟨h1, Int.le_refl _, fun i hi e => ?_, fun i _ hlt => absurd hlt (by omega)⟩, rfl, rfl⟩
  have g := List.any_eq_false.mp h (skV ms hl way i) (List.mem_of_getElem? (many_get (by omega)))
  exact g (beq_iff_eq.mpr e.symm)
theorem weight_int {x : Int} (h : 0 ≤ x ∧ x < 256) : PyData.weight (.int x) ≤ 8 := by
  obtain ⟨i, rfl⟩ := fin_of (n := 256) h
  have key : ∀ i : Fin 256, (if ((i.val : Nat) : Int) == 0 then 0 else ((i.val : Nat) : Int).natAbs.log2 + 1) ≤ 8 := by decide +kernel
  have := key i
  simpa [PyData.weight] using this
theorem lay_small {ns : List Int} (hb : ∀ x ∈ ns, 0 ≤ x ∧ x < 256) (hl : ns.length ≤ 64) : PyData.layable0 (.list (ns.map .int)) = true := by
  have c : ∀ l : List Int, PyData.canLayAll0 (l.map .int) = true := by
    intro l; induction l with
    | nil => rfl
    | cons x r ih => simp [PyData.canLayAll0, PyData.canLay0, ih]
  have d : ∀ l : List Int, PyData.depthAll (l.map .int) = 0 := by
    intro l; induction l with
    | nil => rfl
    | cons x r ih => simp [PyData.depthAll, PyData.depth, ih]
  have wt : ∀ l : List Int, (∀ x ∈ l, 0 ≤ x ∧ x < 256) → PyData.weightAll (l.map .int) ≤ 9 * l.length := by
    intro l; induction l with
    | nil => intro _; exact Nat.le_refl _
    | cons x r ih =>
      intro h
      have h1 := weight_int (h x (.head _))
      have h2 := ih fun y hy => h y (.tail _ hy)
      simp only [List.map_cons, PyData.weightAll, List.length_cons]
      omega
  have w := wt ns hb
  unfold PyData.layable0
  simp only [PyData.canLay0, PyData.depth, PyData.weight, c, d, Bool.true_and, Bool.and_eq_true, decide_eq_true_eq]
  refine ⟨by decide, decide_eq_true (Nat.le_trans w (Nat.le_trans (Nat.mul_le_mul_left 9 hl) (show 9 * 64 ≤ 2 ^ 20 by decide)))⟩
theorem lay_many {ms : List Int} {hl way : Int} {n : Nat} (hb : ∀ x ∈ ms, 0 ≤ x ∧ x < 5) (hn : n ≤ 64) : PyData.layable0 (.list (((List.range n).map (skV ms hl way)).map .int)) = true := by
  refine lay_small (fun x hx => ?_) (by rw [List.length_map, List.length_range]; exact hn)
  obtain ⟨i, _, rfl⟩ := List.mem_map.mp hx
  have := getD_of hb (by decide) ((hl + way * i) % 64).toNat
  unfold skV
  omega
theorem any_mem {l : List Int} {a : Int} (h : (l.any fun x => x == a) = true) : a ∈ l := by
  obtain ⟨x, hx, e⟩ := List.any_eq_true.mp h
  rw [← beq_iff_eq.mp e]; exact hx
theorem many_getD {ms : List Int} {hl way : Int} {n i : Nat} (h : i < n) : ((List.range n).map (skV ms hl way)).getD i 0 = skV ms hl way i := by
  rw [List.getD_eq_getElem?_getD, many_get h]; rfl
theorem oct_facts {way oct c1 c2 z : Int} (h : (way = 1 ∧ oct = c1) ∨ (way = -1 ∧ oct = c2)) (k1 : octZ c1 = z ∧ octSt c1 = 1 ∧ OctOk c1 ∧ c1 ≥ 176) (k2 : octZ c2 = z ∧ octSt c2 = -1 ∧ OctOk c2 ∧ c2 ≥ 176) :
    octZ oct = z ∧ octSt oct = way ∧ OctOk oct ∧ oct ≥ 176 := by
  rcases h with ⟨rfl, rfl⟩ | ⟨rfl, rfl⟩
  · exact k1
  · exact k2
theorem many_cutF {M : Model} {A : Around} {E : Value → Shared → Prop} {s : Shared} {env : Env} {Q : Value → Shared → Prop} {h₀ h : Heap} {L : Addr} {m : Str → Option Value} {a cnt : Int} {ta tc : Tok} {e : Expr} (ms : List Int) (hl way : Int)
    (_ : Fr h₀ L h m) (_ : m (Str.ofString "a") = some (.int a ta)) (_ : m (Str.ofString "count") = some (.int cnt tc)) (h : wpAny M A (eval e env) (ManyQ ms hl way a cnt s) E s)
    (ret : ∀ val t tk, ManyIs ms hl way a cnt val → Q (.int val t) { s with toks := tk }) : wpAny M A (eval e env) Q E s := many_cut ms hl way a cnt h ret
theorem R_set7 {vs : List Value} {b de hl f x : Int} (h : IntsAre vs (R (b / 256 * 256 + b % 256) de hl f x)) : IntsAre vs (R b de hl f x) := by
  have e : b / 256 * 256 + b % 256 = b := by omega
  rwa [e] at h
theorem sk_told {a v : Int} {d : Bool} : tot (skBits a v d) = tot [(128, decide (127 < (a - v).fmod 256)), (64, a == v), (32, (((a - v - if decide (a.fmod 16 < (v).fmod 16) = true then 1 else 0).fmod 256).fdiv 2).fmod 2 == 1), (16, decide (a.fmod 16 < (v).fmod 16)), (8, (((a - v - if decide (a.fmod 16 < (v).fmod 16) = true then 1 else 0).fmod 256).fdiv 8).fmod 2 == 1), (4, d), (2, true)] := by
  have f1 : ∀ x : Int, x.fmod 256 = x % 256 := fun x => Int.fmod_eq_emod_of_nonneg x (by decide)
  have f2 : ∀ x : Int, x.fmod 16 = x % 16 := fun x => Int.fmod_eq_emod_of_nonneg x (by decide)
  have f3 : ∀ x : Int, x.fmod 2 = x % 2 := fun x => Int.fmod_eq_emod_of_nonneg x (by decide)
  have f4 : ∀ x : Int, x.fdiv 2 = x / 2 := fun x => Int.fdiv_eq_ediv_of_nonneg x (by decide)
  have f5 : ∀ x : Int, x.fdiv 8 = x / 8 := fun x => Int.fdiv_eq_ediv_of_nonneg x (by decide)
  simp only [f1, f2, f3, f4, f5, decide_eq_true_eq, skBits, gt_iff_lt]
theorem sk_pack {vs : List Value} {cnt de hl f a way many : Int} {ms : List Int} (_ : IntsAre vs (R cnt de hl f a)) (hm : ManyIs ms hl way a cnt many) (hc : 0 ≤ cnt ∧ cnt < 256) (hhl : 0 ≤ hl ∧ hl < 65536) (hf : 0 ≤ f ∧ f < 256) (ha : 0 ≤ a ∧ a < 6) (hb : ∀ y ∈ ms, 0 ≤ y ∧ y < 5) :
    iter 1 [] way ⟨cnt, de, hl, f, a, ms, 0, []⟩ many.toNat = ⟨cnt - many, de, (hl + way * many) % 65536, Builtin.bitAnd f 1 + tot [(128, decide (127 < (a - skV ms hl way (many - 1).toNat).fmod 256)), (64, a == skV ms hl way (many - 1).toNat), (32, (((a - skV ms hl way (many - 1).toNat - if decide (a.fmod 16 < (skV ms hl way (many - 1).toNat).fmod 16) = true then 1 else 0).fmod 256).fdiv 2).fmod 2 == 1), (16, decide (a.fmod 16 < (skV ms hl way (many - 1).toNat).fmod 16)), (8, (((a - skV ms hl way (many - 1).toNat - if decide (a.fmod 16 < (skV ms hl way (many - 1).toNat).fmod 16) = true then 1 else 0).fmod 256).fdiv 8).fmod 2 == 1), (4, decide (many < cnt)), (2, true)], a, ms, 0, []⟩ ∧
    (∀ j, 1 ≤ j → j ≤ many.toNat → (goes 1 (iter 1 [] way ⟨cnt, de, hl, f, a, ms, 0, []⟩ j) = true ↔ j < many.toNat)) ∧ many = ((many.toNat : Nat) : Int) ∧ (1 ≤ many.toNat ∧ many.toNat ≤ 300) ∧ many ≤ cnt := by
  obtain ⟨m1, m2, m3, m4⟩ := hm
  have hmn : many = ((many.toNat : Nat) : Int) := (Int.toNat_of_nonneg (by omega)).symm
  obtain ⟨fl, e, _, hfl⟩ := sk_iter (is := []) (de := de) (at_ := 0) (way := way) (outs := []) hc hhl hf ha hb many.toNat (by omega)
  have g := (hfl (many - 1).toNat (by omega)).1
  have ed : decide (cnt - ((many.toNat : Nat) : Int) ≠ 0) = decide (many < cnt) := decide_eq_decide.mpr ⟨fun _ => by omega, fun _ => by omega⟩
  refine ⟨?_, ?_, hmn, by omega, m2⟩
  · rw [e, g, ed, sk_told, ← hmn]
  · exact sk_goes hc hhl hf ha hb (by omega) (fun i hi => m3 i (by omega)) (fun i hi hlt => m4 i (by omega) (by omega))
theorem hole {p : Prop} (h : p) : p := h
end Mz

namespace Mz
/-- what a port's round tells behind the last one: v the octet, k the sum -/
def ptBits (v k : Int) : List (Int × Bool) := [(64, true), (16, decide (k > 255)), (4, (k % 8 % 2 + k % 8 / 2 % 2 + k % 8 / 4 % 2) % 2 == 0), (2, decide (v > 127)), (1, decide (k > 255))]
theorem pt_or : ∀ w : Fin 8, ∀ c n : Bool, Builtin.bitOr (Builtin.bitOr (Builtin.bitOr (szF 0) (if c = true then Builtin.bitOr 16 1 else 0)) (parF (Builtin.bitXor ((w.val : Nat) : Int) 0))) (if n = true then 2 else 0) =
    tot [(64, true), (16, c), (4, (((w.val : Nat) : Int) % 2 + ((w.val : Nat) : Int) / 2 % 2 + ((w.val : Nat) : Int) / 4 % 2) % 2 == 0), (2, n), (1, c)] := by decide +kernel
theorem and7 {x : Int} (h : 0 ≤ x ∧ x < 512) : Builtin.bitAnd x 7 = x % 8 := by
  obtain ⟨i, rfl⟩ := fin_of (n := 512) h
  revert i
  decide +kernel
theorem and128 {x : Int} (h : 0 ≤ x ∧ x < 256) : (Builtin.bitAnd x 128 ≠ 0) ↔ x > 127 := by
  obtain ⟨i, rfl⟩ := fin_of (n := 256) h
  revert i
  decide +kernel
theorem ptF_ok {v b : Int} (hv : 0 ≤ v ∧ v < 256) (hb : 0 ≤ b ∧ b < 256) : ptF v b 0 = tot (ptBits v (v + b)) := by
  obtain ⟨wi, hw⟩ := fin_of (n := 8) (x := (v + b) % 8) (by omega)
  have k := pt_or wi (decide (v + b > 255)) (decide (v > 127))
  unfold ptF ptBits
  rw [and7 (by omega), hw]
  have e1 : (if v + b > 255 then Builtin.bitOr 16 1 else 0) = (if decide (v + b > 255) = true then Builtin.bitOr 16 1 else 0) := by by_cases h : v + b > 255 <;> simp [h]
  have e2 : (if Builtin.bitAnd v 128 ≠ 0 then (2 : Int) else 0) = (if decide (v > 127) = true then 2 else 0) := by
    by_cases h : v > 127
    · rw [if_pos ((and128 hv).mpr h), if_pos (decide_eq_true h)]
    · rw [if_neg (fun g => h ((and128 hv).mp g)), if_neg (by rw [decide_eq_false h]; decide)]
  rw [e1, e2, k]
/-- the law's own reckoning of what comes in -/
noncomputable def inD (is ms : List Int) (hl way : Int) : Nat → List Int
  | 0 => ms
  | j + 1 => (inD is ms hl way j).set ((hl + way * j) % 64).toNat (is.getD (j % 4) 0)
noncomputable def outD (ms : List Int) (c hl way : Int) : Nat → List (Int × Int)
  | 0 => []
  | j + 1 => outD ms c hl way j ++ [(c, ms.getD ((hl + way * j) % 64).toNat 0)]
theorem inD_len {is ms : List Int} {hl way : Int} : ∀ j, (inD is ms hl way j).length = ms.length
  | 0 => rfl
  | j + 1 => by show (List.set _ _ _).length = _; rw [List.length_set, inD_len j]
theorem outD_len {ms : List Int} {c hl way : Int} : ∀ j, (outD ms c hl way j).length = j
  | 0 => rfl
  | j + 1 => by unfold outD; rw [List.length_append, outD_len j]; rfl
theorem iter23_last {n c : Int} {j : Nat} (hc : 0 ≤ c ∧ c < 256) (hn : 1 ≤ n ∧ n < 256) (hj : ((j + 1 : Nat) : Int) ≤ n) :
    (((n - (j : Int)) * 256 + c) / 256 - 1) % 256 * 256 + ((n - (j : Int)) * 256 + c) % 256 = (n - ((j + 1 : Nat) : Int)) * 256 + c := by omega
theorem in_iter {is ms : List Int} {n c de hl f a way : Int} {outs : List (Int × Int)} (hi4 : is.length = 4) (hib : ∀ y ∈ is, 0 ≤ y ∧ y < 256) (hn : 1 ≤ n ∧ n < 256) (hc : 0 ≤ c ∧ c < 256) (hhl : 0 ≤ hl ∧ hl < 65536) :
    ∀ j : Nat, (j : Int) ≤ n → ∃ f', iter 2 is way ⟨n * 256 + c, de, hl, f, a, ms, 0, outs⟩ j = ⟨(n - j) * 256 + c, de, (hl + way * j) % 65536, f', a, inD is ms hl way j, j, outs⟩ ∧
      (∀ i, j = i + 1 → (j : Int) = n → f' = tot (ptBits (is.getD (i % 4) 0) (is.getD (i % 4) 0 + (c + way) % 256)))
  | 0, _ => ⟨f, by
      show (⟨n * 256 + c, de, hl, f, a, ms, 0, outs⟩ : S) = ⟨(n - (0 : Nat)) * 256 + c, de, (hl + way * (0 : Nat)) % 65536, f, a, ms, ((0 : Nat) : Int), outs⟩
      have e1 : n - ((0 : Nat) : Int) = n := by omega
      have e3 : (hl + way * ((0 : Nat) : Int)) % 65536 = hl := by rw [show ((0 : Nat) : Int) = 0 from rfl, Int.mul_zero]; omega
      rw [e1, e3]; rfl, fun i h => absurd h (by omega)⟩
  | j + 1, hj => by
    obtain ⟨f', e, _⟩ := in_iter (ms := ms) (de := de) (f := f) (a := a) (way := way) (outs := outs) hi4 hib hn hc hhl j (by omega)
    have hv := getD_of hib (by decide) (j % 4)
    have hat : ((j : Int) % (is.length : Int)).toNat = j % 4 := by rw [hi4]; omega
    have hbX : (((n - (j : Int)) * 256 + c) / 256 - 1) % 256 * 256 + ((n - (j : Int)) * 256 + c) % 256 = (n - ((j + 1 : Nat) : Int)) * 256 + c := iter23_last hc hn hj
    have hc2 : ((n - ((j + 1 : Nat) : Int)) * 256 + c) % 256 = c := by omega
    have hvm : is.getD (j % 4) 0 % 256 = is.getD (j % 4) 0 := by omega
    refine ⟨ptF (is.getD (j % 4) 0) ((c + way) % 256) (((n - ((j + 1 : Nat) : Int)) * 256 + c) / 256), ?_, fun i hi hjn => ?_⟩
    · show st2 is way (iter 2 is way ⟨n * 256 + c, de, hl, f, a, ms, 0, outs⟩ j) = _
      rw [e]
      simp only [st2, vin, S.bX, mod64, step16, mul_step, hbX, hc2, hat, hvm]
      rfl
    · obtain rfl : j = i := by omega
      have e0 : ((n - ((j + 1 : Nat) : Int)) * 256 + c) / 256 = 0 := by omega
      rw [e0, ptF_ok hv (by omega)]
theorem out_iter {is ms : List Int} {n c de hl f a at_ way : Int} (hm : ∀ y ∈ ms, 0 ≤ y ∧ y < 256) (hn : 1 ≤ n ∧ n < 256) (hc : 0 ≤ c ∧ c < 256) (hhl : 0 ≤ hl ∧ hl < 65536) :
    ∀ j : Nat, (j : Int) ≤ n → ∃ f', iter 3 is way ⟨n * 256 + c, de, hl, f, a, ms, at_, []⟩ j = ⟨(n - j) * 256 + c, de, (hl + way * j) % 65536, f', a, ms, at_, outD ms c hl way j⟩ ∧
      (∀ i, j = i + 1 → (j : Int) = n → f' = tot (ptBits (ms.getD ((hl + way * i) % 64).toNat 0) (ms.getD ((hl + way * i) % 64).toNat 0 + (hl + way * j) % 65536 % 256)))
  | 0, _ => ⟨f, by
      show (⟨n * 256 + c, de, hl, f, a, ms, at_, []⟩ : S) = ⟨(n - (0 : Nat)) * 256 + c, de, (hl + way * (0 : Nat)) % 65536, f, a, ms, at_, []⟩
      have e1 : n - ((0 : Nat) : Int) = n := by omega
      have e3 : (hl + way * ((0 : Nat) : Int)) % 65536 = hl := by rw [show ((0 : Nat) : Int) = 0 from rfl, Int.mul_zero]; omega
      rw [e1, e3], fun i h => absurd h (by omega)⟩
  | j + 1, hj => by
    obtain ⟨f', e, _⟩ := out_iter (is := is) (de := de) (f := f) (a := a) (at_ := at_) (way := way) hm hn hc hhl j (by omega)
    have hv := getD_of hm (by decide) ((hl + way * j) % 64).toNat
    have hbX : (((n - (j : Int)) * 256 + c) / 256 - 1) % 256 * 256 + ((n - (j : Int)) * 256 + c) % 256 = (n - ((j + 1 : Nat) : Int)) * 256 + c := iter23_last hc hn hj
    have hc2 : ((n - (j : Int)) * 256 + c) % 256 = c := by omega
    have hbX2 : (((n - (j : Int)) * 256 + c) / 256 - 1) % 256 * 256 + c = (n - ((j + 1 : Nat) : Int)) * 256 + c := by omega
    refine ⟨ptF (ms.getD ((hl + way * j) % 64).toNat 0) ((hl + way * ((j + 1 : Nat) : Int)) % 65536 % 256) (((n - ((j + 1 : Nat) : Int)) * 256 + c) / 256), ?_, fun i hi hjn => ?_⟩
    · show st3 way (iter 3 is way ⟨n * 256 + c, de, hl, f, a, ms, at_, []⟩ j) = _
      rw [e]
      simp only [st3, S.val, S.bX, mod64, step16, mul_step, hc2, hbX2]
      rfl
    · obtain rfl : j = i := by omega
      have e0 : ((n - ((j + 1 : Nat) : Int)) * 256 + c) / 256 = 0 := by omega
      rw [e0, ptF_ok hv (by omega)]
theorem in_goes {is ms : List Int} {n c de hl f a way : Int} {outs : List (Int × Int)} (hi4 : is.length = 4) (hib : ∀ y ∈ is, 0 ≤ y ∧ y < 256) (hn : 1 ≤ n ∧ n < 256) (hc : 0 ≤ c ∧ c < 256) (hhl : 0 ≤ hl ∧ hl < 65536) (j : Nat) (hj : (j : Int) ≤ n) :
    goes 2 (iter 2 is way ⟨n * 256 + c, de, hl, f, a, ms, 0, outs⟩ j) = true ↔ (j : Int) < n := by
  obtain ⟨f', e, _⟩ := in_iter (ms := ms) (de := de) (f := f) (a := a) (way := way) (outs := outs) hi4 hib hn hc hhl j hj
  rw [e, goes2_iff]
  show ((n - (j : Int)) * 256 + c) / 256 ≠ 0 ↔ _
  omega
theorem out_goes {is ms : List Int} {n c de hl f a at_ way : Int} (hm : ∀ y ∈ ms, 0 ≤ y ∧ y < 256) (hn : 1 ≤ n ∧ n < 256) (hc : 0 ≤ c ∧ c < 256) (hhl : 0 ≤ hl ∧ hl < 65536) (j : Nat) (hj : (j : Int) ≤ n) :
    goes 3 (iter 3 is way ⟨n * 256 + c, de, hl, f, a, ms, at_, []⟩ j) = true ↔ (j : Int) < n := by
  obtain ⟨f', e, _⟩ := out_iter (is := is) (de := de) (f := f) (a := a) (at_ := at_) (way := way) hm hn hc hhl j hj
  rw [e, goes3_iff]
  show ((n - (j : Int)) * 256 + c) / 256 ≠ 0 ↔ _
  omega
end Mz

namespace Mz
section
variable {bc de hl f a n x y : Int}
theorem R_s1 (h : 0 ≤ x ∧ x < 256) : (R (n * 256 + y % 256) de hl f a).set (Int.toNat 1) x = R (n * 256 + x) de hl f a := by
  show [(n * 256 + y % 256) / 256, x, _, _, _, _, _, _] = [(n * 256 + x) / 256, (n * 256 + x) % 256, _, _, _, _, _, _]
  rw [show (n * 256 + y % 256) / 256 = n from by omega, show (n * 256 + x) / 256 = n from by omega, show (n * 256 + x) % 256 = x from by omega]
theorem R_g1x (h : 0 ≤ x ∧ x < 256) : (R (n * 256 + x) de hl f a).getD (Int.toNat 1) 0 = x := by
  show (n * 256 + x) % 256 = x
  omega
end
theorem fm_lt4 {x : Int} {l : List Int} (h : l.length = 4) : x.fmod 4 < (l.length : Int) := by rw [h]; exact (fm_bd (by decide)).2
theorem fm_fit4 {x : Int} : x.fmod 4 < 2 ^ 63 := by have := (fm_bd (x := x) (m := 4) (by decide)).2; omega
structure Ps where
  ds : List Int
  dv : List Value
def ILed (D : Addr) (kd : Nat) (rest : List (Addr × Obj)) (c : Ps) : List (Addr × Obj) := (D, listOf c.dv.toArray kd) :: rest
def IFacts (c : Ps) : Prop := IntsAre c.dv c.ds
def IP (Dn : Nat → List Int) (pre : List Int) (c : Ps) : Prop := c.ds = Dn pre.length
theorem spot_fr {x : Str} {v : Option Value} {u m₀ : Str → Option Value} : (fun y => if y = x then v else kstB (fun z => if [Str.ofString "spot"].contains z then u z else m₀ z) [] y) = (fun y => if y = x then v else if y = Str.ofString "spot" then u y else m₀ y) := by
  funext y
  have e : kstB (fun z => if [Str.ofString "spot"].contains z then u z else m₀ z) [] y = if y = Str.ofString "spot" then u y else m₀ y := by
    show (if [Str.ofString "spot"].contains y = true then u y else m₀ y) = _
    by_cases h : y = Str.ofString "spot"
    · simp [h]
    · simp [h]
  rw [e]
theorem spot_frU {x : Str} {u m₀ : Str → Option Value} : (fun y => if y = x then u y else kstB (fun z => if [Str.ofString "spot"].contains z then u z else m₀ z) [] y) = (fun y => if y = x then u y else if y = Str.ofString "spot" then u y else m₀ y) := by
  funext y
  exact congrFun (spot_fr (x := x) (v := u y) (u := u) (m₀ := m₀)) y
section
variable {prog : Program} {w : World} {A : Around} {E : Value → Shared → Prop} {s : Shared} {env : Env} {h₀ : Heap} {x : Str} {body : List Stmt} {Q : Flow → Shared → Prop}
theorem range_in {rr D : Addr} {b : Int} {t0 t1 t2 : Tok} {n kd : Nat} {m₀ : Str → Option Value} {led rest : List (Addr × Obj)} {dv : List Value} {ds : List Int} (Dn : Nat → List Int)
    (hh : A.handled = none) (_ : m₀ (Str.ofString "due") = some (.ref D)) (hr : IsRange s.heap rr 0 b 1 t0 t1 t2) (hb : b = n ∧ n ≤ 300) (F : Fr h₀ env.locals s.heap m₀) (N : News h₀ env.locals s.heap led) (V : Rem D (listOf dv.toArray kd) led rest) (hi : IntsAre dv ds)
    (h0 : ds = Dn 0)
    (turn : ∀ (c : Ps) (pre : List Int) (k : Int) t (u : Str → Option Value) h tk own, k = pre.length → pre.length < n → OwnOff own (D :: rest.map (·.1)) → IntsAre c.dv c.ds → c.ds = Dn pre.length →
      Fr h₀ env.locals h (fun y => if y = x then some (.int k t) else if y = Str.ofString "spot" then u y else m₀ y) → News h₀ env.locals h ((D, listOf c.dv.toArray kd) :: (rest ++ own)) →
      wpAny (model prog w) A (execs body env) (InvPostN h₀ env.locals (KstS (ILed D kd rest) (fun _ => []) IFacts x [Str.ofString "spot"] m₀ (IP Dn) (pre ++ [k])) own (D :: rest.map (·.1)) { s with heap := h, toks := tk } Q) E { s with heap := h, toks := tk })
    (done : ∀ (c : Ps) (u : Str → Option Value) h tk, IntsAre c.dv c.ds → c.ds = Dn n → Fr h₀ env.locals h (fun y => if y = x then u y else if y = Str.ofString "spot" then u y else m₀ y) → News h₀ env.locals h ((D, listOf c.dv.toArray kd) :: rest) → Q .next { s with heap := h, toks := tk }) :
    wpAny (model prog w) A (pyIter (.ref rr)) (fun it s₂ => LoopAtV prog w A h₀ env x body Q E it s₂) E s := by
  have N1 : News h₀ env.locals s.heap ((D, listOf dv.toArray kd) :: rest) := kst_newsOf N fun p hp => by
    rcases List.mem_cons.mp hp with rfl | hp
    · exact V.mem
    · exact (V.sub p hp).1
  obtain ⟨rfl, hn⟩ := hb
  have hsm : Builtin.Range.small 0 (n : Int) 1 = true := small_one (by decide) (by decide) (by omega) (by omega)
  refine kst_range (n := n) (σ := Ps) (ILed D kd rest) (fun _ => []) IFacts [Str.ofString "spot"] (IP Dn) ⟨ds, dv⟩ hh hr hsm ?_ F N1 hi (List.forall_mem_nil _) h0 ?_ ?_
  · rw [rangeSize_nat]; congr 1 <;> omega
  · intro c pre k t u h tk own hk hlt hoff hf hp F' N'
    rw [spot_fr] at F'
    exact turn c pre k t u h tk own (by omega) hlt hoff hf hp F' N'
  · intro c u h tk hf hp F' N'
    unfold IP at hp
    rw [rangeKs_length] at hp
    rw [spot_frU] at F'
    exact done c u h tk hf hp F' N'
theorem in_end {h' : Heap} {L D : Addr} {m' m₀ : Str → Option Value} {own rest : List (Addr × Obj)} {kd tk : Nat} {dv : List Value} {ds pre : List Int} {k : Int} {Dn : Nat → List Int} {s₁ : Shared}
    (F : Fr h₀ L h' m') (N : News h₀ L h' ((D, listOf dv.toArray kd) :: (rest ++ own))) (hi : IntsAre dv ds) (hr : ∀ z, z ≠ x → z ≠ Str.ofString "spot" → m' z = m₀ z) (hp : ds = Dn (pre ++ [k]).length) :
    InvEndN h₀ L (KstS (ILed D kd rest) (fun _ => []) IFacts x [Str.ofString "spot"] m₀ (IP Dn) (pre ++ [k])) own (D :: rest.map (·.1)) s₁ { s₁ with heap := h', toks := tk } :=
  kst_end (σ := Ps) (Led := ILed D kd rest) (ps := fun _ => []) (Facts := IFacts) (stored := [Str.ofString "spot"]) (P := IP Dn) (Ps.mk ds dv) F N (fun p hp => by
    rcases List.mem_cons.mp hp with rfl | hp
    · exact .head _
    · exact .tail _ (List.mem_append_left _ hp)) (fun p hp => .tail _ (List.mem_append_right _ hp)) rfl hi (List.forall_mem_nil _) (fun z h1 _ h3 => hr z h1 (fun e => by rw [e] at h3; simp at h3)) hp
end
theorem inD_next {is ms ds : List Int} {hl way k : Int} {pre : List Int} (hp : ds = inD is ms hl way pre.length) (hk : k = pre.length) :
    ds.set ((hl + way * k).fmod 64).toNat (is.getD (k.fmod 4).toNat 0) = inD is ms hl way (pre ++ [k]).length := by
  rw [List.length_append, List.length_singleton, fm64, Int.fmod_eq_emod_of_nonneg k (by decide)]
  subst hp hk
  have e : (((pre.length : Nat) : Int) % 4).toNat = pre.length % 4 := by omega
  rw [e]
  rfl
theorem getD_set_same {l : List Int} {i : Nat} {v : Int} (h : i < l.length) : (l.set i v).getD i 0 = v := by
  rw [List.getD_eq_getElem?_getD, List.getElem?_set_self h]; rfl
theorem in_last {is ms : List Int} {hl way cnt : Int} (h64 : ms.length = 64) (h1 : 1 ≤ cnt) : (inD is ms hl way cnt.toNat).getD ((hl + way * (cnt - 1)).fmod 64).toNat 0 = is.getD ((cnt - 1).toNat % 4) 0 := by
  obtain ⟨i, hi⟩ : ∃ i : Nat, cnt = (i : Int) + 1 := ⟨(cnt - 1).toNat, by omega⟩
  subst hi
  have e1 : ((i : Int) + 1).toNat = i + 1 := by omega
  have e2 : (i : Int) + 1 - 1 = i := by omega
  rw [e1, e2, fm64]
  show ((inD is ms hl way i).set ((hl + way * i) % 64).toNat (is.getD (i % 4) 0)).getD ((hl + way * i) % 64).toNat 0 = _
  rw [getD_set_same (by rw [inD_len, h64]; omega)]
  rfl
theorem oct_facts8 {way o b z : Int} (h : (way = 1 ∧ o = 0) ∨ (way = -1 ∧ o = 8)) (k1 : octZ (b + 0) = z ∧ octSt (b + 0) = 1 ∧ OctOk (b + 0) ∧ b + 0 ≥ 176) (k2 : octZ (b + 8) = z ∧ octSt (b + 8) = -1 ∧ OctOk (b + 8) ∧ b + 8 ≥ 176) :
    octZ (b + o) = z ∧ octSt (b + o) = way ∧ OctOk (b + o) ∧ b + o ≥ 176 := by
  rcases h with ⟨rfl, rfl⟩ | ⟨rfl, rfl⟩
  · exact k1
  · exact k2
def onesF (kv : Int) (i : Nat) : Int := ((kv.fmod 8).fdiv (2 ^ i)).fmod 2
theorem pt_told {v k : Int} : tot (ptBits v k) = Builtin.bitAnd 0 0 + tot [(64, true), (16, decide (255 < k)), (4, (onesF (k) 0 + (onesF (k) 1 + (onesF (k) 2 + 0))).fmod 2 == 0), (2, decide (127 < v)), (1, decide (255 < k))] := by
  have f1 : k.fmod 8 = k % 8 := Int.fmod_eq_emod_of_nonneg k (by decide)
  have f3 : ∀ x : Int, x.fmod 2 = x % 2 := fun x => Int.fmod_eq_emod_of_nonneg x (by decide)
  have o0 : onesF k 0 = k % 8 % 2 := by unfold onesF; rw [show (2 : Int) ^ 0 = 1 from rfl, f1, fdiv_1, f3]
  have o1 : onesF k 1 = k % 8 / 2 % 2 := by unfold onesF; rw [show (2 : Int) ^ 1 = 2 from rfl, f1, Int.fdiv_eq_ediv_of_nonneg _ (by decide), f3]
  have o2 : onesF k 2 = k % 8 / 4 % 2 := by unfold onesF; rw [show (2 : Int) ^ 2 = 4 from rfl, f1, Int.fdiv_eq_ediv_of_nonneg _ (by decide), f3]
  have z : Builtin.bitAnd 0 0 = 0 := by decide
  rw [o0, o1, o2, f3, z, Int.add_zero, ← Int.add_assoc, Int.zero_add]
  rfl
theorem in_pack {vs iv : List Value} {cnt c de hl f a way : Int} {ms is ds : List Int} (_ : IntsAre vs (R (cnt * 256 + c) de hl f a)) (_ : IntsAre iv is) (hi4 : is.length = 4) (hib : ∀ y ∈ is, 0 ≤ y ∧ y < 256) (h64 : ms.length = 64) (hcnt : 1 ≤ cnt ∧ cnt < 256) (hc : 0 ≤ c ∧ c < 256) (hhl : 0 ≤ hl ∧ hl < 65536) (hds : ds = inD is ms hl way cnt.toNat) :
    iter 2 is way ⟨cnt * 256 + c, de, hl, f, a, ms, 0, []⟩ cnt.toNat = ⟨c, de, (hl + way * cnt) % 65536, Builtin.bitAnd 0 0 + tot [(64, true), (16, decide (255 < ds.getD ((hl + way * (cnt - 1)).fmod 64).toNat 0 + (c + way).fmod 256)), (4, (onesF (ds.getD ((hl + way * (cnt - 1)).fmod 64).toNat 0 + (c + way).fmod 256) 0 + (onesF (ds.getD ((hl + way * (cnt - 1)).fmod 64).toNat 0 + (c + way).fmod 256) 1 + (onesF (ds.getD ((hl + way * (cnt - 1)).fmod 64).toNat 0 + (c + way).fmod 256) 2 + 0))).fmod 2 == 0), (2, decide (127 < ds.getD ((hl + way * (cnt - 1)).fmod 64).toNat 0)), (1, decide (255 < ds.getD ((hl + way * (cnt - 1)).fmod 64).toNat 0 + (c + way).fmod 256))], a, ds, cnt, []⟩ ∧
    (∀ j, 1 ≤ j → j ≤ cnt.toNat → (goes 2 (iter 2 is way ⟨cnt * 256 + c, de, hl, f, a, ms, 0, []⟩ j) = true ↔ j < cnt.toNat)) ∧ cnt = ((cnt.toNat : Nat) : Int) ∧ (1 ≤ cnt.toNat ∧ cnt.toNat ≤ 300) := by
  have hmn : cnt = ((cnt.toNat : Nat) : Int) := (Int.toNat_of_nonneg (by omega)).symm
  obtain ⟨fl, e, hfl⟩ := in_iter (ms := ms) (de := de) (f := f) (a := a) (way := way) (outs := []) hi4 hib hcnt hc hhl cnt.toNat (by omega)
  have g := hfl (cnt - 1).toNat (by omega) hmn.symm
  refine ⟨?_, fun j _ hj => (in_goes hi4 hib hcnt hc hhl j (by omega)).trans (by omega), hmn, by omega⟩
  rw [← pt_told, Int.fmod_eq_emod_of_nonneg (c + way) (by decide), hds, e, g, in_last h64 hcnt.1, ← hmn, Int.sub_self, Int.zero_mul, Int.zero_add]
end Mz

namespace Mz
inductive Sift (A : Ad) : List (Addr × Obj) → List (Addr × Obj) → Prop
  | nil : Sift A [] []
  | dropT {q d r k} : Sift A r k → Sift A ((q, ({ cls := .type "tuple", data := d } : Obj)) :: r) k
  | take {p r k} : Off A p.1 → Sift A r k → Sift A (p :: r) (p :: k)
  | drop {p r k} : Sift A r k → Sift A (p :: r) k
theorem Sift.d_rl {A : Ad} {o : Obj} {r k : List (Addr × Obj)} (h : Sift A r k) : Sift A ((A.rl, o) :: r) k := .drop h
theorem Sift.d_mm {A : Ad} {o : Obj} {r k : List (Addr × Obj)} (h : Sift A r k) : Sift A ((A.mm, o) :: r) k := .drop h
theorem Sift.d_dx {A : Ad} {o : Obj} {r k : List (Addr × Obj)} (h : Sift A r k) : Sift A ((A.dx, o) :: r) k := .drop h
theorem Sift.d_pd {A : Ad} {o : Obj} {r k : List (Addr × Obj)} (h : Sift A r k) : Sift A ((A.pd, o) :: r) k := .drop h
theorem Sift.d_ol {A : Ad} {o : Obj} {r k : List (Addr × Obj)} (h : Sift A r k) : Sift A ((A.ol, o) :: r) k := .drop h
theorem Sift.kept {A : Ad} : ∀ {led keep led' : List (Addr × Obj)}, Sift A led keep → Kept A led led' → ∀ q ∈ keep, q ∈ led'
  | _, _, _, .nil, _ => fun _ h => nomatch h
  | _, _, _, .dropT z, k => z.kept fun q hq hf => k q (.tail _ hq) hf
  | _, _, _, .take o z, k => fun q hq => by
    rcases List.mem_cons.mp hq with rfl | hq
    · exact k _ (.head _) o
    · exact z.kept (fun q hq hf => k q (.tail _ hq) hf) q hq
  | _, _, _, .drop z, k => z.kept fun q hq hf => k q (.tail _ hq) hf
section
variable {w : World} {dp un : Nat} {gd : Option (List Code)} {cn : Str} {cs : Scope} {a : Addr} {ccd : Value} {cl : List (Str × Addr)} {outer : List Env} {A₀ : Around} {base h₀ : Heap} {L : Addr} {m mg mb : Str → Option Value} {mean : ExcName → Option Value}
  {led : List (Addr × Obj)} {s : Shared} {Q E : Value → Shared → Prop}
  (B : Below A₀ base outer h₀) (F : Fr h₀ L s.heap m) (X : (hd.heap_39 w.params).In h₀) (N : News h₀ L s.heap led) (T : Top hd.view_39 LO mean mg mb h₀) (hk : cs.kind = .function) (hz : dp + 16 < 900) (hu : un + 160 < 2000)
include B F X N T hk hz hu
theorem c_roundsM {A : Ad} {is : List Int} {x x' : S} {pc oct cnt z st : Int} {n : Nat} {to : Tok} {keep : List (Addr × Obj)} (M : Mch led A is x pc) (D : Dist A) (ez : octZ oct = z) (est : octSt oct = st) (hc : cnt = n) (hn : 1 ≤ n ∧ n ≤ 300) (hat : x.at_ + n < 2 ^ 59 ∧ x.outs.length + n ≤ 900) (hin : z = 2 → 0 < is.length) (hoct : OctOk oct) (hrep : oct ≥ 176)
    (hgo : ∀ j, 1 ≤ j → j ≤ n → (goes z (iter z is st x j) = true ↔ j < n)) (hx : iter z is st x n = x') (Z : Sift A led keep)
    (ret : ∀ led' es en vs k mv km pes pn iv ki ov ko q t1 t2 h' tk', Fr h₀ L h' m → News h₀ L h' ((q, tupO [.int cnt t1, .int (21 * cnt - 5) t2]) :: (A.rl, listOf vs.toArray k) :: (A.mm, listOf mv.toArray km) :: (A.dx, dictOf es en) :: (A.pd, dictOf pes pn) :: (A.ol, listOf ov.toArray ko) :: keep) →
      Vals A is x' 102 es vs mv pes iv → (∀ p ∈ three A iv ki, p ∈ led') → OutsAre led' A ov x'.outs → News h₀ L h' ((q, tupO [.int cnt t1, .int (21 * cnt - 5) t2]) :: led') → (∀ p ∈ (A.rl, listOf vs.toArray k) :: (A.mm, listOf mv.toArray km) :: (A.dx, dictOf es en) :: (A.pd, dictOf pes pn) :: (A.ol, listOf ov.toArray ko) :: keep, p.1 ≠ q) → Q (.ref q) { s with heap := h', toks := tk' }) :
    wpAny (model PR w) (ktrTop dp un gd cn cs L a ccd cl outer) (call (.ref 350) [.ref A.c, .ref A.mm, .ref A.p, .int oct to]) Q E s := by
  subst ez est hx hc
  refine c_rounds B F X N T hk hz hu M D hn hat hin hoct hrep hgo fun led' q t1 t2 h' tk' F' N' M' K' hq => ?_
  obtain ⟨es, en, vs, k, mv, km, pes, pn, iv, ki, ov, ko, V', s3, s5, ho⟩ := M'
  have hsub : ∀ p ∈ (A.rl, listOf vs.toArray k) :: (A.mm, listOf mv.toArray km) :: (A.dx, dictOf es en) :: (A.pd, dictOf pes pn) :: (A.ol, listOf ov.toArray ko) :: keep, p ∈ led' := by
    intro p hp
    have : p ∈ five A es en vs k mv km pes pn ov ko ++ keep := hp
    rcases List.mem_append.mp this with h | h
    · exact s5 p h
    · exact Z.kept K' p h
  refine ret led' es en vs k mv km pes pn iv ki ov ko q t1 t2 h' tk' F' (kst_newsOf N' fun p hp => ?_) V' s3 ho N' fun p hp => hq p (hsub p hp)
  rcases List.mem_cons.mp hp with rfl | hp
  · exact .head _
  · exact .tail _ (hsub p hp)
theorem c_roundsL {c dx rl mm p pd il ol : Addr} {is : List Int} {es : List DictEntry} {en : Nat} {vs : List Value} {k : Nat} {mv : List Value} {km : Nat} {pes : List DictEntry} {pn : Nat} {iv : List Value} {ki ko : Nat} {x' : S} {bc de hl f av pc oct cnt z st : Int} {ms : List Int} {n : Nat} {tp ta to : Tok} {keep : List (Addr × Obj)}
    (h1 : (c, instObj 31 dx) ∈ led) (h2 : (dx, dictOf es en) ∈ led) (gr : getL (Str.ofString "r") es = some (some (.ref rl))) (h3 : (rl, listOf vs.toArray k) ∈ led) (h4 : (mm, listOf mv.toArray km) ∈ led)
    (h5 : (p, instObj 52 pd) ∈ led) (h6 : (pd, dictOf pes pn) ∈ led) (gi : getL (Str.ofString "ins") pes = some (some (.ref il))) (go : getL (Str.ofString "outs") pes = some (some (.ref ol))) (ga : getL (Str.ofString "at") pes = some (some (.int 0 ta)))
    (h7 : (il, listOf iv.toArray ki) ∈ led) (h8 : (ol, listOf ([] : List Value).toArray ko) ∈ led) (gp : getL (Str.ofString "pc") es = some (some (.int pc tp))) (ze : es.length ≤ 100) (zp : pes.length ≤ 100)
    (hR : IntsAre vs (R bc de hl f av)) (hM : IntsAre mv ms) (hI : IntsAre iv is) (ml : ms.length = 64) (mb : ∀ y ∈ ms, 0 ≤ y ∧ y < 256) (ib : ∀ y ∈ is, 0 ≤ y ∧ y < 256) (ilen : is.length ≤ 8) (hb : (0 ≤ bc ∧ bc < 65536) ∧ (0 ≤ de ∧ de < 65536) ∧ (0 ≤ hl ∧ hl < 65536) ∧ (0 ≤ pc ∧ pc < 65536))
    (D : Dist ⟨c, dx, rl, mm, p, pd, il, ol⟩) (ez : octZ oct = z) (est : octSt oct = st) (hc : cnt = n) (hn : 1 ≤ n ∧ n ≤ 300) (hin : z = 2 → 0 < is.length) (hoct : OctOk oct) (hrep : oct ≥ 176)
    (hgo : ∀ j, 1 ≤ j → j ≤ n → (goes z (iter z is st ⟨bc, de, hl, f, av, ms, 0, []⟩ j) = true ↔ j < n)) (hx : iter z is st ⟨bc, de, hl, f, av, ms, 0, []⟩ n = x') (Z : Sift ⟨c, dx, rl, mm, p, pd, il, ol⟩ led keep)
    (ret : ∀ led' es en vs k mv km pes pn iv ov ko q t1 t2 h' tk', Fr h₀ L h' m → News h₀ L h' ((q, tupO [.int cnt t1, .int (21 * cnt - 5) t2]) :: (rl, listOf vs.toArray k) :: (mm, listOf mv.toArray km) :: (dx, dictOf es en) :: (pd, dictOf pes pn) :: (ol, listOf ov.toArray ko) :: keep) →
      Vals ⟨c, dx, rl, mm, p, pd, il, ol⟩ is x' 102 es vs mv pes iv → OutsAre led' ⟨c, dx, rl, mm, p, pd, il, ol⟩ ov x'.outs → News h₀ L h' ((q, tupO [.int cnt t1, .int (21 * cnt - 5) t2]) :: led') → (∀ p ∈ (rl, listOf vs.toArray k) :: (mm, listOf mv.toArray km) :: (dx, dictOf es en) :: (pd, dictOf pes pn) :: (ol, listOf ov.toArray ko) :: keep, p.1 ≠ q) → Q (.ref q) { s with heap := h', toks := tk' }) :
    wpAny (model PR w) (ktrTop dp un gd cn cs L a ccd cl outer) (call (.ref 350) [.ref c, .ref mm, .ref p, .int oct to]) Q E s := by
  have M : Mch led ⟨c, dx, rl, mm, p, pd, il, ol⟩ is ⟨bc, de, hl, f, av, ms, 0, []⟩ pc :=
    ⟨es, en, vs, k, mv, km, pes, pn, iv, ki, [], ko, ⟨gr, ⟨_, gp⟩, ze, gi, go, ⟨_, ga⟩, zp, hR, hM, hI, ml, mb, ib, ilen, hb.1, hb.2.1, hb.2.2.1, Int.le_refl 0, hb.2.2.2⟩, sub_cons h1 (sub_cons h5 (sub_cons h7 sub_nil)), five_in h3 h4 h2 h6 h8, ⟨rfl, fun i v o hv _ => by simp at hv⟩⟩
  refine c_roundsM (A := ⟨c, dx, rl, mm, p, pd, il, ol⟩) B F X N T hk hz hu M D ez est hc hn ⟨by show (0 : Int) + n < 2 ^ 59; omega, by show 0 + n ≤ 900; omega⟩ hin hoct hrep hgo hx Z fun led' es en vs k mv km pes pn iv ki ov ko q t1 t2 h' tk' F' N' V' _ ho N2 hq => ?_
  exact ret led' es en vs k mv km pes pn iv ov ko q t1 t2 h' tk' F' N' V' ho N2 hq
end
theorem outs_nil {led : List (Addr × Obj)} {A : Ad} {ov : List Value} (h : OutsAre led A ov []) : ov = [] := List.length_eq_zero_iff.mp h.1
end Mz

namespace Mz
section
variable {w : World} {dp un : Nat} {gd : Option (List Code)} {cn : Str} {cs : Scope} {a : Addr} {ccd : Value} {cl : List (Str × Addr)} {outer : List Env} {A₀ : Around} {base h₀ : Heap} {L : Addr} {m mg mb : Str → Option Value} {mean : ExcName → Option Value}
  {led : List (Addr × Obj)} {s : Shared} {Q E : Value → Shared → Prop}
  (B : Below A₀ base outer h₀) (F : Fr h₀ L s.heap m) (X : (hd.heap_39 w.params).In h₀) (N : News h₀ L s.heap led) (T : Top hd.view_39 LO mean mg mb h₀) (hk : cs.kind = .function) (hz : dp + 16 < 900) (hu : un + 160 < 2000)
include B F X N T hk hz hu
theorem c_edL {c dx rl mm pp pd il ol : Addr} {is : List Int} {es : List DictEntry} {en : Nat} {vs : List Value} {k : Nat} {mv : List Value} {km : Nat} {pes : List DictEntry} {pn : Nat} {iv : List Value} {ki ko : Nat} {x' : S} {bc de hl f av pc oct : Int} {ms : List Int} {tp ta to : Tok} {keep : List (Addr × Obj)}
    (h1 : (c, instObj 31 dx) ∈ led) (h2 : (dx, dictOf es en) ∈ led) (gr : getL (Str.ofString "r") es = some (some (.ref rl))) (h3 : (rl, listOf vs.toArray k) ∈ led) (h4 : (mm, listOf mv.toArray km) ∈ led)
    (h5 : (pp, instObj 52 pd) ∈ led) (h6 : (pd, dictOf pes pn) ∈ led) (gi : getL (Str.ofString "ins") pes = some (some (.ref il))) (go : getL (Str.ofString "outs") pes = some (some (.ref ol))) (ga : getL (Str.ofString "at") pes = some (some (.int 0 ta)))
    (h7 : (il, listOf iv.toArray ki) ∈ led) (h8 : (ol, listOf ([] : List Value).toArray ko) ∈ led) (gp : getL (Str.ofString "pc") es = some (some (.int pc tp))) (ze : es.length ≤ 100) (zp : pes.length ≤ 100)
    (hR : IntsAre vs (R bc de hl f av)) (hM : IntsAre mv ms) (hI : IntsAre iv is) (ml : ms.length = 64) (mb : ∀ y ∈ ms, 0 ≤ y ∧ y < 256) (ib : ∀ y ∈ is, 0 ≤ y ∧ y < 256) (ilen : 0 < is.length ∧ is.length ≤ 8) (hb : (0 ≤ bc ∧ bc < 65536) ∧ (0 ≤ de ∧ de < 65536) ∧ (0 ≤ hl ∧ hl < 65536) ∧ (0 ≤ pc ∧ pc < 65536))
    (D : Dist ⟨c, dx, rl, mm, pp, pd, il, ol⟩) (hoct : OctOk oct) (hlo : oct < 176) (hx : stp (octZ oct) is (octSt oct) ⟨bc, de, hl, f, av, ms, 0, []⟩ = x') (Z : Sift ⟨c, dx, rl, mm, pp, pd, il, ol⟩ led keep)
    (ret : ∀ es en vs k mv km pes pn iv (ov : List Value) ko t h' tk', Fr h₀ L h' m → News h₀ L h' ((rl, listOf vs.toArray k) :: (mm, listOf mv.toArray km) :: (dx, dictOf es en) :: (pd, dictOf pes pn) :: (ol, listOf ov.toArray ko) :: keep) →
      Vals ⟨c, dx, rl, mm, pp, pd, il, ol⟩ is x' pc es vs mv pes iv → Q (.int 16 t) { s with heap := h', toks := tk' }) :
    wpAny (model PR w) (ktrTop dp un gd cn cs L a ccd cl outer) (call (.ref 254) [.ref c, .ref mm, .ref pp, .int oct to]) Q E s := by
  have M : Mch led ⟨c, dx, rl, mm, pp, pd, il, ol⟩ is ⟨bc, de, hl, f, av, ms, 0, []⟩ pc :=
    ⟨es, en, vs, k, mv, km, pes, pn, iv, ki, [], ko, ⟨gr, ⟨_, gp⟩, ze, gi, go, ⟨_, ga⟩, zp, hR, hM, hI, ml, mb, ib, ilen.2, hb.1, hb.2.1, hb.2.2.1, Int.le_refl 0, hb.2.2.2⟩, sub_cons h1 (sub_cons h5 (sub_cons h7 sub_nil)), five_in h3 h4 h2 h6 h8, ⟨rfl, fun i v o hv _ => by simp at hv⟩⟩
  refine c_ed (A := ⟨c, dx, rl, mm, pp, pd, il, ol⟩) B F X N T hk (by omega) (by omega) M D ⟨by show (0 : Int) < 2 ^ 59; decide, by show 0 ≤ 900; decide⟩ (fun _ => ilen.1) hoct fun led' t h' tk' F' N' M' K' => ?_
  have hc : ¬ (oct ≥ 176 ∧ goes (octZ oct) (stp (octZ oct) is (octSt oct) ⟨bc, de, hl, f, av, ms, 0, []⟩) = true) := fun h => by have := h.1; omega
  rw [if_neg hc] at M'
  rw [if_neg hc]
  subst hx
  obtain ⟨es, en, vs, k, mv, km, pes, pn, iv, ki, ov, ko, V', s3, s5, ho⟩ := M'
  refine ret es en vs k mv km pes pn iv ov ko t h' tk' F' (kst_newsOf N' fun p hp => ?_) V'
  rcases List.mem_append.mp (show p ∈ five ⟨c, dx, rl, mm, pp, pd, il, ol⟩ es en vs k mv km pes pn ov ko ++ keep from hp) with h | h
  · exact s5 p h
  · exact Z.kept K' p h
end
theorem once_oct {v : Int} (h : 0 ≤ v ∧ v < 8) : OctOk (([160, 161, 162, 163, 168, 169, 170, 171] : List Int).getD v.toNat 0) ∧ ([160, 161, 162, 163, 168, 169, 170, 171] : List Int).getD v.toNat 0 < 176 := by
  obtain ⟨i, rfl⟩ := fin_of (n := 8) h
  revert i
  unfold OctOk
  decide +kernel
theorem once_x {o bc de hl f a : Int} {ms is : List Int} (h : OctOk o) (hlo : o < 176) (hb : bc = 775) :
    ((o.fmod 4 < 2 → (stp (octZ o) is (octSt o) ⟨bc, de, hl, f, a, ms, 0, []⟩).bc = 774) ∧ (¬ o.fmod 4 < 2 → (stp (octZ o) is (octSt o) ⟨bc, de, hl, f, a, ms, 0, []⟩).bc = 519)) ∧
    ((o < 168 → (stp (octZ o) is (octSt o) ⟨bc, de, hl, f, a, ms, 0, []⟩).hl = (hl + 1) % 65536) ∧ (¬ o < 168 → (stp (octZ o) is (octSt o) ⟨bc, de, hl, f, a, ms, 0, []⟩).hl = (hl + -1) % 65536)) := by
  obtain ⟨h1, h2, h3⟩ := h
  have e4 : o.fmod 4 = o % 4 := Int.fmod_eq_emod_of_nonneg o (by decide)
  rw [e4]
  have hs : octSt o = if o < 168 then 1 else -1 := by
    unfold octSt
    by_cases h : o < 168
    · rw [if_pos h, if_pos (by omega)]
    · rw [if_neg h, if_neg (by omega)]
  subst hb
  have key : ((stp (octZ o) is (octSt o) ⟨775, de, hl, f, a, ms, 0, []⟩).bc = if octZ o < 2 then 774 else 519) ∧ (stp (octZ o) is (octSt o) ⟨775, de, hl, f, a, ms, 0, []⟩).hl = (hl + octSt o) % 65536 := by
    have hz0 : 0 ≤ octZ o ∧ octZ o < 4 := by unfold octZ; omega
    unfold stp
    by_cases g0 : octZ o = 0
    · rw [if_pos g0, if_pos (by omega)]; exact ⟨rfl, rfl⟩
    · rw [if_neg g0]
      by_cases g1 : octZ o = 1
      · rw [if_pos g1, if_pos (by omega)]; exact ⟨rfl, rfl⟩
      · rw [if_neg g1, if_neg (show ¬ octZ o < 2 by omega)]
        by_cases g2 : octZ o = 2
        · rw [if_pos g2]; exact ⟨rfl, rfl⟩
        · rw [if_neg g2]; exact ⟨rfl, rfl⟩
  rw [key.1, key.2, hs]
  have hz : octZ o = o % 8 := rfl
  refine ⟨⟨fun h => ?_, fun h => ?_⟩, ⟨fun h => ?_, fun h => ?_⟩⟩
  · rw [if_pos (by omega)]
  · rw [if_neg (by omega)]
  · rw [if_pos h]
  · rw [if_neg h]
theorem once_r {o bc de hl f a : Int} {ms is : List Int} {vs : List Value} (h : OctOk o) (hlo : o < 176) (hb : bc = 775)
    (hr : IntsAre vs (R (stp (octZ o) is (octSt o) ⟨bc, de, hl, f, a, ms, 0, []⟩).bc (stp (octZ o) is (octSt o) ⟨bc, de, hl, f, a, ms, 0, []⟩).de (stp (octZ o) is (octSt o) ⟨bc, de, hl, f, a, ms, 0, []⟩).hl (stp (octZ o) is (octSt o) ⟨bc, de, hl, f, a, ms, 0, []⟩).f (stp (octZ o) is (octSt o) ⟨bc, de, hl, f, a, ms, 0, []⟩).a)) :
    ∃ b' d' h' f' a', IntsAre vs (R b' d' h' f' a') ∧ (o.fmod 4 < 2 → b' = 774) ∧ (¬ o.fmod 4 < 2 → b' = 519) ∧ (o < 168 → h' = (hl + 1) % 65536) ∧ (¬ o < 168 → h' = (hl + -1) % 65536) := by
  obtain ⟨⟨q1, q2⟩, ⟨q3, q4⟩⟩ := once_x (de := de) (hl := hl) (f := f) (a := a) (ms := ms) (is := is) h hlo hb
  exact ⟨_, _, _, _, _, hr, q1, q2, q3, q4⟩
def IfQ (P : Int → Prop) (s : Shared) (v : Value) (s' : Shared) : Prop := ∃ val t tk, P val ∧ v = .int val t ∧ s' = { s with toks := tk }
theorem IfQ.at {P : Int → Prop} {s : Shared} {val : Int} {t : Tok} {tk : Nat} (h : P val) : IfQ P s (.int val t) { s with toks := tk } := ⟨_, _, _, h, rfl, rfl⟩
theorem ife_cut {M : Model} {A : Around} {E : Value → Shared → Prop} {s : Shared} {env : Env} {Q : Value → Shared → Prop} {e : Expr} (P : Int → Prop) (h : wpAny M A (eval e env) (IfQ P s) E s)
    (ret : ∀ val t tk, P val → Q (.int val t) { s with toks := tk }) : wpAny M A (eval e env) Q E s :=
  wpAny_mono h (fun v s' ⟨val, t, tk, hv, e1, e2⟩ => by subst e1 e2; exact ret val t tk hv) fun _ _ e => e
theorem once_end {b de hl f a wy hX : Int} {l1 l2 l3 : List Int} (h : hX = (hl + wy) % 65536) :
    true = (hX == ((R b de hl f a ++ l1 ++ l2 ++ l3).getD (Int.toNat 4) 0 * 256 + (R b de hl f a ++ l1 ++ l2 ++ l3).getD (Int.toNat 5) 0 + wy).fmod 65536) := by
  show true = (hX == (hl / 256 * 256 + hl % 256 + wy).fmod 65536)
  have e : hl / 256 * 256 + hl % 256 = hl := by omega
  rw [e, Int.fmod_eq_emod_of_nonneg _ (by decide), h]
  exact (beq_self_eq_true _).symm
end Mz

namespace Mz
def TupsIn (tl : List (Addr × Obj)) (ov : List Value) (outs : List (Int × Int)) : Prop := ov.length = outs.length ∧ ∀ (i : Nat) v o, ov[i]? = some v → outs[i]? = some o → ∃ q t1 t2, v = .ref q ∧ (q, tupO [.int o.1 t1, .int o.2 t2]) ∈ tl
theorem TupsIn.nil {tl : List (Addr × Obj)} : TupsIn tl [] [] := ⟨rfl, fun i v o hv _ => by simp at hv⟩
theorem TupsIn.mono {tl tl' : List (Addr × Obj)} {ov : List Value} {outs : List (Int × Int)} (h : TupsIn tl ov outs) (hs : ∀ p ∈ tl, p ∈ tl') : TupsIn tl' ov outs := by
  refine ⟨h.1, fun i v o hv ho => ?_⟩
  obtain ⟨q, t1, t2, e, hm⟩ := h.2 i v o hv ho
  exact ⟨q, t1, t2, e, hs _ hm⟩
theorem TupsIn.snoc {tl : List (Addr × Obj)} {ov : List Value} {outs : List (Int × Int)} {q : Addr} {b v : Int} {t1 t2 : Tok} (h : TupsIn tl ov outs) (hq : (q, tupO [.int b t1, .int v t2]) ∈ tl) : TupsIn tl (ov ++ [Value.ref q]) (outs ++ [(b, v)]) := by
  refine ⟨by rw [List.length_append, List.length_append, h.1]; rfl, fun i v' o hv ho => ?_⟩
  by_cases hi : i < outs.length
  · rw [List.getElem?_append_left hi] at ho
    rw [List.getElem?_append_left (by rw [h.1]; exact hi)] at hv
    exact h.2 i v' o hv ho
  · rw [List.getElem?_append_right (by omega)] at ho
    rw [List.getElem?_append_right (by rw [h.1]; omega)] at hv
    rw [h.1] at hv
    cases e : i - outs.length with
    | zero =>
      rw [e] at ho hv
      simp only [List.getElem?_cons_zero, Option.some.injEq] at ho hv
      subst ho hv
      exact ⟨q, t1, t2, rfl, hq⟩
    | succ j => rw [e] at ho; cases ho
theorem OutsAre.tups {led : List (Addr × Obj)} {A : Ad} {ov : List Value} {outs : List (Int × Int)} (h : OutsAre led A ov outs) : TupsIn led ov outs := by
  refine ⟨h.1, fun i v o hv ho => ?_⟩
  obtain ⟨q, t1, t2, e, hm, _⟩ := h.2 i v o hv ho
  exact ⟨q, t1, t2, e, hm⟩
def datO (o : Int × Int) : PyData := .tuple [.int o.1, .int o.2]
theorem TupsIn.reads {h₀ h : Heap} {L : Addr} {tl : List (Addr × Obj)} (N : News h₀ L h tl) : ∀ {ov : List Value} {outs : List (Int × Int)}, TupsIn tl ov outs → ReadsAll h ov (outs.map datO) []
  | [], [], _ => .nil
  | [], o :: r, t => by have := t.1; simp at this
  | v :: r, [], t => by have := t.1; simp at this
  | v :: r, o :: os, t => by
    obtain ⟨q, t1, t2, e, hm⟩ := t.2 0 v o rfl rfl
    subst e
    have ht : TupsIn tl r os := ⟨by have := t.1; simpa using this, fun i v' o' hv ho => t.2 (i + 1) v' o' (by simpa using hv) (by simpa using ho)⟩
    exact readsAll_cons_val (reads_tuple_at (N _ hm).1 rfl rfl (readsAll_cons_val (.int _ _) (readsAll_cons_val (.int _ _) .nil))) (TupsIn.reads N ht)
theorem datO_eqv : ∀ outs : List (Int × Int), PyData.eqvAll (outs.map datO) (outs.map datO) = true
  | [] => by simp [PyData.eqvAll]
  | o :: r => by simp [PyData.eqvAll, datO, PyData.eqv, datO_eqv r]
theorem datO_shaped (outs : List (Int × Int)) : SeqAt.shaped (.list (outs.map datO)) = true := by
  have c : ∀ l : List (Int × Int), PyData.canLayAll0 (l.map datO) = true := by
    intro l; induction l with
    | nil => rfl
    | cons x r ih => simp [PyData.canLayAll0, PyData.canLay0, datO, ih]
  have d : ∀ l : List (Int × Int), PyData.depthAll (l.map datO) ≤ 1 := by
    intro l; induction l with
    | nil => exact Nat.zero_le _
    | cons x r ih =>
      simp only [List.map_cons, PyData.depthAll]
      exact Nat.max_le.mpr ⟨by simp [datO, PyData.depth, PyData.depthAll], ih⟩
  unfold SeqAt.shaped
  refine Bool.and_eq_true_iff.mpr ⟨by simp only [PyData.canLay0, c], decide_eq_true ?_⟩
  have := d outs
  simp only [PyData.depth]
  omega
section
variable {prog : Program} {w : World} {A : Around} {E : Value → Shared → Prop} {s : Shared} {h₀ : Heap} {L : Addr}
theorem outs_ne {o1 o2 : Addr} {v1 v2 : List Value} {n1 n2 : Nat} {outs : List (Int × Int)} {l1 l2 : List (Addr × Obj)} {Q : Value → Shared → Prop} (N1 : News h₀ L s.heap l1) (N2 : News h₀ L s.heap l2) (h1 : (o1, listOf v1.toArray n1) ∈ l1) (h2 : (o2, listOf v2.toArray n2) ∈ l2)
    (t1 : TupsIn l1 v1 outs) (t2 : TupsIn l2 v2 outs) (hu : A.units + 64 < cLine) (h : Q (.bool false) s) : wpAny (model prog w) A (compareOp .NotEq (.ref o1) (.ref o2)) Q E s := by
  refine ne_dataH (reads_list_at (N1 _ h1).1 rfl rfl (t1.reads N1)) (reads_list_at (N2 _ h2).1 rfl rfl (t2.reads N2)) (datO_shaped outs) (datO_shaped outs) hu ?_
  have e : PyData.eqv (.list (outs.map datO)) (.list (outs.map datO)) = true := by simp only [PyData.eqv, datO_eqv]
  rw [e]
  exact h
end
def TlOff (O : Addr) (rest tl : List (Addr × Obj)) : Prop := ∀ p ∈ tl, p.1 ≠ O ∧ ∀ r ∈ rest, p.1 ≠ r.1
def OutJ (x : Str) (m₀ : Str → Option Value) (O : Addr) (rest : List (Addr × Obj)) (os : Nat → List (Int × Int)) (i : Nat) (m : Str → Option Value) (nx : List (Addr × Obj)) : Prop :=
  ∃ (u : Str → Option Value) (ov : List Value) (k' : Nat) (tl : List (Addr × Obj)), nx = (O, listOf ov.toArray k') :: (rest ++ tl) ∧ TupsIn tl ov (os i) ∧ TlOff O rest tl ∧ m = (fun y => if y = x then u y else if y = Str.ofString "spot" then u y else m₀ y)
section
variable {prog : Program} {w : World} {A : Around} {E : Value → Shared → Prop} {s : Shared} {env : Env} {h₀ : Heap} {x : Str} {body : List Stmt} {Q : Flow → Shared → Prop}
theorem range_out {rr O : Addr} {b : Int} {t0 t1 t2 : Tok} {n ko : Nat} {m₀ : Str → Option Value} {led rest : List (Addr × Obj)} (os : Nat → List (Int × Int))
    (hh : A.handled = none) (_ : m₀ (Str.ofString "outs") = some (.ref O)) (hr : IsRange s.heap rr 0 b 1 t0 t1 t2) (hb : b = n ∧ n ≤ 300) (F : Fr h₀ env.locals s.heap m₀) (N : News h₀ env.locals s.heap led) (V : Rem O (listOf ([] : List Value).toArray ko) led rest) (h0 : os 0 = [])
    (turn : ∀ (i : Nat) (k : Int) t (u : Str → Option Value) h tk own ov k' tl, k = (i : Int) → i < n → TbOff own ((O, listOf ov.toArray k') :: (rest ++ tl)) → TupsIn tl ov (os i) → TlOff O rest tl → (∀ p ∈ rest ++ (tl ++ own), p.1 ≠ O) →
      Fr h₀ env.locals h (fun y => if y = x then some (.int k t) else if y = Str.ofString "spot" then u y else m₀ y) → News h₀ env.locals h ((O, listOf ov.toArray k') :: (rest ++ (tl ++ own))) →
      wpAny (model prog w) A (execs body env) (TbPost h₀ env.locals (OutJ x m₀ O rest os (i + 1)) own { s with heap := h, toks := tk } Q) E { s with heap := h, toks := tk })
    (done : ∀ (u : Str → Option Value) h tk ov k' tl, TupsIn tl ov (os n) → TlOff O rest tl → Fr h₀ env.locals h (fun y => if y = x then u y else if y = Str.ofString "spot" then u y else m₀ y) → News h₀ env.locals h ((O, listOf ov.toArray k') :: (rest ++ tl)) → Q .next { s with heap := h, toks := tk }) :
    wpAny (model prog w) A (pyIter (.ref rr)) (fun it s₂ => LoopAtV prog w A h₀ env x body Q E it s₂) E s := by
  have N1 : News h₀ env.locals s.heap ((O, listOf ([] : List Value).toArray ko) :: (rest ++ [])) := kst_newsOf N fun p hp => by
    rw [List.append_nil] at hp
    rcases List.mem_cons.mp hp with rfl | hp
    · exact V.mem
    · exact (V.sub p hp).1
  obtain ⟨rfl, hn⟩ := hb
  have hsm : Builtin.Range.small 0 (n : Int) 1 = true := small_one (by decide) (by decide) (by omega) (by omega)
  have hsz : Builtin.Range.rangeSize 0 (n : Int) 1 = ((n : Nat) : Int) := by rw [rangeSize_nat]; congr 1 <;> omega
  refine tbr_invG (OutJ x m₀ O rest os) hh hr hsm hsz F N1 ⟨m₀, [], ko, [], rfl, by rw [h0]; exact .nil, (fun _ h => nomatch h), ?_⟩ ?_ ?_
  · funext y
    by_cases h1 : y = x
    · rw [if_pos h1]
    · rw [if_neg h1]
      by_cases h2 : y = Str.ofString "spot"
      · rw [if_pos h2]
      · rw [if_neg h2]
  · rintro i k t m₁ nx h tk own hk hoff ⟨u, ov, k', tl, rfl, hT, hTl, rfl⟩ F' N'
    have hin : i < n := by
      have := (List.getElem?_eq_some_iff.mp hk).1
      rwa [rangeKs_length] at this
    have hke : k = (i : Int) := by simp [rangeKs, hin] at hk; omega
    refine turn i k t u h tk own ov k' tl hke hin hoff hT hTl (fun p hp => ?_) ?_ (by rw [← List.append_assoc]; exact N')
    · rcases List.mem_append.mp hp with hp | hp
      · exact (V.sub p hp).2
      · rcases List.mem_append.mp hp with hp | hp
        · exact (hTl p hp).1
        · exact hoff p hp (O, listOf ov.toArray k') (.head _)
    have e : (fun y => if y = x then some (.int k t) else (fun y => if y = x then u y else if y = Str.ofString "spot" then u y else m₀ y) y) = (fun y => if y = x then some (Value.int k t) else if y = Str.ofString "spot" then u y else m₀ y) := by
      funext y
      by_cases h1 : y = x
      · rw [if_pos h1, if_pos h1]
      · rw [if_neg h1, if_neg h1]; dsimp only; rw [if_neg h1]
    rw [← e]; exact F'
  · rintro m₁ nx h tk ⟨u, ov, k', tl, rfl, hT, hTl, rfl⟩ F' N'
    exact done u h tk ov k' tl hT hTl F' N'
theorem out_end {h' : Heap} {L O q : Addr} {m' m₀ : Str → Option Value} {own rest tl : List (Addr × Obj)} {k k' tk i : Nat} {ov : List Value} {c v : Int} {t1 t2 : Tok} {os : Nat → List (Int × Int)} {s₁ : Shared}
    (F : Fr h₀ L h' m') (N : News h₀ L h' ((q, tupO [.int c t1, .int v t2]) :: (O, listOf (ov ++ [Value.ref q]).toArray k') :: (rest ++ (tl ++ own)))) (hT : TupsIn tl ov (os i)) (hos : os (i + 1) = os i ++ [(c, v)]) (hoff : TbOff own ((O, listOf ov.toArray k) :: (rest ++ tl))) (hq : AllLt q (rest ++ (tl ++ own))) (hqO : O < q) (hTl : TlOff O rest tl)
    (hr : ∀ z, z ≠ x → z ≠ Str.ofString "spot" → m' z = m₀ z) : TbEnd h₀ L (OutJ x m₀ O rest os (i + 1)) own s₁ { s₁ with heap := h', toks := tk } := by
  refine ⟨h', tk, m', _, (O, listOf (ov ++ [Value.ref q]).toArray k') :: (rest ++ ((q, tupO [.int c t1, .int v t2]) :: tl)), rfl, F, N, fun p hp => ?_, fun p hp => .tail _ (.tail _ (List.mem_append_right _ (List.mem_append_right _ hp))), fun p hp r hr' => ?_, m', _, _, _, rfl, ?_, ?_, ?_⟩
  · rcases List.mem_cons.mp hp with rfl | hp
    · exact .tail _ (.head _)
    · rcases List.mem_append.mp hp with hp | hp
      · exact .tail _ (.tail _ (List.mem_append_left _ hp))
      · rcases List.mem_cons.mp hp with rfl | hp
        · exact .head _
        · exact .tail _ (.tail _ (List.mem_append_right _ (List.mem_append_left _ hp)))
  · rcases List.mem_cons.mp hr' with rfl | hr'
    · exact hoff p hp (O, listOf ov.toArray k) (.head _)
    · rcases List.mem_append.mp hr' with hr' | hr'
      · exact hoff p hp _ (.tail _ (List.mem_append_left _ hr'))
      · rcases List.mem_cons.mp hr' with rfl | hr'
        · exact Nat.ne_of_lt (kst_ltOf hq p (List.mem_append_right _ (List.mem_append_right _ hp)))
        · exact hoff p hp _ (.tail _ (List.mem_append_right _ hr'))
  · rw [hos]
    exact (hT.mono fun p hp => .tail _ hp).snoc (.head _)
  · intro p hp
    rcases List.mem_cons.mp hp with rfl | hp
    · exact ⟨Nat.ne_of_gt hqO, fun r hr => Nat.ne_of_gt (kst_ltOf hq r (List.mem_append_left _ hr))⟩
    · exact hTl p hp
  · funext y
    by_cases h1 : y = x
    · rw [if_pos h1]
    · rw [if_neg h1]
      by_cases h2 : y = Str.ofString "spot"
      · rw [if_pos h2]
      · rw [if_neg h2, hr y h1 h2]
end
theorem news_app {h₀ h : Heap} {L : Addr} {l l2 : List (Addr × Obj)} {x : Addr × Obj} (N : News h₀ L h l) (N2 : News h₀ L h (x :: l2)) : News h₀ L h (l ++ l2) := fun p hp => (List.mem_append.mp hp).elim (N p) fun h => N2 p (.tail _ h)
theorem sift_all {A : Ad} : ∀ {l : List (Addr × Obj)}, (∀ p ∈ l, Off A p.1) → Sift A l l
  | [], _ => .nil
  | p :: r, h => .take (h p (.head _)) (sift_all fun q hq => h q (.tail _ hq))
theorem tl_off {A : Ad} {O : Addr} {rest tl : List (Addr × Obj)} {o1 o2 o3 o4 o5 : Obj} (h : TlOff O rest tl) (h1 : (A.rl, o1) ∈ rest) (h2 : (A.mm, o2) ∈ rest) (h3 : (A.dx, o3) ∈ rest) (h4 : (A.pd, o4) ∈ rest) (h5 : (A.ol, o5) ∈ rest) : ∀ p ∈ tl, Off A p.1 :=
  fun p hp => ⟨(h p hp).2 _ h1, (h p hp).2 _ h2, (h p hp).2 _ h3, (h p hp).2 _ h4, (h p hp).2 _ h5⟩
theorem out_last {ms is : List Int} {hl way cnt c : Int} {vs : List Value} {de f a : Int} (_ : IntsAre vs (R (cnt * 256 + c) de hl f a)) (hb : ∀ y ∈ ms, 0 ≤ y ∧ y < 256) (hcnt : 1 ≤ cnt ∧ cnt < 256) (hc : 0 ≤ c ∧ c < 256) (hhl : 0 ≤ hl ∧ hl < 65536) :
    iter 3 is way ⟨cnt * 256 + c, de, hl, f, a, ms, 0, []⟩ cnt.toNat = ⟨c, de, (hl + way * cnt) % 65536, Builtin.bitAnd 0 0 + tot [(64, true), (16, decide (255 < ms.getD ((hl + way * (cnt - 1)).fmod 64).toNat 0 + ((hl + way * cnt).fmod 65536).fmod 256)), (4, (onesF (ms.getD ((hl + way * (cnt - 1)).fmod 64).toNat 0 + ((hl + way * cnt).fmod 65536).fmod 256) 0 + (onesF (ms.getD ((hl + way * (cnt - 1)).fmod 64).toNat 0 + ((hl + way * cnt).fmod 65536).fmod 256) 1 + (onesF (ms.getD ((hl + way * (cnt - 1)).fmod 64).toNat 0 + ((hl + way * cnt).fmod 65536).fmod 256) 2 + 0))).fmod 2 == 0), (2, decide (127 < ms.getD ((hl + way * (cnt - 1)).fmod 64).toNat 0)), (1, decide (255 < ms.getD ((hl + way * (cnt - 1)).fmod 64).toNat 0 + ((hl + way * cnt).fmod 65536).fmod 256))], a, ms, 0, outD ms c hl way cnt.toNat⟩ ∧
    (∀ j, 1 ≤ j → j ≤ cnt.toNat → (goes 3 (iter 3 is way ⟨cnt * 256 + c, de, hl, f, a, ms, 0, []⟩ j) = true ↔ j < cnt.toNat)) ∧ cnt = ((cnt.toNat : Nat) : Int) ∧ (1 ≤ cnt.toNat ∧ cnt.toNat ≤ 300) := by
  have hmn : cnt = ((cnt.toNat : Nat) : Int) := (Int.toNat_of_nonneg (by omega)).symm
  obtain ⟨fl, e, hfl⟩ := out_iter (is := is) (de := de) (f := f) (a := a) (at_ := 0) (way := way) hb hcnt hc hhl cnt.toNat (by omega)
  have g := hfl (cnt - 1).toNat (by omega) hmn.symm
  refine ⟨?_, fun j _ hj => (out_goes hb hcnt hc hhl j (by omega)).trans (by omega), hmn, by omega⟩
  have e1 : (((cnt - 1).toNat : Nat) : Int) = cnt - 1 := Int.toNat_of_nonneg (by omega)
  rw [← pt_told, fm64, fm16, Int.fmod_eq_emod_of_nonneg (_ % 65536) (by decide), e, g, e1, ← hmn, Int.sub_self, Int.zero_mul, Int.zero_add]
def isTup (p : Addr × Obj) : Bool := match p.2.data with | .seq _ _ => true | _ => false
theorem tup_ne {h₀ h : Heap} {L c : Addr} {l l2 : List (Addr × Obj)} {o : Obj} {v : Option Value} (N : News h₀ L h l) (hc : (c, o) ∈ l) (hd : o.data = .cell v) (N2 : News h₀ L h l2) : ∀ p ∈ l2.filter isTup, p.1 ≠ c := fun p hp e => by
  obtain ⟨hm, ht⟩ := List.mem_filter.mp hp
  have a := (N2 p hm).1
  rw [e, (N _ hc).1] at a
  have e2 : o = p.2 := Option.some.inj a
  unfold isTup at ht
  rw [← e2, hd] at ht
  cases ht
theorem tups_filter {l : List (Addr × Obj)} {ov : List Value} {outs : List (Int × Int)} (h : TupsIn l ov outs) : TupsIn (l.filter isTup) ov outs := by
  refine ⟨h.1, fun i v o hv ho => ?_⟩
  obtain ⟨q, t1, t2, e, hm⟩ := h.2 i v o hv ho
  exact ⟨q, t1, t2, e, List.mem_filter.mpr ⟨hm, rfl⟩⟩
theorem news_filter {h₀ h : Heap} {L : Addr} {l l2 : List (Addr × Obj)} {x : Addr × Obj} (N : News h₀ L h l) (N2 : News h₀ L h (x :: l2)) : News h₀ L h (l ++ l2.filter isTup) := fun p hp => (List.mem_append.mp hp).elim (N p) fun h => N2 p (.tail _ (List.mem_filter.mp h).1)
theorem app_ne {c : Addr} {l1 l2 : List (Addr × Obj)} (h1 : ∀ p ∈ l1, p.1 ≠ c) (h2 : ∀ p ∈ l2, p.1 ≠ c) : ∀ p ∈ l1 ++ l2, p.1 ≠ c := fun p hp => (List.mem_append.mp hp).elim (h1 p) (h2 p)
theorem tl_ne {O c : Addr} {o : Obj} {rest tl : List (Addr × Obj)} (h : TlOff O rest tl) (hc : (c, o) ∈ rest) : ∀ p ∈ tl, p.1 ≠ c := fun p hp => (h p hp).2 _ hc
end Mz

section
example : True := by
  k_with "mz:exec For Tuple Name cons nil" => (refine Mz.halt ?_)
  trivial
namespace Mz
section
variable {w : World} {dp un : Nat} {gd : Option (List Code)} {cn : Str} {cs : Scope} {a : Addr} {ccd : Value} {cl : List (Str × Addr)} {outer : List Env} {A₀ : Around} {base h₀ : Heap} {L : Addr} {m mg mb : Str → Option Value} {mean : ExcName → Option Value}
  {led : List (Addr × Obj)} {s : Shared} {Q E : Value → Shared → Prop}
  (B : Below A₀ base outer h₀) (F : Fr h₀ L s.heap m) (X : (hd.heap_39 w.params).In h₀) (N : News h₀ L s.heap led) (T : Top hd.view_39 LO mean mg mb h₀) (hk : cs.kind = .function) (hz : dp + 10 < 900) (hu : un + 100 < 2000)
include B F X N T hk hz hu
theorem c_lflags {la : Addr} {k : Nat} {vs : List Value} {bits : List (Int × Bool)} {f kept : Int} {tf tk : Tok}
    (h1 : (la, listOf vs.toArray k) ∈ led) (hb : BitsAre led vs bits)
    (ret : ∀ t h' tk', Fr h₀ L h' m → News h₀ L h' led → Q (.int (Builtin.bitAnd f kept + tot bits) t) { s with heap := h', toks := tk' }) :
    wpAny (model PR w) (ktrTop dp un gd cn cs L a ccd cl outer) (call (.ref 362) [.ref la, .int f tf, .int kept tk]) Q E s := by
  refine wpAny_call ?_
  k_dflt (refine' code_in (K := hd.heap_39 w.params) (small := led) B F X N T (fun _ h => h) rfl rfl hk ?k6 ?k7 ?k8 ?k9 ?kB ?_ ?c2 ?c3 ?c4 ?c5)
  k_extra "mz enter"
  k_extra "mz steps"
  refine unhalt ?_
  k_here
  (with_reducible rename Fr _ _ _ _ => F9)
  (with_reducible rename News _ _ _ _ => N9)
  refine For_turns F9 ?_
  walk1
  refine iter_listTurns (vs := vs) rfl F9 N9 h1 rfl rfl (fun I hI => ?_)
  refine items_ind (J := fun r m' => ∃ acc t bs, m' (Str.ofString "found") = some (.int acc t) ∧ BitsAre led r bs ∧ acc + tot bs = Builtin.bitAnd f kept + tot bits) (by exact And.intro h1 trivial) ?_ ?_ vs _ ?_
  · rintro m' ⟨acc, t, bs, hm, hb', e⟩ h tk F' N'
    cases hb'
    replace F' := fr_norm F' hm
    k_extra "mz steps"
    refine back_ (by k_asm) N' (fun q hq => .inl hq) (fun kF kN => retI ?_ (ret _ _ _ kF kN))
    simp only [tot, Int.add_zero] at e
    exact e.symm
  · rintro v r m' h tk ⟨acc, t, bs, hm, hb', e⟩ F'
    cases hb' with
    | cons hq hr =>
      replace F' := fr_norm F' hm
      refine AllObj.cons (fun o' hc' => ?_)
      refine AllObj.nil (fun N' => ?_)
      (simp only [List.cons_append, List.nil_append] at N')
      replace N' := kst_newsOf (l' := (_, _) :: (I, o') :: led) N' (fun p hp => by
        rcases List.mem_cons.mp hp with rfl | hp
        · exact .tail _ hq
        · exact hp)
      k_extra "mz steps"
      all_goals
        (with_reducible rename Fr _ _ _ _ => F9')
        (with_reducible rename News _ _ _ _ => N9')
        refine ⟨_, _, _, led, rfl, F9', kst_newsOf (l' := (I, o') :: led) N9' (fun p hp => .tail _ hp), (fun p hp q hq => by rw [List.mem_singleton.mp hq]; exact Nat.ne_of_lt (hI p hp)), rfl, _, _, _, if_pos rfl, hr, ?_⟩
        simp only [tot] at e
      · rw [if_pos (by with_reducible assumption)] at e; omega
      · rw [if_neg (by (with_reducible rename _ = false => hs9); rw [hs9]; exact Bool.false_ne_true)] at e; omega
  · exact ⟨Builtin.bitAnd (f.fdiv 1) kept, _, bits, if_pos rfl, hb, by rw [fdiv_1]⟩
end
end Mz

end
section
example : True := by
  k_with_none
  k_with "mz enter" => ((case k6 => k_is); (case k7 => k_is); (case k8 => ktr_room); (case k9 => exact BindsTo.of_eq rfl); (case c5 => decide); (case kB => exact locs rfl); (case c2 => exact rfl); (case c3 => exact rfl); (case c4 => exact rfl); k_whole; intro g'x L'x h'x tk'x F'x N'x B'x X'x T'x l'x hg'x; (try dsimp only); (try k_fold))
  k_with "mz steps" => repeat' (first | (k_unfold; (try dsimp only)) | (walk1; (try dsimp only)) | (dsimp only; walk1) | (dsimp only; k_unfold; (try dsimp only)) | (k_unmd; k_unfold; (try dsimp only)))
  k_with "mz keeps" => first | exact Mz.keeps_nil | (refine Mz.keeps_cons ?_ ?_; (first | (refine Or.inl ?_; k_mem) | exact Or.inr ⟨_, .head _, rfl⟩ | exact Or.inr ⟨_, .tail _ (.head _), rfl⟩ | exact Or.inr ⟨_, .tail _ (.tail _ (.head _)), rfl⟩ | exact Or.inr ⟨_, .tail _ (.tail _ (.tail _ (.head _))), rfl⟩ | exact Or.inr ⟨_, .tail _ (.tail _ (.tail _ (.tail _ (.head _)))), rfl⟩); k_extra "mz keeps")
  k_with "mz:ite" => first | refine Mz.beq_pos (by omega) ?_ | refine Mz.beq_neg (by omega) ?_ | refine Mz.bne_pos (by omega) ?_ | refine Mz.bne_neg (by omega) ?_ | refine Mz.dec_pos (by omega) ?_ | refine Mz.dec_neg (by omega) ?_
  k_with "mz:binaryOp LShift int int" => refine lshift_int_small (by decide) (by decide) (Mz.sh8' (by assumption)) ?_
  k_with "mz:setItem ref int" => (k_here; (with_reducible show wpAny _ _ (setItem (Value.ref _) (Value.int _ _) (Value.int _ _)) _ _ _); k_dflt (refine' Mz.set_at ?k1_6 ?k2_6 ?k3_6 ?k4_6 ?k5_6 ?k6_6 ?k7_6 ?k8_6 ?_; (case k1_6 => k_asm); (case k2_6 => k_asm); (case k3_6 => k_updF); (case k4_6 => with_reducible assumption); (case k5_6 => ksa_idx); (case k6_6 => ksa_idx); (case k7_6 => ksa_idx); (case k8_6 => first | exact Mz.R_s6 | exact Mz.R_s0b | exact Mz.R_s0 | exact rfl); k_whole); intro h'x vs'x F'x N'x hi'x hl'x; (try dsimp only at N'x); (try k_sweep))
  k_with "mz dp" => ((try dsimp only [ktrTop, Around.deeper]); first | exact Mz.dp2 (by with_reducible assumption) rfl | exact Mz.dp1 (by with_reducible assumption) rfl | omega)
  k_with "mz ctx" => ((case cB => k_asm); (case cF => k_asm); (case cX => k_asm); (case cN => k_asm); (case cT => k_asm); (case ck => exact rfl); (case cz => k_extra "mz dp"); (case cu => k_extra "mz dp"))
  k_with "mz ifs" => ((repeat' split) <;> first | with_reducible rfl | (exfalso; first | contradiction | omega))
  k_with "mz rem" => first | (refine' Mz.Rem.head ?a_10; (case a_10 => k_all)) | (refine' Mz.Rem.tail ?a_10 ?b_10; (case a_10 => k_ne); (case b_10 => k_extra "mz rem"))
  k_with "mz len" => first | with_reducible assumption | exact Mz.R_len | with_reducible exact Mz.setPr_len (by k_extra "mz len")
  k_with "mz byt" => first | with_reducible assumption | exact Mz.R_byt (by omega) (by omega) (by omega) | with_reducible exact Mz.setPr_byt (by k_extra "mz byt")
  k_with "mz getL" => first | with_reducible assumption | (refine' Mz.getL_oth ?ga_13 ?gb_13 ?gc_13; (case ga_13 => with_reducible assumption); (case gb_13 => decide +kernel); (case gc_13 => k_extra "mz getL"))
  k_with "mz:getAttr ref" => (k_here; k_dflt (refine' get_own ?k1_14 ?k2_14 ?k3_14 ?k4_14 ?k5_14 ?k6_14 ?k7_14 ?k8_14 ?k9_14 ?_; (case k1_14 => k_asm); (case k2_14 => k_asm); (case k3_14 => k_inst); (case k4_14 => k_is); (case k5_14 => k_is); (case k6_14 => k_is); (case k7_14 => k_is); (case k8_14 => k_extra "mz getL"); (case k9_14 => k_handed); k_whole))
  k_with "mz:setAttr ref" => (k_here; k_dflt (refine' Mz.set_own ?k1_15 ?k2_15 ?k3_15 ?k4_15 ?k5_15 ?k6_15 ?k7_15 ?k8_15 ?k9_15 ?k10_15 ?k11_15 ?k12_15 ?_; (case k1_15 => k_asm); (case k2_15 => k_asm); (case k3_15 => k_asm); (case k4_15 => k_inst); (case k5_15 => exact rfl); (case k6_15 => k_is); (case k7_15 => k_is); (case k8_15 => k_is); (case k9_15 => k_is); (case k10_15 => k_extra "mz getL"); (case k11_15 => first | with_reducible assumption | omega); (case k12_15 => k_extra "mz rem"); k_whole; intro h'x es'x n'x hs'x ho'x hz'x F'x N'x; (try k_sweep)))
  k_with "mz:subscriptTail" => (k_here; (with_reducible show wpAny _ _ (subscriptTail _ _ (Value.ref _) (Value.int _ _)) _ _ _); k_dflt (refine' Mz.sub_at ?k1_16 ?k2_16 ?k3_16 ?k4_16 ?k5_16 ?k6_16 ?k8_16 ?_ ?k7_16; (case k1_16 => k_asm); (case k2_16 => k_mem); (case k3_16 => with_reducible assumption); (case k4_16 => ksa_idx); (case k5_16 => ksa_idx); (case k6_16 => ksa_idx); (case k7_16 => with_unfolding_all rfl); (case k8_16 => first | with_reducible_and_instances exact Mz.R_g0 | with_reducible_and_instances exact Mz.R_g1 | with_reducible_and_instances exact Mz.R_g6 | with_reducible_and_instances exact Mz.R_g7 | exact Mz.R_g0 | exact Mz.R_g1 | exact Mz.R_g6 | exact Mz.R_g7 | exact rfl); k_whole); intro _)
  k_with "mz lt" => first | exact Mz.Lts.lt (by with_reducible assumption) (by k_mem) | with_reducible assumption | exact Mz.lt_s (by k_extra "mz lt")
  k_with "mz and" => first | exact And.left (by with_reducible assumption) | exact And.left (And.right (by with_reducible assumption)) | exact And.left (And.right (And.right (by with_reducible assumption))) | exact And.left (And.right (And.right (And.right (by with_reducible assumption)))) | exact And.left (And.right (And.right (And.right (And.right (by with_reducible assumption))))) | exact And.left (And.right (And.right (And.right (And.right (And.right (by with_reducible assumption)))))) | exact And.left (And.right (And.right (And.right (And.right (And.right (And.right (by with_reducible assumption))))))) | exact And.right (by with_reducible assumption) | exact And.right (And.right (by with_reducible assumption)) | exact And.right (And.right (And.right (by with_reducible assumption))) | exact And.right (And.right (And.right (And.right (by with_reducible assumption)))) | exact And.right (And.right (And.right (And.right (And.right (by with_reducible assumption))))) | exact And.right (And.right (And.right (And.right (And.right (And.right (by with_reducible assumption))))))
  k_with "mz neq" => first | exact Nat.ne_of_lt (Mz.Lts.lt (by with_reducible assumption) (by k_mem)) | exact Nat.ne_of_gt (Mz.Lts.lt (by with_reducible assumption) (by k_mem)) | exact Mz.Nes.ne (by with_reducible assumption) (by k_mem) | exact Ne.symm (Mz.Nes.ne (by with_reducible assumption) (by k_mem)) | exact Nat.ne_of_lt (by with_reducible assumption) | exact Nat.ne_of_gt (by with_reducible assumption) | exact Nat.ne_of_gt (Mz.lt_s (by k_extra "mz lt")) | exact Nat.ne_of_lt (Mz.lt_s (by k_extra "mz lt")) | exact Nat.ne_of_gt (Mz.lt_tr (by with_reducible assumption) (by k_extra "mz lt")) | exact Nat.ne_of_lt (Mz.lt_tr (by with_reducible assumption) (by k_extra "mz lt")) | exact Mz.NeA.out (by k_extra "mz and") | exact Ne.symm (Mz.NeA.out (by k_extra "mz and"))
  k_with "mz all" => first | exact List.forall_mem_nil _ | ((with_reducible refine Mz.all_cons ?_ ?_); (k_ne); (k_extra "mz all")) | exact OwnOff.ne (by assumption) (by k_memK) | exact Mz.all_cons (by k_ne) (by k_extra "mz all")
  k_with "mz ne" => first | with_reducible assumption | exact Mz.NeA.symm (by with_reducible assumption) | exact Mz.NeA.of (by k_extra "mz neq") | exact Mz.NeA.of (by omega)
  k_with "mz nes" => first | (refine And.intro ?_ ?_; (k_extra "mz ne"); (k_extra "mz nes")) | k_extra "mz ne"
  k_with "mz ksa_idx" => ((rw [Mz.R_len]); decide)
  k_with "mz k_ne" => (refine neN ?_; (try dsimp only); first | exact Mz.NeA.out (by with_reducible assumption) | exact Ne.symm (Mz.NeA.out (by with_reducible assumption)) | k_extra "mz neq" | omega)
  k_with "mz k_all" => first | exact Mz.ne_lts (by with_reducible assumption) (by exact rfl) | exact Mz.ne_nes (by with_reducible assumption) (by exact rfl) | k_extra "mz all"
  k_with "mz:call ref" => (refine Mz.halt ?_)
  trivial
namespace Mz
def drawElt (many : Int) (p1 p2 p3 p4 : Pos) (kk : Nat) : Expr := .Call (.Name (Str.ofString "_law_draw") p1) [.Name (Str.ofString "pool") p2, .Constant (.int many) kk p3] [] p4
def drawScope : Scope := { kind := .function, names := [(Str.ofString ".0", .local), (Str.ofString "at", .local), (Str.ofString "_law_draw", .globalImplicit), (Str.ofString "pool", .free)], isGenerator := false, isCoroutine := false, more := [] }
theorem rem_app {d : Addr} {o : Obj} {rest : List (Addr × Obj)} (hrest : ∀ p ∈ rest, p.1 ≠ d) : ∀ {pre : List (Addr × Obj)}, (∀ p ∈ pre, p.1 ≠ d) → Rem d o (pre ++ (d, o) :: rest) (pre ++ rest)
  | [], _ => .head hrest
  | p :: pre, h => .tail (h p (.head _)) (rem_app hrest fun q hq => h q (.tail _ hq))
theorem pool_kind {cn : Str} {cs : Scope} {L a C : Addr} {ccd : Value} {cl cl' : List (Str × Addr)} (hk : cs.kind = .function) (hcs : cs.names.lookup (Str.ofString "pool") = some .cell) :
    (compEnvC drawScope cl' C (envX cn cs L a ccd cl)).kindOf (Str.ofString "pool") = some .cell := by
  have e1 : (Str.ofString "pool" == Str.ofString ".0") = false := by decide +kernel
  have e2 : (Str.ofString "pool" == Str.ofString "at") = false := by decide +kernel
  have e3 : (Str.ofString "pool" == Str.ofString "_law_draw") = false := by decide +kernel
  simp [compEnvC, relabel, Env.kindOf, drawScope, envX, hk, hcs, e1, e2, e3, List.lookup]
section
variable {w : World} {dp un : Nat} {gd : Option (List Code)} {cn : Str} {cs : Scope} {a : Addr} {ccd : Value} {cl : List (Str × Addr)} {outer : List Env} {A₀ : Around} {base h₀ : Heap} {L : Addr} {m mg mb : Str → Option Value} {mean : ExcName → Option Value}
  {s : Shared}
  (B : Below A₀ base outer h₀) (X : (hd.heap_39 w.params).In h₀) (T : Top hd.view_39 LO mean mg mb h₀) (hk : cs.kind = .function) (hcs : cs.names.lookup (Str.ofString "pool") = some .cell) (hz : dp + 10 < 900) (hu : un + 100 < 2000)
include B X T hk hcs hz hu
set_option maxHeartbeats 400000 in
theorem draw_elt {many : Int} {p1 p2 p3 p4 : Pos} {kk : Nat} {pl gl cc C : Addr} {oc : Obj} {pre rest : List (Addr × Obj)} {k kg : Nat} {gv : List Value} {gs : List Int} {i r : Int} {ti ts : Tok} {Q E : Value → Shared → Prop}
    (F : Fr h₀ L s.heap m) (N : News h₀ L s.heap (pre ++ (pl, listOf [.ref gl, .int i ti, .int r ts].toArray k) :: rest)) (hg : (gl, listOf gv.toArray kg) ∈ rest) (hc : (cc, oc) ∈ rest) (hd' : oc.data = .cell (some (.ref pl)))
    (hpre : ∀ p ∈ pre, p.1 ≠ pl) (hrest : ∀ p ∈ rest, p.1 ≠ pl) (P : PoolV gl gs gv i r) (hne : NeA pl gl) (hm : 1 ≤ many ∧ many ≤ 256)
    (ret : ∀ v t i' ti' r' ts' h' tk', 0 ≤ v ∧ v < many → PoolV gl gs gv i' r' → Fr h₀ L h' m → News h₀ L h' ((pl, listOf [.ref gl, .int i' ti', .int r' ts'].toArray k) :: (pre ++ rest)) → Q (.int v t) { s with heap := h', toks := tk' }) :
    wpAny (model PR w) (ktrTop dp un gd cn cs L a ccd cl outer) (eval (drawElt many p1 p2 p3 p4 kk) (compEnvC drawScope [(Str.ofString "pool", cc)] C (envX cn cs L a ccd cl))) Q E s := by
  unfold drawElt
  walk1
  walk1
  walk1
  walk1
  walk1
  refine lcf_cell (x := Str.ofString "pool") (cl := [(Str.ofString "pool", cc)]) (scope := drawScope) (C := C) (env := envX cn cs L a ccd cl) N rfl (List.mem_append_right _ (.tail _ hc)) hd' ?_ rfl (pool_kind hk hcs)
  walk1
  walk1
  walk1
  refine ⟨X.keeps F.keep, c_draw (s := { s with toks := s.toks + 1 }) B F X N T hk hz hu (List.mem_append_right _ (.tail _ hg)) (rem_app hrest hpre) P hne hm ret⟩
theorem rest_draws {many : Int} {p1 p2 p3 p4 : Pos} {kk : Nat} {pl gl cc : Addr} {oc : Obj} {rest : List (Addr × Obj)} {k kg : Nat} {gv : List Value} {gs : List Int} {n : Nat} {P : Nat → Value → Prop} {Fin : List Value → List (Addr × Obj) → Prop}
    (hg : (gl, listOf gv.toArray kg) ∈ rest) (hc : (cc, oc) ∈ rest) (hd' : oc.data = .cell (some (.ref pl)))
    (hrest : ∀ p ∈ rest, p.1 ≠ pl) (hne : NeA pl gl) (hm : 1 ≤ many ∧ many ≤ 256)
    (hfin : ∀ ys ns i r ti ts, IntsAre ys ns → (∀ x ∈ ns, 0 ≤ x ∧ x < many) → ns.length = n → PoolV gl gs gv i r → Fin ys ((pl, listOf [.ref gl, .int i ti, .int r ts].toArray k) :: rest)) :
    ∀ (j q : Nat) (ys : List Value) (ns : List Int) (i r : Int) (ti ts : Tok), IntsAre ys ns → (∀ x ∈ ns, 0 ≤ x ∧ x < many) → ns.length + j = n → PoolV gl gs gv i r →
      LCg.CompRest PR w (ktrTop dp un gd cn cs L a ccd cl outer) h₀ L m (envX cn cs L a ccd cl) (drawElt many p1 p2 p3 p4 kk) (Str.ofString "at") drawScope [(Str.ofString "pool", cc)] s (fun _ => True) P Fin j q ys ((pl, listOf [.ref gl, .int i ti, .int r ts].toArray k) :: rest) := by
  intro j
  induction j with
  | zero =>
    intro q ys ns i r ti ts hi hb hl hP
    exact LCg.CompRest.zero (hfin ys ns i r ti ts hi hb (by omega) hP)
  | succ j ih =>
    intro q ys ns i r ti ts hi hb hl hP
    refine LCg.CompRest.succ fun v I oI C oC D m2 h tk E' hv hC hx F N off ne => ?_
    refine draw_elt B X T hk hcs hz hu (s := { s with heap := h, toks := tk }) (pre := [(I, oI), (C, oC), (D, LCg.lst ys)]) F N hg hc hd' ?_ hrest hP hne hm fun v t i' ti' r' ts' h' tk' hv' hP' F' N' => ?_
    · have o1 := off.1
      exact List.forall_mem_cons.mpr ⟨Ne.symm o1.1, List.forall_mem_cons.mpr ⟨Ne.symm o1.2.1, List.forall_mem_cons.mpr ⟨Ne.symm o1.2.2, List.forall_mem_nil _⟩⟩⟩
    · refine LCg.CompEnd.intro (news' := (pl, listOf [.ref gl, .int i' ti', .int r' ts'].toArray k) :: rest) F' N' (fun p hp => ?_) ⟨off.1, off.2⟩ trivial (ih _ _ (ns ++ [v]) _ _ _ _ (hi.append (.cons _ _ .nil)) (fun x hx => ?_) (by rw [List.length_append, List.length_singleton]; omega) hP')
      · rcases List.mem_cons.mp hp with rfl | hp
        · exact .tail _ (.head _)
        · rcases List.mem_cons.mp hp with rfl | hp
          · exact .tail _ (.tail _ (.head _))
          · rcases List.mem_cons.mp hp with rfl | hp
            · exact .tail _ (.tail _ (.tail _ (.head _)))
            · rcases List.mem_cons.mp hp with rfl | hp
              · exact .head _
              · exact .tail _ (.tail _ (.tail _ (.tail _ hp)))
      · rcases List.mem_append.mp hx with hx | hx
        · exact hb x hx
        · rw [List.mem_singleton.mp hx]; exact hv'
theorem src_draws {many b : Int} {p1 p2 p3 p4 : Pos} {kk : Nat} {pl gl cc rr : Addr} {oc : Obj} {led rest : List (Addr × Obj)} {k kg : Nat} {gv : List Value} {gs : List Int} {n : Nat} {i r : Int} {ti ts t0 t1 t2 : Tok} {Q : Value → Shared → Prop}
    (F : Fr h₀ L s.heap m) (N : News h₀ L s.heap led) (V : Rem pl (listOf [.ref gl, .int i ti, .int r ts].toArray k) led rest) (hr : IsRange s.heap rr 0 b 1 t0 t1 t2) (hsm : Builtin.Range.small 0 b 1 = true) (hn : Builtin.Range.rangeSize 0 b 1 = ((n : Nat) : Int)) (hnz : n ≤ 64)
    (hg : (gl, listOf gv.toArray kg) ∈ rest) (hc : (cc, oc) ∈ rest) (hd' : oc.data = .cell (some (.ref pl))) (P : PoolV gl gs gv i r) (hne : NeA pl gl) (hm : 1 ≤ many ∧ many ≤ 256)
    (ret : ∀ D ys ns i r ti ts h' tk', IntsAre ys ns → (∀ x ∈ ns, 0 ≤ x ∧ x < many) → ns.length = n → PoolV gl gs gv i r → Fr h₀ L h' m → News h₀ L h' ((D, listOf ys.toArray ys.length) :: (pl, listOf [.ref gl, .int i ti, .int r ts].toArray k) :: rest) →
      (∀ p ∈ (pl, listOf [.ref gl, .int i ti, .int r ts].toArray k) :: rest, p.1 ≠ D) → Q (.ref D) { s with heap := h', toks := tk' }) :
    LCg.CompSrc PR w (ktrTop dp un gd cn cs L a ccd cl outer) h₀ L m (envX cn cs L a ccd cl) (.Call (.Name (Str.ofString "_law_draw") p1) [.Name (Str.ofString "pool") p2, .Constant (.int many) kk p3] [] p4) (Str.ofString "at") { kind := .function, names := [(Str.ofString ".0", .local), (Str.ofString "at", .local), (Str.ofString "_law_draw", .globalImplicit), (Str.ofString "pool", .free)], isGenerator := false, isCoroutine := false, more := [] } [(Str.ofString "pool", cc)] (fun s₂ => LCg.FinE h₀ L m s₂ Q) (.ref rr) s := by
  have N1 : News h₀ L s.heap ((pl, listOf [.ref gl, .int i ti, .int r ts].toArray k) :: rest) := kst_newsOf N fun p hp => by
    rcases List.mem_cons.mp hp with rfl | hp
    · exact V.mem
    · exact (V.sub p hp).1
  show LCg.CompSrc PR w (ktrTop dp un gd cn cs L a ccd cl outer) h₀ L m (envX cn cs L a ccd cl) (drawElt many p1 p2 p3 p4 kk) (Str.ofString "at") drawScope [(Str.ofString "pool", cc)] (fun s₂ => LCg.FinE h₀ L m s₂ Q) (.ref rr) s
  refine LCg.CompSrc.range rfl F N1 hr hsm hn (Nat.le_trans hnz (by decide)) fun g => ?_
  refine rest_draws B X T hk hcs hz hu (n := n) hg hc hd' (fun p hp => (V.sub p hp).2) hne hm (fun ys ns i r ti ts hi hb hl hP => ?_) n 0 [] [] _ _ _ _ .nil (fun x hx => nomatch hx) (by simp) P
  intro D h tk F' N' o'
  exact ret D ys ns i r ti ts h tk hi hb hl hP F' N' fun p hp => by
    have key : ∀ {l : List (Addr × Obj)}, LCg.Off1 D l → ∀ p ∈ l, p.1 ≠ D := by
      intro l
      induction l with
      | nil => intro _ p hp; cases hp
      | cons q l ih =>
        intro h p hp
        rcases List.mem_cons.mp hp with rfl | hp
        · exact h.1
        · exact ih h.2 p hp
    exact key o' p hp
end
end Mz

namespace Mz
section
variable {prog : Program} {w : World} {A : Around} {E : Value → Shared → Prop} {s : Shared} {h₀ : Heap} {L : Addr} {m : Str → Option Value} {env : Env}
/-- a comprehension's source that is a tuple of the ledger -/
def TupSrc (prog : Program) (w : World) (A : Around) (h₀ : Heap) (L : Addr) (m : Str → Option Value) (env : Env) (elt : Expr) (x : Str) (scope : Scope) (cl : List (Str × Addr)) (Q : Value → Shared → Prop) (xv : Value) (s₁ : Shared) : Prop :=
  ∃ ax its news, xv = .ref ax ∧ A.handled = none ∧ Fr h₀ L s₁.heap m ∧ News h₀ L s₁.heap news ∧ (ax, tupO its) ∈ news ∧ its.length ≤ sizeLine ∧
    ∀ g, LCg.CompRest prog w A h₀ L m env elt x scope cl { s₁ with heap := g } (fun nw => (ax, tupO its) ∈ nw) (fun i v => its.toArray[i]? = some v) (LCg.FinE h₀ L m { s₁ with heap := g } Q) its.toArray.size 0 [] news
theorem tup_of {h : Heap} {ax : Addr} {its : List Value} {news : List (Addr × Obj)} (N : News h₀ L h news) (hm : (ax, tupO its) ∈ news) : h.IsTuple ax its.toArray := ⟨_, (N _ hm).1, rfl, _, rfl⟩
theorem ListComp_T {elt it : Expr} {x : Str} {px : Pos} {scope : Scope} {cl : List (Str × Addr)} {pos : Pos} {Q : Value → Shared → Prop} (_ : Fr h₀ L s.heap m)
    (hclos : closureFor scope env = pure cl) (hcell : ∀ y ∈ scope.names, y.2 ≠ .cell) (hkind : scope.kind = .function)
    (hnames : ∀ y ∈ scope.names, y.2 = .local → scope.names.lookup y.1 = some .local) (hx : scope.names.lookup x = some .local)
    (h : wpAny (model prog w) A (eval it env) (TupSrc prog w A h₀ L m env elt x scope cl Q) E s)
    (hs : ∀ x, foldedSetIterable it env x = pure x) :
    wpAny (model prog w) A (eval (.ListComp elt [⟨.Name x px, it, [], 0⟩] scope pos) env) Q E s := by
  rw [eval_ListComp]
  refine wpAny_comprehension_free (use := none) rfl hs hclos hkind hnames (wpAny_mono h (fun xv s₁ h₁ => ?_) fun _ _ e => e)
  obtain ⟨ax, its, news, rfl, hh, F, N, hm, hsz, R⟩ := h₁
  have ht := tup_of N hm
  have hlt : ax < s₁.heap.objs.size := Heap.lt_size (N _ hm).1
  have grow : ∀ b o, s₁.heap.get? b = some o → (s₁.heap.push { cls := .type "tuple_iterator", data := .fields #[.ref ax, .int 0 0] }).get? b = some o := fun b o e => Heap.get?_push_of_some _ e
  refine wpAny_pyIter_tuple ht ?_
  refine LCg.block_U (Walks.tuple hh s₁.heap.objs.size ax (Nat.ne_of_lt hlt) its.toArray) (by simpa using hsz) (fun i h st => by obtain ⟨o, e, _⟩ := st.1; exact ⟨o, e⟩)
    (fun i h h' o nw st e e' k N' S => ⟨by obtain ⟨o', q, r⟩ := st.1; rw [e] at q; cases q; exact ⟨o, e', r⟩, tup_of N' S⟩) hcell hkind hx ⟨⟨_, Heap.get?_push_size _ rfl, rfl, rfl⟩, ht.push _⟩ (fun b hb => ?_)
    (F.keeps grow) (N.grown grow) (Nat.ne_of_lt F.ns.lt) (next_is_new F) (fun p hp => Nat.ne_of_lt (Heap.lt_size (N p hp).1)) hm (R _) ?_
  · show b < (s₁.heap.push _).objs.size
    rw [Heap.size_push]
    rcases List.mem_cons.mp hb with rfl | hb
    · exact Nat.lt_succ_self _
    · rw [List.mem_singleton.mp hb]; exact Nat.lt_succ_of_lt hlt
  · intro D C h tk m' ys news' F' N' o1 hn hC₀ hD₀ hCL hDL hCD offC fin
    refine ⟨m', hn, fun h'' hs'' => fin D h'' tk (F'.change hs'' hCL hC₀) (fun p hp => ⟨hs''.extBut _ _ ?_ (N' p hp).1, (N' p hp).2⟩) o1⟩
    rcases List.mem_cons.mp hp with rfl | hp
    · exact Ne.symm hCD
    · exact offC p hp
end
def pairElt (p1 p2 p3 p4 : Pos) : Expr := .Call (.Name (Str.ofString "_law_pair") p1) [.Name (Str.ofString "cpu") p2, .Name (Str.ofString "at") p3] [] p4
def pairScope : Scope := { kind := .function, names := [(Str.ofString ".0", .local), (Str.ofString "at", .local), (Str.ofString "_law_pair", .globalImplicit), (Str.ofString "cpu", .free)], isGenerator := false, isCoroutine := false, more := [] }
theorem cpu_kind {cn : Str} {cs : Scope} {L a C : Addr} {ccd : Value} {cl cl' : List (Str × Addr)} (hk : cs.kind = .function) (hcs : cs.names.lookup (Str.ofString "cpu") = some .cell) :
    (compEnvC pairScope cl' C (envX cn cs L a ccd cl)).kindOf (Str.ofString "cpu") = some .cell := by
  have e1 : (Str.ofString "cpu" == Str.ofString ".0") = false := by decide +kernel
  have e2 : (Str.ofString "cpu" == Str.ofString "at") = false := by decide +kernel
  have e3 : (Str.ofString "cpu" == Str.ofString "_law_pair") = false := by decide +kernel
  simp [compEnvC, relabel, Env.kindOf, pairScope, envX, hk, hcs, e1, e2, e3, List.lookup]
def lpOf (ns : List Int) (k : Int) : Int := ns.getD k.toNat 0 * 256 + ns.getD (k + 1).toNat 0
theorem lp_024 {bc de hl f a : Int} : [(0 : Int), 2, 4].map (lpOf (R bc de hl f a)) = [bc, de, hl] := by
  show [bc / 256 * 256 + bc % 256, de / 256 * 256 + de % 256, hl / 256 * 256 + hl % 256] = _
  rw [show bc / 256 * 256 + bc % 256 = bc from by omega, show de / 256 * 256 + de % 256 = de from by omega, show hl / 256 * 256 + hl % 256 = hl from by omega]
theorem lp_04 {bc de hl f a : Int} : [(0 : Int), 4].map (lpOf (R bc de hl f a)) = [bc, hl] := by
  show [bc / 256 * 256 + bc % 256, hl / 256 * 256 + hl % 256] = _
  rw [show bc / 256 * 256 + bc % 256 = bc from by omega, show hl / 256 * 256 + hl % 256 = hl from by omega]
section
variable {w : World} {dp un : Nat} {gd : Option (List Code)} {cn : Str} {cs : Scope} {a : Addr} {ccd : Value} {cl : List (Str × Addr)} {outer : List Env} {A₀ : Around} {base h₀ : Heap} {L : Addr} {m mg mb : Str → Option Value} {mean : ExcName → Option Value}
  {s : Shared}
  (B : Below A₀ base outer h₀) (X : (hd.heap_39 w.params).In h₀) (T : Top hd.view_39 LO mean mg mb h₀) (hk : cs.kind = .function) (hcs : cs.names.lookup (Str.ofString "cpu") = some .cell) (hz : dp + 10 < 900) (hu : un + 100 < 2000)
include B X T hk hcs hz hu
set_option maxHeartbeats 400000 in
theorem pair_elt {p1 p2 p3 p4 : Pos} {c dx rl cc C : Addr} {oc oC : Obj} {led : List (Addr × Obj)} {es : List DictEntry} {n k : Nat} {vs : List Value} {ns : List Int} {at' : Int} {ta : Tok} {m₂ : Str → Option Value} {Q E : Value → Shared → Prop}
    (F : Fr h₀ L s.heap m) (N : News h₀ L s.heap led) (hC : (C, oC) ∈ led) (hoC : LCg.NsObj oC m₂) (hx : m₂ (Str.ofString "at") = some (.int at' ta)) (h1 : (c, instObj 31 dx) ∈ led) (h2 : (dx, dictOf es n) ∈ led) (h3 : (rl, listOf vs.toArray k) ∈ led) (hi : IntsAre vs ns) (hl : ns.length = 8)
    (hr : getL (Str.ofString "r") es = some (some (.ref rl))) (hc : (cc, oc) ∈ led) (hd' : oc.data = .cell (some (.ref c))) (hp : 0 ≤ at' ∧ at' ≤ 6)
    (ret : ∀ t h' tk', Fr h₀ L h' m → News h₀ L h' led → Q (.int (lpOf ns at') t) { s with heap := h', toks := tk' }) :
    wpAny (model PR w) (ktrTop dp un gd cn cs L a ccd cl outer) (eval (pairElt p1 p2 p3 p4) (compEnvC pairScope [(Str.ofString "cpu", cc)] C (envX cn cs L a ccd cl))) Q E s := by
  unfold pairElt
  walk1
  walk1
  walk1
  walk1
  walk1
  refine lcf_cell (x := Str.ofString "cpu") (cl := [(Str.ofString "cpu", cc)]) (scope := pairScope) (C := C) (env := envX cn cs L a ccd cl) N rfl hc hd' ?_ rfl (cpu_kind hk hcs)
  walk1
  walk1
  walk1
  walk1
  exact c_lpair (s := s) B F X N T hk hz hu h1 h2 h3 hi hl hr hp rfl ret
theorem rest_pairs {p1 p2 p3 p4 : Pos} {c dx rl cc ax : Addr} {oc : Obj} {led : List (Addr × Obj)} {es : List DictEntry} {n k : Nat} {vs its : List Value} {ns ks : List Int} {Fin : List Value → List (Addr × Obj) → Prop}
    (hm : (ax, tupO its) ∈ led) (hks : IntsAre its ks) (hb : ∀ k ∈ ks, 0 ≤ k ∧ k ≤ 6) (h1 : (c, instObj 31 dx) ∈ led) (h2 : (dx, dictOf es n) ∈ led) (h3 : (rl, listOf vs.toArray k) ∈ led) (hi : IntsAre vs ns) (hl : ns.length = 8)
    (hr : getL (Str.ofString "r") es = some (some (.ref rl))) (hc : (cc, oc) ∈ led) (hd' : oc.data = .cell (some (.ref c)))
    (hfin : ∀ ys, IntsAre ys (ks.map (lpOf ns)) → Fin ys led) :
    ∀ (j q : Nat) (ys : List Value), q + j = its.length → IntsAre ys ((ks.take q).map (lpOf ns)) →
      LCg.CompRest PR w (ktrTop dp un gd cn cs L a ccd cl outer) h₀ L m (envX cn cs L a ccd cl) (pairElt p1 p2 p3 p4) (Str.ofString "at") pairScope [(Str.ofString "cpu", cc)] s (fun nw => (ax, tupO its) ∈ nw) (fun i v => its.toArray[i]? = some v) Fin j q ys led := by
  intro j
  induction j with
  | zero =>
    intro q ys hq hy
    have e : ks.take q = ks := List.take_of_length_le (by rw [← hks.length]; omega)
    rw [e] at hy
    exact LCg.CompRest.zero (hfin ys hy)
  | succ j ih =>
    intro q ys hq hy
    refine LCg.CompRest.succ fun v I oI C oC D m2 h tk E' hv hC hx F N off ne => ?_
    obtain ⟨kk, t, rfl, hkq⟩ := hks.at q v (by simpa using hv)
    have hkm : kk ∈ ks := List.mem_of_getElem? hkq
    refine pair_elt B X T hk hcs hz hu (s := { s with heap := h, toks := tk }) F N (.tail _ (.head _)) hC hx (.tail _ (.tail _ (.tail _ h1))) (.tail _ (.tail _ (.tail _ h2))) (.tail _ (.tail _ (.tail _ h3))) hi hl hr (.tail _ (.tail _ (.tail _ hc))) hd' (hb kk hkm) fun t' h' tk' F' N' => ?_
    refine LCg.CompEnd.intro (news' := led) F' N' (fun p hp => hp) off hm (ih _ _ (by omega) ?_)
    rw [List.take_add_one, hkq, List.map_append]
    exact hy.append (.cons _ _ .nil)
theorem src_pairs {p1 p2 p3 p4 : Pos} {c dx rl cc ax : Addr} {oc : Obj} {led : List (Addr × Obj)} {es : List DictEntry} {n k : Nat} {vs its : List Value} {ns ks : List Int} {Q : Value → Shared → Prop}
    (F : Fr h₀ L s.heap m) (N : News h₀ L s.heap led) (hm : (ax, tupO its) ∈ led) (hks : IntsAre its ks) (hb : ∀ k ∈ ks, 0 ≤ k ∧ k ≤ 6) (hlen : its.length ≤ 8) (h1 : (c, instObj 31 dx) ∈ led) (h2 : (dx, dictOf es n) ∈ led) (h3 : (rl, listOf vs.toArray k) ∈ led) (hi : IntsAre vs ns) (hl : ns.length = 8)
    (hr : getL (Str.ofString "r") es = some (some (.ref rl))) (hc : (cc, oc) ∈ led) (hd' : oc.data = .cell (some (.ref c)))
    (ret : ∀ D ys h' tk', IntsAre ys (ks.map (lpOf ns)) → Fr h₀ L h' m → News h₀ L h' ((D, listOf ys.toArray ys.length) :: led) → (∀ p ∈ led, p.1 ≠ D) → Q (.ref D) { s with heap := h', toks := tk' }) :
    TupSrc PR w (ktrTop dp un gd cn cs L a ccd cl outer) h₀ L m (envX cn cs L a ccd cl) (.Call (.Name (Str.ofString "_law_pair") p1) [.Name (Str.ofString "cpu") p2, .Name (Str.ofString "at") p3] [] p4) (Str.ofString "at") { kind := .function, names := [(Str.ofString ".0", .local), (Str.ofString "at", .local), (Str.ofString "_law_pair", .globalImplicit), (Str.ofString "cpu", .free)], isGenerator := false, isCoroutine := false, more := [] } [(Str.ofString "cpu", cc)] Q (.ref ax) s := by
  refine ⟨ax, its, led, rfl, rfl, F, N, hm, Nat.le_trans hlen (by decide), fun g => ?_⟩
  refine rest_pairs B X T hk hcs hz hu hm hks hb h1 h2 h3 hi hl hr hc hd' (fun ys hy => ?_) its.toArray.size 0 [] (by simp) .nil
  intro D h tk F' N' o'
  exact ret D ys h tk hy F' N' fun p hp => by
    have key : ∀ {l : List (Addr × Obj)}, LCg.Off1 D l → ∀ p ∈ l, p.1 ≠ D := by
      intro l
      induction l with
      | nil => intro _ p hp; cases hp
      | cons q l ih =>
        intro h p hp
        rcases List.mem_cons.mp hp with rfl | hp
        · exact h.1
        · exact ih h.2 p hp
    exact key o' p hp
end
end Mz

namespace Mz
def srchElt (p1 p2 p3 p4 p5 p6 p7 p8 p9 : Pos) (kk : Nat) : Expr := (Expr.Name (Str.ofString "memory") p1).Subscript (((Expr.Name (Str.ofString "hl") p2).BinOp Operator.Add ((Expr.Name (Str.ofString "way") p3).BinOp Operator.Mult (Expr.Name (Str.ofString "turn") p4) p5) p6).BinOp Operator.Mod (Expr.Constant (Const.int 64) kk p7) p8) p9
def srchScope : Scope := { kind := ScopeKind.function, names := [(Str.ofString ".0", NameKind.local), (Str.ofString "turn", NameKind.local), (Str.ofString "hl", NameKind.free), (Str.ofString "memory", NameKind.free), (Str.ofString "way", NameKind.free)], isGenerator := false, isCoroutine := false }
def srchCl (c1 c2 c3 : Addr) : List (Str × Addr) := [(Str.ofString "way", c1), (Str.ofString "memory", c2), (Str.ofString "hl", c3)]
section
variable {cn : Str} {cs : Scope} {L a C : Addr} {ccd : Value} {cl cl' : List (Str × Addr)} (hk : cs.kind = .function)
include hk
theorem hl_kind (hcs : cs.names.lookup (Str.ofString "hl") = some .cell) : (compEnvC srchScope cl' C (envX cn cs L a ccd cl)).kindOf (Str.ofString "hl") = some .cell := by
  have e1 : (Str.ofString "hl" == Str.ofString ".0") = false := by decide +kernel
  have e2 : (Str.ofString "hl" == Str.ofString "turn") = false := by decide +kernel
  simp [compEnvC, relabel, Env.kindOf, srchScope, envX, hk, hcs, e1, e2, List.lookup]
theorem mem_kind (hcs3 : cs.names.lookup (Str.ofString "hl") = some .cell) (hcs : cs.names.lookup (Str.ofString "memory") = some .cell) : (compEnvC srchScope cl' C (envX cn cs L a ccd cl)).kindOf (Str.ofString "memory") = some .cell := by
  have e1 : (Str.ofString "memory" == Str.ofString ".0") = false := by decide +kernel
  have e2 : (Str.ofString "memory" == Str.ofString "turn") = false := by decide +kernel
  have e3 : (Str.ofString "memory" == Str.ofString "hl") = false := by decide +kernel
  simp [compEnvC, relabel, Env.kindOf, srchScope, envX, hk, hcs, hcs3, e1, e2, e3, List.lookup]
theorem way_kind (hcs3 : cs.names.lookup (Str.ofString "hl") = some .cell) (hcs2 : cs.names.lookup (Str.ofString "memory") = some .cell) (hcs : cs.names.lookup (Str.ofString "way") = some .cell) : (compEnvC srchScope cl' C (envX cn cs L a ccd cl)).kindOf (Str.ofString "way") = some .cell := by
  have e1 : (Str.ofString "way" == Str.ofString ".0") = false := by decide +kernel
  have e2 : (Str.ofString "way" == Str.ofString "turn") = false := by decide +kernel
  have e3 : (Str.ofString "way" == Str.ofString "hl") = false := by decide +kernel
  have e4 : (Str.ofString "way" == Str.ofString "memory") = false := by decide +kernel
  simp [compEnvC, relabel, Env.kindOf, srchScope, envX, hk, hcs, hcs2, hcs3, e1, e2, e3, e4, List.lookup]
end
section
variable {w : World} {dp un : Nat} {gd : Option (List Code)} {cn : Str} {cs : Scope} {a : Addr} {ccd : Value} {cl : List (Str × Addr)} {outer : List Env} {A₀ : Around} {base h₀ : Heap} {L : Addr} {m mg mb : Str → Option Value} {mean : ExcName → Option Value}
  {s : Shared}
  (B : Below A₀ base outer h₀) (X : (hd.heap_39 w.params).In h₀) (T : Top hd.view_39 LO mean mg mb h₀) (hk : cs.kind = .function) (hcs1 : cs.names.lookup (Str.ofString "way") = some .cell) (hcs2 : cs.names.lookup (Str.ofString "memory") = some .cell) (hcs3 : cs.names.lookup (Str.ofString "hl") = some .cell)
include B X T hk hcs1 hcs2 hcs3
set_option maxHeartbeats 400000 in
theorem srch_elt {p1 p2 p3 p4 p5 p6 p7 p8 p9 : Pos} {kk : Nat} {c1 c2 c3 C D : Addr} {o1 o2 o3 oC : Obj} {led : List (Addr × Obj)} {km : Nat} {mv : List Value} {ms : List Int} {hl way at' : Int} {th tw ta : Tok} {m₂ : Str → Option Value} {Q E : Value → Shared → Prop}
    (F : Fr h₀ L s.heap m) (N : News h₀ L s.heap led) (hC : (C, oC) ∈ led) (hoC : LCg.NsObj oC m₂) (hx : m₂ (Str.ofString "turn") = some (.int at' ta)) (hM : (D, listOf mv.toArray km) ∈ led) (hi : IntsAre mv ms) (hl64 : ms.length = 64)
    (hc1 : (c1, o1) ∈ led) (hd1 : o1.data = .cell (some (.int way tw))) (hc2 : (c2, o2) ∈ led) (hd2 : o2.data = .cell (some (.ref D))) (hc3 : (c3, o3) ∈ led) (hd3 : o3.data = .cell (some (.int hl th))) (hw : way = 1 ∨ way = -1) (hat : 0 ≤ at' ∧ at' < 64)
    (ret : ∀ t tk', Q (.int (ms.getD ((hl + way * at') % 64).toNat 0) t) { s with toks := tk' }) :
    wpAny (model PR w) (ktrTop dp un gd cn cs L a ccd cl outer) (eval (srchElt p1 p2 p3 p4 p5 p6 p7 p8 p9 kk) (compEnvC srchScope (srchCl c1 c2 c3) C (envX cn cs L a ccd cl))) Q E s := by
  unfold srchElt
  walk1
  refine lcf_cell (x := Str.ofString "memory") (cl := srchCl c1 c2 c3) (scope := srchScope) (C := C) (env := envX cn cs L a ccd cl) N rfl hc2 hd2 ?_ rfl (mem_kind hk hcs3 hcs2)
  walk1
  walk1
  refine lcf_cell (x := Str.ofString "hl") (cl := srchCl c1 c2 c3) (scope := srchScope) (C := C) (env := envX cn cs L a ccd cl) N rfl hc3 hd3 ?_ rfl (hl_kind hk hcs3)
  walk1
  refine lcf_cell (x := Str.ofString "way") (cl := srchCl c1 c2 c3) (scope := srchScope) (C := C) (env := envX cn cs L a ccd cl) N rfl hc1 hd1 ?_ rfl (way_kind hk hcs3 hcs2 hcs1)
  refine LCgL.ld_own (scope := srchScope) (cl := srchCl c1 c2 c3) (env := envX cn cs L a ccd cl) N hC hoC hx ?_
  walk1
  walk1
  walk1
  walk1
  rw [fm64]
  refine sub_at N hM hi ?_ ?_ ?_ rfl (fun t => ret t _) rfl
  · omega
  · omega
  · omega
theorem rest_srch {p1 p2 p3 p4 p5 p6 p7 p8 p9 : Pos} {kk : Nat} {c1 c2 c3 D : Addr} {o1 o2 o3 : Obj} {led : List (Addr × Obj)} {km n : Nat} {mv : List Value} {ms : List Int} {hl way : Int} {th tw : Tok} {Fin : List Value → List (Addr × Obj) → Prop}
    (hM : (D, listOf mv.toArray km) ∈ led) (hi : IntsAre mv ms) (hl64 : ms.length = 64)
    (hc1 : (c1, o1) ∈ led) (hd1 : o1.data = .cell (some (.int way tw))) (hc2 : (c2, o2) ∈ led) (hd2 : o2.data = .cell (some (.ref D))) (hc3 : (c3, o3) ∈ led) (hd3 : o3.data = .cell (some (.int hl th))) (hw : way = 1 ∨ way = -1) (hn : n ≤ 64)
    (hfin : ∀ ys, IntsAre ys ((List.range n).map (skV ms hl way)) → Fin ys led) :
    ∀ (j q : Nat) (ys : List Value), q + j = n → IntsAre ys ((List.range q).map (skV ms hl way)) →
      LCg.CompRest PR w (ktrTop dp un gd cn cs L a ccd cl outer) h₀ L m (envX cn cs L a ccd cl) (srchElt p1 p2 p3 p4 p5 p6 p7 p8 p9 kk) (Str.ofString "turn") srchScope (srchCl c1 c2 c3) s (fun _ => True) (fun i v => ∃ t, v = .int ((0 : Int) + (i : Int)) t) Fin j q ys led := by
  intro j
  induction j with
  | zero =>
    intro q ys hq hy
    obtain rfl : q = n := by omega
    exact LCg.CompRest.zero (hfin ys hy)
  | succ j ih =>
    intro q ys hq hy
    refine LCg.CompRest.succ fun v I oI C oC D' m2 h tk E' hv hC hx F N off ne => ?_
    obtain ⟨t, rfl⟩ := hv
    refine srch_elt B X T hk hcs1 hcs2 hcs3 (s := { s with heap := h, toks := tk }) F N (.tail _ (.head _)) hC hx (.tail _ (.tail _ (.tail _ hM))) hi hl64 (.tail _ (.tail _ (.tail _ hc1))) hd1 (.tail _ (.tail _ (.tail _ hc2))) hd2 (.tail _ (.tail _ (.tail _ hc3))) hd3 hw (by omega) fun t' tk' => ?_
    refine LCg.CompEnd.intro (news' := led) F N (fun p hp => hp) off trivial (ih _ _ (by omega) ?_)
    rw [List.range_succ, List.map_append]
    refine hy.append ?_
    have e : skV ms hl way q = ms.getD ((hl + way * ((0 : Int) + (q : Int))) % 64).toNat 0 := by rw [Int.zero_add]; rfl
    rw [show [q].map (skV ms hl way) = [skV ms hl way q] from rfl, e]
    exact .cons _ _ .nil
theorem src_srch {p1 p2 p3 p4 p5 p6 p7 p8 p9 : Pos} {kk : Nat} {c1 c2 c3 D rr : Addr} {o1 o2 o3 : Obj} {led : List (Addr × Obj)} {km n : Nat} {mv : List Value} {ms : List Int} {hl way b : Int} {th tw t0 t1 t2 : Tok} {y : Str} {Q : Flow → Shared → Prop}
    (F : Fr h₀ L s.heap m) (N : News h₀ L s.heap led) (hr : IsRange s.heap rr 0 b 1 t0 t1 t2) (hb : b = n ∧ n ≤ 64)
    (hc1 : (c1, o1) ∈ led) (hd1 : o1.data = .cell (some (.int way tw))) (hc2 : (c2, o2) ∈ led) (hd2 : o2.data = .cell (some (.ref D))) (hc3 : (c3, o3) ∈ led) (hd3 : o3.data = .cell (some (.int hl th))) (hM : (D, listOf mv.toArray km) ∈ led) (hi : IntsAre mv ms) (hl64 : ms.length = 64) (hw : way = 1 ∨ way = -1)
    (ret : ∀ D ys h' tk', IntsAre ys ((List.range n).map (skV ms hl way)) → Fr h₀ L h' (fun z => if z = y then some (.ref D) else m z) → News h₀ L h' ((D, listOf ys.toArray ys.length) :: led) → (∀ p ∈ led, p.1 ≠ D) → Q .next { s with heap := h', toks := tk' }) :
    LCg.CompSrc PR w (ktrTop dp un gd cn cs L a ccd cl outer) h₀ L m (envX cn cs L a ccd cl) ((Expr.Name (Str.ofString "memory") p1).Subscript (((Expr.Name (Str.ofString "hl") p2).BinOp Operator.Add ((Expr.Name (Str.ofString "way") p3).BinOp Operator.Mult (Expr.Name (Str.ofString "turn") p4) p5) p6).BinOp Operator.Mod (Expr.Constant (Const.int 64) kk p7) p8) p9) (Str.ofString "turn")
      { kind := ScopeKind.function, names := [(Str.ofString ".0", NameKind.local), (Str.ofString "turn", NameKind.local), (Str.ofString "hl", NameKind.free), (Str.ofString "memory", NameKind.free), (Str.ofString "way", NameKind.free)], isGenerator := false, isCoroutine := false } [(Str.ofString "way", c1), (Str.ofString "memory", c2), (Str.ofString "hl", c3)] (fun s₂ => LCg.FinA h₀ L m s₂ y Q) (.ref rr) s := by
  obtain ⟨rfl, hn⟩ := hb
  have hsm : Builtin.Range.small 0 (n : Int) 1 = true := small_one (by decide) (by decide) (by omega) (by omega)
  have hsz : Builtin.Range.rangeSize 0 (n : Int) 1 = ((n : Nat) : Int) := by rw [rangeSize_nat]; congr 1 <;> omega
  refine LCg.CompSrc.range rfl F N hr hsm hsz (Nat.le_trans hn (by decide)) fun g => ?_
  refine rest_srch B X T hk hcs1 hcs2 hcs3 (n := n) hM hi hl64 hc1 hd1 hc2 hd2 hc3 hd3 hw hn (fun ys hy => ?_) n 0 [] (by omega) .nil
  intro D h tk F' N' o'
  exact ret D ys h tk hy F' N' fun p hp => by
    have key : ∀ {l : List (Addr × Obj)}, LCg.Off1 D l → ∀ p ∈ l, p.1 ≠ D := by
      intro l
      induction l with
      | nil => intro _ p hp; cases hp
      | cons q l ih =>
        intro h p hp
        rcases List.mem_cons.mp hp with rfl | hp
        · exact h.1
        · exact ih h.2 p hp
    exact key o' p hp
end
end Mz

namespace Mz
def onesElt (p1 p2 p3 p4 p5 p6 p7 p8 p9 : Pos) (k1 k2 k3 : Nat) : Expr := (((Expr.Name (Str.ofString "k") p1).BinOp Operator.Mod (Expr.Constant (Const.int 8) k1 p2) p3).BinOp Operator.FloorDiv ((Expr.Constant (Const.int 2) k2 p4).BinOp Operator.Pow (Expr.Name (Str.ofString "at") p5) p6) p7).BinOp Operator.Mod (Expr.Constant (Const.int 2) k3 p8) p9
def onesScope : Scope := { kind := ScopeKind.function, names := [(Str.ofString ".0", NameKind.local), (Str.ofString "at", NameKind.local), (Str.ofString "k", NameKind.free)], isGenerator := false, isCoroutine := false }
theorem k_kind {cn : Str} {cs : Scope} {L a C : Addr} {ccd : Value} {cl cl' : List (Str × Addr)} (hk : cs.kind = .function) (hcs : cs.names.lookup (Str.ofString "k") = some .cell) : (compEnvC onesScope cl' C (envX cn cs L a ccd cl)).kindOf (Str.ofString "k") = some .cell := by
  have e1 : (Str.ofString "k" == Str.ofString ".0") = false := by decide +kernel
  have e2 : (Str.ofString "k" == Str.ofString "at") = false := by decide +kernel
  simp [compEnvC, relabel, Env.kindOf, onesScope, envX, hk, hcs, e1, e2, List.lookup]
section
variable {w : World} {dp un : Nat} {gd : Option (List Code)} {cn : Str} {cs : Scope} {a : Addr} {ccd : Value} {cl : List (Str × Addr)} {outer : List Env} {A₀ : Around} {base h₀ : Heap} {L : Addr} {m mg mb : Str → Option Value} {mean : ExcName → Option Value}
  {s : Shared}
  (B : Below A₀ base outer h₀) (X : (hd.heap_39 w.params).In h₀) (T : Top hd.view_39 LO mean mg mb h₀) (hk : cs.kind = .function) (hcs : cs.names.lookup (Str.ofString "k") = some .cell)
include B X T hk hcs
set_option maxHeartbeats 400000 in
theorem ones_elt {p1 p2 p3 p4 p5 p6 p7 p8 p9 : Pos} {k1 k2 k3 : Nat} {c1 C : Addr} {o1 oC : Obj} {led : List (Addr × Obj)} {kv : Int} {tk ta : Tok} {i : Nat} {m₂ : Str → Option Value} {Q E : Value → Shared → Prop}
    (F : Fr h₀ L s.heap m) (N : News h₀ L s.heap led) (hC : (C, oC) ∈ led) (hoC : LCg.NsObj oC m₂) (hx : m₂ (Str.ofString "at") = some (.int ((i : Nat) : Int) ta))
    (hc1 : (c1, o1) ∈ led) (hd1 : o1.data = .cell (some (.int kv tk))) (hi : i < 3)
    (ret : ∀ t tk', Q (.int (onesF kv i) t) { s with toks := tk' }) :
    wpAny (model PR w) (ktrTop dp un gd cn cs L a ccd cl outer) (eval (onesElt p1 p2 p3 p4 p5 p6 p7 p8 p9 k1 k2 k3) (compEnvC onesScope [(Str.ofString "k", c1)] C (envX cn cs L a ccd cl))) Q E s := by
  have hne : (2 : Int) ^ i ≠ 0 := by
    rcases (show i = 0 ∨ i = 1 ∨ i = 2 by omega) with rfl | rfl | rfl <;> decide
  have hk8 := fm_bd (x := kv) (m := 8) (by decide)
  have h2i : 1 ≤ (2 : Int) ^ i ∧ (2 : Int) ^ i ≤ 4 := by
    rcases (show i = 0 ∨ i = 1 ∨ i = 2 by omega) with rfl | rfl | rfl <;> decide
  have hti : (((i : Nat) : Int)).toNat = i := by omega
  unfold onesElt
  walk1
  walk1
  walk1
  refine lcf_cell (x := Str.ofString "k") (cl := [(Str.ofString "k", c1)]) (scope := onesScope) (C := C) (env := envX cn cs L a ccd cl) N rfl hc1 hd1 ?_ rfl (k_kind hk hcs)
  walk1
  walk1
  walk1
  walk1
  refine LCgL.ld_own (scope := onesScope) (cl := [(Str.ofString "k", c1)]) (env := envX cn cs L a ccd cl) N hC hoC hx ?_
  refine pow_int_small (by omega) (by omega) (by decide) ?_
  rw [hti]
  generalize h2 : (2 : Int) ^ i = q at hne h2i
  refine floordiv_int hne ?_
  walk1
  walk1
  subst h2
  exact ret _ _
theorem rest_ones {p1 p2 p3 p4 p5 p6 p7 p8 p9 : Pos} {k1 k2 k3 : Nat} {c1 : Addr} {o1 : Obj} {led : List (Addr × Obj)} {kv : Int} {tk : Tok} {Fin : List Value → List (Addr × Obj) → Prop}
    (hc1 : (c1, o1) ∈ led) (hd1 : o1.data = .cell (some (.int kv tk)))
    (hfin : ∀ ys, IntsAre ys ((List.range 3).map (onesF kv)) → Fin ys led) :
    ∀ (j q : Nat) (ys : List Value), q + j = 3 → IntsAre ys ((List.range q).map (onesF kv)) →
      LCg.CompRest PR w (ktrTop dp un gd cn cs L a ccd cl outer) h₀ L m (envX cn cs L a ccd cl) (onesElt p1 p2 p3 p4 p5 p6 p7 p8 p9 k1 k2 k3) (Str.ofString "at") onesScope [(Str.ofString "k", c1)] s (fun _ => True) (fun i v => ∃ t, v = .int ((0 : Int) + (i : Int)) t) Fin j q ys led := by
  intro j
  induction j with
  | zero =>
    intro q ys hq hy
    obtain rfl : q = 3 := by omega
    exact LCg.CompRest.zero (hfin ys hy)
  | succ j ih =>
    intro q ys hq hy
    refine LCg.CompRest.succ fun v I oI C oC D' m2 h tk' E' hv hC hx F N off ne => ?_
    obtain ⟨t, rfl⟩ := hv
    rw [Int.zero_add] at hx
    refine ones_elt B X T hk hcs (s := { s with heap := h, toks := tk' }) F N (.tail _ (.head _)) hC hx (.tail _ (.tail _ (.tail _ hc1))) hd1 (by omega) fun t' tk'' => ?_
    refine LCg.CompEnd.intro (news' := led) F N (fun p hp => hp) off trivial (ih _ _ (by omega) ?_)
    rw [List.range_succ, List.map_append]
    exact hy.append (.cons _ _ .nil)
theorem src_ones {p1 p2 p3 p4 p5 p6 p7 p8 p9 : Pos} {k1 k2 k3 : Nat} {c1 rr : Addr} {o1 : Obj} {led : List (Addr × Obj)} {kv : Int} {tk t0 t1 t2 : Tok} {Q : Value → Shared → Prop}
    (F : Fr h₀ L s.heap m) (N : News h₀ L s.heap led) (hr : IsRange s.heap rr 0 3 1 t0 t1 t2)
    (hc1 : (c1, o1) ∈ led) (hd1 : o1.data = .cell (some (.int kv tk)))
    (ret : ∀ D ys h' tk', IntsAre ys [onesF kv 0, onesF kv 1, onesF kv 2] → Fr h₀ L h' m → News h₀ L h' ((D, listOf ys.toArray ys.length) :: led) → (∀ p ∈ led, p.1 ≠ D) → Q (.ref D) { s with heap := h', toks := tk' }) :
    LCg.CompSrc PR w (ktrTop dp un gd cn cs L a ccd cl outer) h₀ L m (envX cn cs L a ccd cl) ((((Expr.Name (Str.ofString "k") p1).BinOp Operator.Mod (Expr.Constant (Const.int 8) k1 p2) p3).BinOp Operator.FloorDiv ((Expr.Constant (Const.int 2) k2 p4).BinOp Operator.Pow (Expr.Name (Str.ofString "at") p5) p6) p7).BinOp Operator.Mod (Expr.Constant (Const.int 2) k3 p8) p9) (Str.ofString "at")
      { kind := ScopeKind.function, names := [(Str.ofString ".0", NameKind.local), (Str.ofString "at", NameKind.local), (Str.ofString "k", NameKind.free)], isGenerator := false, isCoroutine := false } [(Str.ofString "k", c1)] (fun s₂ => LCg.FinE h₀ L m s₂ Q) (.ref rr) s := by
  refine LCg.CompSrc.range (n := 3) rfl F N hr (by decide) rfl (by decide) fun g => ?_
  refine rest_ones B X T hk hcs hc1 hd1 (fun ys hy => ?_) 3 0 [] rfl .nil
  intro D h tk F' N' o'
  exact ret D ys h tk hy F' N' fun p hp => by
    have key : ∀ {l : List (Addr × Obj)}, LCg.Off1 D l → ∀ p ∈ l, p.1 ≠ D := by
      intro l
      induction l with
      | nil => intro _ p hp; cases hp
      | cons q l ih =>
        intro h p hp
        rcases List.mem_cons.mp hp with rfl | hp
        · exact h.1
        · exact ih h.2 p hp
    exact key o' p hp
end
end Mz

end
section
local macro_rules | `(tactic| k_room) => `(tactic| ktr_room)
example : True := by
  k_with_none
  k_with "mz enter" => ((case k6 => k_is); (case k7 => k_is); (case k8 => ktr_room); (case k9 => exact BindsTo.of_eq rfl); (case c5 => decide); (case kB => exact locs rfl); (case c2 => exact rfl); (case c3 => exact rfl); (case c4 => exact rfl); k_whole; intro g'x L'x h'x tk'x F'x N'x B'x X'x T'x l'x hg'x; (try dsimp only); (try k_fold))
  k_with "mz steps" => repeat' (first | (k_unfold; (try dsimp only)) | (walk1; (try dsimp only)) | (dsimp only; walk1) | (dsimp only; k_unfold; (try dsimp only)) | (k_unmd; k_unfold; (try dsimp only)))
  k_with "mz keeps" => first | exact Mz.keeps_nil | (refine Mz.keeps_cons ?_ ?_; (first | (refine Or.inl ?_; k_mem) | exact Or.inr ⟨_, .head _, rfl⟩ | exact Or.inr ⟨_, .tail _ (.head _), rfl⟩ | exact Or.inr ⟨_, .tail _ (.tail _ (.head _)), rfl⟩ | exact Or.inr ⟨_, .tail _ (.tail _ (.tail _ (.head _))), rfl⟩ | exact Or.inr ⟨_, .tail _ (.tail _ (.tail _ (.tail _ (.head _)))), rfl⟩); k_extra "mz keeps")
  k_with "mz:ite" => first | refine Mz.beq_pos (by omega) ?_ | refine Mz.beq_neg (by omega) ?_ | refine Mz.bne_pos (by omega) ?_ | refine Mz.bne_neg (by omega) ?_ | refine Mz.dec_pos (by omega) ?_ | refine Mz.dec_neg (by omega) ?_
  k_with "mz:binaryOp LShift int int" => refine lshift_int_small (by decide) (by decide) (Mz.sh8' (by assumption)) ?_
  k_with "mz:setItem ref int" => (k_here; (with_reducible show wpAny _ _ (setItem (Value.ref _) (Value.int _ _) (Value.int _ _)) _ _ _); k_dflt (refine' Mz.set_at ?k1_6 ?k2_6 ?k3_6 ?k4_6 ?k5_6 ?k6_6 ?k7_6 ?k8_6 ?_; (case k1_6 => k_asm); (case k2_6 => k_asm); (case k3_6 => k_updF); (case k4_6 => with_reducible assumption); (case k5_6 => ksa_idx); (case k6_6 => ksa_idx); (case k7_6 => ksa_idx); (case k8_6 => first | exact Mz.R_s6 | exact Mz.R_s0b | exact Mz.R_s0 | exact rfl); k_whole); intro h'x vs'x F'x N'x hi'x hl'x; (try dsimp only at N'x); (try k_sweep))
  k_with "mz dp" => ((try dsimp only [ktrTop, Around.deeper]); first | exact Mz.dp2 (by with_reducible assumption) rfl | exact Mz.dp1 (by with_reducible assumption) rfl | omega)
  k_with "mz ctx" => ((case cB => k_asm); (case cF => k_asm); (case cX => k_asm); (case cN => k_asm); (case cT => k_asm); (case ck => exact rfl); (case cz => k_extra "mz dp"); (case cu => k_extra "mz dp"))
  k_with "mz ifs" => ((repeat' split) <;> first | with_reducible rfl | (exfalso; first | contradiction | omega))
  k_with "mz rem" => first | (refine' Mz.Rem.head ?a_10; (case a_10 => k_all)) | (refine' Mz.Rem.tail ?a_10 ?b_10; (case a_10 => k_ne); (case b_10 => k_extra "mz rem"))
  k_with "mz len" => first | with_reducible assumption | exact Mz.R_len | with_reducible exact Mz.setPr_len (by k_extra "mz len")
  k_with "mz byt" => first | with_reducible assumption | exact Mz.R_byt (by omega) (by omega) (by omega) | with_reducible exact Mz.setPr_byt (by k_extra "mz byt")
  k_with "mz getL" => first | with_reducible assumption | (refine' Mz.getL_oth ?ga_13 ?gb_13 ?gc_13; (case ga_13 => with_reducible assumption); (case gb_13 => decide +kernel); (case gc_13 => k_extra "mz getL"))
  k_with "mz:getAttr ref" => (k_here; k_dflt (refine' get_own ?k1_14 ?k2_14 ?k3_14 ?k4_14 ?k5_14 ?k6_14 ?k7_14 ?k8_14 ?k9_14 ?_; (case k1_14 => k_asm); (case k2_14 => k_asm); (case k3_14 => k_inst); (case k4_14 => k_is); (case k5_14 => k_is); (case k6_14 => k_is); (case k7_14 => k_is); (case k8_14 => k_extra "mz getL"); (case k9_14 => k_handed); k_whole))
  k_with "mz:setAttr ref" => (k_here; k_dflt (refine' Mz.set_own ?k1_15 ?k2_15 ?k3_15 ?k4_15 ?k5_15 ?k6_15 ?k7_15 ?k8_15 ?k9_15 ?k10_15 ?k11_15 ?k12_15 ?_; (case k1_15 => k_asm); (case k2_15 => k_asm); (case k3_15 => k_asm); (case k4_15 => k_inst); (case k5_15 => exact rfl); (case k6_15 => k_is); (case k7_15 => k_is); (case k8_15 => k_is); (case k9_15 => k_is); (case k10_15 => k_extra "mz getL"); (case k11_15 => first | with_reducible assumption | omega); (case k12_15 => k_extra "mz rem"); k_whole; intro h'x es'x n'x hs'x ho'x hz'x F'x N'x; (try k_sweep)))
  k_with "mz:subscriptTail" => (k_here; (with_reducible show wpAny _ _ (subscriptTail _ _ (Value.ref _) (Value.int _ _)) _ _ _); k_dflt (refine' Mz.sub_at ?k1_16 ?k2_16 ?k3_16 ?k4_16 ?k5_16 ?k6_16 ?k8_16 ?_ ?k7_16; (case k1_16 => k_asm); (case k2_16 => k_mem); (case k3_16 => with_reducible assumption); (case k4_16 => ksa_idx); (case k5_16 => ksa_idx); (case k6_16 => ksa_idx); (case k7_16 => with_unfolding_all rfl); (case k8_16 => first | with_reducible_and_instances exact Mz.R_g0 | with_reducible_and_instances exact Mz.R_g1 | with_reducible_and_instances exact Mz.R_g6 | with_reducible_and_instances exact Mz.R_g7 | exact Mz.R_g0 | exact Mz.R_g1 | exact Mz.R_g6 | exact Mz.R_g7 | exact rfl); k_whole); intro _)
  k_with "mz lt" => first | exact Mz.Lts.lt (by with_reducible assumption) (by k_mem) | with_reducible assumption | exact Mz.lt_s (by k_extra "mz lt")
  k_with "mz and" => first | exact And.left (by with_reducible assumption) | exact And.left (And.right (by with_reducible assumption)) | exact And.left (And.right (And.right (by with_reducible assumption))) | exact And.left (And.right (And.right (And.right (by with_reducible assumption)))) | exact And.left (And.right (And.right (And.right (And.right (by with_reducible assumption))))) | exact And.left (And.right (And.right (And.right (And.right (And.right (by with_reducible assumption)))))) | exact And.left (And.right (And.right (And.right (And.right (And.right (And.right (by with_reducible assumption))))))) | exact And.right (by with_reducible assumption) | exact And.right (And.right (by with_reducible assumption)) | exact And.right (And.right (And.right (by with_reducible assumption))) | exact And.right (And.right (And.right (And.right (by with_reducible assumption)))) | exact And.right (And.right (And.right (And.right (And.right (by with_reducible assumption))))) | exact And.right (And.right (And.right (And.right (And.right (And.right (by with_reducible assumption))))))
  k_with "mz neq" => first | exact Nat.ne_of_lt (Mz.Lts.lt (by with_reducible assumption) (by k_mem)) | exact Nat.ne_of_gt (Mz.Lts.lt (by with_reducible assumption) (by k_mem)) | exact Mz.Nes.ne (by with_reducible assumption) (by k_mem) | exact Ne.symm (Mz.Nes.ne (by with_reducible assumption) (by k_mem)) | exact Nat.ne_of_lt (by with_reducible assumption) | exact Nat.ne_of_gt (by with_reducible assumption) | exact Nat.ne_of_gt (Mz.lt_s (by k_extra "mz lt")) | exact Nat.ne_of_lt (Mz.lt_s (by k_extra "mz lt")) | exact Nat.ne_of_gt (Mz.lt_tr (by with_reducible assumption) (by k_extra "mz lt")) | exact Nat.ne_of_lt (Mz.lt_tr (by with_reducible assumption) (by k_extra "mz lt")) | exact Mz.NeA.out (by k_extra "mz and") | exact Ne.symm (Mz.NeA.out (by k_extra "mz and"))
  k_with "mz all" => first | exact List.forall_mem_nil _ | ((with_reducible refine Mz.all_cons ?_ ?_); (k_ne); (k_extra "mz all")) | exact OwnOff.ne (by assumption) (by k_memK) | exact Mz.all_cons (by k_ne) (by k_extra "mz all")
  k_with "mz ne" => first | with_reducible assumption | exact Mz.NeA.symm (by with_reducible assumption) | exact Mz.NeA.of (by k_extra "mz neq") | exact Mz.NeA.of (by omega)
  k_with "mz nes" => first | (refine And.intro ?_ ?_; (k_extra "mz ne"); (k_extra "mz nes")) | k_extra "mz ne"
  k_with "mz ksa_idx" => ((rw [Mz.R_len]); decide)
  k_with "mz k_ne" => (refine neN ?_; (try dsimp only); first | exact Mz.NeA.out (by with_reducible assumption) | exact Ne.symm (Mz.NeA.out (by with_reducible assumption)) | k_extra "mz neq" | omega)
  k_with "mz k_all" => first | exact Mz.ne_lts (by with_reducible assumption) (by exact rfl) | exact Mz.ne_nes (by with_reducible assumption) (by exact rfl) | k_extra "mz all"
  k_with "mz enterC" => ((case k6 => k_is); (case k7 => k_is); (case k8 => ktr_room); (case k9 => exact BindsTo.of_eq rfl); (case kB => exact rfl); (case kD => decide +kernel); (case c2 => exact rfl); (case c3 => exact rfl); (case c4 => exact rfl); k_whole; intro g'x L'x h'x tk'x cells'x F'x N'x Y'x B'x X'x T'x lsx l'x hg'x; (try k_lt lsx); k_cells Y'x; (try simp only [List.cons_append, List.nil_append] at N'x); (try dsimp only); (try k_fold))
  k_with "mz:call ref" => (k_here; (with_reducible show wpAny _ _ (call (Value.ref 336) _) _ _ _); k_dflt (refine' Mz.c_draw ?cB ?cF ?cX ?cN ?cT ?ck ?cz ?cu ?h2_49 ?V_49 ?P_49 ?hne_49 ?hm_49 ?_; k_extra "mz ctx"; (case V_49 => k_extra "mz rem"); (case h2_49 => k_mem); (case P_49 => with_reducible assumption); (case hne_49 => k_extra "mz ne"); (case hm_49 => decide); k_whole); intro v9 t9x i9x ti9x r9x ts9x h9x tk9x hv9x P9x F9x N9x; (try dsimp only); (try k_sweep))
  k_with "mz rem2" => first | (refine' Mz.Rem.head ?a_50; (case a_50 => k_all)) | exact Mz.Rem.tl (by k_extra "mz rem2") (by k_ne)
  k_with "mz:CompSrc" => (k_here; k_dflt (refine' Mz.src_draws ?cB_51 ?cX_51 ?cT_51 ?ck_51 ?ccs_51 ?cz_51 ?cu_51 ?sF_51 ?sN_51 ?sV_51 ?sr_51 ?ssm_51 ?sn_51 ?snz_51 ?sg_51 ?sc_51 ?sd_51 ?sP_51 ?sne_51 ?sm_51 ?_; (case cB_51 => k_asm); (case cX_51 => k_asm); (case cT_51 => k_asm); (case ck_51 => exact rfl); (case ccs_51 => exact rfl); (case cz_51 => k_extra "mz dp"); (case cu_51 => k_extra "mz dp"); (case sF_51 => k_asm); (case sN_51 => k_asm); (case sV_51 => k_extra "mz rem2"); (case sr_51 => assumption); (case ssm_51 => decide); (case sn_51 => exact rfl); (case snz_51 => decide); (case sg_51 => k_mem); (case sc_51 => k_mem); (case sd_51 => k_asm); (case sP_51 => with_reducible assumption); (case sne_51 => k_extra "mz ne"); (case sm_51 => decide); k_whole); intro D9 ys9x ns9 i9x r9x ti9x ts9x h9x tk9x hi9x hb9x hl9x P9x F9x N9x o9x; (replace o9x := Mz.nes_of o9x); (try dsimp only [List.map] at o9x); (try dsimp only))
  k_with "mz:eval ListComp" => (k_here; lcf_look; k_dflt (refine LCg.ListComp_U (F₀ := by k_asm) (by with_unfolding_all rfl) (by decide) (by rfl) (by decide) (by rfl) ?_); k_dflt lcg_toSrc)
  trivial
namespace Mz
def Zs (zs : List Value) : Prop := ∃ t0 t1 t2 t3 t4 t5 t6 t7, zs = [.int 0 t0, .int 0 t1, .int 0 t2, .int 0 t3, .int 0 t4, .int 0 t5, .int 0 t6, .int 0 t7]
section
variable {w : World} {dp un : Nat} {gd : Option (List Code)} {cn : Str} {cs : Scope} {a : Addr} {ccd : Value} {cl : List (Str × Addr)} {outer : List Env} {A₀ : Around} {base h₀ : Heap} {L : Addr} {m mg mb : Str → Option Value} {mean : ExcName → Option Value}
  {led : List (Addr × Obj)} {s : Shared} {Q E : Value → Shared → Prop}
  (B : Below A₀ base outer h₀) (F : Fr h₀ L s.heap m) (X : (hd.heap_39 w.params).In h₀) (N : News h₀ L s.heap led) (T : Top hd.view_39 LO mean mg mb h₀) (hk : cs.kind = .function) (hz : dp + 12 < 900) (hu : un + 120 < 2000)
include B F X N T hk hz hu
theorem c_cpu {pl gl : Addr} {k kg : Nat} {gv : List Value} {gs : List Int} {i r cnt : Int} {ti ts tc : Tok} {l1 : List (Addr × Obj)}
    (h2 : (gl, listOf gv.toArray kg) ∈ led) (V : Rem pl (listOf [.ref gl, .int i ti, .int r ts].toArray k) led l1) (P : PoolV gl gs gv i r) (hne : NeA pl gl) (hc : 0 ≤ cnt ∧ cnt < 256)
    (ret : ∀ c dx rl sl es n vs kr kz zs de hl f a i' ti' r' ts' h' tk', Zs zs → IntsAre vs (R cnt de hl f a) → (0 ≤ de ∧ de < 1024) ∧ (0 ≤ hl ∧ hl < 1024) ∧ (0 ≤ f ∧ f < 256) ∧ (0 ≤ a ∧ a < 256) → CpuD es rl sl → PoolV gl gs gv i' r' →
      (NeA c dx ∧ NeA c rl ∧ NeA c sl ∧ NeA dx rl ∧ NeA dx sl ∧ NeA rl sl) → (∀ p ∈ led, p.1 ≠ c) → (∀ p ∈ led, p.1 ≠ dx) → (∀ p ∈ led, p.1 ≠ rl) → (∀ p ∈ led, p.1 ≠ sl) → Fr h₀ L h' m →
      News h₀ L h' ((pl, listOf [.ref gl, .int i' ti', .int r' ts'].toArray k) :: (c, instObj 31 dx) :: (dx, dictOf es n) :: (rl, listOf vs.toArray kr) :: (sl, listOf zs.toArray kz) :: l1) → Q (.ref c) { s with heap := h', toks := tk' }) :
    wpAny (model PR w) (ktrTop dp un gd cn cs L a ccd cl outer) (call (.ref 355) [.ref pl, .int cnt tc]) Q E s := by
  have h1 := V.mem
  refine wpAny_call ?_
  k_dflt (refine' code_inC (K := hd.heap_39 w.params) (small := [(pl, listOf [.ref gl, .int i ti, .int r ts].toArray k), (gl, listOf gv.toArray kg)]) B F X N T (sub_cons h1 (sub_cons h2 sub_nil)) rfl rfl hk ?k6 ?k7 ?k8 ?k9 ?kB ?kD ?_ ?c2 ?c3 ?c4)
  k_extra "mz enterC"
  repeat' (first | (k_unfold; (try dsimp only)) | (walk1; (try dsimp only)) | (dsimp only; walk1) | (dsimp only; k_unfold; (try dsimp only)) | (k_unmd; k_unfold; (try dsimp only)))
  (with_reducible rename News _ _ _ _ => N9)
  (with_reducible rename Fr _ _ _ _ => F9)
  (with_reducible rename IntsAre _ (List.set (List.set (List.set (List.set _ _ _) _ _) _ _) _ _) => hi9)
  (with_reducible rename PoolV _ _ _ _ _ => P9)
  obtain ⟨de, hl, f, av, hR, hbd⟩ := cpu_regs (by with_reducible assumption) (by with_reducible assumption) hc (by with_reducible assumption) (by with_reducible assumption) hi9
  refine' cpu_back ⟨_, N⟩ V h2 (by assumption) F9 N9 ?hp ?hgl ?hm1 ?hm2 ?cd ?hm3 ?hm4 ?e1 ?e2 ?e3 ?e4 ?kk
  case hp => k_mem
  case hgl => k_mem
  case hm1 => k_mem
  case hm2 => k_mem
  case cd =>
    refine ⟨by exact rfl, by exact rfl, ⟨_, by exact rfl⟩, ⟨_, by exact rfl⟩, ⟨_, by exact rfl⟩, ⟨_, by exact rfl⟩, ⟨_, by exact rfl⟩, ⟨_, by exact rfl⟩, ⟨_, by exact rfl⟩, ⟨_, by exact rfl⟩, ⟨_, by exact rfl⟩, by exact rfl, by exact rfl, ⟨_, by exact rfl⟩, Nat.le_of_ble_eq_true rfl⟩
  case hm3 => k_mem
  case hm4 => k_mem
  case kk =>
    intro n1 n2 n3 n4 kF kN
    refine ret _ _ _ _ _ _ _ _ _ _ de hl f av _ _ _ _ _ _ ⟨_, _, _, _, _, _, _, _, rfl⟩ hR hbd ?_ P9 ?_ n1 n2 n3 n4 kF kN
    · refine ⟨by exact rfl, by exact rfl, ⟨_, by exact rfl⟩, ⟨_, by exact rfl⟩, ⟨_, by exact rfl⟩, ⟨_, by exact rfl⟩, ⟨_, by exact rfl⟩, ⟨_, by exact rfl⟩, ⟨_, by exact rfl⟩, ⟨_, by exact rfl⟩, ⟨_, by exact rfl⟩, by exact rfl, by exact rfl, ⟨_, by exact rfl⟩, Nat.le_of_ble_eq_true rfl⟩
    · refine ⟨?_, ?_, ?_, ?_, ?_, ?_⟩ <;> k_extra "mz ne"
  all_goals (refine And.intro ?_ ?_ <;> k_extra "mz ne")
end
end Mz

section
example : True := by
  k_with "mz:call ref" => (k_here; (with_reducible show wpAny _ _ (call (Value.ref 343) _) _ _ _); k_dflt (refine' Mz.c_lpair ?cB ?cF ?cX ?cN ?cT ?ck ?cz ?cu ?h1_55 ?h2_55 ?h3_55 ?hi_55 ?hl_55 ?hr_55 ?hp_55 ?hx_55 ?_; k_extra "mz ctx"; (case h1_55 => k_mem); (case h2_55 => k_mem); (case hr_55 => k_extra "mz getL"); (case h3_55 => k_mem); (case hi_55 => with_reducible assumption); (case hl_55 => k_extra "mz len"); (case hp_55 => decide); (case hx_55 => first | with_reducible_and_instances exact Mz.lp0 | with_reducible_and_instances exact Mz.lp2 | with_reducible_and_instances exact Mz.lp4 | exact Mz.lp0 | exact Mz.lp2 | exact Mz.lp4); k_whole); intro t9x h9x tk9x F9x N9x; (try dsimp only); (try k_sweep))
  k_with "mz:call ref" => (k_here; (with_reducible show wpAny _ _ (call (Value.ref 355) _) _ _ _); k_dflt (refine' Mz.c_cpu ?cB ?cF ?cX ?cN ?cT ?ck ?cz ?cu ?h2_56 ?V_56 ?P_56 ?hne_56 ?hc_56 ?_; k_extra "mz ctx"; (case V_56 => k_extra "mz rem"); (case h2_56 => k_mem); (case P_56 => with_reducible assumption); (case hne_56 => k_extra "mz ne"); (case hc_56 => omega); k_whole); intro c9 d9 rl9 sl9 es9x n9x vs9 kr9x kz9x zs9x de9 hl9 f9 a9 i9x ti9x r9x ts9x h9x tk9x hz9x hR9x hb9x cd9x P9x nn9x o1x o2x o3x o4x F9x N9x; (clear hz9x); (replace o1x := Mz.nes_of o1x); (replace o2x := Mz.nes_of o2x); (replace o3x := Mz.nes_of o3x); (replace o4x := Mz.nes_of o4x); (try dsimp only [List.map] at o1x o2x o3x o4x); (have gr9x := cd9x.r); (have z9x := cd9x.z); (try dsimp only))
  k_with "mz:call ref" => (k_here; (with_reducible show wpAny _ _ (call (Value.ref 362) _) _ _ _); k_dflt (refine' Mz.c_lflags ?cB ?cF ?cX ?cN ?cT ?ck ?cz ?cu ?h1_57 ?hb_57 ?_; k_extra "mz ctx"; (case h1_57 => k_mem); (case hb_57 => (repeat' (first | exact Mz.BitsAre.nil | (refine' Mz.BitsAre.cons ?ka_57 ?_; (case ka_57 => k_mem))))); k_whole); intro t9x h9x tk9x F9x N9x; (try dsimp only); (try k_sweep))
  k_with "mz:call ref" => (k_here; (with_reducible show wpAny _ _ (call (Value.ref 350) _) _ _ _); refine Mz.halt ?_)
  k_with "mz:exec For Name Call cons nil" => (k_here; (rename Fr _ _ _ _ => lF'x); (with_unfolding_all refine' For_invVF lF'x ?k1_59 ?k2_59 ?_; (case k1_59 => exact rfl); (case k2_59 => exact rfl); k_whole))
  k_with "mz:pyIter ref" => (refine Mz.halt ?_)
  k_with "mz off" => (dsimp only [Mz.Off]; (refine And.intro ?_ (And.intro ?_ (And.intro ?_ (And.intro ?_ ?_)))) <;> k_extra "mz ne")
  k_with "mz sift" => (repeat' ((with_reducible show Mz.Sift _ _ _); first | exact Mz.Sift.nil | (refine' Mz.Sift.dropT ?_) | (refine' Mz.Sift.d_rl ?_) | (refine' Mz.Sift.d_mm ?_) | (refine' Mz.Sift.d_dx ?_) | (refine' Mz.Sift.d_pd ?_) | (refine' Mz.Sift.d_ol ?_) | (refine' Mz.Sift.take (by k_extra "mz off") ?_) | (refine' Mz.Sift.drop ?_)))
  k_with "mz:call ref" => (k_here; (with_reducible show wpAny _ _ (call (Value.ref 355) _) _ _ _); k_dflt (refine' Mz.c_cpu ?cB ?cF ?cX ?cN ?cT ?ck ?cz ?cu ?h2_79 ?V_79 ?P_79 ?hne_79 ?hc_79 ?_; k_extra "mz ctx"; (case V_79 => k_extra "mz rem"); (case h2_79 => k_mem); (case P_79 => with_reducible assumption); (case hne_79 => k_extra "mz ne"); (case hc_79 => omega); k_whole); intro c9 d9 rl9 sl9 es9x n9x vs9 kr9x kz9x zs9x de9 hl9 f9 a9 i9x ti9x r9x ts9x h9x tk9x hz9x hR9x hb9x cd9x P9x nn9x o1x o2x o3x o4x F9x N9x; (k_dflt (obtain ⟨t0x, t1x, t2x, t3x, t4x, t5x, t6x, t7x, rfl⟩ := hz9x)); (replace o1x := Mz.nes_of o1x); (replace o2x := Mz.nes_of o2x); (replace o3x := Mz.nes_of o3x); (replace o4x := Mz.nes_of o4x); (try dsimp only [List.map] at o1x o2x o3x o4x); (obtain ⟨gr9x, gs9x, ⟨tix9x, gix9x⟩, ⟨tiy9x, giy9x⟩, ⟨tsp9x, gsp9x⟩, ⟨tpc9x, gpc9x⟩, ⟨ti99x, gi99x⟩, ⟨trf9x, grf9x⟩, ⟨tf19x, gf19x⟩, ⟨tf29x, gf29x⟩, ⟨tmo9x, gmo9x⟩, gha9x, ghe9x, ⟨tst9x, gst9x⟩, z9x⟩ := cd9x); (try dsimp only))
  k_with "mz:call ref" => (k_here; (with_reducible show wpAny _ _ (call (Value.ref 254) _) _ _ _); refine Mz.halt ?_)
  k_with "mz:eval IfExp" => (goal_lacks Mz.IfQ; k_here; (with_reducible show wpAny _ _ (eval (Expr.IfExp (Expr.Compare (Expr.BinOp (Expr.Name (Str.ofString "octet") _) _ _ _) _ _ _) _ _ _) _) _ _ _); k_dflt ((refine' Mz.ife_cut (fun val => val = bX9) ?wa_81 ?_); (case wa_81 => ((k_extra "mz steps"); (all_goals exact Mz.IfQ.at (by omega)))); intro ct9 t9x tk9x hct9; (try dsimp only)))
  k_with "mz:eval IfExp" => (goal_lacks Mz.IfQ; k_here; (with_reducible show wpAny _ _ (eval (Expr.IfExp (Expr.Compare (Expr.Name (Str.ofString "octet") _) _ _ _) _ _ _) _) _ _ _); k_dflt ((refine' Mz.ife_cut (fun val => (val = 1 ∨ val = -1) ∧ hX9 = (hl9 + val) % 65536) ?wa_82 ?_); (case wa_82 => ((k_extra "mz steps"); (all_goals exact Mz.IfQ.at (by omega)))); intro wy9 t9x tk9x hwy9; (try dsimp only)))
  trivial
namespace Mz
section
variable {w : World} {dp un : Nat} {gd : Option (List Code)} {cn : Str} {cs : Scope} {a : Addr} {ccd : Value} {cl : List (Str × Addr)} {outer : List Env} {A₀ : Around} {base h₀ : Heap} {L : Addr} {m mg mb : Str → Option Value} {mean : ExcName → Option Value}
  {led : List (Addr × Obj)} {s : Shared} {Q E : Value → Shared → Prop}
  (B : Below A₀ base outer h₀) (F : Fr h₀ L s.heap m) (X : (hd.heap_39 w.params).In h₀) (N : News h₀ L s.heap led) (T : Top hd.view_39 LO mean mg mb h₀) (hk : cs.kind = .function) (hz : dp + 20 < 900) (hu : un + 200 < 2000)
include B F X N T hk hz hu
theorem c_once {pl gl : Addr} {k kg : Nat} {gv : List Value} {gs : List Int} {i r : Int} {ti ts : Tok} {l1 : List (Addr × Obj)}
    (h2 : (gl, listOf gv.toArray kg) ∈ led) (V : Rem pl (listOf [.ref gl, .int i ti, .int r ts].toArray k) led l1) (P : PoolV gl gs gv i r) (hne : NeA pl gl)
    (ret : ∀ i' ti' r' ts' h' tk', PoolV gl gs gv i' r' → Fr h₀ L h' m → News h₀ L h' ((pl, listOf [.ref gl, .int i' ti', .int r' ts'].toArray k) :: l1) → Q (.bool true) { s with heap := h', toks := tk' }) :
    wpAny (model PR w) (ktrTop dp un gd cn cs L a ccd cl outer) (call (.ref 382) [.ref pl]) Q E s := by
  have h1 := V.mem
  refine wpAny_call ?_
  k_dflt (refine' code_inC (K := hd.heap_39 w.params) (small := [(pl, listOf [.ref gl, .int i ti, .int r ts].toArray k), (gl, listOf gv.toArray kg)]) B F X N T (sub_cons h1 (sub_cons h2 sub_nil)) rfl rfl hk ?k6 ?k7 ?k8 ?k9 ?kB ?kD ?_ ?c2 ?c3 ?c4)
  k_extra "mz enterC"
  k_extra "mz steps"
  (with_reducible rename IntsAre _ (R _ _ _ _ _) => hR)
  (with_reducible rename PoolV gl gs gv _ _ => P9)
  (with_reducible rename IntsAre _ ns9 => hN)
  have hb9 : ∀ x ∈ ns9, 0 ≤ x ∧ x < 256 := by with_reducible assumption
  have hlen : ns9.length = 64 := by assumption
  obtain ⟨ok9, lo9⟩ := once_oct (v := v9) (by omega)
  refine unhalt ?_
  k_here
  refine' c_edL (is := [5]) ?cB ?cF ?cX ?cN ?cT ?ck ?cz ?cu ?h1 ?h2 ?gr ?h3 ?h4 ?h5 ?h6 ?gi ?go ?ga ?h7 ?h8 ?gp ?ze ?zp hR hN (.cons _ _ .nil) hlen hb9 ?ib ?il ?hb ?D ok9 lo9 rfl ?Z ?_
  k_extra "mz ctx"
  case h1 => k_mem
  case h2 => k_mem
  case gr => k_extra "mz getL"
  case h3 => k_mem
  case h4 => k_mem
  case h5 => k_mem
  case h6 => k_mem
  case gi => exact rfl
  case go => exact rfl
  case ga => exact rfl
  case h7 => k_mem
  case h8 => k_mem
  case gp => k_extra "mz getL"
  case ze => with_reducible assumption
  case zp => exact Nat.le_of_ble_eq_true rfl
  case ib => decide
  case il => decide
  case hb => omega
  case D => dsimp only [Dist]; k_extra "mz nes"
  case Z => k_extra "mz sift"
  intro es2 en2 vs2 k2 mv2 km2 pes2 pn2 iv2 ov2 ko2 t92 h92 tk92 F92 N92 V92
  obtain ⟨bX9, dX9, hX9, fX9, aX9, hR2, hq1, hq2, hq3, hq4⟩ := once_r (bc := 3 * 256 + 7 % 256) ok9 lo9 (by decide) V92.ir
  obtain ⟨tp2, gp2⟩ := V92.gp
  have gr2 := V92.gr
  have ze2 := V92.ze
  dsimp only at N92 gr2 ze2 gp2
  clear V92
  k_extra "mz steps"
  (with_reducible rename News _ _ _ _ => N99)
  (with_reducible rename Fr _ _ _ _ => F99)
  refine' back_ (led' := (pl, _) :: l1) F99 N99 ?hl ?rr
  case hl =>
    refine' ups_led N (Ups.rem1 V) (sub_cons h1 (sub_cons h2 sub_nil)) (one_mem ?km) ?kk
    case km => k_mem
    case kk => k_extra "mz keeps"
  case rr =>
    intro kF kN
    refine retB ?_ (ret _ _ _ _ _ _ P9 kF kN)
    exact once_end hwy9.2
end
end Mz

end
example : True := by
  k_with_none
  k_with "mz enter" => ((case k6 => k_is); (case k7 => k_is); (case k8 => ktr_room); (case k9 => exact BindsTo.of_eq rfl); (case c5 => decide); (case kB => exact locs rfl); (case c2 => exact rfl); (case c3 => exact rfl); (case c4 => exact rfl); k_whole; intro g'x L'x h'x tk'x F'x N'x B'x X'x T'x l'x hg'x; (try dsimp only); (try k_fold))
  k_with "mz steps" => repeat' (first | (k_unfold; (try dsimp only)) | (walk1; (try dsimp only)) | (dsimp only; walk1) | (dsimp only; k_unfold; (try dsimp only)) | (k_unmd; k_unfold; (try dsimp only)))
  k_with "mz keeps" => first | exact Mz.keeps_nil | (refine Mz.keeps_cons ?_ ?_; (first | (refine Or.inl ?_; k_mem) | exact Or.inr ⟨_, .head _, rfl⟩ | exact Or.inr ⟨_, .tail _ (.head _), rfl⟩ | exact Or.inr ⟨_, .tail _ (.tail _ (.head _)), rfl⟩ | exact Or.inr ⟨_, .tail _ (.tail _ (.tail _ (.head _))), rfl⟩ | exact Or.inr ⟨_, .tail _ (.tail _ (.tail _ (.tail _ (.head _)))), rfl⟩); k_extra "mz keeps")
  k_with "mz:ite" => first | refine Mz.beq_pos (by omega) ?_ | refine Mz.beq_neg (by omega) ?_ | refine Mz.bne_pos (by omega) ?_ | refine Mz.bne_neg (by omega) ?_ | refine Mz.dec_pos (by omega) ?_ | refine Mz.dec_neg (by omega) ?_
  k_with "mz:binaryOp LShift int int" => refine lshift_int_small (by decide) (by decide) (Mz.sh8' (by assumption)) ?_
  k_with "mz:setItem ref int" => (k_here; (with_reducible show wpAny _ _ (setItem (Value.ref _) (Value.int _ _) (Value.int _ _)) _ _ _); k_dflt (refine' Mz.set_at ?k1_6 ?k2_6 ?k3_6 ?k4_6 ?k5_6 ?k6_6 ?k7_6 ?k8_6 ?_; (case k1_6 => k_asm); (case k2_6 => k_asm); (case k3_6 => k_updF); (case k4_6 => with_reducible assumption); (case k5_6 => ksa_idx); (case k6_6 => ksa_idx); (case k7_6 => ksa_idx); (case k8_6 => first | exact Mz.R_s6 | exact Mz.R_s0b | exact Mz.R_s0 | exact rfl); k_whole); intro h'x vs'x F'x N'x hi'x hl'x; (try dsimp only at N'x); (try k_sweep))
  k_with "mz dp" => ((try dsimp only [ktrTop, Around.deeper]); first | exact Mz.dp2 (by with_reducible assumption) rfl | exact Mz.dp1 (by with_reducible assumption) rfl | omega)
  k_with "mz ctx" => ((case cB => k_asm); (case cF => k_asm); (case cX => k_asm); (case cN => k_asm); (case cT => k_asm); (case ck => exact rfl); (case cz => k_extra "mz dp"); (case cu => k_extra "mz dp"))
  k_with "mz ifs" => ((repeat' split) <;> first | with_reducible rfl | (exfalso; first | contradiction | omega))
  k_with "mz rem" => first | (refine' Mz.Rem.head ?a_10; (case a_10 => k_all)) | (refine' Mz.Rem.tail ?a_10 ?b_10; (case a_10 => k_ne); (case b_10 => k_extra "mz rem"))
  k_with "mz len" => first | with_reducible assumption | exact Mz.R_len | with_reducible exact Mz.setPr_len (by k_extra "mz len")
  k_with "mz byt" => first | with_reducible assumption | exact Mz.R_byt (by omega) (by omega) (by omega) | with_reducible exact Mz.setPr_byt (by k_extra "mz byt")
  k_with "mz getL" => first | with_reducible assumption | (refine' Mz.getL_oth ?ga_13 ?gb_13 ?gc_13; (case ga_13 => with_reducible assumption); (case gb_13 => decide +kernel); (case gc_13 => k_extra "mz getL"))
  k_with "mz:getAttr ref" => (k_here; k_dflt (refine' get_own ?k1_14 ?k2_14 ?k3_14 ?k4_14 ?k5_14 ?k6_14 ?k7_14 ?k8_14 ?k9_14 ?_; (case k1_14 => k_asm); (case k2_14 => k_asm); (case k3_14 => k_inst); (case k4_14 => k_is); (case k5_14 => k_is); (case k6_14 => k_is); (case k7_14 => k_is); (case k8_14 => k_extra "mz getL"); (case k9_14 => k_handed); k_whole))
  k_with "mz:setAttr ref" => (k_here; k_dflt (refine' Mz.set_own ?k1_15 ?k2_15 ?k3_15 ?k4_15 ?k5_15 ?k6_15 ?k7_15 ?k8_15 ?k9_15 ?k10_15 ?k11_15 ?k12_15 ?_; (case k1_15 => k_asm); (case k2_15 => k_asm); (case k3_15 => k_asm); (case k4_15 => k_inst); (case k5_15 => exact rfl); (case k6_15 => k_is); (case k7_15 => k_is); (case k8_15 => k_is); (case k9_15 => k_is); (case k10_15 => k_extra "mz getL"); (case k11_15 => first | with_reducible assumption | omega); (case k12_15 => k_extra "mz rem"); k_whole; intro h'x es'x n'x hs'x ho'x hz'x F'x N'x; (try k_sweep)))
  k_with "mz:subscriptTail" => (k_here; (with_reducible show wpAny _ _ (subscriptTail _ _ (Value.ref _) (Value.int _ _)) _ _ _); k_dflt (refine' Mz.sub_at ?k1_16 ?k2_16 ?k3_16 ?k4_16 ?k5_16 ?k6_16 ?k8_16 ?_ ?k7_16; (case k1_16 => k_asm); (case k2_16 => k_mem); (case k3_16 => with_reducible assumption); (case k4_16 => ksa_idx); (case k5_16 => ksa_idx); (case k6_16 => ksa_idx); (case k7_16 => with_unfolding_all rfl); (case k8_16 => first | with_reducible_and_instances exact Mz.R_g0 | with_reducible_and_instances exact Mz.R_g1 | with_reducible_and_instances exact Mz.R_g6 | with_reducible_and_instances exact Mz.R_g7 | exact Mz.R_g0 | exact Mz.R_g1 | exact Mz.R_g6 | exact Mz.R_g7 | exact rfl); k_whole); intro _)
  k_with "mz lt" => first | exact Mz.Lts.lt (by with_reducible assumption) (by k_mem) | with_reducible assumption | exact Mz.lt_s (by k_extra "mz lt")
  k_with "mz and" => first | exact And.left (by with_reducible assumption) | exact And.left (And.right (by with_reducible assumption)) | exact And.left (And.right (And.right (by with_reducible assumption))) | exact And.left (And.right (And.right (And.right (by with_reducible assumption)))) | exact And.left (And.right (And.right (And.right (And.right (by with_reducible assumption))))) | exact And.left (And.right (And.right (And.right (And.right (And.right (by with_reducible assumption)))))) | exact And.left (And.right (And.right (And.right (And.right (And.right (And.right (by with_reducible assumption))))))) | exact And.right (by with_reducible assumption) | exact And.right (And.right (by with_reducible assumption)) | exact And.right (And.right (And.right (by with_reducible assumption))) | exact And.right (And.right (And.right (And.right (by with_reducible assumption)))) | exact And.right (And.right (And.right (And.right (And.right (by with_reducible assumption))))) | exact And.right (And.right (And.right (And.right (And.right (And.right (by with_reducible assumption))))))
  k_with "mz neq" => first | exact Nat.ne_of_lt (Mz.Lts.lt (by with_reducible assumption) (by k_mem)) | exact Nat.ne_of_gt (Mz.Lts.lt (by with_reducible assumption) (by k_mem)) | exact Mz.Nes.ne (by with_reducible assumption) (by k_mem) | exact Ne.symm (Mz.Nes.ne (by with_reducible assumption) (by k_mem)) | exact Nat.ne_of_lt (by with_reducible assumption) | exact Nat.ne_of_gt (by with_reducible assumption) | exact Nat.ne_of_gt (Mz.lt_s (by k_extra "mz lt")) | exact Nat.ne_of_lt (Mz.lt_s (by k_extra "mz lt")) | exact Nat.ne_of_gt (Mz.lt_tr (by with_reducible assumption) (by k_extra "mz lt")) | exact Nat.ne_of_lt (Mz.lt_tr (by with_reducible assumption) (by k_extra "mz lt")) | exact Mz.NeA.out (by k_extra "mz and") | exact Ne.symm (Mz.NeA.out (by k_extra "mz and"))
  k_with "mz all" => first | exact List.forall_mem_nil _ | ((with_reducible refine Mz.all_cons ?_ ?_); (k_ne); (k_extra "mz all")) | exact OwnOff.ne (by assumption) (by k_memK) | exact Mz.all_cons (by k_ne) (by k_extra "mz all")
  k_with "mz ne" => first | with_reducible assumption | exact Mz.NeA.symm (by with_reducible assumption) | exact Mz.NeA.of (by k_extra "mz neq") | exact Mz.NeA.of (by omega)
  k_with "mz nes" => first | (refine And.intro ?_ ?_; (k_extra "mz ne"); (k_extra "mz nes")) | k_extra "mz ne"
  k_with "mz ksa_idx" => ((rw [Mz.R_len]); decide)
  k_with "mz k_ne" => (refine neN ?_; (try dsimp only); first | exact Mz.NeA.out (by with_reducible assumption) | exact Ne.symm (Mz.NeA.out (by with_reducible assumption)) | k_extra "mz neq" | omega)
  k_with "mz k_all" => first | exact Mz.ne_lts (by with_reducible assumption) (by exact rfl) | exact Mz.ne_nes (by with_reducible assumption) (by exact rfl) | k_extra "mz all"
  k_with "mz enterC" => ((case k6 => k_is); (case k7 => k_is); (case k8 => ktr_room); (case k9 => exact BindsTo.of_eq rfl); (case kB => exact rfl); (case kD => decide +kernel); (case c2 => exact rfl); (case c3 => exact rfl); (case c4 => exact rfl); k_whole; intro g'x L'x h'x tk'x cells'x F'x N'x Y'x B'x X'x T'x lsx l'x hg'x; (try k_lt lsx); k_cells Y'x; (try simp only [List.cons_append, List.nil_append] at N'x); (try dsimp only); (try k_fold))
  k_with "mz:call ref" => (k_here; (with_reducible show wpAny _ _ (call (Value.ref 336) _) _ _ _); k_dflt (refine' Mz.c_draw ?cB ?cF ?cX ?cN ?cT ?ck ?cz ?cu ?h2_49 ?V_49 ?P_49 ?hne_49 ?hm_49 ?_; k_extra "mz ctx"; (case V_49 => k_extra "mz rem"); (case h2_49 => k_mem); (case P_49 => with_reducible assumption); (case hne_49 => k_extra "mz ne"); (case hm_49 => decide); k_whole); intro v9 t9x i9x ti9x r9x ts9x h9x tk9x hv9x P9x F9x N9x; (try dsimp only); (try k_sweep))
  k_with "mz rem2" => first | (refine' Mz.Rem.head ?a_50; (case a_50 => k_all)) | exact Mz.Rem.tl (by k_extra "mz rem2") (by k_ne)
  k_with "mz:CompSrc" => (k_here; k_dflt (refine' Mz.src_draws ?cB_51 ?cX_51 ?cT_51 ?ck_51 ?ccs_51 ?cz_51 ?cu_51 ?sF_51 ?sN_51 ?sV_51 ?sr_51 ?ssm_51 ?sn_51 ?snz_51 ?sg_51 ?sc_51 ?sd_51 ?sP_51 ?sne_51 ?sm_51 ?_; (case cB_51 => k_asm); (case cX_51 => k_asm); (case cT_51 => k_asm); (case ck_51 => exact rfl); (case ccs_51 => exact rfl); (case cz_51 => k_extra "mz dp"); (case cu_51 => k_extra "mz dp"); (case sF_51 => k_asm); (case sN_51 => k_asm); (case sV_51 => k_extra "mz rem2"); (case sr_51 => assumption); (case ssm_51 => decide); (case sn_51 => exact rfl); (case snz_51 => decide); (case sg_51 => k_mem); (case sc_51 => k_mem); (case sd_51 => k_asm); (case sP_51 => with_reducible assumption); (case sne_51 => k_extra "mz ne"); (case sm_51 => decide); k_whole); intro D9 ys9x ns9 i9x r9x ti9x ts9x h9x tk9x hi9x hb9x hl9x P9x F9x N9x o9x; (replace o9x := Mz.nes_of o9x); (try dsimp only [List.map] at o9x); (try dsimp only))
  k_with "mz:eval ListComp" => (k_here; lcf_look; k_dflt (refine LCg.ListComp_U (F₀ := by k_asm) (by with_unfolding_all rfl) (by decide) (by rfl) (by decide) (by rfl) ?_); k_dflt lcg_toSrc)
  k_with "mz:call ref" => (k_here; (with_reducible show wpAny _ _ (call (Value.ref 343) _) _ _ _); k_dflt (refine' Mz.c_lpair ?cB ?cF ?cX ?cN ?cT ?ck ?cz ?cu ?h1_55 ?h2_55 ?h3_55 ?hi_55 ?hl_55 ?hr_55 ?hp_55 ?hx_55 ?_; k_extra "mz ctx"; (case h1_55 => k_mem); (case h2_55 => k_mem); (case hr_55 => k_extra "mz getL"); (case h3_55 => k_mem); (case hi_55 => with_reducible assumption); (case hl_55 => k_extra "mz len"); (case hp_55 => decide); (case hx_55 => first | with_reducible_and_instances exact Mz.lp0 | with_reducible_and_instances exact Mz.lp2 | with_reducible_and_instances exact Mz.lp4 | exact Mz.lp0 | exact Mz.lp2 | exact Mz.lp4); k_whole); intro t9x h9x tk9x F9x N9x; (try dsimp only); (try k_sweep))
  k_with "mz:call ref" => (k_here; (with_reducible show wpAny _ _ (call (Value.ref 355) _) _ _ _); k_dflt (refine' Mz.c_cpu ?cB ?cF ?cX ?cN ?cT ?ck ?cz ?cu ?h2_56 ?V_56 ?P_56 ?hne_56 ?hc_56 ?_; k_extra "mz ctx"; (case V_56 => k_extra "mz rem"); (case h2_56 => k_mem); (case P_56 => with_reducible assumption); (case hne_56 => k_extra "mz ne"); (case hc_56 => omega); k_whole); intro c9 d9 rl9 sl9 es9x n9x vs9 kr9x kz9x zs9x de9 hl9 f9 a9 i9x ti9x r9x ts9x h9x tk9x hz9x hR9x hb9x cd9x P9x nn9x o1x o2x o3x o4x F9x N9x; (clear hz9x); (replace o1x := Mz.nes_of o1x); (replace o2x := Mz.nes_of o2x); (replace o3x := Mz.nes_of o3x); (replace o4x := Mz.nes_of o4x); (try dsimp only [List.map] at o1x o2x o3x o4x); (have gr9x := cd9x.r); (have z9x := cd9x.z); (try dsimp only))
  k_with "mz:call ref" => (k_here; (with_reducible show wpAny _ _ (call (Value.ref 362) _) _ _ _); k_dflt (refine' Mz.c_lflags ?cB ?cF ?cX ?cN ?cT ?ck ?cz ?cu ?h1_57 ?hb_57 ?_; k_extra "mz ctx"; (case h1_57 => k_mem); (case hb_57 => (repeat' (first | exact Mz.BitsAre.nil | (refine' Mz.BitsAre.cons ?ka_57 ?_; (case ka_57 => k_mem))))); k_whole); intro t9x h9x tk9x F9x N9x; (try dsimp only); (try k_sweep))
  k_with "mz:call ref" => (k_here; (with_reducible show wpAny _ _ (call (Value.ref 350) _) _ _ _); refine Mz.halt ?_)
  k_with "mz:exec For Name Call cons nil" => (k_here; (rename Fr _ _ _ _ => lF'x); (with_unfolding_all refine' For_invVF lF'x ?k1_59 ?k2_59 ?_; (case k1_59 => exact rfl); (case k2_59 => exact rfl); k_whole))
  k_with "mz:pyIter ref" => (refine Mz.halt ?_)
  k_with "mz off" => (dsimp only [Mz.Off]; (refine And.intro ?_ (And.intro ?_ (And.intro ?_ (And.intro ?_ ?_)))) <;> k_extra "mz ne")
  k_with "mz sift" => (repeat' ((with_reducible show Mz.Sift _ _ _); first | exact Mz.Sift.nil | (refine' Mz.Sift.dropT ?_) | (refine' Mz.Sift.d_rl ?_) | (refine' Mz.Sift.d_mm ?_) | (refine' Mz.Sift.d_dx ?_) | (refine' Mz.Sift.d_pd ?_) | (refine' Mz.Sift.d_ol ?_) | (refine' Mz.Sift.take (by k_extra "mz off") ?_) | (refine' Mz.Sift.drop ?_)))
  k_with "mz:InvEndN" => (refine Mz.halt ?_)
  k_with "mz:subscriptTail" => (k_here; (with_reducible show wpAny _ _ (subscriptTail _ _ (Value.ref _) (Value.int (Int.fmod _ _) _)) _ _ _); k_dflt (refine' Mz.sub_at ?k1_62 ?k2_62 ?k3_62 ?k4_62 ?k5_62 ?k6_62 ?k8_62 ?_ ?k7_62; (case k1_62 => k_asm); (case k2_62 => k_mem); (case k3_62 => with_reducible assumption); (case k4_62 => ksa_idx); (case k5_62 => ksa_idx); (case k6_62 => ksa_idx); (case k7_62 => with_unfolding_all rfl); (case k8_62 => exact rfl); k_whole); intro _)
  k_with "mz:setItem ref int" => (k_here; (with_reducible show wpAny _ _ (setItem (Value.ref _) (Value.int (Int.fmod _ _) _) (Value.int _ _)) _ _ _); k_dflt (refine' Mz.set_at ?k1_63 ?k2_63 ?k3_63 ?k4_63 ?k5_63 ?k6_63 ?k7_63 ?k8_63 ?_; (case k1_63 => k_asm); (case k2_63 => k_asm); (case k3_63 => k_updF); (case k4_63 => with_reducible assumption); (case k5_63 => ksa_idx); (case k6_63 => ksa_idx); (case k7_63 => ksa_idx); (case k8_63 => exact rfl); k_whole); intro h'x vs'x F'x N'x hi'x hl'x; (try dsimp only at N'x); (try k_sweep))
  k_with "mz ksa_idx" => first | exact (Mz.fm_bd (by decide)).1 | exact Mz.fm_lt (by with_reducible assumption) | exact Mz.fm_fit
  k_with "mz:eval ListComp" => (k_here; (with_reducible show wpAny _ _ (eval (Expr.ListComp (Expr.Call (Expr.Name (Str.ofString "_law_pair") _) _ _ _) _ _ _) _) _ _ _); lcf_look; k_dflt ((refine' Mz.ListComp_T ?l0_67 ?l1_67 ?l2_67 ?l3_67 ?l4_67 ?l5_67 ?_ ?l7_67; (case l0_67 => k_asm); (case l1_67 => with_unfolding_all rfl); (case l2_67 => decide); (case l3_67 => rfl); (case l4_67 => decide); (case l5_67 => rfl); (case l7_67 => exact fun _ => rfl); skip); (repeat (first | walk1 | (dsimp only; walk1))); (with_unfolding_all refine' Mz.src_pairs ?cB_67 ?cX_67 ?cT_67 ?ck_67 ?ccs_67 ?cz_67 ?cu_67 ?sF_67 ?sN_67 ?sm_67 ?sk_67 ?sb_67 ?sl_67 ?h1_67 ?h2_67 ?h3_67 ?hi_67 ?hl_67 ?hr_67 ?hc_67 ?hd_67 ?_); (case cB_67 => k_asm); (case cX_67 => k_asm); (case cT_67 => k_asm); (case ck_67 => exact rfl); (case ccs_67 => exact rfl); (case cz_67 => k_extra "mz dp"); (case cu_67 => k_extra "mz dp"); (case sF_67 => k_asm); (case sN_67 => k_asm); (case sm_67 => k_mem); (case sk_67 => (repeat' (first | exact IntsAre.nil | refine' IntsAre.cons _ _ ?_))); (case sb_67 => decide); (case sl_67 => exact Nat.le_of_ble_eq_true rfl); (case h1_67 => k_mem); (case h2_67 => k_mem); (case hr_67 => k_extra "mz getL"); (case h3_67 => k_mem); (case hi_67 => with_reducible assumption); (case hl_67 => k_extra "mz len"); (case hc_67 => k_mem); (case hd_67 => k_asm); intro D9x ys9x h9x tk9x hi9x F9x N9x o9x; (replace o9x := Mz.nes_of o9x); (try dsimp only [List.map] at o9x); (simp only [Mz.lp_024, Mz.lp_04] at hi9x); (try dsimp only)))
  k_with "mz:eval IfExp" => (goal_lacks Mz.WayQ; k_here; (with_reducible show wpAny _ _ (eval (Expr.IfExp (Expr.Compare (Expr.Name (Str.ofString "way") _) _ _ _) (Expr.Constant (Const.int _) _ _) (Expr.Constant (Const.int _) _ _) _) _) _ _ _); k_dflt ((refine' Mz.way_cut way ?wa_70 ?_); (case wa_70 => ((k_extra "mz steps"); (all_goals first | exact Mz.WayQ.one (by omega) | exact Mz.WayQ.two (by omega)))); intro oct9 t9x tk9x ho9; (try dsimp only)))
  k_with "mz:eval IfExp" => (goal_lacks Mz.ManyQ; k_here; (with_reducible show wpAny _ _ (eval (Expr.IfExp (Expr.Compare (Expr.Name (Str.ofString "a") _) _ _ _) _ _ _) _) _ _ _); k_dflt ((refine' Mz.many_cutF ns9 hl9 way ?mF_71 ?ma_71 ?mc_71 ?wa_71 ?_); (case mF_71 => k_asm); (case ma_71 => exact rfl); (case mc_71 => exact rfl); (case wa_71 => ((k_extra "mz steps"); (all_goals first | exact Mz.ManyQ.found (Int.toNat_of_nonneg (by omega)).symm (by assumption) | exact Mz.ManyQ.none (Int.toNat_of_nonneg (by omega)).symm (by omega) (by assumption)))); intro many9 t9x tk9x hm9; (try dsimp only)))
  k_with "mz:call builtin:list.index" => ((with_reducible show wpAny _ _ (call (Value.builtin _) [Value.ref _, Value.int _ _]) _ _ _); refine index_list_ints (by assumption) (by assumption) (Mz.lay_many (by assumption) (by omega)) (Mz.any_mem (by assumption)) ?_)
  k_with "mz:subscriptTail" => (k_here; (with_reducible show wpAny _ _ (subscriptTail _ (Expr.BinOp _ _ _ _) (Value.ref _) (Value.int _ _)) _ _ _); k_dflt (refine' Mz.sub_at ?k1_73 ?k2_73 ?k3_73 ?k4_73 ?k5_73 ?k6_73 ?k8_73 ?_ ?k7_73; (case k1_73 => k_asm); (case k2_73 => k_mem); (case k3_73 => with_reducible assumption); (case k4_73 => omega); (case k5_73 => (rw [List.length_map, List.length_range]; omega)); (case k6_73 => omega); (case k7_73 => with_unfolding_all rfl); (case k8_73 => exact Mz.many_getD (by omega)); k_whole); intro _)
  trivial
namespace Mz
section
variable {w : World} {dp un : Nat} {gd : Option (List Code)} {cn : Str} {cs : Scope} {a : Addr} {ccd : Value} {cl : List (Str × Addr)} {outer : List Env} {A₀ : Around} {base h₀ : Heap} {L : Addr} {m mg mb : Str → Option Value} {mean : ExcName → Option Value}
  {led : List (Addr × Obj)} {s : Shared} {Q E : Value → Shared → Prop}
  (B : Below A₀ base outer h₀) (F : Fr h₀ L s.heap m) (X : (hd.heap_39 w.params).In h₀) (N : News h₀ L s.heap led) (T : Top hd.view_39 LO mean mg mb h₀) (hk : cs.kind = .function) (hz : dp + 20 < 900) (hu : un + 200 < 2000)
include B F X N T hk hz hu
theorem c_moved {pl gl : Addr} {k kg : Nat} {gv : List Value} {gs : List Int} {i r way : Int} {ti ts tw : Tok} {l1 : List (Addr × Obj)}
    (h2 : (gl, listOf gv.toArray kg) ∈ led) (V : Rem pl (listOf [.ref gl, .int i ti, .int r ts].toArray k) led l1) (P : PoolV gl gs gv i r) (hne : NeA pl gl) (hw : way = 1 ∨ way = -1)
    (ret : ∀ i' ti' r' ts' h' tk', PoolV gl gs gv i' r' → Fr h₀ L h' m → News h₀ L h' ((pl, listOf [.ref gl, .int i' ti', .int r' ts'].toArray k) :: l1) → Q (.bool true) { s with heap := h', toks := tk' }) :
    wpAny (model PR w) (ktrTop dp un gd cn cs L a ccd cl outer) (call (.ref 367) [.ref pl, .int way tw]) Q E s := by
  have h1 := V.mem
  refine wpAny_call ?_
  k_dflt (refine' code_inC (K := hd.heap_39 w.params) (small := [(pl, listOf [.ref gl, .int i ti, .int r ts].toArray k), (gl, listOf gv.toArray kg)]) B F X N T (sub_cons h1 (sub_cons h2 sub_nil)) rfl rfl hk ?k6 ?k7 ?k8 ?k9 ?kB ?kD ?_ ?c2 ?c3 ?c4)
  k_extra "mz enterC"
  k_extra "mz steps"
  refine unhalt ?_
  (with_reducible rename IntsAre _ (R _ _ _ _ _) => hR)
  (with_reducible rename PoolV gl gs gv _ _ => P9)
  (with_reducible rename IntsAre _ ns9 => hN)
  (with_reducible rename CpuD _ _ _ => cd9)
  have hb9 : ∀ x ∈ ns9, 0 ≤ x ∧ x < 256 := by with_reducible assumption
  have hlen : ns9.length = 64 := by assumption
  have hn1 : 1 + v9 = (((1 + v9).toNat : Nat) : Int) := (Int.toNat_of_nonneg (by omega)).symm
  have hlt : 0 ≤ 1 + v9 ∧ 1 + v9 < 256 := by omega
  have hde9 : 0 ≤ de9 ∧ de9 < 65536 := by omega
  have hhl9 : 0 ≤ hl9 ∧ hl9 < 65536 := by omega
  have hf9 : 0 ≤ f9 ∧ f9 < 256 := by omega
  have ha9 : 0 ≤ a9 ∧ a9 < 256 := by omega
  refine' range_due (mvD ns9 hl9 de9 way) ?k1 ?k2 ?k3 ?k4 ?k5 ?k6 ?k7 ?k8 ?k9 ?k10 ?turn ?done
  case k1 => exact rfl
  case k6 => k_asm
  case k2 => exact rfl
  case k3 => exact rfl
  case k4 => assumption
  case k5 => exact ⟨(Int.toNat_of_nonneg (by omega)).symm, by omega⟩
  case k7 => k_asm
  case k8 => k_extra "mz rem2"
  case k9 => exact hN
  case k10 => exact rfl
  case turn =>
    rintro ⟨ds, dv, last, tl⟩ pre k t u h tk own hk hlt hoff hf hp F8 N8
    dsimp only at hf hp N8 F8
    have hds : ds = (mvD ns9 hl9 de9 way pre.length).1 := congrArg Prod.fst hp
    have hlen2 : ds.length = 64 := by rw [hds, mvD_len]; exact hlen
    k_extra "mz steps"
    refine unhalt ?_
    (with_reducible rename News _ _ _ _ => N9)
    (with_reducible rename Fr _ _ _ _ => F9)
    exact due_end F9 N9 (by with_reducible assumption) (by exact rfl) (by intro z h1 h2; simp only [h1, h2, if_false]) (mvD_next hp hk)
  case done =>
    rintro ⟨ds, dv, last, tl⟩ u h tk hf hp F8 N8
    dsimp only at hf hp N8 F8
    obtain ⟨fl, hx, _, hfl⟩ := mv_iter (is := []) (at_ := 0) (way := way) (outs := []) hlt hde9 hhl9 hf9 ha9 hb9 (1 + v9).toNat (by omega)
    have hfl2 := (hfl (by omega) (by omega)).trans mv_told
    have hla : last = (mvD ns9 hl9 de9 way (1 + v9).toNat).2 := congrArg Prod.snd hp
    have hds : ds = (mvD ns9 hl9 de9 way (1 + v9).toNat).1 := congrArg Prod.fst hp
    rw [← hla] at hfl2
    subst hds
    subst hfl2
    have hgo : ∀ j, 1 ≤ j → j ≤ (1 + v9).toNat → (goes 0 (iter 0 [] way ⟨1 + v9, de9, hl9, f9, a9, ns9, 0, []⟩ j) = true ↔ j < (1 + v9).toNat) := fun j _ hj => (mv_goes (is := []) (at_ := 0) (way := way) (outs := []) hlt hde9 hhl9 hf9 ha9 hb9 j (by omega)).trans (by omega)
    k_extra "mz steps"
    replace ho9 := oct_facts (z := 0) ho9 ⟨by decide, by decide, ⟨by decide, by decide, by decide⟩, by decide⟩ ⟨by decide, by decide, ⟨by decide, by decide, by decide⟩, by decide⟩
    obtain ⟨ez9, es9, ok9, rep9⟩ := ho9
    obtain ⟨tp, gp⟩ := cd9.pc
    refine unhalt ?_
    k_here
    refine' c_roundsL (z := 0) (st := way) ?cB ?cF ?cX ?cN ?cT ?ck ?cz ?cu ?h1 ?h2 ?gr ?h3 ?h4 ?h5 ?h6 ?gi ?go ?ga ?h7 ?h8 gp cd9.z ?zp hR hN .nil hlen hb9 ?ib ?il ?hb ?D ez9 es9 hn1 ?hn ?hin ok9 rep9 hgo hx ?Z ?_
    k_extra "mz ctx"
    case h1 => k_mem
    case h2 => k_mem
    case gr => exact cd9.r
    case h3 => k_mem
    case h4 => k_mem
    case h5 => k_mem
    case h6 => k_mem
    case gi => exact rfl
    case go => exact rfl
    case ga => exact rfl
    case h7 => k_mem
    case h8 => k_mem
    case zp => exact Nat.le_of_ble_eq_true rfl
    case ib => decide
    case il => decide
    case hb => omega
    case D => dsimp only [Dist]; k_extra "mz nes"
    case hn => omega
    case hin => exact fun h => absurd h (by decide)
    case Z => k_extra "mz sift"
    intro led2 es2 en2 vs2 k2 mv2 km2 pes2 pn2 iv2 ov2 ko2 q2 t12 t22 h92 tk92 F92 N92 V92 O92 N93 ne92
    replace ne92 := Mz.nes_of ne92
    dsimp only [List.map] at ne92
    have gr2 := V92.gr
    have go2 := V92.go
    have ze2 := V92.ze
    have zp2 := V92.zp
    have hR2 := V92.ir
    have hM2 := V92.im
    dsimp only at hR2 hM2 N92 gr2 ze2 go2 zp2
    obtain rfl := outs_nil O92
    clear N93
    k_extra "mz steps"
    (with_reducible rename News _ _ _ _ => N99)
    (with_reducible rename Fr _ _ _ _ => F99)
    refine' back_ (led' := (pl, _) :: l1) F99 N99 ?hl ?rr
    case hl =>
      refine' ups_led N (Ups.rem1 V) (sub_cons h1 (sub_cons h2 sub_nil)) (one_mem ?km) ?kk
      case km => k_mem
      case kk => k_extra "mz keeps"
    case rr =>
      intro kF kN
      refine retB ?_ (ret _ _ _ _ _ _ P9 kF kN)
      refine (decide_eq_true ?_).symm
      rw [← hn1, fm16, fm16, Int.sub_self]
end
end Mz

section
example : True := by
  k_with "mz:CompSrc Subscript cons ref" => (k_here; k_dflt ((with_unfolding_all refine' Mz.src_srch ?cB_68 ?cX_68 ?cT_68 ?ck_68 ?e1_68 ?e2_68 ?e3_68 ?sF_68 ?sN_68 ?sr_68 ?sb_68 ?h1_68 ?d1_68 ?h2_68 ?d2_68 ?h3_68 ?d3_68 ?hM_68 ?hi_68 ?hl_68 ?hw_68 ?_); (case cB_68 => k_asm); (case cX_68 => k_asm); (case cT_68 => k_asm); (case ck_68 => exact rfl); (case e1_68 => exact rfl); (case e2_68 => exact rfl); (case e3_68 => exact rfl); (case sF_68 => k_asm); (case sN_68 => k_asm); (case sr_68 => assumption); (case sb_68 => exact ⟨(Int.toNat_of_nonneg (by omega)).symm, by omega⟩); (case h1_68 => k_mem); (case d1_68 => k_asm); (case h2_68 => k_mem); (case d2_68 => k_asm); (case h3_68 => k_mem); (case d3_68 => k_asm); (case hM_68 => k_mem); (case hi_68 => with_reducible assumption); (case hl_68 => with_reducible assumption); (case hw_68 => with_reducible assumption); intro DS ys9x h9x tk9x hS F9x N9x o9x; (replace o9x := Mz.nes_of o9x); (try dsimp only [List.map] at o9x); (try dsimp only)))
  trivial
namespace Mz
section
variable {w : World} {dp un : Nat} {gd : Option (List Code)} {cn : Str} {cs : Scope} {a : Addr} {ccd : Value} {cl : List (Str × Addr)} {outer : List Env} {A₀ : Around} {base h₀ : Heap} {L : Addr} {m mg mb : Str → Option Value} {mean : ExcName → Option Value}
  {led : List (Addr × Obj)} {s : Shared} {Q E : Value → Shared → Prop}
  (B : Below A₀ base outer h₀) (F : Fr h₀ L s.heap m) (X : (hd.heap_39 w.params).In h₀) (N : News h₀ L s.heap led) (T : Top hd.view_39 LO mean mg mb h₀) (hk : cs.kind = .function) (hz : dp + 20 < 900) (hu : un + 200 < 2000)
include B F X N T hk hz hu
theorem c_sought {pl gl : Addr} {k kg : Nat} {gv : List Value} {gs : List Int} {i r way : Int} {ti ts tw : Tok} {l1 : List (Addr × Obj)}
    (h2 : (gl, listOf gv.toArray kg) ∈ led) (V : Rem pl (listOf [.ref gl, .int i ti, .int r ts].toArray k) led l1) (P : PoolV gl gs gv i r) (hne : NeA pl gl) (hw : way = 1 ∨ way = -1)
    (ret : ∀ i' ti' r' ts' h' tk', PoolV gl gs gv i' r' → Fr h₀ L h' m → News h₀ L h' ((pl, listOf [.ref gl, .int i' ti', .int r' ts'].toArray k) :: l1) → Q (.bool true) { s with heap := h', toks := tk' }) :
    wpAny (model PR w) (ktrTop dp un gd cn cs L a ccd cl outer) (call (.ref 372) [.ref pl, .int way tw]) Q E s := by
  have h1 := V.mem
  refine wpAny_call ?_
  k_dflt (refine' code_inC (K := hd.heap_39 w.params) (small := [(pl, listOf [.ref gl, .int i ti, .int r ts].toArray k), (gl, listOf gv.toArray kg)]) B F X N T (sub_cons h1 (sub_cons h2 sub_nil)) rfl rfl hk ?k6 ?k7 ?k8 ?k9 ?kB ?kD ?_ ?c2 ?c3 ?c4)
  k_extra "mz enterC"
  k_extra "mz steps"
  (with_reducible rename IntsAre _ (R _ _ _ _ _) => hR)
  replace hR := R_set7 hR
  (with_reducible rename PoolV gl gs gv _ _ => P9)
  (with_reducible rename IntsAre _ ns9 => hN)
  (with_reducible rename CpuD _ _ _ => cd9)
  have hb9 : ∀ x ∈ ns9, 0 ≤ x ∧ x < 5 := by with_reducible assumption
  have hb5 : ∀ x ∈ ns9, 0 ≤ x ∧ x < 256 := fun x hx => by have := hb9 x hx; omega
  have hlen : ns9.length = 64 := by assumption
  obtain ⟨hx, hgo, hn1, hnn, hle⟩ := sk_pack hR hm9 (by omega) (by omega) (by omega) (by omega) hb9
  replace ho9 := oct_facts (z := 1) ho9 ⟨by decide, by decide, ⟨by decide, by decide, by decide⟩, by decide⟩ ⟨by decide, by decide, ⟨by decide, by decide, by decide⟩, by decide⟩
  obtain ⟨ez9, es9, ok9, rep9⟩ := ho9
  obtain ⟨tp, gp⟩ := cd9.pc
  refine unhalt ?_
  k_here
  refine' c_roundsL (z := 1) (st := way) ?cB ?cF ?cX ?cN ?cT ?ck ?cz ?cu ?h1 ?h2 ?gr ?h3 ?h4 ?h5 ?h6 ?gi ?go ?ga ?h7 ?h8 gp cd9.z ?zp hR hN .nil hlen hb5 ?ib ?il ?hb ?D ez9 es9 hn1 ?hn ?hin ok9 rep9 hgo hx ?Z ?_
  k_extra "mz ctx"
  case h1 => k_mem
  case h2 => k_mem
  case gr => exact cd9.r
  case h3 => k_mem
  case h4 => k_mem
  case h5 => k_mem
  case h6 => k_mem
  case gi => exact rfl
  case go => exact rfl
  case ga => exact rfl
  case h7 => k_mem
  case h8 => k_mem
  case zp => exact Nat.le_of_ble_eq_true rfl
  case ib => decide
  case il => decide
  case hb => omega
  case D => dsimp only [Dist]; k_extra "mz nes"
  case hn => exact hnn
  case hin => exact fun h => absurd h (by decide)
  case Z => k_extra "mz sift"
  intro led2 es2 en2 vs2 k2 mv2 km2 pes2 pn2 iv2 ov2 ko2 q2 t12 t22 h92 tk92 F92 N92 V92 O92 N93 ne92
  replace ne92 := Mz.nes_of ne92
  dsimp only [List.map] at ne92
  have gr2 := V92.gr
  have go2 := V92.go
  have ze2 := V92.ze
  have zp2 := V92.zp
  have hR2 := V92.ir
  have hM2 := V92.im
  dsimp only at hR2 hM2 N92 gr2 ze2 go2 zp2
  obtain rfl := outs_nil O92
  clear N93
  k_extra "mz steps"
  (with_reducible rename News _ _ _ _ => N99)
  (with_reducible rename Fr _ _ _ _ => F99)
  refine' back_ (led' := (pl, _) :: l1) F99 N99 ?hl ?rr
  case hl =>
    refine' ups_led N (Ups.rem1 V) (sub_cons h1 (sub_cons h2 sub_nil)) (one_mem ?km) ?kk
    case km => k_mem
    case kk => k_extra "mz keeps"
  case rr =>
    intro kF kN
    refine retB ?_ (ret _ _ _ _ _ _ P9 kF kN)
    refine (decide_eq_true ?_).symm
    rw [fm16]
end
end Mz

end
example : True := by
  k_with_none
  k_with "mz enter" => ((case k6 => k_is); (case k7 => k_is); (case k8 => ktr_room); (case k9 => exact BindsTo.of_eq rfl); (case c5 => decide); (case kB => exact locs rfl); (case c2 => exact rfl); (case c3 => exact rfl); (case c4 => exact rfl); k_whole; intro g'x L'x h'x tk'x F'x N'x B'x X'x T'x l'x hg'x; (try dsimp only); (try k_fold))
  k_with "mz steps" => repeat' (first | (k_unfold; (try dsimp only)) | (walk1; (try dsimp only)) | (dsimp only; walk1) | (dsimp only; k_unfold; (try dsimp only)) | (k_unmd; k_unfold; (try dsimp only)))
  k_with "mz keeps" => first | exact Mz.keeps_nil | (refine Mz.keeps_cons ?_ ?_; (first | (refine Or.inl ?_; k_mem) | exact Or.inr ⟨_, .head _, rfl⟩ | exact Or.inr ⟨_, .tail _ (.head _), rfl⟩ | exact Or.inr ⟨_, .tail _ (.tail _ (.head _)), rfl⟩ | exact Or.inr ⟨_, .tail _ (.tail _ (.tail _ (.head _))), rfl⟩ | exact Or.inr ⟨_, .tail _ (.tail _ (.tail _ (.tail _ (.head _)))), rfl⟩); k_extra "mz keeps")
  k_with "mz:ite" => first | refine Mz.beq_pos (by omega) ?_ | refine Mz.beq_neg (by omega) ?_ | refine Mz.bne_pos (by omega) ?_ | refine Mz.bne_neg (by omega) ?_ | refine Mz.dec_pos (by omega) ?_ | refine Mz.dec_neg (by omega) ?_
  k_with "mz:binaryOp LShift int int" => refine lshift_int_small (by decide) (by decide) (Mz.sh8' (by assumption)) ?_
  k_with "mz:setItem ref int" => (k_here; (with_reducible show wpAny _ _ (setItem (Value.ref _) (Value.int _ _) (Value.int _ _)) _ _ _); k_dflt (refine' Mz.set_at ?k1_6 ?k2_6 ?k3_6 ?k4_6 ?k5_6 ?k6_6 ?k7_6 ?k8_6 ?_; (case k1_6 => k_asm); (case k2_6 => k_asm); (case k3_6 => k_updF); (case k4_6 => with_reducible assumption); (case k5_6 => ksa_idx); (case k6_6 => ksa_idx); (case k7_6 => ksa_idx); (case k8_6 => first | exact Mz.R_s6 | exact Mz.R_s0b | exact Mz.R_s0 | exact rfl); k_whole); intro h'x vs'x F'x N'x hi'x hl'x; (try dsimp only at N'x); (try k_sweep))
  k_with "mz dp" => ((try dsimp only [ktrTop, Around.deeper]); first | exact Mz.dp2 (by with_reducible assumption) rfl | exact Mz.dp1 (by with_reducible assumption) rfl | omega)
  k_with "mz ctx" => ((case cB => k_asm); (case cF => k_asm); (case cX => k_asm); (case cN => k_asm); (case cT => k_asm); (case ck => exact rfl); (case cz => k_extra "mz dp"); (case cu => k_extra "mz dp"))
  k_with "mz ifs" => ((repeat' split) <;> first | with_reducible rfl | (exfalso; first | contradiction | omega))
  k_with "mz rem" => first | (refine' Mz.Rem.head ?a_10; (case a_10 => k_all)) | (refine' Mz.Rem.tail ?a_10 ?b_10; (case a_10 => k_ne); (case b_10 => k_extra "mz rem"))
  k_with "mz len" => first | with_reducible assumption | exact Mz.R_len | with_reducible exact Mz.setPr_len (by k_extra "mz len")
  k_with "mz byt" => first | with_reducible assumption | exact Mz.R_byt (by omega) (by omega) (by omega) | with_reducible exact Mz.setPr_byt (by k_extra "mz byt")
  k_with "mz getL" => first | with_reducible assumption | (refine' Mz.getL_oth ?ga_13 ?gb_13 ?gc_13; (case ga_13 => with_reducible assumption); (case gb_13 => decide +kernel); (case gc_13 => k_extra "mz getL"))
  k_with "mz:getAttr ref" => (k_here; k_dflt (refine' get_own ?k1_14 ?k2_14 ?k3_14 ?k4_14 ?k5_14 ?k6_14 ?k7_14 ?k8_14 ?k9_14 ?_; (case k1_14 => k_asm); (case k2_14 => k_asm); (case k3_14 => k_inst); (case k4_14 => k_is); (case k5_14 => k_is); (case k6_14 => k_is); (case k7_14 => k_is); (case k8_14 => k_extra "mz getL"); (case k9_14 => k_handed); k_whole))
  k_with "mz:setAttr ref" => (k_here; k_dflt (refine' Mz.set_own ?k1_15 ?k2_15 ?k3_15 ?k4_15 ?k5_15 ?k6_15 ?k7_15 ?k8_15 ?k9_15 ?k10_15 ?k11_15 ?k12_15 ?_; (case k1_15 => k_asm); (case k2_15 => k_asm); (case k3_15 => k_asm); (case k4_15 => k_inst); (case k5_15 => exact rfl); (case k6_15 => k_is); (case k7_15 => k_is); (case k8_15 => k_is); (case k9_15 => k_is); (case k10_15 => k_extra "mz getL"); (case k11_15 => first | with_reducible assumption | omega); (case k12_15 => k_extra "mz rem"); k_whole; intro h'x es'x n'x hs'x ho'x hz'x F'x N'x; (try k_sweep)))
  k_with "mz:subscriptTail" => (k_here; (with_reducible show wpAny _ _ (subscriptTail _ _ (Value.ref _) (Value.int _ _)) _ _ _); k_dflt (refine' Mz.sub_at ?k1_16 ?k2_16 ?k3_16 ?k4_16 ?k5_16 ?k6_16 ?k8_16 ?_ ?k7_16; (case k1_16 => k_asm); (case k2_16 => k_mem); (case k3_16 => with_reducible assumption); (case k4_16 => ksa_idx); (case k5_16 => ksa_idx); (case k6_16 => ksa_idx); (case k7_16 => with_unfolding_all rfl); (case k8_16 => first | with_reducible_and_instances exact Mz.R_g0 | with_reducible_and_instances exact Mz.R_g1 | with_reducible_and_instances exact Mz.R_g6 | with_reducible_and_instances exact Mz.R_g7 | exact Mz.R_g0 | exact Mz.R_g1 | exact Mz.R_g6 | exact Mz.R_g7 | exact rfl); k_whole); intro _)
  k_with "mz lt" => first | exact Mz.Lts.lt (by with_reducible assumption) (by k_mem) | with_reducible assumption | exact Mz.lt_s (by k_extra "mz lt")
  k_with "mz and" => first | exact And.left (by with_reducible assumption) | exact And.left (And.right (by with_reducible assumption)) | exact And.left (And.right (And.right (by with_reducible assumption))) | exact And.left (And.right (And.right (And.right (by with_reducible assumption)))) | exact And.left (And.right (And.right (And.right (And.right (by with_reducible assumption))))) | exact And.left (And.right (And.right (And.right (And.right (And.right (by with_reducible assumption)))))) | exact And.left (And.right (And.right (And.right (And.right (And.right (And.right (by with_reducible assumption))))))) | exact And.right (by with_reducible assumption) | exact And.right (And.right (by with_reducible assumption)) | exact And.right (And.right (And.right (by with_reducible assumption))) | exact And.right (And.right (And.right (And.right (by with_reducible assumption)))) | exact And.right (And.right (And.right (And.right (And.right (by with_reducible assumption))))) | exact And.right (And.right (And.right (And.right (And.right (And.right (by with_reducible assumption))))))
  k_with "mz neq" => first | exact Nat.ne_of_lt (Mz.Lts.lt (by with_reducible assumption) (by k_mem)) | exact Nat.ne_of_gt (Mz.Lts.lt (by with_reducible assumption) (by k_mem)) | exact Mz.Nes.ne (by with_reducible assumption) (by k_mem) | exact Ne.symm (Mz.Nes.ne (by with_reducible assumption) (by k_mem)) | exact Nat.ne_of_lt (by with_reducible assumption) | exact Nat.ne_of_gt (by with_reducible assumption) | exact Nat.ne_of_gt (Mz.lt_s (by k_extra "mz lt")) | exact Nat.ne_of_lt (Mz.lt_s (by k_extra "mz lt")) | exact Nat.ne_of_gt (Mz.lt_tr (by with_reducible assumption) (by k_extra "mz lt")) | exact Nat.ne_of_lt (Mz.lt_tr (by with_reducible assumption) (by k_extra "mz lt")) | exact Mz.NeA.out (by k_extra "mz and") | exact Ne.symm (Mz.NeA.out (by k_extra "mz and"))
  k_with "mz all" => first | exact List.forall_mem_nil _ | ((with_reducible refine Mz.all_cons ?_ ?_); (k_ne); (k_extra "mz all")) | exact OwnOff.ne (by assumption) (by k_memK) | exact Mz.all_cons (by k_ne) (by k_extra "mz all")
  k_with "mz ne" => first | with_reducible assumption | exact Mz.NeA.symm (by with_reducible assumption) | exact Mz.NeA.of (by k_extra "mz neq") | exact Mz.NeA.of (by omega)
  k_with "mz nes" => first | (refine And.intro ?_ ?_; (k_extra "mz ne"); (k_extra "mz nes")) | k_extra "mz ne"
  k_with "mz ksa_idx" => ((rw [Mz.R_len]); decide)
  k_with "mz k_ne" => (refine neN ?_; (try dsimp only); first | exact Mz.NeA.out (by with_reducible assumption) | exact Ne.symm (Mz.NeA.out (by with_reducible assumption)) | k_extra "mz neq" | omega)
  k_with "mz k_all" => first | exact Mz.ne_lts (by with_reducible assumption) (by exact rfl) | exact Mz.ne_nes (by with_reducible assumption) (by exact rfl) | k_extra "mz all"
  k_with "mz enterC" => ((case k6 => k_is); (case k7 => k_is); (case k8 => ktr_room); (case k9 => exact BindsTo.of_eq rfl); (case kB => exact rfl); (case kD => decide +kernel); (case c2 => exact rfl); (case c3 => exact rfl); (case c4 => exact rfl); k_whole; intro g'x L'x h'x tk'x cells'x F'x N'x Y'x B'x X'x T'x lsx l'x hg'x; (try k_lt lsx); k_cells Y'x; (try simp only [List.cons_append, List.nil_append] at N'x); (try dsimp only); (try k_fold))
  k_with "mz:call ref" => (k_here; (with_reducible show wpAny _ _ (call (Value.ref 336) _) _ _ _); k_dflt (refine' Mz.c_draw ?cB ?cF ?cX ?cN ?cT ?ck ?cz ?cu ?h2_49 ?V_49 ?P_49 ?hne_49 ?hm_49 ?_; k_extra "mz ctx"; (case V_49 => k_extra "mz rem"); (case h2_49 => k_mem); (case P_49 => with_reducible assumption); (case hne_49 => k_extra "mz ne"); (case hm_49 => decide); k_whole); intro v9 t9x i9x ti9x r9x ts9x h9x tk9x hv9x P9x F9x N9x; (try dsimp only); (try k_sweep))
  k_with "mz rem2" => first | (refine' Mz.Rem.head ?a_50; (case a_50 => k_all)) | exact Mz.Rem.tl (by k_extra "mz rem2") (by k_ne)
  k_with "mz:CompSrc" => (k_here; k_dflt (refine' Mz.src_draws ?cB_51 ?cX_51 ?cT_51 ?ck_51 ?ccs_51 ?cz_51 ?cu_51 ?sF_51 ?sN_51 ?sV_51 ?sr_51 ?ssm_51 ?sn_51 ?snz_51 ?sg_51 ?sc_51 ?sd_51 ?sP_51 ?sne_51 ?sm_51 ?_; (case cB_51 => k_asm); (case cX_51 => k_asm); (case cT_51 => k_asm); (case ck_51 => exact rfl); (case ccs_51 => exact rfl); (case cz_51 => k_extra "mz dp"); (case cu_51 => k_extra "mz dp"); (case sF_51 => k_asm); (case sN_51 => k_asm); (case sV_51 => k_extra "mz rem2"); (case sr_51 => assumption); (case ssm_51 => decide); (case sn_51 => exact rfl); (case snz_51 => decide); (case sg_51 => k_mem); (case sc_51 => k_mem); (case sd_51 => k_asm); (case sP_51 => with_reducible assumption); (case sne_51 => k_extra "mz ne"); (case sm_51 => decide); k_whole); intro D9 ys9x ns9 i9x r9x ti9x ts9x h9x tk9x hi9x hb9x hl9x P9x F9x N9x o9x; (replace o9x := Mz.nes_of o9x); (try dsimp only [List.map] at o9x); (try dsimp only))
  k_with "mz:eval ListComp" => (k_here; lcf_look; k_dflt (refine LCg.ListComp_U (F₀ := by k_asm) (by with_unfolding_all rfl) (by decide) (by rfl) (by decide) (by rfl) ?_); k_dflt lcg_toSrc)
  k_with "mz:call ref" => (k_here; (with_reducible show wpAny _ _ (call (Value.ref 343) _) _ _ _); k_dflt (refine' Mz.c_lpair ?cB ?cF ?cX ?cN ?cT ?ck ?cz ?cu ?h1_55 ?h2_55 ?h3_55 ?hi_55 ?hl_55 ?hr_55 ?hp_55 ?hx_55 ?_; k_extra "mz ctx"; (case h1_55 => k_mem); (case h2_55 => k_mem); (case hr_55 => k_extra "mz getL"); (case h3_55 => k_mem); (case hi_55 => with_reducible assumption); (case hl_55 => k_extra "mz len"); (case hp_55 => decide); (case hx_55 => first | with_reducible_and_instances exact Mz.lp0 | with_reducible_and_instances exact Mz.lp2 | with_reducible_and_instances exact Mz.lp4 | exact Mz.lp0 | exact Mz.lp2 | exact Mz.lp4); k_whole); intro t9x h9x tk9x F9x N9x; (try dsimp only); (try k_sweep))
  k_with "mz:call ref" => (k_here; (with_reducible show wpAny _ _ (call (Value.ref 355) _) _ _ _); k_dflt (refine' Mz.c_cpu ?cB ?cF ?cX ?cN ?cT ?ck ?cz ?cu ?h2_56 ?V_56 ?P_56 ?hne_56 ?hc_56 ?_; k_extra "mz ctx"; (case V_56 => k_extra "mz rem"); (case h2_56 => k_mem); (case P_56 => with_reducible assumption); (case hne_56 => k_extra "mz ne"); (case hc_56 => omega); k_whole); intro c9 d9 rl9 sl9 es9x n9x vs9 kr9x kz9x zs9x de9 hl9 f9 a9 i9x ti9x r9x ts9x h9x tk9x hz9x hR9x hb9x cd9x P9x nn9x o1x o2x o3x o4x F9x N9x; (clear hz9x); (replace o1x := Mz.nes_of o1x); (replace o2x := Mz.nes_of o2x); (replace o3x := Mz.nes_of o3x); (replace o4x := Mz.nes_of o4x); (try dsimp only [List.map] at o1x o2x o3x o4x); (have gr9x := cd9x.r); (have z9x := cd9x.z); (try dsimp only))
  k_with "mz:call ref" => (k_here; (with_reducible show wpAny _ _ (call (Value.ref 362) _) _ _ _); k_dflt (refine' Mz.c_lflags ?cB ?cF ?cX ?cN ?cT ?ck ?cz ?cu ?h1_57 ?hb_57 ?_; k_extra "mz ctx"; (case h1_57 => k_mem); (case hb_57 => (repeat' (first | exact Mz.BitsAre.nil | (refine' Mz.BitsAre.cons ?ka_57 ?_; (case ka_57 => k_mem))))); k_whole); intro t9x h9x tk9x F9x N9x; (try dsimp only); (try k_sweep))
  k_with "mz:call ref" => (k_here; (with_reducible show wpAny _ _ (call (Value.ref 350) _) _ _ _); refine Mz.halt ?_)
  k_with "mz:exec For Name Call cons nil" => (k_here; (rename Fr _ _ _ _ => lF'x); (with_unfolding_all refine' For_invVF lF'x ?k1_59 ?k2_59 ?_; (case k1_59 => exact rfl); (case k2_59 => exact rfl); k_whole))
  k_with "mz:pyIter ref" => (refine Mz.halt ?_)
  k_with "mz off" => (dsimp only [Mz.Off]; (refine And.intro ?_ (And.intro ?_ (And.intro ?_ (And.intro ?_ ?_)))) <;> k_extra "mz ne")
  k_with "mz sift" => (repeat' ((with_reducible show Mz.Sift _ _ _); first | exact Mz.Sift.nil | (refine' Mz.Sift.dropT ?_) | (refine' Mz.Sift.d_rl ?_) | (refine' Mz.Sift.d_mm ?_) | (refine' Mz.Sift.d_dx ?_) | (refine' Mz.Sift.d_pd ?_) | (refine' Mz.Sift.d_ol ?_) | (refine' Mz.Sift.take (by k_extra "mz off") ?_) | (refine' Mz.Sift.drop ?_)))
  k_with "mz:InvEndN" => (refine Mz.halt ?_)
  k_with "mz:subscriptTail" => (k_here; (with_reducible show wpAny _ _ (subscriptTail _ _ (Value.ref _) (Value.int (Int.fmod _ _) _)) _ _ _); k_dflt (refine' Mz.sub_at ?k1_62 ?k2_62 ?k3_62 ?k4_62 ?k5_62 ?k6_62 ?k8_62 ?_ ?k7_62; (case k1_62 => k_asm); (case k2_62 => k_mem); (case k3_62 => with_reducible assumption); (case k4_62 => ksa_idx); (case k5_62 => ksa_idx); (case k6_62 => ksa_idx); (case k7_62 => with_unfolding_all rfl); (case k8_62 => exact rfl); k_whole); intro _)
  k_with "mz:setItem ref int" => (k_here; (with_reducible show wpAny _ _ (setItem (Value.ref _) (Value.int (Int.fmod _ _) _) (Value.int _ _)) _ _ _); k_dflt (refine' Mz.set_at ?k1_63 ?k2_63 ?k3_63 ?k4_63 ?k5_63 ?k6_63 ?k7_63 ?k8_63 ?_; (case k1_63 => k_asm); (case k2_63 => k_asm); (case k3_63 => k_updF); (case k4_63 => with_reducible assumption); (case k5_63 => ksa_idx); (case k6_63 => ksa_idx); (case k7_63 => ksa_idx); (case k8_63 => exact rfl); k_whole); intro h'x vs'x F'x N'x hi'x hl'x; (try dsimp only at N'x); (try k_sweep))
  k_with "mz ksa_idx" => first | exact (Mz.fm_bd (by decide)).1 | exact Mz.fm_lt (by with_reducible assumption) | exact Mz.fm_fit
  k_with "mz:eval ListComp" => (k_here; (with_reducible show wpAny _ _ (eval (Expr.ListComp (Expr.Call (Expr.Name (Str.ofString "_law_pair") _) _ _ _) _ _ _) _) _ _ _); lcf_look; k_dflt ((refine' Mz.ListComp_T ?l0_67 ?l1_67 ?l2_67 ?l3_67 ?l4_67 ?l5_67 ?_ ?l7_67; (case l0_67 => k_asm); (case l1_67 => with_unfolding_all rfl); (case l2_67 => decide); (case l3_67 => rfl); (case l4_67 => decide); (case l5_67 => rfl); (case l7_67 => exact fun _ => rfl); skip); (repeat (first | walk1 | (dsimp only; walk1))); (with_unfolding_all refine' Mz.src_pairs ?cB_67 ?cX_67 ?cT_67 ?ck_67 ?ccs_67 ?cz_67 ?cu_67 ?sF_67 ?sN_67 ?sm_67 ?sk_67 ?sb_67 ?sl_67 ?h1_67 ?h2_67 ?h3_67 ?hi_67 ?hl_67 ?hr_67 ?hc_67 ?hd_67 ?_); (case cB_67 => k_asm); (case cX_67 => k_asm); (case cT_67 => k_asm); (case ck_67 => exact rfl); (case ccs_67 => exact rfl); (case cz_67 => k_extra "mz dp"); (case cu_67 => k_extra "mz dp"); (case sF_67 => k_asm); (case sN_67 => k_asm); (case sm_67 => k_mem); (case sk_67 => (repeat' (first | exact IntsAre.nil | refine' IntsAre.cons _ _ ?_))); (case sb_67 => decide); (case sl_67 => exact Nat.le_of_ble_eq_true rfl); (case h1_67 => k_mem); (case h2_67 => k_mem); (case hr_67 => k_extra "mz getL"); (case h3_67 => k_mem); (case hi_67 => with_reducible assumption); (case hl_67 => k_extra "mz len"); (case hc_67 => k_mem); (case hd_67 => k_asm); intro D9x ys9x h9x tk9x hi9x F9x N9x o9x; (replace o9x := Mz.nes_of o9x); (try dsimp only [List.map] at o9x); (simp only [Mz.lp_024, Mz.lp_04] at hi9x); (try dsimp only)))
  k_with "mz:eval IfExp" => (goal_lacks Mz.WayQ; k_here; (with_reducible show wpAny _ _ (eval (Expr.IfExp (Expr.Compare (Expr.Name (Str.ofString "way") _) _ _ _) (Expr.Constant (Const.int _) _ _) (Expr.Constant (Const.int _) _ _) _) _) _ _ _); k_dflt ((refine' Mz.way_cut way ?wa_70 ?_); (case wa_70 => ((k_extra "mz steps"); (all_goals first | exact Mz.WayQ.one (by omega) | exact Mz.WayQ.two (by omega)))); intro oct9 t9x tk9x ho9; (try dsimp only)))
  k_with "mz:eval IfExp" => (goal_lacks Mz.ManyQ; k_here; (with_reducible show wpAny _ _ (eval (Expr.IfExp (Expr.Compare (Expr.Name (Str.ofString "a") _) _ _ _) _ _ _) _) _ _ _); k_dflt ((refine' Mz.many_cutF ns9 hl9 way ?mF_71 ?ma_71 ?mc_71 ?wa_71 ?_); (case mF_71 => k_asm); (case ma_71 => exact rfl); (case mc_71 => exact rfl); (case wa_71 => ((k_extra "mz steps"); (all_goals first | exact Mz.ManyQ.found (Int.toNat_of_nonneg (by omega)).symm (by assumption) | exact Mz.ManyQ.none (Int.toNat_of_nonneg (by omega)).symm (by omega) (by assumption)))); intro many9 t9x tk9x hm9; (try dsimp only)))
  k_with "mz:call builtin:list.index" => ((with_reducible show wpAny _ _ (call (Value.builtin _) [Value.ref _, Value.int _ _]) _ _ _); refine index_list_ints (by assumption) (by assumption) (Mz.lay_many (by assumption) (by omega)) (Mz.any_mem (by assumption)) ?_)
  k_with "mz:subscriptTail" => (k_here; (with_reducible show wpAny _ _ (subscriptTail _ (Expr.BinOp _ _ _ _) (Value.ref _) (Value.int _ _)) _ _ _); k_dflt (refine' Mz.sub_at ?k1_73 ?k2_73 ?k3_73 ?k4_73 ?k5_73 ?k6_73 ?k8_73 ?_ ?k7_73; (case k1_73 => k_asm); (case k2_73 => k_mem); (case k3_73 => with_reducible assumption); (case k4_73 => omega); (case k5_73 => (rw [List.length_map, List.length_range]; omega)); (case k6_73 => omega); (case k7_73 => with_unfolding_all rfl); (case k8_73 => exact Mz.many_getD (by omega)); k_whole); intro _)
  k_with "mz:setItem ref int" => (k_here; (with_reducible show wpAny _ _ (setItem (Value.ref _) (Value.int 1 _) (Value.int _ _)) _ _ _); k_dflt (refine' Mz.set_at ?k1_74 ?k2_74 ?k3_74 ?k4_74 ?k5_74 ?k6_74 ?k7_74 ?k8_74 ?_; (case k1_74 => k_asm); (case k2_74 => k_asm); (case k3_74 => k_updF); (case k4_74 => with_reducible assumption); (case k5_74 => ksa_idx); (case k6_74 => ksa_idx); (case k7_74 => ksa_idx); (case k8_74 => exact Mz.R_s1 (by with_reducible assumption)); k_whole); intro h'x vs'x F'x N'x hi'x hl'x; (try dsimp only at N'x); (try k_sweep))
  k_with "mz:subscriptTail" => (k_here; (with_reducible show wpAny _ _ (subscriptTail _ _ (Value.ref _) (Value.int 1 _)) _ _ _); k_dflt (refine' Mz.sub_at ?k1_75 ?k2_75 ?k3_75 ?k4_75 ?k5_75 ?k6_75 ?k8_75 ?_ ?k7_75; (case k1_75 => k_asm); (case k2_75 => k_mem); (case k3_75 => with_reducible assumption); (case k4_75 => ksa_idx); (case k5_75 => ksa_idx); (case k6_75 => ksa_idx); (case k7_75 => with_unfolding_all rfl); (case k8_75 => exact Mz.R_g1x (by with_reducible assumption)); k_whole); intro _)
  k_with "mz:CompSrc" => (k_here; k_dflt (refine' Mz.src_draws (n := 4) ?cB_76 ?cX_76 ?cT_76 ?ck_76 ?ccs_76 ?cz_76 ?cu_76 ?sF_76 ?sN_76 ?sV_76 ?sr_76 ?ssm_76 ?sn_76 ?snz_76 ?sg_76 ?sc_76 ?sd_76 ?sP_76 ?sne_76 ?sm_76 ?_; (case cB_76 => k_asm); (case cX_76 => k_asm); (case cT_76 => k_asm); (case ck_76 => exact rfl); (case ccs_76 => exact rfl); (case cz_76 => k_extra "mz dp"); (case cu_76 => k_extra "mz dp"); (case sF_76 => k_asm); (case sN_76 => k_asm); (case sV_76 => k_extra "mz rem2"); (case sr_76 => assumption); (case ssm_76 => decide); (case sn_76 => exact rfl); (case snz_76 => decide); (case sg_76 => k_mem); (case sc_76 => k_mem); (case sd_76 => k_asm); (case sP_76 => with_reducible assumption); (case sne_76 => k_extra "mz ne"); (case sm_76 => decide); k_whole); intro I9 ys9x is9 i9x r9x ti9x ts9x h9x tk9x hi9x hb9x hl9x P9x F9x N9x o9x; (replace o9x := Mz.nes_of o9x); (try dsimp only [List.map] at o9x); (try dsimp only))
  k_with "mz:call type:range" => (k_here; (rename Fr _ _ _ _ => fF'x); (rename News _ _ _ _ => nN'x); (with_unfolding_all refine range1_rows fF'x nN'x ?_); intro _ _ _ _ _ _ _ _ _)
  k_with "mz ksa_idx" => first | exact (Mz.fm_bd (by decide)).1 | exact Mz.fm_lt (by with_reducible assumption) | exact Mz.fm_fit | exact Mz.fm_lt4 (by assumption) | exact Mz.fm_fit4
  k_with "mz:CompSrc BinOp cons ref" => (k_here; k_dflt ((with_unfolding_all refine' Mz.src_ones ?cB_83 ?cX_83 ?cT_83 ?ck_83 ?e1_83 ?sF_83 ?sN_83 ?sr_83 ?h1_83 ?d1_83 ?_); (case cB_83 => k_asm); (case cX_83 => k_asm); (case cT_83 => k_asm); (case ck_83 => exact rfl); (case e1_83 => exact rfl); (case sF_83 => k_asm); (case sN_83 => k_asm); (case sr_83 => assumption); (case h1_83 => k_mem); (case d1_83 => k_asm); intro D9x ys9x h9x tk9x hO9x F9x N9x o9x; (replace o9x := Mz.nes_of o9x); (try dsimp only [List.map] at o9x); (try dsimp only)))
  k_with "mz:call ref" => (k_here; (with_reducible show wpAny _ _ (call (Value.ref 343) [_, Value.int 0 _]) _ _ _); k_dflt (refine' Mz.c_lpair ?cB ?cF ?cX ?cN ?cT ?ck ?cz ?cu ?h1_84 ?h2_84 ?h3_84 ?hi_84 ?hl_84 ?hr_84 ?hp_84 ?hx_84 ?_; k_extra "mz ctx"; (case h1_84 => k_mem); (case h2_84 => k_mem); (case hr_84 => k_extra "mz getL"); (case h3_84 => k_mem); (case hi_84 => with_reducible assumption); (case hl_84 => k_extra "mz len"); (case hp_84 => decide); (case hx_84 => exact Mz.lp0); k_whole); intro t9x h9x tk9x F9x N9x; (try dsimp only); (try k_sweep))
  k_with "mz:call ref" => (k_here; (with_reducible show wpAny _ _ (call (Value.ref 343) [_, Value.int 2 _]) _ _ _); k_dflt (refine' Mz.c_lpair ?cB ?cF ?cX ?cN ?cT ?ck ?cz ?cu ?h1_85 ?h2_85 ?h3_85 ?hi_85 ?hl_85 ?hr_85 ?hp_85 ?hx_85 ?_; k_extra "mz ctx"; (case h1_85 => k_mem); (case h2_85 => k_mem); (case hr_85 => k_extra "mz getL"); (case h3_85 => k_mem); (case hi_85 => with_reducible assumption); (case hl_85 => k_extra "mz len"); (case hp_85 => decide); (case hx_85 => exact Mz.lp2); k_whole); intro t9x h9x tk9x F9x N9x; (try dsimp only); (try k_sweep))
  k_with "mz:call ref" => (k_here; (with_reducible show wpAny _ _ (call (Value.ref 343) [_, Value.int 4 _]) _ _ _); k_dflt (refine' Mz.c_lpair ?cB ?cF ?cX ?cN ?cT ?ck ?cz ?cu ?h1_86 ?h2_86 ?h3_86 ?hi_86 ?hl_86 ?hr_86 ?hp_86 ?hx_86 ?_; k_extra "mz ctx"; (case h1_86 => k_mem); (case h2_86 => k_mem); (case hr_86 => k_extra "mz getL"); (case h3_86 => k_mem); (case hi_86 => with_reducible assumption); (case hl_86 => k_extra "mz len"); (case hp_86 => decide); (case hx_86 => exact Mz.lp4); k_whole); intro t9x h9x tk9x F9x N9x; (try dsimp only); (try k_sweep))
  trivial
namespace Mz
section
variable {w : World} {dp un : Nat} {gd : Option (List Code)} {cn : Str} {cs : Scope} {a : Addr} {ccd : Value} {cl : List (Str × Addr)} {outer : List Env} {A₀ : Around} {base h₀ : Heap} {L : Addr} {m mg mb : Str → Option Value} {mean : ExcName → Option Value}
  {led : List (Addr × Obj)} {s : Shared} {Q E : Value → Shared → Prop}
  (B : Below A₀ base outer h₀) (F : Fr h₀ L s.heap m) (X : (hd.heap_39 w.params).In h₀) (N : News h₀ L s.heap led) (T : Top hd.view_39 LO mean mg mb h₀) (hk : cs.kind = .function) (hz : dp + 20 < 900) (hu : un + 200 < 2000)
include B F X N T hk hz hu
theorem c_in {pl gl : Addr} {k kg : Nat} {gv : List Value} {gs : List Int} {i r way : Int} {ti ts tw : Tok} {l1 : List (Addr × Obj)}
    (h2 : (gl, listOf gv.toArray kg) ∈ led) (V : Rem pl (listOf [.ref gl, .int i ti, .int r ts].toArray k) led l1) (P : PoolV gl gs gv i r) (hne : NeA pl gl) (hw : way = 1 ∨ way = -1)
    (ret : ∀ i' ti' r' ts' h' tk', PoolV gl gs gv i' r' → Fr h₀ L h' m → News h₀ L h' ((pl, listOf [.ref gl, .int i' ti', .int r' ts'].toArray k) :: l1) → Q (.bool true) { s with heap := h', toks := tk' }) :
    wpAny (model PR w) (ktrTop dp un gd cn cs L a ccd cl outer) (call (.ref 377) [.ref pl, .int way tw, .bool true]) Q E s := by
  have h1 := V.mem
  refine wpAny_call ?_
  k_dflt (refine' code_inC (K := hd.heap_39 w.params) (small := [(pl, listOf [.ref gl, .int i ti, .int r ts].toArray k), (gl, listOf gv.toArray kg)]) B F X N T (sub_cons h1 (sub_cons h2 sub_nil)) rfl rfl hk ?k6 ?k7 ?k8 ?k9 ?kB ?kD ?_ ?c2 ?c3 ?c4)
  k_extra "mz enterC"
  k_extra "mz steps"
  refine unhalt ?_
  (with_reducible rename IntsAre _ (R _ _ _ _ _) => hR)
  (with_reducible rename PoolV gl gs gv _ _ => P9)
  (with_reducible rename IntsAre _ ns9 => hN)
  (with_reducible rename IntsAre _ is9 => hI)
  (with_reducible rename CpuD _ _ _ => cd9)
  have hb9 : ∀ x ∈ ns9, 0 ≤ x ∧ x < 256 := by with_reducible assumption
  have hib : ∀ x ∈ is9, 0 ≤ x ∧ x < 256 := by with_reducible assumption
  have hlen : ns9.length = 64 := by assumption
  have his : is9.length = 4 := by assumption
  refine' range_in (inD is9 ns9 hl9 way) ?k1 ?k2 ?k4 ?k5 ?k6 ?k7 ?k8 ?k9 ?k10 ?turn ?done
  case k1 => exact rfl
  case k6 => k_asm
  case k2 => exact rfl
  case k4 => assumption
  case k5 => exact ⟨(Int.toNat_of_nonneg (by omega)).symm, by omega⟩
  case k7 => k_asm
  case k8 => k_extra "mz rem2"
  case k9 => exact hN
  case k10 => exact rfl
  case turn =>
    rintro ⟨ds, dv⟩ pre k t u h tk own hk hlt hoff hf hp F8 N8
    dsimp only at hf hp N8 F8
    have hlen2 : ds.length = 64 := by rw [hp, inD_len]; exact hlen
    k_extra "mz steps"
    refine unhalt ?_
    (with_reducible rename News _ _ _ _ => N9)
    (with_reducible rename Fr _ _ _ _ => F9)
    exact in_end F9 N9 (by with_reducible assumption) (by intro z h1 h2; simp only [h1, h2, if_false]) (inD_next hp hk)
  case done =>
    rintro ⟨ds, dv⟩ u h tk hf hp F8 N8
    dsimp only at hf hp N8 F8
    have hlen2 : ds.length = 64 := by rw [hp, inD_len]; exact hlen
    obtain ⟨hx, hgo, hn1, hnn⟩ := in_pack (way := way) hR hI his hib hlen (by omega) (by omega) (by omega) hp
    k_extra "mz steps"
    replace ho9 := oct_facts8 (b := 178) (z := 2) ho9 ⟨by decide, by decide, ⟨by decide, by decide, by decide⟩, by decide⟩ ⟨by decide, by decide, ⟨by decide, by decide, by decide⟩, by decide⟩
    obtain ⟨ez9, es9, ok9, rep9⟩ := ho9
    obtain ⟨tp, gp⟩ := cd9.pc
    refine unhalt ?_
    k_here
    refine' c_roundsL (z := 2) (st := way) ?cB ?cF ?cX ?cN ?cT ?ck ?cz ?cu ?h1 ?h2 ?gr ?h3 ?h4 ?h5 ?h6 ?gi ?go ?ga ?h7 ?h8 gp cd9.z ?zp hR hN hI hlen hb9 ?ib ?il ?hb ?D ez9 es9 hn1 ?hn ?hin ok9 rep9 hgo hx ?Z ?_
    k_extra "mz ctx"
    case h1 => k_mem
    case h2 => k_mem
    case gr => exact cd9.r
    case h3 => k_mem
    case h4 => k_mem
    case h5 => k_mem
    case h6 => k_mem
    case gi => exact rfl
    case go => exact rfl
    case ga => exact rfl
    case h7 => k_mem
    case h8 => k_mem
    case zp => exact Nat.le_of_ble_eq_true rfl
    case ib => exact hib
    case il => omega
    case hb => omega
    case D => dsimp only [Dist]; k_extra "mz nes"
    case hn => exact hnn
    case hin => exact fun _ => by omega
    case Z => k_extra "mz sift"
    intro led2 es2 en2 vs2 k2 mv2 km2 pes2 pn2 iv2 ov2 ko2 q2 t12 t22 h92 tk92 F92 N92 V92 O92 N93 ne92
    replace ne92 := Mz.nes_of ne92
    dsimp only [List.map] at ne92
    have gr2 := V92.gr
    have go2 := V92.go
    have ze2 := V92.ze
    have zp2 := V92.zp
    have hR2 := V92.ir
    have hM2 := V92.im
    dsimp only at hR2 hM2 N92 gr2 ze2 go2 zp2
    obtain rfl := outs_nil O92
    clear N93
    k_extra "mz steps"
    (with_reducible rename News _ _ _ _ => N99)
    (with_reducible rename Fr _ _ _ _ => F99)
    refine' back_ (led' := (pl, _) :: l1) F99 N99 ?hl ?rr
    case hl =>
      refine' ups_led N (Ups.rem1 V) (sub_cons h1 (sub_cons h2 sub_nil)) (one_mem ?km) ?kk
      case km => k_mem
      case kk => k_extra "mz keeps"
    case rr =>
      intro kF kN
      refine retB ?_ (ret _ _ _ _ _ _ P9 kF kN)
      rw [fm16]
      exact (beq_self_eq_true _).symm
end
end Mz

section
local macro_rules | `(tactic| k_lt $h:ident) => `(tactic| ((have lts9 := Mz.lts_of $h); (try dsimp only [List.map] at lts9); replace $h := allLt_of $h; (try simp only [AllLt, and_true] at $h:ident)))
example : True := by
  k_with "mz:TbEnd" => (refine Mz.halt ?_)
  k_with "mz:call builtin:list.append" => (refine Mz.halt ?_)
  k_with "mz tups" => (refine' Mz.TupsIn.mono ?ta_89 ?tb_89; (case ta_89 => with_reducible assumption); (case tb_89 => (intro px hpx; repeat (first | exact List.mem_append_left _ hpx | exact List.mem_append_right _ hpx | refine List.Mem.tail _ ?_))))
  k_with "mz:compareOp NotEq ref ref" => (k_here; (with_reducible show wpAny _ _ (compareOp CmpOp.NotEq (Value.ref _) (Value.ref _)) _ _ _); k_dflt (refine' Mz.outs_ne ?n1_90 ?n2_90 ?h1_90 ?h2_90 ?t1_90 ?t2_90 ?hu_90 ?_; (case n1_90 => k_asm); (case n2_90 => k_asm); (case h1_90 => k_mem); (case h2_90 => k_mem); (case t1_90 => k_extra "mz tups"); (case t2_90 => k_extra "mz tups"); (case hu_90 => ke_room); k_whole))
  k_with "mz allne" => first | assumption | exact List.forall_mem_nil _ | (refine List.forall_mem_cons.mpr (And.intro ?_ ?_); (k_ne); (k_extra "mz allne"))
  k_with "mz upd" => first | (refine' UpdF.head ?a_92; (case a_92 => k_extra "mz allne")) | exact Mz.updf_tl (by k_extra "mz upd") (by k_ne)
  k_with "mz:storeName" => (k_here; (with_reducible show wpAny _ _ (storeName _ (Str.ofString "k") _) _ _ _); k_dflt (refine' storeX_C ?F_93 ?N_93 ?c_93 ?U_93 ?d_93 ?_ ?a_93 ?b_93; (case a_93 => rfl); (case b_93 => rfl); (case F_93 => k_asm); (case N_93 => k_asm); (case c_93 => rfl); (case U_93 => k_extra "mz upd"); (case d_93 => k_asm); k_whole); intro h'x o'x F'x N'x d'x; (try dsimp only at N'x); (try k_sweep))
  trivial
namespace Mz
section
variable {w : World} {dp un : Nat} {gd : Option (List Code)} {cn : Str} {cs : Scope} {a : Addr} {ccd : Value} {cl : List (Str × Addr)} {outer : List Env} {A₀ : Around} {base h₀ : Heap} {L : Addr} {m mg mb : Str → Option Value} {mean : ExcName → Option Value}
  {led : List (Addr × Obj)} {s : Shared} {Q E : Value → Shared → Prop}
  (B : Below A₀ base outer h₀) (F : Fr h₀ L s.heap m) (X : (hd.heap_39 w.params).In h₀) (N : News h₀ L s.heap led) (T : Top hd.view_39 LO mean mg mb h₀) (hk : cs.kind = .function) (hz : dp + 20 < 900) (hu : un + 200 < 2000)
include B F X N T hk hz hu
theorem c_out {pl gl : Addr} {k kg : Nat} {gv : List Value} {gs : List Int} {i r way : Int} {ti ts tw : Tok} {l1 : List (Addr × Obj)}
    (h2 : (gl, listOf gv.toArray kg) ∈ led) (V : Rem pl (listOf [.ref gl, .int i ti, .int r ts].toArray k) led l1) (P : PoolV gl gs gv i r) (hne : NeA pl gl) (hw : way = 1 ∨ way = -1)
    (ret : ∀ i' ti' r' ts' h' tk', PoolV gl gs gv i' r' → Fr h₀ L h' m → News h₀ L h' ((pl, listOf [.ref gl, .int i' ti', .int r' ts'].toArray k) :: l1) → Q (.bool true) { s with heap := h', toks := tk' }) :
    wpAny (model PR w) (ktrTop dp un gd cn cs L a ccd cl outer) (call (.ref 377) [.ref pl, .int way tw, .bool false]) Q E s := by
  have h1 := V.mem
  refine wpAny_call ?_
  k_dflt (refine' code_inC (K := hd.heap_39 w.params) (small := [(pl, listOf [.ref gl, .int i ti, .int r ts].toArray k), (gl, listOf gv.toArray kg)]) B F X N T (sub_cons h1 (sub_cons h2 sub_nil)) rfl rfl hk ?k6 ?k7 ?k8 ?k9 ?kB ?kD ?_ ?c2 ?c3 ?c4)
  k_extra "mz enterC"
  k_extra "mz steps"
  refine unhalt ?_
  (with_reducible rename IntsAre _ (R _ _ _ _ _) => hR)
  (with_reducible rename PoolV gl gs gv _ _ => P9)
  (with_reducible rename IntsAre _ ns9 => hN)
  (with_reducible rename IntsAre _ is9 => hI)
  (with_reducible rename CpuD _ _ _ => cd9)
  have hb9 : ∀ x ∈ ns9, 0 ≤ x ∧ x < 256 := by with_reducible assumption
  have hib : ∀ x ∈ is9, 0 ≤ x ∧ x < 256 := by with_reducible assumption
  have hlen : ns9.length = 64 := by assumption
  have his : is9.length = 4 := by assumption
  refine' range_out (outD ns9 v9 hl9 way) ?k1 ?k2 ?k4 ?k5 ?k6 ?k7 ?k8 ?k10 ?turn ?done
  case k1 => exact rfl
  case k6 => k_asm
  case k2 => exact rfl
  case k4 => assumption
  case k5 => exact ⟨(Int.toNat_of_nonneg (by omega)).symm, by omega⟩
  case k7 => k_asm
  case k8 => k_extra "mz rem2"
  case k10 => exact rfl
  case turn =>
    intro i k t u h tk own ov k' tl hk hlt hoff hT hTl hap F8 N8
    have hov : ov.length ≤ 1000 := by rw [hT.1, outD_len]; omega
    k_extra "mz steps"
    refine unhalt ?_
    (with_reducible rename News _ _ _ _ => N9)
    (with_reducible rename Fr _ _ _ _ => F9)
    (with_reducible rename _ < _ ∧ AllLt _ _ => hlt9)
    refine append_in2 (own := []) F9 N9 (fun _ h => nomatch h) (Nat.ne_of_gt hlt9.1) hap (fun h' F' N' => ?_) (Nat.le_trans hov (by decide))
    simp only [List.nil_append] at N'
    clear N9 F9
    k_extra "mz steps"
    refine unhalt ?_
    (with_reducible rename News _ _ _ _ => N9)
    (with_reducible rename Fr _ _ _ _ => F9)
    exact out_end F9 N9 hT (by rw [fm64, hk]; rfl) hoff hlt9.2 hlt9.1 hTl (by intro z h1 h2; simp only [h1, h2, if_false])
  case done =>
    intro u h tk ov k' tl hT hTl F8 N8
    simp only [List.cons_append, List.nil_append] at N8
    obtain ⟨hx, hgo, hn1, hnn⟩ := out_last (way := way) (is := is9) hR hb9 (by omega) (by omega) (by omega)
    k_extra "mz steps"
    replace ho9 := oct_facts8 (b := 179) (z := 3) ho9 ⟨by decide, by decide, ⟨by decide, by decide, by decide⟩, by decide⟩ ⟨by decide, by decide, ⟨by decide, by decide, by decide⟩, by decide⟩
    obtain ⟨ez9, es9, ok9, rep9⟩ := ho9
    obtain ⟨tp, gp⟩ := cd9.pc
    refine unhalt ?_
    k_here
    refine' c_roundsL (z := 3) (st := way) ?cB ?cF ?cX ?cN ?cT ?ck ?cz ?cu ?h1 ?h2 ?gr ?h3 ?h4 ?h5 ?h6 ?gi ?go ?ga ?h7 ?h8 gp cd9.z ?zp hR hN hI hlen hb9 ?ib ?il ?hb ?D ez9 es9 hn1 ?hn ?hin ok9 rep9 hgo hx ?Z ?_
    k_extra "mz ctx"
    case h1 => k_mem
    case h2 => k_mem
    case gr => exact cd9.r
    case h3 => k_mem
    case h4 => k_mem
    case h5 => k_mem
    case h6 => k_mem
    case gi => exact rfl
    case go => exact rfl
    case ga => exact rfl
    case h7 => k_mem
    case h8 => k_mem
    case zp => exact Nat.le_of_ble_eq_true rfl
    case ib => exact hib
    case il => omega
    case hb => omega
    case D => dsimp only [Dist]; k_extra "mz nes"
    case hn => exact hnn
    case hin => exact fun _ => by omega
    case Z =>
      k_extra "mz sift"
      any_goals (refine' Mz.sift_all (Mz.tl_off hTl ?r1 ?r2 ?r3 ?r4 ?r5))
      all_goals (try k_mem)
    intro led2 es2 en2 vs2 k2 mv2 km2 pes2 pn2 iv2 ov2 ko2 q2 t12 t22 h92 tk92 F92 N92 V92 O92 N93 ne92
    replace ne92 := Mz.nes_of ne92
    dsimp only [List.map] at ne92
    have gr2 := V92.gr
    have go2 := V92.go
    have ze2 := V92.ze
    have zp2 := V92.zp
    have hR2 := V92.ir
    have hM2 := V92.im
    dsimp only at hR2 hM2 N92 gr2 ze2 go2 zp2
    have hT2 := tups_filter O92.tups
    dsimp only at hT2
    (with_reducible rename Obj.data _ = Data.cell (bindC _ _ _ (Str.ofString "k")) => hcell)
    have hne3 := tup_ne N92 (by k_mem) hcell (kst_newsOf N93 fun p hp => .tail _ hp)
    have hne2 := app_ne (tl_ne hTl (by k_mem)) hne3
    have N94 := news_filter N92 N93
    simp only [List.cons_append, List.nil_append, List.append_assoc] at N94
    clear N92 N93 V92 O92
    k_extra "mz steps"
    (with_reducible rename News _ _ _ _ => N99)
    (with_reducible rename Fr _ _ _ _ => F99)
    refine' back_ (led' := (pl, _) :: l1) F99 N99 ?hl ?rr
    case hl =>
      refine' ups_led N (Ups.rem1 V) (sub_cons h1 (sub_cons h2 sub_nil)) (one_mem ?km) ?kk
      case km => k_mem
      case kk => k_extra "mz keeps"
    case rr =>
      intro kF kN
      refine retB ?_ (ret _ _ _ _ _ _ P9 kF kN)
      rw [fm16]
      exact (beq_self_eq_true _).symm
end
end Mz

end
end
namespace Mz
theorem way_menu {v : Int} (h : 0 ≤ v ∧ v < 2) : ([1, 0 - 1] : List Int).getD v.toNat 0 = 1 ∨ ([1, 0 - 1] : List Int).getD v.toNat 0 = -1 := by
  obtain ⟨i, rfl⟩ := fin_of (n := 2) h
  revert i
  decide +kernel
theorem way_menu_neg {v : Int} (h : 0 ≤ v ∧ v < 2) : 0 - ([1, 0 - 1] : List Int).getD v.toNat 0 = 1 ∨ 0 - ([1, 0 - 1] : List Int).getD v.toNat 0 = -1 := by
  obtain ⟨i, rfl⟩ := fin_of (n := 2) h
  revert i
  decide +kernel
section
variable {w : World} {dp un : Nat} {gd : Option (List Code)} {cn : Str} {cs : Scope} {a : Addr} {ccd : Value} {cl : List (Str × Addr)} {outer : List Env} {A₀ : Around} {base h₀ : Heap} {L : Addr} {m mg mb : Str → Option Value} {mean : ExcName → Option Value}
  {led : List (Addr × Obj)} {s : Shared} {Q E : Value → Shared → Prop}
  (B : Below A₀ base outer h₀) (F : Fr h₀ L s.heap m) (X : (hd.heap_39 w.params).In h₀) (N : News h₀ L s.heap led) (T : Top hd.view_39 LO mean mg mb h₀) (hk : cs.kind = .function) (hz : dp + 20 < 900) (hu : un + 200 < 2000)
include B F X N T hk hz hu
theorem c_ports {b : Bool} {pl gl : Addr} {k kg : Nat} {gv : List Value} {gs : List Int} {i r way : Int} {ti ts tw : Tok} {l1 : List (Addr × Obj)}
    (h2 : (gl, listOf gv.toArray kg) ∈ led) (V : Rem pl (listOf [.ref gl, .int i ti, .int r ts].toArray k) led l1) (P : PoolV gl gs gv i r) (hne : NeA pl gl) (hw : way = 1 ∨ way = -1)
    (ret : ∀ i' ti' r' ts' h' tk', PoolV gl gs gv i' r' → Fr h₀ L h' m → News h₀ L h' ((pl, listOf [.ref gl, .int i' ti', .int r' ts'].toArray k) :: l1) → Q (.bool true) { s with heap := h', toks := tk' }) :
    wpAny (model PR w) (ktrTop dp un gd cn cs L a ccd cl outer) (call (.ref 377) [.ref pl, .int way tw, .bool b]) Q E s := by
  cases b
  · exact c_out B F X N T hk hz hu h2 V P hne hw ret
  · exact c_in B F X N T hk hz hu h2 V P hne hw ret
end
end Mz

section
local macro_rules | `(tactic| k_room) => `(tactic| ktr_room)
local macro_rules | `(tactic| k_qdec) => `(tactic| decide +kernel)
example : True := by
  k_with_none
  k_with "mz enter" => ((case k6 => k_is); (case k7 => k_is); (case k8 => ktr_room); (case k9 => exact BindsTo.of_eq rfl); (case c5 => decide); (case kB => exact locs rfl); (case c2 => exact rfl); (case c3 => exact rfl); (case c4 => exact rfl); k_whole; intro g'x L'x h'x tk'x F'x N'x B'x X'x T'x l'x hg'x; (try dsimp only); (try k_fold))
  k_with "mz steps" => repeat' (first | (k_unfold; (try dsimp only)) | (walk1; (try dsimp only)) | (dsimp only; walk1) | (dsimp only; k_unfold; (try dsimp only)) | (k_unmd; k_unfold; (try dsimp only)))
  k_with "mz keeps" => first | exact Mz.keeps_nil | (refine Mz.keeps_cons ?_ ?_; (first | (refine Or.inl ?_; k_mem) | exact Or.inr ⟨_, .head _, rfl⟩ | exact Or.inr ⟨_, .tail _ (.head _), rfl⟩ | exact Or.inr ⟨_, .tail _ (.tail _ (.head _)), rfl⟩ | exact Or.inr ⟨_, .tail _ (.tail _ (.tail _ (.head _))), rfl⟩ | exact Or.inr ⟨_, .tail _ (.tail _ (.tail _ (.tail _ (.head _)))), rfl⟩); k_extra "mz keeps")
  k_with "mz:ite" => first | refine Mz.beq_pos (by omega) ?_ | refine Mz.beq_neg (by omega) ?_ | refine Mz.bne_pos (by omega) ?_ | refine Mz.bne_neg (by omega) ?_ | refine Mz.dec_pos (by omega) ?_ | refine Mz.dec_neg (by omega) ?_
  k_with "mz:binaryOp LShift int int" => refine lshift_int_small (by decide) (by decide) (Mz.sh8' (by assumption)) ?_
  k_with "mz:setItem ref int" => (k_here; (with_reducible show wpAny _ _ (setItem (Value.ref _) (Value.int _ _) (Value.int _ _)) _ _ _); k_dflt (refine' Mz.set_at ?k1_6 ?k2_6 ?k3_6 ?k4_6 ?k5_6 ?k6_6 ?k7_6 ?k8_6 ?_; (case k1_6 => k_asm); (case k2_6 => k_asm); (case k3_6 => k_updF); (case k4_6 => with_reducible assumption); (case k5_6 => ksa_idx); (case k6_6 => ksa_idx); (case k7_6 => ksa_idx); (case k8_6 => first | exact Mz.R_s6 | exact Mz.R_s0b | exact Mz.R_s0 | exact rfl); k_whole); intro h'x vs'x F'x N'x hi'x hl'x; (try dsimp only at N'x); (try k_sweep))
  k_with "mz dp" => ((try dsimp only [ktrTop, Around.deeper]); first | exact Mz.dp2 (by with_reducible assumption) rfl | exact Mz.dp1 (by with_reducible assumption) rfl | omega)
  k_with "mz ctx" => ((case cB => k_asm); (case cF => k_asm); (case cX => k_asm); (case cN => k_asm); (case cT => k_asm); (case ck => exact rfl); (case cz => k_extra "mz dp"); (case cu => k_extra "mz dp"))
  k_with "mz ifs" => ((repeat' split) <;> first | with_reducible rfl | (exfalso; first | contradiction | omega))
  k_with "mz rem" => first | (refine' Mz.Rem.head ?a_10; (case a_10 => k_all)) | (refine' Mz.Rem.tail ?a_10 ?b_10; (case a_10 => k_ne); (case b_10 => k_extra "mz rem"))
  k_with "mz len" => first | with_reducible assumption | exact Mz.R_len | with_reducible exact Mz.setPr_len (by k_extra "mz len")
  k_with "mz byt" => first | with_reducible assumption | exact Mz.R_byt (by omega) (by omega) (by omega) | with_reducible exact Mz.setPr_byt (by k_extra "mz byt")
  k_with "mz getL" => first | with_reducible assumption | (refine' Mz.getL_oth ?ga_13 ?gb_13 ?gc_13; (case ga_13 => with_reducible assumption); (case gb_13 => decide +kernel); (case gc_13 => k_extra "mz getL"))
  k_with "mz:getAttr ref" => (k_here; k_dflt (refine' get_own ?k1_14 ?k2_14 ?k3_14 ?k4_14 ?k5_14 ?k6_14 ?k7_14 ?k8_14 ?k9_14 ?_; (case k1_14 => k_asm); (case k2_14 => k_asm); (case k3_14 => k_inst); (case k4_14 => k_is); (case k5_14 => k_is); (case k6_14 => k_is); (case k7_14 => k_is); (case k8_14 => k_extra "mz getL"); (case k9_14 => k_handed); k_whole))
  k_with "mz:setAttr ref" => (k_here; k_dflt (refine' Mz.set_own ?k1_15 ?k2_15 ?k3_15 ?k4_15 ?k5_15 ?k6_15 ?k7_15 ?k8_15 ?k9_15 ?k10_15 ?k11_15 ?k12_15 ?_; (case k1_15 => k_asm); (case k2_15 => k_asm); (case k3_15 => k_asm); (case k4_15 => k_inst); (case k5_15 => exact rfl); (case k6_15 => k_is); (case k7_15 => k_is); (case k8_15 => k_is); (case k9_15 => k_is); (case k10_15 => k_extra "mz getL"); (case k11_15 => first | with_reducible assumption | omega); (case k12_15 => k_extra "mz rem"); k_whole; intro h'x es'x n'x hs'x ho'x hz'x F'x N'x; (try k_sweep)))
  k_with "mz:subscriptTail" => (k_here; (with_reducible show wpAny _ _ (subscriptTail _ _ (Value.ref _) (Value.int _ _)) _ _ _); k_dflt (refine' Mz.sub_at ?k1_16 ?k2_16 ?k3_16 ?k4_16 ?k5_16 ?k6_16 ?k8_16 ?_ ?k7_16; (case k1_16 => k_asm); (case k2_16 => k_mem); (case k3_16 => with_reducible assumption); (case k4_16 => ksa_idx); (case k5_16 => ksa_idx); (case k6_16 => ksa_idx); (case k7_16 => with_unfolding_all rfl); (case k8_16 => first | with_reducible_and_instances exact Mz.R_g0 | with_reducible_and_instances exact Mz.R_g1 | with_reducible_and_instances exact Mz.R_g6 | with_reducible_and_instances exact Mz.R_g7 | exact Mz.R_g0 | exact Mz.R_g1 | exact Mz.R_g6 | exact Mz.R_g7 | exact rfl); k_whole); intro _)
  k_with "mz lt" => first | exact Mz.Lts.lt (by with_reducible assumption) (by k_mem) | with_reducible assumption | exact Mz.lt_s (by k_extra "mz lt")
  k_with "mz and" => first | exact And.left (by with_reducible assumption) | exact And.left (And.right (by with_reducible assumption)) | exact And.left (And.right (And.right (by with_reducible assumption))) | exact And.left (And.right (And.right (And.right (by with_reducible assumption)))) | exact And.left (And.right (And.right (And.right (And.right (by with_reducible assumption))))) | exact And.left (And.right (And.right (And.right (And.right (And.right (by with_reducible assumption)))))) | exact And.left (And.right (And.right (And.right (And.right (And.right (And.right (by with_reducible assumption))))))) | exact And.right (by with_reducible assumption) | exact And.right (And.right (by with_reducible assumption)) | exact And.right (And.right (And.right (by with_reducible assumption))) | exact And.right (And.right (And.right (And.right (by with_reducible assumption)))) | exact And.right (And.right (And.right (And.right (And.right (by with_reducible assumption))))) | exact And.right (And.right (And.right (And.right (And.right (And.right (by with_reducible assumption))))))
  k_with "mz neq" => first | exact Nat.ne_of_lt (Mz.Lts.lt (by with_reducible assumption) (by k_mem)) | exact Nat.ne_of_gt (Mz.Lts.lt (by with_reducible assumption) (by k_mem)) | exact Mz.Nes.ne (by with_reducible assumption) (by k_mem) | exact Ne.symm (Mz.Nes.ne (by with_reducible assumption) (by k_mem)) | exact Nat.ne_of_lt (by with_reducible assumption) | exact Nat.ne_of_gt (by with_reducible assumption) | exact Nat.ne_of_gt (Mz.lt_s (by k_extra "mz lt")) | exact Nat.ne_of_lt (Mz.lt_s (by k_extra "mz lt")) | exact Nat.ne_of_gt (Mz.lt_tr (by with_reducible assumption) (by k_extra "mz lt")) | exact Nat.ne_of_lt (Mz.lt_tr (by with_reducible assumption) (by k_extra "mz lt")) | exact Mz.NeA.out (by k_extra "mz and") | exact Ne.symm (Mz.NeA.out (by k_extra "mz and"))
  k_with "mz all" => first | exact List.forall_mem_nil _ | ((with_reducible refine Mz.all_cons ?_ ?_); (k_ne); (k_extra "mz all")) | exact OwnOff.ne (by assumption) (by k_memK) | exact Mz.all_cons (by k_ne) (by k_extra "mz all")
  k_with "mz ne" => first | with_reducible assumption | exact Mz.NeA.symm (by with_reducible assumption) | exact Mz.NeA.of (by k_extra "mz neq") | exact Mz.NeA.of (by omega)
  k_with "mz nes" => first | (refine And.intro ?_ ?_; (k_extra "mz ne"); (k_extra "mz nes")) | k_extra "mz ne"
  k_with "mz ksa_idx" => ((rw [Mz.R_len]); decide)
  k_with "mz k_ne" => (refine neN ?_; (try dsimp only); first | exact Mz.NeA.out (by with_reducible assumption) | exact Ne.symm (Mz.NeA.out (by with_reducible assumption)) | k_extra "mz neq" | omega)
  k_with "mz k_all" => first | exact Mz.ne_lts (by with_reducible assumption) (by exact rfl) | exact Mz.ne_nes (by with_reducible assumption) (by exact rfl) | k_extra "mz all"
  k_with "mz enterC" => ((case k6 => k_is); (case k7 => k_is); (case k8 => ktr_room); (case k9 => exact BindsTo.of_eq rfl); (case kB => exact rfl); (case kD => decide +kernel); (case c2 => exact rfl); (case c3 => exact rfl); (case c4 => exact rfl); k_whole; intro g'x L'x h'x tk'x cells'x F'x N'x Y'x B'x X'x T'x lsx l'x hg'x; (try k_lt lsx); k_cells Y'x; (try simp only [List.cons_append, List.nil_append] at N'x); (try dsimp only); (try k_fold))
  k_with "mz:call ref" => (k_here; (with_reducible show wpAny _ _ (call (Value.ref 336) _) _ _ _); k_dflt (refine' Mz.c_draw ?cB ?cF ?cX ?cN ?cT ?ck ?cz ?cu ?h2_49 ?V_49 ?P_49 ?hne_49 ?hm_49 ?_; k_extra "mz ctx"; (case V_49 => k_extra "mz rem"); (case h2_49 => k_mem); (case P_49 => with_reducible assumption); (case hne_49 => k_extra "mz ne"); (case hm_49 => decide); k_whole); intro v9 t9x i9x ti9x r9x ts9x h9x tk9x hv9x P9x F9x N9x; (try dsimp only); (try k_sweep))
  k_with "mz rem2" => first | (refine' Mz.Rem.head ?a_50; (case a_50 => k_all)) | exact Mz.Rem.tl (by k_extra "mz rem2") (by k_ne)
  k_with "mz:CompSrc" => (k_here; k_dflt (refine' Mz.src_draws ?cB_51 ?cX_51 ?cT_51 ?ck_51 ?ccs_51 ?cz_51 ?cu_51 ?sF_51 ?sN_51 ?sV_51 ?sr_51 ?ssm_51 ?sn_51 ?snz_51 ?sg_51 ?sc_51 ?sd_51 ?sP_51 ?sne_51 ?sm_51 ?_; (case cB_51 => k_asm); (case cX_51 => k_asm); (case cT_51 => k_asm); (case ck_51 => exact rfl); (case ccs_51 => exact rfl); (case cz_51 => k_extra "mz dp"); (case cu_51 => k_extra "mz dp"); (case sF_51 => k_asm); (case sN_51 => k_asm); (case sV_51 => k_extra "mz rem2"); (case sr_51 => assumption); (case ssm_51 => decide); (case sn_51 => exact rfl); (case snz_51 => decide); (case sg_51 => k_mem); (case sc_51 => k_mem); (case sd_51 => k_asm); (case sP_51 => with_reducible assumption); (case sne_51 => k_extra "mz ne"); (case sm_51 => decide); k_whole); intro D9 ys9x ns9 i9x r9x ti9x ts9x h9x tk9x hi9x hb9x hl9x P9x F9x N9x o9x; (replace o9x := Mz.nes_of o9x); (try dsimp only [List.map] at o9x); (try dsimp only))
  k_with "mz:call ref" => (k_here; (with_reducible show wpAny _ _ (call (Value.ref 329) _) _ _ _); k_dflt (refine' Mz.c_lpool ?cB ?cF ?cX ?cN ?cT ?ck ?cz ?cu ?h1_94 ?hi_94 ?hl_94 ?_; k_extra "mz ctx"; (case h1_94 => k_mem); (case hi_94 => assumption); (case hl_94 => first | assumption | omega | skip); k_whole); intro pl9x gl9x gv9x gs9x r9x ti9x ts9x kg9x h9x tk9x P9x ne9x o1x o2x F9x N9x; (replace o1x := Mz.nes_of o1x); (replace o2x := Mz.nes_of o2x); (try dsimp only [List.map] at o1x o2x); (try dsimp only))
  k_with "mz law" => (k_here; (with_reducible show wpAny _ _ (call (Value.ref 367) _) _ _ _); k_dflt (refine' Mz.c_moved ?cB ?cF ?cX ?cN ?cT ?ck ?cz ?cu ?h2_95 ?V_95 ?P_95 ?hne_95 ?hw_95 ?_; k_extra "mz ctx"; (case V_95 => k_extra "mz rem"); (case h2_95 => k_mem); (case P_95 => with_reducible assumption); (case hne_95 => k_extra "mz ne"); (case hw_95 => first | with_reducible assumption | decide | exact Mz.way_menu (by omega) | exact Mz.way_menu_neg (by omega) | omega); k_whole); intro i9x ti9x r9x ts9x h9x tk9x P9x F9x N9x; (try dsimp only); (try k_sweep))
  k_with "mz law" => (k_here; (with_reducible show wpAny _ _ (call (Value.ref 372) _) _ _ _); k_dflt (refine' Mz.c_sought ?cB ?cF ?cX ?cN ?cT ?ck ?cz ?cu ?h2_96 ?V_96 ?P_96 ?hne_96 ?hw_96 ?_; k_extra "mz ctx"; (case V_96 => k_extra "mz rem"); (case h2_96 => k_mem); (case P_96 => with_reducible assumption); (case hne_96 => k_extra "mz ne"); (case hw_96 => first | with_reducible assumption | decide | exact Mz.way_menu (by omega) | exact Mz.way_menu_neg (by omega) | omega); k_whole); intro i9x ti9x r9x ts9x h9x tk9x P9x F9x N9x; (try dsimp only); (try k_sweep))
  k_with "mz law" => (k_here; (with_reducible show wpAny _ _ (call (Value.ref 377) _) _ _ _); k_dflt (refine' Mz.c_ports ?cB ?cF ?cX ?cN ?cT ?ck ?cz ?cu ?h2_97 ?V_97 ?P_97 ?hne_97 ?hw_97 ?_; k_extra "mz ctx"; (case V_97 => k_extra "mz rem"); (case h2_97 => k_mem); (case P_97 => with_reducible assumption); (case hne_97 => k_extra "mz ne"); (case hw_97 => first | with_reducible assumption | decide | exact Mz.way_menu (by omega) | exact Mz.way_menu_neg (by omega) | omega); k_whole); intro i9x ti9x r9x ts9x h9x tk9x P9x F9x N9x; (try dsimp only); (try k_sweep))
  k_with "mz law" => (k_here; (with_reducible show wpAny _ _ (call (Value.ref 382) _) _ _ _); k_dflt (refine' Mz.c_once ?cB ?cF ?cX ?cN ?cT ?ck ?cz ?cu ?h2_98 ?V_98 ?P_98 ?hne_98 ?_; k_extra "mz ctx"; (case V_98 => k_extra "mz rem"); (case h2_98 => k_mem); (case P_98 => with_reducible assumption); (case hne_98 => k_extra "mz ne"); k_whole); intro i9x ti9x r9x ts9x h9x tk9x P9x F9x N9x; (try dsimp only); (try k_sweep))
  k_with "mz dp" => ((try dsimp only [ktrTop, Around.deeper]); (try simp only [depth_caller, units_caller, depth_deeper, units_deeper]); first | omega | decide)
  trivial
open PySem PySem.W PyProof.Rows
theorem PySem.Challenge.cw_pq1468_01_holds : PySem.Challenge.rw_pq1468_01.Holds := by
  refine holds_law hd.said (fun said => ?_)
  refine holds_open (q := hd.view_39) (loose := hd.loose) (Xt := fun s => xlAt hd.view_39 [] s && recOk (RowW.records hd.row.toRowW) s) (XP := XL hd.view_39 []) (Yf := Hook.obs hd.hook) (Ya := Hook.val hd.hook) (YP := Hook.says hd.hook) (N := 4590) hd.left (Hook.of hd.hook) (Hook.keeps hd.hook) (fun s e => xl_of s (Bool.and_eq_true_iff.mp e).1) XL.keeps (by rfl) (by rfl) (by rfl) (fun s e => recFacts_of (Bool.and_eq_true_iff.mp e).2) (by rfl) said hd.well ⟨rfl, rfl, rfl, rfl, rfl, hd.whole⟩ (by w_witness2) ?_
  clear said
  k_go0
  all_goals try k_fold
  repeat' (first | k_extra "mz law" | (k_unfold; (try dsimp only)) | (k_end; kc_close) | walk1 | (dsimp only; walk1) | (leave1; (try dsimp only)))
  all_goals (try k_data)

end
