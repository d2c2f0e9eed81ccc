import PyProof.Rows.All
import Wide.All
import OpenK.KCell
import KE.IntBitsLaws
import KE.BitLaws
import KE.KUnpack
import KE.TryInHelper
import Wide.FinOn
import PySem.Challenge.RW_pb0343_01
set_option Elab.async false
set_option linter.unusedVariables false
section
open PySem PySem.W PyProof.Rows PySem.Calls
namespace Mine
noncomputable def st (i : Nat) : Stmt := PySem.Challenge.pw_pb0343_01.main.body.getD i (.Pass default)
noncomputable def me (i j : Nat) : Stmt := match st i with
  | .ClassDef _ _ _ b .. => b.getD j (.Pass default)
  | _ => .Pass default
noncomputable def fo (s : Stmt) (qual : Str) (pm cd : Value) (dV : Value := .none) : Obj := match s with
  | .FunctionDef name args body _ _ _ scope .. => ⟨.type "function", none, .func (fnOf name qual args body scope dV .none .none pm none cd .none), #[]⟩
  | _ => default
noncomputable def en (P : Params) (k : String) (t : Tok) (v : Value) : DictEntry := ⟨PyData.keyHash P (Str.ofString k), .str (Str.ofString k) t, v⟩
noncomputable def KK (P : Params) : Frag := [
  (3, ⟨.type "dict", none, .dict #[en P "__name__" 165 (.str "law_pb0343_01" 592), en P "__doc__" 166 (.none), en P "__package__" 167 (.none), en P "__loader__" 168 (.builtin "__main__.__loader__#opaque"), en P "__spec__" 169 (.none), en P "__annotations__" 170 (.ref 6), en P "__builtins__" 171 (.ref 4), en P "__file__" 173 (.str "/claim/cut.py" 172), en P "__cached__" 174 (.none), en P "MASK" 190 (.int (4294967295) 189), en P "SIGN" 192 (.int (2147483648) 191), en P "to_signed" 199 (.ref 21), en P "flagged" 209 (.ref 29), en P "add" 221 (.ref 36), en P "sub" 232 (.ref 43), en P "mul" 243 (.ref 50), en P "div" 254 (.ref 57), en P "shift_left" 262 (.ref 64), en P "shift_arith" 270 (.ref 71), en P "rotate" 279 (.ref 78), en P "bitwise" 288 (.ref 85), en P "operate" 297 (.ref 92), en P "condition_number" 305 (.ref 99), en P "holds" 319 (.ref 106), en P "YardError" 341 (.ref 116), en P "TrapError" 370 (.ref 136), en P "BadRow" 395 (.ref 155), en P "WORD_cpu" 399 (.int (4294967296) 398), en P "LINK" 401 (.int (15) 400), en P "Cpu" 507 (.ref 223), en P "register_names" 513 (.ref 234), en P "WORD_memory" 517 (.int (4294967296) 516), en P "Memory" 591 (.ref 286), en P "_law_row" 604 (.ref 297), en P "_law_next" 611 (.ref 304), en P "_law_word" 619 (.ref 311), en P "_law_holds" 634 (.ref 318), en P "_law_plus" 641 (.ref 325), en P "_law_act" 657 (.ref 332), en P "_law_got" 663 (.ref 337), en P "_law_step" 682 (.ref 344), en P "_law_made" 694 (.ref 351), en P "law" 700 (.ref 356)] 43, #[]⟩),
  (20, ⟨.type "code", none, .fields #[.str "to_signed" 193, .str "to_signed" 194, .str "/claim/cut.py" 195, .int (4) 0, .int (1) 0, .int (0) 0, .int (0) 0, .int (3) 0, .ref 15, .bool true, .int (181) 0, .ref 16, .none, .ref 17, .ref 18, .ref 19, .int (197) 0, .int (4) 0, .str "/claim/cut.py" 198], #[]⟩),
  (21, fo (st 3) "to_signed" (.str "moduleyard.alu" 187) (.ref 20)),
  (22, ⟨.type "tuple", none, .seq #[.none], #[]⟩),
  (28, ⟨.type "code", none, .fields #[.str "flagged" 200, .str "flagged" 201, .str "/claim/cut.py" 202, .int (6) 0, .int (4) 0, .int (0) 0, .int (0) 0, .int (3) 0, .ref 23, .bool true, .int (181) 0, .ref 24, .none, .ref 25, .ref 26, .ref 27, .int (207) 0, .int (6) 0, .str "/claim/cut.py" 208], #[]⟩),
  (29, fo (st 4) "flagged" (.str "moduleyard.alu" 187) (.ref 28) (.ref 22)),
  (35, ⟨.type "code", none, .fields #[.str "add" 210, .str "add" 211, .str "/claim/cut.py" 212, .int (8) 0, .int (2) 0, .int (0) 0, .int (0) 0, .int (3) 0, .ref 30, .bool true, .int (181) 0, .ref 31, .none, .ref 32, .ref 33, .ref 34, .int (219) 0, .int (8) 0, .str "/claim/cut.py" 220], #[]⟩),
  (36, fo (st 5) "add" (.str "moduleyard.alu" 187) (.ref 35)),
  (42, ⟨.type "code", none, .fields #[.str "sub" 222, .str "sub" 223, .str "/claim/cut.py" 224, .int (14) 0, .int (2) 0, .int (0) 0, .int (0) 0, .int (3) 0, .ref 37, .bool true, .int (181) 0, .ref 38, .none, .ref 39, .ref 40, .ref 41, .int (230) 0, .int (14) 0, .str "/claim/cut.py" 231], #[]⟩),
  (43, fo (st 6) "sub" (.str "moduleyard.alu" 187) (.ref 42)),
  (49, ⟨.type "code", none, .fields #[.str "mul" 233, .str "mul" 234, .str "/claim/cut.py" 235, .int (19) 0, .int (2) 0, .int (0) 0, .int (0) 0, .int (3) 0, .ref 44, .bool true, .int (181) 0, .ref 45, .none, .ref 46, .ref 47, .ref 48, .int (241) 0, .int (19) 0, .str "/claim/cut.py" 242], #[]⟩),
  (50, fo (st 7) "mul" (.str "moduleyard.alu" 187) (.ref 49)),
  (56, ⟨.type "code", none, .fields #[.str "div" 244, .str "div" 245, .str "/claim/cut.py" 246, .int (24) 0, .int (2) 0, .int (0) 0, .int (0) 0, .int (3) 0, .ref 51, .bool true, .int (181) 0, .ref 52, .none, .ref 53, .ref 54, .ref 55, .int (252) 0, .int (24) 0, .str "/claim/cut.py" 253], #[]⟩),
  (57, fo (st 8) "div" (.str "moduleyard.alu" 187) (.ref 56)),
  (63, ⟨.type "code", none, .fields #[.str "shift_left" 255, .str "shift_left" 256, .str "/claim/cut.py" 257, .int (30) 0, .int (2) 0, .int (0) 0, .int (0) 0, .int (3) 0, .ref 58, .bool true, .int (181) 0, .ref 59, .none, .ref 60, .ref 61, .ref 62, .int (260) 0, .int (30) 0, .str "/claim/cut.py" 261], #[]⟩),
  (64, fo (st 9) "shift_left" (.str "moduleyard.alu" 187) (.ref 63)),
  (70, ⟨.type "code", none, .fields #[.str "shift_arith" 263, .str "shift_arith" 264, .str "/claim/cut.py" 265, .int (32) 0, .int (2) 0, .int (0) 0, .int (0) 0, .int (3) 0, .ref 65, .bool true, .int (181) 0, .ref 66, .none, .ref 67, .ref 68, .ref 69, .int (268) 0, .int (32) 0, .str "/claim/cut.py" 269], #[]⟩),
  (71, fo (st 10) "shift_arith" (.str "moduleyard.alu" 187) (.ref 70)),
  (77, ⟨.type "code", none, .fields #[.str "rotate" 271, .str "rotate" 272, .str "/claim/cut.py" 273, .int (34) 0, .int (2) 0, .int (0) 0, .int (0) 0, .int (3) 0, .ref 72, .bool true, .int (181) 0, .ref 73, .none, .ref 74, .ref 75, .ref 76, .int (277) 0, .int (34) 0, .str "/claim/cut.py" 278], #[]⟩),
  (78, fo (st 11) "rotate" (.str "moduleyard.alu" 187) (.ref 77)),
  (84, ⟨.type "code", none, .fields #[.str "bitwise" 280, .str "bitwise" 281, .str "/claim/cut.py" 282, .int (37) 0, .int (3) 0, .int (0) 0, .int (0) 0, .int (3) 0, .ref 79, .bool true, .int (181) 0, .ref 80, .none, .ref 81, .ref 82, .ref 83, .int (286) 0, .int (37) 0, .str "/claim/cut.py" 287], #[]⟩),
  (85, fo (st 12) "bitwise" (.str "moduleyard.alu" 187) (.ref 84)),
  (91, ⟨.type "code", none, .fields #[.str "operate" 289, .str "operate" 290, .str "/claim/cut.py" 291, .int (47) 0, .int (3) 0, .int (0) 0, .int (0) 0, .int (3) 0, .ref 86, .bool true, .int (181) 0, .ref 87, .none, .ref 88, .ref 89, .ref 90, .int (295) 0, .int (47) 0, .str "/claim/cut.py" 296], #[]⟩),
  (92, fo (st 13) "operate" (.str "moduleyard.alu" 187) (.ref 91)),
  (98, ⟨.type "code", none, .fields #[.str "condition_number" 298, .str "condition_number" 299, .str "/claim/cut.py" 300, .int (65) 0, .int (1) 0, .int (0) 0, .int (0) 0, .int (3) 0, .ref 93, .bool true, .int (181) 0, .ref 94, .none, .ref 95, .ref 96, .ref 97, .int (303) 0, .int (65) 0, .str "/claim/cut.py" 304], #[]⟩),
  (99, fo (st 14) "condition_number" (.str "moduleyard.alu" 187) (.ref 98)),
  (105, ⟨.type "code", none, .fields #[.str "holds" 306, .str "holds" 307, .str "/claim/cut.py" 308, .int (68) 0, .int (2) 0, .int (0) 0, .int (0) 0, .int (3) 0, .ref 100, .bool true, .int (181) 0, .ref 101, .none, .ref 102, .ref 103, .ref 104, .int (317) 0, .int (68) 0, .str "/claim/cut.py" 318], #[]⟩),
  (106, fo (st 15) "holds" (.str "moduleyard.alu" 187) (.ref 105)),
  (115, ⟨.type "dict", none, .dict #[en P "__module__" 329 (.str "moduleyard.errors" 320), en P "__firstlineno__" 333 (.int (74) 332), en P "__static_attributes__" 334 (.ref 114), en P "__weakref__" 336 (.ref 117), en P "__doc__" 337 (.none)] 3, #[]⟩),
  (116, ⟨.type "type", none, .cls { name := "YardError", bases := [.type "Exception"], mro := [.ref 116, .type "Exception", .type "BaseException", .type "object"], ns := 115, qualname := "YardError", subclasses := [.ref 136, .ref 155] }, #[some (.ref 107), none, some (.str "YardError" 322), some (.str "YardError" 330), some (.builtin "Exception.__new__"), some (.bool true)]⟩),
  (132, ⟨.type "code", none, .fields #[.str "__init__" 354, .str "TrapError.__init__" 355, .str "/claim/cut.py" 356, .int (78) 0, .int (4) 0, .int (0) 0, .int (0) 0, .int (3) 0, .ref 127, .bool true, .int (181) 0, .ref 128, .none, .ref 129, .ref 130, .ref 131, .int (361) 0, .int (78) 0, .str "/claim/cut.py" 362], #[]⟩),
  (133, fo (me 18 0) "TrapError.__init__" (.str "moduleyard.errors" 320) (.ref 132)),
  (135, ⟨.type "dict", none, .dict #[en P "__module__" 349 (.str "moduleyard.errors" 320), en P "__firstlineno__" 353 (.int (76) 352), en P "__init__" 363 (.ref 133), en P "__static_attributes__" 367 (.ref 134), en P "__doc__" 368 (.none)] 2, #[]⟩),
  (136, ⟨.type "type", none, .cls { name := "TrapError", bases := [.ref 116], mro := [.ref 136, .ref 116, .type "Exception", .type "BaseException", .type "object"], ns := 135, qualname := "TrapError" }, #[some (.ref 120), none, some (.str "TrapError" 342), some (.str "TrapError" 350), some (.builtin "Exception.__new__"), some (.bool true)]⟩),
  (170, ⟨.type "code", none, .fields #[.str "__init__" 414, .str "Cpu.__init__" 415, .str "/claim/cut.py" 416, .int (91) 0, .int (2) 0, .int (0) 0, .int (0) 0, .int (3) 0, .ref 165, .bool true, .int (181) 0, .ref 166, .none, .ref 167, .ref 168, .ref 169, .int (419) 0, .int (91) 0, .str "/claim/cut.py" 420], #[]⟩),
  (171, fo (me 23 0) "Cpu.__init__" (.str "moduleyard.cpu" 396) (.ref 170)),
  (177, ⟨.type "code", none, .fields #[.str "step" 422, .str "Cpu.step" 423, .str "/claim/cut.py" 424, .int (102) 0, .int (1) 0, .int (0) 0, .int (0) 0, .int (3) 0, .ref 172, .bool true, .int (181) 0, .ref 173, .none, .ref 174, .ref 175, .ref 176, .int (429) 0, .int (102) 0, .str "/claim/cut.py" 430], #[]⟩),
  (178, fo (me 23 1) "Cpu.step" (.str "moduleyard.cpu" 396) (.ref 177)),
  (184, ⟨.type "code", none, .fields #[.str "transfer" 432, .str "Cpu.transfer" 433, .str "/claim/cut.py" 434, .int (124) 0, .int (4) 0, .int (0) 0, .int (0) 0, .int (3) 0, .ref 179, .bool true, .int (181) 0, .ref 180, .none, .ref 181, .ref 182, .ref 183, .int (439) 0, .int (124) 0, .str "/claim/cut.py" 440], #[]⟩),
  (185, fo (me 23 2) "Cpu.transfer" (.str "moduleyard.cpu" 396) (.ref 184)),
  (191, ⟨.type "code", none, .fields #[.str "flags" 442, .str "Cpu.flags" 443, .str "/claim/cut.py" 444, .int (134) 0, .int (1) 0, .int (0) 0, .int (0) 0, .int (3) 0, .ref 186, .bool true, .int (181) 0, .ref 187, .none, .ref 188, .ref 189, .ref 190, .int (446) 0, .int (134) 0, .str "/claim/cut.py" 447], #[]⟩),
  (192, fo (me 23 3) "Cpu.flags" (.str "moduleyard.cpu" 396) (.ref 191)),
  (198, ⟨.type "code", none, .fields #[.str "branch" 449, .str "Cpu.branch" 450, .str "/claim/cut.py" 451, .int (137) 0, .int (3) 0, .int (0) 0, .int (0) 0, .int (3) 0, .ref 193, .bool true, .int (181) 0, .ref 194, .none, .ref 195, .ref 196, .ref 197, .int (456) 0, .int (137) 0, .str "/claim/cut.py" 457], #[]⟩),
  (199, fo (me 23 4) "Cpu.branch" (.str "moduleyard.cpu" 396) (.ref 198)),
  (205, ⟨.type "code", none, .fields #[.str "set_result" 459, .str "Cpu.set_result" 460, .str "/claim/cut.py" 461, .int (151) 0, .int (3) 0, .int (0) 0, .int (0) 0, .int (3) 0, .ref 200, .bool true, .int (181) 0, .ref 201, .none, .ref 202, .ref 203, .ref 204, .int (465) 0, .int (151) 0, .str "/claim/cut.py" 466], #[]⟩),
  (206, fo (me 23 5) "Cpu.set_result" (.str "moduleyard.cpu" 396) (.ref 205)),
  (212, ⟨.type "code", none, .fields #[.str "calculate" 468, .str "Cpu.calculate" 469, .str "/claim/cut.py" 470, .int (158) 0, .int (3) 0, .int (0) 0, .int (0) 0, .int (3) 0, .ref 207, .bool true, .int (181) 0, .ref 208, .none, .ref 209, .ref 210, .ref 211, .int (478) 0, .int (158) 0, .str "/claim/cut.py" 479], #[]⟩),
  (213, fo (me 23 6) "Cpu.calculate" (.str "moduleyard.cpu" 396) (.ref 212)),
  (219, ⟨.type "code", none, .fields #[.str "run" 481, .str "Cpu.run" 482, .str "/claim/cut.py" 483, .int (175) 0, .int (2) 0, .int (0) 0, .int (0) 0, .int (3) 0, .ref 214, .bool true, .int (181) 0, .ref 215, .none, .ref 216, .ref 217, .ref 218, .int (488) 0, .int (175) 0, .str "/claim/cut.py" 489], #[]⟩),
  (220, fo (me 23 7) "Cpu.run" (.str "moduleyard.cpu" 396) (.ref 219)),
  (222, ⟨.type "dict", none, .dict #[en P "__module__" 409 (.str "moduleyard.cpu" 396), en P "__firstlineno__" 413 (.int (89) 412), en P "__init__" 421 (.ref 171), en P "step" 431 (.ref 178), en P "transfer" 441 (.ref 185), en P "flags" 448 (.ref 192), en P "branch" 458 (.ref 199), en P "set_result" 467 (.ref 206), en P "calculate" 480 (.ref 213), en P "run" 490 (.ref 220), en P "__static_attributes__" 500 (.ref 221), en P "__dict__" 502 (.ref 224), en P "__weakref__" 504 (.ref 225), en P "__doc__" 505 (.none)] 4, #[]⟩),
  (223, ⟨.type "type", none, .cls { name := "Cpu", bases := [.type "object"], mro := [.ref 223, .type "object"], ns := 222, qualname := "Cpu" }, #[none, none, some (.str "Cpu" 402), some (.str "Cpu" 410), some (.builtin "object.__new__"), some (.bool true)]⟩),
  (233, ⟨.type "code", none, .fields #[.str "register_names" 508, .str "register_names" 509, .str "/claim/cut.py" 510, .int (181) 0, .int (0) 0, .int (0) 0, .int (0) 0, .int (3) 0, .ref 228, .bool true, .int (181) 0, .ref 229, .none, .ref 230, .ref 231, .ref 232, .int (511) 0, .int (181) 0, .str "/claim/cut.py" 512], #[]⟩),
  (234, fo (st 24) "register_names" (.str "moduleyard.cpu" 396) (.ref 233)),
  (247, ⟨.type "code", none, .fields #[.str "__init__" 530, .str "Memory.__init__" 531, .str "/claim/cut.py" 532, .int (187) 0, .int (2) 0, .int (0) 0, .int (0) 0, .int (3) 0, .ref 242, .bool true, .int (181) 0, .ref 243, .none, .ref 244, .ref 245, .ref 246, .int (535) 0, .int (187) 0, .str "/claim/cut.py" 536], #[]⟩),
  (248, fo (me 27 0) "Memory.__init__" (.str "moduleyard.memory" 514) (.ref 247)),
  (254, ⟨.type "code", none, .fields #[.str "place" 538, .str "Memory.place" 539, .str "/claim/cut.py" 540, .int (191) 0, .int (2) 0, .int (0) 0, .int (0) 0, .int (3) 0, .ref 249, .bool true, .int (181) 0, .ref 250, .none, .ref 251, .ref 252, .ref 253, .int (543) 0, .int (191) 0, .str "/claim/cut.py" 544], #[]⟩),
  (255, fo (me 27 1) "Memory.place" (.str "moduleyard.memory" 514) (.ref 254)),
  (261, ⟨.type "code", none, .fields #[.str "word" 546, .str "Memory.word" 547, .str "/claim/cut.py" 548, .int (196) 0, .int (2) 0, .int (0) 0, .int (0) 0, .int (3) 0, .ref 256, .bool true, .int (181) 0, .ref 257, .none, .ref 258, .ref 259, .ref 260, .int (551) 0, .int (196) 0, .str "/claim/cut.py" 552], #[]⟩),
  (262, fo (me 27 2) "Memory.word" (.str "moduleyard.memory" 514) (.ref 261)),
  (268, ⟨.type "code", none, .fields #[.str "put_word" 554, .str "Memory.put_word" 555, .str "/claim/cut.py" 556, .int (199) 0, .int (3) 0, .int (0) 0, .int (0) 0, .int (3) 0, .ref 263, .bool true, .int (181) 0, .ref 264, .none, .ref 265, .ref 266, .ref 267, .int (560) 0, .int (199) 0, .str "/claim/cut.py" 561], #[]⟩),
  (269, fo (me 27 3) "Memory.put_word" (.str "moduleyard.memory" 514) (.ref 268)),
  (275, ⟨.type "code", none, .fields #[.str "byte" 563, .str "Memory.byte" 564, .str "/claim/cut.py" 565, .int (202) 0, .int (2) 0, .int (0) 0, .int (0) 0, .int (3) 0, .ref 270, .bool true, .int (181) 0, .ref 271, .none, .ref 272, .ref 273, .ref 274, .int (568) 0, .int (202) 0, .str "/claim/cut.py" 569], #[]⟩),
  (276, fo (me 27 4) "Memory.byte" (.str "moduleyard.memory" 514) (.ref 275)),
  (282, ⟨.type "code", none, .fields #[.str "put_byte" 571, .str "Memory.put_byte" 572, .str "/claim/cut.py" 573, .int (205) 0, .int (3) 0, .int (0) 0, .int (0) 0, .int (3) 0, .ref 277, .bool true, .int (181) 0, .ref 278, .none, .ref 279, .ref 280, .ref 281, .int (579) 0, .int (205) 0, .str "/claim/cut.py" 580], #[]⟩),
  (283, fo (me 27 5) "Memory.put_byte" (.str "moduleyard.memory" 514) (.ref 282)),
  (285, ⟨.type "dict", none, .dict #[en P "__module__" 525 (.str "moduleyard.memory" 514), en P "__firstlineno__" 529 (.int (185) 528), en P "__init__" 537 (.ref 248), en P "place" 545 (.ref 255), en P "word" 553 (.ref 262), en P "put_word" 562 (.ref 269), en P "byte" 570 (.ref 276), en P "put_byte" 581 (.ref 283), en P "__static_attributes__" 584 (.ref 284), en P "__dict__" 586 (.ref 287), en P "__weakref__" 588 (.ref 288), en P "__doc__" 589 (.none)] 4, #[]⟩),
  (286, ⟨.type "type", none, .cls { name := "Memory", bases := [.type "object"], mro := [.ref 286, .type "object"], ns := 285, qualname := "Memory" }, #[none, none, some (.str "Memory" 518), some (.str "Memory" 526), some (.builtin "object.__new__"), some (.bool true)]⟩),
  (296, ⟨.type "code", none, .fields #[.str "_law_row" 594, .str "_law_row" 595, .str "/claim/cut.py" 596, .int (210) 0, .int (1) 0, .int (0) 0, .int (0) 0, .int (3) 0, .ref 291, .bool true, .int (181) 0, .ref 292, .none, .ref 293, .ref 294, .ref 295, .int (602) 0, .int (210) 0, .str "/claim/cut.py" 603], #[]⟩),
  (297, fo (st 29) "_law_row" (.str "law_pb0343_01" 592) (.ref 296)),
  (303, ⟨.type "code", none, .fields #[.str "_law_next" 605, .str "_law_next" 606, .str "/claim/cut.py" 607, .int (223) 0, .int (1) 0, .int (0) 0, .int (0) 0, .int (3) 0, .ref 298, .bool true, .int (181) 0, .ref 299, .none, .ref 300, .ref 301, .ref 302, .int (609) 0, .int (223) 0, .str "/claim/cut.py" 610], #[]⟩),
  (304, fo (st 30) "_law_next" (.str "law_pb0343_01" 592) (.ref 303)),
  (310, ⟨.type "code", none, .fields #[.str "_law_word" 612, .str "_law_word" 613, .str "/claim/cut.py" 614, .int (225) 0, .int (1) 0, .int (0) 0, .int (0) 0, .int (3) 0, .ref 305, .bool true, .int (181) 0, .ref 306, .none, .ref 307, .ref 308, .ref 309, .int (617) 0, .int (225) 0, .str "/claim/cut.py" 618], #[]⟩),
  (311, fo (st 31) "_law_word" (.str "law_pb0343_01" 592) (.ref 310)),
  (317, ⟨.type "code", none, .fields #[.str "_law_holds" 620, .str "_law_holds" 621, .str "/claim/cut.py" 622, .int (232) 0, .int (2) 0, .int (0) 0, .int (0) 0, .int (3) 0, .ref 312, .bool true, .int (181) 0, .ref 313, .none, .ref 314, .ref 315, .ref 316, .int (632) 0, .int (232) 0, .str "/claim/cut.py" 633], #[]⟩),
  (318, fo (st 32) "_law_holds" (.str "law_pb0343_01" 592) (.ref 317)),
  (324, ⟨.type "code", none, .fields #[.str "_law_plus" 635, .str "_law_plus" 636, .str "/claim/cut.py" 637, .int (238) 0, .int (1) 0, .int (0) 0, .int (0) 0, .int (3) 0, .ref 319, .bool true, .int (181) 0, .ref 320, .none, .ref 321, .ref 322, .ref 323, .int (639) 0, .int (238) 0, .str "/claim/cut.py" 640], #[]⟩),
  (325, fo (st 33) "_law_plus" (.str "law_pb0343_01" 592) (.ref 324)),
  (331, ⟨.type "code", none, .fields #[.str "_law_act" 642, .str "_law_act" 643, .str "/claim/cut.py" 644, .int (240) 0, .int (3) 0, .int (0) 0, .int (0) 0, .int (3) 0, .ref 326, .bool true, .int (181) 0, .ref 327, .none, .ref 328, .ref 329, .ref 330, .int (655) 0, .int (240) 0, .str "/claim/cut.py" 656], #[]⟩),
  (332, fo (st 34) "_law_act" (.str "law_pb0343_01" 592) (.ref 331)),
  (336, ⟨.type "code", none, .fields #[.str "_law_got" 658, .str "_law_got" 659, .str "/claim/cut.py" 660, .int (278) 0, .int (2) 0, .int (0) 0, .int (0) 0, .int (3) 0, .ref 333, .bool true, .int (181) 0, .ref 334, .none, .none, .none, .ref 335, .int (661) 0, .int (278) 0, .str "/claim/cut.py" 662], #[]⟩),
  (337, fo (st 35) "_law_got" (.str "law_pb0343_01" 592) (.ref 336)),
  (343, ⟨.type "code", none, .fields #[.str "_law_step" 664, .str "_law_step" 665, .str "/claim/cut.py" 666, .int (280) 0, .int (1) 0, .int (0) 0, .int (0) 0, .int (3) 0, .ref 338, .bool true, .int (181) 0, .ref 339, .none, .ref 340, .ref 341, .ref 342, .int (680) 0, .int (280) 0, .str "/claim/cut.py" 681], #[]⟩),
  (344, fo (st 36) "_law_step" (.str "law_pb0343_01" 592) (.ref 343)),
  (350, ⟨.type "code", none, .fields #[.str "_law_made" 683, .str "_law_made" 684, .str "/claim/cut.py" 685, .int (321) 0, .int (1) 0, .int (0) 0, .int (0) 0, .int (3) 0, .ref 345, .bool true, .int (181) 0, .ref 346, .none, .ref 347, .ref 348, .ref 349, .int (692) 0, .int (321) 0, .str "/claim/cut.py" 693], #[]⟩),
  (351, fo (st 37) "_law_made" (.str "law_pb0343_01" 592) (.ref 350)),
  (355, ⟨.type "code", none, .fields #[.str "law" 695, .str "law" 696, .str "/claim/cut.py" 697, .int (338) 0, .int (1) 0, .int (0) 0, .int (0) 0, .int (3) 0, .ref 352, .bool true, .int (181) 0, .ref 353, .none, .none, .none, .ref 354, .int (698) 0, .int (338) 0, .str "/claim/cut.py" 699], #[]⟩),
  (356, fo (st 38) "law" (.str "law_pb0343_01" 592) (.ref 355))]
noncomputable def KA : List Addr := [3, 20, 21, 22, 28, 29, 35, 36, 42, 43, 49, 50, 56, 57, 63, 64, 70, 71, 77, 78, 84, 85, 91, 92, 98, 99, 105, 106, 115, 116, 132, 133, 135, 136, 170, 171, 177, 178, 184, 185, 191, 192, 198, 199, 205, 206, 212, 213, 219, 220, 222, 223, 233, 234, 247, 248, 254, 255, 261, 262, 268, 269, 275, 276, 282, 283, 285, 286, 296, 297, 303, 304, 310, 311, 317, 318, 324, 325, 331, 332, 336, 337, 343, 344, 350, 351, 355, 356]
set_option maxRecDepth 100000 in
theorem KA_eq (P : Params) : KA = (KK P).map (·.1) := rfl
end Mine
end
section
open PySem PySem.W PyProof.Rows PySem.Calls
namespace Mine
/-- the walk, as the head asks for it -/
noncomputable def WalkAll : Prop := ∀ {q : Program} {loose : List Str} {XP : (Str → Option Value) → Heap → Prop} {d : DefRec} {kwd : List (Str × Expr)}, d.name = Str.ofString "law" → WalkO q loose XP (kHook KK KA KA_eq).says PySem.Challenge.rw_pb0343_01.row.toRowW d kwd fun f vs => call f vs
theorem WalkAll.use (h : WalkAll) {q : Program} {loose : List Str} {XP : (Str → Option Value) → Heap → Prop} {d : DefRec} {kwd : List (Str × Expr)} (e : d.name = Str.ofString "law") : WalkO q loose XP (kHook KK KA KA_eq).says PySem.Challenge.rw_pb0343_01.row.toRowW d kwd fun f vs => call f vs := h e
set_option maxRecDepth 100000 in
theorem said : PySem.Challenge.rw_pb0343_01.wellSaid = true := by kernel_rfl
section
/-- the head's own step drops the premises: the walk's goal is closed ahead of that -/
local macro_rules | `(tactic| refine $e:term) => `(tactic| (refine' $e; rotate_right; focus (exact WalkAll.use (by assumption) (by rfl))))
set_option maxRecDepth 100000 in
set_option maxHeartbeats 8000000 in
theorem head (hc : WalkAll) : PySem.Challenge.rw_pb0343_01.Holds := by
  (w_on; refine' holds_law said fun s => ?_; o_head (kHook KK KA KA_eq); (case hw => w_witness2))
end
end Mine
end
section
open PySem PySem.W PyProof.Rows PySem.Calls
namespace Mine

/-- a value without its token -/
noncomputable def er : Value → Value
  | .int i _ => .int i 0
  | .float b _ => .float b 0
  | .str s _ => .str s 0
  | .bytes b _ => .bytes b 0
  | v => v

theorem er_int {v : Value} {i : Int} (h : er v = .int i 0) : ∃ t, v = .int i t := by
  cases v <;> simp_all [er]
theorem er_str {v : Value} {i : Str} (h : er v = .str i 0) : ∃ t, v = .str i t := by
  cases v <;> simp_all [er]
theorem er_bool {v : Value} {i : Bool} (h : er v = .bool i) : v = .bool i := by
  cases v <;> simp_all [er]
theorem er_none {v : Value} (h : er v = .none) : v = .none := by
  cases v <;> simp_all [er]
theorem er_ref {v : Value} {i : Addr} (h : er v = .ref i) : v = .ref i := by
  cases v <;> simp_all [er]
theorem er_builtin {v : Value} {i : String} (h : er v = .builtin i) : v = .builtin i := by
  cases v <;> simp_all [er]
theorem er_type {v : Value} {i : String} (h : er v = .type i) : v = .type i := by
  cases v <;> simp_all [er]
theorem er_er (v : Value) : er (er v) = er v := by cases v <;> rfl

noncomputable abbrev Loc := List (Str × Value)
noncomputable abbrev Stk := List (Addr × Loc)

/-- what an address bears -/
inductive AO where
  | ns (m : Loc)
  | list (vs : List Value)
  | tuple (vs : List Value)
  | idict (f : Int → Option Value) (n : Nat)
  | sdict (m : Loc)
  | inst (C d : Addr)
  | cell (v : Option Value)
  | raw (o : Obj)
  | range (a b st : Int)
  | riter (x left st : Int)
  | liter (l : Addr) (i : Nat)
  | titer (t : Addr) (i : Nat)

noncomputable abbrev AH := Addr → Option AO
noncomputable def AH.set (H : AH) (a : Addr) (o : AO) : AH := fun b => if b = a then some o else H b
theorem AH.set_self {H : AH} {a : Addr} {o : AO} : H.set a o a = some o := if_pos rfl
theorem AH.set_ne {H : AH} {a b : Addr} {o : AO} (h : b ≠ a) : H.set a o b = H b := if_neg h

structure Cx where
  w : World
  g : Heap
  gens : Array GenState
  drawn : Drawn
  os : OsState

noncomputable abbrev Cx.prog (_ : Cx) : Program := PySem.Challenge.pw_pb0343_01
noncomputable abbrev Cx.K (c : Cx) : Frag := KK c.w.params

structure Cx.Ok (c : Cx) : Prop where
  kin : c.K.In c.g
  top : ∃ p loose mg mb, TopRead p loose mg mb c.g

noncomputable def Lo (m : Loc) (mc : Str → Option Value) : Prop := ∀ x v, m.lookup x = some v → ∃ v', mc x = some v' ∧ er v' = v

noncomputable def Abs (c : Cx) (h : Heap) (a : Addr) : AO → Prop
  | .ns m => ∃ o es ep, h.get? a = some o ∧ o.data = .dict es ep ∧ StrKeys es ∧ es.size ≤ m.length ∧ ∀ x, (nsFind es x).map er = m.lookup x
  | .list vs => ∃ vc n, h.get? a = some { cls := .type "list", dict := none, data := .seq vc n, slots := #[] } ∧ vc.toList.map er = vs
  | .tuple vs => ∃ vc n, h.get? a = some { cls := .type "tuple", dict := none, data := .seq vc n, slots := #[] } ∧ vc.toList.map er = vs
  | .idict f n => ∃ kvs, h.DictOf (intKind c.prog c.w) a kvs ∧ (∀ k, (valueAt kvs k).map er = f k) ∧ kvs.length ≤ n
  | .sdict m => ∃ kvs, h.DictOf (strKind c.prog c.w) a kvs ∧ kvs.map (fun p => (p.1, er p.2)) = m
  | .inst C d => ∃ o, h.get? a = some o ∧ o.cls = .ref C ∧ o.dict = some d ∧ o.data = .plain
  | .cell v => ∃ v', h.IsCell a v' ∧ v'.map er = v
  | .raw o => h.get? a = some o
  | .range x y st => ∃ t u v, IsRange h a x y st t u v
  | .riter x left st => IsRangeIter h a x left st
  | .liter l i => h.IsListIter a l i
  | .titer t i => h.IsTupleIter a t i

theorem Abs.same {c : Cx} {h h' : Heap} {a : Addr} {ao : AO} (e : h'.get? a = h.get? a) (x : Abs c h a ao) : Abs c h' a ao := by
  cases ao <;> simp only [Abs, Heap.MapOf, Heap.DictOf, Heap.DictLe, Heap.IsCell, IsRange, IsRangeIter, Heap.IsListIter, Heap.IsTupleIter, e] at x ⊢ <;> exact x
theorem Abs.there {c : Cx} {h : Heap} {a : Addr} {ao : AO} (x : Abs c h a ao) : ∃ o, h.get? a = some o := by
  cases ao <;> simp only [Abs, Heap.MapOf, Heap.DictOf, Heap.IsCell, IsRange, IsRangeIter, Heap.IsListIter, Heap.IsTupleIter] at x
  · obtain ⟨o, _, _, h, _⟩ := x; exact ⟨o, h⟩
  · obtain ⟨_, _, h, _⟩ := x; exact ⟨_, h⟩
  · obtain ⟨_, _, h, _⟩ := x; exact ⟨_, h⟩
  · obtain ⟨_, ⟨o, _, _, h, _⟩, _⟩ := x; exact ⟨o, h⟩
  · obtain ⟨_, ⟨o, _, _, h, _⟩, _⟩ := x; exact ⟨o, h⟩
  · obtain ⟨o, h, _⟩ := x; exact ⟨o, h⟩
  · obtain ⟨_, ⟨o, h, _⟩, _⟩ := x; exact ⟨o, h⟩
  · exact ⟨_, x⟩
  · obtain ⟨_, _, _, h⟩ := x; exact ⟨_, h⟩
  · exact ⟨_, x⟩
  · obtain ⟨o, h, _⟩ := x; exact ⟨o, h⟩
  · obtain ⟨o, h, _⟩ := x; exact ⟨o, h⟩

structure St (c : Cx) (S : Stk) (H : AH) (s : Shared) : Prop where
  keep : ∀ b o, c.g.get? b = some o → s.heap.get? b = some o
  sz : c.g.objs.size ≤ s.heap.objs.size
  fr : ∀ p ∈ S, c.g.objs.size ≤ p.1 ∧ H p.1 = none ∧ ∃ mc, s.heap.Ns p.1 mc ∧ Lo p.2 mc
  nd : (S.map (·.1)).Nodup
  ob : ∀ a o, H a = some o → c.g.objs.size ≤ a ∧ Abs c s.heap a o
  gens : s.gens = c.gens
  dr : s.drawn = c.drawn
  os : s.os = c.os

section
variable {c : Cx} {A : Around} {S : Stk} {H : AH} {s : Shared}

theorem St.size (x : St c S H s) : c.g.objs.size ≤ s.heap.objs.size := x.sz
theorem St.lt (x : St c S H s) {a : Addr} {o : AO} (h : H a = some o) : a < s.heap.objs.size := by
  obtain ⟨o, e⟩ := (x.ob a o h).2.there
  exact Heap.lt_size e
theorem St.free (x : St c S H s) {a : Addr} (h : s.heap.objs.size ≤ a) : H a = none := by
  cases e : H a with
  | none => rfl
  | some o => exact absurd (x.lt e) (Nat.not_lt.mpr h)

/-- the heap changed at places that nothing names -/
theorem St.ext (x : St c S H s) {h' : Heap} {tk : Nat} {a : Addr} (hne : S ≠ []) (hs : Heap.ExtBut a s.heap h') (ha : c.g.objs.size ≤ a) (hH : H a = none) (hS : ∀ p ∈ S, p.1 ≠ a) :
    St c S H { s with heap := h', toks := tk } where
  keep := fun b o e => hs b o (fun q => absurd (q ▸ Heap.lt_size e) (Nat.not_lt.mpr ha)) (x.keep b o e)
  sz := by
    obtain ⟨p, r, rfl⟩ := List.exists_cons_of_ne_nil hne
    obtain ⟨h1, _, mc, h3, _⟩ := x.fr p (.head _)
    exact Nat.le_of_lt (Nat.lt_of_le_of_lt h1 (h3.extBut hs (hS p (.head _))).lt)
  fr := fun p hp => by
    obtain ⟨h1, h2, mc, h3, h4⟩ := x.fr p hp
    exact ⟨h1, h2, mc, h3.extBut hs (hS p hp), h4⟩
  nd := x.nd
  ob := fun b o e => by
    obtain ⟨h1, h2⟩ := x.ob b o e
    obtain ⟨ob, hb⟩ := h2.there
    exact ⟨h1, h2.same (by rw [hb]; exact hs b ob (fun q => by subst q; rw [hH] at e; cases e) hb)⟩
  gens := x.gens
  dr := x.dr
  os := x.os

theorem St.toks (x : St c S H s) (tk : Nat) : St c S H { s with toks := tk } :=
  ⟨x.keep, x.sz, x.fr, x.nd, x.ob, x.gens, x.dr, x.os⟩

/-- one object changed -/
theorem St.upd (x : St c S H s) {h' : Heap} {tk : Nat} {a : Addr} {o o' : AO} (ha : H a = some o) (hs : Heap.SameBut a s.heap h') (hn : Abs c h' a o') : St c S (H.set a o') { s with heap := h', toks := tk } where
  keep := fun b ob e => (hs.2 b (fun q => absurd (q ▸ Heap.lt_size e) (Nat.not_lt.mpr (x.ob a o ha).1))).trans (x.keep b ob e)
  sz := by rw [hs.1]; exact x.sz
  fr := fun p hp => by
    obtain ⟨h1, h2, mc, h3, h4⟩ := x.fr p hp
    have hne : p.1 ≠ a := fun q => by rw [q, ha] at h2; cases h2
    exact ⟨h1, (AH.set_ne hne).trans h2, mc, h3.sameBut hs hne, h4⟩
  nd := x.nd
  ob := fun b ob e => by
    by_cases q : b = a
    · subst q; rw [AH.set_self] at e; cases e; exact ⟨(x.ob b o ha).1, hn⟩
    · rw [AH.set_ne q] at e
      exact ⟨(x.ob b ob e).1, (x.ob b ob e).2.same (hs.2 b q)⟩
  gens := x.gens
  dr := x.dr
  os := x.os

/-- a new object, at the end -/
theorem St.push (x : St c S H s) {o : Obj} {ao : AO} (hn : Abs c (s.heap.push o) s.heap.objs.size ao) : St c S (H.set s.heap.objs.size ao) { s with heap := s.heap.push o } where
  keep := fun b ob e => Heap.get?_push_of_some o (x.keep b ob e)
  sz := by rw [Heap.size_push]; exact Nat.le_succ_of_le x.sz
  fr := fun p hp => by
    obtain ⟨h1, h2, mc, h3, h4⟩ := x.fr p hp
    exact ⟨h1, (AH.set_ne (Nat.ne_of_lt h3.lt)).trans h2, mc, h3.push o, h4⟩
  nd := x.nd
  ob := fun b ob e => by
    by_cases q : b = s.heap.objs.size
    · subst q; rw [AH.set_self] at e; cases e; exact ⟨x.size, hn⟩
    · rw [AH.set_ne q] at e
      obtain ⟨h1, h2⟩ := x.ob b ob e
      obtain ⟨oo, hb⟩ := h2.there
      exact ⟨h1, h2.same (by rw [Heap.get?_push_of_some o hb, hb])⟩
  gens := x.gens
  dr := x.dr
  os := x.os

/-- forget -/
theorem St.less (x : St c S H s) {H' : AH} (h : ∀ a o, H' a = some o → H a = some o) : St c S H' s where
  keep := x.keep
  sz := x.sz
  fr := fun p hp => by
    obtain ⟨h1, h2, h3⟩ := x.fr p hp
    refine ⟨h1, ?_, h3⟩
    cases e : H' p.1 with
    | none => rfl
    | some o => rw [h _ _ e] at h2; cases h2
  nd := x.nd
  ob := fun a o e => x.ob a o (h a o e)
  gens := x.gens
  dr := x.dr
  os := x.os

/-- a tree, from a state to states -/
noncomputable def R (c : Cx) (A : Around) {α : Type} (t : Sem α) (E : Value → Shared → Prop) (S : Stk) (H : AH) (Q : α → AH → Prop) : Prop :=
  ∀ s, St c S H s → wpAny (model c.prog c.w) A t (fun a s' => ∃ H', St c S H' s' ∧ Q a H') E s

variable {α β : Type} {E : Value → Shared → Prop}
theorem R.run {t : Sem α} {Q : α → AH → Prop} (h : R c A t E S H Q) (z : St c S H s) {P : α → Shared → Prop} (k : ∀ a s' H', St c S H' s' → Q a H' → P a s') : wpAny (model c.prog c.w) A t P E s :=
  wpAny_mono (h s z) (fun a s' ⟨H', x, q⟩ => k a s' H' x q) fun _ _ e => e
theorem R.bind {m : Sem α} {f : α → Sem β} {Q : β → AH → Prop} (h : R c A m E S H fun a H1 => R c A (f a) E S H1 Q) : R c A (m >>= f) E S H Q :=
  fun s x => wpAny_bind (R.run h x (fun a s1 _ x1 h1 => h1 s1 x1))
theorem R.mono {m : Sem α} {Q Q' : α → AH → Prop} (h : R c A m E S H Q) (q : ∀ a H', Q a H' → Q' a H') : R c A m E S H Q' :=
  fun s x => R.run h x (fun a s1 H1 x1 h1 => ⟨H1, x1, q a H1 h1⟩)
theorem R.pure {a : α} {Q : α → AH → Prop} (h : Q a H) : R c A (Pure.pure a) E S H Q := fun _ x => wpAny_pure ⟨H, x, h⟩
theorem R.less {m : Sem α} {Q : α → AH → Prop} {H' : AH} (h : R c A m E S H' Q) (l : ∀ a o, H' a = some o → H a = some o) : R c A m E S H Q :=
  fun s x => h s (x.less l)

/-- an expression -/
noncomputable def EV (c : Cx) (A : Around) (env : Env) (E : Value → Shared → Prop) (S : Stk) (e : Expr) (H : AH) (Q : Value → AH → Prop) : Prop := R c A (eval e env) E S H fun v H1 => Q (er v) H1
/-- a tree of a value -/
noncomputable def RV (c : Cx) (A : Around) (t : Sem Value) (E : Value → Shared → Prop) (S : Stk) (H : AH) (Q : Value → AH → Prop) : Prop := R c A t E S H fun v H1 => Q (er v) H1
/-- two operands -/
noncomputable def BIN (c : Cx) (A : Around) (E : Value → Shared → Prop) (S : Stk) (op : Operator) (a b : Value) (H : AH) (Q : Value → AH → Prop) : Prop :=
  ∀ x y, er x = a → er y = b → RV c A (binaryOp op x y) E S H Q
noncomputable def CMP (c : Cx) (A : Around) (E : Value → Shared → Prop) (S : Stk) (op : CmpOp) (a b : Value) (H : AH) (Q : Value → AH → Prop) : Prop :=
  ∀ x y, er x = a → er y = b → RV c A (compareOp op x y) E S H Q
noncomputable def UN (c : Cx) (A : Around) (E : Value → Shared → Prop) (S : Stk) (op : UnaryOp) (a : Value) (H : AH) (Q : Value → AH → Prop) : Prop :=
  ∀ x, er x = a → RV c A (unaryOp op x) E S H Q
noncomputable def TRU (c : Cx) (A : Around) (E : Value → Shared → Prop) (S : Stk) (a : Value) (H : AH) (Q : Bool → AH → Prop) : Prop :=
  ∀ x, er x = a → R c A (truthy x) E S H Q
/-- a test -/
noncomputable def TST (c : Cx) (A : Around) (env : Env) (E : Value → Shared → Prop) (S : Stk) (e : Expr) (H : AH) (Q : Bool → AH → Prop) : Prop := R c A (PySem.isTrue e env (eval e env)) E S H Q

section
variable {env : Env} {Q : Value → AH → Prop} {QB : Bool → AH → Prop}
theorem EV_BinOp {l r : Expr} {op : Operator} {pos : Pos} (h : EV c A env E S l H fun a H1 => EV c A env E S r H1 fun b H2 => BIN c A E S op a b H2 Q) : EV c A env E S (.BinOp l op r pos) H Q := fun s x =>
  wpAny_BinOp (R.run h x (fun a s1 _ x1 h1 => R.run h1 x1 (fun b s2 _ x2 h2 => h2 a b rfl rfl s2 x2)))
theorem EV_UnaryOp {e : Expr} {op : UnaryOp} {pos : Pos} (h : EV c A env E S e H fun a H1 => UN c A E S op a H1 Q) : EV c A env E S (.UnaryOp op e pos) H Q := fun s x =>
  wpAny_UnaryOp (R.run h x (fun a s1 _ x1 h1 => h1 a rfl s1 x1))
theorem EV_Compare {l r : Expr} {op : CmpOp} {pos : Pos} (h : EV c A env E S l H fun a H1 => EV c A env E S r H1 fun b H2 => CMP c A E S op a b H2 Q) (hb : behindInMarks op r = false := by rfl) : EV c A env E S (.Compare l [op] [r] pos) H Q := fun s x =>
  wpAny_Compare1 (R.run h x (fun a s1 _ x1 h1 => R.run h1 x1 (fun b s2 _ x2 h2 => h2 a b rfl rfl s2 x2))) hb
theorem EV_IfExp {t b o : Expr} {pos : Pos} (h : TST c A env E S t H fun z H1 => if z = true then EV c A env E S b H1 Q else EV c A env E S o H1 Q) : EV c A env E S (.IfExp t b o pos) H Q := fun s x =>
  wpAny_IfExp (R.run h x (fun z s1 _ x1 h1 => by cases z <;> exact h1 s1 x1))
theorem EV_int {i : Int} {k : Nat} {pos : Pos} (h : Q (.int i 0) H) : EV c A env E S (.Constant (.int i) k pos) H Q := fun s x =>
  wpAny_Constant_int ⟨H, x.toks _, h⟩
theorem EV_str {i : Str} {k : Nat} {pos : Pos} (h : Q (.str i 0) H) : EV c A env E S (.Constant (.str i) k pos) H Q := fun s x =>
  wpAny_Constant_str ⟨H, x.toks _, h⟩
theorem EV_bool {i : Bool} {k : Nat} {pos : Pos} (h : Q (.bool i) H) : EV c A env E S (.Constant (.bool i) k pos) H Q := fun s x =>
  wpAny_Constant_bool ⟨H, x, h⟩
theorem EV_none {k : Nat} {pos : Pos} (h : Q .none H) : EV c A env E S (.Constant .none k pos) H Q := fun s x =>
  wpAny_Constant_none ⟨H, x, h⟩
theorem TST_Compare {l r : Expr} {op : CmpOp} {pos : Pos} (h : EV c A env E S l H fun a H1 => EV c A env E S r H1 fun b H2 => CMP c A E S op a b H2 fun v H3 => TRU c A E S v H3 QB) (hb : behindInMarks op r = false := by rfl) : TST c A env E S (.Compare l [op] [r] pos) H QB := fun s x =>
  wpAny_isTrue_Compare1 (R.run h x (fun a s1 _ x1 h1 => R.run h1 x1 (fun b s2 _ x2 h2 => R.run (h2 a b rfl rfl) x2 (fun v s3 _ x3 h3 => h3 v rfl s3 x3)))) hb
theorem TST_Not {e : Expr} {pos : Pos} (h : TST c A env E S e H fun b H1 => QB (!b) H1) : TST c A env E S (.UnaryOp .Not e pos) H QB := fun s x =>
  wpAny_isTrue_Not (h s x)
theorem TST_val {e : Expr} (h : EV c A env E S e H fun a H1 => TRU c A E S a H1 QB) (hb : PySem.isTrue e env (eval e env) = (do let v ← eval e env; standAt e.pos; holding [v] (truthy v)) := by rfl) : TST c A env E S e H QB := fun s x =>
  wpAny_isTrue_value (R.run h x (fun a s1 _ x1 h1 => h1 a rfl s1 x1)) hb
theorem TST_And {a b : Expr} {pos : Pos} (h : TST c A env E S a H fun z H1 => if z = true then TST c A env E S b H1 QB else QB false H1) : TST c A env E S (.BoolOp .And [a, b] pos) H QB := fun s x =>
  wpAny_isTrue_BoolOp (wpAny_allTrue_And_cons (R.run h x (fun z s1 H1 x1 h1 => by
    cases z
    · exact ⟨H1, x1, h1⟩
    · exact wpAny_allTrue_And_cons (R.run h1 x1 (fun z2 s2 H2 x2 h2 => by
        cases z2
        · exact ⟨H2, x2, h2⟩
        · exact wpAny_allTrue_And_nil ⟨H2, x2, h2⟩)))))
theorem TST_Or {a b : Expr} {pos : Pos} (h : TST c A env E S a H fun z H1 => if z = true then QB true H1 else TST c A env E S b H1 QB) : TST c A env E S (.BoolOp .Or [a, b] pos) H QB := fun s x =>
  wpAny_isTrue_BoolOp (wpAny_allTrue_Or_cons (R.run h x (fun z s1 H1 x1 h1 => by
    cases z
    · exact wpAny_allTrue_Or_cons (R.run h1 x1 (fun z2 s2 H2 x2 h2 => by
        cases z2
        · exact wpAny_allTrue_Or_nil ⟨H2, x2, h2⟩
        · exact ⟨H2, x2, h2⟩))
    · exact ⟨H1, x1, h1⟩)))
theorem EV_Or {a b : Expr} {pos : Pos} (h : EV c A env E S a H fun v H1 => TRU c A E S v H1 fun z H2 => if z = true then Q v H2 else EV c A env E S b H2 Q) : EV c A env E S (.BoolOp .Or [a, b] pos) H Q := fun s x =>
  wpAny_Or2 (R.run h x (fun v s1 _ x1 h1 => R.run (h1 v rfl) x1 (fun z s2 H2 x2 h2 => by
    cases z
    · exact h2 s2 x2
    · exact ⟨H2, x2, h2⟩)))

-- truth
theorem TRU_bool {b : Bool} (h : QB b H) : TRU c A E S (.bool b) H QB := fun v e s x => by
  rw [er_bool e]; exact wpAny_truthy_bool ⟨H, x, h⟩
theorem TRU_int {i : Int} (h : QB (i != 0) H) : TRU c A E S (.int i 0) H QB := fun v e s x => by
  obtain ⟨t, rfl⟩ := er_int e; exact truthy_int ⟨H, x, h⟩

-- arithmetic
theorem BIN_add {i j : Int} (h : Q (.int (i + j) 0) H) : BIN c A E S .Add (.int i 0) (.int j 0) H Q := fun u v eu ev s x => by
  obtain ⟨t, rfl⟩ := er_int eu; obtain ⟨t', rfl⟩ := er_int ev; exact add_int ⟨H, x.toks _, h⟩
theorem BIN_sub {i j : Int} (h : Q (.int (i - j) 0) H) : BIN c A E S .Sub (.int i 0) (.int j 0) H Q := fun u v eu ev s x => by
  obtain ⟨t, rfl⟩ := er_int eu; obtain ⟨t', rfl⟩ := er_int ev; exact sub_int ⟨H, x.toks _, h⟩
theorem BIN_and {i j : Int} (h : Q (.int (Builtin.bitAnd i j) 0) H) : BIN c A E S .BitAnd (.int i 0) (.int j 0) H Q := fun u v eu ev s x => by
  obtain ⟨t, rfl⟩ := er_int eu; obtain ⟨t', rfl⟩ := er_int ev; exact and_int ⟨H, x.toks _, h⟩
theorem BIN_or {i j : Int} (h : Q (.int (Builtin.bitOr i j) 0) H) : BIN c A E S .BitOr (.int i 0) (.int j 0) H Q := fun u v eu ev s x => by
  obtain ⟨t, rfl⟩ := er_int eu; obtain ⟨t', rfl⟩ := er_int ev; exact or_int ⟨H, x.toks _, h⟩
theorem BIN_xor {i j : Int} (h : Q (.int (Builtin.bitXor i j) 0) H) : BIN c A E S .BitXor (.int i 0) (.int j 0) H Q := fun u v eu ev s x => by
  obtain ⟨t, rfl⟩ := er_int eu; obtain ⟨t', rfl⟩ := er_int ev; exact xor_int ⟨H, x.toks _, h⟩
theorem BIN_shl {i j : Int} (h0 : 0 ≤ j) (h1 : j ≤ 1000000) (h2 : i.natAbs < 2 ^ 64) (h : Q (.int (i * 2 ^ j.toNat) 0) H) : BIN c A E S .LShift (.int i 0) (.int j 0) H Q := fun u v eu ev s x => by
  obtain ⟨t, rfl⟩ := er_int eu; obtain ⟨t', rfl⟩ := er_int ev; exact lshift_int_small h0 h1 h2 ⟨H, x.toks _, h⟩
theorem BIN_shr {i j : Int} (h0 : 0 ≤ j) (h : Q (.int (i.fdiv (2 ^ j.toNat)) 0) H) : BIN c A E S .RShift (.int i 0) (.int j 0) H Q := fun u v eu ev s x => by
  obtain ⟨t, rfl⟩ := er_int eu; obtain ⟨t', rfl⟩ := er_int ev; exact rshift_int h0 ⟨H, x.toks _, h⟩
theorem BIN_mul {i j : Int} (h0 : IntMulOk i j) (h : Q (.int (i * j) 0) H) : BIN c A E S .Mult (.int i 0) (.int j 0) H Q := fun u v eu ev s x => by
  obtain ⟨t, rfl⟩ := er_int eu; obtain ⟨t', rfl⟩ := er_int ev; exact mul_int ⟨H, x.toks _, h⟩ h0
theorem BIN_mod {i j : Int} (h0 : j ≠ 0) (h : Q (.int (i.fmod j) 0) H) : BIN c A E S .Mod (.int i 0) (.int j 0) H Q := fun u v eu ev s x => by
  obtain ⟨t, rfl⟩ := er_int eu; obtain ⟨t', rfl⟩ := er_int ev; exact mod_int' h0 ⟨H, x.toks _, h⟩
theorem BIN_div {i j : Int} (h0 : j ≠ 0) (h1 : Builtin.divisionGoesByPylong i j = false) (h : Q (.int (i.fdiv j) 0) H) : BIN c A E S .FloorDiv (.int i 0) (.int j 0) H Q := fun u v eu ev s x => by
  obtain ⟨t, rfl⟩ := er_int eu; obtain ⟨t', rfl⟩ := er_int ev; exact floordiv_int h0 ⟨H, x.toks _, h⟩ (.inl h1)
theorem BIN_pow {i j : Int} (h0 : 0 ≤ j) (h1 : (Builtin.Int.intBits i : Int) * j ≤ 2 ^ 27) (h : Q (.int (i ^ j.toNat) 0) H) : BIN c A E S .Pow (.int i 0) (.int j 0) H Q := fun u v eu ev s x => by
  obtain ⟨t, rfl⟩ := er_int eu; obtain ⟨t', rfl⟩ := er_int ev; exact pow_int h0 h1 ⟨H, x.toks _, h⟩
theorem UN_neg {i : Int} (h : Q (.int (-i) 0) H) : UN c A E S .USub (.int i 0) H Q := fun u eu s x => by
  obtain ⟨t, rfl⟩ := er_int eu; exact neg_int ⟨H, x.toks _, h⟩
-- comparisons of ints
theorem CMP_eq {i j : Int} (h : Q (.bool (decide (i = j))) H) : CMP c A E S .Eq (.int i 0) (.int j 0) H Q := fun u v eu ev s x => by
  obtain ⟨t, rfl⟩ := er_int eu; obtain ⟨t', rfl⟩ := er_int ev; exact eq_int ⟨H, x, h⟩
theorem CMP_ne {i j : Int} (h : Q (.bool (!decide (i = j))) H) : CMP c A E S .NotEq (.int i 0) (.int j 0) H Q := fun u v eu ev s x => by
  obtain ⟨t, rfl⟩ := er_int eu; obtain ⟨t', rfl⟩ := er_int ev; exact ne_int ⟨H, x, h⟩
theorem CMP_lt {i j : Int} (h : Q (.bool (decide (i < j))) H) : CMP c A E S .Lt (.int i 0) (.int j 0) H Q := fun u v eu ev s x => by
  obtain ⟨t, rfl⟩ := er_int eu; obtain ⟨t', rfl⟩ := er_int ev; exact lt_int ⟨H, x, h⟩
theorem CMP_le {i j : Int} (h : Q (.bool (decide (i ≤ j))) H) : CMP c A E S .LtE (.int i 0) (.int j 0) H Q := fun u v eu ev s x => by
  obtain ⟨t, rfl⟩ := er_int eu; obtain ⟨t', rfl⟩ := er_int ev; exact le_int ⟨H, x, h⟩
theorem CMP_gt {i j : Int} (h : Q (.bool (decide (j < i))) H) : CMP c A E S .Gt (.int i 0) (.int j 0) H Q := fun u v eu ev s x => by
  obtain ⟨t, rfl⟩ := er_int eu; obtain ⟨t', rfl⟩ := er_int ev; exact gt_int ⟨H, x, h⟩
theorem CMP_ge {i j : Int} (h : Q (.bool (decide (j ≤ i))) H) : CMP c A E S .GtE (.int i 0) (.int j 0) H Q := fun u v eu ev s x => by
  obtain ⟨t, rfl⟩ := er_int eu; obtain ⟨t', rfl⟩ := er_int ev; exact ge_int ⟨H, x, h⟩
theorem CMP_eqs {i j : Str} (h : Q (.bool (i == j)) H) : CMP c A E S .Eq (.str i 0) (.str j 0) H Q := fun u v eu ev s x => by
  obtain ⟨t, rfl⟩ := er_str eu; obtain ⟨t', rfl⟩ := er_str ev; exact eq_str ⟨H, x, h⟩
end
end
end Mine
end
section
open PySem PySem.W PyProof.Rows PySem.Calls
namespace Mine
section
variable {c : Cx} {A : Around} {E : Value → Shared → Prop} {env : Env} {S : Stk} {H : AH} {s : Shared} {Q : Value → AH → Prop}

theorem EV_local {x : Str} {pos : Pos} {L : Addr} {m : Loc} {v : Value} (hx : m.lookup x = some v) (h : Q v H) (hL : env.locals = L := by rfl)
    (hk : env.scope.kind = .function := by rfl) (hl : env.kindOf x = some .local := by rfl) (hd : (x == ("__debug__" : Str)) = false := by decide +kernel) : EV c A env E ((L, m) :: S) (.Name x pos) H Q := fun s z => by
  obtain ⟨_, _, mc, hn, hlo⟩ := z.fr _ (.head _)
  obtain ⟨v', h1, h2⟩ := hlo x v hx
  exact wpAny_Name (wpAny_loadName_local hk hl (hL ▸ hn) h1 ⟨H, z, by show Q (er v') H; rw [h2]; exact h⟩) hd
theorem EV_cell {x : Str} {pos : Pos} {a : Addr} {v : Value} (hc : env.cells.lookup x = some a) (ha : H a = some (.cell (some v))) (h : Q v H)
    (hk : env.scope.kind = .function := by rfl) (hl : env.kindOf x = some .cell := by rfl) (hd : (x == ("__debug__" : Str)) = false := by decide +kernel) : EV c A env E S (.Name x pos) H Q := fun s z => by
  obtain ⟨_, v', h1, h2⟩ := z.ob _ _ ha
  cases v' with
  | none => cases h2
  | some v' =>
    simp only [Option.map_some, Option.some.injEq] at h2
    exact wpAny_Name (wpAny_loadName_cell hk hl hc h1 ⟨H, z, by show Q (er v') H; rw [h2]; exact h⟩) hd
theorem EV_free {x : Str} {pos : Pos} {a : Addr} {v : Value} (hc : env.cells.lookup x = some a) (ha : H a = some (.cell (some v))) (h : Q v H)
    (hk : env.scope.kind = .function := by rfl) (hl : env.kindOf x = some .free := by rfl) (hd : (x == ("__debug__" : Str)) = false := by decide +kernel) (hd' : (x == ("__classdict__" : Str)) = false := by decide +kernel) : EV c A env E S (.Name x pos) H Q := fun s z => by
  obtain ⟨_, v', h1, h2⟩ := z.ob _ _ ha
  cases v' with
  | none => cases h2
  | some v' =>
    simp only [Option.map_some, Option.some.injEq] at h2
    exact wpAny_Name (wpAny_loadName_free hk hl hc h1 ⟨H, z, by show Q (er v') H; rw [h2]; exact h⟩ hd') hd
theorem EV_global (C : c.Ok) {x : Str} {pos : Pos} {v : Value} (e : nsIn c.K mainGlobals x = some (some v)) (h : Q (er v) H) (hg : env.globals = mainGlobals := by rfl)
    (hk : env.scope.kind = .function := by rfl) (hl : env.kindOf x = some .globalImplicit := by rfl) (hd : (x == ("__debug__" : Str)) = false := by decide +kernel) : EV c A env E S (.Name x pos) H Q := fun s z => by
  obtain ⟨p, loose, mg, mb, T⟩ := C.top
  exact Name_function_global hk hl (loadGlobal_global (hg ▸ T.g.keeps z.keep) (mg_of C.kin T.g e) ⟨H, z, h⟩) hd
theorem EV_builtin (C : c.Ok) {x : Str} {pos : Pos} {v : Value} (e : nsIn c.K mainGlobals x = some none) (hv : bootBuiltins x = some v) (hn : x ≠ "__name__") (h : Q (er v) H) (hg : env.globals = mainGlobals := by rfl) (hb : env.builtins = builtinsNs := by rfl)
    (hk : env.scope.kind = .function := by rfl) (hl : env.kindOf x = some .globalImplicit := by rfl) (hd : (x == ("__debug__" : Str)) = false := by decide +kernel) : EV c A env E S (.Name x pos) H Q := fun s z => by
  obtain ⟨p, loose, mg, mb, T⟩ := C.top
  exact Name_function_global hk hl (loadGlobal_builtin (hg ▸ T.g.keeps z.keep) (mg_none_of C.kin T.g e) (hb ▸ T.b.keeps z.keep) ((T.builtins x hn).trans hv) ⟨H, z, h⟩) hd

/-- the arguments, in their order -/
noncomputable def EVs (c : Cx) (A : Around) (env : Env) (E : Value → Shared → Prop) (S : Stk) (pos : Pos) (es : List Expr) (H : AH) (Q : List Value → AH → Prop) : Prop :=
  R c A (spliced (backTo pos (starEach es env))) E S H fun vs H1 => Q (vs.map er) H1
theorem EVs_nil {pos : Pos} {Q : List Value → AH → Prop} (h : Q [] H) : EVs c A env E S pos [] H Q := fun s z => spliced_none ⟨H, z, h⟩
theorem EVs_cons {pos : Pos} {e : Expr} {rest : List Expr} {Q : List Value → AH → Prop} (h : EV c A env E S e H fun v H1 => EVs c A env E S pos rest H1 fun vs H2 => Q (v :: vs) H2)
    (he : starEach (e :: rest) env = (false, eval e env) :: starEach rest env := by rfl) : EVs c A env E S pos (e :: rest) H Q := fun s z =>
  spliced_more (R.run h z (fun v s1 _ x1 h1 => R.run h1 x1 (fun vs s2 H2 x2 h2 => ⟨H2, x2, h2⟩))) he

/-- a call -/
noncomputable def CV (c : Cx) (A : Around) (E : Value → Shared → Prop) (S : Stk) (f : Value) (vs : List Value) (H : AH) (Q : Value → AH → Prop) : Prop :=
  ∀ xs, xs.map er = vs → RV c A (call f xs) E S H Q

/-- whose callees the machine keeps -/
noncomputable def Kept (c : Cx) (f : Value) : Prop := ∀ h, c.K.In h → ∃ k, (k = Keeper.frame ∨ k = Keeper.machine ∨ k = Keeper.boundFrame) ∧ Looks (model c.prog c.w) h (keeperOf f) k
theorem Kept.of {f : Value} (h : keepIn c.K f = true) : Kept c f := fun _ X => keeps_K h _ X
theorem Kept.builtin {i : String} : Kept c (.builtin i) := fun _ _ => ⟨.machine, .inr (.inl rfl), Looks.of_pure rfl⟩
theorem Kept.type {i : String} : Kept c (.type i) := fun _ _ => ⟨.machine, .inr (.inl rfl), Looks.of_pure rfl⟩

theorem R_callWith (C : c.Ok) {f : Value} {first : List Value} {pos : Pos} {es : List Expr} (hk : Kept c f)
    (h : EVs c A env E S pos es H fun vs H1 => CV c A E S f (first.map er ++ vs) H1 Q) (hs : starEach es env = es.map fun e => (false, eval e env) := by rfl) :
    RV c A (callWith pos f first (backTo pos (starEach es env)) []) E S H Q := fun s z => by
  have hb : backTo pos (starEach es env) = es.map fun e => (false, eval e env) := by
    rw [hs]; simp [backTo]
  unfold EVs at h
  rw [hb] at h ⊢
  have fin : wpAny (model c.prog c.w) A (evalArgs f true (es.map fun e => (false, eval e env)) []) (fun a s₁ => c.K.In s₁.heap ∧ wpAny (model c.prog c.w) A (call f (first ++ a.pos) a.kw) (fun a s' => ∃ H', St c S H' s' ∧ Q (er a) H') E s₁) E s := by
    have h' := h s z
    cases es with
    | nil =>
      refine evalArgs_nil3 ?_
      have h'' := wpAny_mono (Q' := fun vs s₁ => vs = [] → c.K.In s₁.heap ∧ wpAny (model c.prog c.w) A (call f (first ++ vs)) (fun a s' => ∃ H', St c S H' s' ∧ Q (er a) H') E s₁) h' (fun vs s1 ⟨H1, x1, h1⟩ _ => ⟨C.kin.keeps x1.keep, h1 (first ++ vs) (by simp) s1 x1⟩) fun _ _ e => e
      have q : ∀ {P : List Value → Shared → Prop}, wpAny (model c.prog c.w) A (spliced ([].map fun e => (false, eval e env))) P E s → ∀ Γ : Ctx, Γ.In A → P [] s := fun hp Γ hΓ => hp Γ default hΓ
      refine ⟨C.kin.keeps z.keep, fun Γ p hΓ => ?_⟩
      exact (q h'' Γ hΓ rfl).2 Γ p hΓ
    | cons e rest =>
      exact evalArgs_plain (wpAny_mono h' (fun vs s1 ⟨H1, x1, h1⟩ => ⟨C.kin.keeps x1.keep, h1 (first ++ vs) (by simp) s1 x1⟩) fun _ _ e => e)
  exact callWith_of (P := fun h => c.K.In h) (by simp) hk fin

/-- a call of a def or a class of the top -/
theorem EV_Call_global (C : c.Ok) {x : Str} {p pos : Pos} {es : List Expr} {a : Addr} (e : nsIn c.K mainGlobals x = some (some (.ref a))) (hk : keepIn c.K (.ref a) = true)
    (h : EVs c A env E S pos es H fun vs H1 => CV c A E S (.ref a) vs H1 Q) (hs : starEach es env = es.map fun e => (false, eval e env) := by rfl) (hg : env.globals = mainGlobals := by rfl)
    (hk' : env.scope.kind = .function := by rfl) (hl : env.kindOf x = some .globalImplicit := by rfl) (hd : (x == ("__debug__" : Str)) = false := by decide +kernel) : EV c A env E S (.Call (.Name x p) es [] pos) H Q := fun s z => by
  show wpAny _ _ (eval (.Name x p) env >>= fun f => callWith pos f [] (backTo pos (starEach es env)) []) _ _ _
  refine wpAny_bind (wpAny_mono (EV_global C e (Q := fun v H' => v = .ref a ∧ H' = H) ⟨rfl, rfl⟩ hg hk' hl hd s z) (fun v s1 ⟨H1, x1, e1, e2⟩ => ?_) fun _ _ e => e)
  rw [er_ref e1]; subst e2
  exact R_callWith C (Kept.of hk) (by simpa using h) hs s1 x1
theorem EV_Call_builtin (C : c.Ok) {x : Str} {p pos : Pos} {es : List Expr} {v : Value} (e : nsIn c.K mainGlobals x = some none) (hv : bootBuiltins x = some v) (hn : x ≠ "__name__") (hk : Kept c v) (hr : ∀ u, er u = er v → u = v)
    (h : EVs c A env E S pos es H fun vs H1 => CV c A E S v vs H1 Q) (hs : starEach es env = es.map fun e => (false, eval e env) := by rfl) (hg : env.globals = mainGlobals := by rfl) (hb : env.builtins = builtinsNs := by rfl)
    (hk' : env.scope.kind = .function := by rfl) (hl : env.kindOf x = some .globalImplicit := by rfl) (hd : (x == ("__debug__" : Str)) = false := by decide +kernel) : EV c A env E S (.Call (.Name x p) es [] pos) H Q := fun s z => by
  show wpAny _ _ (eval (.Name x p) env >>= fun f => callWith pos f [] (backTo pos (starEach es env)) []) _ _ _
  refine wpAny_bind (wpAny_mono (EV_builtin C e hv hn (Q := fun u H' => u = er v ∧ H' = H) ⟨rfl, rfl⟩ hg hb hk' hl hd s z) (fun u s1 ⟨H1, x1, e1, e2⟩ => ?_) fun _ _ e => e)
  rw [hr u e1]; subst e2
  exact R_callWith C hk (by simpa using h) hs s1 x1
end
end Mine
end
section
open PySem PySem.W PyProof.Rows PySem.Calls
namespace Mine
section
variable {c : Cx} {A : Around} {E : Value → Shared → Prop} {env : Env} {L : Addr} {S : Stk} {m : Loc} {H : AH} {s : Shared} {Q : Flow → Loc → AH → Prop}

/-- a flow without its token -/
noncomputable def erF : Flow → Flow
  | .ret v => .ret (er v)
  | f => f
/-- statements: the own frame's names turn -/
noncomputable def X (c : Cx) (A : Around) (E : Value → Shared → Prop) (L : Addr) (S : Stk) (m : Loc) (t : Sem Flow) (H : AH) (Q : Flow → Loc → AH → Prop) : Prop :=
  ∀ s, St c ((L, m) :: S) H s → wpAny (model c.prog c.w) A t (fun fl s' => ∃ m' H', St c ((L, m') :: S) H' s' ∧ Q (erF fl) m' H') E s
noncomputable abbrev XS (c : Cx) (A : Around) (env : Env) (E : Value → Shared → Prop) (L : Addr) (S : Stk) (m : Loc) (b : List Stmt) (H : AH) (Q : Flow → Loc → AH → Prop) : Prop := X c A E L S m (execs b env) H Q
noncomputable abbrev XE (c : Cx) (A : Around) (env : Env) (E : Value → Shared → Prop) (L : Addr) (S : Stk) (m : Loc) (b : Stmt) (H : AH) (Q : Flow → Loc → AH → Prop) : Prop := X c A E L S m (exec b env) H Q
noncomputable def Then (c : Cx) (A : Around) (env : Env) (E : Value → Shared → Prop) (L : Addr) (S : Stk) (Q : Flow → Loc → AH → Prop) (rest : List Stmt) (fl : Flow) (m : Loc) (H : AH) : Prop :=
  match fl with
  | .next => XS c A env E L S m rest H Q
  | f => Q f m H

theorem Then_next {rest : List Stmt} (h : XS c A env E L S m rest H Q) : Then c A env E L S Q rest .next m H := h
theorem Then_ret {rest : List Stmt} {v : Value} (h : Q (.ret v) m H) : Then c A env E L S Q rest (.ret v) m H := h
theorem Then_brk {rest : List Stmt} (h : Q .brk m H) : Then c A env E L S Q rest .brk m H := h

theorem XS_nil (h : Q .next m H) : XS c A env E L S m [] H Q := fun s z => wpAny_execs_nil ⟨m, H, z, h⟩
theorem XS_cons {b : Stmt} {rest : List Stmt} (h : XE c A env E L S m b H (Then c A env E L S Q rest)) : XS c A env E L S m (b :: rest) H Q := fun s z =>
  wpAny_execs_cons (wpAny_mono (h s z) (fun fl s1 ⟨m1, H1, x1, h1⟩ => by
    cases fl with
    | next => exact h1 s1 x1
    | _ => exact ⟨m1, H1, x1, h1⟩) fun _ _ e => e)
theorem X.mono {t : Sem Flow} {Q' : Flow → Loc → AH → Prop} (h : X c A E L S m t H Q) (q : ∀ f m' H', Q f m' H' → Q' f m' H') : X c A E L S m t H Q' := fun s z =>
  wpAny_mono (h s z) (fun _ _ ⟨m1, H1, x1, h1⟩ => ⟨m1, H1, x1, q _ _ _ h1⟩) fun _ _ e => e
theorem X.less {t : Sem Flow} {H' : AH} (h : X c A E L S m t H' Q) (l : ∀ a o, H' a = some o → H a = some o) : X c A E L S m t H Q := fun s z => h s (z.less l)

/-- a name of the frame is bound -/
noncomputable def setL (x : Str) (v : Value) : Loc → Loc
  | [] => [(x, v)]
  | p :: r => if x == p.1 then (p.1, v) :: r else p :: setL x v r
theorem lookup_cons_eq {x : Str} {v : Value} {r : Loc} : List.lookup x ((x, v) :: r) = some v := by simp [List.lookup]
theorem lookup_cons_ne {x y : Str} {v : Value} {r : Loc} (h : y ≠ x) : List.lookup y ((x, v) :: r) = List.lookup y r := by
  simp only [List.lookup, beq_eq_false_iff_ne.mpr h]
theorem setL_lookup (x : Str) (v : Value) : ∀ (m : Loc) (y : Str), (setL x v m).lookup y = if y = x then some v else m.lookup y
  | [], y => by
    by_cases h : y = x
    · subst h; rw [if_pos rfl]; exact lookup_cons_eq
    · rw [if_neg h]; exact lookup_cons_ne h
  | (z, u) :: r, y => by
    have ih := setL_lookup x v r y
    simp only [setL]
    by_cases hxz : x = z
    · subst hxz
      simp only [beq_self_eq_true, if_true]
      by_cases h : y = x
      · subst h; rw [if_pos rfl]; exact lookup_cons_eq
      · rw [if_neg h, lookup_cons_ne h, lookup_cons_ne h]
    · rw [if_neg (by simpa using hxz)]
      by_cases h : y = z
      · subst h
        rw [lookup_cons_eq, lookup_cons_eq, if_neg (Ne.symm hxz)]
      · rw [lookup_cons_ne h, lookup_cons_ne h, ih]
theorem setL_length (x : Str) (v : Value) : ∀ m : Loc, (setL x v m).length = if (m.lookup x).isSome then m.length else m.length + 1
  | [] => rfl
  | (z, u) :: r => by
    have ih := setL_length x v r
    simp only [setL, List.lookup]
    by_cases h : x = z
    · simp [h]
    · simp only [beq_eq_false_iff_ne.mpr h, Bool.false_eq_true, if_false, List.length_cons, ih]
      split <;> rfl

theorem Lo.set {mc mc' : Str → Option Value} {x : Str} {v : Value} (h : Lo m mc) (e : ∀ y, mc' y = if y = x then some v else mc y) : Lo ((x, er v) :: m) mc' := by
  intro y u hu
  by_cases q : y = x
  · subst q; rw [lookup_cons_eq] at hu; cases hu; exact ⟨v, by rw [e, if_pos rfl], rfl⟩
  · rw [lookup_cons_ne q] at hu
    obtain ⟨v', h1, h2⟩ := h y u hu
    exact ⟨v', by rw [e, if_neg q]; exact h1, h2⟩
/-- the own frame changed -/
theorem St.frame (x : St c ((L, m) :: S) H s) {h' : Heap} {tk : Nat} {m' : Loc} {mc' : Str → Option Value} (hs : Heap.SameBut L s.heap h') (hn : h'.Ns L mc') (hl : Lo m' mc') : St c ((L, m') :: S) H { s with heap := h', toks := tk } where
  keep := fun b ob e => (hs.2 b (fun q => absurd (q ▸ Heap.lt_size e) (Nat.not_lt.mpr (x.fr _ (.head _)).1))).trans (x.keep b ob e)
  sz := by rw [hs.1]; exact x.sz
  fr := fun p hp => by
    rcases List.mem_cons.mp hp with rfl | hp'
    · exact ⟨(x.fr _ (.head _)).1, (x.fr _ (.head _)).2.1, mc', hn, hl⟩
    · obtain ⟨h1, h2, mc, h3, h4⟩ := x.fr p (.tail _ hp')
      have hne : p.1 ≠ L := fun q => by
        have := (List.nodup_cons.mp x.nd).1
        exact this (List.mem_map.mpr ⟨p, hp', q⟩)
      exact ⟨h1, h2, mc, h3.sameBut hs hne, h4⟩
  nd := x.nd
  ob := fun b ob e => ⟨(x.ob b ob e).1, (x.ob b ob e).2.same (hs.2 b (fun q => by have := (x.fr _ (.head _)).2.1; rw [q, this] at e; cases e))⟩
  gens := x.gens
  dr := x.dr
  os := x.os

/-- a store of a name -/
theorem store_local {x : Str} {v : Value} {P : Loc → AH → Prop} (h : P ((x, er v) :: m) H) (hL : env.locals = L) (hk : env.scope.kind = .function) (hl : env.kindOf x = some .local) (z : St c ((L, m) :: S) H s) :
    wpAny (model c.prog c.w) A (storeName env x v) (fun _ s' => ∃ m' H', St c ((L, m') :: S) H' s' ∧ P m' H') E s := by
  obtain ⟨_, _, mc, hn, hlo⟩ := z.fr _ (.head _)
  subst hL
  exact wpAny_storeName_local hl hn (fun h' hn' hs => ⟨_, H, z.frame hs hn' (hlo.set fun y => rfl), h⟩) (by rw [hk]; rfl)

theorem XE_assign {x : Str} {p pos : Pos} {e : Expr} (h : EV c A env E ((L, m) :: S) e H fun v H1 => Q .next ((x, v) :: m) H1) (hL : env.locals = L := by rfl) (hk : env.scope.kind = .function := by rfl) (hl : env.kindOf x = some .local := by rfl)
    (hs : swapsWith e (some (.Name x p)) pos.line env = pure false := by rfl) : XE c A env E L S m (.Assign [.Name x p] e pos) H Q := fun s z =>
  wpAny_Assign_Name (R.run h z (fun v s1 H1 x1 h1 => store_local (P := Q .next) h1 hL hk hl x1)) hs
theorem XE_expr {e : Expr} {pos : Pos} (h : EV c A env E ((L, m) :: S) e H fun v H1 => Q .next m H1) (hi : interactive env = false := by rfl) (hs : swapsWith e none pos.line env = pure false := by rfl) : XE c A env E L S m (.Expr e pos) H Q := fun s z =>
  wpAny_Expr_any (R.run h z (fun v s1 H1 x1 h1 => ⟨m, H1, x1, h1⟩)) hi hs
theorem XE_if {e : Expr} {b o : List Stmt} {pos : Pos} (h : TST c A env E ((L, m) :: S) e H fun z H1 => if z = true then XS c A env E L S m b H1 Q else XS c A env E L S m o H1 Q) : XE c A env E L S m (.If e b o pos) H Q := fun s z =>
  wpAny_If (R.run h z (fun z s1 H1 x1 h1 => by cases z <;> exact h1 s1 x1))
theorem XE_ret {e : Expr} {pos : Pos} (h : EV c A env E ((L, m) :: S) e H fun v H1 => Q (.ret v) m H1) : XE c A env E L S m (.Return (some e) pos) H Q := fun s z =>
  wpAny_Return_some (R.run h z (fun v s1 H1 x1 h1 => ⟨m, H1, x1, h1⟩))
theorem XE_ret0 {pos : Pos} (h : Q (.ret .none) m H) : XE c A env E L S m (.Return none pos) H Q := fun s z =>
  wpAny_Return_none ⟨m, H, z, h⟩
theorem XE_break {pos : Pos} (h : Q .brk m H) : XE c A env E L S m (.Break pos) H Q := fun s z =>
  wpAny_Break ⟨m, H, z, h⟩
theorem XE_pass {pos : Pos} (h : Q .next m H) : XE c A env E L S m (.Pass pos) H Q := fun s z =>
  wpAny_Pass ⟨m, H, z, h⟩
/-- a store into an item -/
noncomputable def SETI (c : Cx) (A : Around) (E : Value → Shared → Prop) (S : Stk) (o i v : Value) (H : AH) (Q : AH → Prop) : Prop :=
  ∀ x y z, er x = o → er y = i → er z = v → R c A (setItem x y z) E S H fun _ H1 => Q H1
noncomputable def SETA (c : Cx) (A : Around) (E : Value → Shared → Prop) (S : Stk) (o : Value) (n : Str) (v : Value) (H : AH) (Q : AH → Prop) : Prop :=
  ∀ x z, er x = o → er z = v → R c A (setAttr x n z) E S H fun _ H1 => Q H1
noncomputable def GETA (c : Cx) (A : Around) (E : Value → Shared → Prop) (S : Stk) (o : Value) (n : Str) (H : AH) (Q : Value → AH → Prop) : Prop :=
  ∀ x, er x = o → RV c A (getAttr x n true) E S H Q
noncomputable def GETI (c : Cx) (A : Around) (E : Value → Shared → Prop) (S : Stk) (o i : Value) (H : AH) (Q : Value → AH → Prop) : Prop :=
  ∀ x y, er x = o → er y = i → RV c A (getItem x y) E S H Q
noncomputable def INP (c : Cx) (A : Around) (E : Value → Shared → Prop) (S : Stk) (op : Operator) (a b : Value) (H : AH) (Q : Value → AH → Prop) : Prop :=
  ∀ x y, er x = a → er y = b → RV c A (inplaceOp op x y) E S H Q
theorem XE_assign_item {o i e : Expr} {p pos : Pos} (h : EV c A env E ((L, m) :: S) e H fun v H1 => EV c A env E ((L, m) :: S) o H1 fun ov H2 => EV c A env E ((L, m) :: S) i H2 fun iv H3 => SETI c A E ((L, m) :: S) ov iv v H3 fun H4 => Q .next m H4)
    (hs : swapsWith e (some (o.Subscript i p)) pos.line env = pure false := by rfl) : XE c A env E L S m (.Assign [.Subscript o i p] e pos) H Q := fun s z =>
  wpAny_Assign_Subscript (R.run h z (fun v s1 _ x1 h1 => R.run h1 x1 (fun ov s2 _ x2 h2 => wpAny_mono (h2 s2 x2) (fun iv s3 ⟨_, x3, h3⟩ =>
    R.run (h3 ov iv v rfl rfl rfl) x3 (fun _ s4 H4 x4 h4 => ⟨m, H4, x4, h4⟩)) fun _ _ e => e))) hs
theorem XE_aug_attr {o e : Expr} {n : Str} {op : Operator} {tp pos : Pos} (h : EV c A env E ((L, m) :: S) o H fun ov H1 => GETA c A E ((L, m) :: S) ov n H1 fun old H2 => EV c A env E ((L, m) :: S) e H2 fun v H3 => INP c A E ((L, m) :: S) op old v H3 fun new H4 =>
    SETA c A E ((L, m) :: S) ov n new H4 fun H5 => Q .next m H5) : XE c A env E L S m (.AugAssign (.Attribute o n tp) op e pos) H Q := fun s z =>
  wpAny_AugAssign_AttributeAny (R.run h z (fun ov s1 _ x1 h1 => R.run (h1 ov rfl) x1 (fun old s2 _ x2 h2 => wpAny_mono (h2 s2 x2) (fun v s3 ⟨_, x3, h3⟩ =>
    R.run (h3 old v rfl rfl) x3 (fun new s4 _ x4 h4 => R.run (h4 ov new rfl rfl) x4 (fun _ s5 H5 x5 h5 => ⟨m, H5, x5, h5⟩))) fun _ _ e => e)))
theorem XE_aug_item {o i e : Expr} {op : Operator} {tp pos : Pos} (h : EV c A env E ((L, m) :: S) o H fun ov H1 => EV c A env E ((L, m) :: S) i H1 fun iv H2 => GETI c A E ((L, m) :: S) ov iv H2 fun old H3 => EV c A env E ((L, m) :: S) e H3 fun v H4 => INP c A E ((L, m) :: S) op old v H4 fun new H5 =>
    SETI c A E ((L, m) :: S) ov iv new H5 fun H6 => Q .next m H6) (ha : ∀ ov iv new, augStore i ov iv new = (do holding [new, ov, iv] (setItem ov iv new); release [new, ov, iv] []; pure Flow.next) := by intros; rfl) : XE c A env E L S m (.AugAssign (.Subscript o i tp) op e pos) H Q := fun s z =>
  wpAny_AugAssign_SubscriptAny (R.run h z (fun ov s1 _ x1 h1 => R.run h1 x1 (fun iv s2 _ x2 h2 => R.run (h2 ov iv rfl rfl) x2 (fun old s3 _ x3 h3 => wpAny_mono (h3 s3 x3) (fun v s4 ⟨_, x4, h4⟩ =>
    R.run (h4 old v rfl rfl) x4 (fun new s5 _ x5 h5 => R.run (h5 ov iv new rfl rfl rfl) x5 (fun _ s6 H6 x6 h6 => ⟨m, H6, x6, h6⟩))) fun _ _ e => e)))) ha
theorem INP_add {i j : Int} {Q : Value → AH → Prop} (h : Q (.int (i + j) 0) H) : INP c A E S .Add (.int i 0) (.int j 0) H Q := fun u v eu ev s x => by
  obtain ⟨t, rfl⟩ := er_int eu; obtain ⟨t', rfl⟩ := er_int ev; exact wpAny_iadd_int ⟨H, x.toks _, h⟩

/-- the value of a flow that ends a body -/
noncomputable def flowVal : Flow → Value
  | .ret v => v
  | _ => .none

/-- the frames of the stack -/
noncomputable def FramesOf (A : Around) (ls : List Addr) : Prop := ∃ l, A.frames = some l ∧ ∀ e ∈ l, e.scope.kind ≠ .module ∧ ∃ f ∈ ls, e.frame = some f
/-- room for n calls more -/
noncomputable def Room (n : Nat) (A : Around) (ls : List Addr) : Prop := A.depth + 4 * n < recursionLimit ∧ A.units + 16 * n < cLine ∧ A.handled = none ∧ FramesOf A ls
theorem Room.deeper {n : Nat} {ls : List Addr} (h : Room (n + 1) A ls) (hf : env.frame = some L) (hk : env.scope.kind = .function) : Room n (A.deeper env) (L :: ls) := by
  obtain ⟨h1, h2, h3, l, h4, h6⟩ := h
  refine ⟨?_, ?_, h3, env :: l, Around.frames_deeper h4, fun e he => ?_⟩
  · show A.depth + 1 + 4 * n < _; omega
  · show A.units + 3 + 16 * n < _; omega
  · rcases List.mem_cons.mp he with rfl | he
    · exact ⟨by rw [hk]; decide, L, .head _, hf⟩
    · obtain ⟨q1, f, q2, q3⟩ := h6 e he
      exact ⟨q1, f, .tail _ q2, q3⟩
theorem Room.wider {n : Nat} {ls : List Addr} {a : Addr} (h : Room n A ls) : Room n A (a :: ls) := by
  obtain ⟨h1, h2, h3, l, h4, h6⟩ := h
  exact ⟨h1, h2, h3, l, h4, fun e he => let ⟨q1, f, q2, q3⟩ := h6 e he; ⟨q1, f, .tail _ q2, q3⟩⟩
theorem Room.less {n k : Nat} {ls : List Addr} (h : Room n A ls) (hk : k ≤ n) : Room k A ls := by
  obtain ⟨h1, h2, h3⟩ := h
  exact ⟨by omega, by omega, h3⟩

/-- what a callee is bound to -/
noncomputable def Binds (c : Cx) (fd : FuncData) (vs : List Value) (names : List Str) (dv : List Value) : Prop :=
  ∀ xs, xs.map er = vs → ∀ s H S, St c S H s → BindsTo s fd ⟨xs, []⟩ (names.zip (xs ++ dv))
theorem Binds.of {fd : FuncData} {vs : List Value} {names : List Str} (h : ∀ xs, xs.map er = vs → bindArgs fd ⟨xs, []⟩ = pure (names.zip xs)) : Binds c fd vs names [] := fun xs e s H S _ => by
  rw [List.append_nil]; exact BindsTo.of_eq (h xs e)

theorem lookup_rev (names : List Str) (hd : names.Nodup) : ∀ vs : List Value, names.length = vs.length → Lo (names.zip (vs.map er)) fun x => (names.zip vs).reverse.lookup x := by
  intro vs hl x v hv
  have key : ∀ (l : List (Str × Value)) (x : Str) (v : Value), (l.map (·.1)).Nodup → (x, v) ∈ l → l.lookup x = some v := by
    intro l
    induction l with
    | nil => intro x v _ h; cases h
    | cons p r ih =>
      intro x v hn h
      obtain ⟨y, u⟩ := p
      simp only [List.map_cons, List.nodup_cons] at hn
      rcases List.mem_cons.mp h with e | e
      · cases e; simp [List.lookup]
      · have : x ≠ y := fun q => hn.1 (by subst q; exact List.mem_map.mpr ⟨_, e, rfl⟩)
        simp only [List.lookup, beq_eq_false_iff_ne.mpr this]
        exact ih x v hn.2 e
  have mem : ∀ (l : List (Str × Value)) (x : Str) (v : Value), l.lookup x = some v → (x, v) ∈ l := by
    intro l
    induction l with
    | nil => intro x v h; cases h
    | cons p r ih =>
      intro x v h
      obtain ⟨y, u⟩ := p
      simp only [List.lookup] at h
      by_cases q : x = y
      · subst q; simp at h; subst h; exact .head _
      · rw [beq_eq_false_iff_ne.mpr q] at h; exact .tail _ (ih x v h)
  have hm := mem _ _ _ hv
  rw [List.zip_map_right] at hm
  obtain ⟨⟨y, u⟩, h1, h2⟩ := List.mem_map.mp hm
  simp only [Prod.map, id_eq, Prod.mk.injEq] at h2
  obtain ⟨rfl, rfl⟩ := h2
  refine ⟨u, key _ _ _ ?_ (List.mem_reverse.mpr h1), rfl⟩
  rw [List.map_reverse]
  have : (names.zip vs).map (·.1) = names := by rw [List.map_fst_zip]; omega
  rw [this]; exact List.pairwise_reverse.mpr (hd.imp Ne.symm)

/-- a call, as an activation of its own -/
noncomputable def CC (c : Cx) (A : Around) (E : Value → Shared → Prop) (S : Stk) (f : Value) (vs : List Value) (H : AH) (Q : Value → AH → Prop) : Prop :=
  ∀ xs, xs.map er = vs → ∀ s, St c S H s → codeAny (model c.prog c.w) A (.call f ⟨xs, []⟩) (fun r s' => match r with | .ok (.ret v) => ∃ H', St c S H' s' ∧ Q (er v) H' | .ok _ => False | .error e => E e s') s
theorem CC.cv {f : Value} {vs : List Value} {Q : Value → AH → Prop} (h : CC c A E S f vs H Q) : CV c A E S f vs H Q := fun xs e s z => wpAny_call (h xs e s z)
/-- a call of a def of the top: its body in a frame of its own -/
theorem CC_def (C : c.Ok) {n : Nat} {f : Addr} {oc : Value} {od : Option Addr} {osl : Array (Option Value)} {name qual : Str} {params : Arguments} {body : List Stmt} {scope : Scope} {dV kV doc pm cdv ct : Value} {an : Option Addr} {vs dv : List Value} {names : List Str} {Q : Value → AH → Prop}
    (ho : c.K.lookup f = some ⟨oc, od, .func (fnOf name qual params body scope dV kV doc pm an cdv ct), osl⟩) (hcd : codeIn c.K cdv qual = true) (hr : Room (n + 1) A (S.map (·.1)))
    (hb : Binds c (fnOf name qual params body scope dV kV doc pm an cdv ct) vs names dv) (hn : names.length = vs.length + dv.length) (hnd : names.Nodup) (hloc : ∀ y ∈ names, scope.names.lookup y = some .local)
    (h : ∀ L, XS c (A.deeper (envX qual scope L f cdv [])) (envX qual scope L f cdv []) (fun e s' => wpAny (model c.prog c.w) (A.deeper (envX qual scope L f cdv [])) (leaving (envX qual scope L f cdv []) e) (fun _ s'' => E e s'') (fun e' s'' => E e' s'') s')
      L S (names.zip (vs ++ dv.map er)) body H fun fl m H1 => Q (flowVal fl) H1)
    (hcell : ∀ x ∈ scope.names, x.2 ≠ .cell) (hco : scope.isCoroutine = false := by rfl) (hgen : scope.isGenerator = false := by rfl) (hk : scope.kind = .function := by rfl) : CC c A E S (.ref f) vs H Q := by
  intro xs hxs s z
  obtain ⟨p, loose, mg, mb, T⟩ := C.top
  have hroom : A.depth < recursionLimit := by have := hr.1; omega
  have hlen : names.length = (xs ++ dv).length := by rw [List.length_append, hn, ← hxs, List.length_map]
  refine (codeAny_call_def (fd := fnOf name qual params body scope dV kV doc pm an cdv ct) (body := body) (binds := names.zip (xs ++ dv)) hroom (z.keep _ _ (C.kin _ _ ho)) rfl (T.nolimit.keeps z.keep) ((codeRec_of C.kin hcd).keeps z.keep) rfl (hb xs hxs s H S z) hcell ?_ ?_ hco hgen hk)
  · intro y hy
    exact hloc _ (List.of_mem_zip hy).1
  · intro h₀ hns hkp
    have z' : St c ((s.heap.objs.size, names.zip (vs ++ dv.map er)) :: S) H { s with heap := h₀, toks := s.toks + (names.zip (xs ++ dv)).length } :=
      { keep := fun b o e => hkp b o (z.keep b o e)
        sz := Nat.le_trans z.sz (Nat.le_of_lt hns.lt)
        fr := fun p hp => by
          rcases List.mem_cons.mp hp with rfl | hp'
          · refine ⟨z.size, z.free (Nat.le_refl _), _, hns, ?_⟩
            have := lookup_rev names hnd (xs ++ dv) hlen
            rw [List.map_append, hxs] at this
            exact this
          · obtain ⟨h1, h2, mc, h3, h4⟩ := z.fr p hp'
            exact ⟨h1, h2, mc, h3.keeps hkp, h4⟩
        nd := List.nodup_cons.mpr ⟨fun q => by
          obtain ⟨p, hp, e⟩ := List.mem_map.mp q
          obtain ⟨_, _, mc, h3, _⟩ := z.fr p hp
          exact absurd h3.lt (by rw [e]; exact Nat.lt_irrefl _), z.nd⟩
        ob := fun a o e => by
          obtain ⟨h1, h2⟩ := z.ob a o e
          obtain ⟨oo, hb⟩ := h2.there
          exact ⟨h1, h2.same (by rw [hb]; exact hkp _ _ hb)⟩
        gens := z.gens
        dr := z.dr
        os := z.os }
    refine wpAny_mono (h s.heap.objs.size _ z') (fun fl s' ⟨m', H', x1, h1⟩ => ?_) fun _ _ e => e
    refine ⟨H', ⟨x1.keep, x1.sz, fun p hp => x1.fr p (.tail _ hp), (List.nodup_cons.mp x1.nd).2, x1.ob, x1.gens, x1.dr, x1.os⟩, ?_⟩
    cases fl <;> exact h1
/-- the same, where nothing is raised -/
theorem CC_def0 (C : c.Ok) {n : Nat} {f : Addr} {oc : Value} {od : Option Addr} {osl : Array (Option Value)} {name qual : Str} {params : Arguments} {body : List Stmt} {scope : Scope} {dV kV doc pm cdv ct : Value} {an : Option Addr} {vs dv : List Value} {names : List Str} {Q : Value → AH → Prop}
    (ho : c.K.lookup f = some ⟨oc, od, .func (fnOf name qual params body scope dV kV doc pm an cdv ct), osl⟩) (hcd : codeIn c.K cdv qual = true) (hr : Room (n + 1) A (S.map (·.1)))
    (hb : Binds c (fnOf name qual params body scope dV kV doc pm an cdv ct) vs names dv) (hn : names.length = vs.length + dv.length) (hnd : names.Nodup) (hloc : ∀ y ∈ names, scope.names.lookup y = some .local)
    (h : ∀ L E' A', Room n A' (L :: S.map (·.1)) → XS c A' (envX qual scope L f cdv []) E' L S (names.zip (vs ++ dv.map er)) body H fun fl m H1 => Q (flowVal fl) H1)
    (hcell : ∀ x ∈ scope.names, x.2 ≠ .cell) (hco : scope.isCoroutine = false := by rfl) (hgen : scope.isGenerator = false := by rfl) (hk : scope.kind = .function := by rfl) : CC c A E S (.ref f) vs H Q :=
  CC_def C ho hcd hr hb hn hnd hloc (fun L => h L _ _ (hr.deeper rfl hk)) hcell hco hgen hk
/-- plain parameters -/
theorem consOf {xs us : List Value} {u : Value} (e : xs.map er = u :: us) : ∃ a r, xs = a :: r ∧ r.map er = us := by
  cases xs with
  | nil => cases e
  | cons a r => exact ⟨a, r, rfl, (List.cons.inj e).2⟩
theorem Binds.plain0 {fd : FuncData} {names : List Str} (h : bindArgs fd ⟨[], []⟩ = pure (names.zip [])) : Binds c fd [] names [] :=
  Binds.of fun xs e => by have := List.map_eq_nil_iff.mp e; subst this; exact h
theorem Binds.plain1 {fd : FuncData} {u : Value} {names : List Str} (h : ∀ a, bindArgs fd ⟨[a], []⟩ = pure (names.zip [a])) : Binds c fd [u] names [] :=
  Binds.of fun xs e => by
    obtain ⟨a, r1, rfl, e1⟩ := consOf e
    have := List.map_eq_nil_iff.mp e1; subst this; exact h a
theorem Binds.plain2 {fd : FuncData} {u1 u2 : Value} {names : List Str} (h : ∀ a b, bindArgs fd ⟨[a, b], []⟩ = pure (names.zip [a, b])) : Binds c fd [u1, u2] names [] :=
  Binds.of fun xs e => by
    obtain ⟨a, r1, rfl, e1⟩ := consOf e
    obtain ⟨b, r2, rfl, e2⟩ := consOf e1
    have := List.map_eq_nil_iff.mp e2; subst this; exact h a b
theorem Binds.plain3 {fd : FuncData} {u1 u2 u3 : Value} {names : List Str} (h : ∀ a b d, bindArgs fd ⟨[a, b, d], []⟩ = pure (names.zip [a, b, d])) : Binds c fd [u1, u2, u3] names [] :=
  Binds.of fun xs e => by
    obtain ⟨a, r1, rfl, e1⟩ := consOf e
    obtain ⟨b, r2, rfl, e2⟩ := consOf e1
    obtain ⟨d, r3, rfl, e3⟩ := consOf e2
    have := List.map_eq_nil_iff.mp e3; subst this; exact h a b d
theorem Binds.plain4 {fd : FuncData} {u1 u2 u3 u4 : Value} {names : List Str} (h : ∀ a b d f, bindArgs fd ⟨[a, b, d, f], []⟩ = pure (names.zip [a, b, d, f])) : Binds c fd [u1, u2, u3, u4] names [] :=
  Binds.of fun xs e => by
    obtain ⟨a, r1, rfl, e1⟩ := consOf e
    obtain ⟨b, r2, rfl, e2⟩ := consOf e1
    obtain ⟨d, r3, rfl, e3⟩ := consOf e2
    obtain ⟨f, r4, rfl, e4⟩ := consOf e3
    have := List.map_eq_nil_iff.mp e4; subst this; exact h a b d f
theorem ite_dec {p : Prop} [Decidable p] {a b : Prop} (h1 : p → a) (h2 : ¬ p → b) : if decide p = true then a else b := by
  by_cases h : p
  · rw [if_pos (decide_eq_true h)]; exact h1 h
  · rw [if_neg (by simp [h])]; exact h2 h
theorem ite_yes {b : Bool} {p q : Prop} (h : b = true) (x : p) : if b = true then p else q := by rw [if_pos h]; exact x
theorem ite_no {b : Bool} {p q : Prop} (h : b = false) (x : q) : if b = true then p else q := by rw [if_neg (by rw [h]; decide)]; exact x
end
end Mine
end
section
open PySem PySem.W PyProof.Rows PySem.Calls
namespace Mine
section
variable {c : Cx} {A : Around} {E : Value → Shared → Prop} {env : Env} {L : Addr} {S : Stk} {m : Loc} {H : AH} {s : Shared} {Q : Value → AH → Prop}
theorem bits64 {i : Int} (h : i.natAbs < 2 ^ 64) : Builtin.Int.intBits i ≤ 64 := PySem.intBits_le_iff.mpr h
theorem B_mul {i j : Int} (h0 : i.natAbs < 2 ^ 64 ∨ j.natAbs < 2 ^ 64) (h : Q (.int (i * j) 0) H) : BIN c A E S .Mult (.int i 0) (.int j 0) H Q :=
  BIN_mul (h0.elim (fun h => IntMulOk.of_left (bits64 h)) fun h => IntMulOk.of_right (bits64 h)) h
theorem noPy {x y : Int} (h : y.natAbs < 2 ^ 64) : Builtin.divisionGoesByPylong x y = false := by
  refine PyProof.noPylong_of_log2 ?_
  by_cases z : y.natAbs = 0
  · rw [z]; decide
  · have := (Nat.log2_lt z).mpr h; omega
theorem B_div {i j : Int} (h0 : 0 < j ∧ j.natAbs < 2 ^ 64) (h : Q (.int (i / j) 0) H) : BIN c A E S .FloorDiv (.int i 0) (.int j 0) H Q :=
  BIN_div (by omega) (noPy h0.2) (by rw [Int.fdiv_eq_ediv_of_nonneg _ (by omega)]; exact h)
theorem B_mod {i j : Int} (h0 : 0 < j) (h : Q (.int (i % j) 0) H) : BIN c A E S .Mod (.int i 0) (.int j 0) H Q :=
  BIN_mod (by omega) (by rw [Int.fmod_eq_emod_of_nonneg _ (by omega)]; exact h)
theorem B_shr {i j : Int} (h0 : 0 ≤ j) (h : Q (.int (i / 2 ^ j.toNat) 0) H) : BIN c A E S .RShift (.int i 0) (.int j 0) H Q :=
  BIN_shr h0 (by rw [Int.fdiv_eq_ediv_of_nonneg _ (Int.le_of_lt (Int.pow_pos (by decide)))]; exact h)
theorem B_shl {i j : Int} (h0 : 0 ≤ j ∧ j ≤ 1000000 ∧ i.natAbs < 2 ^ 64) (h : Q (.int (i * 2 ^ j.toNat) 0) H) : BIN c A E S .LShift (.int i 0) (.int j 0) H Q := BIN_shl h0.1 h0.2.1 h0.2.2 h
/-- a power of a small number -/
theorem B_pow {i j : Int} (h0 : 0 ≤ j ∧ j ≤ 1000000 ∧ i.natAbs < 2 ^ 64) (h : Q (.int (i ^ j.toNat) 0) H) : BIN c A E S .Pow (.int i 0) (.int j 0) H Q :=
  BIN_pow h0.1 (by
    have h1 := bits64 h0.2.2
    have h2 : (Builtin.Int.intBits i : Int) ≤ 64 := by exact_mod_cast h1
    have h3 : (Builtin.Int.intBits i : Int) * j ≤ 64 * j := Int.mul_le_mul_of_nonneg_right h2 h0.1
    omega) h
theorem CMP_is_none {v : Value} (hv : PySem.plainIs v .none = true) (h : Q (.bool (v == .none)) H) : CMP c A E S .Is v .none H Q := fun x y ex ey s z => by
  have := er_none ey; subst this
  have hp : PySem.plainIs x .none = true := by subst ex; cases x <;> exact hv
  have he : (x == Value.none) = (v == Value.none) := by subst ex; cases x <;> rfl
  exact wpAny_is_plain hp ⟨H, z, by show Q (.bool (x == .none)) H; rw [he]; exact h⟩
theorem CMP_isnot_none {v : Value} (hv : PySem.plainIs v .none = true) (h : Q (.bool (!(v == .none))) H) : CMP c A E S .IsNot v .none H Q := fun x y ex ey s z => by
  have := er_none ey; subst this
  have hp : PySem.plainIs x .none = true := by subst ex; cases x <;> exact hv
  have he : (x == Value.none) = (v == Value.none) := by subst ex; cases x <;> rfl
  exact wpAny_isNot_plain hp ⟨H, z, by show Q (.bool (!(x == .none))) H; rw [he]; exact h⟩

theorem ab_tuple {vs : List Value} {h : Heap} : Abs c (h.push { cls := .type "tuple", data := .seq vs.toArray }) h.objs.size (.tuple (vs.map er)) :=
  ⟨vs.toArray, 0, Heap.get?_push_size _ rfl, by simp⟩
theorem ab_list {vs : List Value} {h : Heap} : Abs c (h.push { cls := .type "list", data := .seq vs.toArray }) h.objs.size (.list (vs.map er)) :=
  ⟨vs.toArray, 0, Heap.get?_push_size _ rfl, by simp⟩
/-- a display: a new object, wherever it lies -/
theorem EV_tuple {es : List Expr} {k : Nat} {pos : Pos} (h : EVs c A env E S pos es H fun vs H1 => vs.length ≤ 1000 ∧ ∀ a, H1 a = none → Q (.ref a) (H1.set a (.tuple vs))) : EV c A env E S (.Tuple es k pos) H Q := fun s z =>
  wpAny_Tuple_spliced (wpAny_mono (h s z) (fun vs s1 ⟨H1, x1, h1, h2⟩ => ⟨by rw [List.length_map] at h1; rw [sizeLine_eq]; omega, _, x1.push ab_tuple, h2 _ (x1.free (Nat.le_refl _))⟩) fun _ _ e => e)
theorem EV_list {es : List Expr} {pos : Pos} (h : EVs c A env E S pos es H fun vs H1 => vs.length ≤ 1000 ∧ ∀ a, H1 a = none → Q (.ref a) (H1.set a (.list vs))) : EV c A env E S (.List es pos) H Q := fun s z =>
  wpAny_List_spliced (wpAny_mono (h s z) (fun vs s1 ⟨H1, x1, h1, h2⟩ => ⟨by rw [List.length_map] at h1; rw [sizeLine_eq]; omega, _, x1.push ab_list, h2 _ (x1.free (Nat.le_refl _))⟩) fun _ _ e => e)
end
end Mine
end
section
open PySem PySem.W PyProof.Rows PySem.Calls
namespace Mine
section
variable {c : Cx} {A : Around} {E : Value → Shared → Prop} {env : Env} {L : Addr} {S : Stk} {m : Loc} {H : AH} {s : Shared} {Q : Value → AH → Prop}

theorem St.list (z : St c S H s) {a : Addr} {vs : List Value} (h : H a = some (.list vs)) : ∃ vc n, s.heap.get? a = some { cls := .type "list", dict := none, data := .seq vc n, slots := #[] } ∧ vc.toList.map er = vs := (z.ob _ _ h).2
theorem St.tuple (z : St c S H s) {a : Addr} {vs : List Value} (h : H a = some (.tuple vs)) : ∃ vc n, s.heap.get? a = some { cls := .type "tuple", dict := none, data := .seq vc n, slots := #[] } ∧ vc.toList.map er = vs := (z.ob _ _ h).2
theorem er_get {vc : Array Value} {vs : List Value} (h : vc.toList.map er = vs) {i : Nat} {v : Value} (hv : vs[i]? = some v) : ∃ x, vc[i]? = some x ∧ er x = v := by
  subst h
  rw [List.getElem?_map] at hv
  obtain ⟨x, h1, h2⟩ := Option.map_eq_some_iff.mp hv
  exact ⟨x, by rw [← Array.getElem?_toList]; exact h1, h2⟩
theorem er_size {vc : Array Value} {vs : List Value} (h : vc.toList.map er = vs) : vc.size = vs.length := by
  subst h; simp

/-- a subscript read -/
noncomputable def SUB (c : Cx) (A : Around) (E : Value → Shared → Prop) (S : Stk) (value slice : Expr) (o i : Value) (H : AH) (Q : Value → AH → Prop) : Prop :=
  ∀ x y, er x = o → er y = i → RV c A (subscriptTail value slice x y) E S H Q
theorem EV_Subscript {value slice : Expr} {pos : Pos} (h : EV c A env E S value H fun o H1 => EV c A env E S slice H1 fun i H2 => SUB c A E S value slice o i H2 Q) : EV c A env E S (.Subscript value slice pos) H Q := fun s z =>
  Subscript_ (R.run h z (fun a s1 _ x1 h1 => R.run h1 x1 (fun b s2 _ x2 h2 => h2 a b rfl rfl s2 x2)))
theorem GETI_list {a : Addr} {vs : List Value} {i : Int} {v : Value} (ha : H a = some (.list vs)) (h0 : 0 ≤ i) (hi : i < 2 ^ 63) (hv : vs[i.toNat]? = some v) (h : Q v H) : GETI c A E S (.ref a) (.int i 0) H Q := fun x y ex ey s z => by
  obtain ⟨t, rfl⟩ := er_int ey
  rw [er_ref ex]
  obtain ⟨vc, n, h1, h2⟩ := z.list ha
  obtain ⟨u, hu, rfl⟩ := er_get h2 hv
  exact wpAny_getItem_list ⟨_, h1, rfl, _, rfl⟩ h0 hi hu ⟨H, z, h⟩
theorem seqIndex_nat {k : Int} {n : Nat} (h0 : 0 ≤ k) (h : k.toNat < n) : seqIndex? k n = some k.toNat := by
  unfold seqIndex?
  have h1 : ¬ k < 0 := by omega
  simp only [h1, if_false]
  first | (simp; omega) | (split <;> first | rfl | omega | (simp_all; omega))
theorem GETI_tuple {a : Addr} {vs : List Value} {i : Int} {v : Value} (ha : H a = some (.tuple vs)) (h0 : 0 ≤ i) (hi : i < 2 ^ 63) (hv : vs[i.toNat]? = some v) (h : Q v H) : GETI c A E S (.ref a) (.int i 0) H Q := fun x y ex ey s z => by
  obtain ⟨t, rfl⟩ := er_int ey
  rw [er_ref ex]
  obtain ⟨vc, n, h1, h2⟩ := z.tuple ha
  obtain ⟨u, hu, rfl⟩ := er_get h2 hv
  have hlt : i.toNat < vc.size := (Array.getElem?_eq_some_iff.mp hu).1
  exact P.getItem_tuple h1 (by omega) hi (seqIndex_nat h0 hlt) hu ⟨H, z, h⟩
theorem SUB_list {value slice : Expr} {a : Addr} {vs : List Value} {i : Int} {v : Value} (ha : H a = some (.list vs)) (h0 : 0 ≤ i) (hi : i < 2 ^ 63) (hv : vs[i.toNat]? = some v) (h : Q v H)
    (hs : ∀ t, subscripted slice false (.ref a) (.int i t) = operate [.ref a, .int i t] (getItem (.ref a) (.int i t)) := by intro _; with_unfolding_all rfl) : SUB c A E S value slice (.ref a) (.int i 0) H Q := fun x y ex ey s z => by
  obtain ⟨t, rfl⟩ := er_int ey
  have := er_ref ex; subst this
  obtain ⟨vc, n, h1, h2⟩ := z.list ha
  exact tail_any (T := "list") ⟨_, h1, rfl⟩ slot_list_getitem.lookup (GETI_list ha h0 hi hv h _ _ rfl rfl s z) (hs t)
theorem SUB_tuple {value slice : Expr} {a : Addr} {vs : List Value} {i : Int} {v : Value} (ha : H a = some (.tuple vs)) (h0 : 0 ≤ i) (hi : i < 2 ^ 63) (hv : vs[i.toNat]? = some v) (h : Q v H)
    (hs : ∀ t, subscripted slice false (.ref a) (.int i t) = operate [.ref a, .int i t] (getItem (.ref a) (.int i t)) := by intro _; with_unfolding_all rfl) : SUB c A E S value slice (.ref a) (.int i 0) H Q := fun x y ex ey s z => by
  obtain ⟨t, rfl⟩ := er_int ey
  have := er_ref ex; subst this
  obtain ⟨vc, n, h1, h2⟩ := z.tuple ha
  exact tail_any (T := "tuple") ⟨_, h1, rfl⟩ PySem.F.slot_tuple_getitem.lookup (GETI_tuple ha h0 hi hv h _ _ rfl rfl s z) (hs t)

/-- a list's item is stored -/
theorem setItem_exact {l : Addr} {items : Array Value} {n : Nat} {k : Int} {t : Tok} {v : Value} {Q : Unit → Shared → Prop} (hl : s.heap.get? l = some { cls := .type "list", dict := none, data := .seq items n, slots := #[] })
    (h0 : 0 ≤ k) (hfit : k < 2 ^ 63) (hn : k < items.size) (h : Q () { s with heap := s.heap.update l (Obj.mapSeq (·.setIfInBounds k.toNat v)) }) : wpAny (model c.prog c.w) A (setItem (.ref l) (.int k t) v) Q E s := by
  have T : s.TypeIs (.ref l) "list" := ⟨_, hl, rfl⟩
  unfold setItem
  try with_reducible refine wpAny_holding ?_
  first | refine wpAny_bind (wpAny_pure ?_) | skip
  refine wpAny_bind (wpAny_sequenceKey T (by decide) (wpAny_bind (wpAny_callSpecial?_slot (name := Str.ofString "__setitem__") T slot_list_setitem (wpAny_call_entry slot_list_setitem T entry_list_setitem ?_ (args_list_setitem _ _ _)))))
  show wpAny _ _ (Builtin.List.listSubscript? (.int k t) >>= _) _ _ s
  refine wpAny_bind (wpAny_listSubscript_int (fitsIndex_of h0 hfit) ?_)
  clear hfit
  obtain ⟨j, rfl⟩ := Int.eq_ofNat_of_zero_le h0
  have hj : j < items.size := by omega
  show wpAny _ _ ((seqItemAt l j >>= fun r => pure (r.map (j, ·))) >>= _) _ _ s
  refine wpAny_bind (wpAny_bind (wpAny_seqItemAt hl rfl (wpAny_pure ?_)))
  rw [Array.getElem?_eq_getElem hj]
  show wpAny _ _ (setSeqItemAt l j v >>= _) _ _ s
  refine wpAny_bind (wpAny_setSeqItemAt hl rfl ?_)
  first
    | exact wpAny_bind (wpAny_pure (wpAny_pure ⟨.none, rfl, wpAny_pure h⟩))
    | exact wpAny_pure ⟨.none, rfl, wpAny_pure h⟩
theorem list_upd {h : Heap} {a : Addr} {vc : Array Value} {n : Nat} (hl : h.get? a = some { cls := .type "list", dict := none, data := .seq vc n, slots := #[] }) (f : Array Value → Array Value) :
    Heap.SameBut a h (h.update a (Obj.mapSeq f)) ∧ Abs c (h.update a (Obj.mapSeq f)) a (.list ((f vc).toList.map er)) :=
  ⟨Heap.SameBut.update .., f vc, _, Heap.get?_update_self _ hl rfl, rfl⟩
theorem SETI_list {a : Addr} {vs : List Value} {i : Int} {v : Value} {Q : AH → Prop} (ha : H a = some (.list vs)) (h0 : 0 ≤ i ∧ i < 2 ^ 63 ∧ i < vs.length) (h : Q (H.set a (.list (vs.set i.toNat v)))) : SETI c A E S (.ref a) (.int i 0) v H Q := fun x y u ex ey eu s z => by
  obtain ⟨t, rfl⟩ := er_int ey
  have := er_ref ex; subst this
  obtain ⟨vc, n, h1, h2⟩ := z.list ha
  obtain ⟨u1, u2⟩ := list_upd (c := c) h1 (·.setIfInBounds i.toNat u)
  refine setItem_exact h1 h0.1 h0.2.1 (by rw [er_size h2]; exact h0.2.2) ⟨_, z.upd ha u1 u2, ?_⟩
  subst h2 eu
  simpa [List.map_set] using h
end
end Mine
end
section
open PySem PySem.W PyProof.Rows PySem.Calls
namespace Mine
section
variable {c : Cx} {A : Around} {E : Value → Shared → Prop} {env : Env} {L : Addr} {S : Stk} {m : Loc} {H : AH} {s : Shared} {Q : Value → AH → Prop}

theorem nsSet_at {M : Model} {d : Addr} {o : Obj} {es : Array DictEntry} {ep : Nat} {name : Str} {v : Value} {Q : Unit → Shared → Prop} (ho : s.heap.get? d = some o) (hd : o.data = .dict es ep) (hk : StrKeys es)
    (h : ∀ h' o' es' ep', Heap.SameBut d s.heap h' → h'.get? d = some o' → o'.data = .dict es' ep' → StrKeys es' → (∀ x, nsFind es' x = if x = name then some v else nsFind es x) →
      es'.size = (if (nsFind es name).isSome then es.size else es.size + 1) → o'.cls = o.cls → o'.dict = o.dict → o'.slots = o.slots → Q () { s with heap := h', toks := s.toks + 1 }) :
    wpAny M A (nsSet d name v) Q E s := by
  unfold nsSet
  refine wpAny_bind (wpAny_bind (wpAny_askSetting (wpAny_pure (wpAny_bind (wpAny_mkText (wpAny_bind (wpAny_loadPart ho ?_)))))))
  obtain ⟨oc, od, odt, osl⟩ := o
  dsimp only at hd ⊢
  subst hd
  have hany : es.any (·.refKey) = false := by
    rw [Array.any_eq_false']; intro e he; obtain ⟨n, t, h⟩ := hk e he; simp [DictEntry.refKey, h]
  simp only [aRefKeyMayBeTheName_at, hany, Bool.and_false, Bool.false_eq_true, if_false]
  cases hi : es.findIdx? (·.key.isStr name) with
  | some i =>
    have hs : (nsFind es name).isSome = true := by
      unfold nsFind
      rw [findBy_of_findIdx?, hi]
      have := (Array.findIdx?_eq_some_iff_getElem.mp hi).1
      simp [this]
    refine wpAny_updatePart ho (h _ _ _ _ (Heap.SameBut.update ..) (Heap.get?_update_self _ ho (by simp only [Obj.putName_eq, Obj.putNameByArray, hi]; rfl)) (by simp only [Obj.putName_eq, Obj.putNameByArray, hi]; rfl) (hk.modify _ _) (fun x => ?_) (by rw [hs, if_pos rfl]; exact Array.size_modify ..) ?_ ?_ ?_)
    · exact findBy_modify (fun n v => v.isStr n) Value.isStr_inj es name x v i hi
    all_goals (simp only [Obj.putName_eq, Obj.putNameByArray, hi])
  | none =>
    have hs : (nsFind es name).isSome = false := by
      unfold nsFind
      rw [findBy_of_findIdx?, hi]; rfl
    refine wpAny_updatePart ho (h _ _ _ _ (Heap.SameBut.update ..) (Heap.get?_update_self _ ho (by simp only [Obj.putName_eq, Obj.putNameByArray, hi]; rfl)) (by simp only [Obj.putName_eq, Obj.putNameByArray, hi]; rfl) (hk.push _ _ _ _) (fun x => ?_) (by rw [hs, if_neg Bool.false_ne_true]; exact Array.size_push ..) ?_ ?_ ?_)
    · exact findBy_push (fun n v => v.isStr n) es name x _ _ v (fun y => by
        show (name == y) = decide (y = name)
        by_cases h : y = name
        · subst h; simp
        · have : ¬ name = y := fun e => h e.symm
          simp [h, this]) hi
    all_goals (simp only [Obj.putName_eq, Obj.putNameByArray, hi])

/-- a class of the text, as the walk asks it -/
structure ClsOk (c : Cx) (C : Addr) : Prop where
  ga : findIn c.K (.ref C) "__getattribute__" = some (some (.builtin "object.__getattribute__"))
  noga : findIn c.K (.ref C) "__getattr__" = some none
  sa : findIn c.K (.ref C) "__setattr__" = some (some (.builtin "object.__setattr__"))
  cd : ∃ cd, clsIn c.K C = some cd ∧ cd.hasDict = true
  plain : plainOver c.K C = true
  makes : makesIn c.K C = true

theorem St.inst (z : St c S H s) {a C d : Addr} {m : Loc} (ha : H a = some (.inst C d)) (hd : H d = some (.ns m)) : ∃ ox o es ep, ox.dict = some d ∧ s.heap.get? d = some o ∧ o.data = .dict es ep ∧ StrKeys es ∧ es.size ≤ m.length ∧ (∀ x, (nsFind es x).map er = m.lookup x) ∧ InstAt s.heap a ox C (some o) := by
  obtain ⟨_, ox, h1, h2, h3, h4⟩ := z.ob _ _ ha
  obtain ⟨_, o, es, ep, g1, g2, g3, g4, g5⟩ := z.ob _ _ hd
  exact ⟨ox, o, es, ep, h3, g1, g2, g3, g4, g5, h1, h2, by unfold notCls; rw [h4], by rw [h3]; exact g1⟩

theorem lookIn_of {o : Obj} {es : Array DictEntry} {ep : Nat} {n : Str} (hd : o.data = .dict es ep) (hk : StrKeys es) : lookIn n o = some (nsFind es n) := by
  unfold lookIn nsFind findBy
  rw [hd]
  dsimp only
  rw [← Array.find?_toList]
  cases h : es.toList.find? (fun e => e.key.isStr n) with
  | some e => rfl
  | none =>
    have hany : es.toList.any (·.refKey) = false := by
      rw [List.any_eq_false]; intro e he; obtain ⟨n, t, h⟩ := hk e (by simpa using he); simp [DictEntry.refKey, h]
    simp [hany]

/-- a name of an object, out of its own dict -/
theorem GETA_ns {a C d : Addr} {m : Loc} {n : Str} {v : Value} (C0 : c.Ok) (K0 : ClsOk c C) (ha : H a = some (.inst C d)) (hd : H d = some (.ns m)) (hv : m.lookup n = some v) (hn : findIn c.K (.ref C) n = some none) (hh : handedIn v = true) (h : Q v H) :
    GETA c A E S (.ref a) n H Q := fun x ex s z => by
  have := er_ref ex; subst this
  obtain ⟨ox, o, es, ep, i1, i2, i3, i4, i5, i6, I⟩ := z.inst ha hd
  have hx := i6 n
  rw [hv] at hx
  obtain ⟨u, hu, rfl⟩ := Option.map_eq_some_iff.mp hx
  obtain ⟨cd, hc, hdct⟩ := K0.cd
  have hf : findObj c.K C (some o) n = some (.value u) := by
    unfold findObj W.ownOf
    rw [hc, hn]
    simp only [Option.bind_some, hdct, if_true, lookIn_of i3 i4, hu]
  exact get_value (C0.kin.keeps z.keep) I K0.ga hf (by cases u <;> first | rfl | exact hh) ⟨H, z.toks _, h⟩

/-- a name of an object is stored -/
theorem SETA_ns {a C d : Addr} {m : Loc} {n : Str} {v : Value} {Q : AH → Prop} (C0 : c.Ok) (K0 : ClsOk c C) (ha : H a = some (.inst C d)) (hd : H d = some (.ns m)) (hn : findIn c.K (.ref C) n = some none) (hl : m.length < 1000) (h : Q (H.set d (.ns (setL n v m)))) :
    SETA c A E S (.ref a) n v H Q := fun x u ex eu s z => by
  have := er_ref ex; subst this
  obtain ⟨ox, o, es, ep, i1, i2, i3, i4, i5, i6, I⟩ := z.inst ha hd
  obtain ⟨cd, hc, hdct⟩ := K0.cd
  have X := C0.kin.keeps z.keep
  have ht : takerIn c.K C n = some none := by unfold takerIn; rw [hn]; rfl
  refine set_plain X I K0.sa (osa_open (s := { s with toks := s.toks + 1 }) X I K0.plain ht fun b => ?_)
  obtain ⟨hx, hcl, hno, -⟩ := I
  obtain ⟨oc, odi, oda, osl⟩ := ox
  dsimp only at hcl i1
  subst hcl i1
  refine wpAny_bind (wpAny_pure (wpAny_bind (wpAny_bind (wpAny_loadPart hx (wpAny_bind (looks_clsIn X hc _ _ _ _ (fun _ _ e => e) ?_))))))
  rw [hdct]
  refine wpAny_pure (a := some d) (wpAny_bind (wpAny_pure (wpAny_bind ?_)))
  refine nsSet_at (s := { s with toks := s.toks + 1 }) i2 i3 i4 fun h' o' es' ep' k1 k2 k3 k4 k5 k6 k7 k8 k9 => ?_
  have hsz : es'.size ≤ (setL n v m).length := by
    rw [k6, setL_length]
    have := i6 n
    cases hq : nsFind es n with
    | some w => rw [hq] at this; simp only [Option.map_some] at this; rw [← this]; simpa using i5
    | none => rw [hq] at this; simp only [Option.map_none] at this; rw [← this]; simpa using i5
  have hl' : (setL n v m).length ≤ 1000 := by rw [setL_length]; split <;> omega
  refine wpAny_bind (wpAny_lookBehind k2 (by rw [k3]; exact pastItsLine_dict (by rw [sizeLine_eq]; omega)) ?_)
  refine wpAny_pure ⟨_, z.upd hd k1 (o' := .ns (setL n v m)) ⟨o', es', ep', k2, k3, k4, hsz, fun x => ?_⟩, h⟩
  rw [k5, setL_lookup]
  by_cases q : x = n
  · rw [if_pos q, if_pos q, ← eu]; rfl
  · rw [if_neg q, if_neg q]; exact i6 x
end
end Mine
end
section
open PySem PySem.W PyProof.Rows PySem.Calls
namespace Mine
noncomputable def AH.del (H : AH) (a : Addr) : AH := fun b => if b = a then none else H b
theorem AH.del_some {H : AH} {a b : Addr} {o : AO} (h : H.del a b = some o) : b ≠ a ∧ H b = some o := by
  unfold AH.del at h
  by_cases q : b = a
  · rw [if_pos q] at h; cases h
  · rw [if_neg q] at h; exact ⟨q, h⟩
/-- what a loop goes over -/
inductive Sq where
  | range (x st : Int) (n : Nat)
  | list (l : Addr) (vs : List Value)
  | tuple (t : Addr) (vs : List Value)
noncomputable def Sq.xs : Sq → List Value
  | .range x st n => (List.range n).map fun (i : Nat) => Value.int (x + i * st) 0
  | .list _ vs => vs
  | .tuple _ vs => vs
noncomputable def Sq.ao : Sq → Nat → AO
  | .range x st n, i => .riter (x + i * st) (n - i) st
  | .list l _, i => .liter l i
  | .tuple t _, i => .titer t i
noncomputable def Sq.need : Sq → AH → Prop
  | .range .., _ => True
  | .list l vs, H => H l = some (.list vs)
  | .tuple t vs, H => H t = some (.tuple vs)
/-- all but some objects as they were -/
noncomputable def Mod (ls : List Addr) (H H' : AH) : Prop := ∀ a o, a ∉ ls → H a = some o → H' a = some o
theorem Mod.refl {ls : List Addr} {H : AH} : Mod ls H H := fun _ _ _ h => h
theorem Mod.trans {ls : List Addr} {H H1 H2 : AH} (x : Mod ls H H1) (y : Mod ls H1 H2) : Mod ls H H2 := fun a o ha h => y a o ha (x a o ha h)
theorem Mod.wider {ls ls' : List Addr} {H H1 : AH} (x : Mod ls H H1) (h : ∀ a ∈ ls, a ∈ ls') : Mod ls' H H1 := fun a o ha e => x a o (fun q => ha (h a q)) e
theorem Mod.set {ls : List Addr} {H H1 : AH} {a : Addr} {o : AO} (x : Mod ls H H1) (h : a ∈ ls) : Mod ls H (H1.set a o) := fun b o' hb e => (AH.set_ne (fun q => hb (by rw [q]; exact h) : b ≠ a)).trans (x b o' hb e)
theorem Mod.fresh {ls : List Addr} {H H1 : AH} {a : Addr} {o : AO} (x : Mod ls H H1) (h : H1 a = none) : Mod ls H (H1.set a o) := fun b o' hb e => (AH.set_ne fun q => by have := x b o' hb e; rw [q, h] at this; cases this).trans (x b o' hb e)
noncomputable def AO.isIt : AO → Bool
  | .riter .. | .liter .. | .titer .. => true
  | _ => false
/-- all but the iterators -/
noncomputable def Keep (H H' : AH) : Prop := ∀ a o, H a = some o → o.isIt = false → H' a = some o
noncomputable def KeepD (d : Addr) (H H' : AH) : Prop := ∀ a o, a ≠ d → H a = some o → o.isIt = false → H' a = some o
noncomputable def SubL (m' m : Loc) : Prop := ∀ x v, m'.lookup x = some v → m.lookup x = some v
theorem SubL.refl {m : Loc} : SubL m m := fun _ _ h => h
section
variable {c : Cx} {A : Around} {E : Value → Shared → Prop} {env : Env} {L : Addr} {S : Stk} {m : Loc} {H : AH} {s : Shared} {Q : Value → AH → Prop}
noncomputable def NoE : Value → Shared → Prop := fun _ _ => False
theorem wp_noE {α : Type} {M : Model} {t : Sem α} {P P' : α → Shared → Prop} (h : wpAny M A t P NoE s) (q : ∀ a s', P a s' → P' a s') : wpAny M A t P' E s := wpAny_mono h q fun _ _ f => f.elim

theorem St.loc {p : Addr} (z : St c ((L, m) :: S) H s) {m' : Loc} (h : SubL m' m) : St c ((L, m') :: S) H s where
  keep := z.keep
  sz := z.sz
  fr := fun p hp => by
    rcases List.mem_cons.mp hp with rfl | hp'
    · obtain ⟨h1, h2, mc, h3, h4⟩ := z.fr _ (.head _)
      exact ⟨h1, h2, mc, h3, fun x v hv => h4 x v (h x v hv)⟩
    · exact z.fr p (.tail _ hp')
  nd := z.nd
  ob := z.ob
  gens := z.gens
  dr := z.dr
  os := z.os
theorem X.loc {t : Sem Flow} {m' : Loc} {Q : Flow → Loc → AH → Prop} (h : X c A E L S m' t H Q) (l : SubL m' m) : X c A E L S m t H Q := fun s z => h s (z.loc (p := L) l)

theorem next_item {it : Addr} {sq : Sq} {i : Nat} {v : Value} (hn : sq.need H) (hi : H it = some (sq.ao i)) (hv : sq.xs[i]? = some v) : R c A (pyNext (.ref it)) E S H fun r H1 => H1 = H.set it (sq.ao (i + 1)) ∧ ∃ u, r = some u ∧ er u = v := fun s z => by
  cases sq with
  | range x st n =>
    simp only [Sq.xs, List.getElem?_map, Option.map_eq_some_iff] at hv
    obtain ⟨j, hj, rfl⟩ := hv
    have hlt : i < n := by have := (List.getElem?_eq_some_iff.mp hj).1; simpa using this
    have : j = i := by rw [List.getElem?_range hlt] at hj; exact (Option.some.inj hj).symm
    subst this
    have h1 : IsRangeIter s.heap it _ _ _ := (z.ob _ _ hi).2
    refine wpAny_pyNext_range_item h1 (by omega) fun h' h2 h3 => ⟨_, z.upd hi h3 (o' := (Sq.range x st n).ao (j + 1)) ?_, rfl, _, rfl, rfl⟩
    show IsRangeIter h' it _ _ _
    have e1 : x + ((j + 1 : Nat) : Int) * st = x + j * st + st := by rw [Int.natCast_add, Int.add_mul]; omega
    have e2 : ((n : Int) - ((j + 1 : Nat) : Int)) = (n : Int) - j - 1 := by omega
    rw [e1, e2]; exact h2
  | list l vs =>
    obtain ⟨vc, n, h1, h2⟩ := z.list hn
    obtain ⟨u, hu, rfl⟩ := er_get h2 hv
    have h3 : s.heap.IsListIter it l i := (z.ob _ _ hi).2
    exact wpAny_pyNext_list_item h3 ⟨_, h1, rfl, _, rfl⟩ hu fun h' h4 h5 => ⟨_, z.upd hi h5 (o' := (Sq.list l vs).ao (i + 1)) h4, rfl, _, rfl, rfl⟩
  | tuple t vs =>
    obtain ⟨vc, n, h1, h2⟩ := z.tuple hn
    obtain ⟨u, hu, rfl⟩ := er_get h2 hv
    have h3 : s.heap.IsTupleIter it t i := (z.ob _ _ hi).2
    exact wpAny_pyNext_tuple_item h3 ⟨_, h1, rfl, _, rfl⟩ hu fun h' h4 h5 => ⟨_, z.upd hi h5 (o' := (Sq.tuple t vs).ao (i + 1)) h4, rfl, _, rfl, rfl⟩
theorem St.gone (z : St c ((L, m) :: S) H s) {it : Addr} {o : AO} (hi : H it = some o) {h' : Heap} (hx : Heap.ExtBut it s.heap h') : St c ((L, m) :: S) (H.del it) { s with heap := h' } := by
  have z' := z.less (H' := H.del it) fun a o h => (AH.del_some h).2
  refine z'.ext (a := it) (tk := s.toks) (List.cons_ne_nil _ _) hx (z.ob _ _ hi).1 (if_pos rfl) fun p hp q => ?_
  have := (z.fr p hp).2.1
  rw [q, hi] at this; cases this
theorem next_end {it : Addr} {sq : Sq} {i : Nat} (hh : A.handled = none) (hn : sq.need H) (hi : H it = some (sq.ao i)) (hle : i ≤ sq.xs.length) (hv : sq.xs[i]? = none) : R c A (pyNext (.ref it)) E ((L, m) :: S) H fun r H1 => H1 = H.del it ∧ r = none := fun s z => by
  cases sq with
  | range x st n =>
    have hge : ¬ i < n := by
      intro hlt
      simp only [Sq.xs, List.getElem?_map, List.getElem?_range hlt] at hv
      cases hv
    have h1 : IsRangeIter s.heap it _ _ _ := (z.ob _ _ hi).2
    exact wpAny_pyNext_range_end hh h1 (by omega) fun h' h2 => ⟨_, z.gone hi h2, rfl, rfl⟩
  | list l vs =>
    obtain ⟨vc, n, h1, h2⟩ := z.list hn
    have h3 : s.heap.IsListIter it l i := (z.ob _ _ hi).2
    exact wpAny_pyNext_list_end hh h3 ⟨_, h1, rfl, _, rfl⟩ (by subst h2; simpa [Sq.xs] using hv) fun h' h2 => ⟨_, z.gone hi h2, rfl, rfl⟩
  | tuple t vs =>
    obtain ⟨vc, n, h1, h2⟩ := z.tuple hn
    have h3 : s.heap.IsTupleIter it t i := (z.ob _ _ hi).2
    exact wpAny_pyNext_tuple_end hh h3 ⟨_, h1, rfl, _, rfl⟩ (by subst h2; simpa [Sq.xs] using hv) fun h' h2 => ⟨_, z.gone hi h2, rfl, rfl⟩

/-- an iterator is made -/
noncomputable def ITER (c : Cx) (A : Around) (E : Value → Shared → Prop) (S : Stk) (v : Value) (H : AH) (Q : Sq → Addr → AH → Prop) : Prop :=
  ∀ x, er x = v → R c A (pyIter x) E S H fun it H1 => ∃ a sq, it = .ref a ∧ H a = none ∧ H1 = H.set a (sq.ao 0) ∧ sq.need H ∧ Q sq a H1
theorem ITER_range {r : Addr} {a b st : Int} {n : Nat} {Q : Sq → Addr → AH → Prop} (hr : H r = some (.range a b st)) (hs : Builtin.Range.small a b st = true) (hn : Builtin.Range.rangeSize a b st = n)
    (h : ∀ it, H it = none → Q (.range a st n) it (H.set it ((Sq.range a st n).ao 0))) : ITER c A E S (.ref r) H Q := fun x ex s z => by
  have := er_ref ex; subst this
  obtain ⟨_, t, u, v, h1⟩ := z.ob _ _ hr
  have f := z.free (Nat.le_refl s.heap.objs.size)
  refine wpAny_pyIter_range h1 hs ⟨_, z.push (ao := (Sq.range a st n).ao 0) ?_, _, _, rfl, f, rfl, trivial, h _ f⟩
  rw [hn]
  show IsRangeIter _ _ _ _ _
  have e1 : a + ((0 : Nat) : Int) * st = a := by simp
  have e2 : (n : Int) - ((0 : Nat) : Int) = n := by simp
  rw [e1, e2]; exact Heap.get?_push_size _ rfl
theorem ITER_list {l : Addr} {vs : List Value} {Q : Sq → Addr → AH → Prop} (hl : H l = some (.list vs))
    (h : ∀ it, H it = none → Q (.list l vs) it (H.set it ((Sq.list l vs).ao 0))) : ITER c A E S (.ref l) H Q := fun x ex s z => by
  have := er_ref ex; subst this
  obtain ⟨vc, n, h1, h2⟩ := z.list hl
  have f := z.free (Nat.le_refl s.heap.objs.size)
  exact wpAny_pyIter_list ⟨_, h1, rfl, _, rfl⟩ ⟨_, z.push (ao := (Sq.list l vs).ao 0) ⟨_, Heap.get?_push_size _ rfl, rfl, rfl⟩, _, .list l vs, rfl, f, rfl, hl, h _ f⟩
theorem ITER_tuple {l : Addr} {vs : List Value} {Q : Sq → Addr → AH → Prop} (hl : H l = some (.tuple vs))
    (h : ∀ it, H it = none → Q (.tuple l vs) it (H.set it ((Sq.tuple l vs).ao 0))) : ITER c A E S (.ref l) H Q := fun x ex s z => by
  have := er_ref ex; subst this
  obtain ⟨vc, n, h1, h2⟩ := z.tuple hl
  have f := z.free (Nat.le_refl s.heap.objs.size)
  exact wpAny_pyIter_tuple ⟨_, h1, rfl, _, rfl⟩ ⟨_, z.push (ao := (Sq.tuple l vs).ao 0) ⟨_, Heap.get?_push_size _ rfl, rfl, rfl⟩, _, .tuple l vs, rfl, f, rfl, hl, h _ f⟩

/-- a turn's end -/
noncomputable def TurnEnd (ls : List Addr) (P : Nat → Loc → AH → Prop) (i : Nat) (H1 : AH) (Q : Flow → Loc → AH → Prop) (fl : Flow) (m2 : Loc) (H2 : AH) : Prop :=
  match fl with
  | .next | .cont => Mod ls H1 H2 ∧ ∃ m3, SubL m3 m2 ∧ P (i + 1) m3 H2
  | .brk => Q .next m2 H2
  | .ret v => Q (.ret v) m2 H2
/-- a loop's duties -/
structure LoopOk (c : Cx) (A : Around) (env : Env) (x : Str) (body : List Stmt) (L : Addr) (m : Loc) (S : Stk) (sq : Sq) (it : Addr) (H : AH) (Q : Flow → Loc → AH → Prop) (ls : List Addr) (P : Nat → Loc → AH → Prop) : Prop where
  src : ∀ H1, Mod (it :: ls) H H1 → sq.need H1
  nls : it ∉ ls
  start : P 0 m H
  stable : ∀ i m1 H1 H2, P i m1 H1 → Keep H1 H2 → P i m1 H2
  step : ∀ i v m1 H1, sq.xs[i]? = some v → P i m1 H1 → Mod (it :: ls) H H1 → XS c A env NoE L S ((x, v) :: m1) body H1 (TurnEnd ls P i H1 Q)
  fin : ∀ m1 H1, P sq.xs.length m1 H1 → Mod (it :: ls) H H1 → Q .next m1 H1
theorem sq_isIt {sq : Sq} {i : Nat} : (sq.ao i).isIt = true := by cases sq <;> rfl

theorem for_core {x : Str} {px : Pos} {body : List Stmt} {sq : Sq} {it : Addr} {Q : Flow → Loc → AH → Prop} {ls : List Addr} {P : Nat → Loc → AH → Prop} (O : LoopOk c A env x body L m S sq it H Q ls P) (hit : H it = some (sq.ao 0))
    (hh : A.handled = none) (hL : env.locals = L) (hk : env.scope.kind = .function) (hx : env.kindOf x = some .local) (z : St c ((L, m) :: S) H s) (F : Value → Shared → Prop) :
    codeAny (model c.prog c.w) A (.forLoop (.Name x px) (.ref it) body [] env) (fun r s' => match r with | .ok f => ∃ m' H', St c ((L, m') :: S) H' s' ∧ Q (erF f) m' H' | .error e => F e s') s := by
  refine codeAny_forLoop (fun k s' => ∃ i m1 H1, St c ((L, m1) :: S) H1 s' ∧ H1 it = some (sq.ao i) ∧ P i m1 H1 ∧ Mod (it :: ls) H H1 ∧ i ≤ sq.xs.length ∧ k = sq.xs.length - i) ?_ (sq.xs.length) ⟨0, m, H, z, hit, O.start, Mod.refl, Nat.zero_le _, rfl⟩
  rintro k s' ⟨i, m1, H1, z1, hi, hP, hM, hle, rfl⟩
  cases hv : sq.xs[i]? with
  | none =>
    have hlen : i = sq.xs.length := by
      have := List.getElem?_eq_none_iff.mp hv
      omega
    refine wp_noE (next_end hh (O.src _ hM) hi hle hv s' z1) ?_
    rintro r s2 ⟨_, z2, rfl, rfl⟩
    refine wpAny_execs_nil ⟨m1, _, z2, ?_⟩
    refine O.fin m1 _ (hlen ▸ O.stable _ _ _ _ hP fun a o ha ho => ?_) fun a o ha e => ?_
    · show (if a = it then none else H1 a) = some o
      rw [if_neg (fun q => by subst q; rw [hi] at ha; cases ha; rw [sq_isIt] at ho; cases ho)]; exact ha
    · show (if a = it then none else H1 a) = some o
      rw [if_neg (fun q : a = it => ha (by rw [q]; exact List.mem_cons_self))]; exact hM a o ha e
  | some v =>
    have hlt : i < sq.xs.length := (List.getElem?_eq_some_iff.mp hv).1
    refine wp_noE (next_item (O.src _ hM) hi hv s' z1) ?_
    rintro r s2 ⟨_, z2, rfl, u, rfl, rfl⟩
    refine wpAny_assign_Name (wp_noE (store_local (P := fun m' H' => m' = (x, er u) :: m1 ∧ H' = H1.set it (sq.ao (i + 1))) ⟨rfl, rfl⟩ hL hk hx z2) ?_)
    rintro _ s3 ⟨_, _, z3, rfl, rfl⟩
    have hK : Keep H1 (H1.set it (sq.ao (i + 1))) := fun a o ha ho => (AH.set_ne fun q => by subst q; rw [hi] at ha; cases ha; rw [sq_isIt] at ho; cases ho).trans ha
    have hM' : Mod (it :: ls) H (H1.set it (sq.ao (i + 1))) := hM.set List.mem_cons_self
    refine wp_noE (O.step i _ m1 _ hv (O.stable _ _ _ _ hP hK) hM' s3 z3) ?_
    rintro fl s4 ⟨m2, H2, z4, h4⟩
    have go : ∀ {m3}, Mod ls (H1.set it (sq.ao (i + 1))) H2 → SubL m3 m2 → P (i + 1) m3 H2 → ∃ k', k' < sq.xs.length - i ∧ ∃ i' m1 H1, St c ((L, m1) :: S) H1 s4 ∧ H1 it = some (sq.ao i') ∧ P i' m1 H1 ∧ Mod (it :: ls) H H1 ∧ i' ≤ sq.xs.length ∧ k' = sq.xs.length - i' := fun {m3} q1 q2 q3 =>
      ⟨sq.xs.length - (i + 1), by omega, i + 1, m3, H2, z4.loc (p := L) q2, q1 _ _ O.nls AH.set_self, q3, hM'.trans (q1.wider fun a ha => List.mem_cons_of_mem _ ha), hlt, rfl⟩
    cases fl with
    | next => obtain ⟨q1, m3, q2, q3⟩ := h4; exact go q1 q2 q3
    | cont => obtain ⟨q1, m3, q2, q3⟩ := h4; exact go q1 q2 q3
    | brk => exact ⟨m2, H2, z4, h4⟩
    | ret w => exact ⟨m2, H2, z4, h4⟩

theorem XE_for {x : Str} {px pos : Pos} {iter : Expr} {body : List Stmt} {Q : Flow → Loc → AH → Prop} (hh : A.handled = none)
    (h : EV c A env E ((L, m) :: S) iter H fun xv H1 => ITER c A E ((L, m) :: S) xv H1 fun sq it H2 => ∃ ls P, LoopOk c A env x body L m S sq it H2 Q ls P)
    (hL : env.locals = L := by rfl) (hk : env.scope.kind = .function := by rfl) (hx : env.kindOf x = some .local := by rfl) (hs : ∀ x, foldedSetIterable iter env x = pure x := by intro _; rfl) :
    XE c A env E L S m (.For (.Name x px) iter body [] pos) H Q := fun s z => by
  refine wpAny_For (R.run h z (fun xv s1 H1 x1 h1 => wpAny_mono (h1 xv rfl s1 x1) (fun it s2 ⟨H2, x2, a, sq, e1, e2, e3, e4, ls, P, O⟩ => ?_) fun _ _ e => e)) hs
  subst e1 e3
  exact for_core O AH.set_self hh hL hk hx x2 _
end
end Mine
end
section
open PySem PySem.W PyProof.Rows PySem.Calls
namespace Mine
section
variable {c : Cx} {A : Around} {E : Value → Shared → Prop} {env : Env} {L : Addr} {S : Stk} {m : Loc} {H : AH} {s : Shared} {Q : Value → AH → Prop}

theorem St.pushFrame (z : St c S H s) {h' : Heap} {tk : Nat} {m : Loc} {mc : Str → Option Value} {o : Obj} (hn : h'.Ns s.heap.objs.size mc) (hs : Heap.SameBut s.heap.objs.size (s.heap.push o) h') (hl : Lo m mc) :
    St c ((s.heap.objs.size, m) :: S) H { s with heap := h', toks := tk } := by
  have k : ∀ b o', s.heap.get? b = some o' → h'.get? b = some o' := fun b o' e => (hs.2 b (Nat.ne_of_lt (Heap.lt_size e))).trans (Heap.get?_push_of_some _ e)
  exact
  { keep := fun b o e => k b o (z.keep b o e)
    sz := by rw [hs.1, Heap.size_push]; exact Nat.le_succ_of_le z.sz
    fr := fun p hp => by
      rcases List.mem_cons.mp hp with rfl | hp'
      · exact ⟨z.size, z.free (Nat.le_refl _), _, hn, hl⟩
      · obtain ⟨h1, h2, mc, h3, h4⟩ := z.fr p hp'
        exact ⟨h1, h2, mc, h3.keeps k, h4⟩
    nd := List.nodup_cons.mpr ⟨fun q => by
      obtain ⟨p, hp, e⟩ := List.mem_map.mp q
      obtain ⟨_, _, mc, h3, _⟩ := z.fr p hp
      exact absurd h3.lt (by rw [e]; exact Nat.lt_irrefl _), z.nd⟩
    ob := fun a o e => by
      obtain ⟨h1, h2⟩ := z.ob a o e
      obtain ⟨oo, hb⟩ := h2.there
      exact ⟨h1, h2.same (by rw [hb]; exact k _ _ hb)⟩
    gens := z.gens
    dr := z.dr
    os := z.os }
theorem St.dropFrame {C : Addr} {mC : Loc} (z : St c ((C, mC) :: S) H s) {h' : Heap} {tk : Nat} (hs : Heap.SameBut C s.heap h') : St c S H { s with heap := h', toks := tk } where
  keep := fun b o e => (hs.2 b (fun q => absurd (q ▸ Heap.lt_size e) (Nat.not_lt.mpr (z.fr _ (.head _)).1))).trans (z.keep b o e)
  sz := by rw [hs.1]; exact z.sz
  fr := fun p hp => by
    obtain ⟨h1, h2, mc, h3, h4⟩ := z.fr p (.tail _ hp)
    exact ⟨h1, h2, mc, h3.sameBut hs (fun q => (List.nodup_cons.mp z.nd).1 (List.mem_map.mpr ⟨p, hp, q⟩)), h4⟩
  nd := (List.nodup_cons.mp z.nd).2
  ob := fun b o e => ⟨(z.ob b o e).1, (z.ob b o e).2.same (hs.2 b (fun q => by have := (z.fr _ (.head _)).2.1; rw [q, this] at e; cases e))⟩
  gens := z.gens
  dr := z.dr
  os := z.os

/-- a comprehension's duties -/
structure CompOk (c : Cx) (A : Around) (env : Env) (x : Str) (elt : Expr) (scope : Scope) (cl : List (Str × Addr)) (S : Stk) (sq : Sq) (it : Addr) (H : AH) (Q : Value → AH → Prop) (ls : List Addr) (P : Nat → List Value → AH → Prop) : Prop where
  src : ∀ H1, Mod (it :: ls) H H1 → sq.need H1
  nls : it ∉ ls
  few : sq.xs.length ≤ 1000
  dom : ∀ a ∈ ls, H a ≠ none
  start : P 0 [] H
  stable : ∀ D i ys H1 H2, H D = none → (∀ o, H1 D = some o → ∃ l, o = .list l) → P i ys H1 → KeepD D H1 H2 → P i ys H2
  step : ∀ i v ys C H1, sq.xs[i]? = some v → P i ys H1 → Mod (it :: ls) H H1 → EV c A (compEnvC scope cl C env) NoE ((C, [(x, v)]) :: S) elt H1 fun y H2 => Mod ls H1 H2 ∧ P (i + 1) (ys ++ [y]) H2
  fin : ∀ D ys H1, P sq.xs.length ys H1 → ys.length = sq.xs.length → Mod (it :: ls) H H1 → H D = none → H1 D = some (.list ys) → Q (.ref D) H1

theorem pyIter_self {it : Addr} {sq : Sq} {i : Nat} (hi : H it = some (sq.ao i)) (z : St c S H s) {Q : Value → Shared → Prop} (h : Q (.ref it) s) : wpAny (model c.prog c.w) A (pyIter (.ref it)) Q E s := by
  cases sq with
  | range x st n => exact wpAny_pyIter_rangeiter (z.ob _ _ hi).2 h
  | list l vs => exact wpAny_pyIter_listiter (z.ob _ _ hi).2 h
  | tuple t vs => exact wpAny_pyIter_tupleiter (z.ob _ _ hi).2 h
theorem append_exact {l : Addr} {vc : Array Value} {n : Nat} {x : Value} {Q : Value → Shared → Prop} (hl : s.heap.get? l = some { cls := .type "list", dict := none, data := .seq vc n, slots := #[] }) (hsz : vc.size ≤ 100000)
    (h : Q .none { s with heap := s.heap.update l (Obj.mapSeq (·.push x)) }) : wpAny (model c.prog c.w) A (call (.builtin "list.append") [.ref l, x]) Q E s :=
  call_meets PySem.F.slot_list_append ⟨_, hl, rfl⟩ PySem.F.entry_list_append (PySem.F.args_list_append_2 _ _) (list_append l vc n x (by rw [sizeLine_eq]; omega)) ⟨hl, h⟩

theorem comp_core {elt iter : Expr} {x : Str} {px : Pos} {scope : Scope} {pos : Pos} {cl : List (Str × Addr)} {sq : Sq} {it D C : Addr} {mC : Loc} {Q : Value → AH → Prop} {ls : List Addr} {P : Nat → List Value → AH → Prop}
    (O : CompOk c A env x elt scope cl ((L, m) :: S) sq it H Q ls P) (hit : H it = some (sq.ao 0)) (hD : H D = none) (hh : A.handled = none) (hk : scope.kind = .function) (hx : scope.names.lookup x = some .local)
    (z : St c ((C, mC) :: (L, m) :: S) (H.set D (.list [])) s) (F : Value → Shared → Prop) :
    codeAny (model c.prog c.w) A (.compLoop (.ListComp elt [⟨.Name x px, iter, [], 0⟩] scope pos) 0 (.ref it) (.ref D) (compEnvC scope cl C env))
      (fun r s' => match r with | .ok _ => ∃ mC' H1, St c ((C, mC') :: (L, m) :: S) H1 s' ∧ Q (.ref D) H1 | .error e => F e s') s := by
  have hDit : D ≠ it := fun q => by rw [q, hit] at hD; cases hD
  have hDls : D ∉ it :: ls := fun q => by
    rcases List.mem_cons.mp q with q | q
    · exact hDit q
    · exact O.dom D q hD
  refine codeAny_compLoop_list (fun k s' => ∃ i ys mC' H1, St c ((C, mC') :: (L, m) :: S) H1 s' ∧ H1 it = some (sq.ao i) ∧ H1 D = some (.list ys) ∧ ys.length = i ∧ P i ys H1 ∧ Mod (it :: ls) H H1 ∧ i ≤ sq.xs.length ∧ k = sq.xs.length - i) ?_ (sq.xs.length)
    ⟨0, [], mC, _, z, (AH.set_ne hDit.symm).trans hit, AH.set_self, rfl, O.stable D 0 [] H _ hD (fun o q => by rw [hD] at q; cases q) O.start (fun a o ha e _ => (AH.set_ne ha).trans e), Mod.refl.fresh hD, Nat.zero_le _, rfl⟩
  rintro k s' ⟨i, ys, mC', H1, z1, hi, hd, hlen', hP, hM, hle, rfl⟩
  cases hv : sq.xs[i]? with
  | none =>
    have hlen : i = sq.xs.length := by
      have := List.getElem?_eq_none_iff.mp hv
      omega
    refine wp_noE (next_end hh (O.src _ hM) hi hle hv s' z1) ?_
    rintro r s2 ⟨_, z2, rfl, rfl⟩
    refine ⟨mC', _, z2, ?_⟩
    have hD1 : H1.del it D = some (.list ys) := by
      show (if D = it then none else H1 D) = _
      rw [if_neg hDit]; exact hd
    refine O.fin D ys _ (hlen ▸ O.stable D i ys H1 _ hD (fun o q => by rw [hd] at q; cases q; exact ⟨_, rfl⟩) hP fun a o ha e ho => ?_) (hlen' ▸ hlen) (fun a o ha e => ?_) hD hD1
    · show (if a = it then none else H1 a) = some o
      rw [if_neg (fun q : a = it => by subst q; rw [hi] at e; cases e; rw [sq_isIt] at ho; cases ho)]; exact e
    · show (if a = it then none else H1 a) = some o
      rw [if_neg (fun q : a = it => ha (by rw [q]; exact List.mem_cons_self))]; exact hM a o ha e
  | some v =>
    have hlt : i < sq.xs.length := (List.getElem?_eq_some_iff.mp hv).1
    refine wp_noE (next_item (O.src _ hM) hi hv s' z1) ?_
    rintro r s2 ⟨_, z2, rfl, u, rfl, rfl⟩
    refine wpAny_assign_Name (wp_noE (store_local (env := compEnvC scope cl C env) (P := fun m' H' => m' = (x, er u) :: mC' ∧ H' = H1.set it (sq.ao (i + 1))) ⟨rfl, rfl⟩ rfl hk (lookup_relabel_local hx) z2) ?_)
    rintro _ s3 ⟨_, _, z3, rfl, rfl⟩
    have hK : KeepD D H1 (H1.set it (sq.ao (i + 1))) := fun a o _ ha ho => (AH.set_ne fun q => by subst q; rw [hi] at ha; cases ha; rw [sq_isIt] at ho; cases ho).trans ha
    have hM' : Mod (it :: ls) H (H1.set it (sq.ao (i + 1))) := hM.set List.mem_cons_self
    have z3' := z3.loc (p := C) (m' := [(x, er u)]) fun y w hw => by
      by_cases q : y = x
      · subst q; rw [lookup_cons_eq] at hw ⊢; exact hw
      · rw [lookup_cons_ne q] at hw; cases hw
    refine wp_noE (O.step i _ ys C _ hv (O.stable D _ _ _ _ hD (fun o q => by rw [hd] at q; cases q; exact ⟨_, rfl⟩) hP hK) hM' s3 z3') ?_
    rintro y s4 ⟨H2, z4, q1, q2⟩
    have hd2 : H2 D = some (.list ys) := q1 _ _ (fun q => hDls (List.mem_cons_of_mem _ q)) ((AH.set_ne hDit).trans hd)
    obtain ⟨vc, n, g1, g2⟩ := z4.list hd2
    refine append_exact g1 (by rw [er_size g2, hlen']; have := O.few; omega) ?_
    obtain ⟨u1, u2⟩ := list_upd (c := c) g1 (·.push y)
    have e : (vc.push y).toList.map er = ys ++ [er y] := by subst g2; simp
    have z5 := z4.upd (tk := s4.toks) hd2 u1 (e ▸ u2)
    refine ⟨sq.xs.length - (i + 1), by omega, i + 1, ys ++ [er y], [(x, er u)], _, z5, ?_, AH.set_self, by simp [hlen'], O.stable D _ _ _ _ hD (fun o q => by rw [hd2] at q; cases q; exact ⟨_, rfl⟩) q2 (fun a o ha e _ => (AH.set_ne ha).trans e), fun a o ha e => (AH.set_ne (fun q => by rw [q, hD] at e; cases e)).trans ((hM'.trans (q1.wider fun a ha => List.mem_cons_of_mem _ ha)) a o ha e), hlt, rfl⟩
    exact (AH.set_ne hDit.symm).trans (q1 _ _ O.nls AH.set_self)

/-- the comprehension's own activation, whatever comes behind it -/
theorem comp_block {elt iter : Expr} {x : Str} {px pos : Pos} {scope : Scope} {cl : List (Str × Addr)} {sq : Sq} {a : Addr} {H1 : AH} {RR : Value → Addr → Result → Shared → Prop} {ls : List Addr} {P : Nat → List Value → AH → Prop} (hh : A.handled = none)
    (z : St c ((L, m) :: S) (H1.set a (sq.ao 0)) s) (O : CompOk c A env x elt scope cl ((L, m) :: S) sq a (H1.set a (sq.ao 0)) Q ls P) (hcell : ∀ y ∈ scope.names, y.2 ≠ .cell) (hx : scope.names.lookup x = some .local) (hkind : scope.kind = .function)
    (hR : ∀ D C mC H2 f s', St c ((C, mC) :: (L, m) :: S) H2 s' → Q (.ref D) H2 → RR (.ref D) C (.ok f) s') :
    wpAny (model c.prog c.w) A (newList []) (fun acc s₃ => wpAny (model c.prog c.w) A (newFunctionEnv scope env.globals cl [] env.qual none .none (some env)) (fun cenv s₄ =>
      codeAny (model c.prog c.w) A (.compStart (.ListComp elt [⟨.Name x px, iter, [], 0⟩] scope pos) 0 (.ref a) acc { cenv with scope := relabel scope env }) (RR acc cenv.locals) s₄) E s₃) E s := by
  have hD := z.free (Nat.le_refl s.heap.objs.size)
  refine wpAny_newObj_type (wpAny_newFunctionEnv hcell (by intro y hy; simp at hy) (fun h₁ hns₁ hsb₁ => ?_) hkind)
  have x3 := z.push (o := { cls := .type "list", dict := none, data := .seq ([] : List Value).toArray }) (ao := .list []) ⟨_, _, Heap.get?_push_size _ rfl, rfl⟩
  have x4 := x3.pushFrame (tk := s.toks + ([] : List (Str × Value)).length) (m := []) hns₁ hsb₁ (fun y w hw => by cases hw)
  have hai : ((H1.set a (sq.ao 0)).set s.heap.objs.size (.list [])) a = some (sq.ao 0) := (AH.set_ne fun q => by rw [← q, AH.set_self] at hD; cases hD).trans AH.set_self
  have loop : codeAny (model c.prog c.w) A (.compLoop (.ListComp elt [⟨.Name x px, iter, [], 0⟩] scope pos) 0 (.ref a) (.ref s.heap.objs.size) (compEnvC scope cl (s.heap.push { cls := .type "list", dict := none, data := .seq ([] : List Value).toArray }).objs.size env))
      (RR (.ref s.heap.objs.size) (s.heap.push { cls := .type "list", dict := none, data := .seq ([] : List Value).toArray }).objs.size) _ :=
    codeAny_mono (comp_core (iter := iter) (px := px) (pos := pos) O AH.set_self hD hh hkind hx x4 (fun e s' => RR (.ref s.heap.objs.size) (s.heap.push { cls := .type "list", dict := none, data := .seq ([] : List Value).toArray }).objs.size (.error e) s')) (by
      intro r s' hr
      cases r with
      | error e => exact hr
      | ok f =>
        obtain ⟨mC', H3, z3, q⟩ := hr
        exact hR _ _ _ _ _ _ z3 q)
  exact codeAny_compStart_list loop (pyIter_self hai x4 loop)
theorem EV_listcomp {elt iter : Expr} {x : Str} {px pos : Pos} {scope : Scope} {cl : List (Str × Addr)} (hh : A.handled = none)
    (h : EV c A env E ((L, m) :: S) iter H fun xv H1 => ITER c A E ((L, m) :: S) xv H1 fun sq it H2 => ∃ ls P, CompOk c A env x elt scope cl ((L, m) :: S) sq it H2 Q ls P)
    (hclos : closureFor scope env = pure cl) (hcell : ∀ y ∈ scope.names, y.2 ≠ .cell) (hnames : ∀ y ∈ scope.names, y.2 = .local → scope.names.lookup y.1 = some .local) (hx : scope.names.lookup x = some .local := by rfl) (hkind : scope.kind = .function := by rfl)
    (hs : ∀ x, foldedSetIterable iter env x = pure x := by intro _; rfl) : EV c A env E ((L, m) :: S) (.ListComp elt [⟨.Name x px, iter, [], 0⟩] scope pos) H Q := fun s z => by
  rw [eval_ListComp]
  refine wpAny_comprehension_free (use := none) rfl hs hclos hkind hnames (R.run h z (fun xv s1 H1 x1 h1 => wpAny_mono (h1 xv rfl s1 x1) (fun it s2 ⟨H2, x2, a, sq, e1, e2, e3, e4, ls, P, O⟩ => ?_) fun _ _ e => e))
  subst e1 e3
  refine comp_block (RR := fun acc C => compPost (model c.prog c.w) A E none (fun v s' => ∃ H', St c ((L, m) :: S) H' s' ∧ Q (er v) H') acc C) hh x2 O hcell hx hkind fun D C mC H3 f s' z3 q => ?_
  obtain ⟨_, _, mc, hn, _⟩ := z3.fr _ (.head _)
  exact ⟨mc, hn, fun h' hs' => ⟨H3, z3.dropFrame hs', q⟩⟩
theorem St.swap {p q : Addr × Loc} (z : St c (p :: q :: S) H s) : St c (q :: p :: S) H s where
  keep := z.keep
  sz := z.sz
  fr := fun r hr => z.fr r (by
    rcases List.mem_cons.mp hr with rfl | hr
    · exact .tail _ (.head _)
    · rcases List.mem_cons.mp hr with rfl | hr
      · exact .head _
      · exact .tail _ (.tail _ hr))
  nd := by
    have := z.nd
    simp only [List.map_cons, List.nodup_cons, List.mem_cons, not_or] at this ⊢
    exact ⟨⟨Ne.symm this.1.1, this.2.1⟩, this.1.2, this.2.2⟩
  ob := z.ob
  gens := z.gens
  dr := z.dr
  os := z.os
/-- a comprehension bound to a name of the frame, the name stored ahead of the comprehension's end -/
theorem XE_assign_comp {elt iter : Expr} {x y : Str} {px py pos spos : Pos} {scope : Scope} {cl : List (Str × Addr)} {Q : Flow → Loc → AH → Prop} (hh : A.handled = none)
    (h : EV c A env E ((L, m) :: S) iter H fun xv H1 => ITER c A E ((L, m) :: S) xv H1 fun sq it H2 => ∃ ls P, CompOk c A env x elt scope cl ((L, m) :: S) sq it H2 (fun v H3 => Q .next ((y, v) :: m) H3) ls P)
    (hclos : closureFor scope env = pure cl) (hcell : ∀ y ∈ scope.names, y.2 ≠ .cell) (hnames : ∀ y ∈ scope.names, y.2 = .local → scope.names.lookup y.1 = some .local) (hL : env.locals = L := by rfl) (hk : env.scope.kind = .function := by rfl) (hl : env.kindOf y = some .local := by rfl)
    (hsw : swapsWith (.ListComp elt [⟨.Name x px, iter, [], 0⟩] scope pos) (some (.Name y py)) spos.line env = pure true := by rfl) (hx : scope.names.lookup x = some .local := by rfl) (hkind : scope.kind = .function := by rfl)
    (hs : ∀ x, foldedSetIterable iter env x = pure x := by intro _; rfl) : XE c A env E L S m (.Assign [.Name y py] (.ListComp elt [⟨.Name x px, iter, [], 0⟩] scope pos) spos) H Q := fun s z => by
  rw [exec_Assign_Name_used _ _ _ _ hsw]
  refine wpAny_bind (wpAny_standAt (wpAny_bind ?_))
  show wpAny _ A (do let _ ← comprehension (.ListComp elt [⟨.Name x px, iter, [], 0⟩] scope pos) scope env _ (newList []) false (eval iter env) (some (assign (.Name y py) env))) _ _ s
  refine wpAny_bind (wpAny_mono (wpAny_comprehension_free (use := some (assign (.Name y py) env)) (Q := fun _ s' => ∃ m' H', St c ((L, m') :: S) H' s' ∧ Q .next m' H') rfl hs hclos hkind hnames
    (R.run h z (fun xv s1 H1 x1 h1 => wpAny_mono (h1 xv rfl s1 x1) (fun it s2 ⟨H2, x2, a, sq, e1, e2, e3, e4, ls, P, O⟩ => ?_) fun _ _ e => e))) (fun _ s' hq => wpAny_pure (wpAny_pure hq)) fun _ _ e => e)
  subst e1 e3
  refine comp_block (RR := fun acc C => compPost (model c.prog c.w) A E (some (assign (.Name y py) env)) (fun _ s' => ∃ m' H', St c ((L, m') :: S) H' s' ∧ Q .next m' H') acc C) hh x2 O hcell hx hkind fun D C mC H3 f s' z3 q => ?_
  show wpAny _ A (assign (.Name y py) env (.ref D)) _ _ _
  refine wpAny_assign_Name (wpAny_mono (store_local (P := fun m' H' => m' = (y, .ref D) :: m ∧ H' = H3) ⟨rfl, rfl⟩ hL hk hl z3.swap) ?_ fun _ _ e => e)
  rintro _ s4 ⟨_, _, z4, rfl, rfl⟩
  have z5 := z4.swap
  obtain ⟨_, _, mc, hn, _⟩ := z5.fr _ (.head _)
  exact ⟨mc, hn, fun h' hs' => ⟨_, _, z5.dropFrame hs', q⟩⟩
end
end Mine
end
section
open PySem PySem.W PyProof.Rows PySem.Calls
open PySem.MeetsSeq
namespace Mine
theorem tuple_index (l : Addr) (items : Array Value) (n : Nat) (x : Value) (e : Value → Bool) (he : ∀ y, y ∈ items → EqGives y x (e y)) (j : Nat) (hj : j < items.size)
    (hit : e items[j] = true) (hno : ∀ m (hm : m < items.size), m < j → e items[m] = false) :
    Meets (Builtin.«tuple.index» ⟨[.ref l, x], []⟩)
      (fun _ R s => s.heap.get? l = some { cls := .type "tuple", dict := none, data := .seq items n, slots := #[] } ∧ R (.ok (.ret (.int j s.toks))) { s with toks := s.toks + 1 }) := by
  intro prog w A R s h
  obtain ⟨hp, g, d, tk, os⟩ := s; obtain ⟨hl, h⟩ := h
  unfold Builtin.«tuple.index»
  simp only [Std.Legacy.Range.forIn_eq_forIn_range']
  wp_walk using wpAny_loadPart' hl
  have hsz : [:min items.size items.size].size = items.size := by simp [Std.Legacy.Range.size]
  rw [hsz]
  show wpAny _ _ (forIn (List.range' 0 items.size) ((none, ()) : Option Fin × Unit) fun (i : Nat) __s => match items[i]? with
            | some y => do
              let __do_lift ← eqBool y x
              if __do_lift = true then do
                  let __do_lift ← retInt (i : Int)
                  pure (ForInStep.done (some __do_lift, ()))
                else pure (ForInStep.yield (none, ()))
            | _ => pure (ForInStep.yield (none, ()))) _ _ _
  refine wpAny_forIn_list _ (fun rest b s' => b = (none, ()) ∧ s' = ⟨hp, g, d, tk, os⟩ ∧ ∃ i, i ≤ j ∧ rest = List.range' i (items.size - i)) _ ?_ ?_ _ _ ⟨rfl, rfl, 0, Nat.zero_le _, rfl⟩
  · rintro a rest b s' ⟨rfl, rfl, i, hij, hr⟩
    have hlt : i < items.size := by omega
    have hs : items.size - i = (items.size - (i + 1)) + 1 := by omega
    rw [hs, List.range'_succ] at hr
    obtain ⟨rfl, rfl⟩ := List.cons.inj hr
    rw [Array.getElem?_eq_getElem hlt]
    dsimp only
    refine wpAny_bind (he _ (Array.getElem_mem hlt) prog w _ _ _ _ ?_)
    by_cases hq : a = j
    · subst hq
      rw [hit, if_pos rfl]
      wp_walk
      exact h
    · rw [hno a hlt (by omega), if_neg Bool.false_ne_true]
      exact wpAny_pure ⟨rfl, rfl, a + 1, by omega, rfl⟩
  · rintro b s' ⟨rfl, rfl, i, hij, hr⟩
    have : (List.range' i (items.size - i)).length = 0 := by rw [← hr]; rfl
    rw [List.length_range'] at this
    omega
section
variable {c : Cx} {A : Around} {E : Value → Shared → Prop} {env : Env} {L : Addr} {S : Stk} {m : Loc} {H : AH} {s : Shared} {Q : Value → AH → Prop}
noncomputable def strIs (k : Str) : Value → Bool
  | .str s _ => s.cps.toList == k.cps.toList
  | _ => false
theorem str_beq (a b : Str) : (a.cps.toList == b.cps.toList) = (a == b) := by
  rw [Bool.eq_iff_iff, beq_iff_eq, beq_iff_eq]
  constructor
  · intro h; exact Str.ext' (Array.toList_inj.mp h)
  · rintro rfl; rfl
theorem names_are {vc : Array Value} {names : List Str} (h : vc.toList.map er = names.map fun x => .str x 0) {i : Nat} (hi : i < vc.size) : ∃ x t, vc[i] = .str x t ∧ names[i]? = some x := by
  have h1 : (vc.toList.map er)[i]? = (names.map fun x => Value.str x 0)[i]? := by rw [h]
  rw [List.getElem?_map, List.getElem?_map, Array.getElem?_toList, Array.getElem?_eq_getElem hi] at h1
  cases hn : names[i]? with
  | none => rw [hn] at h1; cases h1
  | some x =>
    rw [hn] at h1
    obtain ⟨t, ht⟩ := er_str (Option.some.inj h1)
    exact ⟨x, t, ht, rfl⟩
theorem names_eq {vc : Array Value} {names : List Str} (h : vc.toList.map er = names.map fun x => .str x 0) (k : Str) (t : Tok) : ∀ y, y ∈ vc → EqGives y (.str k t) (strIs k y) := fun y hy => by
  obtain ⟨i, hi, rfl⟩ := Array.mem_iff_getElem.mp hy
  obtain ⟨x, t', e, _⟩ := names_are h hi
  rw [e]; exact SeqRoads2.EqGives.str x k t' t
theorem names_is {vc : Array Value} {names : List Str} (h : vc.toList.map er = names.map fun x => .str x 0) (k : Str) {i : Nat} (hi : i < vc.size) : strIs k vc[i] = (names[i]? == some k) := by
  obtain ⟨x, t, e, hn⟩ := names_are h hi
  rw [e, hn]
  show (x.cps.toList == k.cps.toList) = _
  rw [str_beq]; rfl
theorem names_len {vc : Array Value} {names : List Str} (h : vc.toList.map er = names.map fun x => .str x 0) : vc.size = names.length := by
  have := congrArg List.length h; simpa using this
/-- a name among names -/
theorem CMP_in_names {t : Addr} {names : List Str} {k : Str} (ht : H t = some (.tuple (names.map fun x => .str x 0))) (h : Q (.bool (names.contains k)) H) : CMP c A E S .In (.str k 0) (.ref t) H Q := fun x y ex ey s z => by
  obtain ⟨tk, rfl⟩ := er_str ex
  have := er_ref ey; subst this
  obtain ⟨vc, n, h1, h2⟩ := z.tuple ht
  refine SeqRoads2.in_tuple (strIs k) (names_eq h2 k tk) h1 ⟨H, z, ?_⟩
  have e : vc.any (strIs k) = names.contains k := by
    rw [Bool.eq_iff_iff, Array.any_eq_true, List.contains_iff_mem]
    constructor
    · rintro ⟨i, hi, q⟩
      rw [names_is h2 k hi] at q
      exact List.mem_of_getElem? (by simpa using q)
    · intro q
      obtain ⟨i, hi, e⟩ := List.getElem_of_mem q
      have hi' : i < vc.size := by rw [names_len h2]; exact hi
      exact ⟨i, hi', by rw [names_is h2 k hi', List.getElem?_eq_getElem hi, e]; simp⟩
  show Q (.bool (vc.any (strIs k))) H
  rw [e]; exact h
theorem idx_facts {vc : Array Value} {names : List Str} (h : vc.toList.map er = names.map fun x => .str x 0) {k : Str} (hk : k ∈ names) :
    ∃ hj : names.idxOf k < vc.size, strIs k vc[names.idxOf k] = true ∧ ∀ m (hm : m < vc.size), m < names.idxOf k → strIs k vc[m] = false := by
  have hj : names.idxOf k < vc.size := by rw [names_len h]; exact List.idxOf_lt_length_of_mem hk
  refine ⟨hj, ?_, fun m hm hlt => ?_⟩
  · rw [names_is h k hj]
    have hj' : names.idxOf k < names.length := by rw [← names_len h]; exact hj
    rw [List.getElem?_eq_getElem hj', List.getElem_idxOf hj']; simp
  · rw [names_is h k hm]
    have hm' : m < names.length := by rw [← names_len h]; exact hm
    have := List.not_of_lt_findIdx (p := (· == k)) (xs := names) hlt
    rw [List.getElem?_eq_getElem hm']
    simpa using this

/-- a method's call -/
noncomputable def METH (c : Cx) (A : Around) (env : Env) (E : Value → Shared → Prop) (S : Stk) (name : Str) (pos : Pos) (args : List Expr) (o : Value) (H : AH) (Q : Value → AH → Prop) : Prop :=
  ∀ x pl s, er x = o → St c S H s → wpAny (model c.prog c.w) A (getMethod x name pl) (fun fx s1 => wpAny (model c.prog c.w) A (callWith pos fx.1 fx.2 (backTo pos (starEach args env)) []) (fun v s' => ∃ H', St c S H' s' ∧ Q (er v) H') E s1) E s
theorem EV_Call_method {o : Expr} {name : Str} {apos pos : Pos} {args : List Expr} {pl : Sem Bool} (h : EV c A env E S o H fun ov H1 => METH c A env E S name pos args ov H1 Q)
    (he : eval (.Call (.Attribute o name apos) args [] pos) env = (do
      let ov ← eval o env
      standAt apos.atName
      let (f, first) ← holding [ov] (getMethod ov name pl)
      callWith pos f first (backTo pos (starEach args env)) (backToKw pos (keywordEach [] env))) := by rfl) : EV c A env E S (.Call (.Attribute o name apos) args [] pos) H Q := fun s z => by
  rw [he]
  refine wpAny_bind (R.run h z (fun ov s1 H1 x1 h1 => wpAny_bind (wpAny_standAt (wpAny_bind (wpAny_holding (h1 ov pl s1 rfl x1))))))
end
end Mine
end
section
open PySem PySem.W PyProof.Rows PySem.Calls
open PySem.MeetsSeq
namespace Mine
section
variable {c : Cx} {A : Around} {E : Value → Shared → Prop} {env : Env} {L : Addr} {S : Stk} {m : Loc} {H : AH} {s : Shared} {Q : Value → AH → Prop}

theorem er1 {xs : List Value} {a : Value} (h : xs.map er = [a]) : ∃ x, xs = [x] ∧ er x = a := by
  cases xs with
  | nil => cases h
  | cons x r =>
    rw [List.map_cons] at h
    obtain ⟨h1, h2⟩ := List.cons.inj h
    have := List.map_eq_nil_iff.mp h2; subst this
    exact ⟨x, rfl, h1⟩
theorem er2 {xs : List Value} {a b : Value} (h : xs.map er = [a, b]) : ∃ x y, xs = [x, y] ∧ er x = a ∧ er y = b := by
  cases xs with
  | nil => cases h
  | cons x r =>
    rw [List.map_cons] at h
    obtain ⟨h1, h2⟩ := List.cons.inj h
    obtain ⟨y, rfl, h3⟩ := er1 h2
    exact ⟨x, y, rfl, h1, h3⟩
theorem er3 {xs : List Value} {a b d : Value} (h : xs.map er = [a, b, d]) : ∃ x y w, xs = [x, y, w] ∧ er x = a ∧ er y = b ∧ er w = d := by
  cases xs with
  | nil => cases h
  | cons x r =>
    rw [List.map_cons] at h
    obtain ⟨h1, h2⟩ := List.cons.inj h
    obtain ⟨y, w, rfl, h3, h4⟩ := er2 h2
    exact ⟨x, y, w, rfl, h1, h3, h4⟩
theorem METH_builtin (C0 : c.Ok) {T name id : String} {n : Str} {a : Addr} {pos : Pos} {args : List Expr} (hT : ∀ s, St c S H s → s.TypeIs (.ref a) T ∧ ∃ o, s.heap.get? a = some o ∧ o.dict = none) (pa : PlainAttrs T) (slot : Slot T n id)
    (hty : typeOf (.builtin id) = pure (.type "method_descriptor")) (h : EVs c A env E S pos args H fun vs H1 => CV c A E S (.builtin id) (.ref a :: vs) H1 Q) (hs : starEach args env = args.map fun e => (false, eval e env) := by rfl) :
    METH c A env E S n pos args (.ref a) H Q := fun x pl s ex z => by
  have := er_ref ex; subst this
  obtain ⟨h1, h2⟩ := hT s z
  refine getMethod_builtin h1 pa slot hty (fun b e => by cases e; exact h2) ?_
  exact R_callWith (first := [.ref a]) C0 Kept.builtin h hs s z
theorem METH_list (C0 : c.Ok) {id : String} {n : Str} {a : Addr} {vs0 : List Value} {pos : Pos} {args : List Expr} (ha : H a = some (.list vs0)) (slot : Slot "list" n id) (hty : typeOf (.builtin id) = pure (.type "method_descriptor"))
    (h : EVs c A env E S pos args H fun vs H1 => CV c A E S (.builtin id) (.ref a :: vs) H1 Q) (hs : starEach args env = args.map fun e => (false, eval e env) := by rfl) : METH c A env E S n pos args (.ref a) H Q :=
  METH_builtin (name := "") C0 (fun s z => let ⟨vc, n, h1, _⟩ := z.list ha; ⟨⟨_, h1, rfl⟩, _, h1, rfl⟩) PySem.F.plainAttrs_list slot hty h hs
theorem METH_tuple (C0 : c.Ok) {id : String} {n : Str} {a : Addr} {vs0 : List Value} {pos : Pos} {args : List Expr} (ha : H a = some (.tuple vs0)) (slot : Slot "tuple" n id) (hty : typeOf (.builtin id) = pure (.type "method_descriptor"))
    (h : EVs c A env E S pos args H fun vs H1 => CV c A E S (.builtin id) (.ref a :: vs) H1 Q) (hs : starEach args env = args.map fun e => (false, eval e env) := by rfl) : METH c A env E S n pos args (.ref a) H Q :=
  METH_builtin (name := "") C0 (fun s z => let ⟨vc, n, h1, _⟩ := z.tuple ha; ⟨⟨_, h1, rfl⟩, _, h1, rfl⟩) PySem.F.plainAttrs_tuple slot hty h hs

theorem CV_append {a : Addr} {vs : List Value} {v : Value} (ha : H a = some (.list vs)) (hl : vs.length ≤ 100000) (h : Q .none (H.set a (.list (vs ++ [v])))) : CV c A E S (.builtin "list.append") [.ref a, v] H Q := fun xs ex s z => by
  obtain ⟨x, y, rfl, e1, rfl⟩ := er2 ex
  have := er_ref e1; subst this
  obtain ⟨vc, n, h1, h2⟩ := z.list ha
  obtain ⟨u1, u2⟩ := list_upd (c := c) h1 (·.push y)
  refine append_exact h1 (by rw [er_size h2]; exact hl) ⟨_, z.upd ha u1 u2, ?_⟩
  subst h2; simpa [er] using h
theorem CV_pop {a : Addr} {vs : List Value} {v : Value} (ha : H a = some (.list (vs ++ [v]))) (hl : vs.length ≤ 100000) (h : Q v (H.set a (.list vs))) : CV c A E S (.builtin "list.pop") [.ref a] H Q := fun xs ex s z => by
  replace ex := er1 ex
  obtain ⟨x, rfl, ex⟩ := ex
  have := er_ref ex; subst this
  obtain ⟨vc, n, h1, h2⟩ := z.list ha
  have hsz : vc.size = vs.length + 1 := by rw [er_size h2]; simp
  obtain ⟨u1, u2⟩ := list_upd (c := c) h1 (fun xs => xs.eraseIdxIfInBounds (vc.size - 1))
  have hlt : vc.size - 1 < vc.size := by omega
  have hg : vc[vc.size - 1]? = some vc[vc.size - 1] := Array.getElem?_eq_getElem hlt
  have hv : er vc[vc.size - 1] = v := by
    have q : (vc.toList.map er)[vs.length]? = (vs ++ [v])[vs.length]? := by rw [h2]
    rw [List.getElem?_append_right (Nat.le_refl _), Nat.sub_self, List.getElem?_map, Array.getElem?_toList, show vs.length = vc.size - 1 by omega, hg] at q
    simpa using q
  have hrest : (vc.eraseIdxIfInBounds (vc.size - 1)).toList.map er = vs := by
    have e1 : (vc.eraseIdxIfInBounds (vc.size - 1)).toList = vc.toList.eraseIdx (vc.size - 1) := by
      unfold Array.eraseIdxIfInBounds
      rw [dif_pos hlt]; simp
    have e2 : vc.toList.eraseIdx (vc.size - 1) = vc.toList.dropLast := by
      rw [List.eraseIdx_eq_dropLast]; simp; omega
    rw [e1, e2, List.map_dropLast, h2, List.dropLast_concat]
  refine call_meets PySem.F.slot_list_pop ⟨_, h1, rfl⟩ PySem.F.entry_list_pop (PySem.F.args_list_pop_1 _) (list_pop_last a vc n vc[vc.size - 1] (Array.getElem?_eq_getElem hlt) (by rw [sizeLine_eq]; omega)) ⟨h1, ?_⟩
  exact ⟨_, z.upd (tk := s.toks) ha u1 u2, by rw [hrest]; show Q (er _) _; rw [hv]; exact h⟩
theorem CV_reverse {a : Addr} {vs : List Value} (ha : H a = some (.list vs)) (hl : vs.length ≤ 100000) (h : Q .none (H.set a (.list vs.reverse))) : CV c A E S (.builtin "list.reverse") [.ref a] H Q := fun xs ex s z => by
  replace ex := er1 ex
  obtain ⟨x, rfl, ex⟩ := ex
  have := er_ref ex; subst this
  obtain ⟨vc, n, h1, h2⟩ := z.list ha
  obtain ⟨u1, u2⟩ := list_upd (c := c) h1 (fun xs => xs.reverse)
  refine call_meets PySem.F.slot_list_reverse ⟨_, h1, rfl⟩ PySem.F.entry_list_reverse (PySem.F.args_list_reverse_1 _) (AutoSeq1.list_reverse_list_0 a vc n (by rw [sizeLine_eq, er_size h2]; omega)) ⟨h1, ?_⟩
  refine ⟨_, z.upd (tk := s.toks) ha u1 u2, ?_⟩
  subst h2; simpa [er] using h
theorem CV_index_list {a : Addr} {names : List Str} {k : Str} (ha : H a = some (.list (names.map fun x => .str x 0))) (hk : k ∈ names) (hl : names.length ≤ 1000) (h : Q (.int (names.idxOf k : Nat) 0) H) : CV c A E S (.builtin "list.index") [.ref a, .str k 0] H Q := fun xs ex s z => by
  obtain ⟨x, y, rfl, e1, e2⟩ := er2 ex
  have := er_ref e1; subst this
  obtain ⟨t, rfl⟩ := er_str e2
  obtain ⟨vc, n, h1, h2⟩ := z.list ha
  obtain ⟨j1, j2, j3⟩ := idx_facts h2 hk
  exact call_meets PySem.F.slot_list_index ⟨_, h1, rfl⟩ PySem.F.entry_list_index (PySem.F.args_list_index_2 _ _) (list_index a vc n _ (strIs k) (names_eq h2 k t) _ j1 (by have := names_len h2; omega) j2 j3) ⟨h1, H, z.toks _, h⟩
theorem CV_index_tuple {a : Addr} {names : List Str} {k : Str} (ha : H a = some (.tuple (names.map fun x => .str x 0))) (hk : k ∈ names) (h : Q (.int (names.idxOf k : Nat) 0) H) : CV c A E S (.builtin "tuple.index") [.ref a, .str k 0] H Q := fun xs ex s z => by
  obtain ⟨x, y, rfl, e1, e2⟩ := er2 ex
  have := er_ref e1; subst this
  obtain ⟨t, rfl⟩ := er_str e2
  obtain ⟨vc, n, h1, h2⟩ := z.tuple ha
  obtain ⟨j1, j2, j3⟩ := idx_facts h2 hk
  exact call_meets PySem.F.slot_tuple_index ⟨_, h1, rfl⟩ PySem.F.entry_tuple_index (PySem.F.args_tuple_index_2 _ _) (tuple_index a vc n _ (strIs k) (names_eq h2 k t) _ j1 j2 j3) ⟨h1, H, z.toks _, h⟩
theorem CV_len_list {a : Addr} {vs : List Value} (ha : H a = some (.list vs)) (hl : vs.length ≤ 100000) (h : Q (.int vs.length 0) H) : CV c A E S (.builtin "len") [.ref a] H Q := fun xs ex s z => by
  replace ex := er1 ex
  obtain ⟨x, rfl, ex⟩ := ex
  have := er_ref ex; subst this
  obtain ⟨vc, n, h1, h2⟩ := z.list ha
  have e := er_size h2
  exact Calls.call_len_list ⟨_, h1, rfl, _, rfl⟩ (by omega) ⟨H, z.toks _, by show Q (.int vc.size 0) H; rw [e]; exact h⟩
theorem CV_list_copy {a : Addr} {vs : List Value} (ha : H a = some (.list vs)) (hl : vs.length ≤ 100000) (h : ∀ b, H b = none → Q (.ref b) (H.set b (.list vs))) (hne : S ≠ []) : CV c A E S (.type "list") [.ref a] H Q := fun xs ex s z => by
  replace ex := er1 ex
  obtain ⟨x, rfl, ex⟩ := ex
  have := er_ref ex; subst this
  obtain ⟨vc, n, h1, h2⟩ := z.list ha
  have f := z.free (Nat.le_refl s.heap.objs.size)
  refine call_list_seq a (.inl rfl) h1 rfl rfl (fun h' c' k1 k2 => ⟨_, ?_, h _ f⟩) (by rw [sizeLine_eq, er_size h2]; omega)
  have z1 : St c S H { s with heap := h', toks := s.toks } := z.ext (a := s.heap.objs.size) hne (fun b o _ e => k1 b o e) z.size f fun p hp q => by
    obtain ⟨_, _, mc, h3, _⟩ := z.fr p hp
    exact absurd h3.lt (by rw [q]; exact Nat.lt_irrefl _)
  exact { z1 with
    fr := fun p hp => by
      obtain ⟨q1, q2, mc, q3, q4⟩ := z1.fr p hp
      refine ⟨q1, (AH.set_ne ?_).trans q2, mc, q3, q4⟩
      obtain ⟨_, _, mc', h3, _⟩ := z.fr p hp
      exact Nat.ne_of_lt h3.lt
    ob := fun b o e => by
      by_cases q : b = s.heap.objs.size
      · subst q; rw [AH.set_self] at e; cases e; exact ⟨z.size, vc, c', k2, h2⟩
      · rw [AH.set_ne q] at e; exact z1.ob b o e }
theorem CV_range1 {n : Int} (h : ∀ r, H r = none → Q (.ref r) (H.set r (.range 0 n 1))) : CV c A E S (.type "range") [.int n 0] H Q := fun xs ex s z => by
  replace ex := er1 ex
  obtain ⟨x, rfl, ex⟩ := ex
  obtain ⟨t, rfl⟩ := er_int ex
  exact call_range_1 ⟨_, (z.push (ao := .range 0 n 1) ⟨_, _, _, Heap.get?_push_size _ rfl⟩).toks _, h _ (z.free (Nat.le_refl _))⟩
theorem CV_range3 {a b st : Int} (hst : st ≠ 0) (hp : Builtin.divisionGoesByPylong (b - a) st = false) (h : ∀ r, H r = none → Q (.ref r) (H.set r (.range a b st))) : CV c A E S (.type "range") [.int a 0, .int b 0, .int st 0] H Q := fun xs ex s z => by
  obtain ⟨x, y, w, rfl, e1, e2, e3⟩ := er3 ex
  obtain ⟨t, rfl⟩ := er_int e1
  obtain ⟨t2, rfl⟩ := er_int e2
  obtain ⟨t3, rfl⟩ := er_int e3
  exact call_range_3 hst ⟨_, (z.push (ao := .range a b st) ⟨_, _, _, Heap.get?_push_size _ rfl⟩).toks _, h _ (z.free (Nat.le_refl _))⟩ (.inl hp)
theorem CV_divmod {a b : Int} (hb : 0 < b ∧ b.natAbs < 2 ^ 64) (h : ∀ t, H t = none → Q (.ref t) (H.set t (.tuple [.int (a / b) 0, .int (a % b) 0]))) : CV c A E S (.builtin "divmod") [.int a 0, .int b 0] H Q := fun xs ex s z => by
  obtain ⟨x, y, rfl, e1, e2⟩ := er2 ex
  obtain ⟨t, rfl⟩ := er_int e1
  obtain ⟨t2, rfl⟩ := er_int e2
  refine divmod_int (by omega) ⟨_, (z.push (ao := .tuple [.int (a / b) 0, .int (a % b) 0]) ⟨_, _, Heap.get?_push_size _ rfl, ?_⟩).toks _, h _ (z.free (Nat.le_refl _))⟩ (.inl (noPy hb.2))
  simp [er, Int.fdiv_eq_ediv_of_nonneg _ (show 0 ≤ b by omega), Int.fmod_eq_emod_of_nonneg _ (show 0 ≤ b by omega)]
end
end Mine
end
section
open PySem PySem.W PyProof.Rows PySem.Calls
open PySem.MeetsSeq
namespace Mine
section
variable {c : Cx} {A : Around} {E : Value → Shared → Prop} {env : Env} {L : Addr} {S : Stk} {m : Loc} {H : AH} {s : Shared} {Q : Value → AH → Prop}

theorem Cx.Ok.big (C : c.Ok) : 3 < c.g.objs.size := by
  obtain ⟨p, loose, mg, mb, T⟩ := C.top
  exact T.g.lt
theorem notSys (C : c.Ok) {a : Addr} (h : c.g.objs.size ≤ a) : (a == sysModules) = false := by
  have h1 := C.big
  have h2 : a ≠ 1 := fun q => by subst q; exact absurd (Nat.lt_of_lt_of_le h1 h) (by decide)
  show (a == 1) = false
  simpa using h2

-- a dict of ints
theorem St.idict (z : St c S H s) {a : Addr} {f : Int → Option Value} {n : Nat} (h : H a = some (.idict f n)) : ∃ kvs, s.heap.DictOf (intKind c.prog c.w) a kvs ∧ (∀ k, (valueAt kvs k).map er = f k) ∧ kvs.length ≤ n := (z.ob _ _ h).2
theorem DictOf.noDict {K : Type} [DecidableEq K] {prog : Program} {w : World} {knd : KeyKind prog w K} {h : Heap} {a : Addr} {kvs : List (K × Value)} (x : h.DictOf knd a kvs) : ∃ o, h.get? a = some o ∧ o.dict = none :=
  let ⟨o, _, _, h1, h2, _⟩ := x; ⟨o, h1, h2.2.1⟩
theorem valueAt_stored {K : Type} [DecidableEq K] (kvs : List (K × Value)) (k : K) (v : Value) (x : K) : valueAt (stored kvs k v) x = if x = k then some v else valueAt kvs x := by
  have key : ∀ (l : List (K × Value)), valueAt (l.map fun kv => if kv.1 = k then (kv.1, v) else kv) x = if x = k then (if l.any (fun kv => kv.1 = k) then some v else none) else valueAt l x := by
    intro l
    induction l with
    | nil => simp [valueAt]
    | cons p r ih =>
      simp only [valueAt] at ih ⊢
      simp only [List.map_cons, List.find?_cons, List.any_cons]
      by_cases h1 : p.1 = k
      · by_cases h2 : x = k
        · subst h2; simp [h1]
        · have h3 : ¬ k = x := fun q => h2 q.symm
          simp only [h1, if_true, h3, decide_false, h2, if_false] at ih ⊢
          exact ih
      · by_cases h2 : x = k
        · subst h2
          simp only [h1, if_false, decide_false, Bool.false_or, if_true] at ih ⊢
          exact ih
        · simp only [h1, if_false, h2] at ih ⊢
          by_cases h3 : p.1 = x
          · simp [h3]
          · simp only [h3, decide_false]; exact ih
  unfold stored
  split
  · rename_i h
    rw [key, h]; rfl
  · rename_i h
    unfold valueAt
    rw [List.find?_append]
    by_cases h2 : x = k
    · subst h2
      have : kvs.find? (fun kv => decide (kv.1 = x)) = none := by
        rw [List.find?_eq_none]; intro kv hkv q
        exact h (List.any_eq_true.mpr ⟨kv, hkv, q⟩)
      simp [this]
    · have h3 : ¬ k = x := fun q => h2 q.symm
      simp [h2, h3]
theorem intIs (i : Int) (t : Tok) : (intKind c.prog c.w).is i (.int i t) = true := intKind_is _ _ i t
theorem strIs' (x : Str) (t : Tok) : (strKind c.prog c.w).is x (.str x t) = true := strKind_is _ _ x t
noncomputable def putF (f : Int → Option Value) (k : Int) (v : Value) : Int → Option Value := fun x => if x = k then some v else f x
theorem SETI_idict {a : Addr} {f : Int → Option Value} {n : Nat} {k : Int} {v : Value} {Q : AH → Prop} (ha : H a = some (.idict f n)) (hn : n ≤ 1000) (h : Q (H.set a (.idict (putF f k v) (n + 1)))) : SETI c A E S (.ref a) (.int k 0) v H Q := fun x y u ex ey eu s z => by
  obtain ⟨t, rfl⟩ := er_int ey
  have := er_ref ex; subst this
  obtain ⟨kvs, h1, h2, h3⟩ := z.idict ha
  refine wpAny_setItem_pairs (intIs k t) h1 (fun h' k1 k3 => ⟨_, z.upd (o' := .idict (putF f k v) (n + 1)) ha k3 ⟨_, k1, fun x => ?_, ?_⟩, h⟩) (by rw [sizeLine_eq]; omega)
  · rw [valueAt_stored]
    show (if x = k then some u else valueAt kvs x).map er = if x = k then some v else f x
    by_cases q : x = k
    · rw [if_pos q, if_pos q, ← eu]; rfl
    · rw [if_neg q, if_neg q]; exact h2 x
  · have := stored_length_le kvs k u; omega
theorem CV_get {a : Addr} {f : Int → Option Value} {n : Nat} {k : Int} {d : Value} (C0 : c.Ok) (ha : H a = some (.idict f n)) (h : Q ((f k).getD d) H) : CV c A E S (.builtin "dict.get") [.ref a, .int k 0, d] H Q := fun xs ex s z => by
  obtain ⟨x, y, w, rfl, e1, e2, e3⟩ := er3 ex
  have := er_ref e1; subst this
  obtain ⟨t, rfl⟩ := er_int e2
  obtain ⟨kvs, h1, h2, h3⟩ := z.idict ha
  refine call_meetsIn PySem.F.slot_dict_get h1.mapOf.typeIs PySem.F.entry_dict_get (PySem.F.args_dict_get_3 _ _ _) (meets_dict_get_default (intKind c.prog c.w) a (intIs k t) (notSys C0 (z.ob _ _ ha).1) w) ⟨valueAt kvs, h1.mapOf, H, z.toks _, ?_⟩
  show Q (er ((valueAt kvs k).getD w)) H
  have e : er ((valueAt kvs k).getD w) = (f k).getD d := by
    rw [← h2 k]
    cases valueAt kvs k with
    | none => exact e3
    | some v => rfl
  rw [e]; exact h
theorem METH_idict (C0 : c.Ok) {id : String} {n : Str} {a : Addr} {f : Int → Option Value} {k : Nat} {pos : Pos} {args : List Expr} (ha : H a = some (.idict f k)) (slot : Slot "dict" n id) (hty : typeOf (.builtin id) = pure (.type "method_descriptor"))
    (h : EVs c A env E S pos args H fun vs H1 => CV c A E S (.builtin id) (.ref a :: vs) H1 Q) (hs : starEach args env = args.map fun e => (false, eval e env) := by rfl) : METH c A env E S n pos args (.ref a) H Q :=
  METH_builtin (name := "") C0 (fun s z => let ⟨kvs, h1, _, _⟩ := z.idict ha; ⟨h1.mapOf.typeIs, DictOf.noDict h1⟩) PySem.F.plainAttrs_dict slot hty h hs
theorem EV_dict0 {pos : Pos} (h : ∀ d, H d = none → Q (.ref d) (H.set d (.idict (fun _ => none) 0))) : EV c A env E S (.Dict [] [] pos) H Q := fun s z => by
  exact wpAny_Dict_empty ⟨_, z.push (ao := .idict (fun _ => none) 0) ⟨[], Heap.DictOf.new _, fun _ => rfl, Nat.le_refl _⟩, h _ (z.free (Nat.le_refl _))⟩

-- a dict of strs
theorem St.sdict (z : St c S H s) {a : Addr} {m : Loc} (h : H a = some (.sdict m)) : ∃ kvs, s.heap.DictOf (strKind c.prog c.w) a kvs ∧ kvs.map (fun p => (p.1, er p.2)) = m := (z.ob _ _ h).2
theorem valueAt_map {kvs : List (Str × Value)} {k : Str} {v : Value} (h : (kvs.map fun p => (p.1, er p.2)).lookup k = some v) : ∃ u, valueAt kvs k = some u ∧ er u = v := by
  induction kvs with
  | nil => cases h
  | cons p r ih =>
    rw [List.map_cons] at h
    unfold valueAt
    rw [List.find?_cons]
    by_cases q : p.1 = k
    · subst q
      rw [lookup_cons_eq] at h
      cases h
      simp
    · rw [lookup_cons_ne (Ne.symm q)] at h
      simp only [q, decide_false]
      exact ih h
theorem stored_map {kvs : List (Str × Value)} {k : Str} {v : Value} : (stored kvs k v).map (fun p => (p.1, er p.2)) = stored (kvs.map fun p => (p.1, er p.2)) k (er v) := by
  unfold stored
  have e : (kvs.map fun p => (p.1, er p.2)).any (fun kv => decide (kv.1 = k)) = kvs.any (fun kv => decide (kv.1 = k)) := by
    rw [List.any_map]; rfl
  rw [e]
  split
  · rw [List.map_map, List.map_map]
    refine List.map_congr_left fun p _ => ?_
    simp only [Function.comp]
    split <;> simp_all
  · simp
theorem GETI_sdict {a : Addr} {m : Loc} {k : Str} {v : Value} (ha : H a = some (.sdict m)) (hv : m.lookup k = some v) (h : Q v H) : GETI c A E S (.ref a) (.str k 0) H Q := fun x y ex ey s z => by
  obtain ⟨t, rfl⟩ := er_str ey
  have := er_ref ex; subst this
  obtain ⟨kvs, h1, rfl⟩ := z.sdict ha
  obtain ⟨u, hu, rfl⟩ := valueAt_map hv
  exact wpAny_getItem_of (strIs' k t) h1.mapOf hu ⟨H, z.toks _, h⟩
theorem SUB_sdict {value slice : Expr} {a : Addr} {m : Loc} {k : Str} {v : Value} (ha : H a = some (.sdict m)) (hv : m.lookup k = some v) (h : Q v H)
    (hs : ∀ t, subscripted slice false (.ref a) (.str k t) = operate [.ref a, .str k t] (getItem (.ref a) (.str k t)) := by intro _; with_unfolding_all rfl) : SUB c A E S value slice (.ref a) (.str k 0) H Q := fun x y ex ey s z => by
  obtain ⟨t, rfl⟩ := er_str ey
  have := er_ref ex; subst this
  obtain ⟨kvs, h1, _⟩ := z.sdict ha
  exact tail_any (T := "dict") h1.mapOf.typeIs slot_dict_getitem.lookup (GETI_sdict ha hv h _ _ rfl rfl s z) (hs t)
theorem SETI_sdict {a : Addr} {m : Loc} {k : Str} {v : Value} {Q : AH → Prop} (ha : H a = some (.sdict m)) (hn : m.length ≤ 1000) (h : Q (H.set a (.sdict (stored m k v)))) : SETI c A E S (.ref a) (.str k 0) v H Q := fun x y u ex ey eu s z => by
  obtain ⟨t, rfl⟩ := er_str ey
  have := er_ref ex; subst this
  obtain ⟨kvs, h1, rfl⟩ := z.sdict ha
  refine wpAny_setItem_pairs (strIs' k t) h1 (fun h' k1 k3 => ⟨_, z.upd (o' := .sdict (stored (kvs.map fun p => (p.1, er p.2)) k v)) ha k3 ⟨_, k1, by rw [stored_map, eu]⟩, h⟩) (by rw [List.length_map] at hn; rw [sizeLine_eq]; omega)
/-- a display's pairs -/
noncomputable def DPS (c : Cx) (A : Around) (env : Env) (E : Value → Shared → Prop) (S : Stk) (ks : List (Option Expr)) (vs : List Expr) (pos : Pos) (H : AH) (Q : Loc → AH → Prop) : Prop :=
  R c A (evalPairs (pairTrees ks vs env pos)) E S H fun ps H1 => ∃ kvs : List (Str × Value), Carries (strKind c.prog c.w) ps kvs ∧ Q (kvs.map fun p => (p.1, er p.2)) H1
theorem DPS_nil {pos : Pos} {Q : Loc → AH → Prop} (h : Q [] H) : DPS c A env E S [] [] pos H Q := fun s z => wpAny_pure ⟨H, z, [], trivial, h⟩
theorem DPS_cons {k : Str} {kk : Nat} {kp pos : Pos} {v : Expr} {ks : List (Option Expr)} {vs : List Expr} {Q : Loc → AH → Prop} (h : EV c A env E S v H fun u H1 => DPS c A env E S ks vs pos H1 fun l H2 => Q ((k, u) :: l) H2) :
    DPS c A env E S (some (.Constant (.str k) kk kp) :: ks) (v :: vs) pos H Q := fun s z => by
  refine wpAny_bind (wpAny_Constant_str (wpAny_bind (wpAny_holding (wpAny_bind (wpAny_mono (h _ (z.toks _)) (fun u s1 ⟨H1, x1, h1⟩ => wpAny_bind (wpAny_standAt (wpAny_pure (wpAny_bind (wpAny_holding (wpAny_mono (h1 s1 x1) (fun ps s2 ⟨H2, x2, kvs, c1, c2⟩ => wpAny_pure ⟨H2, x2, (k, u) :: kvs, ⟨strIs' k _, rfl, c1⟩, c2⟩) fun _ _ e => e)))))) fun _ _ e => e)))))
theorem merged_nodup : ∀ (kvs : List (Str × Value)) (acc : List (Str × Value)), (acc.map (·.1) ++ kvs.map (·.1)).Nodup → merged acc kvs = acc ++ kvs := by
  intro kvs
  induction kvs with
  | nil => intro acc _; simp [merged]
  | cons p r ih =>
    intro acc h
    have hn : acc.any (fun kv => decide (kv.1 = p.1)) = false := by
      rw [List.any_eq_false]; intro kv hkv q
      have q : kv.1 = p.1 := by simpa using q
      rw [List.map_cons] at h
      exact (List.nodup_append.mp h).2.2 _ (List.mem_map.mpr ⟨kv, hkv, rfl⟩) _ (.head _) q
    have e : stored acc p.1 p.2 = acc ++ [p] := by unfold stored; rw [hn]; rfl
    show merged (stored acc p.1 p.2) r = _
    rw [e, ih]
    · simp
    · simpa using h
theorem EV_dict {ks : List (Option Expr)} {vs : List Expr} {pos : Pos} (hall : ks.all (·.isSome) = true) (hl : ks.length = vs.length) (h0 : ks ≠ []) (hlen : ks.length ≤ 15)
    (h : ∀ d, H d = none → DPS c A env E S ks vs pos (H.set d (.sdict [])) fun l H1 => H1 d = some (.sdict []) ∧ (l.map (·.1)).Nodup ∧ l.length ≤ 15 ∧ Q (.ref d) (H1.set d (.sdict l))) : EV c A env E S (.Dict ks vs pos) H Q := fun s z => by
  have f := z.free (Nat.le_refl s.heap.objs.size)
  refine wpAny_Dict_any hall hl h0 hlen (wpAny_mono (h _ f _ (z.push (ao := .sdict []) ⟨[], Heap.DictOf.new _, rfl⟩)) ?_ fun _ _ e => e)
  rintro ps s1 ⟨H1, x1, kvs, c1, c2, c3, c5, c4⟩
  obtain ⟨kv0, g1, g2⟩ := x1.sdict c2
  have := List.map_eq_nil_iff.mp g2; subst this
  rw [List.length_map] at c5
  refine wpAny_storeAll ps kvs [] s1 _ c1 g1 (by rw [sizeLine_eq]; simp; omega) fun h' k1 k2 => ⟨_, x1.upd (o' := .sdict (kvs.map fun p : Str × Value => (p.1, er p.2))) c2 k2 ⟨kvs, ?_, rfl⟩, c4⟩
  have e := merged_nodup kvs [] (by simpa [Function.comp_def] using c3)
  rw [List.nil_append] at e
  rw [← e]; exact k1
end
end Mine
end
section
open PySem PySem.W PyProof.Rows PySem.Calls
open PySem.MeetsSeq
namespace Mine
mutual
/-- what a value says, as data -/
inductive RD (H : AH) : Value → PyData → Prop
  | none : RD H .none .none
  | bool (b : Bool) : RD H (.bool b) (.bool b)
  | int (i : Int) : RD H (.int i 0) (.int i)
  | str (x : Str) : RD H (.str x 0) (.str x)
  | list {a : Addr} {vs : List Value} {ds : List PyData} : H a = some (.list vs) → RDs H vs ds → RD H (.ref a) (.list ds)
  | tuple {a : Addr} {vs : List Value} {ds : List PyData} : H a = some (.tuple vs) → RDs H vs ds → RD H (.ref a) (.tuple ds)
inductive RDs (H : AH) : List Value → List PyData → Prop
  | nil : RDs H [] []
  | cons {v : Value} {vs : List Value} {d : PyData} {ds : List PyData} : RD H v d → RDs H vs ds → RDs H (v :: vs) (d :: ds)
end
section
variable {c : Cx} {A : Around} {E : Value → Shared → Prop} {env : Env} {L : Addr} {S : Stk} {m : Loc} {H : AH} {s : Shared} {Q : Value → AH → Prop}
theorem RDs.ints {H : AH} : ∀ (l : List Int), RDs H (l.map fun i => .int i 0) (l.map .int)
  | [] => .nil
  | i :: r => .cons (.int i) (RDs.ints r)
theorem RDs.bools {H : AH} : ∀ (l : List Bool), RDs H (l.map .bool) (l.map .bool)
  | [] => .nil
  | i :: r => .cons (.bool i) (RDs.bools r)
theorem RD.reads (z : St c S H s) {d : PyData} {v x : Value} (h : RD H v d) (ex : er x = v) : ∃ as, Reads s.heap x d as := by
  refine RD.rec (H := H) (motive_1 := fun v d _ => ∀ x, er x = v → ∃ as, Reads s.heap x d as) (motive_2 := fun vs ds _ => ∀ xs : List Value, xs.map er = vs → ∃ as, ReadsAll s.heap xs ds as) ?_ ?_ ?_ ?_ ?_ ?_ ?_ ?_ h x ex
  · intro x e; have := er_none e; subst this; exact ⟨[], .none⟩
  · intro b x e; have := er_bool e; subst this; exact ⟨_, .bool b⟩
  · intro i x e; obtain ⟨t, rfl⟩ := er_int e; exact ⟨_, .int i t⟩
  · intro i x e; obtain ⟨t, rfl⟩ := er_str e; exact ⟨_, .str i t⟩
  · intro a vs ds h1 _ ih x e
    have := er_ref e; subst this
    obtain ⟨vc, n, g1, g2⟩ := z.list h1
    obtain ⟨as, h3⟩ := ih _ g2
    exact ⟨_, .list g1 rfl rfl h3⟩
  · intro a vs ds h1 _ ih x e
    have := er_ref e; subst this
    obtain ⟨vc, n, g1, g2⟩ := z.tuple h1
    obtain ⟨as, h3⟩ := ih _ g2
    exact ⟨_, .tuple g1 rfl rfl h3⟩
  · intro xs e
    have := List.map_eq_nil_iff.mp e; subst this
    exact ⟨_, .nil⟩
  · intro v vs d ds _ _ ih1 ih2 xs e
    cases xs with
    | nil => cases e
    | cons x xs =>
      rw [List.map_cons] at e
      obtain ⟨e1, e2⟩ := List.cons.inj e
      obtain ⟨as, r1⟩ := ih1 x e1
      obtain ⟨bs, r2⟩ := ih2 xs e2
      exact ⟨_, .cons r1 r2⟩
theorem CMP_eq_data {v w : Value} {d1 d2 : PyData} (r1 : RD H v d1) (r2 : RD H w d2) (k1 : d1.canLay0 = true) (k2 : d2.canLay0 = true) (hu : A.units + min d1.depth d2.depth < cLine) (h : Q (.bool (PyData.eqv d1 d2)) H) : CMP c A E S .Eq v w H Q := fun x y ex ey s z => by
  obtain ⟨as, q1⟩ := r1.reads z ex
  obtain ⟨bs, q2⟩ := r2.reads z ey
  exact SeqAt.compareEq_reads q1 q2 k1 k2 hu ⟨H, z, h⟩
theorem CMP_ne_data {v w : Value} {d1 d2 : PyData} (r1 : RD H v d1) (r2 : RD H w d2) (k1 : d1.canLay0 = true) (k2 : d2.canLay0 = true) (hu : A.units + min d1.depth d2.depth < cLine) (h : Q (.bool (!PyData.eqv d1 d2)) H) : CMP c A E S .NotEq v w H Q := fun x y ex ey s z => by
  obtain ⟨as, q1⟩ := r1.reads z ex
  obtain ⟨bs, q2⟩ := r2.reads z ey
  exact SeqAt.compareNe_reads q1 q2 k1 k2 hu ⟨H, z, h⟩

-- stores
/-- one target -/
noncomputable def ASG (c : Cx) (A : Around) (env : Env) (E : Value → Shared → Prop) (L : Addr) (S : Stk) (m : Loc) (t : Expr) (v : Value) (H : AH) (Q : Loc → AH → Prop) : Prop :=
  ∀ x s, er x = v → St c ((L, m) :: S) H s → wpAny (model c.prog c.w) A (assign t env x) (fun _ s' => ∃ m' H', St c ((L, m') :: S) H' s' ∧ Q m' H') E s
theorem ASG_local {x : Str} {p : Pos} {v : Value} {Q : Loc → AH → Prop} (h : Q ((x, v) :: m) H) (hL : env.locals = L := by rfl) (hk : env.scope.kind = .function := by rfl) (hl : env.kindOf x = some .local := by rfl) : ASG c A env E L S m (.Name x p) v H Q := fun u s e z => by
  subst e
  exact wpAny_assign_Name (store_local h hL hk hl z)
theorem ASG_attr {o : Expr} {n : Str} {p : Pos} {v : Value} {Q : Loc → AH → Prop} (h : EV c A env E ((L, m) :: S) o H fun ov H1 => SETA c A E ((L, m) :: S) ov n v H1 fun H2 => Q m H2) : ASG c A env E L S m (.Attribute o n p) v H Q := fun u s e z => by
  rw [assign_Attribute]
  refine wpAny_bind (wpAny_holding (R.run h z (fun ov s1 H1 x1 h1 => wpAny_bind (wpAny_standAt (wpAny_bind (wpAny_holding (R.run (h1 ov u rfl e) x1 (fun _ s2 H2 x2 h2 => ?_))))))))
  exact wpAny_release ⟨m, H2, x2, h2⟩
theorem ASG_item {o i : Expr} {p : Pos} {v : Value} {Q : Loc → AH → Prop} (h : EV c A env E ((L, m) :: S) o H fun ov H1 => EV c A env E ((L, m) :: S) i H1 fun iv H2 => SETI c A E ((L, m) :: S) ov iv v H2 fun H3 => Q m H3) : ASG c A env E L S m (.Subscript o i p) v H Q := fun u s e z => by
  rw [assign_Subscript]
  refine wpAny_bind (wpAny_holding (R.run h z (fun ov s1 H1 x1 h1 => wpAny_bind (wpAny_holding (R.run h1 x1 (fun iv s2 H2 x2 h2 => wpAny_bind (wpAny_standAt (wpAny_bind (wpAny_holding (R.run (h2 ov iv u rfl rfl e) x2 (fun _ s3 H3 x3 h3 => ?_)))))))))))
  exact wpAny_release ⟨m, H3, x3, h3⟩
noncomputable def ASGS (c : Cx) (A : Around) (env : Env) (E : Value → Shared → Prop) (L : Addr) (S : Stk) (m : Loc) (ts : List Expr) (vs : List Value) (H : AH) (Q : Loc → AH → Prop) : Prop :=
  ∀ xs s, xs.map er = vs → St c ((L, m) :: S) H s → wpAny (model c.prog c.w) A (assignInOrder (ts.map fun t => assign t env) xs) (fun _ s' => ∃ m' H', St c ((L, m') :: S) H' s' ∧ Q m' H') E s
theorem ASGS_nil {Q : Loc → AH → Prop} (h : Q m H) : ASGS c A env E L S m [] [] H Q := fun xs s e z => by
  have := List.map_eq_nil_iff.mp e; subst this
  exact wpAny_assignInOrder_none ⟨m, H, z, h⟩
theorem ASGS_cons {t : Expr} {ts : List Expr} {v : Value} {vs : List Value} {Q : Loc → AH → Prop} (h : ASG c A env E L S m t v H fun m1 H1 => ASGS c A env E L S m1 ts vs H1 Q) : ASGS c A env E L S m (t :: ts) (v :: vs) H Q := fun xs s e z => by
  cases xs with
  | nil => cases e
  | cons x r =>
    rw [List.map_cons] at e
    obtain ⟨e1, e2⟩ := List.cons.inj e
    exact wpAny_assignInOrder_more (wpAny_mono (h x s e1 z) (fun _ s1 ⟨m1, H1, x1, h1⟩ => h1 r s1 e2 x1) fun _ _ e => e)
theorem St.ext0 (z : St c ((L, m) :: S) H s) {h' : Heap} (hx : Heap.ExtBut s.heap.objs.size s.heap h') : St c ((L, m) :: S) H { s with heap := h' } := by
  refine z.ext (tk := s.toks) (a := s.heap.objs.size) (List.cons_ne_nil _ _) hx z.size (z.free (Nat.le_refl _)) fun p hp q => ?_
  obtain ⟨_, _, mc, h3, _⟩ := z.fr p hp
  exact absurd h3.lt (by rw [q]; exact Nat.lt_irrefl _)
/-- a tuple or a list taken apart -/
theorem XE_assign_tuple {elts : List Expr} {k : Nat} {tpos pos : Pos} {value : Expr} {Q : Flow → Loc → AH → Prop} (hh : A.handled = none)
    (h : EV c A env E ((L, m) :: S) value H fun tv H1 => ∃ t vs, tv = .ref t ∧ (H1 t = some (.tuple vs) ∨ H1 t = some (.list vs)) ∧ vs.length = elts.length ∧ ASGS c A env E L S m elts vs H1 (Q .next))
    (hs : swapsWithSole [.Tuple elts k tpos] value pos.line env = pure false := by rfl) (hw : swappedStores [.Tuple elts k tpos] value env = pure none := by rfl)
    (he : (assignEach elts env).map (·.2) = elts.map fun t => assign t env := by rfl) (hl : (assignEach elts env).length = elts.length := by rfl) (hst : (assignEach elts env).findIdx? (·.1) = none := by rfl) : XE c A env E L S m (.Assign [.Tuple elts k tpos] value pos) H Q := fun s z => by
  refine Assign_Tuple (wpAny_mono (h s z) (fun v s1 ⟨H1, x1, t, vs, e1, e2, e3, h1⟩ => ?_) fun _ _ e => e) hs hw
  have := er_ref e1; subst this
  rw [assign_Tuple]
  refine wpAny_bind (wpAny_standAt ?_)
  unfold unpack
  rw [hst, hl]
  rcases e2 with e2 | e2
  · obtain ⟨vc, n, g1, g2⟩ := x1.tuple e2
    have hsz : elts.length = vc.size := by rw [er_size g2, e3]
    rw [hsz]
    refine wpAny_bind (wpAny_holding (wpAny_unpackItems_tuple hh ⟨_, g1, rfl, _, rfl⟩ fun h' hx => ?_))
    rw [he]
    exact h1 _ _ g2 (x1.ext0 hx)
  · obtain ⟨vc, n, g1, g2⟩ := x1.list e2
    have hsz : elts.length = vc.size := by rw [er_size g2, e3]
    rw [hsz]
    refine wpAny_bind (wpAny_holding (kun_itemsOf hh ⟨_, g1, rfl, _, rfl⟩ fun h' hx => ?_))
    rw [he]
    exact h1 _ _ g2 (x1.ext0 hx)
theorem swap_go (hL : env.locals = L) (hk : env.scope.kind = .function) : ∀ (names : List Str) (m : Loc) (xs : List Value) (s : Shared) (Q : Loc → AH → Prop), names.length = xs.length → (∀ y ∈ names, env.kindOf y = some .local) → St c ((L, m) :: S) H s →
    Q ((names.zip (xs.map er)).reverse ++ m) H → wpAny (model c.prog c.w) A (assignInOrder (names.map fun n => bindName env n) xs) (fun _ s' => ∃ m' H', St c ((L, m') :: S) H' s' ∧ Q m' H') E s := by
  intro names
  induction names with
  | nil =>
    intro m xs s Q hn hl z h
    cases xs with
    | nil => exact wpAny_assignInOrder_none ⟨m, H, z, h⟩
    | cons _ _ => cases hn
  | cons y ns ih =>
    intro m xs s Q hn hl z h
    cases xs with
    | nil => cases hn
    | cons x xs =>
      refine wpAny_assignInOrder_more (wpAny_bindName (wpAny_mono (store_local (P := fun m' H' => m' = (y, er x) :: m ∧ H' = H) ⟨rfl, rfl⟩ hL hk (hl y (.head _)) z) ?_ fun _ _ e => e))
      rintro _ s1 ⟨_, _, z1, rfl, rfl⟩
      refine ih _ xs s1 Q (by simpa using hn) (fun y hy => hl y (.tail _ hy)) z1 ?_
      simpa using h
theorem zip_rev {α β : Type} : ∀ (a : List α) (b : List β), a.length = b.length → (a.reverse.zip b.reverse).reverse = a.zip b := by
  intro a
  induction a with
  | nil => intro b h; simp
  | cons x xs ih =>
    intro b h
    cases b with
    | nil => cases h
    | cons y ys =>
      have h' : xs.length = ys.length := by simpa using h
      rw [List.reverse_cons, List.reverse_cons, List.zip_append (by simp [h']), List.reverse_append, ih ys h']
      rfl
/-- names bound from a tuple written out: the stores turned round -/
theorem XE_assign_swap {elts : List Expr} {k : Nat} {tpos pos : Pos} {value : Expr} {names : List Str} {Q : Flow → Loc → AH → Prop} (hh : A.handled = none)
    (hw : swappedStores [.Tuple elts k tpos] value env = pure (some names))
    (h : EV c A env E ((L, m) :: S) value H fun tv H1 => ∃ t vs, tv = .ref t ∧ H1 t = some (.tuple vs) ∧ vs.length = names.length ∧ Q .next (names.zip vs ++ m) H1)
    (hl : ∀ y ∈ names, env.kindOf y = some .local) (hL : env.locals = L := by rfl) (hk : env.scope.kind = .function := by rfl)
    (hs : swapsWithSole [.Tuple elts k tpos] value pos.line env = pure false := by rfl) : XE c A env E L S m (.Assign [.Tuple elts k tpos] value pos) H Q := fun s z => by
  refine Assign_Tuple_swapped (names := names) (wpAny_mono (h s z) (fun v s1 ⟨H1, x1, t, vs, e1, e2, e3, h1⟩ => ?_) fun _ _ e => e) hs hw
  have := er_ref e1; subst this
  obtain ⟨vc, n, g1, g2⟩ := x1.tuple e2
  have hsz : names.length = vc.size := by rw [er_size g2, e3]
  rw [hsz]
  refine wpAny_unpackItems_tuple hh ⟨_, g1, rfl, _, rfl⟩ fun h' hx => ?_
  refine swap_go hL hk names.reverse m vc.toList.reverse _ (Q .next) (by simp [hsz]) (fun y hy => hl y (List.mem_reverse.mp hy)) (x1.ext0 hx) ?_
  rw [List.map_reverse, g2, zip_rev _ _ e3.symm]; exact h1
/-- a store to a name of an object -/
theorem XE_assign_attr {o e : Expr} {n : Str} {p pos : Pos} {Q : Flow → Loc → AH → Prop} (h : EV c A env E ((L, m) :: S) e H fun v H1 => EV c A env E ((L, m) :: S) o H1 fun ov H2 => SETA c A E ((L, m) :: S) ov n v H2 fun H3 => Q .next m H3)
    (hs : swapsWith e (some (.Attribute o n p)) pos.line env = pure false := by rfl) : XE c A env E L S m (.Assign [.Attribute o n p] e pos) H Q := fun s z =>
  plainObj_wpAny_Assign_Attribute (R.run h z (fun v s1 _ x1 h1 => R.run h1 x1 (fun ov s2 _ x2 h2 => R.run (h2 ov v rfl rfl) x2 (fun _ s3 H3 x3 h3 => ⟨m, H3, x3, h3⟩)))) hs
/-- a cell's store -/
theorem XE_assign_cell {x : Str} {p pos : Pos} {e : Expr} {a : Addr} {Q : Flow → Loc → AH → Prop} (hc : env.cells.lookup x = some a) (h : EV c A env E ((L, m) :: S) e H fun v H1 => ∃ v0, H1 a = some (.cell v0) ∧ Q .next m (H1.set a (.cell (some v))))
    (hk : env.scope.kind = .function := by rfl) (hl : env.kindOf x = some .cell := by rfl) (hs : swapsWith e (some (.Name x p)) pos.line env = pure false := by rfl) : XE c A env E L S m (.Assign [.Name x p] e pos) H Q := fun s z =>
  wpAny_Assign_Name (wpAny_mono (h s z) (fun v s1 ⟨H1, x1, v0, h1, h2⟩ => by
    obtain ⟨_, v', g1, g2⟩ := x1.ob _ _ h1
    exact wpAny_storeName_cell hk hl hc g1 fun h' k1 k2 => ⟨m, _, x1.upd (tk := s1.toks) (o' := .cell (some (er v))) h1 k2 ⟨some v, k1, rfl⟩, h2⟩) fun _ _ e => e) hs
/-- a name of an object is read -/
theorem EV_Attribute {o : Expr} {n : Str} {pos : Pos} (h : EV c A env E S o H fun ov H1 => GETA c A E S ov n H1 Q)
    (he : eval (.Attribute o n pos) env = (do
      let ov ← eval o env
      standAt pos.atName
      let r ← holding [ov] (getAttr ov n true)
      letTemporaryGo o ov r
      pure r) := by with_unfolding_all rfl) : EV c A env E S (.Attribute o n pos) H Q := fun s z =>
  Attribute_any_ (R.run h z (fun ov s1 _ x1 h1 => h1 ov rfl s1 x1)) he
end
end Mine
end
section
open PySem PySem.W PyProof.Rows PySem.Calls
open PySem.MeetsSeq
namespace Mine
section
variable {c : Cx} {A : Around} {E : Value → Shared → Prop} {env : Env} {L : Addr} {S : Stk} {m : Loc} {H : AH} {s : Shared} {Q : Value → AH → Prop}
/-- the cells of a callee -/
noncomputable def withCells (cs : List (Str × Addr)) (cm : Str → Option Value) (H : AH) : AH := fun b => match cs.find? (fun p => p.2 == b) with
  | some p => some (.cell (cm p.1))
  | none => H b
theorem CV_defC (C : c.Ok) {n : Nat} {f : Addr} {oc : Value} {od : Option Addr} {osl : Array (Option Value)} {name qual : Str} {params : Arguments} {body : List Stmt} {scope : Scope} {dV kV doc pm cdv ct : Value} {an : Option Addr} {vs : List Value} {names : List Str} {Q : Value → AH → Prop} {cm : Str → Option Value} {m : Loc}
    (ho : c.K.lookup f = some ⟨oc, od, .func (fnOf name qual params body scope dV kV doc pm an cdv ct), osl⟩) (hcd : codeIn c.K cdv qual = true) (hr : Room (n + 1) A (S.map (·.1)))
    (hb : ∀ xs, xs.map er = vs → bindArgs (fnOf name qual params body scope dV kV doc pm an cdv ct) ⟨xs, []⟩ = pure (names.zip xs))
    (hkind : ∀ k, ∀ x ∈ names, scope.names.lookup x = some .local ∨ (scope.names.lookup x = some .cell ∧ ((cellsFrom k scope.names []).lookup x).isSome = true))
    (hcl : ∀ k, ∀ p ∈ cellsFrom k scope.names [], (cellsFrom k scope.names []).lookup p.1 = some p.2)
    (hm : ∀ xs, xs.map er = vs → Lo m (bindL (fun x => scope.names.lookup x) (names.zip xs) fun _ => none))
    (hcm : ∀ xs, xs.map er = vs → ∀ x, (bindC (fun x => scope.names.lookup x) (names.zip xs) (fun _ => none) x).map er = cm x)
    (h : ∀ L A', Room n A' (L :: S.map (·.1)) → (∀ p ∈ cellsFrom (L + 1) scope.names [], L < p.2 ∧ H p.2 = none) → XS c A' (envX qual scope L f cdv (cellsFrom (L + 1) scope.names [])) NoE L S m body (withCells (cellsFrom (L + 1) scope.names []) cm H) fun fl m1 H1 => Q (flowVal fl) H1)
    (hco : scope.isCoroutine = false := by rfl) (hgen : scope.isGenerator = false := by rfl) (hk : scope.kind = .function := by rfl) : CV c A E S (.ref f) vs H Q := by
  intro xs hxs s z
  obtain ⟨p, loose, mg, mb, T⟩ := C.top
  have hroom : A.depth < recursionLimit := by have := hr.1; omega
  refine wpAny_call (codeAny_call_cells (fd := fnOf name qual params body scope dV kV doc pm an cdv ct) (body := body) (binds := names.zip xs) hroom (z.keep _ _ (C.kin _ _ ho)) rfl (T.nolimit.keeps z.keep) ((codeRec_of C.kin hcd).keeps z.keep) rfl (hb xs hxs) rfl (fun y hy => hkind _ _ (List.of_mem_zip hy).1) (fun s1 x => ?_) hco hgen hk)
  have hgs := z.size
  obtain ⟨h1, tk1, e1⟩ := x.toInCall.same
  have hfresh : s.heap.objs.size ≤ s.heap.objs.size := Nat.le_refl _
  have hcell : ∀ q ∈ cellsFrom (s.heap.objs.size + 1) scope.names [], s.heap.objs.size < q.2 := fun q hq => x.above q.1 q.2 hq
  have hcn : ∀ q ∈ cellsFrom (s.heap.objs.size + 1) scope.names [], H q.2 = none := fun q hq => z.free (Nat.le_of_lt (hcell q hq))
  have z1 : St c ((s.heap.objs.size, m) :: S) (withCells (cellsFrom (s.heap.objs.size + 1) scope.names []) cm H) s1 :=
    { keep := fun b o e => x.toInCall.keep b o (z.keep b o e)
      sz := Nat.le_trans z.sz (Nat.le_of_lt x.toInCall.ns.lt)
      fr := fun q hq => by
        have notCell : ∀ a, a ≤ s.heap.objs.size → withCells (cellsFrom (s.heap.objs.size + 1) scope.names []) cm H a = H a := fun a ha => by
          unfold withCells
          have : (cellsFrom (s.heap.objs.size + 1) scope.names []).find? (fun p => p.2 == a) = none := by
            rw [List.find?_eq_none]; intro r hr hq
            have := hcell r hr
            have e : r.2 = a := by simpa using hq
            rw [e] at this
            exact absurd this (Nat.not_lt.mpr ha)
          rw [this]
        rcases List.mem_cons.mp hq with rfl | hq'
        · exact ⟨hgs, (notCell _ (Nat.le_refl _)).trans (z.free (Nat.le_refl _)), _, x.toInCall.ns, hm xs hxs⟩
        · obtain ⟨q1, q2, mc, q3, q4⟩ := z.fr q hq'
          exact ⟨q1, (notCell _ (Nat.le_of_lt q3.lt)).trans q2, mc, q3.keeps x.toInCall.keep, q4⟩
      nd := List.nodup_cons.mpr ⟨fun q => by
        obtain ⟨r, hr, e⟩ := List.mem_map.mp q
        obtain ⟨_, _, mc, h3, _⟩ := z.fr r hr
        exact absurd h3.lt (by rw [e]; exact Nat.lt_irrefl _), z.nd⟩
      ob := fun a o e => by
        unfold withCells at e
        cases hf : (cellsFrom (s.heap.objs.size + 1) scope.names []).find? (fun p => p.2 == a) with
        | some r =>
          rw [hf] at e
          cases e
          have hmem := List.mem_of_find?_eq_some hf
          have ha : r.2 = a := by have := List.find?_some hf; simpa using this
          subst ha
          have hlt := hcell r hmem
          have hc := x.cell r.1 r.2 (hcl _ r hmem)
          exact ⟨Nat.le_trans z.sz (Nat.le_of_lt hlt), _, hc, hcm xs hxs r.1⟩
        | none =>
          rw [hf] at e
          obtain ⟨q1, q2⟩ := z.ob a o e
          obtain ⟨oo, hb⟩ := q2.there
          exact ⟨q1, q2.same (by rw [hb]; exact x.toInCall.keep _ _ hb)⟩
      gens := by rw [e1]; exact z.gens
      dr := by rw [e1]; exact z.dr
      os := by rw [e1]; exact z.os }
  refine wp_noE (h s.heap.objs.size _ (hr.deeper rfl hk) (fun q hq => ⟨hcell q hq, hcn q hq⟩) s1 z1) ?_
  rintro fl s' ⟨m', H', x1, h1⟩
  refine ⟨H', ⟨x1.keep, x1.sz, fun p hp => x1.fr p (.tail _ hp), (List.nodup_cons.mp x1.nd).2, x1.ob, x1.gens, x1.dr, x1.os⟩, ?_⟩
  cases fl <;> exact h1
end
end Mine
end
section
open PySem PySem.W PyProof.Rows PySem.Calls
open PySem.MeetsSeq
namespace Mine
section
variable {c : Cx} {A : Around} {E : Value → Shared → Prop} {env : Env} {L : Addr} {S : Stk} {m : Loc} {H : AH} {s : Shared} {Q : Value → AH → Prop}
theorem Room.under {n : Nat} {ls : List Addr} {C : Addr} {vals : List Value} (h : Room (n + 1) A ls) : Room n (A.under (.builtin "type.__call__" ⟨.ref C :: vals, []⟩)) ls := by
  obtain ⟨h1, h2, h3, l, h4, h6⟩ := h
  refine ⟨?_, ?_, h3, l, ?_, h6⟩
  · show A.depth + 1 + 4 * n < _; omega
  · show A.units + 1 + 16 * n < _; omega
  · show pushEnvs [] A.frames = _
    rw [h4]; rfl
theorem St.pushAny (x : St c S H s) (o : Obj) {tk : Nat} : St c S H { s with heap := s.heap.push o, toks := tk } where
  keep := fun b ob e => Heap.get?_push_of_some o (x.keep b ob e)
  sz := by rw [Heap.size_push]; exact Nat.le_succ_of_le x.sz
  fr := fun p hp => by
    obtain ⟨h1, h2, mc, h3, h4⟩ := x.fr p hp
    exact ⟨h1, h2, mc, h3.push o, h4⟩
  nd := x.nd
  ob := fun b ob e => by
    obtain ⟨h1, h2⟩ := x.ob b ob e
    obtain ⟨oo, hb⟩ := h2.there
    exact ⟨h1, h2.same (by rw [Heap.get?_push_of_some o hb, hb])⟩
  gens := x.gens
  dr := x.dr
  os := x.os
/-- an object of a class is made -/
theorem CV_cls (C0 : c.Ok) {C fI : Addr} {n : Nat} {vs : List Value} (K0 : ClsOk c C) (hi : findIn c.K (.ref C) "__init__" = some (some (.ref fI))) (hf : typeIn c.K (.ref fI) = some (.type "function")) (hr : Room (n + 1) A (S.map (·.1)))
    (h : ∀ x dx A', H x = none → H dx = none → x ≠ dx → Room n A' (S.map (·.1)) → CC c A' E S (.ref fI) (.ref x :: vs) ((H.set dx (.ns [])).set x (.inst C dx)) fun v H1 => v = .none ∧ Q (.ref x) H1) : CV c A E S (.ref C) vs H Q := fun xs ex s z => by
  have X := C0.kin.keeps z.keep
  obtain ⟨hh, g, d, t, os⟩ := s
  have f1 := z.free (Nat.le_refl hh.objs.size)
  have z1 := z.push (o := emptyDict) (ao := .ns []) ⟨emptyDict, #[], 0, Heap.get?_push_size _ rfl, rfl, (fun e he => by simp at he), Nat.le_refl _, fun x => rfl⟩
  have hsz : (hh.push emptyDict).objs.size = hh.objs.size + 1 := Heap.size_push ..
  have f2' : H (hh.objs.size + 1) = none := z.free (Nat.le_succ _)
  have z2 := z1.push (o := instObj C hh.objs.size) (ao := .inst C hh.objs.size) ⟨_, Heap.get?_push_size _ rfl, rfl, rfl, rfl⟩
  dsimp only at z2
  rw [hsz] at z2
  refine wpAny_call (make_core (makes_of X K0.makes) (looks_findIn X hi) (fun self => bind_fn X self hf) (.inl rfl) ?_)
  refine codeAny_mono (h (hh.objs.size + 1) hh.objs.size _ f2' f1 (Nat.succ_ne_self _) hr.under (.ref (hh.objs.size + 1) :: xs) (by rw [List.map_cons, ex]; rfl) _ z2) ?_
  intro r s' hr
  rcases r with e | (v | _ | _ | _) <;> first | exact hr | skip
  obtain ⟨H1, x1, e1, q⟩ := hr
  exact ⟨er_none e1, H1, x1, q⟩

-- lists
theorem BIN_list_add {a b : Addr} {vs ws : List Value} (ha : H a = some (.list vs)) (hb : H b = some (.list ws)) (hl : vs.length + ws.length ≤ 1000) (h : ∀ d, H d = none → Q (.ref d) (H.set d (.list (vs ++ ws)))) : BIN c A E S .Add (.ref a) (.ref b) H Q := fun x y ex ey s z => by
  have := er_ref ex; subst this
  have := er_ref ey; subst this
  obtain ⟨vc, n, h1, rfl⟩ := z.list ha
  obtain ⟨wc, k, h2, rfl⟩ := z.list hb
  refine P.add_list h1 h2 ⟨_, z.push (ao := .list (vc.toList.map er ++ wc.toList.map er)) ⟨_, _, Heap.get?_push_size _ rfl, ?_⟩, h _ (z.free (Nat.le_refl _))⟩ ?_
  · simp
  · simp only [List.length_map, Array.length_toList] at hl
    rw [sizeLine_eq]; omega
theorem replicate_foldl (v : Value) : ∀ n : Nat, ∀ acc : Array Value, (List.foldl (fun x1 x2 => x1 ++ x2) acc (List.replicate n #[v])) = acc ++ (List.replicate n v).toArray := by
  intro n
  induction n with
  | zero => intro acc; simp
  | succ n ih => intro acc; rw [List.replicate_succ, List.foldl_cons, ih, List.replicate_succ]; apply Array.toList_inj.mp; simp
theorem BIN_list_mul {a : Addr} {v : Value} {n : Int} (ha : H a = some (.list [v])) (hn : 0 ≤ n ∧ n ≤ 1000) (h : ∀ d, H d = none → Q (.ref d) (H.set d (.list (List.replicate n.toNat v)))) : BIN c A E S .Mult (.ref a) (.int n 0) H Q := fun x y ex ey s z => by
  have := er_ref ex; subst this
  obtain ⟨u, rfl⟩ := er_int ey
  obtain ⟨vc, k, h1, h2⟩ := z.list ha
  have hsz : vc.size = 1 := by rw [er_size h2]; rfl
  obtain ⟨w, hw⟩ : ∃ w, vc = #[w] := by
    obtain ⟨l⟩ := vc
    match l, hsz with
    | [w], _ => exact ⟨w, rfl⟩
  subst hw
  have hv : er w = v := by simpa using h2
  refine wpAny_binaryOp_repeat_ref (T := "list") (U := "int") (by decide) ⟨_, h1, rfl⟩ (fun s' => typeIs_int s' n u) noFill_list_mul PySem.F.fills_int_mul PySem.F.slot_int_rmul repeat_list PySem.F.slot_int_index.lookup
    (call_meets PySem.F.slot_int_rmul (typeIs_int s n u) PySem.F.entry_int_rmul (PySem.F.args_int_rmul_2 _ _) (int___rmul___int_list n u a #[w] k)
      ⟨h1, rfl, ⟨_, h1, rfl⟩, call_meets PySem.F.slot_list_mul ⟨_, h1, rfl⟩ PySem.F.entry_list_mul (PySem.F.args_list_mul_2 _ _)
        (AutoListH.list___mul___list_int_3 a #[w] k n u (by simp [Builtin.List.listFitsIndex]; omega) (by simp; omega) (by simp [Builtin.List.listTooLong, sizeLine]; omega))
        ⟨h1, ?_⟩⟩)
  have e : (List.foldl (fun x1 x2 => x1 ++ x2) #[] (List.replicate (if (#[w] : Array Value).isEmpty = true then 0 else n.toNat) #[w])).toList.map er = List.replicate n.toNat v := by
    rw [if_neg (by simp), replicate_foldl]; simp [hv]
  exact ⟨_, z.push (ao := .list (List.replicate n.toNat v)) ⟨_, _, Heap.get?_push_size _ rfl, e⟩, h _ (z.free (Nat.le_refl _))⟩

theorem slicePick_mem {items : Array Value} {lo hi st : Option Int} {v : Value} (h : v ∈ (slicePick items lo hi st).toList) : v ∈ items.toList := by
  unfold slicePick at h
  simp only [Array.toList_filterMap, List.mem_filterMap] at h
  obtain ⟨i, _, hi⟩ := h
  exact List.mem_of_getElem? (by rw [Array.getElem?_toList]; exact hi)
/-- the head of a list -/
theorem EV_slice_list {value : Expr} {n : Int} {k : Nat} {cp p pos : Pos} (h : EV c A env E S value H fun ov H1 => ∃ a vs, ov = .ref a ∧ vs.length ≤ 100000 ∧ (∀ s, St c S H1 s → ∃ vc, s.heap.IsList a vc ∧ vc.toList.map er = vs) ∧
      ∀ b ws, H1 b = none → (∀ v ∈ ws, v ∈ vs) → ws.length ≤ vs.length → Q (.ref b) (H1.set b (.list ws)))
    (ht : ∀ o r, letTemporaryGo value o r = pure () := by intro _ _; rfl) : EV c A env E S (.Subscript value (.Slice none (some (.Constant (.int n) k cp)) none p) pos) H Q := fun s z => by
  refine wpAny_Subscript_list_slice (wpAny_mono (h s z) (fun o s1 ⟨H1, x1, a, vs, e1, hb, hl, q⟩ => ?_) fun _ _ e => e) ht
  rw [evalPart_none]
  refine wpAny_pure (wpAny_Constant_int (k := k) (pos := cp) ?_)
  have x2 := x1.toks (s1.toks + 1)
  obtain ⟨vc, g1, g2⟩ := hl _ x2
  have hsz := er_size g2
  refine ⟨a, vc, none, some n, er_ref e1, g1, by rw [sizeLine_eq]; omega, .none, .int n _, ?_⟩
  have x3 := x2.pushAny (tk := s1.toks + 1) { cls := .type "slice", data := .fields #[.none, .int n s1.toks, .none] }
  have x4 := x3.push (o := { cls := .type "list", data := .seq (slicePick vc none (some n) none) }) (ao := .list ((slicePick vc none (some n) none).toList.map er)) ⟨_, _, Heap.get?_push_size _ rfl, rfl⟩
  dsimp only at x4
  rw [Heap.size_push] at x4
  refine ⟨_, x4, q _ _ (x1.free (Nat.le_succ _)) (fun v hv => ?_) ?_⟩
  · obtain ⟨u, hu, rfl⟩ := List.mem_map.mp hv
    rw [← g2]; exact List.mem_map.mpr ⟨u, slicePick_mem hu, rfl⟩
  · have := slicePick_size_le vc none (some n) none
    rw [List.length_map, Array.length_toList]; omega

-- strs
noncomputable def strSlice (x : Str) (l u : Option Int) : Str :=
  if (Builtin.Str.strSliceIndices l u 1 x.length).length == x.length then x else ⟨((Builtin.Str.strSliceIndices l u 1 x.length).filterMap (x.cps[·]?)).toArray⟩
theorem part_of {lower : Option Expr} {P : Value → Shared → Prop} {l : Option Int} (h : match lower, l with
      | none, none => True
      | some e, some i => EV c A env E S e H fun v H1 => v = .int i 0 ∧ H1 = H
      | _, _ => False) (z : St c S H s) (q : ∀ v s' p, St c S H s' → v = partValue p → p.map (·.1) = l → P v s') : wpAny (model c.prog c.w) A (evalPart lower env) P E s := by
  cases lower with
  | none =>
    cases l with
    | none => exact wpAny_pure (q _ _ none z rfl rfl)
    | some _ => exact h.elim
  | some e =>
    cases l with
    | none => exact h.elim
    | some i =>
      refine wpAny_mono (h s z) (fun v s1 ⟨H1, x1, e1, e2⟩ => ?_) fun _ _ e => e
      obtain ⟨t, rfl⟩ := er_int e1
      subst e2
      exact q _ _ (some (i, t)) x1 rfl rfl
theorem EV_slice_str {value : Expr} {lower upper : Option Expr} {p pos : Pos} {x : Str} {l u : Option Int} (h : EV c A env E S value H fun ov H1 => ov = .str x 0 ∧ H1 = H)
    (hl : match lower, l with
      | none, none => True
      | some e, some i => EV c A env E S e H fun v H1 => v = .int i 0 ∧ H1 = H
      | _, _ => False)
    (hu : match upper, u with
      | none, none => True
      | some e, some i => EV c A env E S e H fun v H1 => v = .int i 0 ∧ H1 = H
      | _, _ => False) (hx : x.length ≤ 1000) (q : Q (.str (strSlice x l u) 0) H) (ht : ∀ o r, letTemporaryGo value o r = pure () := by intro _ _; rfl) : EV c A env E S (.Subscript value (.Slice lower upper none p) pos) H Q := fun s z => by
  refine wpAny_Subscript_str_slice (wpAny_mono (h s z) (fun o s1 ⟨H1, x1, e1, e2⟩ => part_of hl (e2 ▸ x1) fun v1 s2 p1 x2 k1 k2 => part_of hu x2 fun v2 s3 p2 x3 k3 k4 => ?_) fun _ _ e => e) ht
  obtain ⟨t, rfl⟩ := er_str e1
  refine ⟨x, t, p1, p2, rfl, k1, k3, ?_⟩
  have e : slicePicked x p1 p2 none = Builtin.Str.strSliceIndices l u 1 x.length := by unfold slicePicked; rw [k2, k4]; rfl
  unfold sliceMade
  rw [e]
  unfold strSlice at q
  by_cases hq : ((Builtin.Str.strSliceIndices l u 1 x.length).length == x.length) = true
  · rw [if_pos hq] at q
    rw [if_pos (by rw [hq]; rfl)]
    exact ⟨H, x3.pushAny (tk := s3.toks) _, q⟩
  · rw [if_neg hq] at q
    rw [if_neg (by simpa using hq)]
    refine ⟨?_, H, (x3.pushAny (tk := s3.toks) _).toks _, q⟩
    have h1 := PyProof.Rows.indices_len_le l u x.length
    have h2 := List.length_filterMap_le (fun i => x.cps[i]?) (Builtin.Str.strSliceIndices l u 1 x.length)
    show Array.size _ ≤ _
    rw [List.size_toArray, sizeLine_eq]
    omega
theorem SUB_str {value slice : Expr} {x : Str} {i : Int} {ch : Nat} (hr : (decide (i < -(2 ^ 63 : Int)) || decide (i ≥ 2 ^ 63)) = false) (hc : (seqIndex? i x.length).bind (x.cps[·]?) = some ch) (h : Q (.str ⟨#[ch]⟩ 0) H)
    (hs : ∀ t t', subscripted slice false (.str x t) (.int i t') = operate [.str x t, .int i t'] (getItem (.str x t) (.int i t')) := by intro _ _; with_unfolding_all rfl) : SUB c A E S value slice (.str x 0) (.int i 0) H Q := fun u v eu ev s z => by
  obtain ⟨t, rfl⟩ := er_str eu
  obtain ⟨t', rfl⟩ := er_int ev
  exact tail_any (T := "str") (typeIs_str s x t) PySem.F.slot_str_getitem.lookup (PyProof.Rows.getItem_str hr hc ⟨H, z.toks _, h⟩) (hs t t')
theorem BIN_str_add {x y : Str} (hl : x.length + y.length ≤ 1000) (h : Q (.str (x ++ y) 0) H) : BIN c A E S .Add (.str x 0) (.str y 0) H Q := fun u v eu ev s z => by
  obtain ⟨t, rfl⟩ := er_str eu
  obtain ⟨t', rfl⟩ := er_str ev
  exact PyProof.Rows.add_str (fun t' tk => ⟨H, z.toks _, h⟩) (by rw [sizeLine_eq]; omega)
/-- l < m < r -/
theorem TST_chain {l r1 r2 : Expr} {op1 op2 : CmpOp} {pos : Pos} {Q : Bool → AH → Prop} (h : EV c A env E S l H fun a H1 => EV c A env E S r1 H1 fun b H2 => CMP c A E S op1 a b H2 fun v H3 => TRU c A E S v H3 fun z H4 => if z = true then EV c A env E S r2 H4 fun d H5 => CMP c A E S op2 b d H5 fun w H6 => TRU c A E S w H6 Q else Q false H4)
    (hm : lastMarks [op1, op2] [r1, r2] = false := by with_unfolding_all rfl) : TST c A env E S (.Compare l [op1, op2] [r1, r2] pos) H Q := fun s z => by
  refine isTrue_chain (R.run h z (fun a s1 H1 x1 h1 => test_link (R.run h1 x1 (fun b s2 H2 x2 h2 => R.run (h2 a b rfl rfl) x2 (fun v s3 H3 x3 h3 => R.run (h3 v rfl) x3 (fun t s4 H4 x4 h4 => ?_)))))) hm
  cases t with
  | false => exact ⟨H4, x4, h4⟩
  | true =>
    exact test_last (R.run h4 x4 (fun d s5 H5 x5 h5 => R.run (h5 b d rfl rfl) x5 (fun w s6 H6 x6 h6 => h6 w rfl s6 x6)))
end
end Mine
end
section
open PySem PySem.W PyProof.Rows PySem.Calls
open PySem.MeetsSeq
namespace Mine
section
variable {c : Cx} {A : Around} {E : Value → Shared → Prop} {env : Env} {L : Addr} {S : Stk} {m : Loc} {H : AH} {s : Shared} {Q : Value → AH → Prop}
noncomputable def scFine (sc : Scope) (names : List Str) : Bool := decide names.Nodup && names.all (fun y => sc.names.lookup y == some .local) && sc.names.all (fun x => x.2 != .cell) && !sc.isCoroutine && !sc.isGenerator && sc.kind == .function
noncomputable def fnFine (K : Frag) (qual : Str) (cdv : Value) (sc : Scope) (names : List Str) : Bool := codeIn K cdv qual && scFine sc names
theorem CC_topE (C : c.Ok) (f : Addr) (S0 : Stmt) (qual : Str) (pm cdv dV : Value) {n : Nat} {name : Str} {params : Arguments} {body : List Stmt} {d1 : List Expr} {d2 : Option Expr} {d3} {scope : Scope} {d4 : Option Scope} {d5 : Str} {d6 : Pos} {vs : List Value} (dv : List Value) (names : List Str) {Q : Value → AH → Prop}
    (hS : S0 = .FunctionDef name params body d1 d2 d3 scope d4 d5 d6) (ho : c.K.lookup f = some (fo S0 qual pm cdv dV)) (hcd : fnFine c.K qual cdv scope names = true) (hr : Room (n + 1) A (S.map (·.1)))
    (hb : Binds c (fnOf name qual params body scope dV .none .none pm none cdv .none) vs names dv) (hn : names.length = vs.length + dv.length)
    (h : ∀ L, Room n (A.deeper (envX qual scope L f cdv [])) (L :: S.map (·.1)) → XS c (A.deeper (envX qual scope L f cdv [])) (envX qual scope L f cdv []) (fun e s' => wpAny (model c.prog c.w) (A.deeper (envX qual scope L f cdv [])) (leaving (envX qual scope L f cdv []) e) (fun _ s'' => E e s'') (fun e' s'' => E e' s'') s') L S (names.zip (vs ++ dv.map er)) body H fun fl m H1 => Q (flowVal fl) H1) : CC c A E S (.ref f) vs H Q := by
  subst hS
  simp only [fnFine, scFine, Bool.and_eq_true, decide_eq_true_eq, List.all_eq_true, beq_iff_eq, bne_iff_ne, Bool.not_eq_true'] at hcd
  obtain ⟨h0, ⟨⟨⟨⟨h1, h2⟩, h3⟩, h4⟩, h5⟩, h6⟩ := hcd
  exact CC_def C ho h0 hr hb hn h1 h2 (fun L => h L (hr.deeper rfl h6)) h3 h4 h5 h6
theorem CC_top (C : c.Ok) (f : Addr) (S0 : Stmt) (qual : Str) (pm cdv dV : Value) {n : Nat} {name : Str} {params : Arguments} {body : List Stmt} {d1 : List Expr} {d2 : Option Expr} {d3} {scope : Scope} {d4 : Option Scope} {d5 : Str} {d6 : Pos} {vs : List Value} (dv : List Value) (names : List Str) {Q : Value → AH → Prop}
    (hS : S0 = .FunctionDef name params body d1 d2 d3 scope d4 d5 d6) (ho : c.K.lookup f = some (fo S0 qual pm cdv dV)) (hcd : fnFine c.K qual cdv scope names = true) (hr : Room (n + 1) A (S.map (·.1)))
    (hb : Binds c (fnOf name qual params body scope dV .none .none pm none cdv .none) vs names dv) (hn : names.length = vs.length + dv.length)
    (h : ∀ L E' A', Room n A' (L :: S.map (·.1)) → XS c A' (envX qual scope L f cdv []) E' L S (names.zip (vs ++ dv.map er)) body H fun fl m H1 => Q (flowVal fl) H1) : CC c A E S (.ref f) vs H Q :=
  CC_topE C f S0 qual pm cdv dV dv names hS ho hcd hr hb hn fun L r => h L _ _ r

/-- a global's value -/
structure Gl (c : Cx) (x : Str) (v : Value) : Prop where
  h : ∃ u, nsIn c.K mainGlobals x = some (some u) ∧ er u = v
structure GlF (c : Cx) (x : Str) (a : Addr) : Prop where
  h : nsIn c.K mainGlobals x = some (some (.ref a))
  k : keepIn c.K (.ref a) = true
theorem EV_gl (C : c.Ok) {x : Str} {pos : Pos} {v : Value} (g : Gl c x v) (h : Q v H) (hg : env.globals = mainGlobals := by rfl)
    (hk : env.scope.kind = .function := by rfl) (hl : env.kindOf x = some .globalImplicit := by rfl) (hd : (x == ("__debug__" : Str)) = false := by decide +kernel) : EV c A env E S (.Name x pos) H Q := by
  obtain ⟨u, e, rfl⟩ := g.h
  exact EV_global C e h hg hk hl hd
theorem EV_callg (C : c.Ok) {x : Str} {p pos : Pos} {es : List Expr} {a : Addr} (g : GlF c x a)
    (h : EVs c A env E S pos es H fun vs H1 => CV c A E S (.ref a) vs H1 Q) (hs : starEach es env = es.map fun e => (false, eval e env) := by rfl) (hg : env.globals = mainGlobals := by rfl)
    (hk' : env.scope.kind = .function := by rfl) (hl : env.kindOf x = some .globalImplicit := by rfl) (hd : (x == ("__debug__" : Str)) = false := by decide +kernel) : EV c A env E S (.Call (.Name x p) es [] pos) H Q :=
  EV_Call_global C g.h g.k h hs hg hk' hl hd
theorem g_MASK : Gl c "MASK" (.int 4294967295 0) := ⟨.int 4294967295 189, by kernel_rfl, rfl⟩
theorem g_SIGN : Gl c "SIGN" (.int 2147483648 0) := ⟨.int 2147483648 191, by kernel_rfl, rfl⟩
theorem g_LINK : Gl c "LINK" (.int 15 0) := ⟨.int 15 400, by kernel_rfl, rfl⟩
theorem g_WORD_cpu : Gl c "WORD_cpu" (.int 4294967296 0) := ⟨.int 4294967296 398, by kernel_rfl, rfl⟩
theorem g_WORD_memory : Gl c "WORD_memory" (.int 4294967296 0) := ⟨.int 4294967296 516, by kernel_rfl, rfl⟩
theorem g_to_signed : GlF c "to_signed" 21 := ⟨by kernel_rfl, by kernel_rfl⟩
theorem g_flagged : GlF c "flagged" 29 := ⟨by kernel_rfl, by kernel_rfl⟩
theorem g_add : GlF c "add" 36 := ⟨by kernel_rfl, by kernel_rfl⟩
theorem g_sub : GlF c "sub" 43 := ⟨by kernel_rfl, by kernel_rfl⟩
theorem g_mul : GlF c "mul" 50 := ⟨by kernel_rfl, by kernel_rfl⟩
theorem g_div : GlF c "div" 57 := ⟨by kernel_rfl, by kernel_rfl⟩
theorem g_shift_left : GlF c "shift_left" 64 := ⟨by kernel_rfl, by kernel_rfl⟩
theorem g_shift_arith : GlF c "shift_arith" 71 := ⟨by kernel_rfl, by kernel_rfl⟩
theorem g_rotate : GlF c "rotate" 78 := ⟨by kernel_rfl, by kernel_rfl⟩
theorem g_bitwise : GlF c "bitwise" 85 := ⟨by kernel_rfl, by kernel_rfl⟩
theorem g_operate : GlF c "operate" 92 := ⟨by kernel_rfl, by kernel_rfl⟩
theorem g_condition_number : GlF c "condition_number" 99 := ⟨by kernel_rfl, by kernel_rfl⟩
theorem g_holds : GlF c "holds" 106 := ⟨by kernel_rfl, by kernel_rfl⟩
theorem g_TrapError : GlF c "TrapError" 136 := ⟨by kernel_rfl, by kernel_rfl⟩
theorem g_Cpu : GlF c "Cpu" 223 := ⟨by kernel_rfl, by kernel_rfl⟩
theorem g_register_names : GlF c "register_names" 234 := ⟨by kernel_rfl, by kernel_rfl⟩
theorem g_Memory : GlF c "Memory" 286 := ⟨by kernel_rfl, by kernel_rfl⟩
theorem g_law_row : GlF c "_law_row" 297 := ⟨by kernel_rfl, by kernel_rfl⟩
theorem g_law_next : GlF c "_law_next" 304 := ⟨by kernel_rfl, by kernel_rfl⟩
theorem g_law_word : GlF c "_law_word" 311 := ⟨by kernel_rfl, by kernel_rfl⟩
theorem g_law_holds : GlF c "_law_holds" 318 := ⟨by kernel_rfl, by kernel_rfl⟩
theorem g_law_plus : GlF c "_law_plus" 325 := ⟨by kernel_rfl, by kernel_rfl⟩
theorem g_law_act : GlF c "_law_act" 332 := ⟨by kernel_rfl, by kernel_rfl⟩
theorem g_law_got : GlF c "_law_got" 337 := ⟨by kernel_rfl, by kernel_rfl⟩
theorem g_law_step : GlF c "_law_step" 344 := ⟨by kernel_rfl, by kernel_rfl⟩
theorem g_law_made : GlF c "_law_made" 351 := ⟨by kernel_rfl, by kernel_rfl⟩
theorem CP_Cpu : ClsOk c 223 := ⟨by kernel_rfl, by kernel_rfl, by kernel_rfl, ⟨_, rfl, by kernel_rfl⟩, by kernel_rfl, by kernel_rfl⟩
theorem CP_Memory : ClsOk c 286 := ⟨by kernel_rfl, by kernel_rfl, by kernel_rfl, ⟨_, rfl, by kernel_rfl⟩, by kernel_rfl, by kernel_rfl⟩
end
end Mine
end
section
open PySem PySem.W PyProof.Rows PySem.Calls
open PySem.MeetsSeq
namespace Mine
section
variable {c : Cx} {A : Around} {E : Value → Shared → Prop} {env : Env} {L : Addr} {S : Stk} {m : Loc} {H : AH} {s : Shared} {Q : Value → AH → Prop}
theorem Room.noh {n : Nat} {ls : List Addr} (h : Room n A ls) : A.handled = none := h.2.2.1
/-- a name of the machine's own -/
structure GlB (c : Cx) (x : Str) (v : Value) : Prop where
  e : nsIn c.K mainGlobals x = some none
  hv : bootBuiltins x = some v
  hn : x ≠ "__name__"
  k : Kept c v
  r : ∀ u, er u = er v → u = v
theorem EV_callb (C : c.Ok) {x : Str} {p pos : Pos} {es : List Expr} {v : Value} (g : GlB c x v)
    (h : EVs c A env E S pos es H fun vs H1 => CV c A E S v vs H1 Q) (hs : starEach es env = es.map fun e => (false, eval e env) := by rfl) (hg : env.globals = mainGlobals := by rfl) (hb : env.builtins = builtinsNs := by rfl)
    (hk' : env.scope.kind = .function := by rfl) (hl : env.kindOf x = some .globalImplicit := by rfl) (hd : (x == ("__debug__" : Str)) = false := by decide +kernel) : EV c A env E S (.Call (.Name x p) es [] pos) H Q :=
  EV_Call_builtin C g.e g.hv g.hn g.k g.r h hs hg hb hk' hl hd
theorem b_divmod : GlB c "divmod" (.builtin "divmod") := ⟨by kernel_rfl, by kernel_rfl, by decide +kernel, Kept.builtin, fun _ e => er_builtin e⟩
theorem b_len : GlB c "len" (.builtin "len") := ⟨by kernel_rfl, by kernel_rfl, by decide +kernel, Kept.builtin, fun _ e => er_builtin e⟩
theorem b_sum : GlB c "sum" (.builtin "sum") := ⟨by kernel_rfl, by kernel_rfl, by decide +kernel, Kept.builtin, fun _ e => er_builtin e⟩
theorem b_list : GlB c "list" (.type "list") := ⟨by kernel_rfl, by kernel_rfl, by decide +kernel, Kept.type, fun _ e => er_type e⟩
theorem b_range : GlB c "range" (.type "range") := ⟨by kernel_rfl, by kernel_rfl, by decide +kernel, Kept.type, fun _ e => er_type e⟩
theorem sub_new {t : Addr} {o : AO} (ht : H t = none) : ∀ a x, H a = some x → (H.set t o) a = some x := fun a x h => (AH.set_ne fun q => by rw [q, ht] at h; cases h).trans h
theorem CV.less {f : Value} {vs : List Value} {H' : AH} (h : CV c A E S f vs H Q) (l : ∀ a o, H a = some o → H' a = some o) : CV c A E S f vs H' Q := fun xs e s z => h xs e s (z.less l)
theorem EV.less {e : Expr} {H' : AH} (h : EV c A env E S e H Q) (l : ∀ a o, H a = some o → H' a = some o) : EV c A env E S e H' Q := fun s z => h s (z.less l)
noncomputable def Le (H2 H1 : AH) : Prop := ∀ a o, H2 a = some o → H1 a = some o
theorem Le.refl : Le H H := fun _ _ h => h
theorem Le.new {H0 : AH} {t : Addr} {o : AO} (x : Le H0 H) (ht : H t = none) : Le H0 (H.set t o) := fun a x' h => sub_new ht a x' (x a x' h)
theorem Le.trans {H1 H2 H3 : AH} (x : Le H1 H2) (y : Le H2 H3) : Le H1 H3 := fun a o h => y a o (x a o h)
theorem Le.free {H1 H2 : AH} (x : Le H1 H2) {a : Addr} (h : H2 a = none) : H1 a = none := by
  cases e : H1 a with
  | none => rfl
  | some o => rw [x a o e] at h; cases h
theorem CC.post {f : Value} {vs : List Value} (h : CC c A E S f vs H fun v H1 => ∃ H2, Le H2 H1 ∧ Q v H2) : CC c A E S f vs H Q := fun xs e s z =>
  codeAny_mono (h xs e s z) fun r s' hr => by
    rcases r with e | (v | _ | _ | _)
    · exact hr
    · exact hr
    · exact hr
    · exact hr
    · obtain ⟨H1, x1, H2, l, q⟩ := hr
      exact ⟨H2, x1.less l, q⟩
theorem CV.post {f : Value} {vs : List Value} (h : CV c A E S f vs H fun v H1 => ∃ H2, Le H2 H1 ∧ Q v H2) : CV c A E S f vs H Q := fun xs e s z =>
  wpAny_mono (h xs e s z) (fun v s' ⟨H1, x1, H2, l, q⟩ => ⟨H2, x1.less l, q⟩) fun _ _ e => e
end
end Mine
end
section
open PySem PySem.W PyProof.Rows PySem.Calls
open PySem.MeetsSeq
set_option maxRecDepth 100000
namespace Mine
section
variable {c : Cx} {A : Around} {E : Value → Shared → Prop} {env : Env} {L : Addr} {S : Stk} {m : Loc} {H : AH} {s : Shared} {Q : Value → AH → Prop}
/-- an own exception's class below an own class, with an own __init__ -/
theorem type_call_tail {h : Heap} {g : Array GenState} {d : Drawn} {t : Nat} {os : OsState} {prog : Program} {w : World} {nm q : Str} {C N : Addr} {bs bm bmB : List Value} {hdct : Bool} {sn : List Str} {sub : List Value} {ab : Bool} {col : Option Bool} {dd : Option Addr} {k0 k1 k2 k3 k5 : Option Value} {B newId initId : String}
    (F : ExcBaseFacts B newId initId bmB) (T : OwnTail h bmB bm) {mN : Str → Option Value} {rest : List Value} {fI : Addr} {oI : Obj} {Q : Fin → Shared → Prop}
    (hC : h.get? C = some (excClassObj nm q C N bs bm hdct sn sub ab col dd k0 k1 k2 k3 k5 newId)) (hn : h.Ns N mN) (hi : mN "__init__" = some (.ref fI))
    (hfI : h.get? fI = some oI) (hfc : oI.cls = .type "function")
    (hq : wpAny (model prog w) A (call (.ref fI) (.ref (h.objs.size + 1) :: rest)) (fun r s' => r = .none ∧ Q (.done (.ret (.ref (h.objs.size + 1)))) s') E ⟨(h.push { cls := .type "tuple", data := .seq rest.toArray }).push { cls := .ref C, data := .fields #[.ref h.objs.size, .none, .none, .none, .bool false, .none] }, g, d, t, os⟩) (hrest : rest.length ≤ sizeLine := by size_fits) :
    wpAny (model prog w) A (Builtin.«type.__call__» ⟨.ref C :: rest, []⟩) Q E ⟨h, g, d, t, os⟩ := by
  repeat (first | with_reducible refine wpAny_loadPart_at hC ?_ | with_reducible refine wpAny_madeBy_exc hC ?_ | wp_step)
  refine codeAny_call_builtin_code (Code.quiet_builtin _ F.quiet) (wpAny_check_new_subT F T hC ?_)
  refine codeAny_exc_new_subT F T hC ?_ hrest
  show wpAny _ _ _ _ _ _
  have hC₁ := Heap.get?_push_of_some { cls := .ref C, data := .fields #[.ref h.objs.size, .none, .none, .none, .bool false, .none] }
    (Heap.get?_push_of_some { cls := .type "tuple", data := .seq rest.toArray } hC)
  have hfI₁ := Heap.get?_push_of_some { cls := .ref C, data := .fields #[.ref h.objs.size, .none, .none, .none, .bool false, .none] }
    (Heap.get?_push_of_some { cls := .type "tuple", data := .seq rest.toArray } hfI)
  have hn₁ : ((h.push { cls := .type "tuple", data := .seq rest.toArray }).push { cls := .ref C, data := .fields #[.ref h.objs.size, .none, .none, .none, .bool false, .none] }).Ns N mN :=
    let ⟨o, es, ep, e, r⟩ := hn; ⟨o, es, ep, Heap.get?_push_of_some _ (Heap.get?_push_of_some _ e), r⟩
  have hget : ((h.push { cls := .type "tuple", data := .seq rest.toArray }).push
      { cls := .ref C, data := .fields #[.ref h.objs.size, .none, .none, .none, .bool false, .none] }).get? (h.objs.size + 1) = some
      { cls := .ref C, data := .fields #[.ref h.objs.size, .none, .none, .none, .bool false, .none] } := by heap_get
  have hcC : (Value.ref C :: bm).contains (.ref C) = true := by simp
  have T₁ := T.keeps (h' := (h.push { cls := .type "tuple", data := .seq rest.toArray }).push { cls := .ref C, data := .fields #[.ref h.objs.size, .none, .none, .none, .bool false, .none] })
    fun b o e => Heap.get?_push_of_some _ (Heap.get?_push_of_some _ e)
  unfold isInstance
  repeat (first | with_reducible refine wpAny_loadPart_at hget ?_ | (with_reducible refine wpAny_isSubtype_exc hC₁ ?_; rw [hcC]) | wp_step)
  show wpAny _ _ (typeLookup (.ref C) _) _ _ _
  refine wpAny_typeLookup_tail hC₁ hn₁ T₁ F.mroIs F.init.lookup ?_
  rw [hi]
  refine wpAny_holding (wpAny_bind ?_)
  unfold bindSpecial
  refine wpAny_bind (wpAny_typeOf (T := "function") ⟨_, hfI₁, hfc⟩ ?_)
  rw [if_pos (by decide)]
  refine wpAny_pure (wpAny_bind (wpAny_mono hq (fun r s' hr => ?_) fun _ _ x => x))
  obtain ⟨rfl, hQ⟩ := hr
  wp_walk
  exact hQ
theorem call_tail {h : Heap} {g : Array GenState} {d : Drawn} {t : Nat} {os : OsState} {prog : Program} {w : World} {nm q : Str} {C N : Addr} {bs bm bmB : List Value} {hdct : Bool} {sn : List Str} {sub : List Value} {ab : Bool} {col : Option Bool} {dd : Option Addr} {k0 k1 k2 k3 k5 : Option Value} {B newId initId : String}
    (F : ExcBaseFacts B newId initId bmB) (T : OwnTail h bmB bm) {mN : Str → Option Value} {rest : List Value} {fI : Addr} {oI : Obj} {Q : Value → Shared → Prop}
    (hC : h.get? C = some (excClassObj nm q C N bs bm hdct sn sub ab col dd k0 k1 k2 k3 k5 newId)) (hn : h.Ns N mN) (hi : mN "__init__" = some (.ref fI))
    (hfI : h.get? fI = some oI) (hfc : oI.cls = .type "function")
    (hq : wpAny (model prog w) (A.under (.builtin "type.__call__" ⟨.ref C :: rest, []⟩)) (call (.ref fI) (.ref (h.objs.size + 1) :: rest)) (fun r s' => r = .none ∧ Q (.ref (h.objs.size + 1)) s') E ⟨(h.push { cls := .type "tuple", data := .seq rest.toArray }).push { cls := .ref C, data := .fields #[.ref h.objs.size, .none, .none, .none, .bool false, .none] }, g, d, t, os⟩) (hrest : rest.length ≤ sizeLine := by size_fits) :
    wpAny (model prog w) A (call (.ref C) rest) Q E ⟨h, g, d, t, os⟩ := by
  have f1 := tc_lookup
  have f2 := tc_bind (.ref C)
  have hT : (⟨h, g, d, t, os⟩ : Shared).TypeIs (.ref C) "type" := ⟨_, hC, rfl⟩
  refine wpAny_call (codeAny_of_tree ?_)
  show wpAny _ _ (callAny (.ref C) _) _ _ _
  repeat (any_goals (first | assumption | with_reducible refine wpAny_loadPart_at hC ?_ | wp_step))
  refine ⟨rfl, ?_⟩
  exact codeAny_call_builtin_at (Code.quiet_builtin _ (by decide +kernel)) entry_typeCall (wpAny_check_type_call_sub hC (type_call_tail (hrest := hrest) F T hC hn hi hfI hfc hq))
end
end Mine
end
section
open PySem PySem.W PyProof.Rows PySem.Calls
open PySem.MeetsSeq
open PySem.Builtin PySem.Builtin.ObjectAttr
set_option maxRecDepth 100000
namespace Mine
section
variable {c : Cx} {A : Around} {E : Value → Shared → Prop} {env : Env} {L : Addr} {S : Stk} {m : Loc} {H : AH} {s : Shared} {Q : Value → AH → Prop}
theorem osa_exc {R : Result → Shared → Prop} {prog : Program} {w : World} {x C B : Addr} {bm : List Value} {cd : ClassData} {X0 : String} {K : Frag} {ox : Obj} {od : Option Obj} {name : Str} {tk : Tok} {v : Value} (SF : StoreFacts X0 bm "object.__setattr__" "object") (X : K.In s.heap) (I : InstAt s.heap x ox C od) (hc : clsIn K C = some cd) (hmro : cd.mro = .ref C :: .ref B :: bm) (ho : bm.contains (.type "object") = true) (ht : findIn K (.ref C) name = some none)
    (h : ∀ b, wpAny (model prog w) A.in1 (storeInOwnDict (.ref x) (.ref C) (.str name tk) name v b)
      (fun fin s' => match fin with | .done f => R (.ok f) s' | .again c' => c'.quiet = true ∧ codeAny (model prog w) A c' R s') (fun e s' => R (.error e) s') s) :
    codeAny (model prog w) A (.call (.builtin "object.__setattr__") ⟨[.ref x, .str name tk, v], []⟩) R s := by
  have ne : cd.mro.isEmpty = false := by rw [hmro]; rfl
  have sub : Looks (model prog w) s.heap (isInstance (.ref x) (.type "object")) true := I.type.andThen (looks_mroIn X (by unfold mroIn; rw [hc, Option.bind_some, if_neg (by rw [ne]; decide), hmro, List.contains_cons, List.contains_cons, ho, Bool.or_true, Bool.or_true]))
  refine codeAny_call_builtin SF.slot.plain SF.entry (@check_slot (model prog w) _ _ s "object.__setattr__" "object" "__setattr__" (.ref x) [.str name tk, v] [] _ SF.kind SF.split sub (SF.args (.ref x) (.str name tk) v) ?_)
  have hm : Looks (model prog w) s.heap (mroOf (.ref C)) cd.mro := (looks_clsIn X hc).andThen .now
  have L3 : Looks (model prog w) s.heap (storeTaker? none) none := .now
  rw [osa_eq, refuse_eq]
  refine wpAny_bind (wpAny_bind (I.type.here (wpAny_bind (hm.here ?_))))
  rw [hmro, refuseLoop_ref, refuseLoop_ref, SF.passes]
  refine wpAny_pure (wpAny_bind (I.type.here (wpAny_bind ((looks_findIn X ht).here (wpAny_bind (L3.here ?_))))))
  exact h _

noncomputable def excObj (od : Option Addr) (vs : Array Value) : Obj := ⟨.ref 136, od, .fields vs, #[]⟩
theorem cls136 : ∃ cd, clsIn c.K 136 = some cd ∧ cd.mro = .ref 136 :: .ref 116 :: [.type "Exception", .type "BaseException", .type "object"] ∧ cd.hasDict = true := ⟨_, rfl, by kernel_rfl, by kernel_rfl⟩
theorem SETA_exc0 {a : Addr} {vs : Array Value} {n : Str} {v : Value} {Q : AH → Prop} (C0 : c.Ok) (ha : H a = some (.raw (excObj none vs))) (hn : findIn c.K (.ref 136) n = some none)
    (h : ∀ d, H d = none → Q ((H.set d (.ns [(n, v)])).set a (.raw (excObj (some d) vs)))) : SETA c A E S (.ref a) n v H Q := fun x u ex eu s z => by
  have := er_ref ex; subst this
  have X := C0.kin.keeps z.keep
  obtain ⟨cd, hc, hmro, hdct⟩ := cls136 (c := c)
  have hx : s.heap.get? a = some (excObj none vs) := (z.ob _ _ ha).2
  have I : InstAt s.heap a (excObj none vs) 136 none := ⟨hx, rfl, rfl, trivial⟩
  refine set_plain X I (by kernel_rfl) (osa_exc (s := { s with toks := s.toks + 1 }) F.store_Exception X I hc hmro (by decide) hn fun b => ?_)
  have hsz : a ≠ s.heap.objs.size := Nat.ne_of_lt (Heap.lt_size hx)
  have f1 := z.free (Nat.le_refl s.heap.objs.size)
  refine wpAny_bind (wpAny_pure (wpAny_bind (wpAny_bind (wpAny_loadPart hx (wpAny_bind (looks_clsIn X hc _ _ _ _ (fun _ _ e => e) ?_))))))
  rw [hdct]
  refine wpAny_bind (wpAny_alloc' ?_)
  have hx1 : (s.heap.push { cls := .type "dict", data := .dict #[] }).get? a = some (excObj none vs) := Heap.get?_push_of_some _ hx
  refine wpAny_bind (wpAny_update' hx1 ?_)
  refine wpAny_pure (wpAny_bind (wpAny_pure (wpAny_bind ?_)))
  have z1 := z.push (o := { cls := .type "dict", data := .dict #[] }) (ao := .ns []) ⟨_, #[], 0, Heap.get?_push_size _ rfl, rfl, (fun e he => by simp at he), Nat.le_refl _, fun x => rfl⟩
  have ha1 : (H.set s.heap.objs.size (.ns [])) a = some (.raw (excObj none vs)) := (AH.set_ne hsz).trans ha
  have z2 := z1.upd (tk := s.toks + 1) (o' := .raw (excObj (some s.heap.objs.size) vs)) ha1 (Heap.SameBut.update (s.heap.push { cls := .type "dict", data := .dict #[] }) a fun o => { o with dict := some s.heap.objs.size }) (Heap.get?_update_self _ hx1 rfl)
  obtain ⟨_, o, es, ep, g1, g2, g3, g4, g5⟩ := z2.ob s.heap.objs.size (.ns []) ((AH.set_ne hsz.symm).trans AH.set_self)
  refine nsSet_at g1 g2 g3 fun h' o' es' ep' k1 k2 k3 k4 k5 k6 k7 k8 k9 => ?_
  have hes : es.size = 0 := Nat.le_zero.mp g4
  have hsz' : es'.size ≤ 1 := by rw [k6]; split <;> omega
  refine wpAny_bind (wpAny_lookBehind k2 (by rw [k3]; exact pastItsLine_dict (by rw [sizeLine_eq]; omega)) ?_)
  have z3 := z2.upd (tk := s.toks + 1 + 1) ((AH.set_ne hsz.symm).trans AH.set_self) k1 (o' := .ns [(n, v)]) ⟨o', es', ep', k2, k3, k4, hsz', fun x => ?_⟩
  · refine wpAny_pure ⟨_, z3.less (H' := (H.set s.heap.objs.size (.ns [(n, v)])).set a (.raw (excObj (some s.heap.objs.size) vs))) ?_, h _ f1⟩
    intro b o hb
    by_cases q : b = a
    · subst q
      rw [AH.set_self] at hb
      rw [AH.set_ne hsz, AH.set_self]; exact hb
    · rw [AH.set_ne q] at hb
      by_cases q2 : b = s.heap.objs.size
      · subst q2
        rw [AH.set_self] at hb
        rw [AH.set_self]; exact hb
      · rw [AH.set_ne q2] at hb
        rw [AH.set_ne q2, AH.set_ne q, AH.set_ne q2]; exact hb
  · rw [k5]
    by_cases q : x = n
    · subst q; rw [if_pos rfl, lookup_cons_eq, ← eu]; rfl
    · rw [if_neg q, lookup_cons_ne q]; exact g5 x
theorem SETA_exc1 {a d : Addr} {vs : Array Value} {m : Loc} {n : Str} {v : Value} {Q : AH → Prop} (C0 : c.Ok) (ha : H a = some (.raw (excObj (some d) vs))) (hd : H d = some (.ns m)) (hn : findIn c.K (.ref 136) n = some none) (hl : m.length < 1000)
    (h : Q (H.set d (.ns (setL n v m)))) : SETA c A E S (.ref a) n v H Q := fun x u ex eu s z => by
  have := er_ref ex; subst this
  have X := C0.kin.keeps z.keep
  obtain ⟨cd, hc, hmro, hdct⟩ := cls136 (c := c)
  have hx : s.heap.get? a = some (excObj (some d) vs) := (z.ob _ _ ha).2
  obtain ⟨_, o, es, ep, g1, g2, g3, g4, g5⟩ := z.ob _ _ hd
  have I : InstAt s.heap a (excObj (some d) vs) 136 (some o) := ⟨hx, rfl, rfl, g1⟩
  refine set_plain X I (by kernel_rfl) (osa_exc (s := { s with toks := s.toks + 1 }) F.store_Exception X I hc hmro (by decide) hn fun b => ?_)
  refine wpAny_bind (wpAny_pure (wpAny_bind (wpAny_bind (wpAny_loadPart hx (wpAny_bind (looks_clsIn X hc _ _ _ _ (fun _ _ e => e) ?_))))))
  rw [hdct]
  refine wpAny_pure (a := some d) (wpAny_bind (wpAny_pure (wpAny_bind ?_)))
  refine nsSet_at (s := { s with toks := s.toks + 1 }) g1 g2 g3 fun h' o' es' ep' k1 k2 k3 k4 k5 k6 k7 k8 k9 => ?_
  have hsz : es'.size ≤ (setL n v m).length := by
    rw [k6, setL_length]
    have := g5 n
    cases hq : nsFind es n with
    | some w => rw [hq] at this; simp only [Option.map_some] at this; rw [← this]; simpa using g4
    | none => rw [hq] at this; simp only [Option.map_none] at this; rw [← this]; simpa using g4
  have hl' : (setL n v m).length ≤ 1000 := by rw [setL_length]; split <;> omega
  refine wpAny_bind (wpAny_lookBehind k2 (by rw [k3]; exact pastItsLine_dict (by rw [sizeLine_eq]; omega)) ?_)
  refine wpAny_pure ⟨_, z.upd hd k1 (o' := .ns (setL n v m)) ⟨o', es', ep', k2, k3, k4, hsz, fun x => ?_⟩, h⟩
  rw [k5, setL_lookup]
  by_cases q : x = n
  · rw [if_pos q, if_pos q, ← eu]; rfl
  · rw [if_neg q, if_neg q]; exact g5 x
end
end Mine
end
section
open PySem PySem.W PyProof.Rows PySem.Calls
open PySem.MeetsSeq
set_option maxRecDepth 100000
namespace Mine
section
variable {c : Cx} {A : Around} {E : Value → Shared → Prop} {env : Env} {L : Addr} {S : Stk} {m : Loc} {H : AH} {s : Shared} {Q : Value → AH → Prop}
/-- a frame is noted on its way out: what the exception's object becomes -/
theorem entry0 {M : Model} {base : Heap} {env : Env} {outer : List Env} {L e : Addr} {oe : Obj} {vs : Array Value} {head : Value} {hadNext : Bool} {Q : Unit → Shared → Prop}
    (hfr : A.frames = some (env :: outer)) (hl : s.heap.FunFrames base (env :: outer)) (hf : env.frame = some L)
    (he : s.heap.get? e = some oe) (hkb : base.StaysIn s.heap) (hd : oe.data = .fields vs) (hsz : 1 < vs.size) (hen : base.get? e = none)
    (h : ∀ h' T oT ts, base.StaysIn h' → h'.get? e = some (Obj.mapFields (·.setIfInBounds 1 (.ref T)) oe) → s.heap.objs.size ≤ T → h'.get? T = some oT → oT.data = .fields ts → ts[3]? = some .none → T ≠ e →
      (∀ b o, s.heap.get? b = some o → (∀ vs, o.data ≠ .fields vs) → ∃ sl, h'.get? b = some { o with slots := sl }) → s.heap.objs.size ≤ h'.objs.size → Q () { s with heap := h' }) :
    wpAny M A (do let a ← frameOf env; let pl ← entryPlaceOf L hadNext; let b ← EntryCells.newEntry head a .none (rawInt L) .none pl; setField (.ref e) 1 b) (fun _ s' => wpAny M A (setFlight (.ref e) none) Q E s') E s := by
  have hene : e ∉ (env :: outer).filterMap (·.frame) := fun hm => by
    obtain ⟨_, o, ho, hnf⟩ := hl.mem hm
    rw [he] at ho; injection ho with ho; subst ho; exact hnf vs hd
  refine wpAny_bind (wpAny_frameOf_fun hfr hl hf fun h₁ hs₁ => ?_)
  refine wpAny_bind (wpAny_entryPlaceOf fun pl hpl => ?_)
  unfold EntryCells.newEntry newFields
  refine wpAny_bind (wpAny_newObj_type ?_ (hpl.sizeOk5 _ _ _ _ _))
  have he₁ : h₁.get? e = some oe := (hs₁.2.1 e hene).trans he
  have kb₁ : base.StaysIn h₁ := fun b o hbo => (hs₁.2.1 b fun hm => by rw [(hl.mem hm).1] at hbo; cases hbo).trans (hkb b o hbo)
  have he₂ := Heap.get?_push_of_some (h := h₁) { cls := .type "traceback", dict := none, data := .fields ([head, .ref L, .none, rawInt L, .none] ++ (if pl.isEmpty then List.replicate 6 Value.none else pl)).toArray } he₁
  refine wpAny_setField he₂ hd hsz ?_
  have hTe : h₁.objs.size ≠ e := Nat.ne_of_gt (Heap.lt_size he₁)
  have hd₃ := Obj.data_mapFields hd (·.setIfInBounds 1 (Value.ref h₁.objs.size))
  have he₃ := Heap.get?_update_self (Obj.mapFields (·.setIfInBounds 1 (Value.ref h₁.objs.size))) he₂ (Obj.isFreed_of_fields hd₃)
  have hT₃ := (Heap.get?_update_other (h₁.push { cls := .type "traceback", dict := none, data := .fields ([head, .ref L, .none, rawInt L, .none] ++ (if pl.isEmpty then List.replicate 6 Value.none else pl)).toArray })
    (Obj.mapFields (·.setIfInBounds 1 (Value.ref h₁.objs.size))) (Ne.symm hTe)).trans (Heap.get?_push_size h₁ rfl)
  unfold setFlight
  refine wpAny_bind (wpAny_field he₃ hd₃ (x := .ref h₁.objs.size) (by simp [hsz]) ?_)
  rw [if_pos (show (Value.ref h₁.objs.size != Value.none) = true from by simp)]
  refine wpAny_setField hT₃ rfl (by simp only [List.size_toArray, List.length_append, List.length_cons, List.length_nil] <;> omega) ?_
  have keep : ∀ b o, b ≠ e → h₁.get? b = some o →
      (((h₁.push { cls := .type "traceback", dict := none, data := .fields ([head, .ref L, .none, rawInt L, .none] ++ (if pl.isEmpty then List.replicate 6 Value.none else pl)).toArray }).update e (Obj.mapFields (·.setIfInBounds 1 (Value.ref h₁.objs.size)))).update h₁.objs.size
        (Obj.mapFields (·.setIfInBounds 3 ((none : Option Addr).elim Value.none fun f => rawInt f)))).get? b = some o := fun b o hbe hb => by
    have hbT : h₁.objs.size ≠ b := Nat.ne_of_gt (Heap.lt_size hb)
    rw [Heap.get?_update_other _ _ hbT, Heap.get?_update_other _ _ (Ne.symm hbe)]
    exact Heap.get?_push_of_some _ hb
  have noRecord : ∀ b o, s.heap.get? b = some o → (∀ vs, o.data ≠ .fields vs) → b ≠ e := fun b o hb hnf q => by
    rw [q, he] at hb; injection hb with hb; subst hb; exact hnf vs hd
  refine h _ h₁.objs.size _ _ (fun b o hbo => keep b o (fun q => by rw [q, hen] at hbo; cases hbo) (kb₁ b o hbo)) ?_ (Nat.le_of_eq hs₁.1.symm) (Heap.get?_update_self _ hT₃ (Obj.isFreed_of_fields (Obj.data_mapFields rfl _))) (Obj.data_mapFields rfl _) (by first | (simp; done) | (rcases hpl with rfl | ⟨_, _, _, _, _, _, _, rfl⟩ <;> simp)) hTe (fun b o hb hnf => ?_) ?_
  · rw [Heap.get?_update_other _ _ hTe]; exact he₃
  · obtain ⟨sl, hs⟩ := hs₁.2.2 b o hb
    exact ⟨sl, keep b _ (noRecord b o hb hnf) hs⟩
  · rw [Heap.size_after_update, Heap.size_after_update, Heap.size_push, hs₁.1]; exact Nat.le_succ _

noncomputable def trapM : Loc := [("number", .int 4 0), ("place", .int 0 0), ("module", .str "" 0)]
/-- the trap on its way -/
structure Fl (c : Cx) (S : Stk) (H : AH) (e : Addr) (s : Shared) : Prop where
  st : St c S H s
  ge : c.g.objs.size ≤ e
  free : H e = none
  nS : e ∉ S.map (·.1)
  ob : ∃ d vs tb, s.heap.get? e = some (excObj (some d) vs) ∧ vs[1]? = some tb ∧ H d = some (.ns trapM) ∧
    (tb = .none ∨ ∃ T oT ts, tb = .ref T ∧ c.g.objs.size ≤ T ∧ H T = none ∧ T ∉ S.map (·.1) ∧ T ≠ e ∧ s.heap.get? T = some oT ∧ oT.data = .fields ts ∧ ts[3]? = some .none)
theorem Fl.of {a d T0 : Addr} (z : St c S H s) (ha : H a = some (.raw (excObj (some d) #[.ref T0, .none, .none, .none, .bool false, .none]))) (hd : H d = some (.ns trapM)) : Fl c S (H.del a) a s where
  st := z.less fun b o h => (AH.del_some h).2
  ge := (z.ob _ _ ha).1
  free := if_pos rfl
  nS := fun q => by
    obtain ⟨p, hp, e⟩ := List.mem_map.mp q
    have := (z.fr p hp).2.1
    rw [e, ha] at this; cases this
  ob := ⟨d, _, .none, (z.ob _ _ ha).2, rfl, (if_neg (fun q : d = a => by rw [q, ha] at hd; cases hd)).trans hd, .inl rfl⟩

theorem funFrames {l : List Env} {base : Heap} (z : St c S H s) (hl : ∀ e ∈ l, e.scope.kind ≠ .module ∧ ∃ f ∈ S.map (·.1), e.frame = some f) (hb : ∀ f ∈ S.map (·.1), base.get? f = none) : s.heap.FunFrames base l := by
  induction l with
  | nil => trivial
  | cons env r ih =>
    obtain ⟨h1, f, h2, h3⟩ := hl env (.head _)
    obtain ⟨p, hp, rfl⟩ := List.mem_map.mp h2
    obtain ⟨_, _, mc, ⟨o, es, ep, ho, hd, _⟩, _⟩ := z.fr p hp
    exact ⟨h1, ⟨p.1, o, h3, hb _ h2, ho, fun vs q => by rw [hd] at q; cases q⟩, ih fun e he => hl e (.tail _ he)⟩
/-- what stays, stays a state -/
theorem St.flown {h' : Heap} {X : List Addr} (z : St c S H s) (hX : ∀ a ∈ X, c.g.objs.size ≤ a ∧ H a = none) (hk : (TI.gone s.heap (S.map (·.1) ++ X)).StaysIn h') (hsl : ∀ b o, s.heap.get? b = some o → (∀ vs, o.data ≠ .fields vs) → ∃ sl, h'.get? b = some { o with slots := sl }) (hsz : s.heap.objs.size ≤ h'.objs.size) : St c S H { s with heap := h' } :=
  have keep : ∀ b o, b ∉ S.map (·.1) ++ X → s.heap.get? b = some o → h'.get? b = some o := fun b o hb e => hk b o ((TI.gone_get hb).trans e)
  { keep := fun b o e => keep b o (fun q => by
      rcases List.mem_append.mp q with q | q
      · obtain ⟨p, hp, rfl⟩ := List.mem_map.mp q
        exact absurd (Nat.lt_of_lt_of_le (Heap.lt_size e) (z.fr p hp).1) (Nat.lt_irrefl _)
      · exact absurd (Nat.lt_of_lt_of_le (Heap.lt_size e) (hX b q).1) (Nat.lt_irrefl _)) (z.keep b o e)
    sz := Nat.le_trans z.sz hsz
    fr := fun p hp => by
      obtain ⟨h1, h2, mc, ⟨o, es, ep, ho, hd, r⟩, h4⟩ := z.fr p hp
      obtain ⟨sl, h5⟩ := hsl _ _ ho fun vs q => by rw [hd] at q; cases q
      exact ⟨h1, h2, mc, ⟨_, es, ep, h5, hd, r⟩, h4⟩
    nd := z.nd
    ob := fun b o e => by
      obtain ⟨h1, h2⟩ := z.ob b o e
      obtain ⟨oo, hb⟩ := h2.there
      refine ⟨h1, h2.same ?_⟩
      rw [hb]
      refine keep b oo (fun q => ?_) hb
      rcases List.mem_append.mp q with q | q
      · obtain ⟨p, hp, rfl⟩ := List.mem_map.mp q
        have := (z.fr p hp).2.1
        rw [e] at this; cases this
      · have := (hX b q).2
        rw [e] at this; cases this
    gens := z.gens
    dr := z.dr
    os := z.os }
theorem St.pop {p : Addr × Loc} (z : St c (p :: S) H s) : St c S H s := ⟨z.keep, z.sz, fun q hq => z.fr q (.tail _ hq), (List.nodup_cons.mp z.nd).2, z.ob, z.gens, z.dr, z.os⟩
theorem Fl.pop {e : Addr} {p : Addr × Loc} (x : Fl c (p :: S) H e s) : Fl c S H e s :=
  ⟨x.st.pop, x.ge, x.free, fun q => x.nS (List.mem_cons_of_mem _ q), let ⟨d, vs, tb, h1, h2, h3, h4⟩ := x.ob; ⟨d, vs, tb, h1, h2, h3, h4.elim .inl fun ⟨T, oT, ts, k1, k2, k3, k4, k5⟩ => .inr ⟨T, oT, ts, k1, k2, k3, fun q => k4 (List.mem_cons_of_mem _ q), k5⟩⟩⟩
/-- the own frame is the first of the stack -/
noncomputable def Here (A : Around) (env : Env) (ls : List Addr) : Prop := ∃ l, A.frames = some (env :: l) ∧ ∀ e ∈ env :: l, e.scope.kind ≠ .module ∧ ∃ f ∈ ls, e.frame = some f
theorem Here.of (hr : FramesOf A (S.map (·.1))) (hf : env.frame = some L) (hk : env.scope.kind = .function) : Here (A.deeper env) env (L :: S.map (·.1)) := by
  obtain ⟨l, hl, hl2⟩ := hr
  refine ⟨l, Around.frames_deeper hl, fun e he => ?_⟩
  rcases List.mem_cons.mp he with rfl | he
  · exact ⟨by rw [hk]; decide, L, .head _, hf⟩
  · obtain ⟨q1, f, q2, q3⟩ := hl2 e he
    exact ⟨q1, f, .tail _ q2, q3⟩
theorem Fl.note {e : Addr} {M : Model} {Ax : Around} (x : Fl c ((L, m) :: S) H e s) (hr : Here Ax env (L :: S.map (·.1))) (hf : env.frame = some L) {P : Unit → Shared → Prop} (q : ∀ s', Fl c ((L, m) :: S) H e s' → P () s') : wpAny M Ax (noteFrame (.ref e) env) (fun _ s' => wpAny M Ax (setFlight (.ref e) none) P E s') E s := by
  obtain ⟨l, hfr, hle'⟩ := hr
  obtain ⟨z, hge, hfree, hnS, d, vs, tb, he, h1, hd, htb⟩ := x
  have hle : ∀ e ∈ env :: l, e.scope.kind ≠ .module ∧ ∃ f ∈ ((L, m) :: S).map (·.1), e.frame = some f := hle'
  have hsz1 : 1 < vs.size := (Array.getElem?_eq_some_iff.mp h1).1
  have fin : ∀ (s1 : Shared) (vs1 : Array Value) (X : List Addr), St c ((L, m) :: S) H s1 → s1.heap.get? e = some (excObj (some d) vs1) → 1 < vs1.size → e ∈ X → (∀ a ∈ X, c.g.objs.size ≤ a ∧ H a = none) → ∀ h' T oT ts, (TI.gone s1.heap (((L, m) :: S).map (·.1) ++ X)).StaysIn h' → h'.get? e = some (Obj.mapFields (·.setIfInBounds 1 (.ref T)) (excObj (some d) vs1)) → s1.heap.objs.size ≤ T → h'.get? T = some oT → oT.data = .fields ts → ts[3]? = some .none → T ≠ e →
      (∀ b o, s1.heap.get? b = some o → (∀ vs, o.data ≠ .fields vs) → ∃ sl, h'.get? b = some { o with slots := sl }) → s1.heap.objs.size ≤ h'.objs.size → Fl c ((L, m) :: S) H e { s1 with heap := h' } := by
    intro s1 vs1 X z1 he1 hv1 heX hX h' T oT ts k1 k2 k3 k4 k5 k6 k7 k8 k9
    have z2 := z1.flown hX k1 k8 k9
    refine ⟨z2, hge, hfree, hnS, d, _, .ref T, k2, by simp [hv1], hd, .inr ⟨T, oT, ts, rfl, Nat.le_trans z1.sz k3, z1.free k3, fun q => ?_, k7, k4, k5, k6⟩⟩
    obtain ⟨p, hp, e'⟩ := List.mem_map.mp q
    obtain ⟨_, _, mc, h3, _⟩ := z1.fr p hp
    exact absurd h3.lt (by rw [e']; exact Nat.not_lt.mpr k3)
  unfold noteFrame
  simp only [hf]
  rcases htb with rfl | ⟨T, oT, ts, rfl, hT1, hT2, hT3, hT4, hT5, hT6, hT7⟩
  · refine wpAny_bind (wpAny_field he rfl h1 ?_)
    rw [if_neg (by decide)]
    have hX : ∀ a ∈ [e], c.g.objs.size ≤ a ∧ H a = none := fun a ha => by rw [List.mem_singleton.mp ha]; exact ⟨hge, hfree⟩
    exact entry0 (base := TI.gone s.heap (((L, m) :: S).map (·.1) ++ [e])) hfr (funFrames z hle fun f hf => TI.gone_none (List.mem_append_left _ hf)) hf he (fun b o eb => (TI.gone_some eb).2) rfl hsz1 (TI.gone_none (List.mem_append_right _ (.head _)))
      fun h' T oT ts k1 k2 k3 k4 k5 k6 k7 k8 k9 => q _ (fin s vs [e] z he hsz1 (.head _) hX h' T oT ts k1 k2 k3 k4 k5 k6 k7 k8 k9)
  · refine wpAny_bind (wpAny_field he rfl h1 ?_)
    rw [if_pos (show (Value.ref T != Value.none) = true from by simp)]
    refine wpAny_bind (wpAny_field hT5 hT6 hT7 ?_)
    rw [if_neg (show ¬ ((Value.none == rawInt L) = true) from by simp [rawInt])]
    refine wpAny_bind (wpAny_setField hT5 hT6 (Array.getElem?_eq_some_iff.mp hT7).1 ?_)
    have hTL : T ∉ ((L, m) :: S).map (·.1) := hT3
    have z1 : St c ((L, m) :: S) H { s with heap := s.heap.update T (Obj.mapFields (·.setIfInBounds 3 Value.none)), toks := s.toks } :=
      z.ext (List.cons_ne_nil _ _) (a := T) (fun b o hb eb => (Heap.get?_update_other _ _ (Ne.symm hb)).trans eb) hT1 hT2 fun p hp q => hTL (List.mem_map.mpr ⟨p, hp, q⟩)
    have he1 : (s.heap.update T (Obj.mapFields (·.setIfInBounds 3 Value.none))).get? e = some (excObj (some d) vs) := (Heap.get?_update_other _ _ hT4).trans he
    have hX : ∀ a ∈ [e], c.g.objs.size ≤ a ∧ H a = none := fun a ha => by rw [List.mem_singleton.mp ha]; exact ⟨hge, hfree⟩
    exact entry0 (s := { s with heap := s.heap.update T (Obj.mapFields (·.setIfInBounds 3 Value.none)), toks := s.toks }) (base := TI.gone (s.heap.update T (Obj.mapFields (·.setIfInBounds 3 Value.none))) (((L, m) :: S).map (·.1) ++ [e])) hfr (funFrames z1 hle fun f hf => TI.gone_none (List.mem_append_left _ hf)) hf he1 (fun b o eb => (TI.gone_some eb).2) rfl hsz1 (TI.gone_none (List.mem_append_right _ (.head _)))
      fun h' T oT ts k1 k2 k3 k4 k5 k6 k7 k8 k9 => q _ (fin _ vs [e] z1 he1 hsz1 (.head _) hX h' T oT ts k1 k2 k3 k4 k5 k6 k7 k8 k9)
theorem Fl.leave {e : Addr} {M : Model} (x : Fl c ((L, m) :: S) H e s) (hr : FramesOf A (S.map (·.1))) (hf : env.frame = some L) (hk : env.scope.kind = .function) {P : Unit → Shared → Prop} (q : ∀ s', Fl c S H e s' → P () s') : wpAny M (A.deeper env) (leaving env (.ref e)) P E s :=
  wpAny_bind (x.note (Here.of hr hf hk) hf fun s' x' => q s' x'.pop)
end
end Mine
end
section
open PySem PySem.W PyProof.Rows PySem.Calls
open PySem.MeetsSeq
set_option maxRecDepth 100000
namespace Mine
section
variable {c : Cx} {A : Around} {E : Value → Shared → Prop} {env : Env} {L : Addr} {S : Stk} {m : Loc} {H : AH} {s : Shared} {Q : Value → AH → Prop}
-- errors, wider
theorem R.monoE {α : Type} {t : Sem α} {E' : Value → Shared → Prop} {Q : α → AH → Prop} (h : R c A t E S H Q) (l : ∀ e s, E e s → E' e s) : R c A t E' S H Q := fun s z => wpAny_mono (h s z) (fun _ _ x => x) l
theorem X.monoE {t : Sem Flow} {E' : Value → Shared → Prop} {Q : Flow → Loc → AH → Prop} (h : X c A E L S m t H Q) (l : ∀ e s, E e s → E' e s) : X c A E' L S m t H Q := fun s z => wpAny_mono (h s z) (fun _ _ x => x) l
theorem CV.monoE {f : Value} {vs : List Value} {E' : Value → Shared → Prop} (h : CV c A E S f vs H Q) (l : ∀ e s, E e s → E' e s) : CV c A E' S f vs H Q := fun xs e s z => wpAny_mono (h xs e s z) (fun _ _ x => x) l
/-- the trap comes out of a call -/
noncomputable def EX (c : Cx) (S : Stk) (QE : AH → Prop) (v : Value) (s : Shared) : Prop := ∃ a H1, v = .ref a ∧ Fl c S H1 a s ∧ QE H1
noncomputable def EXb (c : Cx) (L : Addr) (S : Stk) (QE : AH → Prop) (v : Value) (s : Shared) : Prop := ∃ m, EX c ((L, m) :: S) QE v s
theorem CV.inBody {f : Value} {vs : List Value} {QE : AH → Prop} (h : CV c A (EX c ((L, m) :: S) QE) ((L, m) :: S) f vs H Q) : CV c A (EXb c L S QE) ((L, m) :: S) f vs H Q := h.monoE fun _ _ x => ⟨m, x⟩
theorem CC_topX (C : c.Ok) (f : Addr) (S0 : Stmt) (qual : Str) (pm cdv dV : Value) {n : Nat} {name : Str} {params : Arguments} {body : List Stmt} {d1 : List Expr} {d2 : Option Expr} {d3} {scope : Scope} {d4 : Option Scope} {d5 : Str} {d6 : Pos} {vs : List Value} (dv : List Value) (names : List Str) {Q : Value → AH → Prop} {QE : AH → Prop}
    (hS : S0 = .FunctionDef name params body d1 d2 d3 scope d4 d5 d6) (ho : c.K.lookup f = some (fo S0 qual pm cdv dV)) (hcd : fnFine c.K qual cdv scope names = true) (hr : Room (n + 1) A (S.map (·.1)))
    (hb : Binds c (fnOf name qual params body scope dV .none .none pm none cdv .none) vs names dv) (hn : names.length = vs.length + dv.length)
    (h : ∀ L A', Room n A' (L :: S.map (·.1)) → Here A' (envX qual scope L f cdv []) (L :: S.map (·.1)) → XS c A' (envX qual scope L f cdv []) (EXb c L S QE) L S (names.zip (vs ++ dv.map er)) body H fun fl m H1 => Q (flowVal fl) H1)
    (hk : scope.kind = .function := by rfl) : CC c A (EX c S QE) S (.ref f) vs H Q :=
  CC_topE C f S0 qual pm cdv dV dv names hS ho hcd hr hb hn fun L r => (h L _ r (Here.of hr.2.2.2 rfl hk)).monoE fun v s ⟨m, a, H1, e1, x, q⟩ => by
    subst e1
    exact x.leave hr.2.2.2 rfl hk fun s' x' => ⟨a, H1, rfl, x', q⟩
theorem cls136K : c.K.lookup 136 = some (excClassObj "TrapError" "TrapError" 136 135 [.ref 116] (.ref 116 :: [.type "Exception", .type "BaseException", .type "object"]) true [] [] false none none (some (.ref 120)) none (some (.str "TrapError" 342)) (some (.str "TrapError" 350)) (some (.bool true)) "Exception.__new__") := by kernel_rfl
theorem strKeys_of {es : List DictEntry} (h : es.all (fun e => match e.key with | .str _ _ => true | _ => false) = true) : StrKeys es.toArray := fun e he => by
  have := List.all_eq_true.mp h e (by simpa using he)
  split at this
  · rename_i n t q; exact ⟨n, t, q⟩
  · cases this
theorem ns_of {K : Frag} {h : Heap} (X : K.In h) {a : Addr} {es : List DictEntry} {ep : Nat} (e : K.lookup a = some ⟨.type "dict", none, .dict es.toArray ep, #[]⟩) (hk : es.all (fun e => match e.key with | .str _ _ => true | _ => false) = true) : h.Ns a (fun x => nsFind es.toArray x) :=
  ⟨_, es.toArray, ep, X _ _ e, rfl, strKeys_of hk, fun _ => rfl⟩
theorem tail136 {h : Heap} (X : c.K.In h) : OwnTail h [.type "Exception", .type "BaseException", .type "object"] (.ref 116 :: [.type "Exception", .type "BaseException", .type "object"]) :=
  .own (X 116 _ rfl) (ns_of (a := 115) X rfl (by kernel_rfl)) (by kernel_rfl) .base
theorem w_trap_init (C : c.Ok) {a : Addr} {vs : Array Value} {v1 v2 v3 : Value} (hr : Room 1 A (S.map (·.1))) (ha : H a = some (.raw (excObj none vs)))
    (h : ∀ d, H d = none → Q .none ((H.set a (.raw (excObj (some d) vs))).set d (.ns [("number", v1), ("place", v2), ("module", v3)]))) : CV c A E S (.ref 133) [.ref a, v1, v2, v3] H Q := by
  refine (CC.post (CC_top C 133 (me 18 0) "TrapError.__init__" (.str "moduleyard.errors" 320) (.ref 132) .none [] ["self", "number", "place", "module"] (by rfl) (by kernel_rfl) (by kernel_rfl) hr (Binds.plain4 (fun _ _ _ _ => by rfl)) rfl (fun L E' A' r => ?_))).cv
  refine XS_cons (XE_assign_attr (EV_local (by rfl) (EV_local (by rfl) (SETA_exc0 C ha (by kernel_rfl) fun d hd => Then_next ?_))))
  have hl2 : (setL "place" v2 [("number", v1)]).length < 1000 := by
    have e : (setL "place" v2 [("number", v1)]).length = 2 := by kernel_rfl
    rw [e]; decide
  have hda : d ≠ a := fun q => by rw [q, ha] at hd; cases hd
  refine XS_cons (XE_assign_attr (EV_local (by rfl) (EV_local (by rfl) (SETA_exc1 C AH.set_self ((AH.set_ne hda).trans AH.set_self) (by kernel_rfl) (by simp) (Then_next ?_)))))
  refine XS_cons (XE_assign_attr (EV_local (by rfl) (EV_local (by rfl) (SETA_exc1 C ((AH.set_ne hda.symm).trans AH.set_self) AH.set_self (by kernel_rfl) hl2 (Then_next ?_)))))
  refine XS_nil ⟨_, fun b o hb => ?_, h d hd⟩
  by_cases q : b = d
  · subst q; rw [AH.set_self] at hb ⊢; exact hb
  · rw [AH.set_ne q] at hb
    rw [AH.set_ne q, AH.set_ne q]
    by_cases q2 : b = a
    · subst q2; rw [AH.set_self] at hb ⊢; exact hb
    · rw [AH.set_ne q2] at hb
      rw [AH.set_ne q2, AH.set_ne q]; exact hb
theorem CV_trap (C : c.Ok) {v1 v2 v3 : Value} (hr : Room 2 A (S.map (·.1)))
    (h : ∀ a d T0, H a = none → H d = none → d ≠ a → Q (.ref a) ((H.set a (.raw (excObj (some d) #[.ref T0, .none, .none, .none, .bool false, .none]))).set d (.ns [("number", v1), ("place", v2), ("module", v3)]))) : CV c A E S (.ref 136) [v1, v2, v3] H Q := fun xs ex s z => by
  have X := C.kin.keeps z.keep
  obtain ⟨x, y, u, rfl, e1, e2, e3⟩ := er3 ex
  obtain ⟨hh, g, dr, t, os⟩ := s
  obtain ⟨oI, hI, hIc⟩ : ∃ oI, c.K.lookup 133 = some oI ∧ oI.cls = .type "function" := ⟨_, rfl, rfl⟩
  have z1 := z.pushAny (tk := t) { cls := .type "tuple", data := .seq [x, y, u].toArray }
  have f1 := z.free (Nat.le_succ hh.objs.size)
  have z2 := z1.push (o := { cls := .ref 136, data := .fields #[.ref hh.objs.size, .none, .none, .none, .bool false, .none] }) (ao := .raw (excObj none #[.ref hh.objs.size, .none, .none, .none, .bool false, .none])) (Heap.get?_push_size _ rfl)
  dsimp only at z2
  rw [Heap.size_push] at z2
  refine call_tail F.excBase_Exception (tail136 X) (X _ _ cls136K) (ns_of (a := 135) X rfl (by kernel_rfl)) (fI := 133) (by kernel_rfl) (X _ _ hI) hIc ?_ (by rw [sizeLine_eq]; simp)
  have hw := w_trap_init (A := A.under (.builtin "type.__call__" ⟨.ref 136 :: [x, y, u], []⟩)) (S := S) (E := E) (H := H.set (hh.objs.size + 1) (.raw (excObj none #[.ref hh.objs.size, .none, .none, .none, .bool false, .none]))) (vs := #[.ref hh.objs.size, .none, .none, .none, .bool false, .none]) (Q := fun v H1 => v = .none ∧ ∃ d, H d = none ∧ d ≠ hh.objs.size + 1 ∧ H1 = (H.set (hh.objs.size + 1) (.raw (excObj (some d) #[.ref hh.objs.size, .none, .none, .none, .bool false, .none]))).set d (.ns [("number", v1), ("place", v2), ("module", v3)])) C (a := hh.objs.size + 1) (v1 := v1) (v2 := v2) (v3 := v3) hr.under AH.set_self (fun d hd => ⟨rfl, d, ?_, ?_, ?_⟩)
  · refine wpAny_mono (hw (.ref (hh.objs.size + 1) :: [x, y, u]) (by rw [List.map_cons, ex]; rfl) _ z2) ?_ fun _ _ e => e
    rintro v s' ⟨H1, x1, e4, d, k1, k2, rfl⟩
    exact ⟨er_none e4, _, x1, h _ d _ f1 k1 k2⟩
  · by_cases q : d = hh.objs.size + 1
    · subst q; exact f1
    · rw [AH.set_ne q] at hd; exact hd
  · exact fun q => by rw [q, AH.set_self] at hd; cases hd
  · funext b
    by_cases q : b = d
    · subst q; rw [AH.set_self, AH.set_self]
    · rw [AH.set_ne q, AH.set_ne q]
      by_cases q2 : b = hh.objs.size + 1
      · subst q2; rw [AH.set_self, AH.set_self]
      · rw [AH.set_ne q2, AH.set_ne q2, AH.set_ne q2]
/-- the raising of it -/
theorem XE_raise (C : c.Ok) {e : Expr} {pos : Pos} {Q : Flow → Loc → AH → Prop} (hh : A.handled = none) {QE : AH → Prop} (h : EV c A env (EXb c L S QE) ((L, m) :: S) e H fun v H1 => ∃ a d T0, v = .ref a ∧ H1 a = some (.raw (excObj (some d) #[.ref T0, .none, .none, .none, .bool false, .none])) ∧ H1 d = some (.ns trapM) ∧ QE (H1.del a)) :
    XE c A env (EXb c L S QE) L S m (.Raise (some e) none pos) H Q := fun s z => by
  rw [arm_exec_Raise]
  refine wpAny_bind (wpAny_standAt ?_)
  have fin : ∀ (a d T0 : Addr) H1 s1, St c ((L, m) :: S) H1 s1 → H1 a = some (.raw (excObj (some d) #[.ref T0, .none, .none, .none, .bool false, .none])) → H1 d = some (.ns trapM) → QE (H1.del a) → EXb c L S QE (.ref a) s1 := fun a d T0 H1 s1 x1 k1 k2 k3 => ⟨m, a, _, rfl, Fl.of x1 k1 k2, k3⟩
  unfold raiseStmt
  refine wpAny_bind (wpAny_bind (wpAny_mono (h s z) (fun v s1 ⟨H1, x1, a, d, T0, e1, e2, e3, e4⟩ => ?_) fun _ _ x => x))
  have := er_ref e1; subst this
  refine wpAny_bind (wpAny_standAt (wpAny_pure ?_))
  have hC := (C.kin.keeps x1.keep) _ _ cls136K
  have he : s1.heap.get? a = some (excObj (some d) #[.ref T0, .none, .none, .none, .bool false, .none]) := (x1.ob _ _ e2).2
  have F1 := fin a d T0 H1 s1 x1 e2 e3 e4
  unfold excObj at he
  obtain ⟨hp, g, dr, tk, os⟩ := s1
  have hcB : (Value.ref 136 :: (.ref 116 :: [.type "Exception", .type "BaseException", .type "object"])).contains (.type "BaseException") = true := by decide
  repeat (first | with_reducible refine wpAny_loadPart_at he ?_ | with_reducible refine wpAny_loadPart_at hC ?_ | (with_reducible refine wpAny_isSubtype_exc hC ?_; rw [hcB]) | wp_step)
  exact wpAny_raiseNew_none hh F1
end
end Mine
end
section
open PySem PySem.W PyProof.Rows PySem.Calls
open PySem.MeetsSeq
open PySem.Builtin PySem.Builtin.ObjectAttr
set_option maxRecDepth 100000
namespace Mine
section
variable {c : Cx} {A : Around} {E : Value → Shared → Prop} {env : Env} {L : Addr} {S : Stk} {m : Loc} {H : AH} {s : Shared} {Q : Value → AH → Prop}
theorem tailQ136 {h : Heap} (X : c.K.In h) : OwnTailQ h [.type "Exception", .type "BaseException", .type "object"] (.ref 116 :: [.type "Exception", .type "BaseException", .type "object"]) :=
  .own (X 116 _ rfl) (ns_of (a := 115) X rfl (by kernel_rfl)) (by intro n hn; simp only [quietNames, List.mem_cons, List.not_mem_nil, or_false] at hn; rcases hn with rfl | rfl | rfl | rfl <;> kernel_rfl) .base
/-- a name of the trap object -/
theorem GETA_exc (C0 : c.Ok) {a d : Addr} {vs : Array Value} {m : Loc} {n : Str} {v : Value} (ha : H a = some (.raw (excObj (some d) vs))) (hd : H d = some (.ns m)) (hv : m.lookup n = some v) (hn : findIn c.K (.ref 136) n = some none) (hh : handedIn v = true) (h : Q v H) :
    GETA c A E S (.ref a) n H Q := fun x ex s z => by
  have := er_ref ex; subst this
  have X := C0.kin.keeps z.keep
  obtain ⟨cd, hc, hmro, hdct⟩ := cls136 (c := c)
  have hx : s.heap.get? a = some (excObj (some d) vs) := (z.ob _ _ ha).2
  obtain ⟨_, o, es, ep, g1, g2, g3, g4, g5⟩ := z.ob _ _ hd
  have I : InstAt s.heap a (excObj (some d) vs) 136 (some o) := ⟨hx, rfl, rfl, g1⟩
  have hx' := g5 n
  rw [hv] at hx'
  obtain ⟨u, hu, rfl⟩ := Option.map_eq_some_iff.mp hx'
  have hf : findObj c.K 136 (some o) n = some (.value u) := by
    unfold findObj W.ownOf
    rw [hc, hn]
    simp only [Option.bind_some, hdct, if_true, lookIn_of g2 g3, hu]
  have hC := X _ _ cls136K
  have FB := F.attrBase_Exception
  have L0 := I.type (M := model c.prog c.w)
  have L1 : Looks (model c.prog c.w) s.heap (typeLookup (.ref 136) "__getattribute__") (some (.builtin "BaseException.__getattribute__")) := looks_findIn X (by kernel_rfl)
  have L2 : Looks (model c.prog c.w) s.heap (typeLookup (.ref 136) "__getattr__") none := looks_findIn X (by kernel_rfl)
  have L3 := looks_find (M := model c.prog c.w) X I hf
  have T := tailQ136 X
  obtain ⟨hp, g, dr, tk, os⟩ := s
  have z' : ∀ tk', St c S H ⟨hp, g, dr, tk', os⟩ := fun tk' => z.toks tk'
  clear z
  unfold getAttr getAttrBy
  refine wpAny_bind (wpAny_mkText (wpAny_holding (wpAny_bind (L0.at (wpAny_bind (L1.at ?_))))))
  show wpAny _ _ (getAttrByItsOwn _ _ _ _ _ _) _ _ _
  unfold getAttrByItsOwn hookBefore
  refine wpAny_bind ?_
  show wpAny _ _ (typeLookup (.ref 136) "__getattr__") _ _ _
  refine L2.at (wpAny_bind (wpAny_attempt (wpAny_holding ?_)))
  show wpAny _ _ (boundAndCalled (.builtin "BaseException.__getattribute__") (.ref a) (.str n tk)) _ _ _
  unfold boundAndCalled
  rw [FB.ga.bind]
  refine wpAny_bind (wpAny_pure ?_)
  refine wpAny_call (codeAny_call_builtin FB.ga.plain F.entry_bexc_ga (wpAny_check_ga_own FB hC T hx rfl ?_))
  unfold Builtin.«object.__getattribute__»
  refine wpAny_bind (wpAny_pure (wpAny_bind (wpAny_pure (wpAny_bind (L0.at (wpAny_bind (L3.at ?_)))))))
  refine wpAny_pure ?_
  show wpAny _ _ (handedOut u) _ _ _
  rw [handedOut_of (by cases u <;> first | rfl | exact hh)]
  exact wpAny_pure ⟨H, z' _, h⟩
theorem St.know {a : Addr} {o : Obj} (z : St c S H s) (hg : c.g.objs.size ≤ a) (hS : a ∉ S.map (·.1)) (ho : s.heap.get? a = some o) : St c S (H.set a (.raw o)) s where
  keep := z.keep
  sz := z.sz
  fr := fun p hp => by
    obtain ⟨h1, h2, h3⟩ := z.fr p hp
    exact ⟨h1, (AH.set_ne fun q => hS (List.mem_map.mpr ⟨p, hp, q⟩)).trans h2, h3⟩
  nd := z.nd
  ob := fun b x e => by
    by_cases q : b = a
    · subst q; rw [AH.set_self] at e; cases e; exact ⟨hg, ho⟩
    · rw [AH.set_ne q] at e; exact z.ob b x e
  gens := z.gens
  dr := z.dr
  os := z.os
theorem sub_new2 {H' : AH} {t : Addr} {o : AO} (x : Le H H') : Le (H.set t o) (H'.set t o) := fun b y hb => by
  by_cases q : b = t
  · subst q; rw [AH.set_self] at hb ⊢; exact hb
  · rw [AH.set_ne q] at hb ⊢; exact x b y hb
theorem XE_try (C : c.Ok) {body suite : List Stmt} {b₀ : Stmt} {t : Expr} {n : Str} {hp pos : Pos} {Q : Flow → Loc → AH → Prop} {QE : AH → Prop} (hh : Here A env (L :: S.map (·.1))) (hf : env.frame = some L) (hL : env.locals = L) (hk : env.scope.kind = .function) (hl : env.kindOf n = some .local)
    (h : XS c A env (EXb c L S QE) L S m body H fun fl m' H' => match fl with | .next => Q .next m' H' | f => Q f m' H')
    (ht : ∀ A S H, EV c A env NoE S t H fun v H' => v = .ref 136 ∧ H' = H)
    (hx : ∀ m1 a d vs H1, QE H1 → H1 a = none → H1 d = some (.ns trapM) → XS c (A.mark (some (.ref a))) env NoE L S ((n, .ref a) :: m1) (b₀ :: suite) (H1.set a (.raw (excObj (some d) vs))) fun f m2 H2 => ∃ H3, Le H3 H2 ∧ Q f [] H3) :
    XE c A env E L S m (.Try body [.ExceptHandler (some t) (some n) (b₀ :: suite) hp] [] [] pos) H Q := fun s z => by
  refine wpAny_Try_except (wpAny_mono (h s z) (fun f s1 ⟨m1, H1, x1, h1⟩ => ?_) fun v s1 ⟨m1, a, H1, e1, x1, h1⟩ => ?_)
  · cases f with
    | next => exact wpAny_execs_nil ⟨m1, H1, x1, h1⟩
    | _ => exact ⟨m1, H1, x1, h1⟩
  subst e1
  refine x1.note hh hf fun s3 x3 => ?_
  clear x1
  obtain ⟨z3, hge, hfree, hnS, d, vs, tb, he, hv1, hd, htb⟩ := x3
  have hp1 : (env.scope.kind == .class || (env.scope.kind == .module && env.locals != env.globals)) = false := by rw [hk]; rfl
  -- what the handler's suite meets
  have suiteOk : ∀ s4 H4, St c ((L, m1) :: S) H4 s4 → Le (H1.set a (.raw (excObj (some d) vs))) H4 → wpAny (model c.prog c.w) (A.mark (some (.ref a))) (storeName env n (.ref a)) (fun _ s5 =>
      wpAny (model c.prog c.w) (A.mark (some (.ref a))) (execs (b₀ :: suite) env) (fun f s6 => wpAny (model c.prog c.w) A (do bindName env n .none; unbindBehindTheSuite env n hp) (fun _ s7 => ∃ m' H', St c ((L, m') :: S) H' s7 ∧ Q (erF f) m' H') E s6) NoE s5) NoE s4 := fun s4 H4 z4 l4 => by
    refine wp_noE (store_local (P := fun m' H' => m' = (n, .ref a) :: m1 ∧ H' = H4) ⟨rfl, rfl⟩ hL hk hl z4) ?_
    rintro _ s5 ⟨_, _, z5, rfl, rfl⟩
    refine wp_noE (hx m1 a d vs H1 h1 hfree hd s5 (z5.less l4)) ?_
    rintro f s6 ⟨m2, H2, z6, H3, l3, q⟩
    obtain ⟨_, _, mc, hn, _⟩ := (z6.less l3).fr _ (.head _)
    rw [← hL] at hn
    exact wpAny_nameGoes hl hn hp1 fun h' m' hn' hs => ⟨[], H3, (z6.less l3).frame (hL ▸ hs) (hL ▸ hn') (fun x v hv => by cases hv), q⟩
  have main : ∀ H4, St c ((L, m1) :: S) H4 s3 → Le (H1.set a (.raw (excObj (some d) vs))) H4 → (∀ s5, St c ((L, m1) :: S) H4 s5 → ∀ P : Unit → Shared → Prop, (∀ s6 H6, St c ((L, m1) :: S) H6 s6 → Le (H1.set a (.raw (excObj (some d) vs))) H6 → P () s6) → wpAny (model c.prog c.w) (A.mark (some (.ref a))) (setFlight (.ref a) none) P NoE s5) →
      wpAny (model c.prog c.w) A (handleBy (.ref a) env [.ExceptHandler (some t) (some n) (b₀ :: suite) hp]) (fun fl s' => ∃ m' H', St c ((L, m') :: S) H' s' ∧ Q (erF fl) m' H') E s3 := fun H4 z4 l4 hfl => by
    refine wpAny_handleBy_cons (codeAny_handlers_test (wp_noE (ht _ _ _ s3 z4) ?_)) (by intro q; cases q)
    rintro cv s5 ⟨_, z5, e5, rfl⟩
    have := er_ref e5; subst this
    have hC := (C.kin.keeps z5.keep) _ _ cls136K
    have he5 : s5.heap.get? a = some (excObj (some d) vs) := (z5.ob a (.raw (excObj (some d) vs)) (l4 _ _ AH.set_self)).2
    obtain ⟨hp5, g5, d5, t5, os5⟩ := s5
    refine wpAny_excMatches_sub_self hC he5 rfl (by decide) ?_
    show codeAny _ _ _ _ _
    refine codeAny_handlers_suite_as ?_
    exact wp_noE (hfl _ z5 (fun _ s6 => wpAny (model c.prog c.w) (A.mark (some (.ref a))) (storeName env n (.ref a)) _ NoE s6) fun s6 H6 z6 l6 => suiteOk s6 H6 z6 l6) fun _ s6 q => wp_noE q fun _ s7 q2 => wp_noE q2 fun f s8 q3 => q3
  have za := z3.know hge hnS he
  rcases htb with rfl | ⟨T, oT, ts, rfl, hT1, hT2, hT3, hT4, hT5, hT6, hT7⟩
  · refine main _ za (fun _ _ x => x) fun s5 z5 P hP => ?_
    have he5 : s5.heap.get? a = some (excObj (some d) vs) := (z5.ob _ _ AH.set_self).2
    unfold setFlight
    refine wpAny_bind (wpAny_field he5 rfl hv1 ?_)
    rw [if_neg (by decide)]
    exact wpAny_pure (hP s5 _ z5 fun _ _ x => x)
  · have zT := za.know hT1 hT3 hT5
    have hTa : (H1.set a (.raw (excObj (some d) vs))) T = none := (AH.set_ne hT4).trans hT2
    refine main _ zT (sub_new hTa) fun s5 z5 P hP => ?_
    have he5 : s5.heap.get? a = some (excObj (some d) vs) := (z5.ob a (.raw (excObj (some d) vs)) ((AH.set_ne hT4.symm).trans AH.set_self)).2
    have hT5' : s5.heap.get? T = some oT := (z5.ob T (.raw oT) AH.set_self).2
    unfold setFlight
    refine wpAny_bind (wpAny_field he5 rfl hv1 ?_)
    rw [if_pos (show (Value.ref T != Value.none) = true from by simp)]
    refine wpAny_setField hT5' hT6 (Array.getElem?_eq_some_iff.mp hT7).1 ?_
    have hd3 := Obj.data_mapFields hT6 (·.setIfInBounds 3 ((none : Option Addr).elim Value.none fun f => rawInt f))
    have z6 := z5.upd (tk := s5.toks) (o' := .raw _) AH.set_self (Heap.SameBut.update s5.heap T (Obj.mapFields (·.setIfInBounds 3 ((none : Option Addr).elim Value.none fun f => rawInt f)))) (Heap.get?_update_self _ hT5' (Obj.isFreed_of_fields hd3))
    refine hP _ _ z6 fun b x hb => ?_
    have hbT : b ≠ T := fun q => by rw [q, hTa] at hb; cases hb
    rw [AH.set_ne hbT, AH.set_ne hbT]; exact hb
end
end Mine
end
section
open PySem PySem.W PyProof.Rows PySem.Calls
open PySem.MeetsSeq
set_option maxRecDepth 100000
namespace Mine
section
variable {c : Cx} {A : Around} {E : Value → Shared → Prop} {env : Env} {L : Addr} {S : Stk} {m : Loc} {H : AH} {s : Shared} {Q : Value → AH → Prop}
theorem METH_own (C0 : c.Ok) {C a d f : Addr} {m : Loc} {n : Str} {pos : Pos} {args : List Expr} (K0 : ClsOk c C) (ha : H a = some (.inst C d)) (hd : H d = some (.ns m)) (hv : m.lookup n = none)
    (hf : findIn c.K (.ref C) n = some (some (.ref f))) (ht : typeIn c.K (.ref f) = some (.type "function")) (hk : keepIn c.K (.ref f) = true)
    (h : EVs c A env E S pos args H fun vs H1 => CV c A E S (.ref f) (.ref a :: vs) H1 Q) (hs : starEach args env = args.map fun e => (false, eval e env) := by rfl) :
    METH c A env E S n pos args (.ref a) H Q := fun x pl s ex z => by
  have := er_ref ex; subst this
  obtain ⟨ox, o, es, ep, i1, i2, i3, i4, i5, i6, I⟩ := z.inst ha hd
  have hx := i6 n
  rw [hv] at hx
  have hx := Option.map_eq_none_iff.mp hx
  have X := C0.kin.keeps z.keep
  refine method_fn X I K0.ga K0.noga hf ht (by show (lookIn n o).map _ = _; rw [lookIn_of i3 i4, hx]; rfl) ?_
  exact R_callWith (first := [.ref a]) C0 (Kept.of hk) h hs s z
/-- the value of l < m < r -/
theorem EV_chain {l r1 r2 : Expr} {op1 op2 : CmpOp} {pos : Pos} (h : EV c A env E S l H fun a H1 => EV c A env E S r1 H1 fun b H2 => CMP c A E S op1 a b H2 fun v H3 => TRU c A E S v H3 fun z H4 => if z = true then EV c A env E S r2 H4 fun d H5 => CMP c A E S op2 b d H5 Q else Q v H4)
    (hm : lastMarks [op1, op2] [r1, r2] = false := by with_unfolding_all rfl) : EV c A env E S (.Compare l [op1, op2] [r1, r2] pos) H Q := fun s z => by
  refine Compare_chain (R.run h z (fun a s1 H1 x1 h1 => chain_link (R.run h1 x1 (fun b s2 H2 x2 h2 => R.run (h2 a b rfl rfl) x2 (fun v s3 H3 x3 h3 => R.run (h3 v rfl) x3 (fun t s4 H4 x4 h4 => ?_)))))) hm
  cases t with
  | false => exact ⟨H4, x4, h4⟩
  | true => exact chain_last (R.run h4 x4 (fun d s5 H5 x5 h5 => h5 b d rfl rfl s5 x5))
theorem UN_not {v : Value} (h : TRU c A E S v H fun z H1 => Q (.bool (!z)) H1) : UN c A E S .Not v H Q := fun x ex s z =>
  not_of (R.run (h x ex) z (fun _ _ H1 x1 h1 => ⟨H1, x1, h1⟩))
theorem preSum_of (vc : List (Int × Tok)) : preSum (numAt vc.toArray) vc.toArray.size = (vc.map (·.1)).sum := by
  rw [preSum_eq, List.take_of_length_le (by simp)]
theorem CV_sum {a : Addr} {ns : List Int} (hh : A.handled = none) (ha : H a = some (.list (ns.map fun i => .int i 0))) (hne : S ≠ []) (h : Q (.int ns.sum 0) H) : CV c A E S (.builtin "sum") [.ref a] H Q := fun xs ex s z => by
  replace ex := er1 ex
  obtain ⟨x, rfl, ex⟩ := ex
  have := er_ref ex; subst this
  obtain ⟨vc, n, h1, h2⟩ := z.list ha
  have key : ∀ (l : List Value) (ns : List Int), l.map er = ns.map (fun i => .int i 0) → ∃ ps : List (Int × Tok), l = ps.map (fun p => .int p.1 p.2) ∧ ps.map (·.1) = ns := by
    intro l
    induction l with
    | nil => intro ns e; cases ns with
      | nil => exact ⟨[], rfl, rfl⟩
      | cons _ _ => cases e
    | cons v r ih =>
      intro ns e
      cases ns with
      | nil => cases e
      | cons i ns =>
        rw [List.map_cons, List.map_cons] at e
        obtain ⟨e1, e2⟩ := List.cons.inj e
        obtain ⟨t, rfl⟩ := er_int e1
        obtain ⟨ps, rfl, e3⟩ := ih ns e2
        exact ⟨(i, t) :: ps, rfl, by simp [e3]⟩
  obtain ⟨ps, e1, e2⟩ := key _ _ h2
  have hl : s.heap.IsList a (intItems ps.toArray) := ⟨_, h1, rfl, n, by
    have : vc = intItems ps.toArray := by apply Array.toList_inj.mp; rw [e1]; simp [intItems]
    rw [this]⟩
  refine sum_intListG hh hl fun h' tk t' hk => ⟨H, ?_, ?_⟩
  · refine z.ext (a := s.heap.objs.size) hne (fun b o _ e => hk b o e) z.size (z.free (Nat.le_refl _)) fun p hp q => ?_
    obtain ⟨_, _, mc, h3, _⟩ := z.fr p hp
    exact absurd h3.lt (by rw [q]; exact Nat.lt_irrefl _)
  · show Q (.int _ 0) H
    rw [preSum_of, e2]; exact h
end
end Mine
end
section
open PySem PySem.W PyProof.Rows PySem.Calls
namespace Mine
/-- a word -/
noncomputable def Wd (x : Int) : Prop := 0 ≤ x ∧ x < 4294967296
noncomputable def plus (x : Int) : Int := if 2147483648 ≤ x then x - 4294967296 else x
noncomputable def b2i (b : Bool) : Int := if b then 1 else 0
theorem plus_bd {x : Int} (h : Wd x) : -2147483648 ≤ plus x ∧ plus x < 2147483648 := by
  unfold Wd at h; unfold plus; split <;> omega
theorem and_sign {x : Int} (h : Wd x) : Builtin.bitAnd x 2147483648 = if 2147483648 ≤ x then 2147483648 else 0 := by
  obtain ⟨h0, h1⟩ := h
  rw [bitAnd_pp h0 (by decide)]
  obtain ⟨n, rfl⟩ := Int.eq_ofNat_of_zero_le h0
  have e : ((n : Int).toNat &&& (2147483648 : Int).toNat) = n &&& 2 ^ 31 := rfl
  rw [e]
  have d1 : (n &&& 2 ^ 31) / 2 ^ 31 = n / 2 ^ 31 &&& 2 ^ 31 / 2 ^ 31 := Nat.and_div_two_pow
  have d2 : (n &&& 2 ^ 31) % 2 ^ 31 = n % 2 ^ 31 &&& 2 ^ 31 % 2 ^ 31 := Nat.and_mod_two_pow
  have e1 : 2 ^ 31 / 2 ^ 31 = 1 := rfl
  have e2 : 2 ^ 31 % 2 ^ 31 = 0 := rfl
  rw [e1] at d1
  rw [e2, Nat.and_zero] at d2
  by_cases q : (2147483648 : Int) ≤ n
  · rw [if_pos q]
    have : n / 2 ^ 31 = 1 := by omega
    rw [this] at d1
    have : (1 &&& 1 : Nat) = 1 := rfl
    omega
  · rw [if_neg q]
    have : n / 2 ^ 31 = 0 := by omega
    rw [this] at d1
    have : (0 &&& 1 : Nat) = 0 := rfl
    omega
theorem signed_plus {x : Int} (h : Wd x) : x - 2 * Builtin.bitAnd x 2147483648 = plus x := by
  rw [and_sign h]; unfold plus; split <;> omega
theorem mask_mod (x : Int) : Builtin.bitAnd x 4294967295 = x % 4294967296 := bitAnd_m32 x
theorem wd_mod (x : Int) : Wd (x % 4294967296) := ⟨Int.emod_nonneg _ (by decide), Int.emod_lt_of_pos _ (by decide)⟩
theorem nat_xor : ∀ n m : Nat, (n ^^^ m) + 2 * (n &&& m) = n + m := by
  intro n
  induction n using Nat.strongRecOn with
  | ind n ih =>
    intro m
    by_cases hz : n = 0
    · subst hz; simp
    · have h1 := ih (n / 2) (Nat.div_lt_self (Nat.pos_of_ne_zero hz) (by decide)) (m / 2)
      have a1 : (n &&& m) / 2 = n / 2 &&& m / 2 := Nat.and_div_two
      have a2 : (n ^^^ m) / 2 = n / 2 ^^^ m / 2 := Nat.xor_div_two
      have a3 : (n &&& m) % 2 ^ 1 = n % 2 ^ 1 &&& m % 2 ^ 1 := Nat.and_mod_two_pow
      have a4 : (n ^^^ m) % 2 ^ 1 = n % 2 ^ 1 ^^^ m % 2 ^ 1 := Nat.xor_mod_two_pow
      have a5 : (n ^^^ m) % 2 + 2 * ((n &&& m) % 2) = n % 2 + m % 2 := by
        rw [Nat.pow_one] at a3 a4
        rw [a3, a4]
        rcases Nat.mod_two_eq_zero_or_one n with q | q <;> rcases Nat.mod_two_eq_zero_or_one m with r | r <;> rw [q, r] <;> rfl
      rw [← a1, ← a2] at h1
      clear a1 a2 a3 a4 ih hz
      omega
theorem xor_pp {x y : Int} (hx : 0 ≤ x) (hy : 0 ≤ y) : Builtin.bitXor x y = ((x.toNat ^^^ y.toNat : Nat) : Int) := by
  rw [bitXor_and, bitAnd_pp hx hy]
  obtain ⟨n, rfl⟩ := Int.eq_ofNat_of_zero_le hx
  obtain ⟨m, rfl⟩ := Int.eq_ofNat_of_zero_le hy
  have h1 := nat_xor n m
  show (n : Int) + m - 2 * ((n &&& m : Nat) : Int) = ((n ^^^ m : Nat) : Int)
  omega
theorem or_pp {x y : Int} (hx : 0 ≤ x) (hy : 0 ≤ y) : Builtin.bitOr x y = ((x.toNat ||| y.toNat : Nat) : Int) := by
  unfold Builtin.bitOr Builtin.bitAnd Builtin.bitNot
  obtain ⟨n, rfl⟩ := Int.eq_ofNat_of_zero_le hx
  obtain ⟨m, rfl⟩ := Int.eq_ofNat_of_zero_le hy
  have h1 : ¬ 0 ≤ -(n : Int) - 1 := by omega
  have h2 : ¬ 0 ≤ -(m : Int) - 1 := by omega
  simp only [h1, h2, decide_false]
  have e1 : (-(-(n : Int) - 1) - 1).toNat = n := by omega
  have e2 : (-(-(m : Int) - 1) - 1).toNat = m := by omega
  rw [e1, e2]
  show -(-((n ||| m : Nat) : Int) - 1) - 1 = ((n ||| m : Nat) : Int)
  omega
theorem and_wd {x y : Int} (hx : Wd x) (hy : Wd y) : Wd (Builtin.bitAnd x y) := by
  obtain ⟨h1, h2⟩ := bitAnd_range x hy.1
  exact ⟨h1, by have := hy.2; omega⟩
theorem or_wd {x y : Int} (hx : Wd x) (hy : Wd y) : Wd (Builtin.bitOr x y) := by
  rw [or_pp hx.1 hy.1]
  obtain ⟨h1, h2⟩ := hx
  obtain ⟨h3, h4⟩ := hy
  have := Nat.or_lt_two_pow (x := x.toNat) (y := y.toNat) (n := 32) (by omega) (by omega)
  unfold Wd; omega
theorem xor_wd {x y : Int} (hx : Wd x) (hy : Wd y) : Wd (Builtin.bitXor x y) := by
  rw [xor_pp hx.1 hy.1]
  obtain ⟨h1, h2⟩ := hx
  obtain ⟨h3, h4⟩ := hy
  have := Nat.xor_lt_two_pow (x := x.toNat) (y := y.toNat) (n := 32) (by omega) (by omega)
  unfold Wd; omega
theorem xor_mask {y : Int} (hy : Wd y) : Builtin.bitXor y 4294967295 = 4294967295 - y := by
  rw [bitXor_and, mask_mod]; unfold Wd at hy; omega
/-- the sign that turns -/
theorem over_bit {x y r : Int} (hx : Wd x) (hy : Wd y) (hr : Wd r) : Builtin.bitAnd (Builtin.bitXor x r) (Builtin.bitXor y r) / 2147483648 = if (x / 2147483648 ≠ r / 2147483648 ∧ y / 2147483648 ≠ r / 2147483648) then 1 else 0 := by
  have w1 := xor_wd hx hr
  have w2 := xor_wd hy hr
  rw [bitAnd_pp w1.1 w2.1, xor_pp hx.1 hr.1, xor_pp hy.1 hr.1]
  obtain ⟨hx0, hx1⟩ := hx
  obtain ⟨hy0, hy1⟩ := hy
  obtain ⟨hr0, hr1⟩ := hr
  obtain ⟨p, rfl⟩ := Int.eq_ofNat_of_zero_le hx0
  obtain ⟨q, rfl⟩ := Int.eq_ofNat_of_zero_le hy0
  obtain ⟨k, rfl⟩ := Int.eq_ofNat_of_zero_le hr0
  show ((((p ^^^ k) &&& (q ^^^ k) : Nat)) : Int) / 2147483648 = _
  have d1 : ((p ^^^ k) &&& (q ^^^ k)) / 2 ^ 31 = (p / 2 ^ 31 ^^^ k / 2 ^ 31) &&& (q / 2 ^ 31 ^^^ k / 2 ^ 31) := by
    rw [Nat.and_div_two_pow, Nat.xor_div_two_pow, Nat.xor_div_two_pow]
  have b1 : p / 2 ^ 31 = 0 ∨ p / 2 ^ 31 = 1 := by omega
  have b2 : q / 2 ^ 31 = 0 ∨ q / 2 ^ 31 = 1 := by omega
  have b3 : k / 2 ^ 31 = 0 ∨ k / 2 ^ 31 = 1 := by omega
  have c1 : (p : Int) / 2147483648 = ((p / 2 ^ 31 : Nat) : Int) := by omega
  have c2 : (q : Int) / 2147483648 = ((q / 2 ^ 31 : Nat) : Int) := by omega
  have c3 : (k : Int) / 2147483648 = ((k / 2 ^ 31 : Nat) : Int) := by omega
  have c4 : ((((p ^^^ k) &&& (q ^^^ k) : Nat)) : Int) / 2147483648 = (((((p ^^^ k) &&& (q ^^^ k)) / 2 ^ 31 : Nat)) : Int) := by omega
  rw [c4, c1, c2, c3, d1]
  rcases b1 with b1 | b1 <;> rcases b2 with b2 | b2 <;> rcases b3 with b3 | b3 <;> rw [b1, b2, b3] <;> decide
theorem plus_div {x : Int} (h : Wd x) : plus x = x - 4294967296 * (x / 2147483648) := by
  obtain ⟨h0, h1⟩ := h
  unfold plus; split <;> omega
theorem ite_b2i {p q : Prop} [Decidable p] [Decidable q] (h : p ↔ ¬ q) : (if p then (1 : Int) else 0) = b2i (!decide q) := by
  by_cases hq : q
  · rw [if_neg (fun a => h.mp a hq), decide_eq_true hq]; rfl
  · rw [if_pos (h.mpr hq), decide_eq_false hq]; rfl
theorem over_add {x y : Int} (hx : Wd x) (hy : Wd y) : Builtin.bitAnd (Builtin.bitXor x ((x + y) % 4294967296)) (Builtin.bitXor y ((x + y) % 4294967296)) / 2147483648 = b2i (!decide (-2147483648 ≤ plus x + plus y ∧ plus x + plus y < 2147483648)) := by
  rw [over_bit hx hy (wd_mod _), plus_div hx, plus_div hy]
  obtain ⟨h0, h1⟩ := hx
  obtain ⟨h2, h3⟩ := hy
  exact ite_b2i (by omega)
theorem over_sub {x y : Int} (hx : Wd x) (hy : Wd y) : Builtin.bitAnd (Builtin.bitXor x y) (Builtin.bitXor x ((x - y) % 4294967296)) / 2147483648 = b2i (!decide (-2147483648 ≤ plus x - plus y ∧ plus x - plus y < 2147483648)) := by
  have e0 : ∀ a b, Builtin.bitXor a b = Builtin.bitXor b a := fun a b => by rw [bitXor_and, bitXor_and, bitAnd_comm, Int.add_comm]
  rw [e0 x y, e0 x, over_bit hy (wd_mod _) hx, plus_div hx, plus_div hy]
  obtain ⟨h0, h1⟩ := hx
  obtain ⟨h2, h3⟩ := hy
  exact ite_b2i (by omega)
theorem over_mul {p : Int} : (if plus (p % 4294967296) = p then (0 : Int) else 1) = b2i (!decide (-2147483648 ≤ p ∧ p < 2147483648)) := by
  unfold b2i plus
  by_cases h : -2147483648 ≤ p ∧ p < 2147483648
  · rw [if_pos (by split <;> omega), decide_eq_true h]; rfl
  · rw [if_neg (by split <;> omega), decide_eq_false h]; rfl
theorem count_bd (y : Int) : 0 ≤ y % 32 ∧ y % 32 < 32 := ⟨Int.emod_nonneg _ (by decide), Int.emod_lt_of_pos _ (by decide)⟩
/-- the two halves of a turned word share no bit -/
theorem rot_or {x : Int} (hx : Wd x) {k : Nat} (hk : k ≤ 32) : Builtin.bitOr (x / 2 ^ k) (x * 2 ^ (32 - k)) = x / 2 ^ k + x * 2 ^ (32 - k) := by
  obtain ⟨h0, h1⟩ := hx
  obtain ⟨n, rfl⟩ := Int.eq_ofNat_of_zero_le h0
  have e1 : (n : Int) / 2 ^ k = ((n / 2 ^ k : Nat) : Int) := by push_cast; rfl
  have e2 : (n : Int) * 2 ^ (32 - k) = ((n * 2 ^ (32 - k) : Nat) : Int) := by push_cast; rfl
  rw [e1, e2, or_pp (Int.natCast_nonneg _) (Int.natCast_nonneg _)]
  show ((n / 2 ^ k ||| n * 2 ^ (32 - k) : Nat) : Int) = _
  have hlt : n / 2 ^ k < 2 ^ (32 - k) := by
    rw [Nat.div_lt_iff_lt_mul (Nat.two_pow_pos k), ← Nat.pow_add]
    have : 32 - k + k = 32 := by omega
    rw [this]; omega
  have := Nat.two_pow_add_eq_or_of_lt hlt n
  rw [Nat.or_comm, Nat.mul_comm n, ← this]
  push_cast; omega
inductive Op where
  | MOV | LSL | ASR | ROR | AND | ANN | IOR | XOR | ADD | SUB | MUL | DIV
noncomputable def Op.nm : Op → Str
  | .MOV => "MOV" | .LSL => "LSL" | .ASR => "ASR" | .ROR => "ROR" | .AND => "AND" | .ANN => "ANN" | .IOR => "IOR" | .XOR => "XOR" | .ADD => "ADD" | .SUB => "SUB" | .MUL => "MUL" | .DIV => "DIV"
/-- what the law's own unit finds, ahead of the last remainder -/
noncomputable def found (o : Op) (x y : Int) : Int := match o with
  | .MOV => y
  | .LSL => x * 2 ^ (y % 32).toNat
  | .ASR => plus x / 2 ^ (y % 32).toNat
  | .ROR => x / 2 ^ (y % 32).toNat + x * 2 ^ (32 - y % 32).toNat
  | .AND => Builtin.bitAnd x y
  | .ANN => Builtin.bitAnd x (4294967295 - y)
  | .IOR => Builtin.bitOr x y
  | .XOR => Builtin.bitXor x y
  | .ADD => x + y
  | .SUB => x - y
  | .MUL => plus x * plus y
  | .DIV => plus x / plus y
noncomputable def res (o : Op) (x y : Int) : Int := found o x y % 4294967296
noncomputable def carry (o : Op) (x y : Int) : Bool := match o with
  | .ADD => decide (4294967296 ≤ x + y)
  | .SUB => decide (x < y)
  | _ => false
noncomputable def over (o : Op) (x y : Int) : Bool := match o with
  | .ADD => !decide (-2147483648 ≤ plus x + plus y ∧ plus x + plus y < 2147483648)
  | .SUB => !decide (-2147483648 ≤ plus x - plus y ∧ plus x - plus y < 2147483648)
  | .MUL => !decide (-2147483648 ≤ plus x * plus y ∧ plus x * plus y < 2147483648)
  | _ => false
noncomputable def high (o : Op) (x y : Int) : Option Int := match o with
  | .MUL => some (plus x * plus y / 4294967296 % 4294967296)
  | .DIV => some (plus x % plus y)
  | _ => none
theorem res_wd (o : Op) (x y : Int) : Wd (res o x y) := wd_mod _
theorem high_wd {o : Op} {x y k : Int} (hx : Wd x) (hy : Wd y) (hd : o = .DIV → 0 < plus y) (h : high o x y = some k) : Wd k := by
  cases o <;> simp only [high, Option.some.injEq, reduceCtorEq] at h
  · subst h; exact wd_mod _
  · subst h
    have h1 := hd rfl
    have h2 := plus_bd hy
    exact ⟨Int.emod_nonneg _ (by omega), by have := Int.emod_lt_of_pos (plus x) h1; omega⟩
noncomputable def hiV (o : Op) (x y : Int) : Value := match high o x y with
  | some k => .int k 0
  | none => .none
theorem SubL.nil {m : Loc} : SubL [] m := fun x v h => by cases h
theorem SubL.push {m' m : Loc} {x : Str} {v : Value} (h : m.lookup x = some v) (l : SubL m' m) : SubL ((x, v) :: m') m := fun y u hy => by
  by_cases q : y = x
  · subst q
    rw [List.lookup_cons, beq_self_eq_true] at hy
    rw [h]; exact hy
  · rw [List.lookup_cons, beq_eq_false_iff_ne.mpr q] at hy
    exact l y u hy
noncomputable def bodyOf : Stmt → List Stmt
  | .FunctionDef _ _ b .. => b
  | _ => []
noncomputable def scopeOf : Stmt → Scope
  | .FunctionDef _ _ _ _ _ _ s .. => s
  | _ => default
end Mine
end
section
open PySem PySem.W PyProof.Rows PySem.Calls
open PySem.MeetsSeq
set_option maxHeartbeats 0
set_option compiler.extract_closed false
namespace Mine
local macro_rules | `(tactic| walk_at "room") => `(tactic| first | assumption | exact Room.less (by assumption) (by decide))
local macro_rules | `(tactic| walk_at "gl") => `(tactic| with_reducible first | exact g_MASK | exact g_SIGN | exact g_LINK | exact g_WORD_cpu | exact g_WORD_memory)
local macro_rules | `(tactic| walk_at "glf") => `(tactic| with_reducible first | exact g_to_signed | exact g_flagged | exact g_add | exact g_sub | exact g_mul | exact g_div | exact g_shift_left | exact g_shift_arith | exact g_rotate | exact g_bitwise | exact g_operate | exact g_condition_number | exact g_holds | exact g_TrapError | exact g_Cpu | exact g_register_names | exact g_Memory | exact g_law_row | exact g_law_next | exact g_law_word | exact g_law_holds | exact g_law_plus | exact g_law_act | exact g_law_got | exact g_law_step | exact g_law_made)
local macro_rules | `(tactic| walk_at "glb") => `(tactic| with_reducible first | exact b_divmod | exact b_len | exact b_sum | exact b_list | exact b_range)
local macro_rules | `(tactic| walk_at "num") => `(tactic| first | decide | omega)
local macro_rules | `(tactic| walk_at "ne") => `(tactic| first | assumption | (apply Ne.symm; assumption) | decide)
local macro_rules | `(tactic| walk_at "ob") => `(tactic| first | assumption | exact AH.set_self | (refine (AH.set_ne ?_).trans ?_; (walk_at "ne"); (walk_at "ob")))
local macro_rules | `(tactic| walk_at "cp") => `(tactic| with_reducible first | exact CP_Cpu | exact CP_Memory)
local macro_rules | `(tactic| walk_at "get") => `(tactic| ((with_reducible refine' GETA_ns ?C ?K ?ha ?hd ?hv ?hn ?hh ?h); (case C => assumption); (case ha => walk_at "ob"); (case K => walk_at "cp"); (case hd => walk_at "ob"); (case hv | hh => rfl); (case hn => kernel_rfl)))
local macro_rules | `(tactic| walk_at "met") => `(tactic| ((with_reducible refine' METH_own ?C ?K ?ha ?hd ?hv ?hf ?ht ?hk ?h ?hs); (case C => assumption); (case ha => walk_at "ob"); (case K => walk_at "cp"); (case hd => walk_at "ob"); (case hv | ht | hk => kernel_rfl); (case hf | hs => rfl)))
local macro_rules | `(tactic| walk_at "ev") => `(tactic| first
  | ((with_reducible refine' EV_local ?hx ?h ?hL ?hk ?hl ?hd); (case hx | hL | hk => rfl); (case hl | hd => kernel_rfl))
  | with_reducible first | refine EV_int ?_ | refine EV_str ?_ | refine EV_bool ?_ | refine EV_none ?_ | refine EV_BinOp ?_ | refine EV_UnaryOp ?_ | refine EV_IfExp ?_ | refine EV_tuple ?_ | refine EV_list ?_
  | ((with_reducible refine EV_Compare ?_ ?hb); (case hb => rfl))
  | ((with_reducible refine EV_Attribute ?_ ?he); (case he => with_unfolding_all rfl))
  | ((with_reducible refine' EV_callg ?C ?g ?h ?hs ?hg ?hk ?hl ?hd); (case C => assumption); (case g => walk_at "glf"); (case hs | hg | hk => rfl); (case hl | hd => kernel_rfl))
  | ((with_reducible refine' EV_callb ?C ?g ?h ?hs ?hg ?hb ?hk ?hl ?hd); (case C => assumption); (case g => walk_at "glb"); (case hs | hg | hb | hk => rfl); (case hl | hd => kernel_rfl))
  | ((fail_if_success (with_reducible show EV _ _ _ _ _ (Expr.Subscript _ (Expr.Slice _ _ _ _) _) _ _)); (with_reducible refine EV_Subscript ?_)) | ((with_reducible refine' EV_Call_method ?_ ?he); (case he => rfl))
  | ((with_reducible refine' EV_gl ?C ?g ?h ?hg ?hk ?hl ?hd); (case C => assumption); (case g => walk_at "gl"); (case hg | hk => rfl); (case hl | hd => kernel_rfl))
  | ((with_reducible refine' EV_cell ?hc ?ha ?h ?hk ?hl ?hd); (case hc | hk => rfl); (case ha => walk_at "ob"); (case hl => kernel_rfl!); (case hd => kernel_rfl))
  | with_reducible refine EV_Or ?_ | ((with_reducible refine EV_chain ?_ ?hm); (case hm => with_unfolding_all rfl)))
local macro_rules | `(tactic| walk_at "bin") => `(tactic| first
  | with_reducible first | refine BIN_add ?_ | refine BIN_sub ?_ | refine BIN_and ?_ | refine BIN_or ?_ | refine BIN_xor ?_
  | ((with_reducible first | refine B_mul ?a ?_ | refine B_div ?a ?_ | refine B_mod ?a ?_ | refine B_shr ?a ?_ | refine B_shl ?a ?_ | refine B_pow ?a ?_); (case a => walk_at "num")))
local macro_rules | `(tactic| walk_at "cmp") => `(tactic| first
  | with_reducible first | refine CMP_eqs ?_ | refine CMP_eq ?_ | refine CMP_ne ?_ | refine CMP_lt ?_ | refine CMP_le ?_ | refine CMP_gt ?_ | refine CMP_ge ?_
  | ((with_reducible first | refine CMP_is_none ?a ?_ | refine CMP_isnot_none ?a ?_); (case a => rfl))
  | ((with_reducible refine CMP_in_names ?a ?_); (case a => walk_at "ob")))
local macro_rules | `(tactic| walk_at "un") => `(tactic| with_reducible first | refine UN_neg ?_ | refine UN_not ?_ | refine TRU_bool ?_ | refine TRU_int ?_ | refine INP_add ?_)
local macro_rules | `(tactic| walk_at "tst") => `(tactic| first
  | ((with_reducible refine TST_Compare ?_ ?hb); (case hb => rfl)) | with_reducible first | refine TST_Not ?_ | refine TST_And ?_ | refine TST_Or ?_
  | ((with_reducible refine TST_chain ?_ ?hb); (case hb => with_unfolding_all rfl)) | ((with_reducible refine TST_val ?_ ?hb); (case hb => rfl)))
local macro_rules | `(tactic| walk_at "xs") => `(tactic| first
  | with_reducible first | refine XE_ret ?_ | refine XE_ret0 ?_ | refine XE_if ?_
  | ((with_reducible refine XE_assign ?h ?hL ?hk ?hl ?hs); (case hL | hk | hs => rfl); (case hl => kernel_rfl!))
  | ((with_reducible refine XE_expr ?_ ?hi ?hs); (case hi | hs => rfl)) | ((with_reducible first | refine XE_assign_attr ?_ ?hs | refine XE_assign_item ?_ ?hs); (case hs => rfl))
  | ((with_reducible refine XE_assign_tuple ?hh ?h ?hs ?hw ?he ?hl ?hst); (case hh => exact Room.noh (by assumption)); (case hs | hw | he | hl | hst => rfl))
  | with_reducible refine XE_aug_attr ?_ | ((with_reducible refine XE_aug_item ?_ ?hs); (case hs => (intros; rfl))) | ((with_reducible refine XE_raise ?C ?hh ?h); (case C => assumption); (case hh => exact Room.noh (by assumption))) | with_reducible first | refine XE_break ?_ | refine XE_pass ?_)
local macro_rules | `(tactic| walk_at "br") => `(tactic| first | ((with_reducible refine ite_yes ?a ?_); (case a => first | kernel_rfl! | exact decide_eq_true (by first | assumption | omega))) | ((with_reducible refine ite_no ?a ?_); (case a => first | kernel_rfl! | exact decide_eq_false (by first | assumption | omega))))
local macro_rules | `(tactic| walk_at "asg") => `(tactic| first | with_reducible refine ASGS_nil ?_ | with_reducible refine ASGS_cons ?_ | ((with_reducible refine ASG_local ?_ ?hL ?hk ?hl); (case hL => rfl); (case hk => rfl); (case hl => kernel_rfl)) | with_reducible refine ASG_attr ?_ | with_reducible refine ASG_item ?_)
local macro_rules | `(tactic| walk_at "evs") => `(tactic| first | with_reducible refine EVs_nil ?_ | ((with_reducible refine EVs_cons ?_ ?he); (case he => rfl)))
local macro_rules | `(tactic| walk_at "s") => `(tactic| first
  | ((with_reducible show EV _ _ _ _ _ _ _ _); walk_at "ev")
  | ((with_reducible show BIN _ _ _ _ _ _ _ _ _); walk_at "bin")
  | ((with_reducible show EVs _ _ _ _ _ _ _ _ _); walk_at "evs")
  | with_reducible first | refine XS_nil ?_ | refine XS_cons ?_ | refine Then_next ?_ | refine Then_ret ?_ | refine Then_brk ?_
  | walk_at "xs"
  | ((with_reducible show TST _ _ _ _ _ _ _ _); walk_at "tst")
  | ((with_reducible show CMP _ _ _ _ _ _ _ _ _); walk_at "cmp")
  | ((with_reducible show TRU _ _ _ _ _ _ _); walk_at "un")
  | walk_at "br"
  | ((with_reducible show SUB _ _ _ _ _ _ _ _ _ _); ((with_reducible refine' SUB_tuple ?ha ?h0 ?hi ?hv ?h ?hs); (case ha => walk_at "ob"); (case h0 => decide); (case hi => decide); (case hv => rfl); (case hs => (intro _; with_unfolding_all rfl))))
  | ((with_reducible show GETA _ _ _ _ _ _ _ _); walk_at "get")
  | ((with_reducible show METH _ _ _ _ _ _ _ _ _ _ _); walk_at "met")
  | ((with_reducible show ASG _ _ _ _ _ _ _ _ _ _ _); walk_at "asg")
  | ((with_reducible show ASGS _ _ _ _ _ _ _ _ _ _ _); walk_at "asg")
  | ((with_reducible show UN _ _ _ _ _ _ _ _); walk_at "un")
  | ((with_reducible show INP _ _ _ _ _ _ _ _ _); walk_at "un"))
local macro_rules | `(tactic| walk_at "w") => `(tactic| repeat walk_at "s")
local macro_rules | `(tactic| walk_at "sub") => `(tactic| ((repeat (refine SubL.push ?_ ?_; focus rfl)); exact SubL.nil))
section
variable {c : Cx} {A : Around} {E : Value → Shared → Prop} {env : Env} {L : Addr} {S : Stk} {m : Loc} {H : AH} {s : Shared} {Q : Value → AH → Prop}
theorem kp_binds' {K : Frag} {s : Shared} {fd : FuncData} {args : Args} {binds : List (Str × Value)} (X : K.In s.heap) (e : ∀ S, peek K S (bindArgs fd args) = some binds) : BindsTo s fd args binds :=
  fun M _ _ _ q => (Looks.of_peek (M := M) X (e _)).here q
theorem Binds.plain4e (C : c.Ok) {fd : FuncData} {u1 u2 u3 u4 : Value} {names : List Str} (h : ∀ a b e f, ∀ S, peek c.K S (bindArgs fd ⟨[a, b, e, f], []⟩) = some (names.zip ([a, b, e, f]))) : Binds c fd [u1, u2, u3, u4] names [] := fun xs e s H S z => by
  match xs, e with | [a, b, e, f], _ => exact kp_binds' (C.kin.keeps z.keep) (h a b e f)
theorem Binds.plain4d (C : c.Ok) {fd : FuncData} {u1 u2 u3 : Value} {names : List Str} {d : Value} (h : ∀ a b e, ∀ S, peek c.K S (bindArgs fd ⟨[a, b, e], []⟩) = some (names.zip ([a, b, e] ++ [d]))) : Binds c fd [u1, u2, u3] names [d] := fun xs e s H S z => by
  match xs, e with | [a, b, e], _ => exact kp_binds' (C.kin.keeps z.keep) (h a b e)
/-- what a function of the unit gives -/
noncomputable def outT (r c v : Int) (h : Value) : AO := .tuple [.int r 0, .int (r / 2 ^ 31) 0, .int (if r = 0 then 1 else 0) 0, .int c 0, .int v 0, h]
theorem w_to_signed (C : c.Ok) (hr : Room 1 A (S.map (·.1))) {x : Int} (h : Q (.int (x - 2 * (Builtin.bitAnd x 2147483648)) 0) H) : CV c A E S (.ref 21) [.int x 0] H Q := by
  refine (CC_top C 21 (st 3) "to_signed" (.str "moduleyard.alu" 187) (.ref 20) .none [] ["x"] (by rfl) (by kernel_rfl) (by kernel_rfl) hr (Binds.plain1 (fun _ => by rfl)) rfl (fun L E' A' r => ?_)).cv
  walk_at "w"
  exact h
theorem w_flagged4 (C : c.Ok) (hr : Room 1 A (S.map (·.1))) {x cc v k : Int} (h : ∀ t, H t = none → Q (.ref t) (H.set t (outT x cc v (.int k 0)))) : CV c A E S (.ref 29) [.int x 0, .int cc 0, .int v 0, .int k 0] H Q := by
  refine (CC_top C 29 (st 4) "flagged" (.str "moduleyard.alu" 187) (.ref 28) (.ref 22) [] ["result", "c", "v", "h"] (by rfl) (by kernel_rfl) (by kernel_rfl) hr (Binds.plain4e C (fun a b e f S => by kernel_rfl)) rfl (fun L E' A' r => ?_)).cv
  unfold outT at h
  by_cases hz : x = 0
  · walk_at "w"
    refine ⟨by simp, fun t ht => ?_⟩
    walk_at "w"
    rw [if_pos hz] at h
    exact h t ht
  · walk_at "w"
    refine ⟨by simp, fun t ht => ?_⟩
    walk_at "w"
    rw [if_neg hz] at h
    exact h t ht
theorem w_flagged3 (C : c.Ok) (hr : Room 1 A (S.map (·.1))) {x cc v : Int} (h : ∀ t, H t = none → Q (.ref t) (H.set t (outT x cc v .none))) : CV c A E S (.ref 29) [.int x 0, .int cc 0, .int v 0] H Q := by
  refine (CC_top C 29 (st 4) "flagged" (.str "moduleyard.alu" 187) (.ref 28) (.ref 22) [.none] ["result", "c", "v", "h"] (by rfl) (by kernel_rfl) (by kernel_rfl) hr (Binds.plain4d C (fun a b e S => by kernel_rfl)) rfl (fun L E' A' r => ?_)).cv
  unfold outT at h
  by_cases hz : x = 0
  · walk_at "w"
    refine ⟨by simp, fun t ht => ?_⟩
    walk_at "w"
    rw [if_pos hz] at h
    exact h t ht
  · walk_at "w"
    refine ⟨by simp, fun t ht => ?_⟩
    walk_at "w"
    rw [if_neg hz] at h
    exact h t ht
theorem w_add (C : c.Ok) (hr : Room 2 A (S.map (·.1))) {x y : Int} (h : ∀ t, H t = none → Q (.ref t) (H.set t (outT (Builtin.bitAnd (x + y) 4294967295) ((x + y) / 2 ^ 32) (Builtin.bitAnd (Builtin.bitXor x (Builtin.bitAnd (x + y) 4294967295)) (Builtin.bitXor y (Builtin.bitAnd (x + y) 4294967295)) / 2 ^ 31) .none))) : CV c A E S (.ref 36) [.int x 0, .int y 0] H Q := by
  refine (CC_top C 36 (st 5) "add" (.str "moduleyard.alu" 187) (.ref 35) .none [] ["x", "y"] (by rfl) (by kernel_rfl) (by kernel_rfl) hr (Binds.plain2 (fun _ _ => by rfl)) rfl (fun L E' A' r => ?_)).cv
  walk_at "w"
  refine w_flagged3 C r fun t ht => ?_
  walk_at "w"
  exact h t ht
theorem w_sub (C : c.Ok) (hr : Room 2 A (S.map (·.1))) {x y : Int} (h : ∀ t, H t = none → Q (.ref t) (H.set t (outT (Builtin.bitAnd (x - y) 4294967295) (if x < y then 1 else 0) (Builtin.bitAnd (Builtin.bitXor x y) (Builtin.bitXor x (Builtin.bitAnd (x - y) 4294967295)) / 2 ^ 31) .none))) : CV c A E S (.ref 43) [.int x 0, .int y 0] H Q := by
  refine (CC_top C 43 (st 6) "sub" (.str "moduleyard.alu" 187) (.ref 42) .none [] ["x", "y"] (by rfl) (by kernel_rfl) (by kernel_rfl) hr (Binds.plain2 (fun _ _ => by rfl)) rfl (fun L E' A' r => ?_)).cv
  by_cases hz : x < y
  · walk_at "w"
    refine w_flagged3 C r fun t ht => ?_
    walk_at "w"
    rw [if_pos hz] at h
    exact h t ht
  · walk_at "w"
    refine w_flagged3 C r fun t ht => ?_
    walk_at "w"
    rw [if_neg hz] at h
    exact h t ht
end
section
variable {c : Cx} {A : Around} {E : Value → Shared → Prop} {env : Env} {L : Addr} {S : Stk} {m : Loc} {H : AH} {s : Shared} {Q : Value → AH → Prop}
theorem w_signed (C : c.Ok) (hr : Room 1 A (S.map (·.1))) {x : Int} (hx : Wd x) (h : Q (.int (plus x) 0) H) : CV c A E S (.ref 21) [.int x 0] H Q :=
  w_to_signed C hr (by rw [signed_plus hx]; exact h)
theorem outT_eq {r c v r' c' v' : Int} {k : Value} (h1 : r = r') (h2 : c = c') (h3 : v = v') : outT r c v k = outT r' c' v' k := by rw [h1, h2, h3]
theorem w_mul (C : c.Ok) (hr : Room 2 A (S.map (·.1))) {x y : Int} (hx : Wd x) (hy : Wd y) (h : ∀ t, H t = none → Q (.ref t) (H.set t (outT (res .MUL x y) 0 (b2i (over .MUL x y)) (hiV .MUL x y)))) : CV c A E S (.ref 50) [.int x 0, .int y 0] H Q := by
  refine (CC_top C 50 (st 7) "mul" (.str "moduleyard.alu" 187) (.ref 49) .none [] ["x", "y"] (by rfl) (by kernel_rfl) (by kernel_rfl) hr (Binds.plain2 (fun _ _ => by rfl)) rfl (fun L E' A' r => ?_)).cv
  have px := plus_bd hx
  have py := plus_bd hy
  walk_at "w"
  refine w_signed C (by walk_at "room") hx ?_
  walk_at "w"
  refine w_signed C (by walk_at "room") hy ?_
  walk_at "w"
  rw [mask_mod]
  refine w_signed C (by walk_at "room") (wd_mod _) ?_
  walk_at "w"
  have ho : _ = b2i (over .MUL x y) := over_mul (p := plus x * plus y)
  by_cases hz : plus (plus x * plus y % 4294967296) = plus x * plus y
  · rw [if_pos hz] at ho
    rw [← ho] at h
    walk_at "w"
    rw [mask_mod]
    refine w_flagged4 C r fun t ht => ?_
    walk_at "w"
    exact h t ht
  · rw [if_neg hz] at ho
    rw [← ho] at h
    walk_at "w"
    rw [mask_mod]
    refine w_flagged4 C r fun t ht => ?_
    walk_at "w"
    exact h t ht
theorem w_div0 (C : c.Ok) (hr : Room 2 A (S.map (·.1))) {x y : Int} (hx : Wd x) (hy : Wd y) (hd : plus y ≤ 0) (h : Q .none H) : CV c A E S (.ref 57) [.int x 0, .int y 0] H Q := by
  refine (CC_top C 57 (st 8) "div" (.str "moduleyard.alu" 187) (.ref 56) .none [] ["x", "y"] (by rfl) (by kernel_rfl) (by kernel_rfl) hr (Binds.plain2 (fun _ _ => by rfl)) rfl (fun L E' A' r => ?_)).cv
  walk_at "w"
  refine w_signed C (by walk_at "room") hy ?_
  walk_at "w"
  exact h
theorem w_div (C : c.Ok) (hr : Room 2 A (S.map (·.1))) {x y : Int} (hx : Wd x) (hy : Wd y) (hd : 0 < plus y) (h : ∀ t, H t = none → Q (.ref t) (H.set t (outT (res .DIV x y) 0 0 (hiV .DIV x y)))) : CV c A E S (.ref 57) [.int x 0, .int y 0] H Q := by
  refine (CC_top C 57 (st 8) "div" (.str "moduleyard.alu" 187) (.ref 56) .none [] ["x", "y"] (by rfl) (by kernel_rfl) (by kernel_rfl) hr (Binds.plain2 (fun _ _ => by rfl)) rfl (fun L E' A' r => ?_)).cv
  have px := plus_bd hx
  have py := plus_bd hy
  walk_at "w"
  refine w_signed C (by walk_at "room") hy ?_
  walk_at "w"
  refine w_signed C (by walk_at "room") hx ?_
  walk_at "w"
  refine CV_divmod ⟨hd, by omega⟩ fun t ht => ?_
  refine ⟨_, _, rfl, .inl AH.set_self, rfl, ?_⟩
  walk_at "w"
  rw [mask_mod]
  refine CV.less (w_flagged4 C r fun u hu => ?_) (sub_new ht)
  walk_at "w"
  exact h u hu
theorem w_lsl (C : c.Ok) (hr : Room 2 A (S.map (·.1))) {x y : Int} (hx : Wd x) (hy : Wd y) (h : ∀ t, H t = none → Q (.ref t) (H.set t (outT (res .LSL x y) 0 0 .none))) : CV c A E S (.ref 64) [.int x 0, .int y 0] H Q := by
  refine (CC_top C 64 (st 9) "shift_left" (.str "moduleyard.alu" 187) (.ref 63) .none [] ["x", "y"] (by rfl) (by kernel_rfl) (by kernel_rfl) hr (Binds.plain2 (fun _ _ => by rfl)) rfl (fun L E' A' r => ?_)).cv
  have px := plus_bd hx
  have hc := count_bd y
  obtain ⟨x0, x1⟩ := hx
  walk_at "w"
  rw [bitAnd_m5]
  walk_at "w"
  rw [mask_mod]
  refine w_flagged3 C r fun t ht => ?_
  walk_at "w"
  exact h t ht
theorem w_asr (C : c.Ok) (hr : Room 2 A (S.map (·.1))) {x y : Int} (hx : Wd x) (hy : Wd y) (h : ∀ t, H t = none → Q (.ref t) (H.set t (outT (res .ASR x y) 0 0 .none))) : CV c A E S (.ref 71) [.int x 0, .int y 0] H Q := by
  refine (CC_top C 71 (st 10) "shift_arith" (.str "moduleyard.alu" 187) (.ref 70) .none [] ["x", "y"] (by rfl) (by kernel_rfl) (by kernel_rfl) hr (Binds.plain2 (fun _ _ => by rfl)) rfl (fun L E' A' r => ?_)).cv
  have px := plus_bd hx
  have hc := count_bd y
  walk_at "w"
  refine w_signed C (by walk_at "room") hx ?_
  walk_at "w"
  rw [bitAnd_m5]
  walk_at "w"
  rw [mask_mod]
  refine w_flagged3 C r fun t ht => ?_
  walk_at "w"
  exact h t ht
theorem w_ror (C : c.Ok) (hr : Room 2 A (S.map (·.1))) {x y : Int} (hx : Wd x) (hy : Wd y) (h : ∀ t, H t = none → Q (.ref t) (H.set t (outT (res .ROR x y) 0 0 .none))) : CV c A E S (.ref 78) [.int x 0, .int y 0] H Q := by
  refine (CC_top C 78 (st 11) "rotate" (.str "moduleyard.alu" 187) (.ref 77) .none [] ["x", "y"] (by rfl) (by kernel_rfl) (by kernel_rfl) hr (Binds.plain2 (fun _ _ => by rfl)) rfl (fun L E' A' r => ?_)).cv
  have hc := count_bd y
  have hh := hx
  obtain ⟨x0, x1⟩ := hx
  walk_at "w"
  rw [bitAnd_m5]
  walk_at "w"
  rw [mask_mod]
  have e : Builtin.bitOr (x / 2 ^ (y % 32).toNat) (x * 2 ^ (32 - y % 32).toNat) = found .ROR x y := by
    have e1 : (32 - y % 32).toNat = 32 - (y % 32).toNat := by omega
    unfold found
    rw [e1, rot_or hh (by omega)]
  rw [e]
  refine w_flagged3 C r fun t ht => ?_
  walk_at "w"
  exact h t ht

theorem w_bitwise (C : c.Ok) (hr : Room 2 A (S.map (·.1))) {x y : Int} (hx : Wd x) (hy : Wd y) {o : Op} (ho : o = .AND ∨ o = .ANN ∨ o = .IOR ∨ o = .XOR) (h : ∀ t, H t = none → Q (.ref t) (H.set t (outT (res o x y) 0 0 .none))) : CV c A E S (.ref 85) [.str o.nm 0, .int x 0, .int y 0] H Q := by
  refine (CC_top C 85 (st 12) "bitwise" (.str "moduleyard.alu" 187) (.ref 84) .none [] ["name", "x", "y"] (by rfl) (by kernel_rfl) (by kernel_rfl) hr (Binds.plain3 (fun _ _ _ => by rfl)) rfl (fun L E' A' r => ?_)).cv
  rcases ho with rfl | rfl | rfl | rfl <;> unfold Op.nm
  · walk_at "w"
    refine w_flagged3 C r fun t ht => ?_
    walk_at "w"
    have e : Builtin.bitAnd x y = res .AND x y := by have := and_wd hx hy; unfold res found; exact (Int.emod_eq_of_lt this.1 this.2).symm
    rw [e]; exact h t ht
  · walk_at "w"
    rw [xor_mask hy]
    refine w_flagged3 C r fun t ht => ?_
    walk_at "w"
    have e : Builtin.bitAnd x (4294967295 - y) = res .ANN x y := by have := and_wd hx (y := 4294967295 - y) (by unfold Wd at *; omega); unfold res found; exact (Int.emod_eq_of_lt this.1 this.2).symm
    rw [e]; exact h t ht
  · walk_at "w"
    refine w_flagged3 C r fun t ht => ?_
    walk_at "w"
    have e : Builtin.bitOr x y = res .IOR x y := by have := or_wd hx hy; unfold res found; exact (Int.emod_eq_of_lt this.1 this.2).symm
    rw [e]; exact h t ht
  · walk_at "w"
    refine w_flagged3 C r fun t ht => ?_
    walk_at "w"
    have e : Builtin.bitXor x y = res .XOR x y := by have := xor_wd hx hy; unfold res found; exact (Int.emod_eq_of_lt this.1 this.2).symm
    rw [e]; exact h t ht
theorem shr32 {x y : Int} (hx : Wd x) (hy : Wd y) : (x + y) / 2 ^ 32 = b2i (decide (4294967296 ≤ x + y)) := by
  unfold Wd at hx hy; unfold b2i
  by_cases h : 4294967296 ≤ x + y
  · rw [decide_eq_true h]; show (x + y) / 4294967296 = 1; omega
  · rw [decide_eq_false h]; show (x + y) / 4294967296 = 0; omega
theorem ite_split {b : Bool} {p q : Prop} (h1 : b = true → p) (h2 : b = false → q) : if b = true then p else q := by
  cases b with
  | true => exact h1 rfl
  | false => exact (if_neg Bool.false_ne_true).mpr (h2 rfl)
theorem nm_inj {o p : Op} (h : (o.nm == p.nm) = true) : o = p := by
  have h : o.nm = p.nm := beq_iff_eq.mp h
  have hk : ∀ o : Op, [Op.MOV, .LSL, .ASR, .ROR, .AND, .ANN, .IOR, .XOR, .ADD, .SUB, .MUL, .DIV].find? (fun p => o.nm == p.nm) = some o := by intro o; cases o <;> kernel_rfl
  have := hk o
  rw [h, hk p] at this
  exact (Option.some.inj this).symm
theorem w_operate (C : c.Ok) (hr : Room 3 A (S.map (·.1))) {x y : Int} (hx : Wd x) (hy : Wd y) {o : Op} (hd : o = .DIV → 0 < plus y) (h : ∀ t, H t = none → Q (.ref t) (H.set t (outT (res o x y) (b2i (carry o x y)) (b2i (over o x y)) (hiV o x y)))) : CV c A E S (.ref 92) [.str o.nm 0, .int x 0, .int y 0] H Q := by
  refine (CC_top C 92 (st 13) "operate" (.str "moduleyard.alu" 187) (.ref 91) .none [] ["name", "x", "y"] (by rfl) (by kernel_rfl) (by kernel_rfl) hr (Binds.plain3 (fun _ _ _ => by rfl)) rfl (fun L E' A' r => ?_)).cv
  walk_at "w"
  refine ite_split (fun hq => ?_) (fun qMOV => ?_)
  · obtain rfl := nm_inj (p := .MOV) hq
    walk_at "w"
    refine w_flagged3 C (by walk_at "room") fun t ht => ?_
    walk_at "w"
    have e : y = res .MOV x y := by unfold res found; exact (Int.emod_eq_of_lt hy.1 hy.2).symm
    rw [e]; exact h t ht
  walk_at "w"
  refine ite_split (fun hq => ?_) (fun qADD => ?_)
  · obtain rfl := nm_inj (p := .ADD) hq
    walk_at "w"
    refine w_add C (by walk_at "room") fun t ht => ?_
    walk_at "w"
    have h' := h t ht
    rw [mask_mod, shr32 hx hy]
    rw [show (2 : Int) ^ 31 = 2147483648 from rfl, over_add hx hy]
    exact h'
  walk_at "w"
  refine ite_split (fun hq => ?_) (fun qSUB => ?_)
  · obtain rfl := nm_inj (p := .SUB) hq
    walk_at "w"
    refine w_sub C (by walk_at "room") fun t ht => ?_
    walk_at "w"
    have h' := h t ht
    rw [mask_mod]
    rw [show (2 : Int) ^ 31 = 2147483648 from rfl, over_sub hx hy]
    have e : (if x < y then (1 : Int) else 0) = b2i (carry .SUB x y) := by unfold b2i carry; by_cases q : x < y <;> simp [q]
    rw [e]
    exact h'
  walk_at "w"
  refine ite_split (fun hq => ?_) (fun qMUL => ?_)
  · obtain rfl := nm_inj (p := .MUL) hq
    walk_at "w"
    refine w_mul C (by walk_at "room") hx hy fun t ht => ?_
    walk_at "w"
    exact h t ht
  walk_at "w"
  refine ite_split (fun hq => ?_) (fun qDIV => ?_)
  · obtain rfl := nm_inj (p := .DIV) hq
    walk_at "w"
    refine w_div C (by walk_at "room") hx hy (hd rfl) fun t ht => ?_
    walk_at "w"
    exact h t ht
  walk_at "w"
  refine ite_split (fun hq => ?_) (fun qLSL => ?_)
  · obtain rfl := nm_inj (p := .LSL) hq
    walk_at "w"
    refine w_lsl C (by walk_at "room") hx hy fun t ht => ?_
    walk_at "w"
    exact h t ht
  walk_at "w"
  refine ite_split (fun hq => ?_) (fun qASR => ?_)
  · obtain rfl := nm_inj (p := .ASR) hq
    walk_at "w"
    refine w_asr C (by walk_at "room") hx hy fun t ht => ?_
    walk_at "w"
    exact h t ht
  walk_at "w"
  refine ite_split (fun hq => ?_) (fun qROR => ?_)
  · obtain rfl := nm_inj (p := .ROR) hq
    walk_at "w"
    refine w_ror C (by walk_at "room") hx hy fun t ht => ?_
    walk_at "w"
    exact h t ht
  walk_at "w"
  have hb : o = .AND ∨ o = .ANN ∨ o = .IOR ∨ o = .XOR := by
    cases o <;> first | exact .inl rfl | exact .inr (.inl rfl) | exact .inr (.inr (.inl rfl)) | exact .inr (.inr (.inr rfl)) | (exfalso; first | exact Bool.noConfusion (qMOV.symm.trans (show _ = true by kernel_rfl!)) | exact Bool.noConfusion (qADD.symm.trans (show _ = true by kernel_rfl!)) | exact Bool.noConfusion (qSUB.symm.trans (show _ = true by kernel_rfl!)) | exact Bool.noConfusion (qMUL.symm.trans (show _ = true by kernel_rfl!)) | exact Bool.noConfusion (qDIV.symm.trans (show _ = true by kernel_rfl!)) | exact Bool.noConfusion (qLSL.symm.trans (show _ = true by kernel_rfl!)) | exact Bool.noConfusion (qASR.symm.trans (show _ = true by kernel_rfl!)) | exact Bool.noConfusion (qROR.symm.trans (show _ = true by kernel_rfl!)))
  refine w_bitwise C (by walk_at "room") hx hy hb fun t ht => ?_
  walk_at "w"
  rcases hb with rfl | rfl | rfl | rfl <;> exact h t ht
theorem w_operate0 (C : c.Ok) (hr : Room 3 A (S.map (·.1))) {x y : Int} (hx : Wd x) (hy : Wd y) (hd : plus y ≤ 0) (h : Q .none H) : CV c A E S (.ref 92) [.str (Op.nm .DIV) 0, .int x 0, .int y 0] H Q := by
  refine (CC_top C 92 (st 13) "operate" (.str "moduleyard.alu" 187) (.ref 91) .none [] ["name", "x", "y"] (by rfl) (by kernel_rfl) (by kernel_rfl) hr (Binds.plain3 (fun _ _ _ => by rfl)) rfl (fun L E' A' r => ?_)).cv
  unfold Op.nm
  walk_at "w"
  refine w_div0 C (by walk_at "room") hx hy hd ?_
  walk_at "w"
  exact h
end
section
variable {c : Cx} {A : Around} {E : Value → Shared → Prop} {env : Env} {L : Addr} {S : Stk} {m : Loc} {H : AH} {s : Shared} {Q : Value → AH → Prop}

noncomputable def condNames : List Str := ["MI", "EQ", "CS", "VS", "LS", "LT", "LE", "AL", "PL", "NE", "CC", "VC", "HI", "GE", "GT", "NV"]
theorem w_cond (C : c.Ok) (hr : Room 1 A (S.map (·.1))) {k : Str} (hk : k ∈ condNames) (h : Q (.int (condNames.idxOf k : Nat) 0) H) : CV c A E S (.ref 99) [.str k 0] H Q := by
  refine (CC.post (CC_top C 99 (st 14) "condition_number" (.str "moduleyard.alu" 187) (.ref 98) .none [] ["cond"] (by rfl) (by kernel_rfl) (by kernel_rfl) hr (Binds.plain1 (fun _ => by rfl)) rfl (fun L E' A' r => ?_))).cv
  walk_at "w"
  refine ⟨by simp, fun t ht => ?_⟩
  walk_at "w"

  refine METH_tuple C AH.set_self PySem.F.slot_tuple_index (by rfl) ?_ (by rfl)
  walk_at "w"
  refine CV_index_tuple (names := condNames) AH.set_self hk ?_
  walk_at "w"
  exact ⟨H, sub_new ht, h⟩
/-- whether a condition holds -/
noncomputable def truths (n z cc v : Bool) : List Bool := [n, z, cc, v, cc || z, n != v, z || n != v, true]
noncomputable def ct (i : Nat) (n z cc v : Bool) : Bool := if i < 8 then (truths n z cc v).getD (i % 8) true else !(truths n z cc v).getD (i % 8) true
noncomputable def truthV (n z cc v : Int) : List Value := [.int n 0, .int z 0, .int cc 0, .int v 0, .int (Builtin.bitOr cc z) 0, .int (Builtin.bitXor n v) 0, .int (Builtin.bitOr (Builtin.bitXor n v) z) 0, .int 1 0]
theorem truth_at : ∀ (n z cc v : Bool) (i : Nat), i < 8 → (truthV (b2i n) (b2i z) (b2i cc) (b2i v))[i]? = some (.int (b2i ((truths n z cc v).getD i true)) 0) := by
  intro n z cc v i hi
  match i, hi with
  | 0, _ | 1, _ | 2, _ | 3, _ | 4, _ | 5, _ | 6, _ | 7, _ => cases n <;> cases z <;> cases cc <;> cases v <;> rfl
theorem ct_eq (n z cc v : Bool) (i : Nat) (hi : i < 16) : (!decide (b2i ((truths n z cc v).getD (i % 8) true) = (i : Int) / 8)) = ct i n z cc v := by
  unfold ct
  by_cases h : i < 8
  · rw [if_pos h]
    have : (i : Int) / 8 = 0 := by omega
    rw [this]
    cases (truths n z cc v).getD (i % 8) true <;> rfl
  · rw [if_neg h]
    have : (i : Int) / 8 = 1 := by omega
    rw [this]
    cases (truths n z cc v).getD (i % 8) true <;> rfl
theorem w_holds (C : c.Ok) (hr : Room 2 A (S.map (·.1))) {k : Str} (hk : k ∈ condNames) {n z cc v : Bool} {fl : Addr} (hf : H fl = some (.tuple [.int (b2i n) 0, .int (b2i z) 0, .int (b2i cc) 0, .int (b2i v) 0])) (h : Q (.bool (ct (condNames.idxOf k) n z cc v)) H) : CV c A E S (.ref 106) [.str k 0, .ref fl] H Q := by
  have hi : condNames.idxOf k < 16 := List.idxOf_lt_length_of_mem hk
  refine (CC.post (CC_top C 106 (st 15) "holds" (.str "moduleyard.alu" 187) (.ref 105) .none [] ["cond", "flags"] (by rfl) (by kernel_rfl) (by kernel_rfl) hr (Binds.plain2 (fun _ _ => by rfl)) rfl (fun L E' A' r => ?_))).cv
  walk_at "w"
  refine ⟨_, _, rfl, .inl hf, rfl, ?_⟩
  walk_at "w"
  refine w_cond C (by walk_at "room") hk ?_
  walk_at "w"
  refine ⟨by simp, fun t ht => ?_⟩
  walk_at "w"
  refine SUB_tuple AH.set_self (by omega) (by omega) (v := .int (b2i ((truths n z cc v).getD (condNames.idxOf k % 8) true)) 0) ?_ ?_
  · have e : ((condNames.idxOf k : Nat) : Int) % 8 = ((condNames.idxOf k % 8 : Nat) : Int) := by omega
    rw [e]
    exact truth_at n z cc v _ (Nat.mod_lt _ (by decide))
  walk_at "w"
  rw [ct_eq n z cc v _ hi]
  exact ⟨H, sub_new ht, h⟩
end
section
variable {c : Cx} {A : Around} {E : Value → Shared → Prop} {env : Env} {L : Addr} {S : Stk} {m : Loc} {H : AH} {s : Shared} {Q : Value → AH → Prop}
/-- a memory -/
structure MemAt (H : AH) (mo md wd : Addr) (f : Int → Option Value) (n : Nat) : Prop where
  o : H mo = some (.inst 286 md)
  d : H md = some (.ns [("size", .int 64 0), ("words", .ref wd)])
  w : H wd = some (.idict f n)
theorem w_place (C : c.Ok) (hr : Room 1 A (S.map (·.1))) {mo md wd : Addr} {f : Int → Option Value} {n : Nat} (M : MemAt H mo md wd f n) {x : Int} (hx : 0 ≤ x ∧ x < 64) (h : Q (.int (x / 4) 0) H) : CV c A E S (.ref 255) [.ref mo, .int x 0] H Q := by
  refine (CC_top C 255 (me 27 1) "Memory.place" (.str "moduleyard.memory" 514) (.ref 254) .none [] ["self", "address"] (by rfl) (by kernel_rfl) (by kernel_rfl) hr (Binds.plain2 (fun _ _ => by rfl)) rfl (fun L E' A' r => ?_)).cv
  obtain ⟨M1, M2, M3⟩ := M
  walk_at "w"
  exact h
theorem w_place_trap (C : c.Ok) (hr : Room 3 A (S.map (·.1))) {mo md wd : Addr} {f : Int → Option Value} {n : Nat} (M : MemAt H mo md wd f n) {x : Int} (hx : x < 0 ∨ 64 ≤ x) : CV c A (EX c S (fun H1 => Le H H1)) S (.ref 255) [.ref mo, .int x 0] H Q := by
  refine (CC_topX C 255 (me 27 1) "Memory.place" (.str "moduleyard.memory" 514) (.ref 254) .none [] ["self", "address"] (by rfl) (by kernel_rfl) (by kernel_rfl) hr (Binds.plain2 (fun _ _ => by rfl)) rfl (fun L A' r hh => ?_)).cv
  obtain ⟨M1, M2, M3⟩ := M
  by_cases hx0 : x < 0 <;>
  · walk_at "w"
    refine CV_trap C r fun a d T0 ha hd hda => ?_
    refine ⟨a, d, T0, rfl, (AH.set_ne hda.symm).trans AH.set_self, AH.set_self, fun b o hb => ?_⟩
    have h1 : b ≠ a := fun q => by rw [q, ha] at hb; cases hb
    have h2 : b ≠ d := fun q => by rw [q, hd] at hb; cases hb
    exact (if_neg h1).trans ((AH.set_ne h2).trans ((AH.set_ne h1).trans hb))
theorem w_word (C : c.Ok) (hr : Room 2 A (S.map (·.1))) {mo md wd : Addr} {f : Int → Option Value} {n : Nat} (M : MemAt H mo md wd f n) {x : Int} (hx : 0 ≤ x ∧ x < 64) (h : Q ((f (x / 4)).getD (.int 0 0)) H) : CV c A E S (.ref 262) [.ref mo, .int x 0] H Q := by
  refine (CC_top C 262 (me 27 2) "Memory.word" (.str "moduleyard.memory" 514) (.ref 261) .none [] ["self", "address"] (by rfl) (by kernel_rfl) (by kernel_rfl) hr (Binds.plain2 (fun _ _ => by rfl)) rfl (fun L E' A' r => ?_)).cv
  have M0 := M
  obtain ⟨M1, M2, M3⟩ := M
  walk_at "w"
  refine METH_idict C M3 F.slot_dict_get (by rfl) ?_ (by rfl)
  walk_at "w"
  refine w_place C r M0 hx ?_
  walk_at "w"
  refine CV_get C M3 ?_
  walk_at "w"
  exact h
theorem w_word_trap (C : c.Ok) (hr : Room 4 A (S.map (·.1))) {mo md wd : Addr} {f : Int → Option Value} {n : Nat} (M : MemAt H mo md wd f n) {x : Int} (hx : x < 0 ∨ 64 ≤ x) : CV c A (EX c S (fun H1 => Le H H1)) S (.ref 262) [.ref mo, .int x 0] H Q := by
  refine (CC_topX C 262 (me 27 2) "Memory.word" (.str "moduleyard.memory" 514) (.ref 261) .none [] ["self", "address"] (by rfl) (by kernel_rfl) (by kernel_rfl) hr (Binds.plain2 (fun _ _ => by rfl)) rfl (fun L A' r hh => ?_)).cv
  have M0 := M
  obtain ⟨M1, M2, M3⟩ := M
  walk_at "w"
  refine METH_idict C M3 F.slot_dict_get (by rfl) ?_ (by rfl)
  walk_at "w"
  exact (w_place_trap C r M0 hx).inBody
theorem w_put_word (C : c.Ok) (hr : Room 2 A (S.map (·.1))) {mo md wd : Addr} {f : Int → Option Value} {n : Nat} (M : MemAt H mo md wd f n) (hn : n ≤ 1000) {x v : Int} (hx : 0 ≤ x ∧ x < 64) (h : Q .none (H.set wd (.idict (putF f (x / 4) (.int (v % 4294967296) 0)) (n + 1)))) : CV c A E S (.ref 269) [.ref mo, .int x 0, .int v 0] H Q := by
  refine (CC_top C 269 (me 27 3) "Memory.put_word" (.str "moduleyard.memory" 514) (.ref 268) .none [] ["self", "address", "value"] (by rfl) (by kernel_rfl) (by kernel_rfl) hr (Binds.plain3 (fun _ _ _ => by rfl)) rfl (fun L E' A' r => ?_)).cv
  have M0 := M
  obtain ⟨M1, M2, M3⟩ := M
  walk_at "w"
  refine w_place C r M0 hx ?_
  walk_at "w"
  refine SETI_idict M3 hn ?_
  walk_at "w"
  exact h
theorem w_put_word_trap (C : c.Ok) (hr : Room 4 A (S.map (·.1))) {mo md wd : Addr} {f : Int → Option Value} {n : Nat} (M : MemAt H mo md wd f n) {x v : Int} (hx : x < 0 ∨ 64 ≤ x) : CV c A (EX c S (fun H1 => Le H H1)) S (.ref 269) [.ref mo, .int x 0, .int v 0] H Q := by
  refine (CC_topX C 269 (me 27 3) "Memory.put_word" (.str "moduleyard.memory" 514) (.ref 268) .none [] ["self", "address", "value"] (by rfl) (by kernel_rfl) (by kernel_rfl) hr (Binds.plain3 (fun _ _ _ => by rfl)) rfl (fun L A' r hh => ?_)).cv
  have M0 := M
  obtain ⟨M1, M2, M3⟩ := M
  walk_at "w"
  exact (w_place_trap C r M0 hx).inBody
theorem w_byte (C : c.Ok) (hr : Room 3 A (S.map (·.1))) {mo md wd : Addr} {f : Int → Option Value} {n : Nat} (M : MemAt H mo md wd f n) {x w : Int} (hx : 0 ≤ x ∧ x < 64) (hw : (f (x / 4)).getD (.int 0 0) = .int w 0) (h : Q (.int (w / 2 ^ (8 * (x % 4)).toNat % 256) 0) H) : CV c A E S (.ref 276) [.ref mo, .int x 0] H Q := by
  refine (CC_top C 276 (me 27 4) "Memory.byte" (.str "moduleyard.memory" 514) (.ref 275) .none [] ["self", "address"] (by rfl) (by kernel_rfl) (by kernel_rfl) hr (Binds.plain2 (fun _ _ => by rfl)) rfl (fun L E' A' r => ?_)).cv
  have M0 := M
  obtain ⟨M1, M2, M3⟩ := M
  walk_at "w"
  refine w_word C r M0 hx ?_
  rw [hw]
  walk_at "w"
  rw [bitAnd_m8]
  exact h
theorem w_byte_trap (C : c.Ok) (hr : Room 5 A (S.map (·.1))) {mo md wd : Addr} {f : Int → Option Value} {n : Nat} (M : MemAt H mo md wd f n) {x : Int} (hx : x < 0 ∨ 64 ≤ x) : CV c A (EX c S (fun H1 => Le H H1)) S (.ref 276) [.ref mo, .int x 0] H Q := by
  refine (CC_topX C 276 (me 27 4) "Memory.byte" (.str "moduleyard.memory" 514) (.ref 275) .none [] ["self", "address"] (by rfl) (by kernel_rfl) (by kernel_rfl) hr (Binds.plain2 (fun _ _ => by rfl)) rfl (fun L A' r hh => ?_)).cv
  have M0 := M
  obtain ⟨M1, M2, M3⟩ := M
  walk_at "w"
  exact (w_word_trap C r M0 hx).inBody
noncomputable def setByte (w v k : Int) : Int := Builtin.bitOr (Builtin.bitAnd w (4294967295 - 255 * 2 ^ (8 * k).toNat)) (v % 256 * 2 ^ (8 * k).toNat) % 4294967296
theorem w_put_byte (C : c.Ok) (hr : Room 3 A (S.map (·.1))) {mo md wd : Addr} {f : Int → Option Value} {n : Nat} (M : MemAt H mo md wd f n) (hn : n ≤ 1000) {x v w : Int} (hx : 0 ≤ x ∧ x < 64) (hw : (f (x / 4)).getD (.int 0 0) = .int w 0) (h : Q .none (H.set wd (.idict (putF f (x / 4) (.int (setByte w v (x % 4)) 0)) (n + 1)))) : CV c A E S (.ref 283) [.ref mo, .int x 0, .int v 0] H Q := by
  refine (CC_top C 283 (me 27 5) "Memory.put_byte" (.str "moduleyard.memory" 514) (.ref 282) .none [] ["self", "address", "value"] (by rfl) (by kernel_rfl) (by kernel_rfl) hr (Binds.plain3 (fun _ _ _ => by rfl)) rfl (fun L E' A' r => ?_)).cv
  have M0 := M
  obtain ⟨M1, M2, M3⟩ := M
  walk_at "w"
  refine w_word C (by walk_at "room") M0 hx ?_
  rw [hw]
  walk_at "w"
  rw [bitAnd_m8]
  walk_at "w"
  refine w_put_word C (by walk_at "room") M0 hn hx ?_
  walk_at "w"
  exact h
theorem w_put_byte_trap (C : c.Ok) (hr : Room 5 A (S.map (·.1))) {mo md wd : Addr} {f : Int → Option Value} {n : Nat} (M : MemAt H mo md wd f n) {x v : Int} (hx : x < 0 ∨ 64 ≤ x) : CV c A (EX c S (fun H1 => Le H H1)) S (.ref 283) [.ref mo, .int x 0, .int v 0] H Q := by
  refine (CC_topX C 283 (me 27 5) "Memory.put_byte" (.str "moduleyard.memory" 514) (.ref 282) .none [] ["self", "address", "value"] (by rfl) (by kernel_rfl) (by kernel_rfl) hr (Binds.plain3 (fun _ _ _ => by rfl)) rfl (fun L A' r hh => ?_)).cv
  have M0 := M
  obtain ⟨M1, M2, M3⟩ := M
  walk_at "w"
  exact (w_word_trap C r M0 hx).inBody
theorem w_mem_init (C : c.Ok) (hr : Room 1 A (S.map (·.1))) {mo md : Addr} (h1 : H mo = some (.inst 286 md)) (h2 : H md = some (.ns [])) (h : ∀ wd, H wd = none → Q .none ((H.set wd (.idict (fun _ => none) 0)).set md (.ns [("size", .int 64 0), ("words", .ref wd)]))) : CC c A E S (.ref 248) [.ref mo, .int 64 0] H Q := by
  refine CC.post (CC_top C 248 (me 27 0) "Memory.__init__" (.str "moduleyard.memory" 514) (.ref 247) .none [] ["self", "size"] (by rfl) (by kernel_rfl) (by kernel_rfl) hr (Binds.plain2 (fun _ _ => by rfl)) rfl (fun L E' A' r => ?_))
  have hne : mo ≠ md := fun q => by rw [q, h2] at h1; cases h1
  walk_at "w"
  refine SETA_ns C CP_Memory h1 h2 (by kernel_rfl) (by decide) ?_
  walk_at "w"
  refine EV_dict0 fun wd hw => ?_
  have hw1 : wd ≠ md := fun q => by rw [q, AH.set_self] at hw; cases hw
  have hw2 : wd ≠ mo := fun q => by rw [q, AH.set_ne hne, h1] at hw; cases hw
  walk_at "w"
  refine SETA_ns C CP_Memory ((AH.set_ne hw2.symm).trans ((AH.set_ne hne).trans h1)) ((AH.set_ne hw1.symm).trans AH.set_self) (by kernel_rfl) (by simp [setL]) ?_
  walk_at "w"
  refine ⟨_, ?_, h wd (by rw [AH.set_ne hw1] at hw; exact hw)⟩
  intro b o hb
  by_cases q : b = md
  · subst q; rw [AH.set_self] at hb ⊢; exact hb
  · rw [AH.set_ne q] at hb ⊢
    by_cases q2 : b = wd
    · subst q2; rw [AH.set_self] at hb ⊢; exact hb
    · rw [AH.set_ne q2] at hb ⊢; rw [AH.set_ne q]; exact hb
end
section
variable {c : Cx} {A : Around} {E : Value → Shared → Prop} {env : Env} {L : Addr} {S : Stk} {m : Loc} {H : AH} {s : Shared} {Q : Value → AH → Prop}
/-- the machine -/
structure Mach where
  regs : List Int
  h : Int
  n : Bool
  z : Bool
  cc : Bool
  v : Bool
  pc : Int
  mem : Int → Int
noncomputable def Mach.get (M : Mach) (i : Int) : Int := M.regs.getD i.toNat 0
noncomputable def cpuNs (mo rl rw : Addr) (M : Mach) : Loc := [("memory", .ref mo), ("regs", .ref rl), ("h", .int M.h 0), ("n", .int (b2i M.n) 0), ("z", .int (b2i M.z) 0), ("c", .int (b2i M.cc) 0), ("v", .int (b2i M.v) 0), ("pc", .int M.pc 0), ("rows", .ref rw)]
structure CpuAt (H : AH) (x dx mo md wd rl rw : Addr) (M : Mach) (k : Nat) : Prop where
  o : H x = some (.inst 223 dx)
  d : H dx = some (.ns (cpuNs mo rl rw M))
  r : H rl = some (.list (M.regs.map fun i => .int i 0))
  m : ∃ f n, MemAt H mo md wd f n ∧ n ≤ k ∧ ∀ i, 0 ≤ i → i < 16 → (f i).getD (.int 0 0) = .int (M.mem i) 0
structure Mach.Ok (M : Mach) : Prop where
  len : M.regs.length = 16
  wd : ∀ r ∈ M.regs, Wd r
  h : Wd M.h
  mem : ∀ i, 0 ≤ i → i < 16 → Wd (M.mem i)
theorem get_at {M : Mach} (h : M.Ok) {i : Int} (hi : 0 ≤ i ∧ i < 16) : (M.regs.map fun i => Value.int i 0)[i.toNat]? = some (.int (M.get i) 0) := by
  have : i.toNat < M.regs.length := by rw [h.len]; omega
  rw [List.getElem?_map, List.getElem?_eq_getElem this]
  unfold Mach.get
  rw [List.getD_eq_getElem?_getD, List.getElem?_eq_getElem this]; rfl
theorem get_wd {M : Mach} (h : M.Ok) {i : Int} (hi : 0 ≤ i ∧ i < 16) : Wd (M.get i) := by
  have : i.toNat < M.regs.length := by rw [h.len]; omega
  unfold Mach.get
  rw [List.getD_eq_getElem?_getD, List.getElem?_eq_getElem this]
  exact h.wd _ (List.getElem_mem this)
theorem ne_obs {a b : Addr} {o1 o2 : AO} (h1 : H a = some o1) (h2 : H b = some o2) (h : o1 ≠ o2) : a ≠ b := fun q => by subst q; rw [h1] at h2; exact h (Option.some.inj h2)
section
variable {x dx mo md wd rl rw : Addr} {M : Mach} {k : Nat} {QH : AH → Prop}
theorem CpuAt.setD (K : CpuAt H x dx mo md wd rl rw M k) {M' : Mach} (h1 : M'.regs = M.regs) (h2 : M'.mem = M.mem) : CpuAt (H.set dx (.ns (cpuNs mo rl rw M'))) x dx mo md wd rl rw M' k where
  o := (AH.set_ne (ne_obs K.o K.d (by intro q; cases q))).trans K.o
  d := AH.set_self
  r := by rw [h1]; exact (AH.set_ne (ne_obs K.r K.d (by intro q; cases q))).trans K.r
  m := by
    obtain ⟨f, n, ⟨m1, m2, m3⟩, m4, m5⟩ := K.m
    refine ⟨f, n, ⟨(AH.set_ne (ne_obs m1 K.d (by intro q; cases q))).trans m1, (AH.set_ne (ne_obs m2 K.d (by intro q; cases q))).trans m2, (AH.set_ne (ne_obs m3 K.d (by intro q; cases q))).trans m3⟩, m4, ?_⟩
    rw [h2]; exact m5
theorem CpuAt.setR (K : CpuAt H x dx mo md wd rl rw M k) (rs : List Int) : CpuAt (H.set rl (.list (rs.map fun i => .int i 0))) x dx mo md wd rl rw { M with regs := rs } k where
  o := (AH.set_ne (ne_obs K.o K.r (by intro q; cases q))).trans K.o
  d := (AH.set_ne (ne_obs K.d K.r (by intro q; cases q))).trans K.d
  r := AH.set_self
  m := by
    obtain ⟨f, n, ⟨m1, m2, m3⟩, m4, m5⟩ := K.m
    exact ⟨f, n, ⟨(AH.set_ne (ne_obs m1 K.r (by intro q; cases q))).trans m1, (AH.set_ne (ne_obs m2 K.r (by intro q; cases q))).trans m2, (AH.set_ne (ne_obs m3 K.r (by intro q; cases q))).trans m3⟩, m4, m5⟩
theorem CpuAt.setW (K : CpuAt H x dx mo md wd rl rw M k) {f : Int → Option Value} {n : Nat} (hm : MemAt H mo md wd f n) (hn : n ≤ k) {f' : Int → Option Value} {mem' : Int → Int} (h : ∀ i, 0 ≤ i → i < 16 → (f' i).getD (.int 0 0) = .int (mem' i) 0) : CpuAt (H.set wd (.idict f' (n + 1))) x dx mo md wd rl rw { M with mem := mem' } (k + 1) where
  o := (AH.set_ne (ne_obs K.o hm.w (by intro q; cases q))).trans K.o
  d := (AH.set_ne (ne_obs K.d hm.w (by intro q; cases q))).trans K.d
  r := (AH.set_ne (ne_obs K.r hm.w (by intro q; cases q))).trans K.r
  m := ⟨f', n + 1, ⟨(AH.set_ne (ne_obs hm.o hm.w (by intro q; cases q))).trans hm.o, (AH.set_ne (ne_obs hm.d hm.w (by intro q; cases q))).trans hm.d, AH.set_self⟩, by omega, h⟩
theorem CpuAt.more (K : CpuAt H x dx mo md wd rl rw M k) {k' : Nat} (h : k ≤ k') : CpuAt H x dx mo md wd rl rw M k' := ⟨K.o, K.d, K.r, let ⟨f, n, a, b, d⟩ := K.m; ⟨f, n, a, by omega, d⟩⟩
theorem CpuAt.keep (K : CpuAt H x dx mo md wd rl rw M k) {H1 : AH} (h : Le H H1) : CpuAt H1 x dx mo md wd rl rw M k := ⟨h _ _ K.o, h _ _ K.d, h _ _ K.r, let ⟨f, n, a, b, d⟩ := K.m; ⟨f, n, ⟨h _ _ a.o, h _ _ a.d, h _ _ a.w⟩, b, d⟩⟩
theorem Mod.one {a : Addr} {o : AO} {ls : List Addr} (h : a ∈ ls) : Mod ls H (H.set a o) := Mod.refl.set h
theorem SETA_h (C : c.Ok) {i : Int} (K : CpuAt H x dx mo md wd rl rw M k) (h : ∀ H1, CpuAt H1 x dx mo md wd rl rw { M with h := i } k → Mod [dx, rl, wd] H H1 → QH H1) : SETA c A E S (.ref x) "h" (.int i 0) H QH := SETA_ns C CP_Cpu K.o K.d (by kernel_rfl) (by decide : 9 < 1000) (h _ (K.setD (M' := { M with h := i }) rfl rfl) (Mod.one (.head _)))
theorem SETA_n (C : c.Ok) {b : Bool} {i : Int} (K : CpuAt H x dx mo md wd rl rw M k) (e : i = b2i b) (h : ∀ H1, CpuAt H1 x dx mo md wd rl rw { M with n := b } k → Mod [dx, rl, wd] H H1 → QH H1) : SETA c A E S (.ref x) "n" (.int i 0) H QH := by subst e; exact SETA_ns C CP_Cpu K.o K.d (by kernel_rfl) (by decide : 9 < 1000) (h _ (K.setD (M' := { M with n := b }) rfl rfl) (Mod.one (.head _)))
theorem SETA_z (C : c.Ok) {b : Bool} {i : Int} (K : CpuAt H x dx mo md wd rl rw M k) (e : i = b2i b) (h : ∀ H1, CpuAt H1 x dx mo md wd rl rw { M with z := b } k → Mod [dx, rl, wd] H H1 → QH H1) : SETA c A E S (.ref x) "z" (.int i 0) H QH := by subst e; exact SETA_ns C CP_Cpu K.o K.d (by kernel_rfl) (by decide : 9 < 1000) (h _ (K.setD (M' := { M with z := b }) rfl rfl) (Mod.one (.head _)))
theorem SETA_c (C : c.Ok) {b : Bool} {i : Int} (K : CpuAt H x dx mo md wd rl rw M k) (e : i = b2i b) (h : ∀ H1, CpuAt H1 x dx mo md wd rl rw { M with cc := b } k → Mod [dx, rl, wd] H H1 → QH H1) : SETA c A E S (.ref x) "c" (.int i 0) H QH := by subst e; exact SETA_ns C CP_Cpu K.o K.d (by kernel_rfl) (by decide : 9 < 1000) (h _ (K.setD (M' := { M with cc := b }) rfl rfl) (Mod.one (.head _)))
theorem SETA_v (C : c.Ok) {b : Bool} {i : Int} (K : CpuAt H x dx mo md wd rl rw M k) (e : i = b2i b) (h : ∀ H1, CpuAt H1 x dx mo md wd rl rw { M with v := b } k → Mod [dx, rl, wd] H H1 → QH H1) : SETA c A E S (.ref x) "v" (.int i 0) H QH := by subst e; exact SETA_ns C CP_Cpu K.o K.d (by kernel_rfl) (by decide : 9 < 1000) (h _ (K.setD (M' := { M with v := b }) rfl rfl) (Mod.one (.head _)))
theorem SETA_pc (C : c.Ok) {i : Int} (K : CpuAt H x dx mo md wd rl rw M k) (h : ∀ H1, CpuAt H1 x dx mo md wd rl rw { M with pc := i } k → Mod [dx, rl, wd] H H1 → QH H1) : SETA c A E S (.ref x) "pc" (.int i 0) H QH := SETA_ns C CP_Cpu K.o K.d (by kernel_rfl) (by decide : 9 < 1000) (h _ (K.setD (M' := { M with pc := i }) rfl rfl) (Mod.one (.head _)))
theorem SETI_regs {a i : Int} (K : CpuAt H x dx mo md wd rl rw M k) (hl : M.regs.length = 16) (ha : 0 ≤ a ∧ a < 16) (h : ∀ H1, CpuAt H1 x dx mo md wd rl rw { M with regs := M.regs.set a.toNat i } k → Mod [dx, rl, wd] H H1 → QH H1) : SETI c A E S (.ref rl) (.int a 0) (.int i 0) H QH :=
  SETI_list K.r ⟨ha.1, by omega, by rw [List.length_map, hl]; omega⟩ (by
    have := h _ (K.setR (M.regs.set a.toNat i)) (Mod.one (.tail _ (.head _)))
    rw [List.map_set] at this; exact this)
theorem SUB_regs {value slice : Expr} {a : Int} (K : CpuAt H x dx mo md wd rl rw M k) (hM : M.Ok) (ha : 0 ≤ a ∧ a < 16) (h : Q (.int (M.get a) 0) H) (hs : ∀ t, subscripted slice false (.ref rl) (.int a t) = operate [.ref rl, .int a t] (getItem (.ref rl) (.int a t)) := by intro _; with_unfolding_all rfl) : SUB c A E S value slice (.ref rl) (.int a 0) H Q :=
  SUB_list K.r ha.1 (by omega) (get_at hM ha) h hs
theorem w_flags (C : c.Ok) (hr : Room 1 A (S.map (·.1))) (K : CpuAt H x dx mo md wd rl rw M k) (h : ∀ t, H t = none → Q (.ref t) (H.set t (.tuple [.int (b2i M.n) 0, .int (b2i M.z) 0, .int (b2i M.cc) 0, .int (b2i M.v) 0]))) : CV c A E S (.ref 192) [.ref x] H Q := by
  refine (CC_top C 192 (me 23 3) "Cpu.flags" (.str "moduleyard.cpu" 396) (.ref 191) .none [] ["self"] (by rfl) (by kernel_rfl) (by kernel_rfl) hr (Binds.plain1 (fun _ => by rfl)) rfl (fun L E' A' r => ?_)).cv
  obtain ⟨ho, hd, hrl, -⟩ := K
  walk_at "w"
  refine ⟨by simp, fun t ht => ?_⟩
  walk_at "w"
  exact h t ht
theorem sign_bit {r : Int} (h : Wd r) : r / 2 ^ 31 = b2i (decide (2147483648 ≤ r)) := by
  unfold Wd at h; unfold b2i
  rw [show (2 : Int) ^ 31 = 2147483648 from rfl]
  by_cases q : 2147483648 ≤ r
  · rw [decide_eq_true q]; show r / 2147483648 = 1; omega
  · rw [decide_eq_false q]; show r / 2147483648 = 0; omega
noncomputable def Mach.put (M : Mach) (a r : Int) : Mach := { M with regs := M.regs.set a.toNat r, n := decide (2147483648 ≤ r), z := decide (r = 0), cc := false, v := false }
theorem w_set_result (C : c.Ok) (hr : Room 1 A (S.map (·.1))) (K : CpuAt H x dx mo md wd rl rw M k) (hM : M.Ok) {a r : Int} (ha : 0 ≤ a ∧ a < 16) (hw : Wd r) (h : ∀ H1, CpuAt H1 x dx mo md wd rl rw (M.put a r) k → Mod [dx, rl, wd] H H1 → Q .none H1) : CV c A E S (.ref 206) [.ref x, .int a 0, .int r 0] H Q := by
  refine (CC_top C 206 (me 23 5) "Cpu.set_result" (.str "moduleyard.cpu" 396) (.ref 205) .none [] ["self", "register", "result"] (by rfl) (by kernel_rfl) (by kernel_rfl) hr (Binds.plain3 (fun _ _ _ => by rfl)) rfl (fun L E' A' rm => ?_)).cv
  obtain ⟨ho, hd, hrl, -⟩ := id K
  walk_at "w"
  refine SETI_regs K hM.len ha fun H1 K1 l1 => ?_
  obtain ⟨ho, hd, hrl, -⟩ := id K1
  walk_at "w"
  refine SETA_n C K1 (sign_bit hw) fun H2 K2 l2 => ?_
  obtain ⟨ho, hd, hrl, -⟩ := id K2
  walk_at "w"
  by_cases hz : r = 0
  · walk_at "w"
    refine SETA_z C K2 (b := decide (r = 0)) (by rw [decide_eq_true hz]; rfl) fun H3 K3 l3 => ?_
    obtain ⟨ho, hd, hrl, -⟩ := id K3
    walk_at "w"
    refine SETA_c C K3 (b := false) rfl fun H4 K4 l4 => ?_
    obtain ⟨ho, hd, hrl, -⟩ := id K4
    walk_at "w"
    refine SETA_v C K4 (b := false) rfl fun H5 K5 l5 => ?_
    walk_at "w"
    exact h _ K5 ((((l1.trans l2).trans l3).trans l4).trans l5)
  · walk_at "w"
    refine SETA_z C K2 (b := decide (r = 0)) (by rw [decide_eq_false hz]; rfl) fun H3 K3 l3 => ?_
    obtain ⟨ho, hd, hrl, -⟩ := id K3
    walk_at "w"
    refine SETA_c C K3 (b := false) rfl fun H4 K4 l4 => ?_
    obtain ⟨ho, hd, hrl, -⟩ := id K4
    walk_at "w"
    refine SETA_v C K4 (b := false) rfl fun H5 K5 l5 => ?_
    walk_at "w"
    exact h _ K5 ((((l1.trans l2).trans l3).trans l4).trans l5)
end
end
section
variable {c : Cx} {A : Around} {E : Value → Shared → Prop} {env : Env} {L : Addr} {S : Stk} {m : Loc} {H : AH} {s : Shared} {Q : Value → AH → Prop}
inductive MemOp where
  | LDR | LDB | STR | STB
noncomputable def MemOp.nm : MemOp → Str
  | .LDR => "LDR" | .LDB => "LDB" | .STR => "STR" | .STB => "STB"
noncomputable def memM (k : MemOp) (a t : Int) (M : Mach) : Mach := match k with
  | .LDR => { M with regs := M.regs.set a.toNat (M.mem (t / 4)) }
  | .LDB => { M with regs := M.regs.set a.toNat (M.mem (t / 4) / 2 ^ (8 * (t % 4)).toNat % 256) }
  | .STR => { M with mem := fun i => if i = t / 4 then M.get a % 4294967296 else M.mem i }
  | .STB => { M with mem := fun i => if i = t / 4 then setByte (M.mem (t / 4)) (M.get a) (t % 4) else M.mem i }
theorem putF_getD {f : Int → Option Value} {mem : Int → Int} {j v : Int} (h : ∀ i, 0 ≤ i → i < 16 → (f i).getD (.int 0 0) = .int (mem i) 0) : ∀ i, 0 ≤ i → i < 16 → ((putF f j (.int v 0)) i).getD (.int 0 0) = .int (if i = j then v else mem i) 0 := fun i h0 h1 => by
  unfold putF
  by_cases q : i = j
  · rw [if_pos q, if_pos q]; rfl
  · rw [if_neg q, if_neg q]; exact h i h0 h1
section
variable {x dx mo md wd rl rw : Addr} {M : Mach} {k : Nat} {QH : AH → Prop}
theorem w_transfer (C : c.Ok) (hr : Room 4 A (S.map (·.1))) (K : CpuAt H x dx mo md wd rl rw M k) (hk : k ≤ 900) (hM : M.Ok) (o : MemOp) {a t : Int} (ha : 0 ≤ a ∧ a < 16) (ht : 0 ≤ t ∧ t < 64) (h : ∀ H1, CpuAt H1 x dx mo md wd rl rw (memM o a t M) (k + 1) → Mod [dx, rl, wd] H H1 → Q .none H1) : CV c A E S (.ref 185) [.ref x, .str o.nm 0, .int a 0, .int t 0] H Q := by
  refine (CC_top C 185 (me 23 2) "Cpu.transfer" (.str "moduleyard.cpu" 396) (.ref 184) .none [] ["self", "name", "register", "address"] (by rfl) (by kernel_rfl) (by kernel_rfl) hr (Binds.plain4 (fun _ _ _ _ => by rfl)) rfl (fun L E' A' rm => ?_)).cv
  obtain ⟨ho, hd, hrl, f, n, hm, m4, m5⟩ := id K
  obtain ⟨m1, m2, m3⟩ := id hm
  have ht4 : 0 ≤ t / 4 ∧ t / 4 < 16 := by omega
  have hw := m5 (t / 4) ht4.1 ht4.2
  cases o <;> simp only [MemOp.nm]
  · walk_at "w"
    refine w_word C (by walk_at "room") hm ht ?_
    rw [hw]
    walk_at "w"
    refine SETI_regs K hM.len ha fun H1 K1 l1 => ?_
    walk_at "w"
    exact h _ (K1.more (by omega)) l1
  · walk_at "w"
    refine w_byte C (by walk_at "room") hm ht hw ?_
    walk_at "w"
    refine SETI_regs K hM.len ha fun H1 K1 l1 => ?_
    walk_at "w"
    exact h _ (K1.more (by omega)) l1
  · walk_at "w"
    refine SUB_regs K hM ha ?_
    walk_at "w"
    refine w_put_word C (by walk_at "room") hm (by omega) ht ?_
    walk_at "w"
    exact h _ (K.setW hm m4 (putF_getD m5)) (Mod.one (.tail _ (.tail _ (.head _))))
  · walk_at "w"
    refine SUB_regs K hM ha ?_
    walk_at "w"
    refine w_put_byte C (by walk_at "room") hm (by omega) ht hw ?_
    walk_at "w"
    exact h _ (K.setW hm m4 (putF_getD m5)) (Mod.one (.tail _ (.tail _ (.head _))))
theorem w_transfer_trap (C : c.Ok) (hr : Room 6 A (S.map (·.1))) (K : CpuAt H x dx mo md wd rl rw M k) (hM : M.Ok) (o : MemOp) {a t : Int} (ha : 0 ≤ a ∧ a < 16) (ht : t < 0 ∨ 64 ≤ t) : CV c A (EX c S (fun H1 => Le H H1)) S (.ref 185) [.ref x, .str o.nm 0, .int a 0, .int t 0] H Q := by
  refine (CC_topX C 185 (me 23 2) "Cpu.transfer" (.str "moduleyard.cpu" 396) (.ref 184) .none [] ["self", "name", "register", "address"] (by rfl) (by kernel_rfl) (by kernel_rfl) hr (Binds.plain4 (fun _ _ _ _ => by rfl)) rfl (fun L A' rm hh => ?_)).cv
  obtain ⟨ho, hd, hrl, f, n, hm, m4, m5⟩ := id K
  obtain ⟨m1, m2, m3⟩ := id hm
  cases o <;> simp only [MemOp.nm]
  · walk_at "w"
    exact (w_word_trap C (by walk_at "room") hm ht).inBody
  · walk_at "w"
    exact (w_byte_trap C (by walk_at "room") hm ht).inBody
  · walk_at "w"
    refine SUB_regs K hM ha ?_
    walk_at "w"
    exact (w_put_word_trap C (by walk_at "room") hm ht).inBody
  · walk_at "w"
    refine SUB_regs K hM ha ?_
    walk_at "w"
    exact (w_put_byte_trap C (by walk_at "room") hm ht).inBody
end
inductive BrOp where
  | B | BL | BR | BLR | TRAP
noncomputable def BrOp.nm : BrOp → Str
  | .B => "B" | .BL => "BL" | .BR => "BR" | .BLR => "BLR" | .TRAP => "TRAP"
noncomputable def BrOp.link : BrOp → Bool
  | .BL | .BLR => true
  | _ => false
noncomputable def BrOp.far : BrOp → Bool
  | .BR | .BLR => true
  | _ => false
/-- what comes back out of a step -/
noncomputable def Tv (H : AH) (Q : Value → AH → Prop) : Option (Int × Int) → Prop
  | none => Q .none H
  | some p => ∀ t, H t = none → Q (.ref t) (H.set t (.tuple [.str "trap" 0, .int p.1 0, .int p.2 0]))
noncomputable def ctM (k : Str) (M : Mach) : Bool := ct (condNames.idxOf k) M.n M.z M.cc M.v
noncomputable def brM (o : BrOp) (k : Str) (b d : Int) (M : Mach) : Option (Int × Int) × Mach :=
  if ctM k M then (match o with
    | .TRAP => (some (b, d), M)
    | o => (none, { M with regs := if o.link then M.regs.set 15 M.pc else M.regs, pc := if o.far then M.get b else M.pc + b }))
  else (none, M)
section
variable {x dx mo md wd rl rw : Addr} {M : Mach} {k : Nat} {QH : AH → Prop}
theorem w_branch (C : c.Ok) (hr : Room 3 A (S.map (·.1))) (K : CpuAt H x dx mo md wd rl rw M k) (hM : M.Ok) (o : BrOp) {ra : Addr} {cond : Str} {b d : Int} (hc : cond ∈ condNames) (hra : H ra = some (.tuple [.str o.nm 0, .str cond 0, .int b 0, .int d 0])) (hb : o.far = true → 0 ≤ b ∧ b < 16)
    (h : ∀ H1, CpuAt H1 x dx mo md wd rl rw (brM o cond b d M).2 k → Mod [dx, rl, wd] H H1 → Tv H1 Q (brM o cond b d M).1) : CV c A E S (.ref 199) [.ref x, .str o.nm 0, .ref ra] H Q := by
  refine (CC_top C 199 (me 23 4) "Cpu.branch" (.str "moduleyard.cpu" 396) (.ref 198) .none [] ["self", "name", "row"] (by rfl) (by kernel_rfl) (by kernel_rfl) hr (Binds.plain3 (fun _ _ _ => by rfl)) rfl (fun L E' A' rm => ?_)).cv
  obtain ⟨ho, hd, hrl, -⟩ := id K
  walk_at "w"
  refine w_flags C (by walk_at "room") K fun t ht => ?_
  walk_at "w"
  refine w_holds C (by walk_at "room") hc AH.set_self ?_
  walk_at "w"
  have hcm : ct (condNames.idxOf cond) M.n M.z M.cc M.v = ctM cond M := rfl
  rw [hcm]
  cases hct : ctM cond M
  · walk_at "br"
    refine X.less ?_ (sub_new ht)
    walk_at "w"
    have h' := h H (by unfold brM; rw [hct]; exact K) Mod.refl
    unfold brM at h'; rw [hct] at h'
    exact h'
  · walk_at "br"
    have h0 : ∀ H1, CpuAt H1 x dx mo md wd rl rw (brM o cond b d M).2 k → Mod [dx, rl, wd] H H1 → Tv H1 Q (brM o cond b d M).1 := h
    unfold brM at h0
    rw [hct] at h0
    simp only [if_true] at h0
    refine X.less ?_ (sub_new ht)
    cases o <;> simp only [BrOp.nm] at hra ⊢ <;> simp only [BrOp.link, BrOp.far] at h0 hb <;> walk_at "w"
    · refine SETA_pc C K fun H1 K1 l1 => ?_
      walk_at "w"
      exact h0 _ K1 l1
    · refine SETI_regs K hM.len (by decide) fun H1 K1 l1 => ?_
      obtain ⟨ho, hd, hrl, -⟩ := id K1
      walk_at "w"
      refine SETA_pc C K1 fun H2 K2 l2 => ?_
      walk_at "w"
      exact h0 _ K2 (l1.trans l2)
    · refine SUB_regs K hM (hb trivial) ?_
      walk_at "w"
      refine SETA_pc C K fun H1 K1 l1 => ?_
      walk_at "w"
      exact h0 _ K1 l1
    · refine SUB_regs K hM (hb trivial) ?_
      walk_at "w"
      refine SETI_regs K hM.len (by decide) fun H1 K1 l1 => ?_
      obtain ⟨ho, hd, hrl, -⟩ := id K1
      walk_at "w"
      refine SETA_pc C K1 fun H2 K2 l2 => ?_
      walk_at "w"
      exact h0 _ K2 (l1.trans l2)
    · refine ⟨by simp, fun u hu => ?_⟩
      walk_at "w"
      exact h0 H K Mod.refl u hu
end
end
section
variable {c : Cx} {A : Around} {E : Value → Shared → Prop} {env : Env} {L : Addr} {S : Stk} {m : Loc} {H : AH} {s : Shared} {Q : Value → AH → Prop}
noncomputable def opNames : List Str := ["MOV", "LSL", "ASR", "ROR", "AND", "ANN", "IOR", "XOR", "ADD", "SUB", "MUL", "DIV"]
noncomputable def Op.nmI : Op → Str
  | .MOV => "MOVI" | .LSL => "LSLI" | .ASR => "ASRI" | .ROR => "RORI" | .AND => "ANDI" | .ANN => "ANNI" | .IOR => "IORI" | .XOR => "XORI" | .ADD => "ADDI" | .SUB => "SUBI" | .MUL => "MULI" | .DIV => "DIVI"
theorem cont (o : Op) : opNames.contains o.nm = true := by cases o <;> kernel_rfl
theorem contI (o : Op) : opNames.contains o.nmI = false := by cases o <;> kernel_rfl
theorem sliceI (o : Op) : strSlice o.nmI (some (-1)) none = "I" := by cases o <;> kernel_rfl
theorem sliceN (o : Op) : strSlice o.nmI none (some (-1)) = o.nm := by cases o <;> kernel_rfl
theorem lenI (o : Op) : o.nmI.length ≤ 1000 := by cases o <;> decide +kernel
theorem w_regnames (C : c.Ok) (hr : Room 1 A (S.map (·.1))) (h : ∀ t, H t = none → Q (.ref t) (H.set t (.tuple (opNames.map fun x => .str x 0)))) : CV c A E S (.ref 234) [] H Q := by
  refine (CC_top C 234 (st 24) "register_names" (.str "moduleyard.cpu" 396) (.ref 233) .none [] [] (by rfl) (by kernel_rfl) (by kernel_rfl) hr (Binds.plain0 (by rfl)) rfl (fun L E' A' r => ?_)).cv
  walk_at "w"
  refine ⟨by simp, fun t ht => ?_⟩
  walk_at "w"
  exact h t ht
noncomputable def Op.isDiv : Op → Bool
  | .DIV => true
  | _ => false
noncomputable def aluM (o : Op) (a x y : Int) (M : Mach) : Option (Int × Int) × Mach :=
  if (o.isDiv && decide (plus y ≤ 0)) = true then (some (6, 0), M) else
  (none, { M with regs := M.regs.set a.toNat (res o x y), n := decide (2147483648 ≤ res o x y), z := decide (res o x y = 0), cc := carry o x y, v := over o x y, h := (high o x y).getD M.h })
section
variable {x dx mo md wd rl rw : Addr} {M : Mach} {k : Nat} {QH : AH → Prop}
theorem Tv.mono {r : Option (Int × Int)} {Q' : Value → AH → Prop} (h : Tv H Q r) (q : ∀ v H, Q v H → Q' v H) : Tv H Q' r := by
  cases r with
  | none => exact q _ _ h
  | some p => exact fun t ht => q _ _ (h t ht)
theorem calc_tail (C : c.Ok) {A : Around} {L : Addr} {Qx : Value → AH → Prop} (rm : Room 3 A (L :: S.map (·.1))) (K : CpuAt H x dx mo md wd rl rw M k) (hM : M.Ok) {o : Op} {nm : Str} {ra : Addr} {a b d yy : Int} (ha : 0 ≤ a ∧ a < 16) (hb : 0 ≤ b ∧ b < 16) (wy : Wd yy) (hra : H ra = some (.tuple [.str nm 0, .int a 0, .int b 0, .int d 0]))
    (h0 : ∀ H1, CpuAt H1 x dx mo md wd rl rw (aluM o a (M.get b) yy M).2 k → Mod [dx, rl, wd] H H1 → Tv H1 Qx (aluM o a (M.get b) yy M).1) :
    XS c A (envX "Cpu.calculate" (scopeOf (me 23 6)) L 213 (.ref 212) []) E L S [("right", .int yy 0), ("name", .str o.nm 0), ("row", .ref ra), ("self", .ref x)] ((bodyOf (me 23 6)).drop 1) H fun fl m1 H1 => Qx (flowVal fl) H1 := by
  show XS c A _ E L S _ [_, _, _, _, _, _] H _
  obtain ⟨ho, hd, hrl, -⟩ := id K
  walk_at "w"
  refine SUB_regs K hM hb ?_
  walk_at "w"
  have wx := get_wd hM hb
  generalize M.get b = xx at *
  unfold aluM at h0
  by_cases hd0 : (o.isDiv && decide (plus yy ≤ 0)) = true
  · rw [if_pos hd0] at h0
    rw [Bool.and_eq_true, decide_eq_true_eq] at hd0
    obtain ⟨hd1, hd2⟩ := hd0
    have hod : o = .DIV := by cases o <;> first | rfl | cases hd1
    subst hod
    refine w_operate0 C (by walk_at "room") wx wy hd2 ?_
    walk_at "w"
    refine ⟨by simp, fun u hu => ?_⟩
    walk_at "w"
    exact h0 H K Mod.refl u hu
  · rw [if_neg hd0] at h0
    refine w_operate C (by walk_at "room") wx wy (fun q => by subst q; exact Int.not_le.mp fun q => hd0 (by rw [Bool.and_eq_true, decide_eq_true_eq]; exact ⟨rfl, q⟩)) fun t3 ht3 => ?_
    walk_at "w"
    refine ⟨_, _, rfl, .inl AH.set_self, rfl, ?_⟩
    have K1 := K.keep (sub_new (o := outT (res o xx yy) (b2i (carry o xx yy)) (b2i (over o xx yy)) (hiV o xx yy)) ht3)
    have l0 : Mod [dx, rl, wd] H (H.set t3 (outT (res o xx yy) (b2i (carry o xx yy)) (b2i (over o xx yy)) (hiV o xx yy))) := Mod.refl.fresh ht3
    obtain ⟨ho, hd, hrl, -⟩ := id K1
    have hra1 := sub_new (o := outT (res o xx yy) (b2i (carry o xx yy)) (b2i (over o xx yy)) (hiV o xx yy)) ht3 _ _ hra
    walk_at "w"
    refine SETA_n C K1 (sign_bit (res_wd _ _ _)) fun H2 K2 l2 => ?_
    walk_at "w"
    refine SETA_z C K2 (b := decide (res o xx yy = 0)) (by by_cases q : res o xx yy = 0 <;> simp [q, b2i]) fun H3 K3 l3 => ?_
    walk_at "w"
    refine SETA_c C K3 rfl fun H4 K4 l4 => ?_
    walk_at "w"
    refine SETA_v C K4 rfl fun H5 K5 l5 => ?_
    have l6 := ((((l0.trans l2).trans l3).trans l4).trans l5)
    have hra5 := l6 ra _ (fun q => by
      simp only [List.mem_cons, List.not_mem_nil, or_false] at q
      rcases q with rfl | rfl | rfl
      · rw [K.d] at hra; cases hra
      · rw [K.r] at hra; cases hra
      · obtain ⟨f, n, hm, -⟩ := K.m; rw [hm.w] at hra; cases hra) hra
    obtain ⟨ho, hd, hrl, -⟩ := id K5
    walk_at "w"
    refine SETI_regs K5 hM.len ha fun H6 K6 l7 => ?_
    obtain ⟨ho, hd, hrl, -⟩ := id K6
    walk_at "w"
    unfold hiV
    cases hh : high o xx yy with
    | none =>
      rw [hh] at h0
      refine CMP_isnot_none (by rfl) ?_
      walk_at "w"
      exact h0 _ K6 (l6.trans l7)
    | some kk =>
      rw [hh] at h0
      refine CMP_isnot_none (by rfl) ?_
      walk_at "w"
      refine SETA_h C K6 fun H7 K7 l8 => ?_
      walk_at "w"
      exact h0 _ K7 ((l6.trans l7).trans l8)
theorem w_calc (C : c.Ok) (hr : Room 4 A (S.map (·.1))) (K : CpuAt H x dx mo md wd rl rw M k) (hM : M.Ok) (o : Op) {ra : Addr} {a b d : Int} (ha : 0 ≤ a ∧ a < 16) (hb : 0 ≤ b ∧ b < 16) (hdd : 0 ≤ d ∧ d < 16) (hra : H ra = some (.tuple [.str o.nm 0, .int a 0, .int b 0, .int d 0]))
    (h : ∀ H1, CpuAt H1 x dx mo md wd rl rw (aluM o a (M.get b) (M.get d) M).2 k → Mod [dx, rl, wd] H H1 → Tv H1 Q (aluM o a (M.get b) (M.get d) M).1) : CV c A E S (.ref 213) [.ref x, .str o.nm 0, .ref ra] H Q := by
  refine (CC.post (CC_top C 213 (me 23 6) "Cpu.calculate" (.str "moduleyard.cpu" 396) (.ref 212) .none [] ["self", "name", "row"] (by rfl) (by kernel_rfl) (by kernel_rfl) hr (Binds.plain3 (fun _ _ _ => by rfl)) rfl (fun L E' A' rm => ?_))).cv
  show XS c A' _ E' L S _ (_ :: (bodyOf (me 23 6)).drop 1) _ _
  obtain ⟨ho, hd, hrl, -⟩ := id K
  walk_at "w"
  refine w_regnames C (by walk_at "room") fun t ht => ?_
  refine CMP_in_names (names := opNames) AH.set_self ?_
  rw [cont]
  walk_at "un"
  walk_at "br"
  refine X.less ?_ (sub_new ht)
  walk_at "w"
  refine SUB_regs K hM hdd ?_
  walk_at "w"
  refine X.loc (calc_tail (Qx := fun v H1 => ∃ H2, Le H2 H1 ∧ Q v H2) C rm K hM ha hb (get_wd hM hdd) hra fun H1 K1 l1 => Tv.mono (h H1 K1 l1) fun v H q => ⟨H, Le.refl, q⟩) ?_
  walk_at "sub"
theorem w_calcI (C : c.Ok) (hr : Room 4 A (S.map (·.1))) (K : CpuAt H x dx mo md wd rl rw M k) (hM : M.Ok) (o : Op) {ra : Addr} {a b d : Int} (ha : 0 ≤ a ∧ a < 16) (hb : 0 ≤ b ∧ b < 16) (hra : H ra = some (.tuple [.str o.nmI 0, .int a 0, .int b 0, .int d 0]))
    (h : ∀ H1, CpuAt H1 x dx mo md wd rl rw (aluM o a (M.get b) (d % 4294967296) M).2 k → Mod [dx, rl, wd] H H1 → Tv H1 Q (aluM o a (M.get b) (d % 4294967296) M).1) : CV c A E S (.ref 213) [.ref x, .str o.nmI 0, .ref ra] H Q := by
  refine (CC.post (CC_top C 213 (me 23 6) "Cpu.calculate" (.str "moduleyard.cpu" 396) (.ref 212) .none [] ["self", "name", "row"] (by rfl) (by kernel_rfl) (by kernel_rfl) hr (Binds.plain3 (fun _ _ _ => by rfl)) rfl (fun L E' A' rm => ?_))).cv
  show XS c A' _ E' L S _ (_ :: (bodyOf (me 23 6)).drop 1) _ _
  obtain ⟨ho, hd, hrl, -⟩ := id K
  walk_at "w"
  refine w_regnames C (by walk_at "room") fun t ht => ?_
  refine CMP_in_names (names := opNames) AH.set_self ?_
  rw [contI]
  walk_at "un"
  walk_at "br"
  refine X.less ?_ (sub_new ht)
  refine XS_cons (XE_if (TST_And (TST_Compare ?_)))
  refine EV_slice_str (x := o.nmI) (l := some (-1)) (u := none) ?_ ?_ trivial (lenI o) ?_
  · exact EV_local (by rfl) ⟨rfl, rfl⟩
  · exact EV_UnaryOp (EV_int (UN_neg ⟨rfl, rfl⟩))
  rw [sliceI]
  walk_at "w"
  refine EV_slice_str (x := o.nmI) (l := none) (u := some (-1)) ?_ trivial ?_ (lenI o) ?_
  · exact EV_local (by rfl) ⟨rfl, rfl⟩
  · exact EV_UnaryOp (EV_int (UN_neg ⟨rfl, rfl⟩))
  rw [sliceN]
  walk_at "w"
  refine w_regnames C (by walk_at "room") fun t2 ht2 => ?_
  refine CMP_in_names (names := opNames) AH.set_self ?_
  rw [cont]
  walk_at "un"
  walk_at "br"
  refine X.less ?_ (sub_new ht2)
  refine XS_cons (XE_assign ?_)
  refine EV_slice_str (x := o.nmI) (l := none) (u := some (-1)) ?_ trivial ?_ (lenI o) ?_
  · exact EV_local (by rfl) ⟨rfl, rfl⟩
  · exact EV_UnaryOp (EV_int (UN_neg ⟨rfl, rfl⟩))
  rw [sliceN]
  walk_at "w"
  refine X.loc (calc_tail (Qx := fun v H1 => ∃ H2, Le H2 H1 ∧ Q v H2) C rm K hM ha hb (wd_mod d) hra fun H1 K1 l1 => Tv.mono (h H1 K1 l1) fun v H q => ⟨H, Le.refl, q⟩) ?_
  walk_at "sub"
end
end
section
variable {c : Cx} {A : Around} {E : Value → Shared → Prop} {env : Env} {L : Addr} {S : Stk} {m : Loc} {H : AH} {s : Shared} {Q : Value → AH → Prop}
inductive Ins where
  | op (o : Op) (a b d : Int)
  | opI (o : Op) (a b d : Int)
  | movh (a : Int)
  | geth (a : Int)
  | mem (o : MemOp) (a b d : Int)
  | br (o : BrOp) (k : Str) (b d : Int)
noncomputable def Ins.vals : Ins → List Value
  | .op o a b d => [.str o.nm 0, .int a 0, .int b 0, .int d 0]
  | .opI o a b d => [.str o.nmI 0, .int a 0, .int b 0, .int d 0]
  | .movh a => [.str "MOVH" 0, .int a 0, .int 0 0, .int 0 0]
  | .geth a => [.str "GETH" 0, .int a 0, .int 0 0, .int 0 0]
  | .mem o a b d => [.str o.nm 0, .int a 0, .int b 0, .int d 0]
  | .br o k b d => [.str o.nm 0, .str k 0, .int b 0, .int d 0]
noncomputable def Rg (a : Int) : Prop := 0 ≤ a ∧ a < 16
noncomputable def Ins.Ok : Ins → Prop
  | .op _ a b d => Rg a ∧ Rg b ∧ Rg d
  | .opI _ a b _ => Rg a ∧ Rg b
  | .movh a => Rg a
  | .geth a => Rg a
  | .mem _ a b _ => Rg a ∧ Rg b
  | .br o k b _ => k ∈ condNames ∧ (o.far = true → Rg b)
noncomputable def execM (i : Ins) (M : Mach) : Option (Int × Int) × Mach := match i with
  | .op o a b d => aluM o a (M.get b) (M.get d) M
  | .opI o a b d => aluM o a (M.get b) (d % 4294967296) M
  | .movh a => (none, M.put a 0)
  | .geth a => (none, M.put a M.h)
  | .mem o a b d => if (M.get b + d) % 4294967296 < 64 then (none, memM o a ((M.get b + d) % 4294967296) M) else (some (4, 0), M)
  | .br o k b d => brM o k b d M
noncomputable def Mach.on (M : Mach) : Mach := { M with pc := M.pc + 1 }
noncomputable def stepM (P : List Ins) (M : Mach) : Option (Int × Int) × Mach :=
  if 0 ≤ M.pc ∧ M.pc < P.length then (match P[M.pc.toNat]? with | some i => execM i M.on | none => (some (15, 0), M)) else (some (15, 0), M)
noncomputable def RowsAt (H : AH) (rw : Addr) (P : List Ins) : Prop := ∃ as : List Addr, H rw = some (.list (as.map .ref)) ∧ as.length = P.length ∧ ∀ (i : Nat) a ins, as[i]? = some a → P[i]? = some ins → H a = some (.tuple ins.vals)
noncomputable def memNames : List Str := ["LDR", "LDB", "STR", "STB"]
noncomputable def brNames : List Str := ["B", "BL", "BR", "BLR", "TRAP"]
theorem CC_topH (C : c.Ok) (f : Addr) (S0 : Stmt) (qual : Str) (pm cdv dV : Value) {n : Nat} {name : Str} {params : Arguments} {body : List Stmt} {d1 : List Expr} {d2 : Option Expr} {d3} {scope : Scope} {d4 : Option Scope} {d5 : Str} {d6 : Pos} {vs : List Value} (dv : List Value) (names : List Str) {Q : Value → AH → Prop}
    (hS : S0 = .FunctionDef name params body d1 d2 d3 scope d4 d5 d6) (ho : c.K.lookup f = some (fo S0 qual pm cdv dV)) (hcd : fnFine c.K qual cdv scope names = true) (hr : Room (n + 1) A (S.map (·.1)))
    (hb : Binds c (fnOf name qual params body scope dV .none .none pm none cdv .none) vs names dv) (hn : names.length = vs.length + dv.length)
    (h : ∀ L E' A', Room n A' (L :: S.map (·.1)) → Here A' (envX qual scope L f cdv []) (L :: S.map (·.1)) → XS c A' (envX qual scope L f cdv []) E' L S (names.zip (vs ++ dv.map er)) body H fun fl m H1 => Q (flowVal fl) H1)
    (hk : scope.kind = .function := by rfl) : CC c A E S (.ref f) vs H Q :=
  CC_topE C f S0 qual pm cdv dV dv names hS ho hcd hr hb hn fun L r => h L _ _ r (Here.of hr.2.2.2 rfl hk)
theorem RowsAt.mod {rw : Addr} {P : List Ins} (R : RowsAt H rw P) {H1 : AH} {ls : List Addr} (l : Mod ls H H1) (h1 : rw ∉ ls) (h2 : ∀ a vs, H a = some (.tuple vs) → a ∉ ls) : RowsAt H1 rw P := by
  obtain ⟨as, r1, r2, r3⟩ := R
  exact ⟨as, l _ _ h1 r1, r2, fun i a ins e1 e2 => l _ _ (h2 _ _ (r3 i a ins e1 e2)) (r3 i a ins e1 e2)⟩
theorem mem_op (o : Op) : memNames.contains o.nm = false := by cases o <;> kernel_rfl
theorem mem_opI (o : Op) : memNames.contains o.nmI = false := by cases o <;> kernel_rfl
theorem mem_mem (o : MemOp) : memNames.contains o.nm = true := by cases o <;> kernel_rfl
theorem mem_br (o : BrOp) : memNames.contains o.nm = false := by cases o <;> kernel_rfl
theorem mem_movh : memNames.contains "MOVH" = false := by kernel_rfl
theorem mem_geth : memNames.contains "GETH" = false := by kernel_rfl
theorem br_op (o : Op) : brNames.contains o.nm = false := by cases o <;> kernel_rfl
theorem br_opI (o : Op) : brNames.contains o.nmI = false := by cases o <;> kernel_rfl
theorem br_br (o : BrOp) : brNames.contains o.nm = true := by cases o <;> kernel_rfl
theorem br_movh : brNames.contains "MOVH" = false := by kernel_rfl
theorem br_geth : brNames.contains "GETH" = false := by kernel_rfl
theorem op_movh (o : Op) : (o.nm == ("MOVH" : Str)) = false := by cases o <;> kernel_rfl
theorem op_geth (o : Op) : (o.nm == ("GETH" : Str)) = false := by cases o <;> kernel_rfl
theorem opI_movh (o : Op) : (o.nmI == ("MOVH" : Str)) = false := by cases o <;> kernel_rfl
theorem opI_geth (o : Op) : (o.nmI == ("GETH" : Str)) = false := by cases o <;> kernel_rfl
noncomputable def Ins.nm : Ins → Str
  | .op o .. => o.nm | .opI o .. => o.nmI | .movh _ => "MOVH" | .geth _ => "GETH" | .mem o .. => o.nm | .br o .. => o.nm
noncomputable def Ins.f1 : Ins → Value
  | .op _ a _ _ => .int a 0 | .opI _ a _ _ => .int a 0 | .movh a => .int a 0 | .geth a => .int a 0 | .mem _ a _ _ => .int a 0 | .br _ k _ _ => .str k 0
noncomputable def Ins.f2 : Ins → Value
  | .op _ _ b _ => .int b 0 | .opI _ _ b _ => .int b 0 | .movh _ => .int 0 0 | .geth _ => .int 0 0 | .mem _ _ b _ => .int b 0 | .br _ _ b _ => .int b 0
noncomputable def Ins.f3 : Ins → Value
  | .op _ _ _ d => .int d 0 | .opI _ _ _ d => .int d 0 | .movh _ => .int 0 0 | .geth _ => .int 0 0 | .mem _ _ _ d => .int d 0 | .br _ _ _ d => .int d 0
theorem Ins.vals_eq (i : Ins) : i.vals = [.str i.nm 0, i.f1, i.f2, i.f3] := by cases i <;> rfl
section
variable {x dx mo md wd rl rw : Addr} {M : Mach} {k : Nat} {QH : AH → Prop} {P : List Ins}
theorem CpuAt.notTuple (K : CpuAt H x dx mo md wd rl rw M k) {a : Addr} {vs : List Value} (ha : H a = some (.tuple vs)) : a ∉ [dx, rl, wd] := fun q => by
  simp only [List.mem_cons, List.not_mem_nil, or_false] at q
  rcases q with rfl | rfl | rfl
  · rw [K.d] at ha; cases ha
  · rw [K.r] at ha; cases ha
  · obtain ⟨f, n, hm, -⟩ := K.m; rw [hm.w] at ha; cases ha
theorem CpuAt.notRows (K : CpuAt H x dx mo md wd rl rw M k) (hM : M.Ok) (R : RowsAt H rw P) : rw ∉ [dx, rl, wd] := fun q => by
  obtain ⟨as, r1, r2, -⟩ := R
  simp only [List.mem_cons, List.not_mem_nil, or_false] at q
  rcases q with rfl | rfl | rfl
  · rw [K.d] at r1; cases r1
  · rw [K.r] at r1
    have e : (M.regs.map fun i => Value.int i 0) = as.map .ref := by injection r1 with r1; injection r1
    have hl := hM.len
    cases hr : M.regs with
    | nil => rw [hr] at hl; cases hl
    | cons i r =>
      rw [hr] at e
      cases as with
      | nil => cases e
      | cons a as => rw [List.map_cons, List.map_cons] at e; injection e with e _; cases e
  · obtain ⟨f, n, hm, -⟩ := K.m; rw [hm.w] at r1; cases r1
theorem CpuAt.rows (K : CpuAt H x dx mo md wd rl rw M k) (hM : M.Ok) (R : RowsAt H rw P) {H1 : AH} (l : Mod [dx, rl, wd] H H1) : RowsAt H1 rw P := R.mod l (K.notRows hM R) fun a vs h => K.notTuple h
theorem on_ok (h : M.Ok) : M.on.Ok := ⟨h.len, h.wd, h.h, h.mem⟩
theorem w_step (C : c.Ok) (hr : Room 8 A (S.map (·.1))) (K : CpuAt H x dx mo md wd rl rw M k) (hk : k ≤ 900) (hM : M.Ok) (hP : ∀ i ∈ P, i.Ok) (R : RowsAt H rw P) (hl : P.length ≤ 1000)
    (h : ∀ H1, CpuAt H1 x dx mo md wd rl rw (stepM P M).2 (k + 1) → Mod [dx, rl, wd] H H1 → Tv H1 Q (stepM P M).1) : CV c A E S (.ref 178) [.ref x] H Q := by
  refine (CC.post (CC_topH C 178 (me 23 1) "Cpu.step" (.str "moduleyard.cpu" 396) (.ref 177) .none [] ["self"] (by rfl) (by kernel_rfl) (by kernel_rfl) hr (Binds.plain1 (fun _ => by rfl)) rfl (fun L E' A' rm hh => ?_))).cv
  obtain ⟨ho, hd, hrl, -⟩ := id K
  obtain ⟨as, r1, r2, r3⟩ := id R
  by_cases hin : 0 ≤ M.pc ∧ M.pc < P.length
  · obtain ⟨p0, p1⟩ := hin
    have hlt : M.pc.toNat < P.length := by omega
    have hlt2 : M.pc.toNat < as.length := by omega
    have e1 := List.getElem?_eq_getElem hlt
    have e2 := List.getElem?_eq_getElem hlt2
    have hrow := r3 _ _ _ e2 e1
    generalize P[M.pc.toNat] = ins at e1 hrow
    generalize as[M.pc.toNat] = ra at e2 hrow
    have hok : ins.Ok := hP _ (List.mem_of_getElem? e1)
    have hst : stepM P M = execM ins M.on := by unfold stepM; rw [if_pos ⟨p0, p1⟩, e1]
    rw [hst] at h
    walk_at "w"
    refine CV_len_list r1 (by rw [List.length_map]; omega) ?_
    rw [List.length_map, r2]
    walk_at "w"
    refine SUB_list r1 p0 (by omega) (v := .ref ra) (by rw [List.getElem?_map, e2]; rfl) ?_
    walk_at "w"
    refine SETA_pc C K fun H2 K2 l2 => ?_
    have hM2 := on_ok hM
    have hrow2 := l2 _ _ (K.notTuple hrow) hrow
    obtain ⟨ho, hd, hrl, -⟩ := id K2
    rw [ins.vals_eq] at hrow2
    walk_at "w"
    have K3 : CpuAt H2 x dx mo md wd rl rw M.on k := K2
    refine ⟨by simp, fun t ht => ?_⟩
    refine CMP_in_names (names := memNames) AH.set_self ?_
    cases hmm : memNames.contains ins.nm with
    | true =>
      walk_at "un"
      walk_at "br"
      refine X.less ?_ (sub_new ht)
      walk_at "w"
      cases ins with
      | mem o a b d =>
        obtain ⟨ga, gb⟩ := hok
        simp only [Ins.nm, Ins.f1, Ins.f2, Ins.f3] at hrow2 ⊢
        walk_at "w"
        have hw := wd_mod (M.get b + d)
        have gM : M.on.get b = M.get b := rfl
        unfold execM at h
        simp only [gM] at h
        by_cases ht64 : (M.get b + d) % 4294967296 < 64
        · rw [if_pos ht64] at h
          refine XE_try C hh rfl rfl rfl (by kernel_rfl) (QE := fun _ => False) ?_ (fun A S H => EV_global C g_TrapError.h ⟨rfl, rfl⟩) (fun m1 a' d' vs H1 q => q.elim)
          walk_at "w"
          refine SUB_regs K3 hM2 gb ?_
          walk_at "w"
          refine w_transfer C (by walk_at "room") K3 hk hM2 o ga ⟨hw.1, ht64⟩ fun H3 K4 l3 => ?_
          walk_at "w"
          exact ⟨_, Le.refl, h H3 K4 (l2.trans l3)⟩
        · rw [if_neg ht64] at h
          refine XE_try C hh rfl rfl rfl (by kernel_rfl) (QE := fun H1 => Le H2 H1) ?_ (fun A S H => EV_global C g_TrapError.h ⟨rfl, rfl⟩) (fun m1 a' d' vs H1 q q2 q3 => ?_)
          · walk_at "w"
            refine SUB_regs K3 hM2 gb ?_
            walk_at "w"
            exact (w_transfer_trap C (by walk_at "room") K3 hM2 o ga (.inr (by omega))).inBody
          · have hda : d' ≠ a' := fun q => by rw [q, q2] at q3; cases q3
            walk_at "w"
            refine GETA_exc C AH.set_self ((AH.set_ne hda).trans q3) (by rfl) (by kernel_rfl) rfl ?_
            walk_at "w"
            refine GETA_exc C AH.set_self ((AH.set_ne hda).trans q3) (by rfl) (by kernel_rfl) rfl ?_
            walk_at "w"
            refine ⟨by simp, fun u hu => ?_⟩
            walk_at "w"
            have l5 : Le H2 (H1.set a' (.raw (excObj (some d') vs))) := q.new q2
            exact ⟨_, sub_new2 l5, _, Le.refl, h H2 (K3.more (by omega)) l2 u (l5.free hu)⟩
      | op o a b d => exact absurd (hmm.symm.trans (mem_op o)) Bool.noConfusion
      | opI o a b d => exact absurd (hmm.symm.trans (mem_opI o)) Bool.noConfusion
      | movh a => exact absurd (hmm.symm.trans mem_movh) Bool.noConfusion
      | geth a => exact absurd (hmm.symm.trans mem_geth) Bool.noConfusion
      | br o kk b d => exact absurd (hmm.symm.trans (mem_br o)) Bool.noConfusion
    | false =>
      walk_at "un"
      walk_at "br"
      refine X.less ?_ (sub_new ht)
      walk_at "w"
      refine ⟨by simp, fun t ht => ?_⟩
      refine CMP_in_names (names := brNames) AH.set_self ?_
      cases hbb : brNames.contains ins.nm with
      | true =>
        walk_at "un"
        walk_at "br"
        refine X.less ?_ (sub_new ht)
        walk_at "w"
        cases ins with
        | br o kk b d => exact w_branch C (by walk_at "room") K3 hM2 o hok.1 hrow2 hok.2 fun H3 K4 l3 => Tv.mono (h H3 (K4.more (by omega)) (l2.trans l3)) fun v H4 q => ⟨_, Le.refl, q⟩
        | op o a b d => exact absurd (hbb.symm.trans (br_op o)) Bool.noConfusion
        | opI o a b d => exact absurd (hbb.symm.trans (br_opI o)) Bool.noConfusion
        | movh a => exact absurd (hbb.symm.trans br_movh) Bool.noConfusion
        | geth a => exact absurd (hbb.symm.trans br_geth) Bool.noConfusion
        | mem o a b d => exact absurd (hmm.symm.trans (mem_mem o)) Bool.noConfusion
      | false =>
        walk_at "un"
        walk_at "br"
        refine X.less ?_ (sub_new ht)
        walk_at "w"
        cases ins with
        | op o a b d =>
          obtain ⟨ga, gb, gd⟩ := hok
          refine ite_no (op_movh o) ?_
          walk_at "w"
          refine ite_no (op_geth o) ?_
          walk_at "w"
          exact w_calc C (by walk_at "room") K3 hM2 o ga gb gd hrow2 fun H3 K4 l3 => Tv.mono (h H3 (K4.more (by omega)) (l2.trans l3)) fun v H4 q => ⟨_, Le.refl, q⟩
        | opI o a b d =>
          obtain ⟨ga, gb⟩ := hok
          refine ite_no (opI_movh o) ?_
          walk_at "w"
          refine ite_no (opI_geth o) ?_
          walk_at "w"
          exact w_calcI C (by walk_at "room") K3 hM2 o ga gb hrow2 fun H3 K4 l3 => Tv.mono (h H3 (K4.more (by omega)) (l2.trans l3)) fun v H4 q => ⟨_, Le.refl, q⟩
        | movh a =>
          refine ite_yes (show (("MOVH" : Str) == ("MOVH" : Str)) = true by kernel_rfl) ?_
          simp only [Ins.nm, Ins.f1, Ins.f2, Ins.f3] at hrow2 ⊢
          walk_at "w"
          refine w_set_result C (by walk_at "room") K3 hM2 hok ⟨by decide, by decide⟩ fun H3 K4 l3 => ?_
          walk_at "w"
          exact ⟨_, Le.refl, h H3 (K4.more (by omega)) (l2.trans l3)⟩
        | geth a =>
          refine ite_no (show (("GETH" : Str) == ("MOVH" : Str)) = false by kernel_rfl) ?_
          simp only [Ins.nm, Ins.f1, Ins.f2, Ins.f3] at hrow2 ⊢
          walk_at "w"
          refine w_set_result C (by walk_at "room") K3 hM2 hok hM2.h fun H3 K4 l3 => ?_
          walk_at "w"
          exact ⟨_, Le.refl, h H3 (K4.more (by omega)) (l2.trans l3)⟩
        | br o kk b d => exact absurd (hbb.symm.trans (br_br o)) Bool.noConfusion
        | mem o a b d => exact absurd (hmm.symm.trans (mem_mem o)) Bool.noConfusion
  · have hst : stepM P M = (some (15, 0), M) := by unfold stepM; rw [if_neg hin]
    rw [hst] at h
    by_cases p0 : M.pc < 0
    · walk_at "w"
      refine ⟨by simp, fun u hu => ?_⟩
      walk_at "w"
      exact ⟨_, Le.refl, h H (K.more (by omega)) Mod.refl u hu⟩
    · have p1 : (P.length : Int) ≤ M.pc := by omega
      walk_at "w"
      refine CV_len_list r1 (by rw [List.length_map]; omega) ?_
      rw [List.length_map, r2]
      walk_at "w"
      refine ⟨by simp, fun u hu => ?_⟩
      walk_at "w"
      exact ⟨_, Le.refl, h H (K.more (by omega)) Mod.refl u hu⟩
end
end
section
variable {c : Cx} {A : Around} {E : Value → Shared → Prop} {env : Env} {L : Addr} {S : Stk} {m : Loc} {H : AH} {s : Shared} {Q : Value → AH → Prop}
theorem set_wd {l : List Int} {i : Nat} {v : Int} (h : ∀ r ∈ l, Wd r) (hv : Wd v) : ∀ r ∈ l.set i v, Wd r := fun r hr => by
  rcases List.mem_or_eq_of_mem_set hr with q | q
  · exact h r q
  · rw [q]; exact hv
theorem setR_ok {M : Mach} (h : M.Ok) {i : Nat} {v : Int} (hv : Wd v) {n z cc vv : Bool} {hh pc : Int} (h2 : Wd hh) : ({ M with regs := M.regs.set i v, n := n, z := z, cc := cc, v := vv, h := hh, pc := pc } : Mach).Ok :=
  ⟨by show (M.regs.set i v).length = 16; rw [List.length_set]; exact h.len, set_wd h.wd hv, h2, h.mem⟩
theorem exec_ok {M : Mach} (h : M.Ok) (hpc : Wd M.pc) {i : Ins} (hi : i.Ok) : (execM i M).2.Ok := by
  have alu : ∀ (o : Op) (a x y : Int), Wd x → Wd y → (aluM o a x y M).2.Ok := fun o a x y hx hy => by
    unfold aluM
    split
    · exact h
    · rename_i hd
      refine setR_ok h (res_wd _ _ _) ?_
      cases hh : high o x y with
      | none => exact h.h
      | some k => exact high_wd hx hy (fun q => by subst q; exact Int.not_le.mp fun q => hd (by rw [Bool.and_eq_true, decide_eq_true_eq]; exact ⟨rfl, q⟩)) hh
  cases i with
  | op o a b d => exact alu o a _ _ (get_wd h hi.2.1) (get_wd h hi.2.2)
  | opI o a b d => exact alu o a _ _ (get_wd h hi.2) (wd_mod d)
  | movh a => exact setR_ok h ⟨by decide, by decide⟩ h.h
  | geth a => exact setR_ok h h.h h.h
  | br o k b d =>
    show (brM o k b d M).2.Ok
    unfold brM
    split
    · cases o <;> first | exact h | exact ⟨h.len, h.wd, h.h, h.mem⟩ | exact setR_ok h hpc h.h
    · exact h
  | mem o a b d =>
    show (if (M.get b + d) % 4294967296 < 64 then (none, memM o a ((M.get b + d) % 4294967296) M) else (some ((4 : Int), (0 : Int)), M)).2.Ok
    have hw := wd_mod (M.get b + d)
    generalize (M.get b + d) % 4294967296 = t at hw
    by_cases q : t < 64
    · rw [if_pos q]
      have t4 : 0 ≤ t / 4 ∧ t / 4 < 16 := by have := hw.1; omega
      cases o with
      | LDR => exact setR_ok h (h.mem _ t4.1 t4.2) h.h
      | LDB =>
        refine setR_ok h ?_ h.h
        have h1 := Int.emod_nonneg (M.mem (t / 4) / 2 ^ (8 * (t % 4)).toNat) (show (256 : Int) ≠ 0 by decide)
        have h2 := Int.emod_lt_of_pos (M.mem (t / 4) / 2 ^ (8 * (t % 4)).toNat) (show (0 : Int) < 256 by decide)
        unfold Wd; omega
      | STR =>
        refine ⟨h.len, h.wd, h.h, fun i h0 h1 => ?_⟩
        show Wd (if i = t / 4 then _ else _)
        split
        · exact wd_mod _
        · exact h.mem i h0 h1
      | STB =>
        refine ⟨h.len, h.wd, h.h, fun i h0 h1 => ?_⟩
        show Wd (if i = t / 4 then _ else _)
        split
        · exact wd_mod _
        · exact h.mem i h0 h1
    · rw [if_neg q]; exact h
theorem step_ok {M : Mach} (h : M.Ok) {P : List Ins} (hP : ∀ i ∈ P, i.Ok) (hl : P.length ≤ 1000) : (stepM P M).2.Ok := by
  unfold stepM
  split
  · rename_i q
    split
    · rename_i i e
      exact exec_ok (on_ok h) (by show Wd (M.pc + 1); unfold Wd; omega) (hP _ (List.mem_of_getElem? e))
    · exact h
  · exact h
/-- some steps -/
noncomputable def runM (P : List Ins) : Nat → Nat → Mach → Option ((Int × Int) × Nat) × Mach
  | _, 0, M => (none, M)
  | i, n + 1, M => match stepM P M with
    | (some p, M') => (some (p, i + 1), M')
    | (none, M') => runM P (i + 1) n M'
theorem runM_succ (P : List Ins) (i n : Nat) (M : Mach) : runM P i (n + 1) M = match stepM P M with
    | (some p, M') => (some (p, i + 1), M')
    | (none, M') => runM P (i + 1) n M' := rfl
theorem Tv_none (h : Q .none H) : Tv H Q none := h
theorem Tv_some {p : Int × Int} (h : ∀ t, H t = none → Q (.ref t) (H.set t (.tuple [.str "trap" 0, .int p.1 0, .int p.2 0]))) : Tv H Q (some p) := h
noncomputable def trapD (p : Int × Int) : PyData := .tuple [.str "trap", .int p.1, .int p.2]
noncomputable def resD (n : Nat) : Option ((Int × Int) × Nat) → PyData
  | some (p, i) => .tuple [trapD p, .int i]
  | none => .tuple [.none, .int n]
theorem RD.trap {t : Addr} {p : Int × Int} (h : H t = some (.tuple [.str "trap" 0, .int p.1 0, .int p.2 0])) : RD H (.ref t) (trapD p) := .tuple h (.cons (.str _) (.cons (.int _) (.cons (.int _) .nil)))
section
variable {x dx mo md wd rl rw : Addr} {M : Mach} {k : Nat} {QH : AH → Prop} {P : List Ins}
theorem not_it {it : Addr} {sq : Sq} {i : Nat} {o : AO} {a : Addr} (ha : H a = some o) (ho : o.isIt = false) (hit : H it = some (sq.ao i)) : it ≠ a := fun q => by
  subst q; rw [hit] at ha; cases ha; rw [sq_isIt] at ho; cases ho
theorem CpuAt.notIt (K : CpuAt H x dx mo md wd rl rw M k) {it : Addr} {sq : Sq} {i : Nat} (hit : H it = some (sq.ao i)) : it ∉ [dx, rl, wd] := fun q => by
  obtain ⟨f, n, hm, -⟩ := K.m
  simp only [List.mem_cons, List.not_mem_nil, or_false] at q
  rcases q with q | q | q
  · exact not_it K.d rfl hit q
  · exact not_it K.r rfl hit q
  · exact not_it hm.w rfl hit q
theorem CpuAt.keeps (K : CpuAt H x dx mo md wd rl rw M k) {H1 : AH} (h : Keep H H1) : CpuAt H1 x dx mo md wd rl rw M k := ⟨h _ _ K.o rfl, h _ _ K.d rfl, h _ _ K.r rfl, let ⟨f, n, a, b, d⟩ := K.m; ⟨f, n, ⟨h _ _ a.o rfl, h _ _ a.d rfl, h _ _ a.w rfl⟩, b, d⟩⟩
theorem RowsAt.keeps (R : RowsAt H rw P) {H1 : AH} (h : Keep H H1) : RowsAt H1 rw P := by
  obtain ⟨as, r1, r2, r3⟩ := R
  exact ⟨as, h _ _ r1 rfl, r2, fun i a ins e1 e2 => h _ _ (r3 i a ins e1 e2) rfl⟩
theorem small_range {n : Nat} (h : n ≤ 1000) : Builtin.Range.small 0 n 1 = true ∧ Builtin.Range.rangeSize 0 n 1 = n := by
  constructor
  · exact small_one (by omega) (by omega) (by omega) (by omega)
  · unfold Builtin.Range.rangeSize; simp; omega
theorem Mod.base {it : Addr} {ls : List Addr} {H2 H1 : AH} (h : H it = none) (l : Le H H2) (x : Mod (it :: ls) H2 H1) : Mod ls H H1 := fun a o ha e => x a o (fun q => by
  rcases List.mem_cons.mp q with q | q
  · rw [q, h] at e; cases e
  · exact ha q) (l a o e)
theorem SubL.cons {m' m : Loc} {y : Str} {v : Value} (h : m'.lookup y = none) (l : SubL m' m) : SubL m' ((y, v) :: m) := fun x u hx => by
  by_cases q : x = y
  · subst q; rw [h] at hx; cases hx
  · rw [lookup_cons_ne q]; exact l x u hx
theorem range_at {a st : Int} {n i : Nat} {v : Value} (h : (Sq.range a st n).xs[i]? = some v) : i < n ∧ v = .int (a + i * st) 0 := by
  simp only [Sq.xs, List.getElem?_map, Option.map_eq_some_iff] at h
  obtain ⟨j, hj, rfl⟩ := h
  have hlt : i < n := by have := (List.getElem?_eq_some_iff.mp hj).1; simpa using this
  rw [List.getElem?_range hlt] at hj
  cases hj
  exact ⟨hlt, rfl⟩
theorem loop0 {env : Env} {y : Str} {body : List Stmt} {L : Addr} {m : Loc} {sq : Sq} {it : Addr} {Q : Flow → Loc → AH → Prop} (h : ∃ (ls : List Addr) (P0 : Nat → AH → Prop), LoopOk c A env y body L m S sq it H Q ls (fun i m1 H1 => m1 = m ∧ P0 i H1)) : ∃ ls P, LoopOk c A env y body L m S sq it H Q ls P :=
  let ⟨ls, P0, h⟩ := h; ⟨ls, _, h⟩
theorem w_run (C : c.Ok) (hr : Room 9 A (S.map (·.1))) (K : CpuAt H x dx mo md wd rl rw M k) (hM : M.Ok) (hP : ∀ i ∈ P, i.Ok) (R : RowsAt H rw P) (hl : P.length ≤ 1000) {n : Nat} (hk : k + n ≤ 900)
    (h : ∀ H1 v, CpuAt H1 x dx mo md wd rl rw (runM P 0 n M).2 (k + n) → Mod [dx, rl, wd] H H1 → RD H1 v (resD n (runM P 0 n M).1) → Q v H1) : CV c A E S (.ref 220) [.ref x, .int n 0] H Q := by
  refine (CC_top C 220 (me 23 7) "Cpu.run" (.str "moduleyard.cpu" 396) (.ref 219) .none [] ["self", "limit"] (by rfl) (by kernel_rfl) (by kernel_rfl) hr (Binds.plain2 (fun _ _ => by rfl)) rfl (fun L E' A' rm => ?_)).cv
  refine XS_cons (XE_for (Room.noh rm) ?_)
  walk_at "w"
  refine CV_range1 fun rr hrr => ?_
  obtain ⟨sm, rs⟩ := small_range (n := n) (by omega)
  refine ITER_range AH.set_self sm rs fun it hit => ?_
  have hKr := K.keep (sub_new (o := .range 0 n 1) hrr)
  have hfin : ∀ i Mi H1, CpuAt H1 x dx mo md wd rl rw Mi (k + i) → i ≤ n → CpuAt H1 x dx mo md wd rl rw Mi (k + n) := fun i Mi H1 K1 hi => K1.more (by omega)
  have K0 : CpuAt ((H.set rr (.range 0 n 1)).set it ((Sq.range 0 1 n).ao 0)) x dx mo md wd rl rw M k := hKr.keep (sub_new hit)
  have hH : Le H ((H.set rr (.range 0 n 1)).set it ((Sq.range 0 1 n).ao 0)) := (Le.refl.new hrr).new hit
  have R0 : RowsAt ((H.set rr (.range 0 n 1)).set it ((Sq.range 0 1 n).ao 0)) rw P := by
    obtain ⟨as, r1, r2, r3⟩ := R
    exact ⟨as, hH _ _ r1, r2, fun i a ins e1 e2 => hH _ _ (r3 i a ins e1 e2)⟩
  have hlen : (Sq.range 0 1 n).xs.length = n := by simp [Sq.xs]
  have hitH : H it = none := (sub_new hrr |> fun (l : Le H _) => l).free hit
  refine loop0 ⟨[dx, rl, wd], fun i H1 => ∃ Mi, CpuAt H1 x dx mo md wd rl rw Mi (k + i) ∧ Mi.Ok ∧ RowsAt H1 rw P ∧ runM P 0 n M = runM P i (n - i) Mi, ?_⟩
  refine ⟨fun _ _ => trivial, K0.notIt AH.set_self, ⟨rfl, M, K0, hM, R0, rfl⟩, ?_, ?_, ?_⟩
  · rintro i m1 H1 H2 ⟨e, Mi, k1, k2, k3, k4⟩ hK
    exact ⟨e, Mi, k1.keeps hK, k2, k3.keeps hK, k4⟩
  · rintro i v m1 H1 hv ⟨rfl, Mi, k1, k2, k3, k4⟩ hMd
    obtain ⟨hin, rfl⟩ := range_at hv
    obtain ⟨ho, hd, hrl, -⟩ := id k1
    have hMod := Mod.base hitH hH hMd
    have hsub : n - i = (n - (i + 1)) + 1 := by omega
    rw [hsub, runM_succ] at k4
    walk_at "w"
    refine w_step C (by walk_at "room") k1 (by omega) k2 hP k3 hl fun H2 K2 l2 => ?_
    have hok := step_ok k2 hP hl
    cases hs : stepM P Mi with
    | mk r M' =>
      rw [hs] at k4 K2 hok
      cases r with
      | none =>
        refine Tv_none ?_
        walk_at "w"
        exact ⟨l2, _, SubL.cons (by kernel_rfl) (SubL.cons (by kernel_rfl) SubL.refl), rfl, M', K2, hok, k1.rows k2 k3 l2, k4⟩
      | some p =>
        refine Tv_some fun t ht => ?_
        walk_at "w"
        refine ⟨by simp, fun u hu => ?_⟩
        walk_at "w"
        have l3 : Le H2 ((H2.set t (.tuple [.str "trap" 0, .int p.1 0, .int p.2 0])).set u (.tuple [.ref t, .int (0 + (i : Int) * 1 + 1) 0])) := (Le.refl.new ht).new hu
        have K3 := K2.keep l3
        have e3 : runM P 0 n M = (some (p, i + 1), M') := k4
        refine h _ _ (by rw [e3]; exact K3.more (by omega)) ((hMod.trans l2).trans fun a o _ e => l3 a o e) ?_
        rw [e3]
        have ht2 : ((H2.set t (.tuple [.str "trap" 0, .int p.1 0, .int p.2 0])).set u (.tuple [.ref t, .int (0 + (i : Int) * 1 + 1) 0])) t = some (.tuple [.str "trap" 0, .int p.1 0, .int p.2 0]) := sub_new hu _ _ AH.set_self
        refine .tuple AH.set_self (.cons (RD.trap ht2) (.cons ?_ .nil))
        have e4 : (0 + (i : Int) * 1 + 1) = ((i + 1 : Nat) : Int) := by omega
        rw [e4]
        exact .int _
  · rintro m1 H1 ⟨rfl, Mi, k1, k2, k3, k4⟩ hMd
    rw [hlen] at k1 k4
    rw [Nat.sub_self] at k4
    have e3 : runM P 0 n M = (none, Mi) := k4
    have hMod := Mod.base hitH hH hMd
    walk_at "w"
    refine ⟨by simp, fun u hu => ?_⟩
    walk_at "w"
    have l3 : Le H1 (H1.set u (.tuple [.none, .int n 0])) := Le.refl.new hu
    refine h _ _ (by rw [e3]; exact k1.keep l3) (hMod.trans fun a o _ e => l3 a o e) ?_
    rw [e3]
    exact .tuple AH.set_self (.cons .none (.cons (.int _) .nil))
end
end
section
variable {c : Cx} {A : Around} {E : Value → Shared → Prop} {env : Env} {L : Addr} {S : Stk} {m : Loc} {H : AH} {s : Shared} {Q : Value → AH → Prop}
theorem Room.cmp {n : Nat} {ls : List Addr} (h : Room (n + 1) A ls) {d : Nat} (hd : d ≤ 15) : A.units + d < cLine := by have := h.2.1; omega
/-- the script's row -/
noncomputable def RowAt (H : AH) (a : Addr) : Prop := ∃ ns : List Int, H a = some (.list (ns.map fun i => .int i 0)) ∧ (∀ n ∈ ns, 0 ≤ n ∧ n < 1024) ∧ ns.length ≤ 2000
theorem lay_ints : ∀ ns : List Int, PyData.canLay0 (.list (ns.map .int)) = true := by
  intro ns
  show PyData.canLayAll0 (ns.map .int) = true
  induction ns with
  | nil => rfl
  | cons i r ih => show (true && _) = true; rw [ih]; rfl
theorem w_next (C : c.Ok) (hr : Room 2 A (S.map (·.1))) {a : Addr} (R : RowAt H a) (h : ∀ H1 v, RowAt H1 a → Mod [a] H H1 → 0 ≤ v → v < 1024 → Q (.int v 0) H1) : CV c A E S (.ref 304) [.ref a] H Q := by
  refine (CC.post (CC_top C 304 (st 30) "_law_next" (.str "law_pb0343_01" 592) (.ref 303) .none [] ["row"] (by rfl) (by kernel_rfl) (by kernel_rfl) hr (Binds.plain1 (fun _ => by rfl)) rfl (fun L E' A' rm => ?_))).cv
  obtain ⟨ns, e, hb, hl⟩ := R
  walk_at "w"
  refine ⟨by simp, fun b hbn => ?_⟩
  refine CMP_ne_data (RD.list (sub_new hbn _ _ e) (RDs.ints ns)) (RD.list AH.set_self .nil) (lay_ints ns) (by rfl) (Nat.lt_of_le_of_lt (Nat.add_le_add_left (Nat.min_le_right _ _) _) (rm.cmp (by decide))) ?_
  walk_at "un"
  rcases List.eq_nil_or_concat ns with rfl | ⟨ms, v, rfl⟩
  · walk_at "w"
    exact ⟨H, sub_new hbn, h H 0 ⟨[], e, by simp, by simp⟩ Mod.refl (by decide) (by decide)⟩
  · simp only [List.concat_eq_append] at e hb hl ⊢
    have hne : PyData.eqv (.list ((ms ++ [v]).map .int)) (.list []) = false := by
      cases ms <;> rfl
    rw [hne]
    walk_at "br"
    refine EV.less ?_ (sub_new hbn)
    walk_at "w"
    rw [List.map_append] at e
    refine METH_list C e PySem.F.slot_list_pop (by rfl) ?_ (by rfl)
    walk_at "w"
    have hl' : ms.length ≤ 2000 := by rw [List.length_append] at hl; simp at hl; omega
    refine CV_pop e (by rw [List.length_map]; omega) ?_
    walk_at "w"
    refine ⟨_, Le.refl, h _ v ⟨ms, AH.set_self, fun n hn => hb n (List.mem_append_left _ hn), hl'⟩ (Mod.one (.head _)) (hb v (by simp)).1 (hb v (by simp)).2⟩
theorem pick8 {i : Int} (h : 0 ≤ i ∧ i < 8) : ∃ v, ([Value.int 0 0, .int 1 0, .int (2 ^ (31 : Int).toNat - 1) 0, .int (2 ^ (31 : Int).toNat) 0, .int (2 ^ (31 : Int).toNat + 1) 0, .int (2 ^ (32 : Int).toNat - 1) 0, .int 65535 0, .int 65536 0] : List Value)[i.toNat]? = some (.int v 0) ∧ Wd v := by
  have : i.toNat < 8 := by omega
  generalize i.toNat = n at this
  match n, this with
  | 0, _ => exact ⟨_, rfl, by decide, by decide⟩
  | 1, _ => exact ⟨_, rfl, by decide, by decide⟩
  | 2, _ => exact ⟨_, rfl, by decide, by decide⟩
  | 3, _ => exact ⟨_, rfl, by decide, by decide⟩
  | 4, _ => exact ⟨_, rfl, by decide, by decide⟩
  | 5, _ => exact ⟨_, rfl, by decide, by decide⟩
  | 6, _ => exact ⟨_, rfl, by decide, by decide⟩
  | 7, _ => exact ⟨_, rfl, by decide, by decide⟩
theorem Mod.sub_new {ls : List Addr} {H1 : AH} {t : Addr} {o : AO} (h : H1 t = none) : Mod ls H1 (H1.set t o) := Mod.refl.fresh h
theorem w_word' (C : c.Ok) (hr : Room 3 A (S.map (·.1))) {a : Addr} (R : RowAt H a) (h : ∀ H1 v, RowAt H1 a → Mod [a] H H1 → Wd v → Q (.int v 0) H1) : CV c A E S (.ref 311) [.ref a] H Q := by
  refine (CC.post (CC_top C 311 (st 31) "_law_word" (.str "law_pb0343_01" 592) (.ref 310) .none [] ["row"] (by rfl) (by kernel_rfl) (by kernel_rfl) hr (Binds.plain1 (fun _ => by rfl)) rfl (fun L E' A' rm => ?_))).cv
  walk_at "w"
  refine w_next C (by walk_at "room") R fun H1 v R1 l1 v0 v1 => ?_
  walk_at "w"
  have e32 : (2 : Int) ^ (32 : Int).toNat = 4294967296 := rfl
  by_cases h4 : v % 8 < 4
  · by_cases h2 : v % 8 < 2
    · walk_at "w"
      refine w_next C (by walk_at "room") R1 fun H2 u R2 l2 u0 u1 => ?_
      walk_at "w"
      exact ⟨_, Le.refl, h _ _ R2 (l1.trans l2) (by unfold Wd; omega)⟩
    · walk_at "w"
      refine w_next C (by walk_at "room") R1 fun H2 u R2 l2 u0 u1 => ?_
      walk_at "w"
      exact ⟨_, Le.refl, h _ _ R2 (l1.trans l2) (by unfold Wd; rw [e32]; omega)⟩
  · by_cases h5 : v % 8 = 4
    · walk_at "w"
      refine ⟨by simp, fun t ht => ?_⟩
      have R1' : RowAt (H1.set t (.list [.int 0 0, .int 1 0, .int (2 ^ (31 : Int).toNat - 1) 0, .int (2 ^ (31 : Int).toNat) 0, .int (2 ^ (31 : Int).toNat + 1) 0, .int (2 ^ (32 : Int).toNat - 1) 0, .int 65535 0, .int 65536 0])) a := let ⟨ns, e, x⟩ := R1; ⟨ns, sub_new ht _ _ e, x⟩
      walk_at "w"
      refine w_next C (by walk_at "room") R1' fun H2 u R2 l2 u0 u1 => ?_
      walk_at "w"
      obtain ⟨w, hw, hwd⟩ := pick8 (i := u % 8) (by omega)
      have hta : t ∉ [a] := fun q => by
        have q : t = a := by simpa using q
        subst q; obtain ⟨ns, e, -⟩ := R1; rw [ht] at e; cases e
      refine SUB_list (l2 _ _ hta AH.set_self) (by omega) (by omega) hw ?_
      walk_at "w"
      exact ⟨_, Le.refl, h _ _ R2 ((l1.trans (Mod.sub_new ht)).trans l2) hwd⟩
    · walk_at "w"
      refine w_next C (by walk_at "room") R1 fun H2 u R2 l2 u0 u1 => ?_
      walk_at "w"
      refine w_next C (by walk_at "room") R2 fun H3 p R3 l3 p0 p1 => ?_
      walk_at "w"
      refine w_next C (by walk_at "room") R3 fun H4 q R4 l4 q0 q1 => ?_
      walk_at "w"
      exact ⟨_, Le.refl, h _ _ R4 (((l1.trans l2).trans l3).trans l4) (wd_mod _)⟩
theorem w_plus (C : c.Ok) (hr : Room 1 A (S.map (·.1))) {x : Int} (h : Q (.int (plus x) 0) H) : CV c A E S (.ref 325) [.int x 0] H Q := by
  refine (CC_top C 325 (st 33) "_law_plus" (.str "law_pb0343_01" 592) (.ref 324) .none [] ["word"] (by rfl) (by kernel_rfl) (by kernel_rfl) hr (Binds.plain1 (fun _ => by rfl)) rfl (fun L E' A' rm => ?_)).cv
  unfold plus at h
  have e31 : (2 : Int) ^ (31 : Int).toNat = 2147483648 := rfl
  have e32 : (2 : Int) ^ (32 : Int).toNat = 4294967296 := rfl
  by_cases q : 2147483648 ≤ x
  · rw [if_pos q] at h
    walk_at "w"
    exact h
  · rw [if_neg q] at h
    walk_at "w"
    exact h
end
section
variable {c : Cx} {A : Around} {E : Value → Shared → Prop} {env : Env} {L : Addr} {S : Stk} {m : Loc} {H : AH} {s : Shared} {Q : Value → AH → Prop}
theorem CMP_neb {n : Nat} {ls : List Addr} {a b : Bool} (hr : Room (n + 1) A ls) (h : Q (.bool (a != b)) H) : CMP c A E S .NotEq (.bool a) (.bool b) H Q :=
  CMP_ne_data (.bool a) (.bool b) rfl rfl (hr.cmp (d := 0) (by decide)) (by cases a <;> cases b <;> exact h)
theorem CMP_eqb {n : Nat} {ls : List Addr} {a b : Bool} (hr : Room (n + 1) A ls) (h : Q (.bool (a == b)) H) : CMP c A E S .Eq (.bool a) (.bool b) H Q :=
  CMP_eq_data (.bool a) (.bool b) rfl rfl (hr.cmp (d := 0) (by decide)) (by cases a <;> cases b <;> exact h)
theorem EV_orb {a b : Expr} {pos : Pos} {p q : Bool} (h1 : EV c A env E S a H fun v H1 => v = .bool p ∧ H1 = H) (h2 : EV c A env E S b H fun v H1 => v = .bool q ∧ H1 = H) (h : Q (.bool (p || q)) H) : EV c A env E S (.BoolOp .Or [a, b] pos) H Q := by
  refine EV_Or fun s z => wpAny_mono (h1 s z) (fun v s1 ⟨H1, x1, e1, e2⟩ => ⟨H1, x1, ?_⟩) fun _ _ e => e
  subst e2
  show TRU c A E S (er v) H1 _
  rw [e1]
  refine TRU_bool ?_
  cases p with
  | true => rw [if_pos rfl]; exact h
  | false =>
    rw [if_neg Bool.false_ne_true]
    exact fun s z => wpAny_mono (h2 s z) (fun u s1 ⟨H2, x2, e3, e4⟩ => ⟨H2, x2, by show Q (er u) H2; rw [e3, e4]; exact h⟩) fun _ _ e => e
theorem w_lholds (C : c.Ok) (hr : Room 2 A (S.map (·.1))) {k : Str} (hk : k ∈ condNames) {n z cc v : Bool} {ml : Addr} (hm : H ml = some (.list [.bool n, .bool z, .bool cc, .bool v])) (h : Q (.bool (ct (condNames.idxOf k) n z cc v)) H) : CV c A E S (.ref 318) [.str k 0, .ref ml] H Q := by
  have hi : condNames.idxOf k < 16 := List.idxOf_lt_length_of_mem hk
  refine (CC.post (CC_top C 318 (st 32) "_law_holds" (.str "law_pb0343_01" 592) (.ref 317) .none [] ["cond", "marks"] (by rfl) (by kernel_rfl) (by kernel_rfl) hr (Binds.plain2 (fun _ _ => by rfl)) rfl (fun L E' A' r => ?_))).cv
  walk_at "w"
  refine ⟨_, _, rfl, .inr hm, rfl, ?_⟩
  walk_at "w"
  refine ⟨by simp, fun t ht => ?_⟩
  walk_at "w"
  refine METH_list C AH.set_self PySem.F.slot_list_index (by rfl) ?_ (by rfl)
  walk_at "w"
  refine CV_index_list (names := condNames) AH.set_self hk (by decide) ?_
  refine Then_next ?_
  refine X.less ?_ (sub_new ht)
  refine XS_cons (XE_assign (EV_Subscript (EV_list ?_)))
  refine EVs_cons (EV_local (by rfl) ?_)
  refine EVs_cons (EV_local (by rfl) ?_)
  refine EVs_cons (EV_local (by rfl) ?_)
  refine EVs_cons (EV_local (by rfl) ?_)
  refine EVs_cons (EV_orb (EV_local (by rfl) ⟨rfl, rfl⟩) (EV_local (by rfl) ⟨rfl, rfl⟩) ?_)
  refine EVs_cons (EV_Compare (EV_local (by rfl) (EV_local (by rfl) (CMP_neb r ?_))))
  refine EVs_cons (EV_orb (EV_local (by rfl) ⟨rfl, rfl⟩) (EV_Compare (EV_local (by rfl) (EV_local (by rfl) (CMP_neb r ⟨rfl, rfl⟩)))) ?_)
  refine EVs_cons (EV_bool (EVs_nil ⟨by simp, fun u hu => ?_⟩))
  walk_at "w"
  have hL : ((truths n z cc v).map Value.bool)[(((condNames.idxOf k : Nat) : Int) % 8).toNat]? = some (.bool ((truths n z cc v).getD (condNames.idxOf k % 8) true)) := by
    have e : (((condNames.idxOf k : Nat) : Int) % 8).toNat = condNames.idxOf k % 8 := by omega
    have h8 : condNames.idxOf k % 8 < 8 := Nat.mod_lt _ (by decide)
    rw [e]
    generalize condNames.idxOf k % 8 = j at h8
    match j, h8 with
    | 0, _ | 1, _ | 2, _ | 3, _ | 4, _ | 5, _ | 6, _ | 7, _ => rfl
  refine SUB_list (vs := (truths n z cc v).map Value.bool) AH.set_self (by omega) (by omega) hL ?_
  unfold ct at h
  by_cases q : condNames.idxOf k < 8
  · rw [if_pos q] at h
    walk_at "w"
    exact ⟨H, sub_new hu, h⟩
  · rw [if_neg q] at h
    walk_at "w"
    exact ⟨H, sub_new hu, h⟩
/-- what the law's own unit gives -/
noncomputable def actT (o : Op) (x y : Int) (l : Addr) : AO := .tuple [.int (res o x y) 0, .ref l, hiV o x y]
noncomputable def actM (o : Op) (x y : Int) : AO := .list [.bool (decide (2147483648 ≤ res o x y)), .bool (decide (res o x y = 0)), .bool (carry o x y), .bool (over o x y)]
theorem pow_bd {k : Nat} (h : k ≤ 32) : ((2 : Int) ^ k).natAbs < 2 ^ 64 := by
  rw [Int.natAbs_pow]
  exact Nat.lt_of_le_of_lt (Nat.pow_le_pow_right (by decide) h) (by decide)
theorem act_tail {f : Int} {hv : Value} {cy ov : Bool} {m : Loc} {QL : Flow → Loc → AH → Prop} (h1 : m.lookup ("found" : Str) = some (.int f 0)) (h2 : m.lookup ("high" : Str) = some hv) (h3 : m.lookup ("carry" : Str) = some (.bool cy)) (h4 : m.lookup ("over" : Str) = some (.bool ov))
    (h : ∀ m1 l t, H l = none → (H.set l (.list [.bool (decide (2147483648 ≤ f % 4294967296)), .bool (decide (f % 4294967296 = 0)), .bool cy, .bool ov])) t = none → QL (.ret (.ref t)) m1 ((H.set l (.list [.bool (decide (2147483648 ≤ f % 4294967296)), .bool (decide (f % 4294967296 = 0)), .bool cy, .bool ov])).set t (.tuple [.int (f % 4294967296) 0, .ref l, hv]))) :
    XS c A (envX "_law_act" (scopeOf (st 34)) L 332 (.ref 331) []) E L S m ((bodyOf (st 34)).drop 7) H QL := by
  show XS c A _ E L S m [_, _] H QL
  refine XS_cons (XE_assign (EV_BinOp (EV_local h1 ?_)))
  walk_at "w"
  refine EV_local h3 (EVs_cons (EV_local h4 (EVs_nil ⟨by simp, fun l hl => ?_⟩)))
  walk_at "w"
  refine EV_local h2 (EVs_nil ⟨by simp, fun t ht => ?_⟩)
  exact h _ l t hl ht
theorem w_act (C : c.Ok) (hr : Room 2 A (S.map (·.1))) {x y : Int} (hx : Wd x) (hy : Wd y) {o : Op} (hd : o = .DIV → 0 < plus y) (h : ∀ l t, H l = none → (H.set l (actM o x y)) t = none → Q (.ref t) ((H.set l (actM o x y)).set t (actT o x y l))) : CV c A E S (.ref 332) [.str o.nm 0, .int x 0, .int y 0] H Q := by
  refine (CC_top C 332 (st 34) "_law_act" (.str "law_pb0343_01" 592) (.ref 331) .none [] ["name", "x", "y"] (by rfl) (by kernel_rfl) (by kernel_rfl) hr (Binds.plain3 (fun _ _ _ => by rfl)) rfl (fun L E' A' r => ?_)).cv
  have px := plus_bd hx
  have py := plus_bd hy
  have hdd : o = .DIV → 0 < plus y := hd
  have hc := count_bd y
  have e31 : (2 : Int) ^ (31 : Int).toNat = 2147483648 := rfl
  obtain ⟨x0, x1⟩ := id hx
  obtain ⟨y0, y1⟩ := id hy
  show XS c A' _ _ _ _ _ (_ :: _ :: _ :: _ :: _ :: _ :: (bodyOf (st 34)).drop 6) _ _
  walk_at "w"
  refine w_plus C (by walk_at "room") ?_
  walk_at "w"
  refine w_plus C (by walk_at "room") ?_
  walk_at "w"
  show XS c A' _ _ _ _ _ (_ :: (bodyOf (st 34)).drop 7) _ _
  walk_at "w"
  refine ite_split (fun hq => ?_) (fun qMOV => ?_)
  · obtain rfl := nm_inj (p := .MOV) hq
    walk_at "w"
    (refine' act_tail ?h1 ?h2 ?h3 ?h4 fun m1 l t hl ht => ?h; (case h1 | h2 | h3 | h4 => rfl); (case h => exact h l t hl ht))
  walk_at "w"
  refine ite_split (fun hq => ?_) (fun qADD => ?_)
  · obtain rfl := nm_inj (p := .ADD) hq
    walk_at "w"
    by_cases q1 : -2147483648 ≤ plus x + plus y
    · walk_at "w"
      have e1 : (decide (plus x + plus y < 2 ^ (31 : Int).toNat)) = decide (-2147483648 ≤ plus x + plus y ∧ plus x + plus y < 2147483648) := by
        rw [e31, decide_eq_decide]; exact ⟨fun q => ⟨q1, q⟩, fun q => q.2⟩
      rw [e1]
      walk_at "w"
      (refine' act_tail ?h1 ?h2 ?h3 ?h4 fun m1 l t hl ht => ?h; (case h1 | h2 | h3 | h4 => rfl); (case h => exact h l t hl ht))
    · walk_at "w"
      have e2 : (decide (-2 ^ (31 : Int).toNat ≤ plus x + plus y)) = decide (-2147483648 ≤ plus x + plus y ∧ plus x + plus y < 2147483648) := by
        rw [e31, decide_eq_decide]; exact ⟨fun q => absurd q q1, fun q => absurd q.1 q1⟩
      rw [e2]
      walk_at "w"
      (refine' act_tail ?h1 ?h2 ?h3 ?h4 fun m1 l t hl ht => ?h; (case h1 | h2 | h3 | h4 => rfl); (case h => exact h l t hl ht))
  walk_at "w"
  refine ite_split (fun hq => ?_) (fun qSUB => ?_)
  · obtain rfl := nm_inj (p := .SUB) hq
    walk_at "w"
    by_cases q1 : -2147483648 ≤ plus x - plus y
    · walk_at "w"
      have e1 : (decide (plus x - plus y < 2 ^ (31 : Int).toNat)) = decide (-2147483648 ≤ plus x - plus y ∧ plus x - plus y < 2147483648) := by
        rw [e31, decide_eq_decide]; exact ⟨fun q => ⟨q1, q⟩, fun q => q.2⟩
      rw [e1]
      walk_at "w"
      (refine' act_tail ?h1 ?h2 ?h3 ?h4 fun m1 l t hl ht => ?h; (case h1 | h2 | h3 | h4 => rfl); (case h => exact h l t hl ht))
    · walk_at "w"
      have e2 : (decide (-2 ^ (31 : Int).toNat ≤ plus x - plus y)) = decide (-2147483648 ≤ plus x - plus y ∧ plus x - plus y < 2147483648) := by
        rw [e31, decide_eq_decide]; exact ⟨fun q => absurd q q1, fun q => absurd q.1 q1⟩
      rw [e2]
      walk_at "w"
      (refine' act_tail ?h1 ?h2 ?h3 ?h4 fun m1 l t hl ht => ?h; (case h1 | h2 | h3 | h4 => rfl); (case h => exact h l t hl ht))
  walk_at "w"
  refine ite_split (fun hq => ?_) (fun qMUL => ?_)
  · obtain rfl := nm_inj (p := .MUL) hq
    walk_at "w"
    by_cases q1 : -2147483648 ≤ plus x * plus y
    · walk_at "w"
      have e1 : (decide (plus x * plus y < 2 ^ (31 : Int).toNat)) = decide (-2147483648 ≤ plus x * plus y ∧ plus x * plus y < 2147483648) := by
        rw [e31, decide_eq_decide]; exact ⟨fun q => ⟨q1, q⟩, fun q => q.2⟩
      rw [e1]
      walk_at "w"
      (refine' act_tail ?h1 ?h2 ?h3 ?h4 fun m1 l t hl ht => ?h; (case h1 | h2 | h3 | h4 => rfl); (case h => exact h l t hl ht))
    · walk_at "w"
      have e2 : (decide (-2 ^ (31 : Int).toNat ≤ plus x * plus y)) = decide (-2147483648 ≤ plus x * plus y ∧ plus x * plus y < 2147483648) := by
        rw [e31, decide_eq_decide]; exact ⟨fun q => absurd q q1, fun q => absurd q.1 q1⟩
      rw [e2]
      walk_at "w"
      (refine' act_tail ?h1 ?h2 ?h3 ?h4 fun m1 l t hl ht => ?h; (case h1 | h2 | h3 | h4 => rfl); (case h => exact h l t hl ht))
  walk_at "w"
  refine ite_split (fun hq => ?_) (fun qDIV => ?_)
  · obtain rfl := nm_inj (p := .DIV) hq
    walk_at "w"
    have hp := hdd rfl
    walk_at "w"
    (refine' act_tail ?h1 ?h2 ?h3 ?h4 fun m1 l t hl ht => ?h; (case h1 | h2 | h3 | h4 => rfl); (case h => exact h l t hl ht))
  walk_at "w"
  refine ite_split (fun hq => ?_) (fun qLSL => ?_)
  · obtain rfl := nm_inj (p := .LSL) hq
    walk_at "w"
    (refine' act_tail ?h1 ?h2 ?h3 ?h4 fun m1 l t hl ht => ?h; (case h1 | h2 | h3 | h4 => rfl); (case h => exact h l t hl ht))
  walk_at "w"
  refine ite_split (fun hq => ?_) (fun qASR => ?_)
  · obtain rfl := nm_inj (p := .ASR) hq
    walk_at "w"
    refine B_div ⟨Int.pow_pos (by decide), pow_bd (by omega)⟩ ?_
    walk_at "w"
    (refine' act_tail ?h1 ?h2 ?h3 ?h4 fun m1 l t hl ht => ?h; (case h1 | h2 | h3 | h4 => rfl); (case h => exact h l t hl ht))
  walk_at "w"
  refine ite_split (fun hq => ?_) (fun qROR => ?_)
  · obtain rfl := nm_inj (p := .ROR) hq
    walk_at "w"
    refine B_div ⟨Int.pow_pos (by decide), pow_bd (by omega)⟩ ?_
    walk_at "w"
    (refine' act_tail ?h1 ?h2 ?h3 ?h4 fun m1 l t hl ht => ?h; (case h1 | h2 | h3 | h4 => rfl); (case h => exact h l t hl ht))
  walk_at "w"
  refine ite_split (fun hq => ?_) (fun qAND => ?_)
  · obtain rfl := nm_inj (p := .AND) hq
    walk_at "w"
    (refine' act_tail ?h1 ?h2 ?h3 ?h4 fun m1 l t hl ht => ?h; (case h1 | h2 | h3 | h4 => rfl); (case h => exact h l t hl ht))
  walk_at "w"
  refine ite_split (fun hq => ?_) (fun qANN => ?_)
  · obtain rfl := nm_inj (p := .ANN) hq
    walk_at "w"
    (refine' act_tail ?h1 ?h2 ?h3 ?h4 fun m1 l t hl ht => ?h; (case h1 | h2 | h3 | h4 => rfl); (case h => exact h l t hl ht))
  walk_at "w"
  refine ite_split (fun hq => ?_) (fun qIOR => ?_)
  · obtain rfl := nm_inj (p := .IOR) hq
    walk_at "w"
    (refine' act_tail ?h1 ?h2 ?h3 ?h4 fun m1 l t hl ht => ?h; (case h1 | h2 | h3 | h4 => rfl); (case h => exact h l t hl ht))
  have hX : o = .XOR := by
    cases o <;> first | rfl | (exfalso; first | exact Bool.noConfusion (qMOV.symm.trans (show _ = true by kernel_rfl!)) | exact Bool.noConfusion (qADD.symm.trans (show _ = true by kernel_rfl!)) | exact Bool.noConfusion (qSUB.symm.trans (show _ = true by kernel_rfl!)) | exact Bool.noConfusion (qMUL.symm.trans (show _ = true by kernel_rfl!)) | exact Bool.noConfusion (qDIV.symm.trans (show _ = true by kernel_rfl!)) | exact Bool.noConfusion (qLSL.symm.trans (show _ = true by kernel_rfl!)) | exact Bool.noConfusion (qASR.symm.trans (show _ = true by kernel_rfl!)) | exact Bool.noConfusion (qROR.symm.trans (show _ = true by kernel_rfl!)) | exact Bool.noConfusion (qAND.symm.trans (show _ = true by kernel_rfl!)) | exact Bool.noConfusion (qANN.symm.trans (show _ = true by kernel_rfl!)) | exact Bool.noConfusion (qIOR.symm.trans (show _ = true by kernel_rfl!)))
  subst hX
  walk_at "w"
  (refine' act_tail ?h1 ?h2 ?h3 ?h4 fun m1 l t hl ht => ?h; (case h1 | h2 | h3 | h4 => rfl); (case h => exact h l t hl ht))
end
section
variable {c : Cx} {A : Around} {E : Value → Shared → Prop} {env : Env} {L : Addr} {S : Stk} {m : Loc} {H : AH} {s : Shared} {Q : Value → AH → Prop}
theorem CV_topC (C : c.Ok) (f : Addr) (S0 : Stmt) (qual : Str) (pm cdv dV : Value) {n : Nat} {name : Str} {params : Arguments} {body : List Stmt} {d1 : List Expr} {d2 : Option Expr} {d3} {scope : Scope} {d4 : Option Scope} {d5 : Str} {d6 : Pos} {vs : List Value} (names : List Str) (cm : Str → Option Value) (m : Loc) {Q : Value → AH → Prop}
    (hS : S0 = .FunctionDef name params body d1 d2 d3 scope d4 d5 d6) (ho : c.K.lookup f = some (fo S0 qual pm cdv dV)) (hcd : codeIn c.K cdv qual = true) (hr : Room (n + 1) A (S.map (·.1)))
    (hb : ∀ xs, xs.map er = vs → bindArgs (fnOf name qual params body scope dV .none .none pm none cdv .none) ⟨xs, []⟩ = pure (names.zip xs))
    (hkind : ∀ k, ∀ x ∈ names, scope.names.lookup x = some .local ∨ (scope.names.lookup x = some .cell ∧ ((cellsFrom k scope.names []).lookup x).isSome = true))
    (hcl : ∀ k, ∀ p ∈ cellsFrom k scope.names [], (cellsFrom k scope.names []).lookup p.1 = some p.2)
    (hm : ∀ xs, xs.map er = vs → Lo m (bindL (fun x => scope.names.lookup x) (names.zip xs) fun _ => none))
    (hcm : ∀ xs, xs.map er = vs → ∀ x, (bindC (fun x => scope.names.lookup x) (names.zip xs) (fun _ => none) x).map er = cm x)
    (h : ∀ L A', Room n A' (L :: S.map (·.1)) → (∀ p ∈ cellsFrom (L + 1) scope.names [], L < p.2 ∧ H p.2 = none) → XS c A' (envX qual scope L f cdv (cellsFrom (L + 1) scope.names [])) NoE L S m body (withCells (cellsFrom (L + 1) scope.names []) cm H) fun fl m1 H1 => Q (flowVal fl) H1)
    (hco : scope.isCoroutine = false := by rfl) (hgen : scope.isGenerator = false := by rfl) (hk : scope.kind = .function := by rfl) : CV c A E S (.ref f) vs H Q := by
  subst hS
  exact CV_defC C ho hcd hr hb hkind hcl hm hcm h hco hgen hk
theorem w_got (C : c.Ok) (hr : Room 2 A (S.map (·.1))) {wc : Addr} {f : Int → Option Value} {n : Nat} {at_ : Int} {g : Nat → Int} (hw : H wc = some (.idict f n)) (hg : ∀ j : Nat, j < 4 → (f (at_ + j)).getD (.int 0 0) = .int (g j) 0) (hb : ∀ j, j < 4 → 0 ≤ g j ∧ g j < 256) (h : Q (.int ((List.range 4).map fun j => g j * 256 ^ j).sum 0) H) : CV c A E S (.ref 337) [.ref wc, .int at_ 0] H Q := by
  refine CV.post (CV_topC C 337 (st 35) "_law_got" (.str "law_pb0343_01" 592) (.ref 336) .none ["cells", "at"] (fun x => if x = "at" then some (.int at_ 0) else if x = "cells" then some (.ref wc) else none) [] (by rfl) (by kernel_rfl) (by kernel_rfl) hr ?_ ?_ ?_ (fun xs e x v hv => by cases hv) ?_ (fun L A' rm hc => ?_))
  · intro xs e
    obtain ⟨x, y, rfl, e1, e2⟩ := er2 e
    rfl
  · intro k x hx
    simp only [List.mem_cons, List.not_mem_nil, or_false] at hx
    rcases hx with rfl | rfl
    · exact .inr ⟨by rfl, by rfl⟩
    · exact .inr ⟨by rfl, by rfl⟩
  · intro k p hp
    have hp' : p ∈ [((Str.ofString "at"), k + 1), ((Str.ofString "cells"), k)] := hp
    simp only [List.mem_cons, List.not_mem_nil, or_false] at hp'
    rcases hp' with rfl | rfl
    · rfl
    · rfl
  · intro xs e x
    obtain ⟨a, b, rfl, e1, e2⟩ := er2 e
    show (if x = "at" then some b else if x = "cells" then some a else none).map er = _
    split
    · rw [Option.map_some, e2]
    · split
      · rw [Option.map_some, e1]
      · rfl
  generalize hcs : cellsFrom _ _ _ = cs at hc
  have hcs' : cs = [((Str.ofString "at"), L + 1 + 1), ((Str.ofString "cells"), L + 1)] := by rw [← hcs]; rfl
  clear hcs
  subst hcs'
  have n1 := (hc (Str.ofString "at", L + 1 + 1) (.head _)).2
  have n2 := (hc (Str.ofString "cells", L + 1) (.tail _ (.head _))).2
  have l0 : Le H (withCells [((Str.ofString "at"), L + 1 + 1), ((Str.ofString "cells"), L + 1)] (fun x => if x = "at" then some (.int at_ 0) else if x = "cells" then some (.ref wc) else none) H) := fun b o hb => by
    have q1 : b ≠ L + 1 + 1 := fun q => by rw [q, n1] at hb; cases hb
    have q2 : b ≠ L + 1 := fun q => by rw [q, n2] at hb; cases hb
    unfold withCells
    rw [List.find?_cons, beq_eq_false_iff_ne.mpr (Ne.symm q1), List.find?_cons, beq_eq_false_iff_ne.mpr (Ne.symm q2)]
    exact hb
  have c1 : (withCells [((Str.ofString "at"), L + 1 + 1), ((Str.ofString "cells"), L + 1)] (fun x => if x = "at" then some (.int at_ 0) else if x = "cells" then some (.ref wc) else none) H) (L + 1) = some (.cell (some (.ref wc))) := by
    unfold withCells
    rw [List.find?_cons, beq_eq_false_iff_ne.mpr (Nat.succ_ne_self _), List.find?_cons, beq_self_eq_true]; rfl
  have c2 : (withCells [((Str.ofString "at"), L + 1 + 1), ((Str.ofString "cells"), L + 1)] (fun x => if x = "at" then some (.int at_ 0) else if x = "cells" then some (.ref wc) else none) H) (L + 1 + 1) = some (.cell (some (.int at_ 0))) := by
    unfold withCells
    rw [List.find?_cons, beq_self_eq_true]; rfl
  have c3 := l0 _ _ hw
  generalize (withCells [((Str.ofString "at"), L + 1 + 1), ((Str.ofString "cells"), L + 1)] (fun x => if x = "at" then some (.int at_ 0) else if x = "cells" then some (.ref wc) else none) H) = H0 at l0 c1 c2 c3
  walk_at "w"
  refine EV_listcomp (Room.noh rm) ?_ (by rfl) (by decide +kernel) (by decide +kernel)
  walk_at "w"
  refine CV_range1 fun rr hrr => ?_
  obtain ⟨sm, rs⟩ := small_range (n := 4) (by decide)
  refine ITER_range AH.set_self sm rs fun it hit => ?_
  have l1 : Le H0 ((H0.set rr (.range 0 4 1)).set it ((Sq.range 0 1 4).ao 0)) := (Le.refl.new hrr).new hit
  refine ⟨[], fun i ys H1 => ys = (List.range i).map (fun j => Value.int (g j * 256 ^ j) 0) ∧ H1 (L + 1) = some (.cell (some (.ref wc))) ∧ H1 (L + 1 + 1) = some (.cell (some (.int at_ 0))) ∧ H1 wc = some (.idict f n), ?_⟩
  refine ⟨fun _ _ => trivial, by simp, by decide, by simp, ⟨rfl, l1 _ _ c1, l1 _ _ c2, l1 _ _ c3⟩, ?_, ?_, ?_⟩
  · rintro D i ys H1 H2 hD hD2 ⟨e1, e2, e3, e4⟩ hK
    have q : ∀ a o, H1 a = some o → (∀ l, o ≠ .list l) → a ≠ D := fun a o h1 h2 q => by
      subst q
      obtain ⟨l, hl⟩ := hD2 _ h1
      exact h2 l hl
    exact ⟨e1, hK _ _ (q _ _ e2 (by intro l q; cases q)) e2 rfl, hK _ _ (q _ _ e3 (by intro l q; cases q)) e3 rfl, hK _ _ (q _ _ e4 (by intro l q; cases q)) e4 rfl⟩
  · rintro i v ys Cf H1 hv ⟨rfl, e2, e3, e4⟩ hMd
    obtain ⟨hin, rfl⟩ := range_at hv
    refine EV_BinOp (EV_Call_method (EV_cell (by rfl) e2 ?_) (by rfl))
    refine METH_idict C e4 F.slot_dict_get (by rfl) ?_ (by rfl)
    refine EVs_cons (EV_BinOp (EV_cell (by rfl) e3 (EV_local (by rfl) (BIN_add ?_))))
    refine EVs_cons (EV_int (EVs_nil ?_))
    refine CV_get C e4 ?_
    have e5 : at_ + (0 + (i : Int) * 1) = at_ + i := by omega
    rw [e5, hg i hin]
    refine EV_BinOp (EV_int (EV_local (by rfl) (B_pow (by omega) (B_mul ?_ ?_))))
    · have := hb i hin
      left; omega
    have e6 : (0 + (i : Int) * 1).toNat = i := by omega
    rw [e6]
    refine ⟨Mod.refl, ?_, e2, e3, e4⟩
    rw [List.range_succ, List.map_append]; rfl
  · rintro D ys H1 ⟨rfl, e2, e3, e4⟩ hlen hMd hD hD1
    walk_at "w"
    refine CV_sum (Room.noh rm) (ns := (List.range 4).map fun j => g j * 256 ^ j) (by rw [List.map_map]; exact hD1) (List.cons_ne_nil _ _) ?_
    walk_at "w"
    refine ⟨H, fun a o ha => ?_, h⟩
    refine hMd _ _ (fun q => ?_) (l1 _ _ (l0 _ _ ha))
    have q : a = it := by simpa using q
    subst q
    have := (l0.new hrr).free hit
    rw [ha] at this; cases this
end
section
variable {c : Cx} {A : Around} {E : Value → Shared → Prop} {env : Env} {L : Addr} {S : Stk} {m : Loc} {H : AH} {s : Shared} {Q : Value → AH → Prop}
theorem four {k : Int} (h : 0 ≤ k ∧ k < 4) : k = 0 ∨ k = 1 ∨ k = 2 ∨ k = 3 := by omega
theorem byte_sum {w : Int} (h : Wd w) : ((List.range 4).map fun j => (w / 2 ^ (8 * j) % 256) * 256 ^ j).sum = w := by
  unfold Wd at h
  show (w / 1 % 256 * 1 + (w / 256 % 256 * 256 + (w / 65536 % 256 * 65536 + (w / 16777216 % 256 * 16777216 + 0)))) = w
  omega
theorem nat_byte (p q j : Nat) : ((p &&& q) / 2 ^ (8 * j) % 256 = (p / 2 ^ (8 * j) % 256) &&& (q / 2 ^ (8 * j) % 256)) ∧ ((p ||| q) / 2 ^ (8 * j) % 256 = (p / 2 ^ (8 * j) % 256) ||| (q / 2 ^ (8 * j) % 256)) := by
  have e : (256 : Nat) = 2 ^ 8 := rfl
  constructor
  · rw [Nat.and_div_two_pow, e, Nat.and_mod_two_pow]
  · rw [Nat.or_div_two_pow, e, Nat.or_mod_two_pow]
theorem and255 {b : Nat} (h : b < 256) : b &&& 255 = b := by
  have : b &&& 2 ^ 8 - 1 = b % 2 ^ 8 := Nat.and_two_pow_sub_one_eq_mod b 8
  have e : (2 ^ 8 - 1 : Nat) = 255 := rfl
  rw [e] at this
  rw [this]; exact Nat.mod_eq_of_lt h
theorem mask_byte : ∀ K < 4, ∀ J < 4, (4294967295 - 255 * 2 ^ (8 * K)) / 2 ^ (8 * J) % 256 = if J = K then 0 else 255 := by decide
theorem mask_lt : ∀ K < 4, 255 * 2 ^ (8 * K) ≤ 4294967295 := by decide
theorem shl_byte {b K J : Nat} (hb : b < 256) : b * 2 ^ (8 * K) / 2 ^ (8 * J) % 256 = if J = K then b else 0 := by
  have p : ∀ i, 0 < 2 ^ (8 * i) := fun i => Nat.pow_pos (by decide)
  have s : ∀ i d, 2 ^ (8 * (i + d + 1)) = 2 ^ (8 * i) * (256 * 2 ^ (8 * d)) := fun i d => by
    rw [show 8 * (i + d + 1) = 8 * i + (8 + 8 * d) by omega, Nat.pow_add, Nat.pow_add]
  rcases Nat.lt_trichotomy J K with q | q | q
  · obtain ⟨d, rfl⟩ := Nat.exists_eq_add_of_lt q
    rw [if_neg (Nat.ne_of_lt q), s, Nat.mul_left_comm, Nat.mul_div_cancel_left _ (p J), Nat.mul_left_comm, Nat.mul_mod_right]
  · subst q
    rw [if_pos rfl, Nat.mul_div_cancel _ (p J), Nat.mod_eq_of_lt hb]
  · obtain ⟨d, rfl⟩ := Nat.exists_eq_add_of_lt q
    rw [if_neg (Nat.ne_of_gt q), s, ← Nat.div_div_eq_div_mul, Nat.mul_div_cancel _ (p K), Nat.div_eq_of_lt (Nat.lt_of_lt_of_le hb (Nat.le_mul_of_pos_right _ (p d)))]
/-- one byte of a word is set -/
theorem setByte_at {w v k j : Int} (hw : Wd w) (hk : 0 ≤ k ∧ k < 4) (hj : 0 ≤ j ∧ j < 4) : setByte w v k / 2 ^ (8 * j).toNat % 256 = if j = k then v % 256 else w / 2 ^ (8 * j).toNat % 256 := by
  obtain ⟨w0, w1⟩ := hw
  obtain ⟨n, rfl⟩ := Int.eq_ofNat_of_zero_le w0
  have hv0 := Int.emod_nonneg v (show (256 : Int) ≠ 0 by decide)
  have hv1 := Int.emod_lt_of_pos v (show (0 : Int) < 256 by decide)
  obtain ⟨b, hb⟩ := Int.eq_ofNat_of_zero_le hv0
  unfold setByte
  rw [hb]
  rw [hb] at hv1
  obtain ⟨k0, k1⟩ := hk
  obtain ⟨j0, j1⟩ := hj
  obtain ⟨K, rfl⟩ := Int.eq_ofNat_of_zero_le k0
  obtain ⟨J, rfl⟩ := Int.eq_ofNat_of_zero_le j0
  have hK : K < 4 := Int.ofNat_lt.mp k1
  have hJ : J < 4 := Int.ofNat_lt.mp j1
  have hb' : b < 256 := Int.ofNat_lt.mp hv1
  have eK : (8 * (K : Int)).toNat = 8 * K := by omega
  have eJ : (8 * (J : Int)).toNat = 8 * J := by omega
  have hm := mask_lt K hK
  have m1 : (4294967295 - 255 * 2 ^ (8 * K) : Int) = ((4294967295 - 255 * 2 ^ (8 * K) : Nat) : Int) := by
    rw [Int.ofNat_sub hm, Int.natCast_mul, Int.natCast_pow]; rfl
  have m2 : (b : Int) * 2 ^ (8 * K) = ((b * 2 ^ (8 * K) : Nat) : Int) := by rw [Int.natCast_mul, Int.natCast_pow]; rfl
  rw [eK, eJ, m1, m2, bitAnd_pp (Int.natCast_nonneg _) (Int.natCast_nonneg _), or_pp (Int.natCast_nonneg _) (Int.natCast_nonneg _)]
  have hlt : (n &&& (4294967295 - 255 * 2 ^ (8 * K))) ||| (b * 2 ^ (8 * K)) < 2 ^ 32 := by
    refine Nat.or_lt_two_pow (Nat.lt_of_le_of_lt Nat.and_le_right (Nat.lt_of_le_of_lt (Nat.sub_le _ _) (by decide))) (Nat.lt_of_le_of_lt (Nat.mul_le_mul_right _ (Nat.le_of_lt_succ hb')) (Nat.lt_of_le_of_lt hm (by decide)))
  show ((((n &&& (4294967295 - 255 * 2 ^ (8 * K))) ||| (b * 2 ^ (8 * K)) : Nat) : Int) % ((2 ^ 32 : Nat) : Int)) / ((2 : Nat) : Int) ^ (8 * J) % ((256 : Nat) : Int) = if (J : Int) = K then (b : Int) else (n : Int) / ((2 : Nat) : Int) ^ (8 * J) % ((256 : Nat) : Int)
  rw [← Int.natCast_emod, Nat.mod_eq_of_lt hlt, ← Int.natCast_pow, ← Int.natCast_ediv, ← Int.natCast_emod, ← Int.natCast_ediv, ← Int.natCast_emod, (nat_byte _ _ J).2, (nat_byte _ _ J).1, mask_byte K hK J hJ, shl_byte hb']
  by_cases q : J = K
  · rw [if_pos q, if_pos q, if_pos (by rw [q]), Nat.and_zero, Nat.zero_or]
  · rw [if_neg q, if_neg q, if_neg (fun e => q (Int.ofNat_inj.mp e)), and255 (Nat.mod_lt _ (by decide)), Nat.or_zero]
noncomputable def byteOf (mem : Int → Int) (t : Int) : Int := mem (t / 4) / 2 ^ (8 * (t % 4)).toNat % 256
theorem byteOf_bd (mem : Int → Int) (t : Int) : 0 ≤ byteOf mem t ∧ byteOf mem t < 256 := ⟨Int.emod_nonneg _ (by decide), Int.emod_lt_of_pos _ (by decide)⟩
/-- the bytes of a stored word -/
theorem str_bytes {x t s : Int} (ht : t % 4 = 0) (h : t ≤ s ∧ s < t + 4) : x / 256 ^ (s - t).toNat % 256 = (x % 4294967296) / 2 ^ (8 * (s % 4)).toNat % 256 := by
  have e : s % 4 = s - t := by omega
  rw [e]
  rcases four (k := s - t) (by omega) with q | q | q | q <;> rw [q]
  · show x / 1 % 256 = x % 4294967296 / 1 % 256; omega
  · show x / 256 % 256 = x % 4294967296 / 256 % 256; omega
  · show x / 65536 % 256 = x % 4294967296 / 65536 % 256; omega
  · show x / 16777216 % 256 = x % 4294967296 / 16777216 % 256; omega
theorem STR_bytes {a t : Int} {M : Mach} (s : Int) : byteOf (memM .STR a t M).mem s = if t / 4 * 4 ≤ s ∧ s < t / 4 * 4 + 4 then M.get a / 256 ^ (s - t / 4 * 4).toNat % 256 else byteOf M.mem s := by
  show (if s / 4 = t / 4 then M.get a % 4294967296 else M.mem (s / 4)) / 2 ^ (8 * (s % 4)).toNat % 256 = _
  by_cases q : s / 4 = t / 4
  · have h : t / 4 * 4 ≤ s ∧ s < t / 4 * 4 + 4 := by omega
    rw [if_pos q, if_pos h, str_bytes (by omega) h]
  · have h : ¬(t / 4 * 4 ≤ s ∧ s < t / 4 * 4 + 4) := by omega
    rw [if_neg q, if_neg h]; rfl
theorem STB_bytes {a t : Int} {M : Mach} (hM : M.Ok) (ht : 0 ≤ t ∧ t < 64) (s : Int) : byteOf (memM .STB a t M).mem s = if t ≤ s ∧ s < t + 1 then M.get a / 256 ^ (s - t).toNat % 256 else byteOf M.mem s := by
  show (if s / 4 = t / 4 then setByte (M.mem (t / 4)) (M.get a) (t % 4) else M.mem (s / 4)) / 2 ^ (8 * (s % 4)).toNat % 256 = _
  by_cases q : s / 4 = t / 4
  · rw [if_pos q, setByte_at (hM.mem _ (by omega) (by omega)) (by omega) (by omega)]
    by_cases q2 : s % 4 = t % 4
    · have h : t ≤ s ∧ s < t + 1 := by omega
      have e : (s - t).toNat = 0 := by omega
      rw [if_pos q2, if_pos h, e]
      show _ = M.get a / 1 % 256
      rw [Int.ediv_one]
    · have h : ¬(t ≤ s ∧ s < t + 1) := by omega
      rw [if_neg q2, if_neg h, ← q]; rfl
  · have h : ¬(t ≤ s ∧ s < t + 1) := by omega
    rw [if_neg q, if_neg h]; rfl
/-- the law's own machine -/
noncomputable def macNs (rl wc rw ml : Addr) (M : Mach) : Loc := [("regs", .ref rl), ("cells", .ref wc), ("rows", .ref rw), ("pc", .int M.pc 0), ("size", .int 64 0), ("high", .int M.h 0), ("marks", .ref ml)]
noncomputable def CellsOk (f : Int → Option Value) (mem : Int → Int) : Prop := ∀ s, 0 ≤ s → s < 64 → (f s).getD (.int 0 0) = .int (byteOf mem s) 0
structure MacAt (H : AH) (ad rl wc rw : Addr) (M : Mach) (k : Nat) : Prop where
  d : ∃ ml, H ad = some (.sdict (macNs rl wc rw ml M)) ∧ H ml = some (.list [.bool M.n, .bool M.z, .bool M.cc, .bool M.v])
  r : H rl = some (.list (M.regs.map fun i => .int i 0))
  w : ∃ f n, H wc = some (.idict f n) ∧ n ≤ k ∧ CellsOk f M.mem
section
variable {ad rl wc rw : Addr} {M : Mach} {k : Nat} {QH : AH → Prop} {P : List Ins}
theorem regs_ne_bools {M : Mach} (hM : M.Ok) {a b cc d : Bool} : (M.regs.map fun i => Value.int i 0) ≠ [.bool a, .bool b, .bool cc, .bool d] := fun e => by
  have h := congrArg List.length e
  rw [List.length_map, hM.len] at h
  cases h
theorem MacAt.setPc (K : MacAt H ad rl wc rw M k) {i : Int} {ml : Addr} (hd : H ad = some (.sdict (macNs rl wc rw ml M))) (hm : H ml = some (.list [.bool M.n, .bool M.z, .bool M.cc, .bool M.v])) : MacAt (H.set ad (.sdict (macNs rl wc rw ml { M with pc := i }))) ad rl wc rw { M with pc := i } k where
  d := ⟨ml, AH.set_self, (AH.set_ne (ne_obs hm hd (by intro q; cases q))).trans hm⟩
  r := (AH.set_ne (ne_obs K.r hd (by intro q; cases q))).trans K.r
  w := let ⟨f, n, h1, h2, h3⟩ := K.w; ⟨f, n, (AH.set_ne (ne_obs h1 hd (by intro q; cases q))).trans h1, h2, h3⟩
theorem MacAt.setH (K : MacAt H ad rl wc rw M k) {i : Int} {ml : Addr} (hd : H ad = some (.sdict (macNs rl wc rw ml M))) (hm : H ml = some (.list [.bool M.n, .bool M.z, .bool M.cc, .bool M.v])) : MacAt (H.set ad (.sdict (macNs rl wc rw ml { M with h := i }))) ad rl wc rw { M with h := i } k where
  d := ⟨ml, AH.set_self, (AH.set_ne (ne_obs hm hd (by intro q; cases q))).trans hm⟩
  r := (AH.set_ne (ne_obs K.r hd (by intro q; cases q))).trans K.r
  w := let ⟨f, n, h1, h2, h3⟩ := K.w; ⟨f, n, (AH.set_ne (ne_obs h1 hd (by intro q; cases q))).trans h1, h2, h3⟩
theorem MacAt.setMarks (K : MacAt H ad rl wc rw M k) {n z cc v : Bool} {ml ml' : Addr} (hd : H ad = some (.sdict (macNs rl wc rw ml M))) (hm : H ml' = some (.list [.bool n, .bool z, .bool cc, .bool v])) : MacAt (H.set ad (.sdict (macNs rl wc rw ml' { M with n := n, z := z, cc := cc, v := v }))) ad rl wc rw { M with n := n, z := z, cc := cc, v := v } k where
  d := ⟨ml', AH.set_self, (AH.set_ne (ne_obs hm hd (by intro q; cases q))).trans hm⟩
  r := (AH.set_ne (ne_obs K.r hd (by intro q; cases q))).trans K.r
  w := let ⟨f, n, h1, h2, h3⟩ := K.w; ⟨f, n, (AH.set_ne (ne_obs h1 hd (by intro q; cases q))).trans h1, h2, h3⟩
theorem MacAt.setR (K : MacAt H ad rl wc rw M k) (hM : M.Ok) (rs : List Int) : MacAt (H.set rl (.list (rs.map fun i => .int i 0))) ad rl wc rw { M with regs := rs } k where
  d := let ⟨ml, h1, h2⟩ := K.d; ⟨ml, (AH.set_ne (ne_obs h1 K.r (by intro q; cases q))).trans h1, (AH.set_ne (ne_obs h2 K.r (by intro q; injection q with q; exact regs_ne_bools hM q.symm))).trans h2⟩
  r := AH.set_self
  w := let ⟨f, n, h1, h2, h3⟩ := K.w; ⟨f, n, (AH.set_ne (ne_obs h1 K.r (by intro q; cases q))).trans h1, h2, h3⟩
theorem MacAt.setW (K : MacAt H ad rl wc rw M k) {f : Int → Option Value} {n : Nat} (hw : H wc = some (.idict f n)) {f' : Int → Option Value} {n' k' : Nat} {mem' : Int → Int} (hn : n' ≤ k') (h : CellsOk f' mem') : MacAt (H.set wc (.idict f' n')) ad rl wc rw { M with mem := mem' } k' where
  d := let ⟨ml, h1, h2⟩ := K.d; ⟨ml, (AH.set_ne (ne_obs h1 hw (by intro q; cases q))).trans h1, (AH.set_ne (ne_obs h2 hw (by intro q; cases q))).trans h2⟩
  r := (AH.set_ne (ne_obs K.r hw (by intro q; cases q))).trans K.r
  w := ⟨f', n', AH.set_self, hn, h⟩
theorem MacAt.more (K : MacAt H ad rl wc rw M k) {k' : Nat} (h : k ≤ k') : MacAt H ad rl wc rw M k' := ⟨K.d, K.r, let ⟨f, n, a, b, d⟩ := K.w; ⟨f, n, a, by omega, d⟩⟩
theorem MacAt.keep (K : MacAt H ad rl wc rw M k) {H1 : AH} (h : Le H H1) : MacAt H1 ad rl wc rw M k := ⟨let ⟨ml, a, b⟩ := K.d; ⟨ml, h _ _ a, h _ _ b⟩, h _ _ K.r, let ⟨f, n, a, b, d⟩ := K.w; ⟨f, n, h _ _ a, b, d⟩⟩
theorem MacAt.keeps (K : MacAt H ad rl wc rw M k) {H1 : AH} (h : Keep H H1) : MacAt H1 ad rl wc rw M k := ⟨let ⟨ml, a, b⟩ := K.d; ⟨ml, h _ _ a rfl, h _ _ b rfl⟩, h _ _ K.r rfl, let ⟨f, n, a, b, d⟩ := K.w; ⟨f, n, h _ _ a rfl, b, d⟩⟩
theorem MacAt.notTuple (K : MacAt H ad rl wc rw M k) {a : Addr} {vs : List Value} (ha : H a = some (.tuple vs)) : a ∉ [ad, rl, wc] := fun q => by
  simp only [List.mem_cons, List.not_mem_nil, or_false] at q
  rcases q with rfl | rfl | rfl
  · obtain ⟨ml, h1, _⟩ := K.d; rw [h1] at ha; cases ha
  · rw [K.r] at ha; cases ha
  · obtain ⟨f, n, hm, -⟩ := K.w; rw [hm] at ha; cases ha
theorem MacAt.notRows (K : MacAt H ad rl wc rw M k) (hM : M.Ok) (R : RowsAt H rw P) : rw ∉ [ad, rl, wc] := fun q => by
  obtain ⟨as, r1, r2, -⟩ := R
  simp only [List.mem_cons, List.not_mem_nil, or_false] at q
  rcases q with rfl | rfl | rfl
  · obtain ⟨ml, h1, _⟩ := K.d; rw [h1] at r1; cases r1
  · rw [K.r] at r1
    have e : (M.regs.map fun i => Value.int i 0) = as.map .ref := by injection r1 with r1; injection r1
    have hl := hM.len
    cases hr : M.regs with
    | nil => rw [hr] at hl; cases hl
    | cons i r =>
      rw [hr] at e
      cases as with
      | nil => cases e
      | cons a as => rw [List.map_cons, List.map_cons] at e; injection e with e _; cases e
  · obtain ⟨f, n, hm, -⟩ := K.w; rw [hm] at r1; cases r1
theorem MacAt.rows (K : MacAt H ad rl wc rw M k) (hM : M.Ok) (R : RowsAt H rw P) {H1 : AH} (l : Mod [ad, rl, wc] H H1) : RowsAt H1 rw P := R.mod l (K.notRows hM R) fun a vs h => K.notTuple h
end
/-- a loop that lays bytes -/
theorem fill_loop {env : Env} {body : List Stmt} {it wc : Addr} {Hi : AH} {f : Int → Option Value} {n N : Nat} {bs x : Int} {g : Int → Int} {G : AH → Prop} {Qf : Flow → Loc → AH → Prop}
    (hit : Hi it = some ((Sq.range 0 1 N).ao 0)) (hN : N ≤ 4) (hw : Hi wc = some (.idict f n)) (hg : ∀ s, 0 ≤ s → s < 64 → (f s).getD (.int 0 0) = .int (g s) 0)
    (hG : G Hi) (hGk : ∀ H1 H2, G H1 → Keep H1 H2 → G H2) (hGw : ∀ H1 fi k fj j, G H1 → H1 wc = some (.idict fi k) → G (H1.set wc (.idict fj j)))
    (hstep : ∀ (i : Nat) fi H1 (QT : Flow → Loc → AH → Prop), i < N → H1 wc = some (.idict fi (n + i)) → G H1 →
      QT .next (("step", .int (0 + (i : Int) * 1) 0) :: m) (H1.set wc (.idict (putF fi (bs + (0 + (i : Int) * 1)) (.int (x / 256 ^ (0 + (i : Int) * 1).toNat % 256) 0)) (n + i + 1))) → XS c A env NoE L S (("step", .int (0 + (i : Int) * 1) 0) :: m) body H1 QT)
    (hm : m.lookup ("step" : Str) = none)
    (hfin : ∀ H1 fi, H1 wc = some (.idict fi (n + N)) → (∀ s, 0 ≤ s → s < 64 → (fi s).getD (.int 0 0) = .int (if bs ≤ s ∧ s < bs + (N : Int) then x / 256 ^ (s - bs).toNat % 256 else g s) 0) → G H1 → Mod (it :: [wc]) Hi H1 → Qf .next m H1) :
    ∃ ls P, LoopOk c A env "step" body L m S (Sq.range 0 1 N) it Hi Qf ls P := by
  refine loop0 ⟨[wc], fun i H1 => (∃ fi, H1 wc = some (.idict fi (n + i)) ∧ ∀ s, 0 ≤ s → s < 64 → (fi s).getD (.int 0 0) = .int (if bs ≤ s ∧ s < bs + (i : Int) then x / 256 ^ (s - bs).toNat % 256 else g s) 0) ∧ G H1, ?_⟩
  refine ⟨fun _ _ => trivial, fun q => not_it hw rfl hit (by simpa using q), ⟨rfl, ⟨f, hw, fun s h0 h1 => by rw [if_neg (by omega)]; exact hg s h0 h1⟩, hG⟩, ?_, ?_, ?_⟩
  · rintro i m1 H1 H5 ⟨e, ⟨fi, k1, k2⟩, k3⟩ hK
    exact ⟨e, ⟨fi, hK _ _ k1 rfl, k2⟩, hGk _ _ k3 hK⟩
  · rintro i v m1 H1 hv ⟨rfl, ⟨fi, k1, k2⟩, k3⟩ hMd
    obtain ⟨hin, rfl⟩ := range_at hv
    refine hstep i fi H1 _ hin k1 k3 ⟨Mod.one (.head _), _, SubL.cons hm SubL.refl, rfl, ⟨_, AH.set_self, fun s h0 h1 => ?_⟩, hGw _ _ _ _ _ k3 k1⟩
    have e6 : (0 + (i : Int) * 1).toNat = i := by omega
    unfold putF
    by_cases q : s = bs + (0 + (i : Int) * 1)
    · have e7 : (s - bs).toNat = i := by omega
      rw [if_pos q, if_pos (by omega), e6, e7]; rfl
    · rw [if_neg q, k2 s h0 h1]
      by_cases q2 : bs ≤ s ∧ s < bs + (i : Int)
      · rw [if_pos q2, if_pos (by omega)]
      · rw [if_neg q2, if_neg (by omega)]
  · rintro m1 H1 ⟨rfl, ⟨fi, k1, k2⟩, k3⟩ hMd
    have hlen : (Sq.range 0 1 N).xs.length = N := by simp [Sq.xs]
    rw [hlen] at k1 k2
    exact hfin H1 fi k1 k2 k3 hMd
end
section
variable {c : Cx} {A : Around} {E : Value → Shared → Prop} {env : Env} {L : Addr} {S : Stk} {m : Loc} {H : AH} {s : Shared} {Q : Value → AH → Prop}
section
variable {ad rl wc rw : Addr} {M : Mach} {k : Nat} {QH : AH → Prop} {P : List Ins}
theorem SETM_pc {i : Int} (K : MacAt H ad rl wc rw M k) (h : ∀ H1, MacAt H1 ad rl wc rw { M with pc := i } k → Mod [ad, rl, wc] H H1 → QH H1) : SETI c A E S (.ref ad) (.str "pc" 0) (.int i 0) H QH := by
  obtain ⟨ml, hd, hm⟩ := K.d
  refine SETI_sdict hd (by decide : 7 ≤ 1000) ?_
  have e : stored (macNs rl wc rw ml M) "pc" (.int i 0) = macNs rl wc rw ml { M with pc := i } := by kernel_rfl
  rw [e]
  exact h _ (K.setPc hd hm) (Mod.one (.head _))
theorem SETM_high {i : Int} (K : MacAt H ad rl wc rw M k) (h : ∀ H1, MacAt H1 ad rl wc rw { M with h := i } k → Mod [ad, rl, wc] H H1 → QH H1) : SETI c A E S (.ref ad) (.str "high" 0) (.int i 0) H QH := by
  obtain ⟨ml, hd, hm⟩ := K.d
  refine SETI_sdict hd (by decide : 7 ≤ 1000) ?_
  have e : stored (macNs rl wc rw ml M) "high" (.int i 0) = macNs rl wc rw ml { M with h := i } := by kernel_rfl
  rw [e]
  exact h _ (K.setH hd hm) (Mod.one (.head _))
theorem SETM_marks {ml' : Addr} {n z cc v : Bool} (K : MacAt H ad rl wc rw M k) (hm' : H ml' = some (.list [.bool n, .bool z, .bool cc, .bool v])) (h : ∀ H1, MacAt H1 ad rl wc rw { M with n := n, z := z, cc := cc, v := v } k → Mod [ad, rl, wc] H H1 → QH H1) : SETI c A E S (.ref ad) (.str "marks" 0) (.ref ml') H QH := by
  obtain ⟨ml, hd, hm⟩ := K.d
  refine SETI_sdict hd (by decide : 7 ≤ 1000) ?_
  have e : stored (macNs rl wc rw ml M) "marks" (.ref ml') = macNs rl wc rw ml' { M with n := n, z := z, cc := cc, v := v } := by kernel_rfl
  rw [e]
  exact h _ (K.setMarks hd hm') (Mod.one (.head _))
theorem SETI_lregs {a i : Int} (K : MacAt H ad rl wc rw M k) (hM : M.Ok) (ha : 0 ≤ a ∧ a < 16) (h : ∀ H1, MacAt H1 ad rl wc rw { M with regs := M.regs.set a.toNat i } k → Mod [ad, rl, wc] H H1 → QH H1) : SETI c A E S (.ref rl) (.int a 0) (.int i 0) H QH :=
  SETI_list K.r ⟨ha.1, by omega, by rw [List.length_map, hM.len]; omega⟩ (by
    have := h _ (K.setR hM (M.regs.set a.toNat i)) (Mod.one (.tail _ (.head _)))
    rw [List.map_set] at this; exact this)
theorem SUB_lregs {value slice : Expr} {a : Int} (K : MacAt H ad rl wc rw M k) (hM : M.Ok) (ha : 0 ≤ a ∧ a < 16) (h : Q (.int (M.get a) 0) H) (hs : ∀ t, subscripted slice false (.ref rl) (.int a t) = operate [.ref rl, .int a t] (getItem (.ref rl) (.int a t)) := by intro _; with_unfolding_all rfl) : SUB c A E S value slice (.ref rl) (.int a 0) H Q :=
  SUB_list K.r ha.1 (by omega) (get_at hM ha) h hs
theorem pow256 {k : Nat} (h : k ≤ 4) : ((256 : Int) ^ k).natAbs < 2 ^ 64 := by
  rw [Int.natAbs_pow]
  exact Nat.lt_of_le_of_lt (Nat.pow_le_pow_right (by decide) h) (by decide)
theorem put_mov {a y : Int} (hy : Wd y) : aluM .MOV a 0 y M = (none, M.put a y) := by
  have e : res .MOV 0 y = y := Int.emod_eq_of_lt hy.1 hy.2
  unfold aluM Mach.put
  rw [e]; rfl
theorem isDiv_eq (o : Op) : (o.nm == ("DIV" : Str)) = o.isDiv := by cases o <;> kernel_rfl
theorem last_I (o : Op) : (seqIndex? (-1) o.nmI.length).bind (o.nmI.cps[·]?) = some 73 := by cases o <;> kernel_rfl
theorem last_no (o : Op) : ∃ ch, (seqIndex? (-1) o.nm.length).bind (o.nm.cps[·]?) = some ch ∧ ((⟨#[ch]⟩ : Str) == ("I" : Str)) = false := by cases o <;> exact ⟨_, rfl, by kernel_rfl⟩
theorem last_I' : ((⟨#[73]⟩ : Str) == ("I" : Str)) = true := by kernel_rfl
theorem lstep_done (C : c.Ok) {A : Around} {L : Addr} {Qx : Value → AH → Prop} {a xx yy : Int} {o : Op} (rm : Room 2 A (L :: S.map (·.1))) (K3 : MacAt H ad rl wc rw M k) (hM : M.Ok) (ga : Rg a) (wx : Wd xx) (wy : Wd yy) (hdiv : o = .DIV → 0 < plus yy)
    (h0 : ∀ H1, MacAt H1 ad rl wc rw { M with regs := M.regs.set a.toNat (res o xx yy), n := decide (2147483648 ≤ res o xx yy), z := decide (res o xx yy = 0), cc := carry o xx yy, v := over o xx yy, h := (high o xx yy).getD M.h } k → Mod [ad, rl, wc] H H1 → Qx .none H1) :
    XS c A (envX "_law_step" (scopeOf (st 36)) L 344 (.ref 343) []) E L S [("x", .int xx 0), ("y", .int yy 0), ("name", .str o.nm 0), ("a", .int a 0), ("regs", .ref rl), ("machine", .ref ad)] ((bodyOf (st 36)).drop 7) H fun fl m1 H1 => Qx (flowVal fl) H1 := by
  show XS c A _ E L S _ [_, _, _] H _
  walk_at "w"
  refine w_act C (by walk_at "room") wx wy (o := o) hdiv fun l u hl hu => ?_
  have l0 : Le H ((H.set l (actM o xx yy)).set u (actT o xx yy l)) := (Le.refl.new hl).new hu
  have K4 := K3.keep l0
  have hl4 : ((H.set l (actM o xx yy)).set u (actT o xx yy l)) l = some (actM o xx yy) := sub_new hu _ _ AH.set_self
  have hln : l ∉ [ad, rl, wc] := fun q => by
    simp only [List.mem_cons, List.not_mem_nil, or_false] at q
    obtain ⟨ml', hd', hm'⟩ := K3.d
    obtain ⟨f', n', hw', -⟩ := K3.w
    rcases q with rfl | rfl | rfl
    · rw [hd'] at hl; cases hl
    · rw [K3.r] at hl; cases hl
    · rw [hw'] at hl; cases hl
  have m0 : Mod [ad, rl, wc] H ((H.set l (actM o xx yy)).set u (actT o xx yy l)) := fun b x _ e => l0 b x e
  refine ⟨u, _, rfl, .inl AH.set_self, rfl, ?_⟩
  walk_at "w"
  refine SETI_lregs K4 hM ga fun H3 K5 l3 => ?_
  have hl5 := l3 _ _ hln hl4
  walk_at "w"
  refine SETM_marks K5 hl5 fun H4 K6 l4 => ?_
  walk_at "w"
  have m6 := (m0.trans l3).trans l4
  unfold hiV
  cases hh : high o xx yy with
  | none =>
    rw [hh] at h0
    refine CMP_isnot_none (by rfl) ?_
    walk_at "w"
    exact h0 _ K6 m6
  | some kk =>
    rw [hh] at h0
    refine CMP_isnot_none (by rfl) ?_
    walk_at "w"
    refine SETM_high K6 fun H5 K7 l5 => ?_
    walk_at "w"
    exact h0 _ K7 (m6.trans l5)
theorem lstep_alu (C : c.Ok) {A : Around} {L : Addr} {Qx : Value → AH → Prop} {a xx yy : Int} {o : Op} (rm : Room 2 A (L :: S.map (·.1))) (K3 : MacAt H ad rl wc rw M k) (hM : M.Ok) (ga : Rg a) (wx : Wd xx) (wy : Wd yy)
    (h0 : ∀ H1, MacAt H1 ad rl wc rw (aluM o a xx yy M).2 k → Mod [ad, rl, wc] H H1 → Tv H1 Qx (aluM o a xx yy M).1) :
    XS c A (envX "_law_step" (scopeOf (st 36)) L 344 (.ref 343) []) E L S [("x", .int xx 0), ("y", .int yy 0), ("name", .str o.nm 0), ("a", .int a 0), ("regs", .ref rl), ("machine", .ref ad)] ((bodyOf (st 36)).drop 6) H fun fl m1 H1 => Qx (flowVal fl) H1 := by
  show XS c A _ E L S _ (_ :: (bodyOf (st 36)).drop 7) H _
  walk_at "w"
  rw [isDiv_eq]
  unfold aluM at h0
  cases hdv : o.isDiv with
  | false =>
    rw [hdv, Bool.false_and, if_neg Bool.false_ne_true] at h0
    walk_at "w"
    exact lstep_done C rm K3 hM ga wx wy (fun q => by subst q; cases hdv) h0
  | true =>
    rw [hdv, Bool.true_and] at h0
    walk_at "w"
    refine w_plus C (by walk_at "room") ?_
    by_cases hy0 : plus yy ≤ 0
    · rw [if_pos (decide_eq_true hy0)] at h0
      walk_at "w"
      refine ⟨by simp, fun u hu => ?_⟩
      walk_at "w"
      exact h0 H K3 Mod.refl u hu
    · rw [if_neg (by rw [decide_eq_false hy0]; exact Bool.false_ne_true)] at h0
      walk_at "w"
      exact lstep_done C rm K3 hM ga wx wy (fun _ => Int.not_le.mp hy0) h0
theorem w_lstep (C : c.Ok) (hr : Room 3 A (S.map (·.1))) (K : MacAt H ad rl wc rw M k) (hk : k ≤ 900) (hM : M.Ok) (hP : ∀ i ∈ P, i.Ok) (R : RowsAt H rw P) (hin : 0 ≤ M.pc ∧ M.pc < P.length) (hl : P.length ≤ 1000)
    (h : ∀ H1, MacAt H1 ad rl wc rw (stepM P M).2 (k + 4) → Mod [ad, rl, wc] H H1 → Tv H1 Q (stepM P M).1) : CV c A E S (.ref 344) [.ref ad] H Q := by
  refine (CC.post (CC_top C 344 (st 36) "_law_step" (.str "law_pb0343_01" 592) (.ref 343) .none [] ["machine"] (by rfl) (by kernel_rfl) (by kernel_rfl) hr (Binds.plain1 (fun _ => by rfl)) rfl (fun L E' A' rm => ?_))).cv
  obtain ⟨ml, hd, hm⟩ := K.d
  obtain ⟨as, r1, r2, r3⟩ := id R
  obtain ⟨p0, p1⟩ := hin
  have hlt : M.pc.toNat < P.length := by omega
  have hlt2 : M.pc.toNat < as.length := by omega
  have e1 := List.getElem?_eq_getElem hlt
  have e2 := List.getElem?_eq_getElem hlt2
  have hrow := r3 _ _ _ e2 e1
  generalize P[M.pc.toNat] = ins at e1 hrow
  generalize as[M.pc.toNat] = ra at e2 hrow
  have hok : ins.Ok := hP _ (List.mem_of_getElem? e1)
  have hst : stepM P M = execM ins M.on := by unfold stepM; rw [if_pos ⟨p0, p1⟩, e1]
  rw [hst] at h
  refine XS_cons (XE_assign_swap (names := ["regs", "cells"]) (Room.noh rm) (by rfl) ?_ (by intro y hy; simp only [List.mem_cons, List.not_mem_nil, or_false] at hy; rcases hy with rfl | rfl <;> rfl))
  walk_at "w"
  refine SUB_sdict hd (by rfl) ?_
  walk_at "w"
  refine SUB_sdict hd (by rfl) ?_
  walk_at "w"
  refine ⟨by simp, fun t0 ht0 => ⟨t0, _, rfl, AH.set_self, rfl, Then_next ?_⟩⟩
  refine X.less ?_ (sub_new ht0)
  walk_at "w"
  refine SUB_sdict hd (by rfl) ?_
  walk_at "w"
  refine SUB_sdict hd (by rfl) ?_
  refine SUB_list r1 p0 (by omega) (v := .ref ra) (by rw [List.getElem?_map, e2]; rfl) ?_
  rw [ins.vals_eq] at hrow
  refine ⟨ra, _, rfl, .inl hrow, rfl, ?_⟩
  have hM2 := on_ok hM
  show ASGS c A' _ E' L S _ _ _ H _
  walk_at "w"
  refine GETI_sdict hd (by rfl) ?_
  walk_at "w"
  refine SETM_pc K fun H2 K2 l2 => ?_
  have K3 : MacAt H2 ad rl wc rw M.on k := K2
  obtain ⟨ml2, hd2, hm2⟩ := K3.d
  have h1 : ∀ H1, MacAt H1 ad rl wc rw (execM ins M.on).2 k → Mod [ad, rl, wc] H2 H1 → Tv H1 (fun v H1 => ∃ H2, Le H2 H1 ∧ Q v H2) (execM ins M.on).1 := fun H1 K1 l1 => Tv.mono (h H1 (K1.more (Nat.le_add_right _ _)) (l2.trans l1)) fun v H q => ⟨H, Le.refl, q⟩
  walk_at "w"
  refine ⟨by simp, fun t ht => ?_⟩
  refine CMP_in_names (names := memNames) AH.set_self ?_
  cases hmm : memNames.contains ins.nm with
  | true =>
    walk_at "un"
    walk_at "br"
    refine X.less ?_ (sub_new ht)
    walk_at "w"
    cases ins with
    | mem o a b d =>
      obtain ⟨ga, gb⟩ := hok
      simp only [Ins.nm, Ins.f1, Ins.f2, Ins.f3]
      refine SUB_lregs K3 hM2 gb ?_
      walk_at "w"
      have e32 : (2 : Int) ^ (32 : Int).toNat = 4294967296 := rfl
      rw [e32]
      have hw := wd_mod (M.get b + d)
      have h0 : ∀ H1, MacAt H1 ad rl wc rw (if (M.get b + d) % 4294967296 < 64 then ((none : Option (Int × Int)), memM o a ((M.get b + d) % 4294967296) M.on) else (some (4, 0), M.on)).2 (k + 4) → Mod [ad, rl, wc] H H1 → Tv H1 Q (if (M.get b + d) % 4294967296 < 64 then ((none : Option (Int × Int)), memM o a ((M.get b + d) % 4294967296) M.on) else (some (4, 0), M.on)).1 := h
      have gM : M.on.get b = M.get b := rfl
      rw [gM]
      generalize (M.get b + d) % 4294967296 = tt at *
      obtain ⟨hw0, hw1⟩ := hw
      obtain ⟨f, n, g1, g2, g3⟩ := K3.w
      by_cases ht64 : tt < 64
      · rw [if_pos ht64] at h0
        cases o <;> simp only [MemOp.nm]
        · refine SUB_str (ch := 82) (by decide) (by kernel_rfl) ?_
          walk_at "w"
          refine SUB_sdict hd2 (by rfl) ?_
          walk_at "w"
          refine w_got C (by walk_at "room") g1 (g := fun j => M.mem (tt / 4) / 2 ^ (8 * j) % 256) (fun j hj => ?_) (fun j hj => ⟨Int.emod_nonneg _ (by decide), Int.emod_lt_of_pos _ (by decide)⟩) ?_
          · rw [g3 _ (by omega) (by omega)]
            have e1 : (tt / 4 * 4 + (j : Int)) / 4 = tt / 4 := by omega
            have e2 : (8 * ((tt / 4 * 4 + (j : Int)) % 4)).toNat = 8 * j := by omega
            unfold byteOf
            rw [e1, e2]; rfl
          rw [byte_sum (hM.mem _ (by omega) (by omega))]
          walk_at "w"
          refine SETI_lregs K3 hM2 ga fun H3 K4 l3 => ?_
          walk_at "w"
          exact ⟨_, Le.refl, h0 _ (K4.more (by omega)) (l2.trans l3)⟩
        · refine SUB_str (ch := 66) (by decide) (by kernel_rfl) ?_
          walk_at "w"
          refine SUB_sdict hd2 (by rfl) ?_
          walk_at "w"
          refine METH_idict C g1 F.slot_dict_get (by rfl) ?_ (by rfl)
          walk_at "w"
          refine CV_get C g1 ?_
          rw [g3 _ (by omega) ht64]
          walk_at "w"
          refine SETI_lregs K3 hM2 ga fun H3 K4 l3 => ?_
          walk_at "w"
          exact ⟨_, Le.refl, h0 _ (K4.more (by omega)) (l2.trans l3)⟩
        · refine SUB_str (ch := 82) (by decide) (by kernel_rfl) ?_
          walk_at "w"
          refine SUB_sdict hd2 (by rfl) ?_
          walk_at "w"
          refine XE_for (Room.noh rm) ?_
          walk_at "w"
          refine CV_range1 fun rr hrr => ?_
          obtain ⟨sm, rs⟩ := small_range (n := 4) (by decide)
          refine ITER_range AH.set_self sm rs fun it hit => ?_
          have lH : Le H2 ((H2.set rr (.range 0 4 1)).set it ((Sq.range 0 1 4).ao 0)) := (Le.refl.new hrr).new hit
          have hitH : H2 it = none := (sub_new hrr |> fun (l : Le H2 _) => l).free hit
          refine fill_loop (N := 4) (bs := tt / 4 * 4) (x := M.get a) (g := byteOf M.mem) (G := fun H1 => H1 rl = some (.list (M.regs.map fun i => .int i 0))) AH.set_self (by decide) (lH _ _ g1) g3 (lH _ _ K3.r) (fun H1 H2 a b => b _ _ a rfl) (fun H1 fi k fj j a b => (AH.set_ne (ne_obs a b (by intro q; cases q))).trans a) (fun i fi H1 QT hi k1 k3 hq => ?_) (by rfl) (fun H1 fi k1 k2 k3 hMd => ?_)
          · walk_at "w"
            refine SUB_list k3 ga.1 (by have := ga.2; omega) (get_at hM ga) ?_
            walk_at "w"
            refine B_div ⟨Int.pow_pos (by decide), pow256 (by omega)⟩ ?_
            walk_at "w"
            refine SETI_idict k1 (by omega) ?_
            walk_at "w"
            exact hq
          · have hM1 := Mod.base hitH lH hMd
            walk_at "w"
            refine ⟨_, Le.refl, h0 H1 ⟨⟨ml2, hM1 _ _ (fun q => ?_) hd2, hM1 _ _ (fun q => ?_) hm2⟩, k3, fi, n + 4, k1, by omega, fun s h0 h1 => ?_⟩ (l2.trans (hM1.wider fun x hx => .tail _ (.tail _ hx)))⟩
            · have q : ad = wc := by simpa using q
              rw [q, g1] at hd2; cases hd2
            · have q : ml2 = wc := by simpa using q
              rw [q, g1] at hm2; cases hm2
            · rw [k2 s h0 h1, STR_bytes]; rfl
        · refine SUB_str (ch := 66) (by decide) (by kernel_rfl) ?_
          walk_at "w"
          refine SUB_sdict hd2 (by rfl) ?_
          walk_at "w"
          refine XE_for (Room.noh rm) ?_
          walk_at "w"
          refine CV_range1 fun rr hrr => ?_
          obtain ⟨sm, rs⟩ := small_range (n := 1) (by decide)
          refine ITER_range AH.set_self sm rs fun it hit => ?_
          have lH : Le H2 ((H2.set rr (.range 0 1 1)).set it ((Sq.range 0 1 1).ao 0)) := (Le.refl.new hrr).new hit
          have hitH : H2 it = none := (sub_new hrr |> fun (l : Le H2 _) => l).free hit
          refine fill_loop (N := 1) (bs := tt) (x := M.get a) (g := byteOf M.mem) (G := fun H1 => H1 rl = some (.list (M.regs.map fun i => .int i 0))) AH.set_self (by decide) (lH _ _ g1) g3 (lH _ _ K3.r) (fun H1 H2 a b => b _ _ a rfl) (fun H1 fi k fj j a b => (AH.set_ne (ne_obs a b (by intro q; cases q))).trans a) (fun i fi H1 QT hi k1 k3 hq => ?_) (by rfl) (fun H1 fi k1 k2 k3 hMd => ?_)
          · walk_at "w"
            refine SUB_list k3 ga.1 (by have := ga.2; omega) (get_at hM ga) ?_
            walk_at "w"
            refine B_div ⟨Int.pow_pos (by decide), pow256 (by omega)⟩ ?_
            walk_at "w"
            refine SETI_idict k1 (by omega) ?_
            walk_at "w"
            exact hq
          · have hM1 := Mod.base hitH lH hMd
            walk_at "w"
            refine ⟨_, Le.refl, h0 H1 ⟨⟨ml2, hM1 _ _ (fun q => ?_) hd2, hM1 _ _ (fun q => ?_) hm2⟩, k3, fi, n + 1, k1, by omega, fun s h0 h1 => ?_⟩ (l2.trans (hM1.wider fun x hx => .tail _ (.tail _ hx)))⟩
            · have q : ad = wc := by simpa using q
              rw [q, g1] at hd2; cases hd2
            · have q : ml2 = wc := by simpa using q
              rw [q, g1] at hm2; cases hm2
            · rw [k2 s h0 h1, STB_bytes hM2 ⟨hw0, ht64⟩]; rfl
      · rw [if_neg ht64] at h0
        cases o <;> simp only [MemOp.nm]
        · refine SUB_str (ch := 82) (by decide) (by kernel_rfl) ?_
          walk_at "w"
          refine SUB_sdict hd2 (by rfl) ?_
          walk_at "w"
          refine ⟨by simp, fun u hu => ?_⟩
          walk_at "w"
          exact ⟨_, Le.refl, h0 _ (K3.more (by omega)) l2 u hu⟩
        · refine SUB_str (ch := 66) (by decide) (by kernel_rfl) ?_
          walk_at "w"
          refine SUB_sdict hd2 (by rfl) ?_
          walk_at "w"
          refine ⟨by simp, fun u hu => ?_⟩
          walk_at "w"
          exact ⟨_, Le.refl, h0 _ (K3.more (by omega)) l2 u hu⟩
        · refine SUB_str (ch := 82) (by decide) (by kernel_rfl) ?_
          walk_at "w"
          refine SUB_sdict hd2 (by rfl) ?_
          walk_at "w"
          refine ⟨by simp, fun u hu => ?_⟩
          walk_at "w"
          exact ⟨_, Le.refl, h0 _ (K3.more (by omega)) l2 u hu⟩
        · refine SUB_str (ch := 66) (by decide) (by kernel_rfl) ?_
          walk_at "w"
          refine SUB_sdict hd2 (by rfl) ?_
          walk_at "w"
          refine ⟨by simp, fun u hu => ?_⟩
          walk_at "w"
          exact ⟨_, Le.refl, h0 _ (K3.more (by omega)) l2 u hu⟩
    | op o a b d => exact absurd (hmm.symm.trans (mem_op o)) Bool.noConfusion
    | opI o a b d => exact absurd (hmm.symm.trans (mem_opI o)) Bool.noConfusion
    | movh a => exact absurd (hmm.symm.trans mem_movh) Bool.noConfusion
    | geth a => exact absurd (hmm.symm.trans mem_geth) Bool.noConfusion
    | br o kk b d => exact absurd (hmm.symm.trans (mem_br o)) Bool.noConfusion
  | false =>
    walk_at "un"
    walk_at "br"
    refine X.less ?_ (sub_new ht)
    walk_at "w"
    refine ⟨by simp, fun t ht => ?_⟩
    refine CMP_in_names (names := brNames) AH.set_self ?_
    cases hbb : brNames.contains ins.nm with
    | true =>
      walk_at "un"
      walk_at "br"
      refine X.less ?_ (sub_new ht)
      walk_at "w"
      cases ins with
      | br o kk b d =>
        obtain ⟨gk, gb⟩ := hok
        simp only [Ins.nm, Ins.f1, Ins.f2, Ins.f3]
        refine SUB_sdict hd2 (by rfl) ?_
        walk_at "w"
        refine w_lholds C (by walk_at "room") gk hm2 ?_
        have hcm : ct (condNames.idxOf kk) M.on.n M.on.z M.on.cc M.on.v = ctM kk M.on := rfl
        rw [hcm]
        have h0 : ∀ H1, MacAt H1 ad rl wc rw (brM o kk b d M.on).2 (k + 4) → Mod [ad, rl, wc] H H1 → Tv H1 Q (brM o kk b d M.on).1 := h
        unfold brM at h0
        cases hct : ctM kk M.on
        · rw [hct, if_neg Bool.false_ne_true] at h0
          walk_at "w"
          exact ⟨_, Le.refl, h0 _ (K3.more (by omega)) l2⟩
        · rw [hct, if_pos rfl] at h0
          cases o <;> simp only [BrOp.nm] <;> simp only [BrOp.link, BrOp.far] at h0 gb <;> walk_at "w"
          · walk_at "w"
            refine ⟨by simp, fun t ht => ?_⟩
            refine CMP_in_names (names := ["B", "BL"]) AH.set_self ?_
            walk_at "un"
            walk_at "br"
            refine EV.less ?_ (sub_new ht)
            walk_at "w"
            refine SUB_sdict hd2 (by rfl) ?_
            walk_at "w"
            refine ⟨by simp, fun t2 ht2 => ?_⟩
            refine CMP_in_names (names := ["BL", "BLR"]) AH.set_self ?_
            walk_at "un"
            walk_at "br"
            refine X.less ?_ (sub_new ht2)
            walk_at "w"
            refine SETM_pc K3 fun H3 K4 l3 => ?_
            walk_at "w"
            exact ⟨_, Le.refl, h0 _ (K4.more (by omega)) (l2.trans l3)⟩
          · refine ⟨by simp, fun t ht => ?_⟩
            refine CMP_in_names (names := ["B", "BL"]) AH.set_self ?_
            walk_at "un"
            walk_at "br"
            refine EV.less ?_ (sub_new ht)
            walk_at "w"
            refine SUB_sdict hd2 (by rfl) ?_
            walk_at "w"
            refine ⟨by simp, fun t2 ht2 => ?_⟩
            refine CMP_in_names (names := ["BL", "BLR"]) AH.set_self ?_
            walk_at "un"
            walk_at "br"
            refine X.less ?_ (sub_new ht2)
            walk_at "w"
            refine SUB_sdict hd2 (by rfl) ?_
            walk_at "w"
            refine SETI_lregs K3 hM2 (by decide) fun H3 K4 l3 => ?_
            walk_at "w"
            refine SETM_pc K4 fun H4 K5 l4 => ?_
            walk_at "w"
            exact ⟨_, Le.refl, h0 _ (K5.more (by omega)) ((l2.trans l3).trans l4)⟩
          · refine ⟨by simp, fun t ht => ?_⟩
            refine CMP_in_names (names := ["B", "BL"]) AH.set_self ?_
            walk_at "un"
            walk_at "br"
            refine EV.less ?_ (sub_new ht)
            walk_at "w"
            refine SUB_lregs K3 hM2 (gb trivial) ?_
            walk_at "w"
            refine ⟨by simp, fun t2 ht2 => ?_⟩
            refine CMP_in_names (names := ["BL", "BLR"]) AH.set_self ?_
            walk_at "un"
            walk_at "br"
            refine X.less ?_ (sub_new ht2)
            walk_at "w"
            refine SETM_pc K3 fun H3 K4 l3 => ?_
            walk_at "w"
            exact ⟨_, Le.refl, h0 _ (K4.more (by omega)) (l2.trans l3)⟩
          · refine ⟨by simp, fun t ht => ?_⟩
            refine CMP_in_names (names := ["B", "BL"]) AH.set_self ?_
            walk_at "un"
            walk_at "br"
            refine EV.less ?_ (sub_new ht)
            walk_at "w"
            refine SUB_lregs K3 hM2 (gb trivial) ?_
            walk_at "w"
            refine ⟨by simp, fun t2 ht2 => ?_⟩
            refine CMP_in_names (names := ["BL", "BLR"]) AH.set_self ?_
            walk_at "un"
            walk_at "br"
            refine X.less ?_ (sub_new ht2)
            walk_at "w"
            refine SUB_sdict hd2 (by rfl) ?_
            walk_at "w"
            refine SETI_lregs K3 hM2 (by decide) fun H3 K4 l3 => ?_
            walk_at "w"
            refine SETM_pc K4 fun H4 K5 l4 => ?_
            walk_at "w"
            exact ⟨_, Le.refl, h0 _ (K5.more (by omega)) ((l2.trans l3).trans l4)⟩
          · refine ⟨by simp, fun u hu => ?_⟩
            walk_at "w"
            exact ⟨_, Le.refl, h0 _ (K3.more (by omega)) l2 u hu⟩
      | op o a b d => exact absurd (hbb.symm.trans (br_op o)) Bool.noConfusion
      | opI o a b d => exact absurd (hbb.symm.trans (br_opI o)) Bool.noConfusion
      | movh a => exact absurd (hbb.symm.trans br_movh) Bool.noConfusion
      | geth a => exact absurd (hbb.symm.trans br_geth) Bool.noConfusion
      | mem o a b d => exact absurd (hmm.symm.trans (mem_mem o)) Bool.noConfusion
    | false =>
      walk_at "un"
      walk_at "br"
      refine X.less ?_ (sub_new ht)
      refine XS_nil ?_
      show Then c A' _ E' L S _ (_ :: (bodyOf (st 36)).drop 6) _ _ _
      walk_at "w"
      cases ins with
      | op o a b d =>
        obtain ⟨ga, gb, gd⟩ := hok
        refine ite_no (op_geth o) ?_
        simp only [Ins.nm, Ins.f1, Ins.f2, Ins.f3]
        walk_at "w"
        rw [op_movh]
        walk_at "w"
        obtain ⟨ch, hch, hnI⟩ := last_no o
        refine SUB_str (by decide) hch ?_
        walk_at "w"
        rw [hnI]
        walk_at "w"
        refine XE_assign_swap (names := ["x", "y"]) (Room.noh rm) (by rfl) ?_ (by intro y hy; simp only [List.mem_cons, List.not_mem_nil, or_false] at hy; rcases hy with rfl | rfl <;> rfl)
        walk_at "w"
        refine SUB_lregs K3 hM2 gb ?_
        walk_at "w"
        refine SUB_lregs K3 hM2 gd ?_
        walk_at "w"
        refine ⟨by simp, fun t1 ht1 => ⟨t1, _, rfl, AH.set_self, rfl, Then_next ?_⟩⟩
        refine X.less ?_ (sub_new ht1)
        walk_at "w"
        exact X.loc (lstep_alu C rm K3 hM2 ga (get_wd hM2 gb) (get_wd hM2 gd) h1) (by walk_at "sub")
      | opI o a b d =>
        obtain ⟨ga, gb⟩ := hok
        refine ite_no (opI_geth o) ?_
        simp only [Ins.nm, Ins.f1, Ins.f2, Ins.f3]
        walk_at "w"
        rw [opI_movh]
        walk_at "w"
        refine SUB_str (by decide) (last_I o) ?_
        walk_at "w"
        refine XE_assign_swap (names := ["name", "x", "y"]) (Room.noh rm) (by rfl) ?_ (by intro y hy; simp only [List.mem_cons, List.not_mem_nil, or_false] at hy; rcases hy with rfl | rfl | rfl <;> rfl)
        walk_at "w"
        refine EV_slice_str (x := o.nmI) (l := none) (u := some (-1)) ?_ trivial ?_ (lenI o) ?_
        · exact EV_local (by rfl) ⟨rfl, rfl⟩
        · exact EV_UnaryOp (EV_int (UN_neg ⟨rfl, rfl⟩))
        rw [sliceN]
        walk_at "w"
        refine SUB_lregs K3 hM2 gb ?_
        walk_at "w"
        refine ⟨by simp, fun t1 ht1 => ⟨t1, _, rfl, AH.set_self, rfl, Then_next ?_⟩⟩
        refine X.less ?_ (sub_new ht1)
        walk_at "w"
        exact X.loc (lstep_alu C rm K3 hM2 ga (get_wd hM2 gb) (wd_mod d) h1) (by walk_at "sub")
      | movh a =>
        refine ite_no (show (("MOVH" : Str) == ("GETH" : Str)) = false by kernel_rfl) ?_
        simp only [Ins.nm, Ins.f1, Ins.f2, Ins.f3]
        walk_at "w"
        refine XE_assign_swap (names := ["name", "x", "y"]) (Room.noh rm) (by rfl) ?_ (by intro y hy; simp only [List.mem_cons, List.not_mem_nil, or_false] at hy; rcases hy with rfl | rfl | rfl <;> rfl)
        walk_at "w"
        refine ⟨by simp, fun t1 ht1 => ⟨t1, _, rfl, AH.set_self, rfl, Then_next ?_⟩⟩
        refine X.less ?_ (sub_new ht1)
        walk_at "w"
        have wy : Wd (0 : Int) := ⟨by decide, by decide⟩
        refine X.loc (lstep_alu (o := .MOV) (xx := 0) (Qx := fun v H1 => ∃ H2, Le H2 H1 ∧ Q v H2) C rm K3 hM2 hok wy wy (by rw [put_mov wy]; exact h1)) (by walk_at "sub")
      | geth a =>
        refine ite_yes (show (("GETH" : Str) == ("GETH" : Str)) = true by kernel_rfl) ?_
        simp only [Ins.nm, Ins.f1, Ins.f2, Ins.f3]
        walk_at "w"
        refine XE_assign_swap (names := ["name", "x", "y"]) (Room.noh rm) (by rfl) ?_ (by intro y hy; simp only [List.mem_cons, List.not_mem_nil, or_false] at hy; rcases hy with rfl | rfl | rfl <;> rfl)
        walk_at "w"
        refine SUB_sdict hd2 (by rfl) ?_
        walk_at "w"
        refine ⟨by simp, fun t1 ht1 => ⟨t1, _, rfl, AH.set_self, rfl, Then_next ?_⟩⟩
        refine X.less ?_ (sub_new ht1)
        walk_at "w"
        refine X.loc (lstep_alu (o := .MOV) (xx := 0) (Qx := fun v H1 => ∃ H2, Le H2 H1 ∧ Q v H2) C rm K3 hM2 hok ⟨by decide, by decide⟩ hM2.h (by rw [put_mov hM2.h]; exact h1)) (by walk_at "sub")
      | br o kk b d => exact absurd (hbb.symm.trans (br_br o)) Bool.noConfusion
      | mem o a b d => exact absurd (hmm.symm.trans (mem_mem o)) Bool.noConfusion
end
end
section
variable {c : Cx} {A : Around} {E : Value → Shared → Prop} {env : Env} {L : Addr} {S : Stk} {m : Loc} {H : AH} {s : Shared} {Q : Value → AH → Prop}
noncomputable def condTen : List Str := ["AL", "AL", "EQ", "LT", "NV", "HI", "GE", "VS", "LS", "MI"]
theorem ten_at {i : Int} (h : 0 ≤ i ∧ i < 10) : ∃ k, (condTen.map fun x => Value.str x 0)[i.toNat]? = some (.str k 0) ∧ k ∈ condNames := by
  have : i.toNat < 10 := by omega
  generalize i.toNat = n at this
  match n, this with
  | 0, _ | 1, _ | 2, _ | 3, _ | 4, _ | 5, _ | 6, _ | 7, _ | 8, _ | 9, _ => exact ⟨_, rfl, by decide +kernel⟩
theorem ops_at {i : Int} (h : 0 ≤ i ∧ i < 12) : ∃ o : Op, (opNames.map fun x => Value.str x 0)[i.toNat]? = some (.str o.nm 0) := by
  have : i.toNat < 12 := by omega
  generalize i.toNat = n at this
  match n, this with
  | 0, _ => exact ⟨.MOV, rfl⟩
  | 1, _ => exact ⟨.LSL, rfl⟩
  | 2, _ => exact ⟨.ASR, rfl⟩
  | 3, _ => exact ⟨.ROR, rfl⟩
  | 4, _ => exact ⟨.AND, rfl⟩
  | 5, _ => exact ⟨.ANN, rfl⟩
  | 6, _ => exact ⟨.IOR, rfl⟩
  | 7, _ => exact ⟨.XOR, rfl⟩
  | 8, _ => exact ⟨.ADD, rfl⟩
  | 9, _ => exact ⟨.SUB, rfl⟩
  | 10, _ => exact ⟨.MUL, rfl⟩
  | 11, _ => exact ⟨.DIV, rfl⟩
theorem two_at {i : Int} (h : 0 ≤ i ∧ i < 2) : ∃ x : Str, ([Value.str "MOVH" 0, .str "GETH" 0])[i.toNat]? = some (.str x 0) ∧ (x = "MOVH" ∨ x = "GETH") := by
  have : i.toNat < 2 := by omega
  generalize i.toNat = n at this
  match n, this with
  | 0, _ => exact ⟨_, rfl, .inl rfl⟩
  | 1, _ => exact ⟨_, rfl, .inr rfl⟩
theorem mems_at {i : Int} (h : 0 ≤ i ∧ i < 4) : ∃ o : MemOp, ([Value.str "LDR" 0, .str "LDB" 0, .str "STR" 0, .str "STB" 0])[i.toNat]? = some (.str o.nm 0) := by
  have : i.toNat < 4 := by omega
  generalize i.toNat = n at this
  match n, this with
  | 0, _ => exact ⟨.LDR, rfl⟩
  | 1, _ => exact ⟨.LDB, rfl⟩
  | 2, _ => exact ⟨.STR, rfl⟩
  | 3, _ => exact ⟨.STB, rfl⟩
theorem any_int {l : List Int} {i : Int} (h0 : 0 ≤ i) (h : i < l.length) : ∃ v, (l.map fun x => Value.int x 0)[i.toNat]? = some (.int v 0) := by
  have : i.toNat < l.length := by omega
  exact ⟨_, by rw [List.getElem?_map, List.getElem?_eq_getElem this]; rfl⟩
theorem any_ref {l : List Addr} {i : Int} (h0 : 0 ≤ i) (h : i < l.length) : ∃ v, (l.map Value.ref)[i.toNat]? = some (.ref v) ∧ v ∈ l := by
  have : i.toNat < l.length := by omega
  exact ⟨_, by rw [List.getElem?_map, List.getElem?_eq_getElem this]; rfl, List.getElem_mem this⟩
theorem nmI_eq (o : Op) : o.nm ++ ("I" : Str) = o.nmI := by cases o <;> kernel_rfl
theorem nm_len (o : Op) : o.nm.length + ("I" : Str).length ≤ 1000 := by cases o <;> decide +kernel
theorem RowAt.new {a t : Addr} {o : AO} (R : RowAt H a) (ht : H t = none) : RowAt (H.set t o) a := let ⟨ns, e, x⟩ := R; ⟨ns, sub_new ht _ _ e, x⟩
theorem RowAt.ne {a t : Addr} (R : RowAt H a) (ht : H t = none) : t ∉ [a] := fun q => by
  have q : t = a := by simpa using q
  subst q; obtain ⟨ns, e, -⟩ := R; rw [ht] at e; cases e
theorem w_made (C : c.Ok) (hr : Room 3 A (S.map (·.1))) {a : Addr} (R : RowAt H a) (h : ∀ H1 ra (ins : Ins), ins.Ok → H1 ra = some (.tuple ins.vals) → RowAt H1 a → Mod [a] H H1 → Q (.ref ra) H1) : CV c A E S (.ref 351) [.ref a] H Q := by
  refine (CC.post (CC_top C 351 (st 37) "_law_made" (.str "law_pb0343_01" 592) (.ref 350) .none [] ["row"] (by rfl) (by kernel_rfl) (by kernel_rfl) hr (Binds.plain1 (fun _ => by rfl)) rfl (fun L E' A' rm => ?_))).cv
  walk_at "w"
  refine w_next C (by walk_at "room") R fun H1 v1 R1 l1 v10 v11 => ?_
  walk_at "w"
  refine w_next C (by walk_at "room") R1 fun H2 v2 R2 l2 v20 v21 => ?_
  walk_at "w"
  refine w_next C (by walk_at "room") R2 fun H3 v3 R3 l3 v30 v31 => ?_
  walk_at "w"
  refine ⟨by simp, fun t ht => ?_⟩
  walk_at "w"
  refine w_next C (by walk_at "room") (R3.new ht) fun H4 v4 R4 l4 v40 v41 => ?_
  walk_at "w"
  obtain ⟨kk, hk1, hk2⟩ := ten_at (i := v4 % 10) (by omega)
  refine SUB_list (vs := condTen.map fun x => Value.str x 0) (l4 _ _ (R3.ne ht) AH.set_self) (by omega) (by omega) hk1 ?_
  walk_at "w"
  refine ⟨by simp, fun nl hnl => ?_⟩
  have R5 : RowAt (H4.set nl (.list (opNames.map fun x => .str x 0))) a := R4.new hnl
  have m5 : Mod [a] H (H4.set nl (.list (opNames.map fun x => .str x 0))) := (((((l1.trans l2).trans l3).trans (Mod.sub_new ht)).trans l4).trans (Mod.sub_new hnl))
  have hN : (H4.set nl (.list (opNames.map fun x => .str x 0))) nl = some (.list (opNames.map fun x => .str x 0)) := AH.set_self
  have hnn := R4.ne hnl
  show Then _ _ _ _ _ _ _ _ _ _ (H4.set nl (.list (opNames.map fun x => .str x 0)))
  generalize H4.set nl (.list (opNames.map fun x => .str x 0)) = H5 at R5 m5 hN
  have ga : Rg (v2 % 16) := by unfold Rg; omega
  have gb : Rg (v3 % 16) := by unfold Rg; omega
  by_cases k3 : v1 % 9 < 3
  · walk_at "w"
    refine w_next C (by walk_at "room") R5 fun H6 v6 R6 l6 v60 v61 => ?_
    walk_at "w"
    obtain ⟨o, ho⟩ := ops_at (i := v6 % 12) (by omega)
    refine SUB_list (l6 _ _ hnn hN) (by omega) (by omega) ho ?_
    walk_at "w"
    refine w_next C (by walk_at "room") R6 fun H7 v7 R7 l7 v70 v71 => ?_
    walk_at "w"
    refine ⟨by simp, fun u hu => ?_⟩
    walk_at "w"
    exact ⟨_, Le.refl, h _ u (.op o _ _ _) ⟨ga, gb, by unfold Rg; omega⟩ AH.set_self (R7.new hu) (((m5.trans l6).trans l7).trans (Mod.sub_new hu))⟩
  by_cases k5 : v1 % 9 < 5
  · walk_at "w"
    refine w_next C (by walk_at "room") R5 fun H6 v6 R6 l6 v60 v61 => ?_
    walk_at "w"
    obtain ⟨o, ho⟩ := ops_at (i := v6 % 12) (by omega)
    refine SUB_list (l6 _ _ hnn hN) (by omega) (by omega) ho ?_
    walk_at "w"
    refine BIN_str_add (nm_len o) ?_
    rw [nmI_eq]
    walk_at "w"
    refine w_next C (by walk_at "room") R6 fun H7 v7 R7 l7 v70 v71 => ?_
    walk_at "w"
    refine ⟨by simp, fun t2 ht2 => ?_⟩
    walk_at "w"
    refine w_next C (by walk_at "room") (R7.new ht2) fun H8 v8 R8 l8 v80 v81 => ?_
    walk_at "w"
    obtain ⟨w, hw⟩ := any_int (l := [v7 % 20, 65535, -65536, -3]) (i := v8 % 4) (by omega) (by simp; omega)
    refine SUB_list (l8 _ _ (R7.ne ht2) AH.set_self) (by omega) (by omega) hw ?_
    walk_at "w"
    refine ⟨by simp, fun u hu => ?_⟩
    walk_at "w"
    exact ⟨_, Le.refl, h _ u (.opI o _ _ w) ⟨ga, gb⟩ AH.set_self (R8.new hu) (((((m5.trans l6).trans l7).trans (Mod.sub_new ht2)).trans l8).trans (Mod.sub_new hu))⟩
  by_cases k6 : v1 % 9 = 5
  · walk_at "w"
    refine ⟨by simp, fun t2 ht2 => ?_⟩
    walk_at "w"
    refine w_next C (by walk_at "room") (R5.new ht2) fun H6 v6 R6 l6 v60 v61 => ?_
    walk_at "w"
    obtain ⟨x, hx, hx2⟩ := two_at (i := v6 % 2) (by omega)
    refine SUB_list (l6 _ _ (R5.ne ht2) AH.set_self) (by omega) (by omega) hx ?_
    walk_at "w"
    refine ⟨by simp, fun u hu => ?_⟩
    walk_at "w"
    rcases hx2 with rfl | rfl
    · exact ⟨_, Le.refl, h _ u (.movh _) ga AH.set_self (R6.new hu) (((m5.trans (Mod.sub_new ht2)).trans l6).trans (Mod.sub_new hu))⟩
    · exact ⟨_, Le.refl, h _ u (.geth _) ga AH.set_self (R6.new hu) (((m5.trans (Mod.sub_new ht2)).trans l6).trans (Mod.sub_new hu))⟩
  by_cases k7 : v1 % 9 = 6
  · walk_at "w"
    refine ⟨by simp, fun t2 ht2 => ?_⟩
    walk_at "w"
    refine w_next C (by walk_at "room") (R5.new ht2) fun H6 v6 R6 l6 v60 v61 => ?_
    walk_at "w"
    obtain ⟨o, ho⟩ := mems_at (i := v6 % 4) (by omega)
    refine SUB_list (l6 _ _ (R5.ne ht2) AH.set_self) (by omega) (by omega) ho ?_
    walk_at "w"
    refine w_next C (by walk_at "room") R6 fun H7 v7 R7 l7 v70 v71 => ?_
    walk_at "w"
    by_cases k8 : 0 < v7 % 3 <;>
    · walk_at "w"
      refine w_next C (by walk_at "room") R7 fun H8 v8 R8 l8 v80 v81 => ?_
      walk_at "w"
      refine ⟨by simp, fun u hu => ?_⟩
      walk_at "w"
      exact ⟨_, Le.refl, h _ u (.mem o _ _ _) ⟨ga, by unfold Rg at *; omega⟩ AH.set_self (R8.new hu) (((((m5.trans (Mod.sub_new ht2)).trans l6).trans l7).trans l8).trans (Mod.sub_new hu))⟩
  by_cases k8 : v1 % 9 = 7
  · walk_at "w"
    refine w_next C (by walk_at "room") R5 fun H6 v6 R6 l6 v60 v61 => ?_
    walk_at "w"
    refine ⟨by simp, fun u1 hu1 => ?_⟩
    walk_at "w"
    refine w_next C (by walk_at "room") (R6.new hu1) fun H7 v7 R7 l7 v70 v71 => ?_
    walk_at "w"
    refine ⟨by simp, fun u2 hu2 => ?_⟩
    walk_at "w"
    refine ⟨by simp, fun u3 hu3 => ?_⟩
    walk_at "w"
    refine ⟨by simp, fun u4 hu4 => ?_⟩
    walk_at "w"
    refine ⟨by simp, fun u5 hu5 => ?_⟩
    walk_at "w"
    have o1 := sub_new (o := .list [.ref u1, .ref u2, .ref u3, .ref u4]) hu5 _ _ (sub_new (o := .tuple [.str "BLR" 0, .str kk 0, .int 13 0, .int 0 0]) hu4 _ _ (sub_new (o := .tuple [.str "BR" 0, .str kk 0, .int 13 0, .int 0 0]) hu3 _ _ (sub_new (o := .tuple [.str "BL" 0, .str kk 0, .int (v7 % 4) 0, .int 0 0]) hu2 _ _ (l7 _ _ (R6.ne hu1) (AH.set_self (H := H6) (a := u1))))))
    have o2 := sub_new (o := .list [.ref u1, .ref u2, .ref u3, .ref u4]) hu5 _ _ (sub_new (o := .tuple [.str "BLR" 0, .str kk 0, .int 13 0, .int 0 0]) hu4 _ _ (sub_new (o := .tuple [.str "BR" 0, .str kk 0, .int 13 0, .int 0 0]) hu3 _ _ (AH.set_self (H := H7) (a := u2) (o := .tuple [.str "BL" 0, .str kk 0, .int (v7 % 4) 0, .int 0 0]))))
    have o3 := sub_new (o := .list [.ref u1, .ref u2, .ref u3, .ref u4]) hu5 _ _ (sub_new (o := .tuple [.str "BLR" 0, .str kk 0, .int 13 0, .int 0 0]) hu4 _ _ (AH.set_self (H := H7.set u2 (.tuple [.str "BL" 0, .str kk 0, .int (v7 % 4) 0, .int 0 0])) (a := u3) (o := .tuple [.str "BR" 0, .str kk 0, .int 13 0, .int 0 0])))
    have o4 := sub_new (o := .list [.ref u1, .ref u2, .ref u3, .ref u4]) hu5 _ _ (AH.set_self (H := (H7.set u2 (.tuple [.str "BL" 0, .str kk 0, .int (v7 % 4) 0, .int 0 0])).set u3 (.tuple [.str "BR" 0, .str kk 0, .int 13 0, .int 0 0])) (a := u4) (o := .tuple [.str "BLR" 0, .str kk 0, .int 13 0, .int 0 0]))
    have n1 := R6.ne hu1
    have n2 := R7.ne hu2
    have n3 := (R7.new (o := .tuple [.str "BL" 0, .str kk 0, .int (v7 % 4) 0, .int 0 0]) hu2).ne hu3
    have n4 := ((R7.new (o := .tuple [.str "BL" 0, .str kk 0, .int (v7 % 4) 0, .int 0 0]) hu2).new (o := .tuple [.str "BR" 0, .str kk 0, .int 13 0, .int 0 0]) hu3).ne hu4
    have R8 := (((R7.new (o := .tuple [.str "BL" 0, .str kk 0, .int (v7 % 4) 0, .int 0 0]) hu2).new (o := .tuple [.str "BR" 0, .str kk 0, .int 13 0, .int 0 0]) hu3).new (o := .tuple [.str "BLR" 0, .str kk 0, .int 13 0, .int 0 0]) hu4)
    have n5 := R8.ne hu5
    have R9 := R8.new (o := .list [.ref u1, .ref u2, .ref u3, .ref u4]) hu5
    refine w_next C (by walk_at "room") R9 fun H9 v9 R10 l9 v90 v91 => ?_
    walk_at "w"
    have pick : ∃ ur ins, ([Value.ref u1, .ref u2, .ref u3, .ref u4])[(v9 % 4).toNat]? = some (.ref ur) ∧ Ins.Ok ins ∧ H9 ur = some (.tuple ins.vals) := by
      rcases four (k := v9 % 4) (by omega) with q | q | q | q <;> rw [q]
      · exact ⟨u1, .br .B kk _ _, rfl, ⟨hk2, fun q => by cases q⟩, l9 _ _ n1 o1⟩
      · exact ⟨u2, .br .BL kk _ _, rfl, ⟨hk2, fun q => by cases q⟩, l9 _ _ n2 o2⟩
      · exact ⟨u3, .br .BR kk _ _, rfl, ⟨hk2, fun _ => by unfold Rg; omega⟩, l9 _ _ n3 o3⟩
      · exact ⟨u4, .br .BLR kk _ _, rfl, ⟨hk2, fun _ => by unfold Rg; omega⟩, l9 _ _ n4 o4⟩
    obtain ⟨ur, ins, e1, e2, e3⟩ := pick
    refine SUB_list (l9 _ _ n5 AH.set_self) (by omega) (by omega) e1 ?_
    walk_at "w"
    exact ⟨_, Le.refl, h _ ur ins e2 e3 R10 ((((((((m5.trans l6).trans (Mod.sub_new hu1)).trans l7).trans (Mod.sub_new hu2)).trans (Mod.sub_new hu3)).trans (Mod.sub_new hu4)).trans (Mod.sub_new hu5)).trans l9)⟩
  · walk_at "w"
    refine w_next C (by walk_at "room") R5 fun H6 v6 R6 l6 v60 v61 => ?_
    walk_at "w"
    refine w_next C (by walk_at "room") R6 fun H7 v7 R7 l7 v70 v71 => ?_
    walk_at "w"
    refine ⟨by simp, fun u hu => ?_⟩
    walk_at "w"
    exact ⟨_, Le.refl, h _ u (.br .TRAP kk _ _) ⟨hk2, fun q => by cases q⟩ AH.set_self (R7.new hu) (((m5.trans l6).trans l7).trans (Mod.sub_new hu))⟩
end
section
variable {c : Cx} {A : Around} {E : Value → Shared → Prop} {env : Env} {L : Addr} {S : Stk} {m : Loc} {H : AH} {s : Shared} {Q : Value → AH → Prop}
theorem sub_mid {m m' : Loc} {y : Str} {u : Value} (h : ∀ x v, x ≠ y → m'.lookup x = some v → m.lookup x = some v) : SubL ((y, u) :: m') ((y, u) :: m) := fun x v hx => by
  by_cases q : x = y
  · subst q; rw [lookup_cons_eq] at hx ⊢; exact hx
  · rw [lookup_cons_ne q] at hx ⊢; exact h x v q hx
noncomputable def Ints (ns : List Int) : Prop := ∀ n ∈ ns, 0 ≤ n ∧ n < 1024
theorem Ints.push {ns : List Int} (h : Ints ns) (v : Int) : Ints (ns ++ [v % 1024]) := fun n hn => by
  rcases List.mem_append.mp hn with q | q
  · exact h n q
  · have : n = v % 1024 := by simpa using q
    subst this; exact ⟨Int.emod_nonneg _ (by decide), Int.emod_lt_of_pos _ (by decide)⟩
theorem SubL.of_ne {m' m : Loc} {y : Str} {v : Value} {x : Str} (hx : x ≠ y) (l : SubL m' m) : ∀ u, m'.lookup x = some u → ((y, v) :: m).lookup x = some u := fun u hu => by rw [lookup_cons_ne hx]; exact l x u hu
theorem lap_fig {m0 : Loc} {x lap fig : Str} {v a b : Value} (hl : m0.lookup lap = none) (hx : x ≠ fig) (h : m0.lookup x = some v) : ((lap, a) :: (fig, b) :: m0).lookup x = some v := by
  have : x ≠ lap := fun q => by rw [q, hl] at h; cases h
  rw [lookup_cons_ne this, lookup_cons_ne hx]; exact h
theorem ints_of {ns : List Int} (h : Ints ns) : ∀ {ws : List Value}, (∀ v ∈ ws, v ∈ ns.map fun i => Value.int i 0) → ∃ ms : List Int, ws = ms.map (fun i => .int i 0) ∧ Ints ms := by
  intro ws
  induction ws with
  | nil => intro _; exact ⟨[], rfl, fun n hn => by cases hn⟩
  | cons v r ih =>
    intro hv
    obtain ⟨ms, rfl, h2⟩ := ih fun u hu => hv u (.tail _ hu)
    obtain ⟨i, hi, rfl⟩ := List.mem_map.mp (hv v (.head _))
    exact ⟨i :: ms, rfl, fun n hn => by
      rcases List.mem_cons.mp hn with q | q
      · rw [q]; exact h i hi
      · exact h2 n q⟩
theorem loopF {env : Env} {y z : Str} {body : List Stmt} {L : Addr} {m0 : Loc} {u : Value} {sq : Sq} {it : Addr} {Q : Flow → Loc → AH → Prop} (h : ∃ (ls : List Addr) (P0 : Nat → Value → AH → Prop), LoopOk c A env y body L ((z, u) :: m0) S sq it H Q ls (fun i m1 H1 => ∃ w, m1 = (z, w) :: m0 ∧ P0 i w H1)) : ∃ ls P, LoopOk c A env y body L ((z, u) :: m0) S sq it H Q ls P :=
  let ⟨ls, P0, h⟩ := h; ⟨ls, _, h⟩
theorem w_lrow (C : c.Ok) (hr : Room 2 A (S.map (·.1))) {sa : Addr} {xs : List Int} (hx : xs.length ≤ 63) (hs : ∀ S H s, St c S H s → ∃ vc, s.heap.IsList sa vc ∧ vc.toList.map er = xs.map fun i => .int i 0) (h : ∀ H1 ra, H ra = none → RowAt H1 ra → Le H H1 → Q (.ref ra) H1) : CV c A E S (.ref 297) [.ref sa] H Q := by
  refine (CC.post (CC_top C 297 (st 29) "_law_row" (.str "law_pb0343_01" 592) (.ref 296) .none [] ["script"] (by rfl) (by kernel_rfl) (by kernel_rfl) hr (Binds.plain1 (fun _ => by rfl)) rfl (fun L E' A' rm => ?_))).cv
  walk_at "w"
  refine ⟨by simp, fun ra hra => ?_⟩
  walk_at "w"
  refine XE_for (Room.noh rm) ?_
  refine EV_slice_list (EV_local (by rfl) ⟨sa, xs.map fun i => .int i 0, rfl, by rw [List.length_map]; omega, fun s z => hs _ _ s z, fun wl ws hwl hmem hlen => ?_⟩)
  refine ITER_list AH.set_self fun it hit => ?_
  rw [List.length_map] at hlen
  have hwr : wl ≠ ra := fun q => by rw [q, AH.set_self] at hwl; cases hwl
  have hir : it ≠ ra := fun q => by rw [q, AH.set_ne hwr.symm, AH.set_self] at hit; cases hit
  have hiw : it ≠ wl := fun q => by rw [q, AH.set_self] at hit; cases hit
  have hra0 : (((H.set ra (.list [])).set wl (.list ws)).set it ((Sq.list wl ws).ao 0)) ra = some (.list []) := (AH.set_ne hir.symm).trans ((AH.set_ne hwr.symm).trans AH.set_self)
  have hwl0 : (((H.set ra (.list [])).set wl (.list ws)).set it ((Sq.list wl ws).ao 0)) wl = some (.list ws) := (AH.set_ne hiw.symm).trans AH.set_self
  have lH : Le H (((H.set ra (.list [])).set wl (.list ws)).set it ((Sq.list wl ws).ao 0)) := ((Le.refl.new hra).new hwl).new hit
  have hitH : H it = none := by rw [AH.set_ne hiw, AH.set_ne hir] at hit; exact hit
  refine loop0 ⟨[ra], fun i H1 => ∃ ns, H1 ra = some (.list (ns.map fun i => .int i 0)) ∧ Ints ns ∧ ns.length ≤ 31 * i, ?_⟩
  refine ⟨fun H1 hM => hM _ _ (by simp only [List.mem_cons, List.not_mem_nil, or_false, not_or]; exact ⟨hiw.symm, hwr⟩) hwl0, by simpa using hir, ⟨rfl, [], hra0, (fun n hn => by cases hn), Nat.zero_le _⟩, ?_, ?_, ?_⟩
  · rintro i m1 H1 H2 ⟨e, ns, k1, k2, k3⟩ hK
    exact ⟨e, ns, hK _ _ k1 rfl, k2, k3⟩
  · rintro i v m1 H1 hv ⟨rfl, ns, k1, k2, k3⟩ hMd
    obtain ⟨x, rfl⟩ : ∃ x : Int, v = .int x 0 := by
      have := hmem v (List.mem_of_getElem? hv)
      obtain ⟨x, _, e⟩ := List.mem_map.mp this
      exact ⟨x, e.symm⟩
    have hi : i < ws.length := (List.getElem?_eq_some_iff.mp hv).1
    by_cases hx0 : 0 ≤ x <;>
    · walk_at "w"
      refine METH_list C k1 PySem.F.slot_list_append (by rfl) ?_ (by rfl)
      walk_at "w"
      refine CV_append k1 (by rw [List.length_map]; omega) ?_
      walk_at "w"
      refine XE_for (Room.noh rm) ?_
      walk_at "w"
      refine CV_range1 fun rr hrr => ?_
      obtain ⟨sm, rs⟩ := small_range (n := 30) (by decide)
      refine ITER_range AH.set_self sm rs fun it2 hit2 => ?_
      have hrra : rr ≠ ra := fun q => by rw [q, AH.set_self] at hrr; cases hrr
      have hita : it2 ≠ ra := fun q => by rw [q, AH.set_ne hrra.symm, AH.set_self] at hit2; cases hit2
      have hir2 : it2 ≠ rr := fun q => by rw [q, AH.set_self] at hit2; cases hit2
      refine loopF ⟨[ra], fun j w H2 => ∃ g ns', w = .int g 0 ∧ H2 ra = some (.list (ns'.map fun i => .int i 0)) ∧ Ints ns' ∧ ns'.length ≤ 31 * i + 1 + j, ?_⟩
      refine ⟨fun _ _ => trivial, by simpa using hita, ⟨_, rfl, _, ns ++ [_], rfl, ((AH.set_ne hita.symm).trans ((AH.set_ne hrra.symm).trans AH.set_self)).trans (by rw [List.map_append]; rfl), k2.push _, by rw [List.length_append]; simp; omega⟩, ?_, ?_, ?_⟩
      · rintro j m1 H2 H3 ⟨w, e, g, ns', e2, q1, q2, q3⟩ hK
        exact ⟨w, e, g, ns', e2, hK _ _ q1 rfl, q2, q3⟩
      · rintro j v m1 H2 hv2 ⟨w, rfl, g, ns', rfl, q1, q2, q3⟩ hMd2
        obtain ⟨hj, rfl⟩ := range_at hv2
        by_cases hg : 0 < g
        · walk_at "w"
          refine METH_list C q1 PySem.F.slot_list_append (by rfl) ?_ (by rfl)
          walk_at "w"
          refine CV_append q1 (by rw [List.length_map]; omega) ?_
          walk_at "w"
          exact ⟨Mod.one (.head _), _, sub_mid fun y u hy hu => lap_fig (by kernel_rfl) hy hu, _, rfl, _, ns' ++ [_], rfl, AH.set_self.trans (by rw [List.map_append]; rfl), q2.push _, by rw [List.length_append]; simp; omega⟩
        · walk_at "w"
          exact ⟨Mod.refl, _, SubL.cons (by kernel_rfl) SubL.refl, _, rfl, g, ns', rfl, q1, q2, by omega⟩
      · rintro m1 H2 ⟨w, rfl, g, ns', rfl, q1, q2, q3⟩ hMd2
        have hlen2 : (Sq.range 0 1 30).xs.length = 30 := by simp [Sq.xs]
        rw [hlen2] at q3
        walk_at "w"
        refine ⟨fun b o hb e => hMd2 b o (fun q => ?_) ?_, _, SubL.cons (by kernel_rfl) (SubL.cons (by kernel_rfl) (SubL.cons (by kernel_rfl) SubL.refl)), rfl, ns', q1, q2, by omega⟩
        · have hb' : b ≠ ra := by simpa using hb
          simp only [List.mem_cons, List.not_mem_nil, or_false] at q
          rcases q with q | q
          · rw [q] at e
            rw [AH.set_ne hir2, AH.set_ne hita] at hit2
            rw [hit2] at e; cases e
          · exact hb' q
        · have hb' : b ≠ ra := by simpa using hb
          have h1 : b ≠ rr := fun q => by rw [q] at e; rw [AH.set_ne hrra] at hrr; rw [hrr] at e; cases e
          have h2 : b ≠ it2 := fun q => by rw [q] at e; rw [AH.set_ne hir2, AH.set_ne hita] at hit2; rw [hit2] at e; cases e
          exact (AH.set_ne h2).trans ((AH.set_ne h1).trans ((AH.set_ne hb').trans e))
  · rintro m1 H1 ⟨rfl, ns, k1, k2, k3⟩ hMd
    have hlen1 : (Sq.list wl ws).xs.length = ws.length := rfl
    rw [hlen1] at k3
    have hM1 := Mod.base (H := H) hitH lH hMd
    refine Then_next ?_
    refine XS_cons (XE_assign ?_)
    refine EV_slice_list (EV_local (by rfl) ⟨ra, ns.map fun i => .int i 0, rfl, by rw [List.length_map]; omega, fun s z => let ⟨vc, n, h1, h2⟩ := z.list k1; ⟨vc, ⟨_, h1, rfl, n, rfl⟩, h2⟩, fun rb ws2 hrb hmem2 hlen2 => ?_⟩)
    obtain ⟨ns2, rfl, hi2⟩ := ints_of k2 hmem2
    rw [List.length_map, List.length_map] at hlen2
    walk_at "w"
    refine METH_list C AH.set_self PySem.F.slot_list_reverse (by rfl) ?_ (by rfl)
    walk_at "w"
    refine CV_reverse AH.set_self (by rw [List.length_map]; omega) ?_
    walk_at "w"
    have hrbH : H rb = none := by
      cases e : H rb with
      | none => rfl
      | some o =>
        have := hM1 rb o (fun q => by have q : rb = ra := by simpa using q
                                      rw [q] at e; rw [hra] at e; cases e) e
        rw [this] at hrb; cases hrb
    refine ⟨_, Le.refl, h _ rb hrbH ⟨ns2.reverse, AH.set_self.trans (by rw [List.map_reverse]), fun n hn => hi2 n (List.mem_reverse.mp hn), by rw [List.length_reverse]; omega⟩ fun b o e => ?_⟩
    have h1 : b ≠ rb := fun q => by rw [q, hrbH] at e; cases e
    have h2 : b ≠ ra := fun q => by rw [q, hra] at e; cases e
    exact (AH.set_ne h1).trans ((AH.set_ne h1).trans (hM1 b o (by simpa using h2) e))
end
section
variable {c : Cx} {A : Around} {E : Value → Shared → Prop} {env : Env} {L : Addr} {S : Stk} {m : Loc} {H : AH} {s : Shared} {Q : Value → AH → Prop}
theorem w_Mem (C : c.Ok) (hr : Room 3 A (S.map (·.1))) (h : ∀ H1 mo md wd, H mo = none → H md = none → H wd = none → MemAt H1 mo md wd (fun _ => none) 0 → Le H H1 → Q (.ref mo) H1) : CV c A E S (.ref 286) [.int 64 0] H Q := by
  refine CV_cls (n := 2) C CP_Memory (fI := 248) (by kernel_rfl) (by kernel_rfl) hr fun x dx A' hx hdx hne rm => ?_
  refine w_mem_init C (by walk_at "room") (md := dx) AH.set_self ((AH.set_ne hne.symm).trans AH.set_self) fun wd hwd => ⟨rfl, ?_⟩
  have h1 : wd ≠ x := fun q => by rw [q, AH.set_self] at hwd; cases hwd
  have h2 : wd ≠ dx := fun q => by rw [q, AH.set_ne hne.symm, AH.set_self] at hwd; cases hwd
  have hwd0 : H wd = none := by rw [AH.set_ne h1, AH.set_ne h2] at hwd; exact hwd
  refine h _ x dx wd hx hdx hwd0 ⟨?_, AH.set_self, ?_⟩ fun b o e => ?_
  · exact (AH.set_ne hne).trans ((AH.set_ne h1.symm).trans AH.set_self)
  · exact (AH.set_ne h2).trans AH.set_self
  · have b1 : b ≠ x := fun q => by rw [q, hx] at e; cases e
    have b2 : b ≠ dx := fun q => by rw [q, hdx] at e; cases e
    have b3 : b ≠ wd := fun q => by rw [q, hwd0] at e; cases e
    exact (AH.set_ne b2).trans ((AH.set_ne b3).trans ((AH.set_ne b1).trans ((AH.set_ne b2).trans e)))
noncomputable def mach0 (mem : Int → Int) : Mach := ⟨List.replicate 16 0, 0, false, false, false, false, 0, mem⟩
theorem SETA_I {x dx : Addr} {m m' : Loc} {n : Str} {v : Value} {QH : AH → Prop} (C : c.Ok) (ho : H x = some (.inst 223 dx)) (hd : H dx = some (.ns m)) (e : setL n v m = m') (hl : m.length < 1000) (hn : findIn c.K (.ref 223) n = some none)
    (h : ∀ H1, H1 x = some (.inst 223 dx) → H1 dx = some (.ns m') → Mod [dx] H H1 → QH H1) : SETA c A E S (.ref x) n v H QH := by
  refine SETA_ns C CP_Cpu ho hd hn hl ?_
  rw [e]
  exact h _ ((AH.set_ne (ne_obs ho hd (by intro q; cases q))).trans ho) AH.set_self (Mod.one (.head _))
theorem w_cpu_init (C : c.Ok) (hr : Room 1 A (S.map (·.1))) {x dx mo : Addr} (ho : H x = some (.inst 223 dx)) (hd : H dx = some (.ns [])) (h : ∀ H1 rl rw mem, H rl = none → H rw = none → H1 x = some (.inst 223 dx) → H1 dx = some (.ns (cpuNs mo rl rw (mach0 mem))) → H1 rl = some (.list ((mach0 mem).regs.map fun i => .int i 0)) → H1 rw = some (.list []) → Mod [dx] H H1 → Q .none H1) : CC c A E S (.ref 171) [.ref x, .ref mo] H Q := by
  refine CC_top C 171 (me 23 0) "Cpu.__init__" (.str "moduleyard.cpu" 396) (.ref 170) .none [] ["self", "memory"] (by rfl) (by kernel_rfl) (by kernel_rfl) hr (Binds.plain2 (fun _ _ => by rfl)) rfl (fun L E' A' rm => ?_)
  walk_at "w"
  refine SETA_I C (m' := [("memory", .ref mo)]) ho hd (by kernel_rfl) (by simp) (by kernel_rfl) fun H1 o1 d1 m1 => ?_
  walk_at "w"
  refine ⟨by simp, fun t ht => ?_⟩
  walk_at "w"
  refine BIN_list_mul AH.set_self (by decide) fun rl hrl => ?_
  walk_at "w"
  have e1 := sub_new (o := .list (List.replicate (16 : Int).toNat (.int 0 0))) hrl _ _ (sub_new (o := .list [.int 0 0]) ht _ _ o1)
  have e2 := sub_new (o := .list (List.replicate (16 : Int).toNat (.int 0 0))) hrl _ _ (sub_new (o := .list [.int 0 0]) ht _ _ d1)
  have e3 : ((H1.set t (.list [.int 0 0])).set rl (.list (List.replicate (16 : Int).toNat (.int 0 0)))) rl = _ := AH.set_self
  have hrld : rl ∉ [dx] := fun q => by
    have q : rl = dx := by simpa using q
    rw [q] at hrl
    have := sub_new (o := .list [.int 0 0]) ht _ _ d1
    rw [this] at hrl; cases hrl
  have hrl0 : H rl = none := by
    cases e : H rl with
    | none => rfl
    | some o =>
      have := sub_new (o := .list [.int 0 0]) ht _ _ (m1 _ _ hrld e)
      rw [this] at hrl; cases hrl
  refine SETA_I C (m' := [("memory", .ref mo), ("regs", .ref rl)]) e1 e2 (by kernel_rfl) (by simp) (by kernel_rfl) fun H2 o2 d2 m2 => ?_
  have r2 := m2 _ _ hrld e3
  have k2 : Mod [dx] H H2 := ((m1.trans (Mod.sub_new ht)).trans (Mod.sub_new hrl)).trans m2
  walk_at "w"
  refine SETA_I C (m' := [("memory", .ref mo), ("regs", .ref rl), ("h", .int 0 0)]) o2 d2 (by kernel_rfl) (by simp) (by kernel_rfl) fun H3 o3 d3 m3 => ?_
  walk_at "w"
  refine SETA_I C (m' := [("memory", .ref mo), ("regs", .ref rl), ("h", .int 0 0), ("n", .int 0 0)]) o3 d3 (by kernel_rfl) (by simp) (by kernel_rfl) fun H4 o4 d4 m4 => ?_
  walk_at "w"
  refine SETA_I C (m' := [("memory", .ref mo), ("regs", .ref rl), ("h", .int 0 0), ("n", .int 0 0), ("z", .int 0 0)]) o4 d4 (by kernel_rfl) (by simp) (by kernel_rfl) fun H5 o5 d5 m5 => ?_
  walk_at "w"
  refine SETA_I C (m' := [("memory", .ref mo), ("regs", .ref rl), ("h", .int 0 0), ("n", .int 0 0), ("z", .int 0 0), ("c", .int 0 0)]) o5 d5 (by kernel_rfl) (by simp) (by kernel_rfl) fun H6 o6 d6 m6 => ?_
  walk_at "w"
  refine SETA_I C (m' := [("memory", .ref mo), ("regs", .ref rl), ("h", .int 0 0), ("n", .int 0 0), ("z", .int 0 0), ("c", .int 0 0), ("v", .int 0 0)]) o6 d6 (by kernel_rfl) (by simp) (by kernel_rfl) fun H7 o7 d7 m7 => ?_
  walk_at "w"
  refine SETA_I C (m' := [("memory", .ref mo), ("regs", .ref rl), ("h", .int 0 0), ("n", .int 0 0), ("z", .int 0 0), ("c", .int 0 0), ("v", .int 0 0), ("pc", .int 0 0)]) o7 d7 (by kernel_rfl) (by simp) (by kernel_rfl) fun H8 o8 d8 m8 => ?_
  walk_at "w"
  refine ⟨by simp, fun rw hrw => ?_⟩
  have k8 : Mod [dx] H H8 := (((((k2.trans m3).trans m4).trans m5).trans m6).trans m7).trans m8
  have r8 := m8 _ _ hrld (m7 _ _ hrld (m6 _ _ hrld (m5 _ _ hrld (m4 _ _ hrld (m3 _ _ hrld r2)))))
  have hrwd : rw ∉ [dx] := fun q => by
    have q : rw = dx := by simpa using q
    rw [q, d8] at hrw; cases hrw
  have hrw0 : H rw = none := by
    cases e : H rw with
    | none => rfl
    | some o => have := k8 _ _ hrwd e; rw [this] at hrw; cases hrw
  walk_at "w"
  refine SETA_I C (m' := cpuNs mo rl rw (mach0 fun _ => 0)) (sub_new hrw _ _ o8) (sub_new hrw _ _ d8) (by kernel_rfl) (by simp) (by kernel_rfl) fun H9 o9 d9 m9 => ?_
  walk_at "w"
  exact h H9 rl rw _ hrl0 hrw0 o9 d9 (m9 _ _ hrld (sub_new hrw _ _ r8)) (m9 _ _ hrwd AH.set_self) ((k8.trans (Mod.sub_new hrw)).trans m9)
theorem w_Cpu (C : c.Ok) (hr : Room 3 A (S.map (·.1))) {mo : Addr} (h : ∀ H1 x dx rl rw mem, H x = none → H dx = none → H rl = none → H rw = none → H1 x = some (.inst 223 dx) → H1 dx = some (.ns (cpuNs mo rl rw (mach0 mem))) → H1 rl = some (.list ((mach0 mem).regs.map fun i => .int i 0)) → H1 rw = some (.list []) → Le H H1 → Q (.ref x) H1) : CV c A E S (.ref 223) [.ref mo] H Q := by
  refine CV_cls (n := 2) C CP_Cpu (fI := 171) (by kernel_rfl) (by kernel_rfl) hr fun x dx A' hx hdx hne rm => ?_
  refine w_cpu_init C (by walk_at "room") (dx := dx) AH.set_self ((AH.set_ne hne.symm).trans AH.set_self) fun H1 rl rw mem hrl hrw o1 d1 r1 w1 m1 => ⟨rfl, ?_⟩
  have f : ∀ a, ((H.set dx (.ns [])).set x (.inst 223 dx)) a = none → H a = none := fun a ha => ((Le.refl.new hdx).new ((AH.set_ne hne).trans hx)).free ha
  refine h H1 x dx rl rw mem hx hdx (f _ hrl) (f _ hrw) o1 d1 r1 w1 fun b o e => ?_
  have b1 : b ≠ x := fun q => by rw [q, hx] at e; cases e
  have b2 : b ≠ dx := fun q => by rw [q, hdx] at e; cases e
  exact m1 _ _ (by simpa using b2) ((AH.set_ne b1).trans ((AH.set_ne b2).trans e))
end
section
variable {c : Cx} {A : Around} {E : Value → Shared → Prop} {env : Env} {L : Addr} {S : Stk} {m : Loc} {H : AH} {s : Shared} {Q : Value → AH → Prop}
/-- the script's list, where the claim laid it -/
noncomputable def ScriptAt (c : Cx) (sa : Addr) (xs : List Int) : Prop := ∃ vc, c.g.IsList sa vc ∧ vc.toList.map er = xs.map fun i => .int i 0
theorem ScriptAt.read {sa : Addr} {xs : List Int} (h : ScriptAt c sa xs) : ∀ S H s, St c S H s → ∃ vc, s.heap.IsList sa vc ∧ vc.toList.map er = xs.map fun i => .int i 0 := fun S H s z =>
  let ⟨vc, ⟨o, h1, h3⟩, h2⟩ := h; ⟨vc, ⟨o, z.keep _ _ h1, h3⟩, h2⟩
noncomputable def lawCells (L : Addr) : List (Str × Addr) := [((Str.ofString "store_x"), L + 1 + 1 + 1), ((Str.ofString "cells"), L + 1 + 1), ((Str.ofString "row"), L + 1)]
noncomputable abbrev lawEnv (L : Addr) : Env := envX "law" (scopeOf (st 38)) L 356 (.ref 355) (lawCells L)
theorem CpuAt.mod {x dx mo md wd rl rw : Addr} {M : Mach} {k : Nat} (K : CpuAt H x dx mo md wd rl rw M k) {H1 : AH} {ls : List Addr} (l : Mod ls H H1) (h1 : x ∉ ls) (h2 : dx ∉ ls) (h3 : mo ∉ ls) (h4 : md ∉ ls) (h5 : wd ∉ ls) (h6 : rl ∉ ls) : CpuAt H1 x dx mo md wd rl rw M k :=
  ⟨l _ _ h1 K.o, l _ _ h2 K.d, l _ _ h6 K.r, let ⟨f, n, a, b, d⟩ := K.m; ⟨f, n, ⟨l _ _ h3 a.o, l _ _ h4 a.d, l _ _ h5 a.w⟩, b, d⟩⟩
theorem MacAt.mod {ad rl wc rw : Addr} {M : Mach} {k : Nat} (K : MacAt H ad rl wc rw M k) {H1 : AH} {ls : List Addr} (l : Mod ls H H1) (h1 : ad ∉ ls) (h2 : rl ∉ ls) (h3 : wc ∉ ls) (h4 : ∀ ml n z cc v, H ml = some (.list [.bool n, .bool z, .bool cc, .bool v]) → ml ∉ ls) : MacAt H1 ad rl wc rw M k :=
  ⟨let ⟨ml, a, b⟩ := K.d; ⟨ml, l _ _ h1 a, l _ _ (h4 _ _ _ _ _ b) b⟩, l _ _ h2 K.r, let ⟨f, n, a, b, d⟩ := K.w; ⟨f, n, l _ _ h3 a, b, d⟩⟩
theorem lay_trap (p : Int × Int) : (trapD p).canLay0 = true := by kernel_rfl
theorem lay_res (n : Nat) (r : Option ((Int × Int) × Nat)) : (resD n r).canLay0 = true := by
  cases r <;> kernel_rfl
theorem eqv_same {d : PyData} (h : d.canLay0 = true) : PyData.eqv d d = true := SeqAt.eqv_refl d h
theorem TST_Or3 {env : Env} {a b d : Expr} {pos : Pos} {QB : Bool → AH → Prop} (h : TST c A env E S a H fun z H1 => if z = true then QB true H1 else TST c A env E S b H1 fun z2 H2 => if z2 = true then QB true H2 else TST c A env E S d H2 QB) : TST c A env E S (.BoolOp .Or [a, b, d] pos) H QB := fun s x =>
  wpAny_isTrue_BoolOp (wpAny_allTrue_Or_cons (wpAny_mono (h s x) (fun z s1 ⟨H1, x1, h1⟩ => by
    cases z
    · exact wpAny_allTrue_Or_cons (wpAny_mono (h1 s1 x1) (fun z2 s2 ⟨H2, x2, h2⟩ => by
        cases z2
        · exact wpAny_allTrue_Or_cons (wpAny_mono (h2 s2 x2) (fun z3 s3 ⟨H3, x3, h3⟩ => by
            cases z3
            · exact wpAny_allTrue_Or_nil ⟨H3, x3, h3⟩
            · exact ⟨H3, x3, h3⟩) fun _ _ e => e)
        · exact ⟨H2, x2, h2⟩) fun _ _ e => e)
    · exact ⟨H1, x1, h1⟩) fun _ _ e => e))
noncomputable def EndAt (H : AH) (ea : Addr) (T : Nat) : Option ((Int × Int) × Nat) → Prop
  | none => H ea = some (.tuple [.none, .int T 0])
  | some (p, i) => ∃ t, H ea = some (.tuple [.ref t, .int i 0]) ∧ H t = some (.tuple [.str "trap" 0, .int p.1 0, .int p.2 0])
theorem EndAt.rd {ea : Addr} {T : Nat} {r : Option ((Int × Int) × Nat)} (h : EndAt H ea T r) : RD H (.ref ea) (resD T r) := by
  cases r with
  | none => exact .tuple h (.cons .none (.cons (.int _) .nil))
  | some q => obtain ⟨p, i⟩ := q; obtain ⟨t, h1, h2⟩ := h; exact .tuple h1 (.cons (RD.trap h2) (.cons (.int _) .nil))
theorem EndAt.mod {ea : Addr} {T : Nat} {r : Option ((Int × Int) × Nat)} (h : EndAt H ea T r) {H1 : AH} {ls : List Addr} (l : Mod ls H H1) (hn : ∀ a vs, H a = some (.tuple vs) → a ∉ ls) : EndAt H1 ea T r := by
  cases r with
  | none => exact l _ _ (hn _ _ h) h
  | some q => obtain ⟨p, i⟩ := q; obtain ⟨t, h1, h2⟩ := h; exact ⟨t, l _ _ (hn _ _ h1) h1, l _ _ (hn _ _ h2) h2⟩
theorem depth_res (n : Nat) (r : Option ((Int × Int) × Nat)) : (resD n r).depth ≤ 2 := by
  cases r with
  | none => show (max 0 (max 0 0) + 1) ≤ 2; decide
  | some q => obtain ⟨p, i⟩ := q; show (max (max 0 (max 0 (max 0 0)) + 1) (max 0 0) + 1) ≤ 2; decide
theorem ints_ne {n : Nat} {ls : List Addr} {a b : Addr} {ns : List Int} (hr : Room (n + 1) A ls) (h1 : H a = some (.list (ns.map fun i => .int i 0))) (h2 : H b = some (.list (ns.map fun i => .int i 0))) (h : Q (.bool false) H) : CMP c A E S .NotEq (.ref a) (.ref b) H Q := by
  have hd : ∀ l : List Int, PyData.depthAll (l.map .int) = 0 := by
    intro l
    induction l with
    | nil => rfl
    | cons i r ih => show max 0 (PyData.depthAll (r.map .int)) = 0; rw [ih]; rfl
  refine CMP_ne_data (.list h1 (RDs.ints ns)) (.list h2 (RDs.ints ns)) (lay_ints ns) (lay_ints ns) (Nat.lt_of_le_of_lt (Nat.add_le_add_left (Nat.min_le_left _ _) _) ?_) ?_
  · show A.units + (PyData.depthAll (ns.map .int) + 1) < cLine
    rw [hd]; exact hr.cmp (by decide)
  · rw [eqv_same (lay_ints ns)]; exact h
theorem ints_eq {n : Nat} {ls : List Addr} {a b : Addr} {ns : List Int} (hr : Room (n + 1) A ls) (h1 : H a = some (.list (ns.map fun i => .int i 0))) (h2 : H b = some (.list (ns.map fun i => .int i 0))) (h : Q (.bool true) H) : CMP c A E S .Eq (.ref a) (.ref b) H Q := by
  have hd : ∀ l : List Int, PyData.depthAll (l.map .int) = 0 := by
    intro l
    induction l with
    | nil => rfl
    | cons i r ih => show max 0 (PyData.depthAll (r.map .int)) = 0; rw [ih]; rfl
  refine CMP_eq_data (.list h1 (RDs.ints ns)) (.list h2 (RDs.ints ns)) (lay_ints ns) (lay_ints ns) (Nat.lt_of_le_of_lt (Nat.add_le_add_left (Nat.min_le_left _ _) _) ?_) ?_
  · show A.units + (PyData.depthAll (ns.map .int) + 1) < cLine
    rw [hd]; exact hr.cmp (by decide)
  · rw [eqv_same (lay_ints ns)]; exact h
/-- the end of the law -/
theorem w_end (C : c.Ok) {A : Around} (hr : Room 11 A (L :: S.map (·.1))) {x dx mo md wd rl rw ad rl2 wc xt dxt mot mdt wdt rlt ea : Addr} {M0 : Mach} {k T : Nat} {P : List Ins}
    (hM0 : M0.Ok) (hP : ∀ i ∈ P, i.Ok) (R : RowsAt H rw P) (hl : P.length ≤ 1000) (hk : k + T ≤ 900)
    (K : CpuAt H x dx mo md wd rl rw (runM P 0 T M0).2 k) (hM : (runM P 0 T M0).2.Ok) (KM : MacAt H ad rl2 wc rw (runM P 0 T M0).2 k) (KT : CpuAt H xt dxt mot mdt wdt rlt rw M0 k)
    (he : EndAt H ea T (runM P 0 T M0).1) (h1 : x ∉ [dxt, rlt, wdt]) (h2 : dx ∉ [dxt, rlt, wdt]) (h3 : mo ∉ [dxt, rlt, wdt]) (h4 : md ∉ [dxt, rlt, wdt]) (h5 : wd ∉ [dxt, rlt, wdt]) (h6 : rl ∉ [dxt, rlt, wdt]) (h7 : wc ∉ [dxt, rlt, wdt])
    (hc1 : H (L + 1 + 1) = some (.cell (some (.ref wc)))) (hc2 : H (L + 1 + 1 + 1) = some (.cell (some (.ref mo)))) {QL : Flow → Loc → AH → Prop} (h : ∀ m1 H1, QL (.ret (.bool true)) m1 H1) :
    XS c A (lawEnv L) NoE L S [("twin", .ref xt), ("cpu", .ref x), ("turns_made", .int T 0), ("ended_x", .ref ea)] ((bodyOf (st 38)).drop 22) H QL := by
  show XS c A (lawEnv L) NoE L S _ [_, _] H QL
  obtain ⟨ho, hd, hrl, -⟩ := id KT
  refine XS_cons (XE_if (TST_Or3 ?_))
  walk_at "w"
  refine w_run C (by walk_at "room") KT hM0 hP R hl hk fun H1 v KT1 l1 hv => ?_
  have K1 := K.mod l1 h1 h2 h3 h4 h5 h6
  have he1 := he.mod l1 fun a vs hh => KT.notTuple hh
  have hin : ∀ a, H a = some (.cell (some (.ref wc))) ∨ H a = some (.cell (some (.ref mo))) → a ∉ [dxt, rlt, wdt] := fun a ha q => by
    obtain ⟨f, n, hm, -⟩ := KT.m
    simp only [List.mem_cons, List.not_mem_nil, or_false] at q
    rcases q with rfl | rfl | rfl
    · rw [KT.d] at ha; rcases ha with ha | ha <;> cases ha
    · rw [KT.r] at ha; rcases ha with ha | ha <;> cases ha
    · rw [hm.w] at ha; rcases ha with ha | ha <;> cases ha
  have c1 := l1 _ _ (hin _ (.inl hc1)) hc1
  have c2 := l1 _ _ (hin _ (.inr hc2)) hc2
  obtain ⟨f, n, w1, w2, w3⟩ := KM.w
  have w4 := l1 _ _ h7 w1
  clear ho hd hrl
  obtain ⟨ho, hd, hrl, -⟩ := id KT1
  obtain ⟨ho2, hd2, hrl2, g, n2, hm2, -, hg⟩ := id K1
  refine EV_local (by rfl) ?_
  refine CMP_ne_data hv he1.rd (lay_res _ _) (lay_res _ _) (Nat.lt_of_le_of_lt (Nat.add_le_add_left (Nat.le_trans (Nat.min_le_left _ _) (depth_res _ _)) _) (hr.cmp (by decide))) ?_
  rw [eqv_same (lay_res _ _)]
  walk_at "w"
  refine ints_ne hr hrl hrl2 ?_
  walk_at "w"
  rw [decide_eq_true rfl]
  walk_at "w"
  have cellNe : ∀ {H0 : AH} {D a : Addr} {o : AO}, (∀ o, H0 D = some o → ∃ l, o = .list l) → H0 a = some o → (∀ l, o ≠ .list l) → a ≠ D := fun hD h1 h2 q => by
    subst q
    obtain ⟨l, hl⟩ := hD _ h1
    exact h2 l hl
  generalize hmem : (runM P 0 T M0).2.mem = mem at *
  refine EV_listcomp (Room.noh hr) ?_ (by rfl) (by decide +kernel) (by decide +kernel)
  walk_at "w"
  refine CV_range1 fun rr hrr => ?_
  obtain ⟨sm, rs⟩ := small_range (n := 64) (by decide)
  refine ITER_range AH.set_self sm rs fun it hit => ?_
  have lr : Le H1 ((H1.set rr (.range 0 64 1)).set it ((Sq.range 0 1 64).ao 0)) := (Le.refl.new hrr).new hit
  refine ⟨[], fun i ys H2 => ys = (List.range i).map (fun (j : Nat) => Value.int (byteOf mem (j : Int)) 0) ∧ H2 (L + 1 + 1) = some (.cell (some (.ref wc))) ∧ H2 (L + 1 + 1 + 1) = some (.cell (some (.ref mo))) ∧ MemAt H2 mo md wd g n2 ∧ H2 wc = some (.idict f n), ?_⟩
  refine ⟨fun _ _ => trivial, by simp, by decide, by simp, ⟨rfl, lr _ _ c1, lr _ _ c2, ⟨lr _ _ hm2.o, lr _ _ hm2.d, lr _ _ hm2.w⟩, lr _ _ w4⟩, ?_, ?_, ?_⟩
  · rintro D i ys H2 H3 hD hD2 ⟨e1, e2, e3, e4, e5⟩ hK
    exact ⟨e1, hK _ _ (cellNe hD2 e2 (by intro l q; cases q)) e2 rfl, hK _ _ (cellNe hD2 e3 (by intro l q; cases q)) e3 rfl, ⟨hK _ _ (cellNe hD2 e4.o (by intro l q; cases q)) e4.o rfl, hK _ _ (cellNe hD2 e4.d (by intro l q; cases q)) e4.d rfl, hK _ _ (cellNe hD2 e4.w (by intro l q; cases q)) e4.w rfl⟩, hK _ _ (cellNe hD2 e5 (by intro l q; cases q)) e5 rfl⟩
  · rintro i v2 ys Cf H2 hv2 ⟨rfl, e2, e3, e4, e5⟩ hMd
    obtain ⟨hi, rfl⟩ := range_at hv2
    obtain ⟨q1, q2, q3⟩ := id e4
    refine EV_Call_method (EV_cell (by rfl) e3 ?_) (by rfl)
    walk_at "w"
    refine w_byte C ((hr.less (k := 3) (by decide)).wider) e4 (by omega) (hg _ (by omega) (by omega)) ?_
    refine ⟨Mod.refl, ?_, e2, e3, e4, e5⟩
    rw [List.range_succ, List.map_append]
    have e6 : (0 + (i : Int) * 1) = i := by omega
    rw [e6]
    show _ = _ ++ [Value.int (byteOf mem i) 0]
    rfl
  rintro D1 ys1 H2 ⟨rfl, e2, e3, e4, e5⟩ hlen1 hMd1 hD1 hD1'
  refine EV_listcomp (Room.noh hr) ?_ (by rfl) (by decide +kernel) (by decide +kernel)
  walk_at "w"
  refine CV_range1 fun rr2 hrr2 => ?_
  refine ITER_range AH.set_self sm rs fun it2 hit2 => ?_
  have lr2 : Le H2 ((H2.set rr2 (.range 0 64 1)).set it2 ((Sq.range 0 1 64).ao 0)) := (Le.refl.new hrr2).new hit2
  refine ⟨[], fun i ys H3 => ys = (List.range i).map (fun (j : Nat) => Value.int (byteOf mem (j : Int)) 0) ∧ H3 (L + 1 + 1) = some (.cell (some (.ref wc))) ∧ H3 wc = some (.idict f n) ∧ H3 D1 = some (.list ((List.range 64).map fun (j : Nat) => Value.int (byteOf mem (j : Int)) 0)), ?_⟩
  refine ⟨fun _ _ => trivial, by simp, by decide, by simp, ⟨rfl, lr2 _ _ e2, lr2 _ _ e5, lr2 _ _ hD1'⟩, ?_, ?_, ?_⟩
  · rintro D i ys H3 H4 hD hD2 ⟨e1, k2, k3, k4⟩ hK
    have hne : D1 ≠ D := fun q => by rw [← q] at hD; rw [lr2 _ _ hD1'] at hD; cases hD
    exact ⟨e1, hK _ _ (cellNe hD2 k2 (by intro l q; cases q)) k2 rfl, hK _ _ (cellNe hD2 k3 (by intro l q; cases q)) k3 rfl, hK _ _ hne k4 rfl⟩
  · rintro i v2 ys Cf H3 hv2 ⟨rfl, k2, k3, k4⟩ hMd
    obtain ⟨hi, rfl⟩ := range_at hv2
    refine EV_Call_method (EV_cell (by rfl) k2 ?_) (by rfl)
    refine METH_idict C k3 F.slot_dict_get (by rfl) ?_ (by rfl)
    walk_at "w"
    refine CV_get C k3 ?_
    have e6 : (0 + (i : Int) * 1) = i := by omega
    rw [e6, w3 _ (by omega) (by omega)]
    refine ⟨Mod.refl, ?_, k2, k3, k4⟩
    rw [List.range_succ, List.map_append]; rfl
  rintro D2 ys2 H3 ⟨rfl, k2, k3, k4⟩ hlen2 hMd2 hD2 hD2'
  have e7 : ((List.range 64).map fun (j : Nat) => Value.int (byteOf mem (j : Int)) 0) = (((List.range 64).map fun j : Nat => byteOf mem (j : Int)).map fun i => .int i 0) := by rw [List.map_map]; rfl
  rw [e7] at k4
  have hD3 : H3 D2 = some (.list (((List.range 64).map fun j : Nat => byteOf mem (j : Int)).map fun i => .int i 0)) := e7 ▸ hD2'
  refine ints_eq hr k4 hD3 ?_
  walk_at "w"
  exact h _ _
end
section
variable {c : Cx} {A : Around} {E : Value → Shared → Prop} {env : Env} {L : Addr} {S : Stk} {m : Loc} {H : AH} {s : Shared} {Q : Value → AH → Prop}
theorem not3 {a b1 b2 b3 : Addr} (h1 : a ≠ b1) (h2 : a ≠ b2) (h3 : a ≠ b3) : a ∉ [b1, b2, b3] := fun q => by
  simp only [List.mem_cons, List.not_mem_nil, or_false] at q
  rcases q with q | q | q
  · exact h1 q
  · exact h2 q
  · exact h3 q
section
variable {x dx mo md wd rl rw ad rl2 wc : Addr} {M M' : Mach} {k k' : Nat} {x' dx' mo' md' wd' rl' rw' : Addr}
theorem CpuAt.apart (K : CpuAt H x dx mo md wd rl rw M k) (K' : CpuAt H x' dx' mo' md' wd' rl' rw' M' k') : x ∉ [dx', rl', wd'] ∧ mo ∉ [dx', rl', wd'] ∧ md ∉ [dx', rl', wd'] := by
  obtain ⟨f, n, hm, -⟩ := K.m
  obtain ⟨f', n', hm', -⟩ := K'.m
  refine ⟨not3 (ne_obs K.o K'.d (by intro q; cases q)) (ne_obs K.o K'.r (by intro q; cases q)) (ne_obs K.o hm'.w (by intro q; cases q)), not3 (ne_obs hm.o K'.d (by intro q; cases q)) (ne_obs hm.o K'.r (by intro q; cases q)) (ne_obs hm.o hm'.w (by intro q; cases q)), not3 (ne_obs hm.d K'.d (fun q => ?_)) (ne_obs hm.d K'.r (by intro q; cases q)) (ne_obs hm.d hm'.w (by intro q; cases q))⟩
  injection q with q
  have := congrArg List.length q
  exact absurd this (by show ¬ (2 = 9); decide)
theorem CpuAt.apartM (K : CpuAt H x dx mo md wd rl rw M k) (K' : MacAt H ad rl2 wc rw M' k') : x ∉ [ad, rl2, wc] ∧ mo ∉ [ad, rl2, wc] ∧ md ∉ [ad, rl2, wc] ∧ dx ∉ [ad, rl2, wc] := by
  obtain ⟨f, n, hm, -⟩ := K.m
  obtain ⟨ml, hd, -⟩ := K'.d
  obtain ⟨f', n', hw, -⟩ := K'.w
  exact ⟨not3 (ne_obs K.o hd (by intro q; cases q)) (ne_obs K.o K'.r (by intro q; cases q)) (ne_obs K.o hw (by intro q; cases q)), not3 (ne_obs hm.o hd (by intro q; cases q)) (ne_obs hm.o K'.r (by intro q; cases q)) (ne_obs hm.o hw (by intro q; cases q)), not3 (ne_obs hm.d hd (by intro q; cases q)) (ne_obs hm.d K'.r (by intro q; cases q)) (ne_obs hm.d hw (by intro q; cases q)), not3 (ne_obs K.d hd (by intro q; cases q)) (ne_obs K.d K'.r (by intro q; cases q)) (ne_obs K.d hw (by intro q; cases q))⟩
theorem MacAt.apart (K : MacAt H ad rl2 wc rw M k) (K' : CpuAt H x' dx' mo' md' wd' rl' rw' M' k') (hM : M'.Ok) : ad ∉ [dx', rl', wd'] ∧ ∀ ml n z cc v, H ml = some (.list [.bool n, .bool z, .bool cc, .bool v]) → ml ∉ [dx', rl', wd'] := by
  obtain ⟨f', n', hm', -⟩ := K'.m
  obtain ⟨ml, hd, -⟩ := K.d
  exact ⟨not3 (ne_obs hd K'.d (by intro q; cases q)) (ne_obs hd K'.r (by intro q; cases q)) (ne_obs hd hm'.w (by intro q; cases q)), fun ml n z cc v hml => not3 (ne_obs hml K'.d (by intro q; cases q)) (ne_obs hml K'.r (by intro q; injection q with q; exact regs_ne_bools hM q.symm)) (ne_obs hml hm'.w (by intro q; cases q))⟩
theorem CpuAt.notCell (K : CpuAt H x dx mo md wd rl rw M k) {a : Addr} {v : Option Value} (ha : H a = some (.cell v)) : a ∉ [dx, rl, wd] := by
  obtain ⟨f, n, hm, -⟩ := K.m
  exact not3 (ne_obs ha K.d (by intro q; cases q)) (ne_obs ha K.r (by intro q; cases q)) (ne_obs ha hm.w (by intro q; cases q))
theorem MacAt.notCell (K : MacAt H ad rl2 wc rw M k) {a : Addr} {v : Option Value} (ha : H a = some (.cell v)) : a ∉ [ad, rl2, wc] := by
  obtain ⟨ml, hd, -⟩ := K.d
  obtain ⟨f', n', hw, -⟩ := K.w
  exact not3 (ne_obs ha hd (by intro q; cases q)) (ne_obs ha K.r (by intro q; cases q)) (ne_obs ha hw (by intro q; cases q))
end
/-- all that the lockstep keeps -/
structure Lock (c : Cx) (H : AH) (L x dx mo md wd rl rw ad rl2 wc xt dxt mot mdt wdt rlt : Addr) (M M0 : Mach) (P : List Ins) (k : Nat) : Prop where
  K : CpuAt H x dx mo md wd rl rw M k
  KM : MacAt H ad rl2 wc rw M k
  KT : CpuAt H xt dxt mot mdt wdt rlt rw M0 k
  R : RowsAt H rw P
  ok : M.Ok
  ok0 : M0.Ok
  c1 : H (L + 1 + 1) = some (.cell (some (.ref wc)))
  c2 : H (L + 1 + 1 + 1) = some (.cell (some (.ref mo)))
  nd : [dx, rl, wd, ad, rl2, wc, dxt, rlt, wdt].Nodup
section
variable {x dx mo md wd rl rw ad rl2 wc xt dxt mot mdt wdt rlt : Addr} {M M' M0 : Mach} {P : List Ins} {k k' : Nat}
theorem Lock.keep {H1 : AH} (Z : Lock c H L x dx mo md wd rl rw ad rl2 wc xt dxt mot mdt wdt rlt M M0 P k) (h : Le H H1) : Lock c H1 L x dx mo md wd rl rw ad rl2 wc xt dxt mot mdt wdt rlt M M0 P k :=
  ⟨Z.K.keep h, Z.KM.keep h, Z.KT.keep h, let ⟨as, a, b, d⟩ := Z.R; ⟨as, h _ _ a, b, fun i y ins e1 e2 => h _ _ (d i y ins e1 e2)⟩, Z.ok, Z.ok0, h _ _ Z.c1, h _ _ Z.c2, Z.nd⟩
theorem Lock.keeps {H1 : AH} (Z : Lock c H L x dx mo md wd rl rw ad rl2 wc xt dxt mot mdt wdt rlt M M0 P k) (h : Keep H H1) : Lock c H1 L x dx mo md wd rl rw ad rl2 wc xt dxt mot mdt wdt rlt M M0 P k :=
  ⟨Z.K.keeps h, Z.KM.keeps h, Z.KT.keeps h, Z.R.keeps h, Z.ok, Z.ok0, h _ _ Z.c1 rfl, h _ _ Z.c2 rfl, Z.nd⟩
end
theorem nine {dx rl wd ad rl2 wc dxt rlt wdt : Addr} (nd : [dx, rl, wd, ad, rl2, wc, dxt, rlt, wdt].Nodup) :
    rl ∉ [ad, rl2, wc] ∧ wd ∉ [ad, rl2, wc] ∧ rlt ∉ [ad, rl2, wc] ∧ wdt ∉ [ad, rl2, wc] ∧ dxt ∉ [dx, rl, wd] ∧ rlt ∉ [dx, rl, wd] ∧ wdt ∉ [dx, rl, wd] ∧ rl2 ∉ [dx, rl, wd] ∧ wc ∉ [dx, rl, wd] ∧ dx ∉ [dxt, rlt, wdt] ∧ rl ∉ [dxt, rlt, wdt] ∧ wd ∉ [dxt, rlt, wdt] ∧ wc ∉ [dxt, rlt, wdt] := by
  simp only [List.nodup_cons, List.mem_cons, List.not_mem_nil, or_false, not_or] at nd ⊢
  obtain ⟨⟨a1, a2, a3, a4, a5, a6, a7, a8⟩, ⟨b1, b2, b3, b4, b5, b6, b7⟩, ⟨d1, d2, d3, d4, d5, d6⟩, ⟨e1, e2, e3, e4, e5⟩, ⟨f1, f2, f3, f4⟩, ⟨g1, g2, g3⟩, ⟨h1, h2⟩, i1, -⟩ := nd
  exact ⟨⟨b2, b3, b4⟩, ⟨d1, d2, d3⟩, ⟨Ne.symm e4, Ne.symm f3, Ne.symm g2⟩, ⟨Ne.symm e5, Ne.symm f4, Ne.symm g3⟩, ⟨Ne.symm a6, Ne.symm b5, Ne.symm d4⟩, ⟨Ne.symm a7, Ne.symm b6, Ne.symm d5⟩, ⟨Ne.symm a8, Ne.symm b7, Ne.symm d6⟩, ⟨Ne.symm a4, Ne.symm b3, Ne.symm d2⟩, ⟨Ne.symm a5, Ne.symm b4, Ne.symm d3⟩, ⟨a6, a7, a8⟩, ⟨b5, b6, b7⟩, ⟨d4, d5, d6⟩, ⟨g1, g2, g3⟩⟩
section
variable {x dx mo md wd rl rw ad rl2 wc xt dxt mot mdt wdt rlt : Addr} {M M' M0 : Mach} {P : List Ins} {k k' : Nat}
/-- after the law's own step -/
theorem Lock.afterL {H2 : AH} (Z : Lock c H L x dx mo md wd rl rw ad rl2 wc xt dxt mot mdt wdt rlt M M0 P k) (l : Mod [ad, rl2, wc] H H2) :
    CpuAt H2 x dx mo md wd rl rw M k ∧ CpuAt H2 xt dxt mot mdt wdt rlt rw M0 k ∧ RowsAt H2 rw P ∧ H2 (L + 1 + 1) = some (.cell (some (.ref wc))) ∧ H2 (L + 1 + 1 + 1) = some (.cell (some (.ref mo))) := by
  obtain ⟨n1, n2, n3, n4, -⟩ := nine Z.nd
  obtain ⟨a1, a2, a3, a4⟩ := Z.K.apartM Z.KM
  obtain ⟨b1, b2, b3, b4⟩ := Z.KT.apartM Z.KM
  exact ⟨Z.K.mod l a1 a4 a2 a3 n2 n1, Z.KT.mod l b1 b4 b2 b3 n4 n3, Z.KM.rows Z.ok Z.R l, l _ _ (Z.KM.notCell Z.c1) Z.c1, l _ _ (Z.KM.notCell Z.c2) Z.c2⟩
/-- after the cpu's step -/
theorem lock_afterC {H2 H3 : AH} (nd : [dx, rl, wd, ad, rl2, wc, dxt, rlt, wdt].Nodup) (K : CpuAt H2 x dx mo md wd rl rw M k) (hM : M.Ok) (hM' : M'.Ok) (h0 : M0.Ok) (KM : MacAt H2 ad rl2 wc rw M' k') (KT : CpuAt H2 xt dxt mot mdt wdt rlt rw M0 k) (R : RowsAt H2 rw P)
    (c1 : H2 (L + 1 + 1) = some (.cell (some (.ref wc)))) (c2 : H2 (L + 1 + 1 + 1) = some (.cell (some (.ref mo)))) (l : Mod [dx, rl, wd] H2 H3) (K3 : CpuAt H3 x dx mo md wd rl rw M' k') (hk : k ≤ k') : Lock c H3 L x dx mo md wd rl rw ad rl2 wc xt dxt mot mdt wdt rlt M' M0 P k' := by
  obtain ⟨-, -, -, -, n5, n6, n7, n8, n9, -⟩ := nine nd
  obtain ⟨a1, a2⟩ := KM.apart K hM
  obtain ⟨b1, b2, b3⟩ := KT.apart K
  exact ⟨K3, KM.mod l a1 n8 n9 a2, (KT.mod l b1 n5 b2 b3 n7 n6).more hk, K.rows hM R l, hM', h0, l _ _ (K.notCell c1) c1, l _ _ (K.notCell c2) c2, nd⟩
/-- a step's answer, as it lies -/
noncomputable def DueAt (H : AH) (v : Value) : Option (Int × Int) → Prop
  | none => v = .none
  | some p => ∃ t, v = .ref t ∧ H t = some (.tuple [.str "trap" 0, .int p.1 0, .int p.2 0])
noncomputable def dueD : Option (Int × Int) → PyData
  | none => .none
  | some p => trapD p
theorem DueAt.rd {v : Value} {r : Option (Int × Int)} (h : DueAt H v r) : RD H v (dueD r) := by
  cases r with
  | none => rw [show v = .none from h]; exact .none
  | some p => obtain ⟨t, rfl, h⟩ := h; exact RD.trap h
theorem DueAt.mod {v : Value} {r : Option (Int × Int)} (h : DueAt H v r) {H1 : AH} {ls : List Addr} (l : Mod ls H H1) (hn : ∀ a vs, H a = some (.tuple vs) → a ∉ ls) : DueAt H1 v r := by
  cases r with
  | none => exact h
  | some p => obtain ⟨t, e, h⟩ := h; exact ⟨t, e, l _ _ (hn _ _ h) h⟩
theorem lay_due (r : Option (Int × Int)) : (dueD r).canLay0 = true := by cases r <;> kernel_rfl
theorem depth_due (r : Option (Int × Int)) : (dueD r).depth ≤ 2 := by
  cases r with
  | none => exact Nat.zero_le _
  | some p => show (max 0 (max 0 (max 0 0)) + 1) ≤ 2; decide
theorem Tv_due {r : Option (Int × Int)} {H1 : AH} (h : ∀ H2 v, DueAt H2 v r → Le H1 H2 → Q v H2) : Tv H1 Q r := by
  cases r with
  | none => exact h H1 .none rfl Le.refl
  | some p => exact fun t ht => h _ (.ref t) ⟨t, rfl, AH.set_self⟩ (Le.refl.new ht)
end
end
section
variable {c : Cx} {A : Around} {E : Value → Shared → Prop} {env : Env} {L : Addr} {S : Stk} {m : Loc} {H : AH} {s : Shared} {Q : Value → AH → Prop}
noncomputable def forBody : Stmt → List Stmt
  | .For _ _ b .. => b
  | _ => []
noncomputable def turnBody : List Stmt := forBody ((bodyOf (st 38)).getD 21 (.Pass default))
noncomputable def stD (M : Mach) : PyData := .list [.list (M.regs.map .int), .int M.h, .list ([M.n, M.z, M.cc, M.v].map .bool), .int M.pc]
theorem lay_st (M : Mach) : (stD M).canLay0 = true := by
  show (PyData.canLay0 (.list (M.regs.map .int)) && _) = true
  rw [lay_ints]; rfl
theorem depth_st (M : Mach) : (stD M).depth ≤ 2 := by
  have hd : ∀ l : List Int, PyData.depthAll (l.map .int) = 0 := by
    intro l
    induction l with
    | nil => rfl
    | cons i r ih => show max 0 (PyData.depthAll (r.map .int)) = 0; rw [ih]; rfl
  show max (PyData.depthAll (M.regs.map .int) + 1) _ + 1 ≤ 2
  rw [hd]; exact Nat.le_refl 2
theorem st_rd {u rl D : Addr} {M : Mach} (h1 : H u = some (.list [.ref rl, .int M.h 0, .ref D, .int M.pc 0])) (h2 : H rl = some (.list (M.regs.map fun i => .int i 0))) (h3 : H D = some (.list ([M.n, M.z, M.cc, M.v].map .bool))) : RD H (.ref u) (stD M) :=
  .list h1 (.cons (.list h2 (RDs.ints _)) (.cons (.int _) (.cons (.list h3 (RDs.bools _)) (.cons (.int _) .nil))))
theorem mem_of_lookup {m : Loc} {x : Str} {v : Value} (h : m.lookup x = some v) : (x, v) ∈ m := by
  induction m with
  | nil => cases h
  | cons p r ih =>
    obtain ⟨y, u⟩ := p
    by_cases q : x = y
    · subst q; rw [lookup_cons_eq] at h; cases h; exact .head _
    · rw [lookup_cons_ne q] at h; exact .tail _ (ih h)
theorem SubL.of_mem {m' m : Loc} (h : ∀ p ∈ m', m.lookup p.1 = some p.2) : SubL m' m := fun x v hx => h (x, v) (mem_of_lookup hx)
theorem w_turn (C : c.Ok) {A : Around} (hr : Room 11 A (L :: S.map (·.1))) {x dx mo md wd rl rw ad rl2 wc xt dxt mot mdt wdt rlt ea : Addr} {M M0 : Mach} {k T i : Nat} {P : List Ins} {dv : Value}
    (hP : ∀ i ∈ P, i.Ok) (hl : P.length ≤ 1000) (hk : k ≤ 800) (nd : [dx, rl, wd, ad, rl2, wc, dxt, rlt, wdt].Nodup)
    (K : CpuAt H x dx mo md wd rl rw M k) (hM : M.Ok) (h0 : M0.Ok) (KM : MacAt H ad rl2 wc rw (stepM P M).2 (k + 4)) (KT : CpuAt H xt dxt mot mdt wdt rlt rw M0 k) (R : RowsAt H rw P)
    (c1 : H (L + 1 + 1) = some (.cell (some (.ref wc)))) (c2 : H (L + 1 + 1 + 1) = some (.cell (some (.ref mo)))) (hdue : DueAt H dv (stepM P M).1) (hea : H ea = some (.tuple [.none, .int T 0]))
    {QT : Flow → Loc → AH → Prop}
    (hn : ∀ H1 m1, (stepM P M).1 = none → SubL [("ended_x", .ref ea), ("twin", .ref xt), ("cpu", .ref x), ("turns_made", .int T 0), ("many", .int P.length 0), ("machine", .ref ad)] m1 → Lock c H1 L x dx mo md wd rl rw ad rl2 wc xt dxt mot mdt wdt rlt (stepM P M).2 M0 P (k + 5) → Mod [dx, rl, wd, ad, rl2, wc] H H1 → H1 ea = some (.tuple [.none, .int T 0]) → QT .next m1 H1)
    (hb : ∀ H1 m1 e p, (stepM P M).1 = some p → SubL [("twin", .ref xt), ("cpu", .ref x), ("turns_made", .int T 0), ("ended_x", .ref e)] m1 → Lock c H1 L x dx mo md wd rl rw ad rl2 wc xt dxt mot mdt wdt rlt (stepM P M).2 M0 P (k + 5) → EndAt H1 e T (some (p, i + 1)) → QT .brk m1 H1) :
    XS c A (lawEnv L) NoE L S [("due", dv), ("lap", .int (0 + (i : Int) * 1) 0), ("ended_x", .ref ea), ("twin", .ref xt), ("cpu", .ref x), ("turns_made", .int T 0), ("many", .int P.length 0), ("machine", .ref ad)] (turnBody.drop 2) H QT := by
  show XS c A (lawEnv L) NoE L S _ [_, _, _, _] H QT
  have hok := step_ok hM hP hl
  obtain ⟨ho, hd, hrl, -⟩ := id K
  walk_at "w"
  refine w_step C (by walk_at "room") K (by omega) hM hP R hl fun H1 K1 l1 => ?_
  have Z1 := lock_afterC (c := c) (k' := k + 5) (L := L) nd K hM hok h0 (KM.more (by omega)) KT R c1 c2 l1 (K1.more (by omega)) (by omega)
  have d1 := hdue.mod l1 fun a vs hh => K.notTuple hh
  have e1 := l1 _ _ (K.notTuple hea) hea
  clear ho hd hrl
  refine Tv_due fun H2 v hv l2 => ?_
  have Z2 := Z1.keep l2
  have d2 : DueAt H2 dv (stepM P M).1 := by
    cases hs : (stepM P M).1 with
    | none => rw [hs] at d1; exact d1
    | some p => rw [hs] at d1; obtain ⟨t, e, hh⟩ := d1; exact ⟨t, e, l2 _ _ hh⟩
  have e2 := l2 _ _ e1
  refine EV_local (by rfl) ?_
  refine CMP_ne_data hv.rd d2.rd (lay_due _) (lay_due _) (Nat.lt_of_le_of_lt (Nat.add_le_add_left (Nat.le_trans (Nat.min_le_left _ _) (depth_due _)) _) (hr.cmp (by decide))) ?_
  rw [eqv_same (lay_due _)]
  obtain ⟨ho, hd, hrl, -⟩ := id Z2.K
  walk_at "w"
  refine XE_assign_comp (Room.noh hr) ?_ (by rfl) (by decide +kernel) (by decide +kernel)
  walk_at "w"
  refine ⟨by simp, fun tt htt => ?_⟩
  refine ITER_tuple AH.set_self fun it hit => ?_
  have Z3 := Z2.keep ((Le.refl.new (o := .tuple [.int (b2i (stepM P M).2.n) 0, .int (b2i (stepM P M).2.z) 0, .int (b2i (stepM P M).2.cc) 0, .int (b2i (stepM P M).2.v) 0]) htt).new (o := (Sq.tuple tt [.int (b2i (stepM P M).2.n) 0, .int (b2i (stepM P M).2.z) 0, .int (b2i (stepM P M).2.cc) 0, .int (b2i (stepM P M).2.v) 0]).ao 0) hit)
  have htt2 := sub_new (o := (Sq.tuple tt [.int (b2i (stepM P M).2.n) 0, .int (b2i (stepM P M).2.z) 0, .int (b2i (stepM P M).2.cc) 0, .int (b2i (stepM P M).2.v) 0]).ao 0) hit _ _ AH.set_self
  have hti : tt ≠ it := fun q => by rw [q, AH.set_self] at hit; cases hit
  have lit : Le H2 _ := (Le.refl.new (o := .tuple [.int (b2i (stepM P M).2.n) 0, .int (b2i (stepM P M).2.z) 0, .int (b2i (stepM P M).2.cc) 0, .int (b2i (stepM P M).2.v) 0]) htt).new (o := (Sq.tuple tt [.int (b2i (stepM P M).2.n) 0, .int (b2i (stepM P M).2.z) 0, .int (b2i (stepM P M).2.cc) 0, .int (b2i (stepM P M).2.v) 0]).ao 0) hit
  have hitH : H2 it = none := (Le.refl.new htt).free hit
  refine ⟨[], fun j ys H3 => ys = ([(stepM P M).2.n, (stepM P M).2.z, (stepM P M).2.cc, (stepM P M).2.v].take j).map Value.bool, ?_⟩
  refine ⟨fun H3 hM3 => hM3 _ _ (by simpa using hti) htt2, by simp, by simp [Sq.xs], by simp, rfl, fun _ _ _ _ _ _ _ e _ => e, ?_, ?_⟩
  · rintro j v2 ys Cf H3 hv2 rfl hMd
    have : ∃ b, v2 = .int (b2i b) 0 ∧ ([(stepM P M).2.n, (stepM P M).2.z, (stepM P M).2.cc, (stepM P M).2.v].take j).map Value.bool ++ [.bool b] = ([(stepM P M).2.n, (stepM P M).2.z, (stepM P M).2.cc, (stepM P M).2.v].take (j + 1)).map Value.bool := by
      have hj : j < 4 := (List.getElem?_eq_some_iff.mp hv2).1
      match j, hj with
      | 0, _ => cases hv2; exact ⟨_, rfl, rfl⟩
      | 1, _ => cases hv2; exact ⟨_, rfl, rfl⟩
      | 2, _ => cases hv2; exact ⟨_, rfl, rfl⟩
      | 3, _ => cases hv2; exact ⟨_, rfl, rfl⟩
    obtain ⟨b, rfl, e⟩ := this
    refine EV_Compare (EV_local (by rfl) (EV_int (CMP_eq ⟨Mod.refl, ?_⟩)))
    have eb : decide (b2i b = 1) = b := by cases b <;> rfl
    rw [eb]; exact e
  rintro D ys H3 rfl hlen3 hMd hD hD'
  have Z4 := Z2.keep (H1 := H3) (fun a o e => Mod.base hitH lit hMd a o (by simp) e)
  have e4 := (Mod.base hitH lit hMd) ea _ (by simp) e2
  obtain ⟨ho, hd, hrl, -⟩ := id Z4.K
  obtain ⟨ml, hdm, hml⟩ := Z4.KM.d
  refine Then_next (XS_cons (XE_if (TST_Compare ?_)))
  walk_at "w"
  refine ⟨by simp, fun u1 hu1 => ?_⟩
  have Z5 := Z4.keep (sub_new (o := .list [.ref rl, .int (stepM P M).2.h 0, .ref D, .int (stepM P M).2.pc 0]) hu1)
  have hD5 := sub_new (o := .list [.ref rl, .int (stepM P M).2.h 0, .ref D, .int (stepM P M).2.pc 0]) hu1 _ _ hD'
  have hdm5 := sub_new (o := .list [.ref rl, .int (stepM P M).2.h 0, .ref D, .int (stepM P M).2.pc 0]) hu1 _ _ hdm
  have hml5 := sub_new (o := .list [.ref rl, .int (stepM P M).2.h 0, .ref D, .int (stepM P M).2.pc 0]) hu1 _ _ hml
  walk_at "w"
  refine SUB_sdict hdm5 (by rfl) ?_
  walk_at "w"
  refine SUB_sdict hdm5 (by rfl) ?_
  walk_at "w"
  refine EV_listcomp (Room.noh hr) ?_ (by rfl) (by decide +kernel) (by decide +kernel)
  walk_at "w"
  refine SUB_sdict hdm5 (by rfl) ?_
  refine ITER_list hml5 fun it2 hit2 => ?_
  have lit2 : Le (H3.set u1 (.list [.ref rl, .int (stepM P M).2.h 0, .ref D, .int (stepM P M).2.pc 0])) _ := Le.refl.new (o := (Sq.list ml [.bool (stepM P M).2.n, .bool (stepM P M).2.z, .bool (stepM P M).2.cc, .bool (stepM P M).2.v]).ao 0) hit2
  have hti2 : ml ≠ it2 := fun q => by rw [q, hit2] at hml5; cases hml5
  refine ⟨[], fun j ys H5 => ys = ([(stepM P M).2.n, (stepM P M).2.z, (stepM P M).2.cc, (stepM P M).2.v].take j).map Value.bool, ?_⟩
  refine ⟨fun H5 hM5 => hM5 _ _ (by simpa using hti2) (lit2 _ _ hml5), by simp, by simp [Sq.xs], by simp, rfl, fun _ _ _ _ _ _ _ e _ => e, ?_, ?_⟩
  · rintro j v2 ys Cf H5 hv2 rfl hMd2
    have : ∃ b, v2 = .bool b ∧ ([(stepM P M).2.n, (stepM P M).2.z, (stepM P M).2.cc, (stepM P M).2.v].take j).map Value.bool ++ [.bool b] = ([(stepM P M).2.n, (stepM P M).2.z, (stepM P M).2.cc, (stepM P M).2.v].take (j + 1)).map Value.bool := by
      have hj : j < 4 := (List.getElem?_eq_some_iff.mp hv2).1
      match j, hj with
      | 0, _ => cases hv2; exact ⟨_, rfl, rfl⟩
      | 1, _ => cases hv2; exact ⟨_, rfl, rfl⟩
      | 2, _ => cases hv2; exact ⟨_, rfl, rfl⟩
      | 3, _ => cases hv2; exact ⟨_, rfl, rfl⟩
    obtain ⟨b, rfl, e⟩ := this
    refine EV_Compare (EV_local (by rfl) (EV_bool (CMP_eqb hr ⟨Mod.refl, ?_⟩)))
    have eb : (b == true) = b := by cases b <;> rfl
    rw [eb]; exact e
  rintro D2 ys2 H5 rfl hlen5 hMd2 hD2 hD2'
  have l5 : Le (H3.set u1 (.list [.ref rl, .int (stepM P M).2.h 0, .ref D, .int (stepM P M).2.pc 0])) H5 := fun a o e => Mod.base hit2 lit2 hMd2 a o (by simp) e
  have Z6 := Z5.keep l5
  have hD6 := l5 _ _ hD5
  have hu6 := l5 _ _ AH.set_self
  have hdm6 := l5 _ _ hdm5
  walk_at "w"
  refine SUB_sdict hdm6 (by rfl) ?_
  walk_at "w"
  refine ⟨by simp, fun u2 hu2 => ?_⟩
  have Z7 := Z6.keep (sub_new (o := .list [.ref rl2, .int (stepM P M).2.h 0, .ref D2, .int (stepM P M).2.pc 0]) hu2)
  have hD7 := sub_new (o := .list [.ref rl2, .int (stepM P M).2.h 0, .ref D2, .int (stepM P M).2.pc 0]) hu2 _ _ hD6
  have hD27 := sub_new (o := .list [.ref rl2, .int (stepM P M).2.h 0, .ref D2, .int (stepM P M).2.pc 0]) hu2 _ _ hD2'
  have hu7 := sub_new (o := .list [.ref rl2, .int (stepM P M).2.h 0, .ref D2, .int (stepM P M).2.pc 0]) hu2 _ _ hu6
  refine CMP_ne_data (st_rd (M := (stepM P M).2) hu7 Z7.K.r hD7) (st_rd (M := (stepM P M).2) AH.set_self Z7.KM.r hD27) (lay_st _) (lay_st _) (Nat.lt_of_le_of_lt (Nat.add_le_add_left (Nat.le_trans (Nat.min_le_left _ _) (depth_st _)) _) (hr.cmp (by decide))) ?_
  rw [eqv_same (lay_st _)]
  have l7 : Le H3 (H5.set u2 (.list [.ref rl2, .int (stepM P M).2.h 0, .ref D2, .int (stepM P M).2.pc 0])) := fun a o e => sub_new hu2 a o (l5 a o (sub_new hu1 a o e))
  have m7 : Mod [dx, rl, wd, ad, rl2, wc] H (H5.set u2 (.list [.ref rl2, .int (stepM P M).2.h 0, .ref D2, .int (stepM P M).2.pc 0])) := fun a o ha e => l7 a o ((Mod.base hitH lit hMd) a o (by simp) (l2 a o (l1 a o (fun q => ha (by simp only [List.mem_cons, List.not_mem_nil, or_false] at q ⊢; rcases q with q | q | q <;> simp [q])) e)))
  have ea7 := l7 _ _ e4
  cases hs : (stepM P M).1 with
  | none =>
    rw [hs] at hdue
    have hdv : dv = .none := hdue
    subst hdv
    walk_at "w"
    exact hn _ _ hs (SubL.cons (by kernel_rfl) (SubL.cons (by kernel_rfl) (SubL.cons (by kernel_rfl) SubL.refl))) Z7 m7 ea7
  | some p =>
    rw [hs] at d2
    obtain ⟨t, rfl, ht⟩ := d2
    have ht7 := l7 _ _ ((Mod.base hitH lit hMd) t _ (by simp) ht)
    walk_at "w"
    refine ⟨by simp, fun e he => ?_⟩
    have e8 : (0 + (i : Int) * 1 + 1) = ((i + 1 : Nat) : Int) := by omega
    walk_at "w"
    refine hb _ _ e p hs ?_ (Z7.keep (sub_new he)) ⟨t, AH.set_self.trans (by rw [e8]), sub_new he _ _ ht7⟩
    walk_at "sub"
end
section
variable {c : Cx} {A : Around} {E : Value → Shared → Prop} {env : Env} {L : Addr} {S : Stk} {m : Loc} {H : AH} {s : Shared} {Q : Value → AH → Prop}
theorem w_loop (C : c.Ok) {A : Around} (hr : Room 11 A (L :: S.map (·.1))) {x dx mo md wd rl rw ad rl2 wc xt dxt mot mdt wdt rlt : Addr} {M0 : Mach} {k T : Nat} {P : List Ins}
    (hP : ∀ i ∈ P, i.Ok) (hl : P.length ≤ 1000) (hT : T ≤ 14) (hk : k ≤ 100) (Z : Lock c H L x dx mo md wd rl rw ad rl2 wc xt dxt mot mdt wdt rlt M0 M0 P k)
    {QL : Flow → Loc → AH → Prop} (h : ∀ m1 H1, QL (.ret (.bool true)) m1 H1) :
    XS c A (lawEnv L) NoE L S [("twin", .ref xt), ("cpu", .ref x), ("turns_made", .int T 0), ("many", .int P.length 0), ("machine", .ref ad)] ((bodyOf (st 38)).drop 20) H QL := by
  show XS c A (lawEnv L) NoE L S _ [_, _, _, _] H QL
  walk_at "w"
  refine ⟨by simp, fun ea hea => ?_⟩
  refine Then_next (XS_cons (XE_for (Room.noh hr) ?_))
  walk_at "w"
  refine CV_range1 fun rr hrr => ?_
  obtain ⟨sm, rs⟩ := small_range (n := T) (by omega)
  refine ITER_range AH.set_self sm rs fun it hit => ?_
  have lH : Le H (((H.set ea (.tuple [.none, .int T 0])).set rr (.range 0 T 1)).set it ((Sq.range 0 1 T).ao 0)) := ((Le.refl.new hea).new hrr).new hit
  have hea0 : (((H.set ea (.tuple [.none, .int T 0])).set rr (.range 0 T 1)).set it ((Sq.range 0 1 T).ao 0)) ea = some (.tuple [.none, .int T 0]) := sub_new hit _ _ (sub_new hrr _ _ AH.set_self)
  have Z0 := Z.keep lH
  have hlen : (Sq.range 0 1 T).xs.length = T := by simp [Sq.xs]
  refine loop0 ⟨[dx, rl, wd, ad, rl2, wc], fun i H1 => ∃ Mi, Lock c H1 L x dx mo md wd rl rw ad rl2 wc xt dxt mot mdt wdt rlt Mi M0 P (k + 5 * i) ∧ H1 ea = some (.tuple [.none, .int T 0]) ∧ runM P 0 T M0 = runM P i (T - i) Mi, ?_⟩
  refine ⟨fun _ _ => trivial, ?_, ⟨rfl, M0, Z0, hea0, rfl⟩, ?_, ?_, ?_⟩
  · intro q
    have q1 := Z0.K.notIt (it := it) AH.set_self
    obtain ⟨ml, hd, -⟩ := Z0.KM.d
    obtain ⟨f, n, hw, -⟩ := Z0.KM.w
    have q2 := not_it hd rfl (it := it) AH.set_self
    have q3 := not_it Z0.KM.r rfl (it := it) AH.set_self
    have q4 := not_it hw rfl (it := it) AH.set_self
    simp only [List.mem_cons, List.not_mem_nil, or_false, not_or] at q q1
    obtain ⟨r1, r2, r3⟩ := q1
    rcases q with q | q | q | q | q | q
    · exact r1 q
    · exact r2 q
    · exact r3 q
    · exact q2 q
    · exact q3 q
    · exact q4 q
  · rintro i m1 H1 H2 ⟨e, Mi, k1, k2, k3⟩ hK
    exact ⟨e, Mi, k1.keeps hK, hK _ _ k2 rfl, k3⟩
  · rintro i v m1 H1 hv ⟨rfl, Mi, Zi, k2, k3⟩ hMd
    obtain ⟨hin, rfl⟩ := range_at hv
    have hsub : T - i = (T - (i + 1)) + 1 := by omega
    rw [hsub, runM_succ] at k3
    have hok := step_ok Zi.ok hP hl
    walk_at "w"
    refine ⟨by simp, fun td htd => ?_⟩
    have lt : Le H1 (H1.set td (.tuple [.str "trap" 0, .int 15 0, .int 0 0])) := Le.refl.new htd
    have Zt := Zi.keep lt
    obtain ⟨ml, hd, hml⟩ := Zt.KM.d
    have k2t := lt _ _ k2
    have hMod0 : Mod [dx, rl, wd, ad, rl2, wc] H1 (H1.set td (.tuple [.str "trap" 0, .int 15 0, .int 0 0])) := fun a o _ e => lt a o e
    -- the rest of a turn, behind the law's own step
    have rest : ∀ H2 dv m2, DueAt H2 dv (stepM P Mi).1 → MacAt H2 ad rl2 wc rw (stepM P Mi).2 (k + 5 * i + 4) → Mod [ad, rl2, wc] (H1.set td (.tuple [.str "trap" 0, .int 15 0, .int 0 0])) H2 →
        SubL [("due", dv), ("lap", .int (0 + (i : Int) * 1) 0), ("ended_x", .ref ea), ("twin", .ref xt), ("cpu", .ref x), ("turns_made", .int T 0), ("many", .int P.length 0), ("machine", .ref ad)] m2 →
        XS c A (lawEnv L) NoE L S m2 (turnBody.drop 2) H2 (TurnEnd [dx, rl, wd, ad, rl2, wc] (fun i m1 H1 => m1 = ([("ended_x", .ref ea), ("twin", .ref xt), ("cpu", .ref x), ("turns_made", .int T 0), ("many", .int P.length 0), ("machine", .ref ad)] : Loc) ∧ ∃ Mi, Lock c H1 L x dx mo md wd rl rw ad rl2 wc xt dxt mot mdt wdt rlt Mi M0 P (k + 5 * i) ∧ H1 ea = some (.tuple [.none, .int T 0]) ∧ runM P 0 T M0 = runM P i (T - i) Mi) i H1 (Then c A (lawEnv L) NoE L S QL ((bodyOf (st 38)).drop 22))) := by
      intro H2 dv m2 hd2 KM2 l2 hsub2
      obtain ⟨j1, j2, j3, j4, j5⟩ := Zt.afterL l2
      refine X.loc ?_ hsub2
      refine w_turn C hr (i := i) (T := T) hP hl (by omega) Zi.nd j1 Zi.ok Zi.ok0 KM2 j2 j3 j4 j5 hd2 (l2 _ _ (Zt.KM.notTuple k2t) k2t) ?_ ?_
      · intro H3 m3 hr0 hs3 Z3 l3 e3
        have hm : stepM P Mi = (none, (stepM P Mi).2) := by rw [← hr0]
        rw [hm] at k3
        exact ⟨(hMod0.trans (l2.wider fun a ha => by simp only [List.mem_cons, List.not_mem_nil, or_false] at ha ⊢; rcases ha with q | q | q <;> simp [q])).trans l3, _, hs3, rfl, (stepM P Mi).2, Z3, e3, k3⟩
      · intro H3 m3 e p hr0 hs3 Z3 he3
        have hm : stepM P Mi = (some p, (stepM P Mi).2) := by rw [← hr0]
        rw [hm] at k3
        have e4 : runM P 0 T M0 = (some (p, i + 1), (stepM P Mi).2) := k3
        refine Then_next ?_
        obtain ⟨-, -, -, -, -, -, -, -, -, n1, n2, n3, n4⟩ := nine Z3.nd
        obtain ⟨a1, a2, a3⟩ := Z3.K.apart Z3.KT
        refine X.loc ?_ hs3
        exact w_end C hr (M0 := M0) (T := T) Z3.ok0 hP Z3.R hl (by omega) (by rw [e4]; exact Z3.K) (by rw [e4]; exact Z3.ok) (by rw [e4]; exact Z3.KM) Z3.KT (by rw [e4]; exact he3) a1 n1 a2 a3 n3 n2 n4 Z3.c1 Z3.c2 h
    walk_at "w"
    refine SUB_sdict hd (by rfl) ?_
    by_cases hp0 : 0 ≤ Mi.pc
    · by_cases hp1 : Mi.pc < P.length
      · walk_at "w"
        refine w_lstep C (by walk_at "room") Zt.KM (by omega) Zi.ok hP Zt.R ⟨hp0, hp1⟩ hl fun H2 KM2 l2 => Tv_due fun H3 dv hdv l3 => ?_
        refine Then_next (XS_nil (Then_next ?_))
        exact rest H3 dv _ hdv (KM2.keep l3) (l2.trans fun a o _ e => l3 a o e) (by walk_at "sub")
      · have hst : stepM P Mi = (some (15, 0), Mi) := by unfold stepM; rw [if_neg (by omega)]
        refine CMP_le (TRU_bool (ite_yes (decide_eq_true hp0) (EV_local (by rfl) (CMP_lt (TRU_bool (ite_no (decide_eq_false hp1) (XS_nil (Then_next ?_))))))))
        exact rest _ (.ref td) _ (by rw [hst]; exact ⟨td, rfl, AH.set_self⟩) (by rw [hst]; exact Zt.KM.more (by omega)) Mod.refl SubL.refl
    · have hst : stepM P Mi = (some (15, 0), Mi) := by unfold stepM; rw [if_neg (by omega)]
      refine CMP_le (TRU_bool (ite_no (decide_eq_false hp0) (ite_no rfl (XS_nil (Then_next ?_)))))
      exact rest _ (.ref td) _ (by rw [hst]; exact ⟨td, rfl, AH.set_self⟩) (by rw [hst]; exact Zt.KM.more (by omega)) Mod.refl SubL.refl
  · rintro m1 H1 ⟨rfl, Mi, Zi, k2, k3⟩ hMd
    rw [hlen] at Zi k3
    rw [Nat.sub_self] at k3
    have e3 : runM P 0 T M0 = (none, Mi) := k3
    refine Then_next ?_
    obtain ⟨-, -, -, -, -, -, -, -, -, n1, n2, n3, n4⟩ := nine Zi.nd
    obtain ⟨a1, a2, a3⟩ := Zi.K.apart Zi.KT
    refine X.loc (m' := [("twin", .ref xt), ("cpu", .ref x), ("turns_made", .int T 0), ("ended_x", .ref ea)]) ?_ ?_
    · exact w_end C hr (M0 := M0) (T := T) Zi.ok0 hP Zi.R hl (by omega) (by rw [e3]; exact Zi.K) (by rw [e3]; exact Zi.ok) (by rw [e3]; exact Zi.KM) Zi.KT (by rw [e3]; exact k2) a1 n1 a2 a3 n3 n2 n4 Zi.c1 Zi.c2 h
    · walk_at "sub"
end
section
variable {c : Cx} {A : Around} {E : Value → Shared → Prop} {env : Env} {L : Addr} {S : Stk} {m : Loc} {H : AH} {s : Shared} {Q : Value → AH → Prop}
theorem ne_new {a b : Addr} {o : AO} (h : H a = some o) (hb : H b = none) : a ≠ b := fun q => by rw [q, hb] at h; cases h
theorem Mod.le {ls : List Addr} {H0 H1 H2 : AH} (x : Mod ls H1 H2) (l : Le H0 H1) (h : ∀ a ∈ ls, H0 a = none) : Le H0 H2 := fun a o e => x a o (fun q => by rw [h a q] at e; cases e) (l a o e)
section
variable {x dx mo md wd rl rw : Addr} {M : Mach} {k : Nat} {QH : AH → Prop}
theorem SETA_rows (C : c.Ok) {rw' : Addr} (K : CpuAt H x dx mo md wd rl rw M k) (h : ∀ H1, CpuAt H1 x dx mo md wd rl rw' M k → Mod [dx] H H1 → QH H1) : SETA c A E S (.ref x) "rows" (.ref rw') H QH := by
  refine SETA_ns C CP_Cpu K.o K.d (by kernel_rfl) (by decide : 9 < 1000) ?_
  refine h _ ⟨(AH.set_ne (ne_obs K.o K.d (by intro q; cases q))).trans K.o, AH.set_self, (AH.set_ne (ne_obs K.r K.d (by intro q; cases q))).trans K.r, ?_⟩ (Mod.one (.head _))
  obtain ⟨f, n, ⟨m1, m2, m3⟩, m4, m5⟩ := K.m
  exact ⟨f, n, ⟨(AH.set_ne (ne_obs m1 K.d (by intro q; cases q))).trans m1, (AH.set_ne (ne_obs m2 K.d (by intro q; cases q))).trans m2, (AH.set_ne (ne_obs m3 K.d (by intro q; cases q))).trans m3⟩, m4, m5⟩
theorem SETA_rg (C : c.Ok) {rl' : Addr} {rs : List Int} (K : CpuAt H x dx mo md wd rl rw M k) (hrl : H rl' = some (.list (rs.map fun i => .int i 0))) (h : ∀ H1, CpuAt H1 x dx mo md wd rl' rw { M with regs := rs } k → Mod [dx] H H1 → QH H1) : SETA c A E S (.ref x) "regs" (.ref rl') H QH := by
  refine SETA_ns C CP_Cpu K.o K.d (by kernel_rfl) (by decide : 9 < 1000) ?_
  refine h _ ⟨(AH.set_ne (ne_obs K.o K.d (by intro q; cases q))).trans K.o, AH.set_self, (AH.set_ne (ne_obs hrl K.d (by intro q; cases q))).trans hrl, ?_⟩ (Mod.one (.head _))
  obtain ⟨f, n, ⟨m1, m2, m3⟩, m4, m5⟩ := K.m
  exact ⟨f, n, ⟨(AH.set_ne (ne_obs m1 K.d (by intro q; cases q))).trans m1, (AH.set_ne (ne_obs m2 K.d (by intro q; cases q))).trans m2, (AH.set_ne (ne_obs m3 K.d (by intro q; cases q))).trans m3⟩, m4, m5⟩
end
theorem w_twin (C : c.Ok) {A : Around} (hr : Room 11 A (L :: S.map (·.1))) {x dx mo md wd rl rw ad rl2 wc : Addr} {M : Mach} {k T : Nat} {P : List Ins}
    (hP : ∀ i ∈ P, i.Ok) (hl : P.length ≤ 1000) (hT : T ≤ 14) (hk : k ≤ 100) (hk0 : 16 ≤ k) (hM : M.Ok) (hpc : M.pc = 0) (K : CpuAt H x dx mo md wd rl rw M k) (KM : MacAt H ad rl2 wc rw M k) (R : RowsAt H rw P)
    (c1 : H (L + 1 + 1) = some (.cell (some (.ref wc)))) (c2 : H (L + 1 + 1 + 1) = some (.cell (some (.ref mo)))) (nd : [dx, rl, wd, ad, rl2, wc].Nodup)
    {QL : Flow → Loc → AH → Prop} (h : ∀ m1 H1, QL (.ret (.bool true)) m1 H1) :
    XS c A (lawEnv L) NoE L S [("machine", .ref ad), ("cpu", .ref x), ("regs", .ref rl2), ("rows", .ref rw), ("turns_made", .int T 0), ("many", .int P.length 0)] ((bodyOf (st 38)).drop 15) H QL := by
  show XS c A (lawEnv L) NoE L S _ [_, _, _, _, _, _, _, _, _] H QL
  walk_at "w"
  refine w_Mem C (by walk_at "room") fun H1 mo' md' wd' a1 a2 a3 MA l1 => ?_
  walk_at "w"
  refine w_Cpu C (by walk_at "room") fun H2 xt dxt rlt0 rwt mem b1 b2 b3 b4 o d r w l2 => ?_
  have lH2 : Le H H2 := l1.trans l2
  have KT0 : CpuAt H2 xt dxt mo' md' wd' rlt0 rwt (mach0 fun _ => 0) 0 := ⟨o, d, r, fun _ => none, 0, ⟨l2 _ _ MA.o, l2 _ _ MA.d, l2 _ _ MA.w⟩, Nat.le_refl _, fun i _ _ => rfl⟩
  have fd : H dxt = none := l1.free b2
  have e1 : wd' ≠ dxt := ne_new MA.w b2
  clear o d r w MA b1 b2 b3 b4 a1 a2
  walk_at "w"
  refine XE_for (Room.noh hr) ?_
  walk_at "w"
  refine CV_range3 (by decide) (by decide) fun rr hrr => ?_
  refine ITER_range (n := 16) AH.set_self (by decide) (by decide) fun it hit => ?_
  have l3 : Le H2 ((H2.set rr (.range 0 64 4)).set it ((Sq.range 0 4 16).ao 0)) := (Le.refl.new hrr).new hit
  have hit2 : H2 it = none := (sub_new hrr |> fun (l : Le H2 _) => l).free hit
  have KT1 := KT0.keep l3
  have l4 : Le H ((H2.set rr (.range 0 64 4)).set it ((Sq.range 0 4 16).ao 0)) := lH2.trans l3
  obtain ⟨fc, nc, hc1, hc2, hc3⟩ := (KM.keep l4).w
  refine loop0 ⟨[wd'], fun i H1 => CpuAt H1 xt dxt mo' md' wd' rlt0 rwt (mach0 fun j => if j < i then M.mem j else 0) i, ?_⟩
  refine ⟨fun _ _ => trivial, ?_, ⟨rfl, ⟨KT1.o, KT1.d, KT1.r, let ⟨f, n, q1, q2, q3⟩ := KT1.m; ⟨f, n, q1, q2, fun i h0 h1 => (q3 i h0 h1).trans ?_⟩⟩⟩, ?_, ?_, ?_⟩
  · have q := KT1.notIt (it := it) AH.set_self
    simp only [List.mem_cons, List.not_mem_nil, or_false, not_or] at q
    simpa using q.2.2
  · show Value.int 0 0 = .int (if i < ((0 : Nat) : Int) then M.mem i else 0) 0
    rw [if_neg (by omega)]
  · rintro i m1 H3 H4 ⟨e, k1⟩ hK
    exact ⟨e, k1.keeps hK⟩
  · rintro i v m1 H3 hv ⟨rfl, Ki⟩ hMd
    obtain ⟨hin, rfl⟩ := range_at hv
    have cw : wd' ≠ wc := fun q => by
      obtain ⟨f, n, q1, -⟩ := KM.w
      rw [q, q1] at a3; cases a3
    have hcH : H3 wc = some (.idict fc nc) := hMd _ _ (fun q => by
      simp only [List.mem_cons, List.not_mem_nil, or_false] at q
      rcases q with q | q
      · rw [q, AH.set_self] at hc1; cases hc1
      · exact cw q.symm) hc1
    have c1H : H3 (L + 1 + 1) = some (.cell (some (.ref wc))) := hMd _ _ (fun q => by
      have c1' := l4 _ _ c1
      simp only [List.mem_cons, List.not_mem_nil, or_false] at q
      rcases q with q | q
      · rw [q, AH.set_self] at c1'; cases c1'
      · rw [q, a3] at c1; cases c1) (l4 _ _ c1)
    obtain ⟨o, d, r, f, n, ⟨m1, m2, m3⟩, hn, hf⟩ := Ki
    walk_at "w"
    have hw : Wd (M.mem i) := hM.mem _ (by omega) (by omega)
    refine w_got C (by walk_at "room") (g := fun j => M.mem i / 2 ^ (8 * j) % 256) hcH ?_ ?_ ?_
    · intro j hj
      rw [hc3 _ (by omega) (by omega)]
      unfold byteOf
      have q1 : (0 + (i : Int) * 4 + (j : Int)) / 4 = i := by omega
      have q2 : (8 * ((0 + (i : Int) * 4 + (j : Int)) % 4)).toNat = 8 * j := by omega
      rw [q1, q2]
    · intro j hj
      exact ⟨Int.emod_nonneg _ (by decide), Int.emod_lt_of_pos _ (by decide)⟩
    rw [byte_sum hw]
    walk_at "w"
    refine w_put_word C (by walk_at "room") ⟨m1, m2, m3⟩ (by omega) (by omega) ?_
    refine Then_next (XS_nil ⟨Mod.one (.head _), _, SubL.cons (by rfl) SubL.refl, rfl, ?_⟩)
    have e2 : M.mem i % 4294967296 = M.mem i := Int.emod_eq_of_lt hw.1 hw.2
    have e3 : (0 + (i : Int) * 4) / 4 = i := by omega
    rw [e2, e3]
    refine CpuAt.setW (M := mach0 fun j => if j < (i : Int) then M.mem j else 0) ⟨o, d, r, f, n, ⟨m1, m2, m3⟩, hn, hf⟩ ⟨m1, m2, m3⟩ hn fun j h0 h1 => ?_
    rw [putF_getD hf j h0 h1]
    show Value.int (if j = i then M.mem i else if j < (i : Int) then M.mem j else 0) 0 = .int (if j < ((i + 1 : Nat) : Int) then M.mem j else 0) 0
    by_cases q1 : j = i
    · subst q1; rw [if_pos rfl, if_pos (by omega)]
    · rw [if_neg q1]
      by_cases q2 : j < i
      · rw [if_pos q2, if_pos (by omega)]
      · rw [if_neg q2, if_neg (by omega)]
  · rintro m1 H3 ⟨rfl, K3⟩ hMd
    have KT3 : CpuAt H3 xt dxt mo' md' wd' rlt0 rwt (mach0 M.mem) 16 := ⟨K3.o, K3.d, K3.r, let ⟨f, n, q1, q2, q3⟩ := K3.m; ⟨f, n, q1, q2, fun i h0 h1 => (q3 i h0 h1).trans (by show Value.int (if i < ((16 : Nat) : Int) then M.mem i else 0) 0 = .int (M.mem i) 0; rw [if_pos (by omega)])⟩⟩
    have m3 : Mod [wd'] H2 H3 := Mod.base hit2 l3 hMd
    have l3 : Le H H3 := m3.le lH2 fun a ha => by rw [List.mem_singleton.mp ha]; exact a3
    clear K3 hMd KT1 KT0 hc1 hc2 hc3 l4
    refine Then_next ?_
    walk_at "w"
    refine SETA_rows C KT3 fun H4 KT4 m4 => ?_
    have l4 : Le H H4 := m4.le l3 fun a ha => by rw [List.mem_singleton.mp ha]; exact fd
    have hrl4 := l4 _ _ KM.r
    walk_at "w"
    refine CV_list_copy hrl4 (by rw [List.length_map, hM.len]; decide) (fun rlt hrlt => ?_) (List.cons_ne_nil _ _)
    have l5 : Le H4 (H4.set rlt (.list (M.regs.map fun i => .int i 0))) := Le.refl.new hrlt
    have KT5 := KT4.keep l5
    walk_at "w"
    refine SETA_rg C KT5 AH.set_self fun H6 KT6 m6 => ?_
    have l6 : Le H H6 := m6.le (l4.trans l5) fun a ha => by rw [List.mem_singleton.mp ha]; exact fd
    have K6 := K.keep l6
    obtain ⟨o, d, r, mm⟩ := K6
    walk_at "w"
    refine ⟨by simp, fun ta hta => ⟨ta, _, rfl, .inl AH.set_self, rfl, ?_⟩⟩
    have l7 : Le H6 (H6.set ta (.tuple [.int M.h 0, .int (b2i M.n) 0, .int (b2i M.z) 0, .int (b2i M.cc) 0, .int (b2i M.v) 0])) := Le.refl.new hta
    have KT7 := KT6.keep l7
    have i1 : wd' ∉ [dxt, rlt, wd'] → False := fun q => q (by simp)
    have hfr : ∀ a ∈ [dxt, rlt, wd'], H a = none := fun a ha => by
      simp only [List.mem_cons, List.not_mem_nil, or_false] at ha
      rcases ha with q | q | q
      · rw [q]; exact fd
      · rw [q]; exact l4.free hrlt
      · rw [q]; exact a3
    walk_at "w"
    refine SETA_h C KT7 fun H8 KT8 m8 => ?_
    walk_at "w"
    refine SETA_n C KT8 rfl fun H9 KT9 m9 => ?_
    walk_at "w"
    refine SETA_z C KT9 rfl fun H10 KT10 m10 => ?_
    walk_at "w"
    refine SETA_c C KT10 rfl fun H11 KT11 m11 => ?_
    walk_at "w"
    refine SETA_v C KT11 rfl fun H12 KT12 m12 => ?_
    refine ASGS_nil (Then_next ?_)
    have lf : Le H H12 := ((((m8.trans m9).trans m10).trans m11).trans m12).le (l6.trans l7) hfr
    have hMe : ({ regs := M.regs, h := M.h, n := M.n, z := M.z, cc := M.cc, v := M.v, pc := 0, mem := M.mem } : Mach) = M := by
      cases M; cases hpc; rfl
    have KTf : CpuAt H12 xt dxt mo' md' wd' rlt rw M k := by
      have q : CpuAt H12 xt dxt mo' md' wd' rlt rw { regs := M.regs, h := M.h, n := M.n, z := M.z, cc := M.cc, v := M.v, pc := 0, mem := M.mem } 16 := KT12
      rw [hMe] at q
      exact q.more hk0
    have nd9 : [dx, rl, wd, ad, rl2, wc, dxt, rlt, wd'].Nodup := by
      obtain ⟨f0, n0, hm0, -⟩ := K.m
      obtain ⟨ml0, hd0, -⟩ := KM.d
      obtain ⟨f1, n1, hw1, -⟩ := KM.w
      have hne : ∀ a ∈ [dx, rl, wd, ad, rl2, wc], H a ≠ none := fun a ha => by
        simp only [List.mem_cons, List.not_mem_nil, or_false] at ha
        rcases ha with q | q | q | q | q | q
        · rw [q, K.d]; simp
        · rw [q, K.r]; simp
        · rw [q, hm0.w]; simp
        · rw [q, hd0]; simp
        · rw [q, KM.r]; simp
        · rw [q, hw1]; simp
      have e2 : dxt ≠ rlt := ne_new KT4.d hrlt
      have e3 : wd' ≠ rlt := by
        obtain ⟨f, n, hm, -⟩ := KT4.m
        exact ne_new hm.w hrlt
      show ([dx, rl, wd, ad, rl2, wc] ++ [dxt, rlt, wd']).Nodup
      refine List.nodup_append.mpr ⟨nd, ?_, fun a ha b hb q => hne a ha (q ▸ hfr b hb)⟩
      simp only [List.nodup_cons, List.mem_cons, List.not_mem_nil, or_false, not_or, not_false_eq_true, List.nodup_nil, and_true]
      exact ⟨⟨e2, Ne.symm e1⟩, Ne.symm e3⟩
    refine X.loc (m' := [("twin", .ref xt), ("cpu", .ref x), ("turns_made", .int T 0), ("many", .int P.length 0), ("machine", .ref ad)]) ?_ ?_
    · refine w_loop C hr hP hl hT hk (M0 := M) (k := k) ⟨K.keep lf, KM.keep lf, KTf, let ⟨as, a, b, d⟩ := R; ⟨as, lf _ _ a, b, fun i y ins e1 e2 => lf _ _ (d i y ins e1 e2)⟩, hM, hM, lf _ _ c1, lf _ _ c2, nd9⟩ h
    · walk_at "sub"
end
section
variable {c : Cx} {A : Around} {E : Value → Shared → Prop} {env : Env} {L : Addr} {S : Stk} {m : Loc} {H : AH} {s : Shared} {Q : Value → AH → Prop}
theorem Mod.more {ls ms : List Addr} {H0 H1 H2 : AH} (x : Mod ms H0 H1) (y : Mod ls H1 H2) (h : ∀ a ∈ ls, a ∈ ms ∨ H0 a = none) : Mod ms H0 H2 := fun a o ha e => y a o (fun q => by
  rcases h a q with q | q
  · exact ha q
  · rw [q] at e; cases e) (x a o ha e)
theorem Mod.free {ms : List Addr} {H0 H1 : AH} (x : Mod ms H0 H1) {a : Addr} (h : H1 a = none) (ha : a ∉ ms) : H0 a = none := by
  cases e : H0 a with
  | none => rfl
  | some o => rw [x a o ha e] at h; cases h
theorem CpuAt.apart1 {x dx mo md wd rl rw ra : Addr} {M : Mach} {k : Nat} (K : CpuAt H x dx mo md wd rl rw M k) (R : RowAt H ra) (hne : ra ≠ rl) {H1 : AH} (l : Mod [ra] H H1) : CpuAt H1 x dx mo md wd rl rw M k := by
  obtain ⟨ns, e, -⟩ := R
  obtain ⟨f, n, hm, -⟩ := K.m
  refine K.mod l ?_ ?_ ?_ ?_ ?_ ?_
  · simpa using ne_obs K.o e (by intro q; cases q)
  · simpa using ne_obs K.d e (by intro q; cases q)
  · simpa using ne_obs hm.o e (by intro q; cases q)
  · simpa using ne_obs hm.d e (by intro q; cases q)
  · simpa using ne_obs hm.w e (by intro q; cases q)
  · simpa using Ne.symm hne
theorem w_mach (C : c.Ok) {A : Around} (hr : Room 11 A (L :: S.map (·.1))) {mo md wd rw rl2 wc ra : Addr} {k T nw nc : Nat} {P : List Ins} {rs : List Int} {mem : Int → Int} {fw fc : Int → Option Value}
    (hP : ∀ i ∈ P, i.Ok) (hl : P.length ≤ 1000) (hT : T ≤ 14) (hk : k ≤ 100) (hk0 : 16 ≤ k) (hmem : ∀ i, 0 ≤ i → i < 16 → Wd (mem i)) (hrs : rs.length = 16) (hrw : ∀ r ∈ rs, Wd r)
    (MA : MemAt H mo md wd fw nw) (hnw : nw ≤ k) (hfw : ∀ i, 0 ≤ i → i < 16 → (fw i).getD (.int 0 0) = .int (mem i) 0) (hwc : H wc = some (.idict fc nc)) (hnc : nc ≤ k) (hfc : CellsOk fc mem) (RW : RowsAt H rw P)
    (hrl : H rl2 = some (.list (rs.map fun i => .int i 0))) (RA : RowAt H ra) (c0 : H (L + 1) = some (.cell (some (.ref ra)))) (c1 : H (L + 1 + 1) = some (.cell (some (.ref wc)))) (c2 : H (L + 1 + 1 + 1) = some (.cell (some (.ref mo))))
    (n1 : ra ≠ rl2) (n2 : ra ≠ rw) (n3 : wd ≠ wc) {QL : Flow → Loc → AH → Prop} (h : ∀ m1 H1, QL (.ret (.bool true)) m1 H1) :
    XS c A (lawEnv L) NoE L S [("regs", .ref rl2), ("rows", .ref rw), ("turns_made", .int T 0), ("many", .int P.length 0)] ((bodyOf (st 38)).drop 8) H QL := by
  have RAH := RA
  obtain ⟨ns, hra, -⟩ := RAH
  show XS c A (lawEnv L) NoE L S _ [_, _, _, _, _, _, _, _, _, _, _, _, _, _, _, _] H QL
  walk_at "w"
  refine w_Cpu C (by walk_at "room") fun H1 x dx rl0 rw0 mem' b1 b2 b3 b4 o d r w l1 => ?_
  have K1 : CpuAt H1 x dx mo md wd rl0 rw0 (mach0 mem) k := ⟨o, d, r, fw, nw, ⟨l1 _ _ MA.o, l1 _ _ MA.d, l1 _ _ MA.w⟩, hnw, hfw⟩
  clear o d r w
  have m1 : Mod [ra] H H1 := fun a o _ e => l1 a o e
  walk_at "w"
  refine SETA_rows C K1 fun H2 K2 m2' => ?_
  have m2 : Mod [ra] H H2 := m1.more m2' fun a ha => by rw [List.mem_singleton.mp ha]; exact .inr b2
  have hrl2 := m2 _ _ (by simpa using Ne.symm n1) hrl
  walk_at "w"
  refine CV_list_copy hrl2 (by rw [List.length_map, hrs]; decide) (fun rl hrlf => ?_) (List.cons_ne_nil _ _)
  have K3 := K2.keep (Le.refl.new (o := .list (rs.map fun i => .int i 0)) hrlf)
  have m3 : Mod [ra] H (H2.set rl (.list (rs.map fun i => .int i 0))) := m2.more (Mod.sub_new (ls := []) hrlf) (by simp)
  walk_at "w"
  refine SETA_rg C K3 AH.set_self fun H4 K4 m4' => ?_
  have m4 : Mod [ra] H H4 := m3.more m4' fun a ha => by rw [List.mem_singleton.mp ha]; exact .inr b2
  have R4 : RowAt H4 ra := by
    obtain ⟨ns, e, y⟩ := RA
    refine ⟨ns, m4' _ _ (by simpa using ne_new e b2) (sub_new hrlf _ _ (m2' _ _ (by simpa using ne_new e b2) (l1 _ _ e))), y⟩
  have hne4 : ra ≠ rl := by
    obtain ⟨ns, e, y⟩ := RA
    exact ne_new (m2' _ _ (by simpa using ne_new e b2) (l1 _ _ e)) hrlf
  have hrlH : H rl = none := m2.free hrlf (by simpa using Ne.symm hne4)
  have c0' := m4 _ _ (by simpa using ne_obs c0 hra (by intro q; cases q)) c0
  walk_at "w"
  refine w_word' C (by walk_at "room") R4 fun H5 v R5 m5' hv => ?_
  have K5 := K4.apart1 R4 hne4 m5'
  have m5 : Mod [ra] H H5 := m4.more m5' fun a ha => .inl ha
  walk_at "w"
  refine SETA_h C K5 fun H6 K6 m6' => ?_
  have m6 : Mod [ra, wd] H H6 := (m5.wider (ls' := [ra, wd]) (by simp)).more m6' fun a ha => by
    simp only [List.mem_cons, List.not_mem_nil, or_false] at ha ⊢
    rcases ha with q | q | q
    · rw [q]; exact .inr b2
    · rw [q]; exact .inr hrlH
    · exact .inl (.inr q)
  have R6 : RowAt H6 ra := by
    obtain ⟨f, n, hm, -⟩ := K5.m
    obtain ⟨ns, e, y⟩ := R5
    exact ⟨ns, m6' _ _ (not3 (ne_obs e K5.d (by intro q; cases q)) hne4 (ne_obs e hm.w (by intro q; cases q))) e, y⟩
  replace K6 : CpuAt H6 x dx mo md wd rl rw ⟨rs, v, false, false, false, false, 0, mem⟩ k := K6
  have g0 : ∀ {a : Addr} {v : Option Value}, H a = some (.cell v) → a ∉ [ra, wd] := fun ha => by
    simp only [List.mem_cons, List.not_mem_nil, or_false, not_or]
    exact ⟨ne_obs ha hra (by intro q; cases q), ne_obs ha MA.w (by intro q; cases q)⟩
  have c06 := m6 _ _ (g0 c0) c0
  clear K5 m5' m5 R5 c0' R4 m4 m4' K4 K3 m3 hrl2 m2 m2' K2 m1 K1 m6'
  walk_at "w"
  refine XE_assign_comp (Room.noh hr) ?_ (by rfl) (by decide +kernel) (by decide +kernel)
  walk_at "w"
  refine CV_range1 fun rr hrr => ?_
  obtain ⟨sm, rs'⟩ := small_range (n := 4) (by omega)
  refine ITER_range AH.set_self sm rs' fun it hit => ?_
  have l7 : Le H6 ((H6.set rr (.range 0 4 1)).set it ((Sq.range 0 1 4).ao 0)) := (Le.refl.new hrr).new hit
  have hitH : H6 it = none := (sub_new hrr |> fun (l : Le H6 _) => l).free hit
  have n3' : ∀ H1, H1 (L + 1) = some (.cell (some (.ref ra))) → RowAt H1 ra → L + 1 ∉ [ra] := fun H1 a ⟨ns, e, _⟩ => by simpa using ne_obs a e (by intro q; cases q)
  refine ⟨[ra], fun i ys H7 => ∃ bs : List Bool, ys = bs.map (fun b => .int (b2i b) 0) ∧ bs.length = i ∧ RowAt H7 ra ∧ H7 (L + 1) = some (.cell (some (.ref ra))), ?_⟩
  refine ⟨fun _ _ => trivial, ?_, ?_, ?_, ⟨[], rfl, rfl, (let ⟨ns, e, y⟩ := R6; ⟨ns, l7 _ _ e, y⟩), l7 _ _ c06⟩, ?_, ?_, ?_⟩
  · obtain ⟨ns, e, -⟩ := R6
    simpa using Ne.symm (ne_new e hitH)
  · simp [Sq.xs]
  · intro b hb
    obtain ⟨ns, e, -⟩ := R6
    rw [List.mem_singleton.mp hb, l7 _ _ e]; exact fun q => by cases q
  · rintro D i ys H7 H8 hD hD2 ⟨bs, q1, q2, q6, q7⟩ hK
    have hDra : ra ≠ D := fun q => by
      obtain ⟨ns, e, -⟩ := R6
      rw [← q, l7 _ _ e] at hD; cases hD
    have hDc : L + 1 ≠ D := fun q => by
      rw [← q, l7 _ _ c06] at hD; cases hD
    exact ⟨bs, q1, q2, (let ⟨ns, e, y⟩ := q6; ⟨ns, hK _ _ hDra e rfl, y⟩), hK _ _ hDc q7 rfl⟩
  · rintro i v5 ys Cf H7 hv5 ⟨bs, rfl, q2, q6, q7⟩ hMd
    refine EV_BinOp (EV_callg C g_law_next (EVs_cons (EV_cell (by rfl) q7 (EVs_nil ?_))))
    refine w_next C (hr.less (k := 2) (by decide)).wider q6 fun H8 vv R8 l8 v0 v1 => ?_
    walk_at "w"
    refine ⟨l8, bs ++ [decide (vv % 2 = 1)], ?_, by simp [q2], R8, l8 _ _ (n3' _ q7 q6) q7⟩
    have e2 : vv % 2 = b2i (decide (vv % 2 = 1)) := by
      by_cases q : vv % 2 = 1
      · rw [q]; rfl
      · have : vv % 2 = 0 := by omega
        rw [this]; rfl
    rw [List.map_append, List.map_singleton, ← e2]
  rintro fl ys H7 ⟨bs, rfl, q2, q6, q7⟩ hlen7 hMd hfl hfl'
  have q2 : bs.length = 4 := by rw [q2]; simp [Sq.xs]
  have m7' : Mod [ra] H6 H7 := Mod.base hitH l7 hMd
  have hne6 : ra ≠ rl := hne4
  have K7 := K6.apart1 R6 hne4 m7'
  have m7 : Mod [ra, wd] H H7 := m6.more m7' fun a ha => .inl (by simpa using .inl (List.mem_singleton.mp ha))
  obtain ⟨fn, fz, fcc, fv, rfl⟩ : ∃ a b cc d, bs = [a, b, cc, d] := by
    match bs, q2 with
    | [a, b, cc, d], _ => exact ⟨a, b, cc, d, rfl⟩
  refine Then_next ?_
  walk_at "w"
  refine ⟨fl, [.int (b2i fn) 0, .int (b2i fz) 0, .int (b2i fcc) 0, .int (b2i fv) 0], rfl, .inr hfl', rfl, ?_⟩
  replace hfl' : H7 fl = some (.list [.int (b2i fn) 0, .int (b2i fz) 0, .int (b2i fcc) 0, .int (b2i fv) 0]) := hfl'
  have hfn : fl ∉ [dx, rl, wd] := by
    obtain ⟨f, n, hm, -⟩ := K7.m
    refine not3 (ne_obs hfl' K7.d (by intro q; cases q)) (ne_obs hfl' K7.r (fun q => ?_)) (ne_obs hfl' hm.w (by intro q; cases q))
    injection q with q
    have := congrArg List.length q
    rw [List.length_map] at this
    have : (4 : Nat) = 16 := this.trans hrs
    cases this
  walk_at "w"
  refine SETA_n C K7 rfl fun H8 K8 m8 => ?_
  walk_at "w"
  refine SETA_z C K8 rfl fun H9 K9 m9 => ?_
  walk_at "w"
  refine SETA_c C K9 rfl fun H10 K10 m10 => ?_
  walk_at "w"
  refine SETA_v C K10 rfl fun H11 K11 m11' => ?_
  replace m11' : Mod [dx, rl, wd] H7 H11 := ((m8.trans m9).trans m10).trans m11'
  replace K11 : CpuAt H11 x dx mo md wd rl rw ⟨rs, v, fn, fz, fcc, fv, 0, mem⟩ k := K11
  have hfl11 := m11' _ _ hfn hfl'
  have m11 : Mod [ra, wd] H H11 := m7.more m11' fun a ha => by
    simp only [List.mem_cons, List.not_mem_nil, or_false] at ha ⊢
    rcases ha with q | q | q
    · rw [q]; exact .inr b2
    · rw [q]; exact .inr hrlH
    · exact .inl (.inr q)
  clear K8 K9 K10 m8 m9 m10 hfl' K7 m7 m7' m11' q6 q7 hMd hfl R6 K6 m6 c06 rs' sm l7
  have c0f := m11 _ _ (g0 c0) c0
  have c1f := m11 _ _ (g0 c1) c1
  have c2f := m11 _ _ (g0 c2) c2
  refine ASGS_nil (Then_next ?_)
  walk_at "w"
  refine EV_dict (by rfl) (by rfl) (by simp) (by decide) fun ad had => ?_
  have l12 : Le H11 (H11.set ad (.sdict [])) := Le.refl.new had
  have c1g := l12 _ _ c1f
  have K12 := K11.keep l12
  have hfl12 := l12 _ _ hfl11
  obtain ⟨o12, d12, -, -⟩ := id K12
  refine DPS_cons ?_
  walk_at "w"
  refine DPS_cons ?_
  walk_at "w"
  refine DPS_cons ?_
  walk_at "w"
  refine DPS_cons ?_
  walk_at "w"
  refine DPS_cons ?_
  walk_at "w"
  refine DPS_cons ?_
  walk_at "w"
  refine DPS_cons ?_
  refine EV_listcomp (Room.noh hr) ?_ (by rfl) (by decide +kernel) (by decide +kernel)
  walk_at "w"
  refine ITER_list hfl12 fun it2 hit2 => ?_
  have hfi : fl ≠ it2 := ne_new hfl12 hit2
  have lit : Le (H11.set ad (.sdict [])) _ := Le.refl.new (o := (Sq.list fl [.int (b2i fn) 0, .int (b2i fz) 0, .int (b2i fcc) 0, .int (b2i fv) 0]).ao 0) hit2
  have hfl13 := lit _ _ hfl12
  have had13 := lit _ _ (AH.set_self (H := H11) (a := ad) (o := .sdict []))
  refine ⟨[], fun j ys H3 => ys = ([fn, fz, fcc, fv].take j).map Value.bool, ?_⟩
  refine ⟨fun H3 hM3 => hM3 _ _ (by simpa using hfi) hfl13, by simp, by simp [Sq.xs], by simp, rfl, fun _ _ _ _ _ _ _ e _ => e, ?_, ?_⟩
  · rintro j v2 ys Cf H3 hv2 rfl hMd
    have : ∃ b, v2 = .int (b2i b) 0 ∧ ([fn, fz, fcc, fv].take j).map Value.bool ++ [.bool b] = ([fn, fz, fcc, fv].take (j + 1)).map Value.bool := by
      have hj : j < 4 := (List.getElem?_eq_some_iff.mp hv2).1
      match j, hj with
      | 0, _ => cases hv2; exact ⟨_, rfl, rfl⟩
      | 1, _ => cases hv2; exact ⟨_, rfl, rfl⟩
      | 2, _ => cases hv2; exact ⟨_, rfl, rfl⟩
      | 3, _ => cases hv2; exact ⟨_, rfl, rfl⟩
    obtain ⟨b, rfl, e⟩ := this
    refine EV_Compare (EV_local (by rfl) (EV_int (CMP_eq ⟨Mod.refl, ?_⟩)))
    have eb : decide (b2i b = 1) = b := by cases b <;> rfl
    rw [eb]; exact e
  rintro D ys H13 rfl hlen3 hMd hD hD'
  have l13 : Le (H11.set ad (.sdict [])) H13 := fun a o e => Mod.base hit2 lit hMd a o (by simp) e
  have hDad : D ≠ ad := Ne.symm (ne_new had13 hD)
  have l14 : Le H11 (H13.set ad (.sdict (macNs rl2 wc rw D ⟨rs, v, fn, fz, fcc, fv, 0, mem⟩))) := fun a o e => (AH.set_ne (ne_new e had)).trans (l13 _ _ (l12 _ _ e))
  have m14 : Mod [ra, wd] H (H13.set ad (.sdict (macNs rl2 wc rw D ⟨rs, v, fn, fz, fcc, fv, 0, mem⟩))) := m11.trans fun a o _ e => l14 a o e
  refine DPS_nil ⟨l13 _ _ AH.set_self, ?_, by simp, Then_next ?_⟩
  · show (["regs", "cells", "rows", "pc", "size", "high", "marks"] : List Str).Nodup
    decide +kernel
  have not2 : ∀ {a : Addr}, a ≠ ra → a ≠ wd → a ∉ [ra, wd] := fun h1 h2 => by
    simp only [List.mem_cons, List.not_mem_nil, or_false, not_or]; exact ⟨h1, h2⟩
  have KM : MacAt (H13.set ad (.sdict (macNs rl2 wc rw D ⟨rs, v, fn, fz, fcc, fv, 0, mem⟩))) ad rl2 wc rw ⟨rs, v, fn, fz, fcc, fv, 0, mem⟩ k :=
    ⟨⟨D, AH.set_self, (AH.set_ne hDad).trans hD'⟩, m14 _ _ (not2 (Ne.symm n1) (ne_obs hrl MA.w (by intro q; cases q))) hrl, fc, nc, m14 _ _ (not2 (ne_obs hwc hra (by intro q; cases q)) (Ne.symm n3)) hwc, hnc, hfc⟩
  have RWf : RowsAt (H13.set ad (.sdict (macNs rl2 wc rw D ⟨rs, v, fn, fz, fcc, fv, 0, mem⟩))) rw P := by
    refine RW.mod m14 (not2 (Ne.symm n2) ?_) fun a vs ha => not2 (ne_obs ha hra (by intro q; cases q)) (ne_obs ha MA.w (by intro q; cases q))
    obtain ⟨as, e, -⟩ := RW
    exact ne_obs e MA.w (by intro q; cases q)
  have K14 := K11.keep l14
  have nd : [dx, rl, wd, ad, rl2, wc].Nodup := by
    obtain ⟨f, n, hm, -⟩ := K11.m
    have x1 : ad ≠ rl2 := Ne.symm (ne_new (m11 _ _ (not2 (Ne.symm n1) (ne_obs hrl MA.w (by intro q; cases q))) hrl) had)
    have x2 : ad ≠ wc := Ne.symm (ne_new (m11 _ _ (not2 (ne_obs hwc hra (by intro q; cases q)) (Ne.symm n3)) hwc) had)
    simp only [List.nodup_cons, List.mem_cons, List.not_mem_nil, or_false, not_or, not_false_eq_true, List.nodup_nil, and_true]
    exact ⟨⟨ne_obs K11.d K11.r (by intro q; cases q), Ne.symm (ne_new MA.w b2), ne_new K11.d had, Ne.symm (ne_new hrl b2), Ne.symm (ne_new hwc b2)⟩,
      ⟨Ne.symm (ne_new MA.w hrlH), ne_new K11.r had, Ne.symm (ne_new hrl hrlH), Ne.symm (ne_new hwc hrlH)⟩,
      ⟨ne_new hm.w had, ne_obs MA.w hrl (by intro q; cases q), n3⟩, ⟨x1, x2⟩, ne_obs hrl hwc (by intro q; cases q)⟩
  refine X.loc (m' := [("machine", .ref ad), ("cpu", .ref x), ("regs", .ref rl2), ("rows", .ref rw), ("turns_made", .int T 0), ("many", .int P.length 0)]) ?_ ?_
  · exact w_twin C hr hP hl hT hk hk0 ⟨hrs, hrw, hv, hmem⟩ rfl K14 KM RWf (l14 _ _ c1f) (l14 _ _ c2f) nd h
  · walk_at "sub"
end
section
variable {c : Cx} {A : Around} {E : Value → Shared → Prop} {env : Env} {L : Addr} {S : Stk} {m : Loc} {H : AH} {s : Shared} {Q : Value → AH → Prop}
/-- the law's memory and cells while they are filled -/
structure Pre (H : AH) (L ra wc mo md wd : Addr) (mem : Int → Int) (i : Nat) : Prop where
  MA : ∃ f n, MemAt H mo md wd f n ∧ n ≤ i ∧ ∀ j, 0 ≤ j → j < 16 → (f j).getD (.int 0 0) = .int (mem j) 0
  W : ∃ f n, H wc = some (.idict f n) ∧ n ≤ 4 * i ∧ CellsOk f mem
  R : RowAt H ra
  c0 : H (L + 1) = some (.cell (some (.ref ra)))
  c1 : H (L + 1 + 1) = some (.cell (some (.ref wc)))
  c2 : H (L + 1 + 1 + 1) = some (.cell (some (.ref mo)))
  ok : ∀ j, 0 ≤ j → j < 16 → Wd (mem j)
section
variable {ra wc mo md wd : Addr} {mem : Int → Int} {i : Nat}
theorem Pre.keep {H1 : AH} (Z : Pre H L ra wc mo md wd mem i) (l : Le H H1) : Pre H1 L ra wc mo md wd mem i :=
  ⟨let ⟨f, n, a, b, d⟩ := Z.MA; ⟨f, n, ⟨l _ _ a.o, l _ _ a.d, l _ _ a.w⟩, b, d⟩, let ⟨f, n, a, b⟩ := Z.W; ⟨f, n, l _ _ a, b⟩, let ⟨ns, e, y⟩ := Z.R; ⟨ns, l _ _ e, y⟩, l _ _ Z.c0, l _ _ Z.c1, l _ _ Z.c2, Z.ok⟩
theorem Pre.keeps {H1 : AH} (Z : Pre H L ra wc mo md wd mem i) (l : Keep H H1) : Pre H1 L ra wc mo md wd mem i :=
  ⟨let ⟨f, n, a, b, d⟩ := Z.MA; ⟨f, n, ⟨l _ _ a.o rfl, l _ _ a.d rfl, l _ _ a.w rfl⟩, b, d⟩, let ⟨f, n, a, b⟩ := Z.W; ⟨f, n, l _ _ a rfl, b⟩, let ⟨ns, e, y⟩ := Z.R; ⟨ns, l _ _ e rfl, y⟩, l _ _ Z.c0 rfl, l _ _ Z.c1 rfl, l _ _ Z.c2 rfl, Z.ok⟩
theorem Pre.row {H1 : AH} (Z : Pre H L ra wc mo md wd mem i) (R1 : RowAt H1 ra) (l : Mod [ra] H H1) : Pre H1 L ra wc mo md wd mem i := by
  obtain ⟨ns, e, -⟩ := Z.R
  have g : ∀ {a : Addr} {o : AO}, H a = some o → (∀ vs, o ≠ .list vs) → H1 a = some o := fun ha ho => l _ _ (by simpa using ne_obs ha e (ho _)) ha
  exact ⟨let ⟨f, n, a, b, d⟩ := Z.MA; ⟨f, n, ⟨g a.o (by intro _ q; cases q), g a.d (by intro _ q; cases q), g a.w (by intro _ q; cases q)⟩, b, d⟩, let ⟨f, n, a, b⟩ := Z.W; ⟨f, n, g a (by intro _ q; cases q), b⟩, R1, g Z.c0 (by intro _ q; cases q), g Z.c1 (by intro _ q; cases q), g Z.c2 (by intro _ q; cases q), Z.ok⟩
end
theorem w_fill (C : c.Ok) {A : Around} (hr : Room 11 A (L :: S.map (·.1))) {mo md wd rw rl2 wc ra : Addr} {T : Nat} {P : List Ins} {rs : List Int}
    (hP : ∀ i ∈ P, i.Ok) (hl : P.length ≤ 1000) (hT : T ≤ 14) (hrs : rs.length = 16) (hrw : ∀ r ∈ rs, Wd r) (Z : Pre H L ra wc mo md wd (fun _ => 0) 0) (RW : RowsAt H rw P) (hrl : H rl2 = some (.list (rs.map fun i => .int i 0)))
    (n1 : ra ≠ rl2) (n2 : ra ≠ rw) (n3 : wd ≠ wc) {QL : Flow → Loc → AH → Prop} (h : ∀ m1 H1, QL (.ret (.bool true)) m1 H1) :
    XS c A (lawEnv L) NoE L S [("regs", .ref rl2), ("rows", .ref rw), ("turns_made", .int T 0), ("many", .int P.length 0)] ((bodyOf (st 38)).drop 7) H QL := by
  show XS c A (lawEnv L) NoE L S _ [_, _, _, _, _, _, _, _, _, _, _, _, _, _, _, _, _] H QL
  refine XS_cons (XE_for (Room.noh hr) ?_)
  have c0 := Z.c0
  walk_at "w"
  refine w_next C (by walk_at "room") Z.R fun H1 v R1 l1 v0 v1 => ?_
  have Z1 := Z.row R1 l1
  obtain ⟨N, hN, hN1⟩ : ∃ N : Nat, v % 6 = N ∧ N ≤ 5 := ⟨(v % 6).toNat, by omega, by omega⟩
  walk_at "w"
  rw [hN]
  refine CV_range1 fun rr hrr => ?_
  obtain ⟨sm, rs'⟩ := small_range (n := N) (by omega)
  refine ITER_range AH.set_self sm rs' fun it hit => ?_
  have lH : Le H1 ((H1.set rr (.range 0 N 1)).set it ((Sq.range 0 1 N).ao 0)) := (Le.refl.new hrr).new hit
  have hitH : H1 it = none := (sub_new hrr |> fun (l : Le H1 _) => l).free hit
  refine loop0 ⟨[ra, wd, wc], fun i H2 => ∃ mem, Pre H2 L ra wc mo md wd mem i, ?_⟩
  refine ⟨fun _ _ => trivial, ?_, ⟨rfl, _, Z1.keep lH⟩, ?_, ?_, ?_⟩
  · obtain ⟨ns, e, -⟩ := Z1.R
    obtain ⟨f, n, hm, -⟩ := Z1.MA
    obtain ⟨f', n', hw, -⟩ := Z1.W
    exact not3 (Ne.symm (ne_new e hitH)) (Ne.symm (ne_new hm.w hitH)) (Ne.symm (ne_new hw hitH))
  · rintro i m1 H2 H3 ⟨e, mem, Zi⟩ hK
    exact ⟨e, mem, Zi.keeps hK⟩
  · rintro i v m1 H2 hv ⟨rfl, mem, Zi⟩ hMd
    obtain ⟨hin, rfl⟩ := range_at hv
    have c0 := Zi.c0
    walk_at "w"
    refine w_next C (by walk_at "room") Zi.R fun H3 v3 R3 l3 v30 v31 => ?_
    have Z3 := Zi.row R3 l3
    clear c0
    have c0 := Z3.c0
    walk_at "w"
    refine w_word' C (by walk_at "room") R3 fun H4 w R4 l4 hw => ?_
    have Z4 := Z3.row R4 l4
    have c2 := Z4.c2
    obtain ⟨f, n, hm, hn, hf⟩ := Z4.MA
    obtain ⟨M1, M2, M3⟩ := id hm
    walk_at "w"
    obtain ⟨t, ht⟩ : ∃ t, v3 % 16 = t := ⟨_, rfl⟩
    rw [ht]
    refine w_put_word C (by walk_at "room") hm (by omega) (by omega) ?_
    have e1 : t * 4 / 4 = t := by omega
    have e2 : w % 4294967296 = w := Int.emod_eq_of_lt hw.1 hw.2
    rw [e1, e2]
    have ht0 : 0 ≤ t ∧ t < 16 := by omega
    obtain ⟨fc, nc, hc1, hc2, hc3⟩ := Z4.W
    have g : ∀ {a : Addr} {o : AO}, H4 a = some o → (∀ f n, o ≠ .idict f n) → (H4.set wd (.idict (putF f t (.int w 0)) (n + 1))) a = some o := fun ha ho => (AH.set_ne (ne_obs ha M3 (ho _ _))).trans ha
    have m5 : Mod [ra, wd, wc] H4 (H4.set wd (.idict (putF f t (.int w 0)) (n + 1))) := Mod.one (by simp)
    have MA5 : MemAt (H4.set wd (.idict (putF f t (.int w 0)) (n + 1))) mo md wd (putF f t (.int w 0)) (n + 1) := ⟨g M1 (by intro _ _ q; cases q), g M2 (by intro _ _ q; cases q), AH.set_self⟩
    have hc5 : (H4.set wd (.idict (putF f t (.int w 0)) (n + 1))) wc = some (.idict fc nc) := (AH.set_ne (Ne.symm n3)).trans hc1
    have R5 : RowAt (H4.set wd (.idict (putF f t (.int w 0)) (n + 1))) ra := let ⟨ns, e, y⟩ := Z4.R; ⟨ns, g e (by intro _ _ q; cases q), y⟩
    have d0 := g Z4.c0 (by intro _ _ q; cases q)
    have d1 := g Z4.c1 (by intro _ _ q; cases q)
    have d2 := g Z4.c2 (by intro _ _ q; cases q)
    have m25 : Mod [ra, wd, wc] H2 (H4.set wd (.idict (putF f t (.int w 0)) (n + 1))) := ((l3.trans l4).wider (by simp)).trans m5
    clear g m5 c2 c0
    generalize H4.set wd (.idict (putF f t (.int w 0)) (n + 1)) = H5 at MA5 hc5 R5 d0 d1 d2 m25
    walk_at "w"
    refine XE_for (Room.noh hr) ?_
    walk_at "w"
    refine CV_range1 fun rr2 hrr2 => ?_
    obtain ⟨sm2, rs2⟩ := small_range (n := 4) (by decide)
    refine ITER_range AH.set_self sm2 rs2 fun it2 hit2 => ?_
    have lI : Le H5 ((H5.set rr2 (.range 0 4 1)).set it2 ((Sq.range 0 1 4).ao 0)) := (Le.refl.new hrr2).new hit2
    have hitI : H5 it2 = none := (sub_new hrr2 |> fun (l : Le H5 _) => l).free hit2
    refine fill_loop (N := 4) (bs := t * 4) (x := w) (g := byteOf mem) (G := fun H6 => H6 (L + 1 + 1) = some (.cell (some (.ref wc)))) AH.set_self (by decide) (lI _ _ hc5) hc3 (lI _ _ d1) (fun H1 H2 a b => b _ _ a rfl) (fun H1 fi k fj j a b => (AH.set_ne (ne_obs a b (by intro q; cases q))).trans a) (fun j fj H6 QT hj k1 k3 hq => ?_) (by rfl) (fun H6 fj k1 k2 k3 hMd => ?_)
    · walk_at "w"
      refine B_div ⟨Int.pow_pos (by decide), pow256 (by omega)⟩ ?_
      walk_at "w"
      refine SETI_idict k1 (by omega) ?_
      walk_at "w"
      exact hq
    · have hM1 : Mod [wc] H5 H6 := Mod.base hitI lI hMd
      have g : ∀ {a : Addr} {o : AO}, H5 a = some o → (∀ f n, o ≠ .idict f n) → H6 a = some o := fun ha ho => hM1 _ _ (by simpa using ne_obs ha hc5 (ho _ _)) ha
      walk_at "w"
      refine ⟨m25.trans (hM1.wider (by simp)), _, SubL.cons (by kernel_rfl) (SubL.cons (by kernel_rfl) (SubL.cons (by kernel_rfl) SubL.refl)), rfl, fun j => if j = t then w else mem j, ?_⟩
      refine ⟨⟨_, _, ⟨g MA5.o (by intro _ _ q; cases q), g MA5.d (by intro _ _ q; cases q), hM1 _ _ (by simpa using n3) MA5.w⟩, by omega, putF_getD hf⟩, ⟨fj, _, k1, by omega, fun s h0 h1 => ?_⟩, let ⟨ns, e, y⟩ := R5; ⟨ns, g e (by intro _ _ q; cases q), y⟩, g d0 (by intro _ _ q; cases q), k3, g d2 (by intro _ _ q; cases q), fun j h0 h1 => ?_⟩
      · rw [k2 s h0 h1]
        show Value.int (if t * 4 ≤ s ∧ s < t * 4 + ((4 : Nat) : Int) then w / 256 ^ (s - t * 4).toNat % 256 else byteOf mem s) 0 = .int ((if s / 4 = t then w else mem (s / 4)) / 2 ^ (8 * (s % 4)).toNat % 256) 0
        by_cases q : s / 4 = t
        · rw [if_pos q, if_pos (by omega), str_bytes (x := w) (t := t * 4) (by omega) (by omega), e2]
        · rw [if_neg q, if_neg (by omega)]; rfl
      · show Wd (if j = t then w else mem j)
        by_cases q : j = t
        · rw [if_pos q]; exact hw
        · rw [if_neg q]; exact Z4.ok j h0 h1
  · rintro m1 H2 ⟨rfl, mem, Zf⟩ hMd
    have hlen : (Sq.range 0 1 N).xs.length = N := by simp [Sq.xs]
    rw [hlen] at Zf
    have m2 : Mod [ra, wd, wc] H H2 := (l1.wider (by simp)).trans (Mod.base hitH lH hMd)
    obtain ⟨ns, e0, -⟩ := Z.R
    obtain ⟨f0, k0, hm0, -⟩ := Z.MA
    obtain ⟨f1, k1, hw1, -⟩ := Z.W
    obtain ⟨f, n, hm, hn, hf⟩ := Zf.MA
    obtain ⟨fc, nc, hw, hnc, hfc⟩ := Zf.W
    refine Then_next ?_
    refine w_mach C hr (k := 20) hP hl hT (by decide) (by decide) Zf.ok hrs hrw hm (by omega) hf hw (by omega) hfc (RW.mod m2 (not3 (Ne.symm n2) ?_ ?_) fun a vs ha => not3 (ne_obs ha e0 (by intro q; cases q)) (ne_obs ha hm0.w (by intro q; cases q)) (ne_obs ha hw1 (by intro q; cases q))) (m2 _ _ (not3 (Ne.symm n1) (ne_obs hrl hm0.w (by intro q; cases q)) (ne_obs hrl hw1 (by intro q; cases q))) hrl) Zf.R Zf.c0 Zf.c1 Zf.c2 n1 n2 n3 h
    · obtain ⟨as, e, -⟩ := RW
      exact ne_obs e hm0.w (by intro q; cases q)
    · obtain ⟨as, e, -⟩ := RW
      exact ne_obs e hw1 (by intro q; cases q)
end
section
variable {c : Cx} {A : Around} {E : Value → Shared → Prop} {env : Env} {L : Addr} {S : Stk} {m : Loc} {H : AH} {s : Shared} {Q : Value → AH → Prop}
theorem w_store (C : c.Ok) {A : Around} (hr : Room 11 A (L :: S.map (·.1))) {rw ra : Addr} {T : Nat} {P : List Ins}
    (hP : ∀ i ∈ P, i.Ok) (hl : P.length ≤ 1000) (hT : T ≤ 14) (RA : RowAt H ra) (c0 : H (L + 1) = some (.cell (some (.ref ra)))) (c1 : H (L + 1 + 1) = some (.cell none)) (c2 : H (L + 1 + 1 + 1) = some (.cell none)) (RW : RowsAt H rw P)
    (n2 : ra ≠ rw) {QL : Flow → Loc → AH → Prop} (h : ∀ m1 H1, QL (.ret (.bool true)) m1 H1) :
    XS c A (lawEnv L) NoE L S [("rows", .ref rw), ("turns_made", .int T 0), ("many", .int P.length 0)] ((bodyOf (st 38)).drop 4) H QL := by
  show XS c A (lawEnv L) NoE L S _ [_, _, _, _, _, _, _, _, _, _, _, _, _, _, _, _, _, _, _, _] H QL
  have RAH := RA
  obtain ⟨ns, hra, -⟩ := RAH
  walk_at "w"
  refine EV_listcomp (Room.noh hr) ?_ (by rfl) (by decide +kernel) (by decide +kernel)
  walk_at "w"
  refine CV_range1 fun rr hrr => ?_
  obtain ⟨sm, rs'⟩ := small_range (n := 12) (by omega)
  refine ITER_range AH.set_self sm rs' fun it hit => ?_
  have l1 : Le H ((H.set rr (.range 0 12 1)).set it ((Sq.range 0 1 12).ao 0)) := (Le.refl.new hrr).new hit
  have hitH : H it = none := (sub_new hrr |> fun (l : Le H _) => l).free hit
  refine ⟨[ra], fun i ys H7 => ∃ ws : List Int, ys = ws.map (fun b => .int b 0) ∧ ws.length = i ∧ (∀ w ∈ ws, Wd w) ∧ RowAt H7 ra ∧ H7 (L + 1) = some (.cell (some (.ref ra))), ?_⟩
  refine ⟨fun _ _ => trivial, ?_, ?_, ?_, ⟨[], rfl, rfl, (fun w hw => by cases hw), (let ⟨ns, e, y⟩ := RA; ⟨ns, l1 _ _ e, y⟩), l1 _ _ c0⟩, ?_, ?_, ?_⟩
  · simpa using Ne.symm (ne_new hra hitH)
  · simp [Sq.xs]
  · intro b hb
    rw [List.mem_singleton.mp hb, l1 _ _ hra]; exact fun q => by cases q
  · rintro D i ys H7 H8 hD hD2 ⟨bs, q1, q2, q3, q6, q7⟩ hK
    have hDra : ra ≠ D := fun q => by
      rw [← q, l1 _ _ hra] at hD; cases hD
    have hDc : L + 1 ≠ D := fun q => by
      rw [← q, l1 _ _ c0] at hD; cases hD
    exact ⟨bs, q1, q2, q3, (let ⟨ns, e, y⟩ := q6; ⟨ns, hK _ _ hDra e rfl, y⟩), hK _ _ hDc q7 rfl⟩
  · rintro i v5 ys Cf H7 hv5 ⟨bs, rfl, q2, q3, q6, q7⟩ hMd
    refine EV_callg C g_law_word (EVs_cons (EV_cell (by rfl) q7 (EVs_nil ?_)))
    refine w_word' C (hr.less (k := 3) (by decide)).wider q6 fun H8 vv R8 l8 hvv => ?_
    have n0 : L + 1 ∉ [ra] := by
      obtain ⟨ns, e, _⟩ := q6
      simpa using ne_obs q7 e (by intro q; cases q)
    refine ⟨l8, bs ++ [vv], by rw [List.map_append]; rfl, by simp [q2], fun w hw => ?_, R8, l8 _ _ n0 q7⟩
    rcases List.mem_append.mp hw with q | q
    · exact q3 w q
    · rw [List.mem_singleton.mp q]; exact hvv
  rintro D ys H2 ⟨ws, rfl, q2, q3, R2, c02⟩ hlen hMd hD hD'
  have q2 : ws.length = 12 := by rw [q2]; simp [Sq.xs]
  have m2 : Mod [ra] H H2 := Mod.base hitH l1 hMd
  have c12 := m2 _ _ (by simpa using ne_obs c1 hra (by intro q; cases q)) c1
  have c22 := m2 _ _ (by simpa using ne_obs c2 hra (by intro q; cases q)) c2
  have RW2 : RowsAt H2 rw P := RW.mod m2 (by simpa using Ne.symm n2) fun a vs ha => by simpa using ne_obs ha hra (by intro q; cases q)
  clear hMd m2
  walk_at "w"
  refine ⟨by simp, fun t ht => ?_⟩
  refine BIN_list_add (sub_new ht _ _ hD') AH.set_self (by simp [q2]) fun rl2 hrl2 => ?_
  have e4 : ws.map (fun i => Value.int i 0) ++ [.int 8 0, .int 0 0, .int 4 0, .int 1 0] = (ws ++ [8, 0, 4, 1]).map fun i => Value.int i 0 := by rw [List.map_append]; rfl
  have l4 : Le H2 ((H2.set t (.list [.int 8 0, .int 0 0, .int 4 0, .int 1 0])).set rl2 (.list (ws.map (fun i => Value.int i 0) ++ [.int 8 0, .int 0 0, .int 4 0, .int 1 0]))) := (Le.refl.new ht).new hrl2
  have hrl4 : ((H2.set t (.list [.int 8 0, .int 0 0, .int 4 0, .int 1 0])).set rl2 (.list (ws.map (fun i => Value.int i 0) ++ [.int 8 0, .int 0 0, .int 4 0, .int 1 0]))) rl2 = some (.list ((ws ++ [8, 0, 4, 1]).map fun i => Value.int i 0)) := by rw [← e4]; exact AH.set_self
  have n1 : ra ≠ rl2 := by
    obtain ⟨ns, e, -⟩ := R2
    exact ne_new (sub_new ht _ _ e) hrl2
  generalize (H2.set t (.list [.int 8 0, .int 0 0, .int 4 0, .int 1 0])).set rl2 (.list (ws.map (fun i => Value.int i 0) ++ [.int 8 0, .int 0 0, .int 4 0, .int 1 0])) = H4 at l4 hrl4
  have R4 : RowAt H4 ra := let ⟨ns, e, y⟩ := R2; ⟨ns, l4 _ _ e, y⟩
  have RW4 : RowsAt H4 rw P := let ⟨as, a, b, d⟩ := RW2; ⟨as, l4 _ _ a, b, fun i y ins e1 e2 => l4 _ _ (d i y ins e1 e2)⟩
  have c04 := l4 _ _ c02
  have c14 := l4 _ _ c12
  have c24 := l4 _ _ c22
  clear l4 R2 RW2 c02 c12 c22
  walk_at "w"
  refine XE_assign_cell (a := L + 1 + 1) (by rfl) ?_
  refine EV_dict0 fun wc hwc => ⟨none, sub_new hwc _ _ c14, Then_next ?_⟩
  have n5 : wc ≠ L + 1 + 1 := Ne.symm (ne_new c14 hwc)
  have g5 : ∀ {a : Addr} {o : AO}, a ≠ L + 1 + 1 → H4 a = some o → ((H4.set wc (.idict (fun _ => none) 0)).set (L + 1 + 1) (.cell (some (.ref wc)))) a = some o := fun ha h => (AH.set_ne ha).trans (sub_new hwc _ _ h)
  have c05 := g5 (Ne.symm (Nat.succ_ne_self _)) c04
  have c25 := g5 (Nat.succ_ne_self _) c24
  have R5 : RowAt ((H4.set wc (.idict (fun _ => none) 0)).set (L + 1 + 1) (.cell (some (.ref wc)))) ra := let ⟨ns, e, y⟩ := R4; ⟨ns, g5 (ne_obs e c14 (by intro q; cases q)) e, y⟩
  have hrl5 := g5 (ne_obs hrl4 c14 (by intro q; cases q)) hrl4
  have RW5 : RowsAt ((H4.set wc (.idict (fun _ => none) 0)).set (L + 1 + 1) (.cell (some (.ref wc)))) rw P := let ⟨as, a, b, d⟩ := RW4; ⟨as, g5 (ne_obs a c14 (by intro q; cases q)) a, b, fun i y ins e1 e2 => g5 (ne_obs (d i y ins e1 e2) c14 (by intro q; cases q)) (d i y ins e1 e2)⟩
  have c15 : ((H4.set wc (.idict (fun _ => none) 0)).set (L + 1 + 1) (.cell (some (.ref wc)))) (L + 1 + 1) = some (.cell (some (.ref wc))) := AH.set_self
  have hw5 : ((H4.set wc (.idict (fun _ => none) 0)).set (L + 1 + 1) (.cell (some (.ref wc)))) wc = some (.idict (fun _ => none) 0) := (AH.set_ne n5).trans AH.set_self
  generalize (H4.set wc (.idict (fun _ => none) 0)).set (L + 1 + 1) (.cell (some (.ref wc))) = H5 at c05 c25 R5 hrl5 RW5 c15 hw5
  clear g5 R4 RW4 c04 c14 c24 hrl4
  walk_at "w"
  refine XE_assign_cell (a := L + 1 + 1 + 1) (by rfl) ?_
  walk_at "w"
  refine w_Mem C (by walk_at "room") fun H6 mo md wd a1 a2 a3 MA l6 => ⟨none, l6 _ _ c25, Then_next ?_⟩
  have c26 := l6 _ _ c25
  have g7 : ∀ {a : Addr} {o : AO}, (∀ v, o ≠ .cell v) → H6 a = some o → (H6.set (L + 1 + 1 + 1) (.cell (some (.ref mo)))) a = some o := fun ha h => (AH.set_ne (ne_obs h c26 (ha _))).trans h
  have c07 : (H6.set (L + 1 + 1 + 1) (.cell (some (.ref mo)))) (L + 1) = _ := (AH.set_ne (by show L + 1 ≠ L + 1 + 1 + 1; exact Nat.ne_of_lt (Nat.lt_succ_of_lt (Nat.lt_succ_self _)))).trans (l6 _ _ c05)
  have c17 : (H6.set (L + 1 + 1 + 1) (.cell (some (.ref mo)))) (L + 1 + 1) = _ := (AH.set_ne (Ne.symm (Nat.succ_ne_self _))).trans (l6 _ _ c15)
  have R7 : RowAt (H6.set (L + 1 + 1 + 1) (.cell (some (.ref mo)))) ra := let ⟨ns, e, y⟩ := R5; ⟨ns, g7 (by intro _ q; cases q) (l6 _ _ e), y⟩
  have RW7 : RowsAt (H6.set (L + 1 + 1 + 1) (.cell (some (.ref mo)))) rw P := let ⟨as, a, b, d⟩ := RW5; ⟨as, g7 (by intro _ q; cases q) (l6 _ _ a), b, fun i y ins e1 e2 => g7 (by intro _ q; cases q) (l6 _ _ (d i y ins e1 e2))⟩
  refine X.loc (m' := [("regs", .ref rl2), ("rows", .ref rw), ("turns_made", .int T 0), ("many", .int P.length 0)]) ?_ ?_
  · refine w_fill C hr hP hl hT (by simp [q2]) ?_ ⟨⟨_, _, ⟨g7 (by intro _ q; cases q) MA.o, g7 (by intro _ q; cases q) MA.d, g7 (by intro _ q; cases q) MA.w⟩, Nat.le_refl _, fun _ _ _ => rfl⟩, ⟨_, _, g7 (by intro _ q; cases q) (l6 _ _ hw5), Nat.zero_le _, fun s _ _ => ?_⟩, R7, c07, c17, AH.set_self, fun _ _ _ => ⟨by decide, by decide⟩⟩ RW7 (g7 (by intro _ q; cases q) (l6 _ _ hrl5)) n1 n2 (Ne.symm (ne_new hw5 a3)) h
    · intro r hr
      rcases List.mem_append.mp hr with q | q
      · exact q3 r q
      · simp only [List.mem_cons, List.not_mem_nil, or_false] at q
        rcases q with rfl | rfl | rfl | rfl <;> exact ⟨by decide, by decide⟩
    · show Value.int 0 0 = .int (0 / 2 ^ (8 * (s % 4)).toNat % 256) 0
      rw [Int.zero_ediv]; rfl
  · walk_at "sub"
end
section
variable {c : Cx} {A : Around} {E : Value → Shared → Prop} {env : Env} {L : Addr} {S : Stk} {m : Loc} {H : AH} {s : Shared} {Q : Value → AH → Prop}
theorem w_law (C : c.Ok) (hr : Room 12 A (S.map (·.1))) {sa : Addr} {xs : List Int} (hx : xs.length ≤ 63) (hs : ScriptAt c sa xs) (h : ∀ H1, Q (.bool true) H1) : CV c A E S (.ref 356) [.ref sa] H Q := by
  refine CV_topC C 356 (st 38) "law" (.str "law_pb0343_01" 592) (.ref 355) .none ["script"] (fun x => none) [("script", .ref sa)] (by rfl) (by kernel_rfl) (by kernel_rfl) hr ?_ ?_ ?_ ?_ ?_ (fun L A' rm hc => ?_)
  · intro xs e
    obtain ⟨x, rfl, e1⟩ := er1 e
    rfl
  · intro k x hx
    simp only [List.mem_cons, List.not_mem_nil, or_false] at hx
    subst hx
    exact .inl (by rfl)
  · intro k p hp
    have hp' : p ∈ [((Str.ofString "store_x"), k + 1 + 1), ((Str.ofString "cells"), k + 1), ((Str.ofString "row"), k)] := hp
    simp only [List.mem_cons, List.not_mem_nil, or_false] at hp'
    rcases hp' with rfl | rfl | rfl <;> rfl
  · intro ys e x v hv
    obtain ⟨y, rfl, e1⟩ := er1 e
    have := mem_of_lookup hv
    simp only [List.mem_cons, List.not_mem_nil, or_false, Prod.mk.injEq] at this
    obtain ⟨rfl, rfl⟩ := this
    exact ⟨y, by rfl, e1⟩
  · intro ys e x
    obtain ⟨y, rfl, e1⟩ := er1 e
    rfl
  generalize hcs : cellsFrom _ _ _ = cs at hc
  have hcs' : cs = lawCells L := by rw [← hcs]; rfl
  clear hcs
  subst hcs'
  have k1 : (withCells (lawCells L) (fun x => none) H) (L + 1) = some (.cell none) := by
    unfold withCells lawCells
    rw [List.find?_cons, beq_eq_false_iff_ne.mpr (by show L + 1 + 1 + 1 ≠ L + 1; exact Nat.ne_of_gt (Nat.lt_succ_of_lt (Nat.lt_succ_self _))), List.find?_cons, beq_eq_false_iff_ne.mpr (Nat.succ_ne_self _), List.find?_cons, beq_self_eq_true]
  have k2 : (withCells (lawCells L) (fun x => none) H) (L + 1 + 1) = some (.cell none) := by
    unfold withCells lawCells
    rw [List.find?_cons, beq_eq_false_iff_ne.mpr (Nat.succ_ne_self _), List.find?_cons, beq_self_eq_true]
  have k3 : (withCells (lawCells L) (fun x => none) H) (L + 1 + 1 + 1) = some (.cell none) := by
    unfold withCells lawCells
    rw [List.find?_cons, beq_self_eq_true]
  generalize withCells (lawCells L) (fun x => none) H = H0 at k1 k2 k3
  walk_at "w"
  refine XE_assign_cell (a := L + 1) (by rfl) ?_
  walk_at "w"
  refine w_lrow C (by walk_at "room") hx hs.read fun H1 ra hra R1 l1 => ⟨none, l1 _ _ k1, Then_next ?_⟩
  have a1 : ra ≠ L + 1 := fun q => by rw [q, k1] at hra; cases hra
  have a2 : ra ≠ L + 1 + 1 := fun q => by rw [q, k2] at hra; cases hra
  have a3 : ra ≠ L + 1 + 1 + 1 := fun q => by rw [q, k3] at hra; cases hra
  have R2 : RowAt (H1.set (L + 1) (.cell (some (.ref ra)))) ra := let ⟨ns, e, y⟩ := R1; ⟨ns, (AH.set_ne a1).trans e, y⟩
  have j1 : (H1.set (L + 1) (.cell (some (.ref ra)))) (L + 1) = some (.cell (some (.ref ra))) := AH.set_self
  have j2 : (H1.set (L + 1) (.cell (some (.ref ra)))) (L + 1 + 1) = some (.cell none) := (AH.set_ne (Nat.succ_ne_self _)).trans (l1 _ _ k2)
  have j3 : (H1.set (L + 1) (.cell (some (.ref ra)))) (L + 1 + 1 + 1) = some (.cell none) := (AH.set_ne (by show L + 1 + 1 + 1 ≠ L + 1; exact Nat.ne_of_gt (Nat.lt_succ_of_lt (Nat.lt_succ_self _)))).trans (l1 _ _ k3)
  generalize H1.set (L + 1) (.cell (some (.ref ra))) = H2 at R2 j1 j2 j3
  refine XS_cons (XE_assign (EV_BinOp (EV_int (EV_BinOp ?_))))
  refine EV_callg C g_law_next (EVs_cons (EV_cell (by rfl) j1 (EVs_nil ?_)))
  refine w_next C (by walk_at "room") R2 fun H3 v3 R3 l3 v30 v31 => ?_
  walk_at "w"
  have n1 : L + 1 ∉ [ra] := by simpa using Ne.symm a1
  have n2 : L + 1 + 1 ∉ [ra] := by simpa using Ne.symm a2
  have n3 : L + 1 + 1 + 1 ∉ [ra] := by simpa using Ne.symm a3
  have i1 := l3 _ _ n1 j1
  have i2 := l3 _ _ n2 j2
  have i3 := l3 _ _ n3 j3
  walk_at "w"
  refine w_next C (by walk_at "room") R3 fun H4 v4 R4 l4 v40 v41 => ?_
  have g1 := l4 _ _ n1 i1
  have g2 := l4 _ _ n2 i2
  have g3 := l4 _ _ n3 i3
  obtain ⟨N, hN, hN1⟩ : ∃ N : Nat, 1 + v3 % 10 = N ∧ N ≤ 10 := ⟨(1 + v3 % 10).toNat, by omega, by omega⟩
  obtain ⟨T, hT, hT1⟩ : ∃ T : Nat, 1 + v4 % 14 = T ∧ T ≤ 14 := ⟨(1 + v4 % 14).toNat, by omega, by omega⟩
  rw [hN]
  walk_at "w"
  rw [hT]
  refine XE_assign_comp (Room.noh rm) ?_ (by rfl) (by decide +kernel) (by decide +kernel)
  walk_at "w"
  refine CV_range1 fun rr hrr => ?_
  obtain ⟨sm, rs⟩ := small_range (n := N) (by omega)
  refine ITER_range AH.set_self sm rs fun it hit => ?_
  have l5 : Le H4 ((H4.set rr (.range 0 N 1)).set it ((Sq.range 0 1 N).ao 0)) := (Le.refl.new hrr).new hit
  have hitH : H4 it = none := (sub_new hrr |> fun (l : Le H4 _) => l).free hit
  have hra4 : it ≠ ra := fun q => by obtain ⟨ns, e, -⟩ := R4; rw [q, e] at hitH; cases hitH
  refine ⟨[ra], fun i ys H5 => ∃ as Ps, ys = (as : List Addr).map Value.ref ∧ as.length = i ∧ (Ps : List Ins).length = i ∧ (∀ p ∈ Ps, p.Ok) ∧ (∀ (j : Nat) a p, as[j]? = some a → Ps[j]? = some p → H5 a = some (.tuple p.vals)) ∧ RowAt H5 ra ∧ H5 (L + 1) = some (.cell (some (.ref ra))), ?_⟩
  refine ⟨fun _ _ => trivial, by simpa using hra4, ?_, ?_, ⟨[], [], rfl, rfl, rfl, (fun p hp => by cases hp), (fun j a p e => by simp at e), (let ⟨ns, e, y⟩ := R4; ⟨ns, l5 _ _ e, y⟩), l5 _ _ g1⟩, ?_, ?_, ?_⟩
  · simp [Sq.xs]; omega
  · intro b hb
    have hb : b = ra := by simpa using hb
    subst hb
    obtain ⟨ns, e, -⟩ := R4
    rw [l5 _ _ e]; exact fun q => by cases q
  · rintro D i ys H5 H6 hD hD2 ⟨as, Ps, q1, q2, q3, q4, q5, q6, q7⟩ hK
    have hDra : ra ≠ D := fun q => by
      obtain ⟨ns, e, -⟩ := R4
      rw [← q, l5 _ _ e] at hD; cases hD
    refine ⟨as, Ps, q1, q2, q3, q4, fun j a p e1 e2 => hK _ _ (fun q => ?_) (q5 j a p e1 e2) rfl, (let ⟨ns, e, y⟩ := q6; ⟨ns, hK _ _ hDra e rfl, y⟩), hK _ _ (fun q => ?_) q7 rfl⟩
    · have := q5 j a p e1 e2
      rw [q] at this
      obtain ⟨l, hl⟩ := hD2 _ this
      cases hl
    · rw [q] at q7
      obtain ⟨l, hl⟩ := hD2 _ q7
      cases hl
  · rintro i v5 ys Cf H5 hv5 ⟨as, Ps, rfl, q2, q3, q4, q5, q6, q7⟩ hMd
    refine EV_callg C g_law_made (EVs_cons (EV_cell (by rfl) q7 (EVs_nil ?_)))
    refine w_made C ((rm.less (k := 3) (by decide)).wider) q6 fun H6 ua ins hins hua R6 l6 => ?_
    have hnt : ∀ b vs, H5 b = some (.tuple vs) → b ∉ [ra] := fun b vs hb q => by
      have q : b = ra := by simpa using q
      obtain ⟨ns, e, -⟩ := q6
      rw [q, e] at hb; cases hb
    refine ⟨l6, as ++ [ua], Ps ++ [ins], by rw [List.map_append]; rfl, by simp [q2], by simp [q3], fun p hp => ?_, fun j b p e1 e2 => ?_, R6, l6 _ _ n1 q7⟩
    · rcases List.mem_append.mp hp with q | q
      · exact q4 p q
      · rw [List.mem_singleton.mp q]; exact hins
    · by_cases hj : j < i
      · rw [List.getElem?_append_left (by omega)] at e1 e2
        exact l6 _ _ (hnt _ _ (q5 j b p e1 e2)) (q5 j b p e1 e2)
      · have hj2 : j = i := by
          have := (List.getElem?_eq_some_iff.mp e1).1
          simp [q2] at this; omega
        subst hj2
        rw [List.getElem?_append_right (by omega)] at e1 e2
        simp [q2, q3] at e1 e2
        subst e1 e2; exact hua
  rintro rw ys H5 ⟨as, Ps, rfl, q2, q3, q4, q5, q6, q7⟩ hlen5 hMd hrw hrw'
  have hlen1 : (Sq.range 0 1 N).xs.length = N := by simp [Sq.xs]
  rw [hlen1] at q2 q3
  have hlen5' : Ps.length = N := q3
  have m5 : Mod [ra] H4 H5 := Mod.base hitH l5 hMd
  have RW : RowsAt H5 rw Ps := ⟨as, hrw', by omega, q5⟩
  have f2 := m5 _ _ n2 g2
  have f3 := m5 _ _ n3 g3
  have f1 : H5 (L + 1) = some (.cell (some (.ref ra))) := q7
  have nrw : ra ≠ rw := by
    intro q
    obtain ⟨ns, e, -⟩ := R4
    rw [← q, l5 _ _ e] at hrw; cases hrw
  subst hlen5'
  refine Then_next ?_
  refine X.loc (m' := [("rows", .ref rw), ("turns_made", .int T 0), ("many", .int Ps.length 0)]) ?_ ?_
  · exact w_store C rm q4 (by omega) hT1 q6 f1 f2 f3 RW nrw fun m1 H1 => h H1
  · walk_at "sub"
end
section
variable {c : Cx} {A : Around} {E : Value → Shared → Prop} {env : Env} {L : Addr} {S : Stk} {m : Loc} {H : AH} {s : Shared} {Q : Value → AH → Prop}
open PySem.W in
theorem has_int {R : WRecords} {d : WData} (h : WShape.has R d .int = true) : ∃ i, d = .int i := by
  cases d <;> first | exact ⟨_, rfl⟩ | exact Bool.noConfusion (show false = true from h)
open PySem.W in
theorem items_int {R : WRecords} (ds : List WData) : WShape.hasItems R ds .int = true → ∃ xs : List Int, ds = xs.map .int := by
  induction ds with
  | nil => exact fun _ => ⟨[], rfl⟩
  | cons d ds ih =>
    intro h
    have h : (WShape.has R d .int && WShape.hasItems R ds .int) = true := h
    obtain ⟨h1, h2⟩ := Bool.and_eq_true_iff.mp h
    obtain ⟨i, rfl⟩ := has_int h1
    obtain ⟨xs, rfl⟩ := ih h2
    exact ⟨i :: xs, rfl⟩
open PySem.W in
theorem has_list {R : WRecords} {d : WData} (h : WShape.has R d (.list .int) = true) : ∃ xs : List Int, d = .list (xs.map .int) := by
  cases d with
  | list ds =>
    have h' : (WShape.hasItems R ds .int || false) = true := h
    rw [Bool.or_false] at h'
    obtain ⟨xs, rfl⟩ := items_int ds h'
    exact ⟨xs, rfl⟩
  | _ => exact Bool.noConfusion (show false = true from h)
open PySem.W in
theorem pre_at {args : List WData} (h : PySem.Challenge.rw_pb0343_01.row.toRowW.claim.pre args = true) : ∃ xs : List Int, args = [.list (xs.map .int)] ∧ xs.length ≤ 63 := by
  have h : (WShape.hasAll [] args [.list .int] && WTm.holds [] (.and (.not (.lt (.lit (.int 63)) (.len (.arg 0)))) (.lit (.bool true))) { args := args }) = true := h
  obtain ⟨h1, h2⟩ := Bool.and_eq_true_iff.mp h
  cases args with
  | nil => cases h1
  | cons d r =>
    have h1 : (WShape.has [] d (.list .int) && WShape.hasAll [] r []) = true := h1
    obtain ⟨h3, h4⟩ := Bool.and_eq_true_iff.mp h1
    obtain ⟨xs, rfl⟩ := has_list h3
    cases r with
    | cons d2 r2 => exact Bool.noConfusion (show false = true from h4)
    | nil =>
      refine ⟨xs, rfl, ?_⟩
      by_cases q : xs.length ≤ 63
      · exact q
      · exfalso
        have e : less? (.int 63) (.int (xs.length : Int)) = some true := by
          show some (decide ((63 : Int) < xs.length)) = some true
          rw [decide_eq_true (by omega)]
        simp [WTm.holds, WTm.value, e] at h2
open PySem.W in
theorem reads_ints {R : WRecords} {cl : Str → Option Addr} {h : Heap} : ∀ {xs : List Int} {vs : List Value} {as : List Addr}, ReadsAllW R cl h vs (xs.map .int) as → vs.map er = xs.map fun i => .int i 0
  | [], _, _, .nil => rfl
  | i :: xs, _, _, .cons r1 r2 => by
    cases r1
    rw [List.map_cons, reads_ints r2]; rfl
open PySem.W in
theorem walk_law {q : Program} {loose : List Str} {XP : (Str → Option Value) → Heap → Prop} {d : DefRec} {kwd : List (Str × Expr)} (hd : d.name = "law") : WalkO q loose XP (kHook KK KA KA_eq).says PySem.Challenge.rw_pb0343_01.row.toRowW d kwd fun f vs => call f vs := by
  intro w s₀ s₁ mg mb G Y a o pm cd doc dV kV hget hdata hcode hD hmg hgens args vals as hpre hlay hrd hwl hlo
  obtain ⟨xs, rfl, hx⟩ := pre_at hpre
  have kin : (KK w.params).In s₁.heap := kIn_of Y
  have C : Cx.Ok ⟨w, s₁.heap, s₁.gens, s₁.drawn, s₁.os⟩ := ⟨kin, _, _, mg, mb, topRead_of G.T⟩
  have e356 : mg "law" = some (.ref 356) := mg_of kin G.T.g (by kernel_rfl)
  have ha : a = 356 := by
    rw [hd, e356] at hmg
    injection hmg with hmg
    injection hmg with hmg
    exact hmg.symm
  subst ha
  cases hrd with
  | cons r1 r2 =>
    cases r2
    cases r1 with
    | @list sa ob vs n _ as g1 g2 g3 g4 =>
      have hs : ScriptAt ⟨w, s₁.heap, s₁.gens, s₁.drawn, s₁.os⟩ sa xs := ⟨vs, ⟨_, g1, g2, n, g3⟩, reads_ints g4⟩
      have z : St ⟨w, s₁.heap, s₁.gens, s₁.drawn, s₁.os⟩ [] (fun _ => none) s₁ := ⟨fun _ _ e => e, Nat.le_refl _, (fun p hp => by cases hp), List.nodup_nil, (fun a o e => by cases e), rfl, rfl, rfl⟩
      have hr : Room 12 callerA (([] : Stk).map (·.1)) := ⟨by decide +kernel, by decide +kernel, rfl, [], rfl, fun e he => by cases he⟩
      refine wpAny_mono (w_law C hr hx hs (Q := fun v H1 => v = .bool true) (fun _ => rfl) [.ref sa] rfl s₁ z) (fun v s' ⟨H', z', e⟩ => ?_) fun e s' h => h
      obtain rfl := er_bool e
      refine GoodW.toG ⟨.inl ⟨.bool true, .bool true, [], rfl, fun cls => rfl, .bool true, ?_, fun _ => ⟨List.nodup_nil, fun a ha => by cases ha⟩⟩, z'.keep, z'.os, z'.gens.trans hgens⟩
      show (WShape.has [] (.bool true) .bool && WTm.holds [] (.eq .res (.lit (.bool true))) { args := [.list (xs.map .int)], res := some (.bool true), after := [.list (xs.map .int)] }) = true
      have e1 : same (.bool true) (.bool true) = true := by kernel_rfl
      show (true && WTm.holds [] (.eq .res (.lit (.bool true))) { args := [.list (xs.map .int)], res := some (.bool true), after := [.list (xs.map .int)] }) = true
      simp [WTm.holds, WTm.value, e1]
end
theorem walk_all : WalkAll := by
  intro q loose XP d kwd h
  exact walk_law h
end Mine
end
theorem PySem.Challenge.cw_pb0343_01_holds : PySem.Challenge.rw_pb0343_01.Holds := by
  exact Mine.head Mine.walk_all
