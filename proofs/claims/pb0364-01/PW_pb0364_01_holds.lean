import PyProof.Rows.All
import Wide.All
import OpenK.AllK
import Wide.FinOn
import PySem.Challenge.RW_pb0364_01
set_option Elab.async false
set_option linter.unusedSectionVars false
set_option linter.unusedVariables false
section
open PySem PySem.W PyProof.Rows
namespace Mine
namespace hd
/-- the program's statements by their places -/
def st (i : Nat) : Stmt := (PySem.Challenge.rw_pb0364_01.row.prog.main.body[i]?).getD (.Pass ⟨0, 0, 0, 0⟩)
def sb (i j : Nat) : Stmt := match st i with
  | .ClassDef _ _ _ b _ _ _ _ _ _ _ => (b[j]?).getD (.Pass ⟨0, 0, 0, 0⟩)
  | _ => .Pass ⟨0, 0, 0, 0⟩
/-- a def's object -/
def fO (t : Stmt) (q : String) (c : Nat) (dV : Value) (md : String) (mt : Nat) : Obj := match t with
  | .FunctionDef n ps b _ _ _ sc _ _ _ => { cls := .type "function", data := .func (FuncData.mk n (Str.ofString q) ps (.stmts b) sc 3 [] dV .none .none (.str (Str.ofString md) mt) none (.ref c) .none 0) }
  | _ => { cls := .none, data := .seq #[] }
/-- a def's code object -/
def cO (n q : String) (t l k : Nat) (a b c d e f : Value) (u v : Nat) : Obj :=
  { cls := .type "code", data := .fields #[.str (Str.ofString n) t, .str (Str.ofString q) (t + 1), .str (Str.ofString "/claim/cut.py") (t + 2), .int (l : Int) 0, .int (k : Int) 0, .int 0 0, .int 0 0, .int 3 0, a, .bool true, .int 181 0, b, c, d, e, f, .int (u : Int) 0, .int (l : Int) 0, .str (Str.ofString "/claim/cut.py") v] }
abbrev s (x : String) : Str := Str.ofString x
abbrev o (a b c d : Nat) : Pos := ⟨a, b, c, d⟩
/-- what law reaches of the heap behind the program's top -/
noncomputable def heap_39 (P : Params) : Frag :=
  (nat_lit 3,Obj.mk (Value.type "dict") Option.none (Data.dict #[DictEntry.mk (PyData.keyHash P (s "__name__")) (Value.str (s "__name__") 165) (Value.str (s "law_pb0364_01") 765),DictEntry.mk (PyData.keyHash P (s "__doc__")) (Value.str (s "__doc__") 166) Value.none,DictEntry.mk (PyData.keyHash P (s "__package__")) (Value.str (s "__package__") 167) Value.none,DictEntry.mk (PyData.keyHash P (s "__loader__")) (Value.str (s "__loader__") 168) (Value.builtin "__main__.__loader__#opaque"),DictEntry.mk (PyData.keyHash P (s "__spec__")) (Value.str (s "__spec__") 169) Value.none,DictEntry.mk (PyData.keyHash P (s "__annotations__")) (Value.str (s "__annotations__") 170) (Value.ref 6),DictEntry.mk (PyData.keyHash P (s "__builtins__")) (Value.str (s "__builtins__") 171) (Value.ref 4),DictEntry.mk (PyData.keyHash P (s "__file__")) (Value.str (s "__file__") 173) (Value.str (s "/claim/cut.py") 172),DictEntry.mk (PyData.keyHash P (s "__cached__")) (Value.str (s "__cached__") 174) Value.none,DictEntry.mk (PyData.keyHash P (s "param_words")) (Value.str (s "param_words") 195) (Value.ref 21),DictEntry.mk (PyData.keyHash P (s "place_params")) (Value.str (s "place_params") 205) (Value.ref 28),DictEntry.mk (PyData.keyHash P (s "ObjectFile")) (Value.str (s "ObjectFile") 249) (Value.ref 45),DictEntry.mk (PyData.keyHash P (s "Type")) (Value.str (s "Type") 293) (Value.ref 66),DictEntry.mk (PyData.keyHash P (s "Obj")) (Value.str (s "Obj") 338) (Value.ref 87),DictEntry.mk (PyData.keyHash P (s "Interface")) (Value.str (s "Interface") 380) (Value.ref 115),DictEntry.mk (PyData.keyHash P (s "Types")) (Value.str (s "Types") 439) (Value.ref 151),DictEntry.mk (PyData.keyHash P (s "host_names")) (Value.str (s "host_names") 447) (Value.ref 162),DictEntry.mk (PyData.keyHash P (s "host_key")) (Value.str (s "host_key") 456) (Value.ref 169),DictEntry.mk (PyData.keyHash P (s "host_calls")) (Value.str (s "host_calls") 463) (Value.ref 176),DictEntry.mk (PyData.keyHash P (s "parameter")) (Value.str (s "parameter") 474) (Value.ref 184),DictEntry.mk (PyData.keyHash P (s "open_text")) (Value.str (s "open_text") 484) (Value.ref 191),DictEntry.mk (PyData.keyHash P (s "host_params")) (Value.str (s "host_params") 494) (Value.ref 198),DictEntry.mk (PyData.keyHash P (s "host_proc")) (Value.str (s "host_proc") 507) (Value.ref 205),DictEntry.mk (PyData.keyHash P (s "host_interface")) (Value.str (s "host_interface") 519) (Value.ref 212),DictEntry.mk (PyData.keyHash P (s "system_interface")) (Value.str (s "system_interface") 529) (Value.ref 219),DictEntry.mk (PyData.keyHash P (s "host_rows")) (Value.str (s "host_rows") 539) (Value.ref 226),DictEntry.mk (PyData.keyHash P (s "conditions")) (Value.str (s "conditions") 547) (Value.ref 233),DictEntry.mk (PyData.keyHash P (s "operations")) (Value.str (s "operations") 553) (Value.ref 240),DictEntry.mk (PyData.keyHash P (s "memory_names")) (Value.str (s "memory_names") 559) (Value.ref 247),DictEntry.mk (PyData.keyHash P (s "is_whole")) (Value.str (s "is_whole") 568) (Value.ref 254),DictEntry.mk (PyData.keyHash P (s "is_register")) (Value.str (s "is_register") 575) (Value.ref 261),DictEntry.mk (PyData.keyHash P (s "immediate_operation")) (Value.str (s "immediate_operation") 582) (Value.ref 268),DictEntry.mk (PyData.keyHash P (s "operation_fault")) (Value.str (s "operation_fault") 593) (Value.ref 275),DictEntry.mk (PyData.keyHash P (s "memory_fault")) (Value.str (s "memory_fault") 600) (Value.ref 282),DictEntry.mk (PyData.keyHash P (s "branch_fault")) (Value.str (s "branch_fault") 611) (Value.ref 289),DictEntry.mk (PyData.keyHash P (s "row_fault")) (Value.str (s "row_fault") 619) (Value.ref 296),DictEntry.mk (PyData.keyHash P (s "WORD")) (Value.str (s "WORD") 623) (Value.int 4294967296 622),DictEntry.mk (PyData.keyHash P (s "is_call")) (Value.str (s "is_call") 630) (Value.ref 303),DictEntry.mk (PyData.keyHash P (s "ends_way")) (Value.str (s "ends_way") 637) (Value.ref 310),DictEntry.mk (PyData.keyHash P (s "row_faults")) (Value.str (s "row_faults") 646) (Value.ref 317),DictEntry.mk (PyData.keyHash P (s "imported_calls")) (Value.str (s "imported_calls") 658) (Value.ref 324),DictEntry.mk (PyData.keyHash P (s "target_faults")) (Value.str (s "target_faults") 670) (Value.ref 331),DictEntry.mk (PyData.keyHash P (s "map_faults")) (Value.str (s "map_faults") 681) (Value.ref 338),DictEntry.mk (PyData.keyHash P (s "is_word_offset")) (Value.str (s "is_word_offset") 689) (Value.ref 345),DictEntry.mk (PyData.keyHash P (s "reference_fault")) (Value.str (s "reference_fault") 698) (Value.ref 352),DictEntry.mk (PyData.keyHash P (s "data_faults")) (Value.str (s "data_faults") 711) (Value.ref 359),DictEntry.mk (PyData.keyHash P (s "takes_fixup")) (Value.str (s "takes_fixup") 719) (Value.ref 366),DictEntry.mk (PyData.keyHash P (s "fixup_faults")) (Value.str (s "fixup_faults") 732) (Value.ref 373),DictEntry.mk (PyData.keyHash P (s "entry_faults")) (Value.str (s "entry_faults") 745) (Value.ref 380),DictEntry.mk (PyData.keyHash P (s "import_faults")) (Value.str (s "import_faults") 756) (Value.ref 387),DictEntry.mk (PyData.keyHash P (s "check_object")) (Value.str (s "check_object") 764) (Value.ref 394),DictEntry.mk (PyData.keyHash P (s "_law_row")) (Value.str (s "_law_row") 777) (Value.ref 401),DictEntry.mk (PyData.keyHash P (s "_law_next")) (Value.str (s "_law_next") 784) (Value.ref 408),DictEntry.mk (PyData.keyHash P (s "_law_holds")) (Value.str (s "_law_holds") 799) (Value.ref 415),DictEntry.mk (PyData.keyHash P (s "_law_plus")) (Value.str (s "_law_plus") 806) (Value.ref 422),DictEntry.mk (PyData.keyHash P (s "_law_act")) (Value.str (s "_law_act") 822) (Value.ref 429),DictEntry.mk (PyData.keyHash P (s "_law_got")) (Value.str (s "_law_got") 828) (Value.ref 434),DictEntry.mk (PyData.keyHash P (s "_law_step")) (Value.str (s "_law_step") 847) (Value.ref 441),DictEntry.mk (PyData.keyHash P (s "_law_table")) (Value.str (s "_law_table") 854) (Value.ref 448),DictEntry.mk (PyData.keyHash P (s "law")) (Value.str (s "law") 860) (Value.ref 453)] 60) #[]) ::
  (nat_lit 20,cO "param_words" "param_words" 189 2 1 (Value.ref 15) (Value.ref 16) Value.none (Value.ref 17) (Value.ref 18) (Value.ref 19) 193 194) ::
  (nat_lit 21,fO (st 1) "param_words" 20 Value.none "moduleyard.layout" 187) ::
  (nat_lit 27,cO "place_params" "place_params" 196 7 2 (Value.ref 22) (Value.ref 23) Value.none (Value.ref 24) (Value.ref 25) (Value.ref 26) 203 204) ::
  (nat_lit 28,fO (st 2) "place_params" 27 Value.none "moduleyard.layout" 187) ::
  (nat_lit 41,cO "__init__" "ObjectFile.__init__" 220 18 3 (Value.ref 36) (Value.ref 37) Value.none (Value.ref 38) (Value.ref 39) (Value.ref 40) 226 227) ::
  (nat_lit 42,fO (sb 4 0) "ObjectFile.__init__" 41 Value.none "moduleyard.objfile" 206) ::
  (nat_lit 44,Obj.mk (Value.type "dict") Option.none (Data.dict #[DictEntry.mk (PyData.keyHash P (s "__module__")) (Value.str (s "__module__") 215) (Value.str (s "moduleyard.objfile") 206),DictEntry.mk (PyData.keyHash P (s "__firstlineno__")) (Value.str (s "__firstlineno__") 219) (Value.int 16 218),DictEntry.mk (PyData.keyHash P (s "__init__")) (Value.str (s "__init__") 228) (Value.ref 42),DictEntry.mk (PyData.keyHash P (s "__static_attributes__")) (Value.str (s "__static_attributes__") 242) (Value.ref 43),DictEntry.mk (PyData.keyHash P (s "__dict__")) (Value.str (s "__dict__") 244) (Value.ref 46),DictEntry.mk (PyData.keyHash P (s "__weakref__")) (Value.str (s "__weakref__") 246) (Value.ref 47),DictEntry.mk (PyData.keyHash P (s "__doc__")) (Value.str (s "__doc__") 247) Value.none] 4) #[]) ::
  (nat_lit 45,Obj.mk (Value.type "type") Option.none (Data.cls (ClassData.mk (s "ObjectFile") [Value.type "object"] [Value.ref 45,Value.type "object"] 44 (s "ObjectFile") Bool.true [] [] Bool.false Option.none Bool.false)) #[Option.none,Option.none,Option.some (Value.str (s "ObjectFile") 208),Option.some (Value.str (s "ObjectFile") 216),Option.some (Value.builtin "object.__new__"),Option.some (Value.bool Bool.true)]) ::
  (nat_lit 62,cO "__init__" "Type.__init__" 264 35 4 (Value.ref 57) (Value.ref 58) Value.none (Value.ref 59) (Value.ref 60) (Value.ref 61) 271 272) ::
  (nat_lit 63,fO (sb 6 0) "Type.__init__" 62 Value.none "moduleyard.types" 250) ::
  (nat_lit 65,Obj.mk (Value.type "dict") Option.none (Data.dict #[DictEntry.mk (PyData.keyHash P (s "__module__")) (Value.str (s "__module__") 259) (Value.str (s "moduleyard.types") 250),DictEntry.mk (PyData.keyHash P (s "__firstlineno__")) (Value.str (s "__firstlineno__") 263) (Value.int 33 262),DictEntry.mk (PyData.keyHash P (s "__init__")) (Value.str (s "__init__") 273) (Value.ref 63),DictEntry.mk (PyData.keyHash P (s "__static_attributes__")) (Value.str (s "__static_attributes__") 286) (Value.ref 64),DictEntry.mk (PyData.keyHash P (s "__dict__")) (Value.str (s "__dict__") 288) (Value.ref 67),DictEntry.mk (PyData.keyHash P (s "__weakref__")) (Value.str (s "__weakref__") 290) (Value.ref 68),DictEntry.mk (PyData.keyHash P (s "__doc__")) (Value.str (s "__doc__") 291) Value.none] 4) #[]) ::
  (nat_lit 66,Obj.mk (Value.type "type") Option.none (Data.cls (ClassData.mk (s "Type") [Value.type "object"] [Value.ref 66,Value.type "object"] 65 (s "Type") Bool.true [] [] Bool.false Option.none Bool.false)) #[Option.none,Option.none,Option.some (Value.str (s "Type") 252),Option.some (Value.str (s "Type") 260),Option.some (Value.builtin "object.__new__"),Option.some (Value.bool Bool.true)]) ::
  (nat_lit 83,cO "__init__" "Obj.__init__" 306 50 5 (Value.ref 78) (Value.ref 79) Value.none (Value.ref 80) (Value.ref 81) (Value.ref 82) 314 315) ::
  (nat_lit 84,fO (sb 7 0) "Obj.__init__" 83 Value.none "moduleyard.types" 250) ::
  (nat_lit 86,Obj.mk (Value.type "dict") Option.none (Data.dict #[DictEntry.mk (PyData.keyHash P (s "__module__")) (Value.str (s "__module__") 301) (Value.str (s "moduleyard.types") 250),DictEntry.mk (PyData.keyHash P (s "__firstlineno__")) (Value.str (s "__firstlineno__") 305) (Value.int 48 304),DictEntry.mk (PyData.keyHash P (s "__init__")) (Value.str (s "__init__") 316) (Value.ref 84),DictEntry.mk (PyData.keyHash P (s "__static_attributes__")) (Value.str (s "__static_attributes__") 331) (Value.ref 85),DictEntry.mk (PyData.keyHash P (s "__dict__")) (Value.str (s "__dict__") 333) (Value.ref 88),DictEntry.mk (PyData.keyHash P (s "__weakref__")) (Value.str (s "__weakref__") 335) (Value.ref 89),DictEntry.mk (PyData.keyHash P (s "__doc__")) (Value.str (s "__doc__") 336) Value.none] 4) #[]) ::
  (nat_lit 87,Obj.mk (Value.type "type") Option.none (Data.cls (ClassData.mk (s "Obj") [Value.type "object"] [Value.ref 87,Value.type "object"] 86 (s "Obj") Bool.true [] [] Bool.false Option.none Bool.false)) #[Option.none,Option.none,Option.some (Value.str (s "Obj") 294),Option.some (Value.str (s "Obj") 302),Option.some (Value.builtin "object.__new__"),Option.some (Value.bool Bool.true)]) ::
  (nat_lit 104,cO "__init__" "Interface.__init__" 351 67 3 (Value.ref 99) (Value.ref 100) Value.none (Value.ref 101) (Value.ref 102) (Value.ref 103) 357 358) ::
  (nat_lit 105,fO (sb 8 0) "Interface.__init__" 104 Value.none "moduleyard.types" 250) ::
  (nat_lit 111,cO "find" "Interface.find" 360 73 2 (Value.ref 106) (Value.ref 107) Value.none (Value.ref 108) (Value.ref 109) (Value.ref 110) 366 367) ::
  (nat_lit 112,fO (sb 8 1) "Interface.find" 111 Value.none "moduleyard.types" 250) ::
  (nat_lit 114,Obj.mk (Value.type "dict") Option.none (Data.dict #[DictEntry.mk (PyData.keyHash P (s "__module__")) (Value.str (s "__module__") 346) (Value.str (s "moduleyard.types") 250),DictEntry.mk (PyData.keyHash P (s "__firstlineno__")) (Value.str (s "__firstlineno__") 350) (Value.int 65 349),DictEntry.mk (PyData.keyHash P (s "__init__")) (Value.str (s "__init__") 359) (Value.ref 105),DictEntry.mk (PyData.keyHash P (s "find")) (Value.str (s "find") 368) (Value.ref 112),DictEntry.mk (PyData.keyHash P (s "__static_attributes__")) (Value.str (s "__static_attributes__") 373) (Value.ref 113),DictEntry.mk (PyData.keyHash P (s "__dict__")) (Value.str (s "__dict__") 375) (Value.ref 116),DictEntry.mk (PyData.keyHash P (s "__weakref__")) (Value.str (s "__weakref__") 377) (Value.ref 117),DictEntry.mk (PyData.keyHash P (s "__doc__")) (Value.str (s "__doc__") 378) Value.none] 4) #[]) ::
  (nat_lit 115,Obj.mk (Value.type "type") Option.none (Data.cls (ClassData.mk (s "Interface") [Value.type "object"] [Value.ref 115,Value.type "object"] 114 (s "Interface") Bool.true [] [] Bool.false Option.none Bool.false)) #[Option.none,Option.none,Option.some (Value.str (s "Interface") 339),Option.some (Value.str (s "Interface") 347),Option.some (Value.builtin "object.__new__"),Option.some (Value.bool Bool.true)]) ::
  (nat_lit 132,cO "__init__" "Types.__init__" 393 80 1 (Value.ref 127) (Value.ref 128) Value.none (Value.ref 129) (Value.ref 130) (Value.ref 131) 397 398) ::
  (nat_lit 133,fO (sb 9 0) "Types.__init__" 132 Value.none "moduleyard.types" 250) ::
  (nat_lit 134,Obj.mk (Value.type "tuple") Option.none (Data.seq #[Value.str (s "") 400,Value.str (s "") 401] 0) #[]) ::
  (nat_lit 140,cO "new" "Types.new" 402 91 5 (Value.ref 135) (Value.ref 136) Value.none (Value.ref 137) (Value.ref 138) (Value.ref 139) 411 412) ::
  (nat_lit 141,fO (sb 9 1) "Types.new" 140 (Value.ref 134) "moduleyard.types" 250) ::
  (nat_lit 150,Obj.mk (Value.type "dict") Option.none (Data.dict #[DictEntry.mk (PyData.keyHash P (s "__module__")) (Value.str (s "__module__") 388) (Value.str (s "moduleyard.types") 250),DictEntry.mk (PyData.keyHash P (s "__firstlineno__")) (Value.str (s "__firstlineno__") 392) (Value.int 78 391),DictEntry.mk (PyData.keyHash P (s "__init__")) (Value.str (s "__init__") 399) (Value.ref 133),DictEntry.mk (PyData.keyHash P (s "new")) (Value.str (s "new") 413) (Value.ref 141),DictEntry.mk (PyData.keyHash P (s "string")) (Value.str (s "string") 422) (Value.ref 148),DictEntry.mk (PyData.keyHash P (s "__static_attributes__")) (Value.str (s "__static_attributes__") 432) (Value.ref 149),DictEntry.mk (PyData.keyHash P (s "__dict__")) (Value.str (s "__dict__") 434) (Value.ref 152),DictEntry.mk (PyData.keyHash P (s "__weakref__")) (Value.str (s "__weakref__") 436) (Value.ref 153),DictEntry.mk (PyData.keyHash P (s "__doc__")) (Value.str (s "__doc__") 437) Value.none] 4) #[]) ::
  (nat_lit 151,Obj.mk (Value.type "type") Option.none (Data.cls (ClassData.mk (s "Types") [Value.type "object"] [Value.ref 151,Value.type "object"] 150 (s "Types") Bool.true [] [] Bool.false Option.none Bool.false)) #[Option.none,Option.none,Option.some (Value.str (s "Types") 381),Option.some (Value.str (s "Types") 389),Option.some (Value.builtin "object.__new__"),Option.some (Value.bool Bool.true)]) ::
  (nat_lit 161,cO "host_names" "host_names" 442 106 0 (Value.ref 156) (Value.ref 157) Value.none (Value.ref 158) (Value.ref 159) (Value.ref 160) 445 446) ::
  (nat_lit 162,fO (st 11) "host_names" 161 Value.none "moduleyard.stdmods" 440) ::
  (nat_lit 168,cO "host_key" "host_key" 448 108 1 (Value.ref 163) (Value.ref 164) Value.none (Value.ref 165) (Value.ref 166) (Value.ref 167) 454 455) ::
  (nat_lit 169,fO (st 12) "host_key" 168 Value.none "moduleyard.stdmods" 440) ::
  (nat_lit 175,cO "host_calls" "host_calls" 457 115 1 (Value.ref 170) (Value.ref 171) Value.none (Value.ref 172) (Value.ref 173) (Value.ref 174) 461 462) ::
  (nat_lit 176,fO (st 13) "host_calls" 175 Value.none "moduleyard.stdmods" 440) ::
  (nat_lit 177,Obj.mk (Value.type "tuple") Option.none (Data.seq #[Value.bool Bool.false] 0) #[]) ::
  (nat_lit 183,cO "parameter" "parameter" 464 119 4 (Value.ref 178) (Value.ref 179) Value.none (Value.ref 180) (Value.ref 181) (Value.ref 182) 472 473) ::
  (nat_lit 184,fO (st 14) "parameter" 183 (Value.ref 177) "moduleyard.stdmods" 440) ::
  (nat_lit 190,cO "open_text" "open_text" 475 124 3 (Value.ref 185) (Value.ref 186) Value.none (Value.ref 187) (Value.ref 188) (Value.ref 189) 482 483) ::
  (nat_lit 191,fO (st 15) "open_text" 190 Value.none "moduleyard.stdmods" 440) ::
  (nat_lit 197,cO "host_params" "host_params" 485 129 3 (Value.ref 192) (Value.ref 193) Value.none (Value.ref 194) (Value.ref 195) (Value.ref 196) 492 493) ::
  (nat_lit 198,fO (st 16) "host_params" 197 Value.none "moduleyard.stdmods" 440) ::
  (nat_lit 204,cO "host_proc" "host_proc" 495 140 4 (Value.ref 199) (Value.ref 200) Value.none (Value.ref 201) (Value.ref 202) (Value.ref 203) 505 506) ::
  (nat_lit 205,fO (st 17) "host_proc" 204 Value.none "moduleyard.stdmods" 440) ::
  (nat_lit 211,cO "host_interface" "host_interface" 508 153 2 (Value.ref 206) (Value.ref 207) Value.none (Value.ref 208) (Value.ref 209) (Value.ref 210) 517 518) ::
  (nat_lit 212,fO (st 18) "host_interface" 211 Value.none "moduleyard.stdmods" 440) ::
  (nat_lit 218,cO "system_interface" "system_interface" 520 160 1 (Value.ref 213) (Value.ref 214) Value.none (Value.ref 215) (Value.ref 216) (Value.ref 217) 527 528) ::
  (nat_lit 219,fO (st 19) "system_interface" 218 Value.none "moduleyard.stdmods" 440) ::
  (nat_lit 225,cO "host_rows" "host_rows" 530 169 1 (Value.ref 220) (Value.ref 221) Value.none (Value.ref 222) (Value.ref 223) (Value.ref 224) 537 538) ::
  (nat_lit 226,fO (st 20) "host_rows" 225 Value.none "moduleyard.stdmods" 440) ::
  (nat_lit 232,cO "conditions" "conditions" 542 179 0 (Value.ref 227) (Value.ref 228) Value.none (Value.ref 229) (Value.ref 230) (Value.ref 231) 545 546) ::
  (nat_lit 233,fO (st 22) "conditions" 232 Value.none "moduleyard.isa" 540) ::
  (nat_lit 239,cO "operations" "operations" 548 181 0 (Value.ref 234) (Value.ref 235) Value.none (Value.ref 236) (Value.ref 237) (Value.ref 238) 551 552) ::
  (nat_lit 240,fO (st 23) "operations" 239 Value.none "moduleyard.isa" 540) ::
  (nat_lit 246,cO "memory_names" "memory_names" 554 183 0 (Value.ref 241) (Value.ref 242) Value.none (Value.ref 243) (Value.ref 244) (Value.ref 245) 557 558) ::
  (nat_lit 247,fO (st 24) "memory_names" 246 Value.none "moduleyard.isa" 540) ::
  (nat_lit 253,cO "is_whole" "is_whole" 560 185 3 (Value.ref 248) (Value.ref 249) Value.none (Value.ref 250) (Value.ref 251) (Value.ref 252) 566 567) ::
  (nat_lit 254,fO (st 25) "is_whole" 253 Value.none "moduleyard.isa" 540) ::
  (nat_lit 260,cO "is_register" "is_register" 569 187 1 (Value.ref 255) (Value.ref 256) Value.none (Value.ref 257) (Value.ref 258) (Value.ref 259) 573 574) ::
  (nat_lit 261,fO (st 26) "is_register" 260 Value.none "moduleyard.isa" 540) ::
  (nat_lit 267,cO "immediate_operation" "immediate_operation" 576 189 1 (Value.ref 262) (Value.ref 263) Value.none (Value.ref 264) (Value.ref 265) (Value.ref 266) 580 581) ::
  (nat_lit 268,fO (st 27) "immediate_operation" 267 Value.none "moduleyard.isa" 540) ::
  (nat_lit 288,cO "branch_fault" "branch_fault" 601 210 1 (Value.ref 283) (Value.ref 284) Value.none (Value.ref 285) (Value.ref 286) (Value.ref 287) 609 610) ::
  (nat_lit 289,fO (st 30) "branch_fault" 288 Value.none "moduleyard.isa" 540) ::
  (nat_lit 295,cO "row_fault" "row_fault" 612 225 1 (Value.ref 290) (Value.ref 291) Value.none (Value.ref 292) (Value.ref 293) (Value.ref 294) 617 618) ::
  (nat_lit 296,fO (st 31) "row_fault" 295 Value.none "moduleyard.isa" 540) ::
  (nat_lit 302,cO "is_call" "is_call" 624 238 1 (Value.ref 297) (Value.ref 298) Value.none (Value.ref 299) (Value.ref 300) (Value.ref 301) 628 629) ::
  (nat_lit 303,fO (st 34) "is_call" 302 Value.none "moduleyard.objcheck" 620) ::
  (nat_lit 309,cO "ends_way" "ends_way" 631 242 1 (Value.ref 304) (Value.ref 305) Value.none (Value.ref 306) (Value.ref 307) (Value.ref 308) 635 636) ::
  (nat_lit 310,fO (st 35) "ends_way" 309 Value.none "moduleyard.objcheck" 620) ::
  (nat_lit 316,cO "row_faults" "row_faults" 638 246 1 (Value.ref 311) (Value.ref 312) Value.none (Value.ref 313) (Value.ref 314) (Value.ref 315) 644 645) ::
  (nat_lit 317,fO (st 36) "row_faults" 316 Value.none "moduleyard.objcheck" 620) ::
  (nat_lit 323,cO "imported_calls" "imported_calls" 647 254 1 (Value.ref 318) (Value.ref 319) Value.none (Value.ref 320) (Value.ref 321) (Value.ref 322) 656 657) ::
  (nat_lit 324,fO (st 37) "imported_calls" 323 Value.none "moduleyard.objcheck" 620) ::
  (nat_lit 330,cO "target_faults" "target_faults" 659 260 1 (Value.ref 325) (Value.ref 326) Value.none (Value.ref 327) (Value.ref 328) (Value.ref 329) 668 669) ::
  (nat_lit 331,fO (st 38) "target_faults" 330 Value.none "moduleyard.objcheck" 620) ::
  (nat_lit 337,cO "map_faults" "map_faults" 671 271 1 (Value.ref 332) (Value.ref 333) Value.none (Value.ref 334) (Value.ref 335) (Value.ref 336) 679 680) ::
  (nat_lit 338,fO (st 39) "map_faults" 337 Value.none "moduleyard.objcheck" 620) ::
  (nat_lit 358,cO "data_faults" "data_faults" 699 291 1 (Value.ref 353) (Value.ref 354) Value.none (Value.ref 355) (Value.ref 356) (Value.ref 357) 709 710) ::
  (nat_lit 359,fO (st 42) "data_faults" 358 Value.none "moduleyard.objcheck" 620) ::
  (nat_lit 372,cO "fixup_faults" "fixup_faults" 720 313 1 (Value.ref 367) (Value.ref 368) Value.none (Value.ref 369) (Value.ref 370) (Value.ref 371) 730 731) ::
  (nat_lit 373,fO (st 44) "fixup_faults" 372 Value.none "moduleyard.objcheck" 620) ::
  (nat_lit 379,cO "entry_faults" "entry_faults" 733 325 1 (Value.ref 374) (Value.ref 375) Value.none (Value.ref 376) (Value.ref 377) (Value.ref 378) 743 744) ::
  (nat_lit 380,fO (st 45) "entry_faults" 379 Value.none "moduleyard.objcheck" 620) ::
  (nat_lit 386,cO "import_faults" "import_faults" 746 338 1 (Value.ref 381) (Value.ref 382) Value.none (Value.ref 383) (Value.ref 384) (Value.ref 385) 754 755) ::
  (nat_lit 387,fO (st 46) "import_faults" 386 Value.none "moduleyard.objcheck" 620) ::
  (nat_lit 393,cO "check_object" "check_object" 757 347 1 (Value.ref 388) (Value.ref 389) Value.none (Value.ref 390) (Value.ref 391) (Value.ref 392) 762 763) ::
  (nat_lit 394,fO (st 47) "check_object" 393 Value.none "moduleyard.objcheck" 620) ::
  (nat_lit 400,cO "_law_row" "_law_row" 767 354 1 (Value.ref 395) (Value.ref 396) Value.none (Value.ref 397) (Value.ref 398) (Value.ref 399) 775 776) ::
  (nat_lit 401,fO (st 49) "_law_row" 400 Value.none "law_pb0364_01" 765) ::
  (nat_lit 407,cO "_law_next" "_law_next" 778 367 1 (Value.ref 402) (Value.ref 403) Value.none (Value.ref 404) (Value.ref 405) (Value.ref 406) 782 783) ::
  (nat_lit 408,fO (st 50) "_law_next" 407 Value.none "law_pb0364_01" 765) ::
  (nat_lit 414,cO "_law_holds" "_law_holds" 785 369 2 (Value.ref 409) (Value.ref 410) Value.none (Value.ref 411) (Value.ref 412) (Value.ref 413) 797 798) ::
  (nat_lit 415,fO (st 51) "_law_holds" 414 Value.none "law_pb0364_01" 765) ::
  (nat_lit 440,cO "_law_step" "_law_step" 829 417 1 (Value.ref 435) (Value.ref 436) Value.none (Value.ref 437) (Value.ref 438) (Value.ref 439) 845 846) ::
  (nat_lit 441,fO (st 55) "_law_step" 440 Value.none "law_pb0364_01" 765) ::
  (nat_lit 447,cO "_law_table" "_law_table" 848 458 1 (Value.ref 442) (Value.ref 443) Value.none (Value.ref 444) (Value.ref 445) (Value.ref 446) 852 853) ::
  (nat_lit 448,fO (st 56) "_law_table" 447 Value.none "law_pb0364_01" 765) ::
  (nat_lit 452,cO "law" "law" 855 462 1 (Value.ref 449) (Value.ref 450) Value.none Value.none Value.none (Value.ref 451) 858 859) ::
  (nat_lit 453,fO (st 57) "law" 452 Value.none "law_pb0364_01" 765) :: []
def kept : Stmt → Bool
  | .Assign [.Name x _] _ _ => !(x == Str.ofString "__name__")
  | .FunctionDef n _ _ _ _ _ _ _ _ _ => !(n == Str.ofString "parameter")
  | _ => true
/-- the program's top without the rows that bind a name anew or stay loose -/
def view_39 : Program := { PySem.Challenge.rw_pb0364_01.row.prog with main := { PySem.Challenge.rw_pb0364_01.row.prog.main with body := PySem.Challenge.rw_pb0364_01.row.prog.main.body.filter kept } }
end hd
def asK : List Nat := [nat_lit 3, nat_lit 20, nat_lit 21, nat_lit 27, nat_lit 28, nat_lit 41, nat_lit 42, nat_lit 44, nat_lit 45, nat_lit 62, nat_lit 63, nat_lit 65, nat_lit 66, nat_lit 83, nat_lit 84, nat_lit 86, nat_lit 87, nat_lit 104, nat_lit 105, nat_lit 111, nat_lit 112, nat_lit 114, nat_lit 115, nat_lit 132, nat_lit 133, nat_lit 134, nat_lit 140, nat_lit 141, nat_lit 150, nat_lit 151, nat_lit 161, nat_lit 162, nat_lit 168, nat_lit 169, nat_lit 175, nat_lit 176, nat_lit 177, nat_lit 183, nat_lit 184, nat_lit 190, nat_lit 191, nat_lit 197, nat_lit 198, nat_lit 204, nat_lit 205, nat_lit 211, nat_lit 212, nat_lit 218, nat_lit 219, nat_lit 225, nat_lit 226, nat_lit 232, nat_lit 233, nat_lit 239, nat_lit 240, nat_lit 246, nat_lit 247, nat_lit 253, nat_lit 254, nat_lit 260, nat_lit 261, nat_lit 267, nat_lit 268, nat_lit 288, nat_lit 289, nat_lit 295, nat_lit 296, nat_lit 302, nat_lit 303, nat_lit 309, nat_lit 310, nat_lit 316, nat_lit 317, nat_lit 323, nat_lit 324, nat_lit 330, nat_lit 331, nat_lit 337, nat_lit 338, nat_lit 358, nat_lit 359, nat_lit 372, nat_lit 373, nat_lit 379, nat_lit 380, nat_lit 386, nat_lit 387, nat_lit 393, nat_lit 394, nat_lit 400, nat_lit 401, nat_lit 407, nat_lit 408, nat_lit 414, nat_lit 415, nat_lit 440, nat_lit 441, nat_lit 447, nat_lit 448, nat_lit 452, nat_lit 453]
theorem asOk : ∀ P, asK = (Mine.hd.heap_39 P).map (·.1) := fun P => by kernel_rfl
end Mine
end
section
open PySem PySem.W PyProof.Rows
namespace Mine
namespace hd
noncomputable def kO (a : Nat) (P : Params) : Obj := match (heap_39 P).lookup a with | some x => x | none => default
def tE : Obj := { cls := .type "tuple", data := .seq #[] 0 }
def fE : Obj := { cls := .none, data := .fields #[] }
/-- a tuple of texts with tokens in a row -/
def tSl : Nat → List String → List Value
  | _, [] => []
  | t, x :: r => .str (Str.ofString x) t :: tSl (t + 1) r
def tS (t : Nat) (l : List String) : Obj := { cls := .type "tuple", data := .seq ⟨tSl t l⟩ 0 }
/-- a def's raw object -/
def rO (t : Stmt) (q : String) : Obj := match t with
  | .FunctionDef n ps b _ _ _ sc _ _ _ => { cls := .none, data := .func (FuncData.mk n (Str.ofString q) ps (.stmts b) sc 0 [] .none .none .none .none none .none .none 0) }
  | _ => { cls := .none, data := .seq #[] }
/-- the whole heap behind the program's top -/
noncomputable def hl (P : Params) : List Obj := [
  boot_o_0 P,
  boot_o_1 P,
  boot_o_2 P,
  kO 3 P,
  boot_o_4 P,
  boot_o_5 P,
  boot_o_6 P,
  boot_o_7 P,
  boot_o_8 P,
  boot_o_9 P,
  boot_o_10 P,
  tE,
  Obj.mk Value.none Option.none (Data.fields #[Value.int 2 0,Value.int 0 0,Value.ref 20,Value.int 7 0,Value.int 0 0,Value.ref 27,Value.int 16 0,Value.int 0 0,Value.ref 34,Value.int 33 0,Value.int 0 0,Value.ref 55,Value.int 48 0,Value.int 0 0,Value.ref 76,Value.int 65 0,Value.int 0 0,Value.ref 97,Value.int 78 0,Value.int 0 0,Value.ref 125,Value.int 106 0,Value.int 0 0,Value.ref 161,Value.int 108 0,Value.int 0 0,Value.ref 168,Value.int 115 0,Value.int 0 0,Value.ref 175,Value.int 119 0,Value.int 0 0,Value.ref 183,Value.int 124 0,Value.int 0 0,Value.ref 190,Value.int 129 0,Value.int 0 0,Value.ref 197,Value.int 140 0,Value.int 0 0,Value.ref 204,Value.int 153 0,Value.int 0 0,Value.ref 211,Value.int 160 0,Value.int 0 0,Value.ref 218,Value.int 169 0,Value.int 0 0,Value.ref 225,Value.int 179 0,Value.int 0 0,Value.ref 232,Value.int 181 0,Value.int 0 0,Value.ref 239,Value.int 183 0,Value.int 0 0,Value.ref 246,Value.int 185 0,Value.int 0 0,Value.ref 253,Value.int 187 0,Value.int 0 0,Value.ref 260,Value.int 189 0,Value.int 0 0,Value.ref 267,Value.int 193 0,Value.int 0 0,Value.ref 274,Value.int 206 0,Value.int 0 0,Value.ref 281,Value.int 210 0,Value.int 0 0,Value.ref 288,Value.int 225 0,Value.int 0 0,Value.ref 295,Value.int 238 0,Value.int 0 0,Value.ref 302,Value.int 242 0,Value.int 0 0,Value.ref 309,Value.int 246 0,Value.int 0 0,Value.ref 316,Value.int 254 0,Value.int 0 0,Value.ref 323,Value.int 260 0,Value.int 0 0,Value.ref 330,Value.int 271 0,Value.int 0 0,Value.ref 337,Value.int 285 0,Value.int 0 0,Value.ref 344,Value.int 287 0,Value.int 0 0,Value.ref 351,Value.int 291 0,Value.int 0 0,Value.ref 358,Value.int 307 0,Value.int 0 0,Value.ref 365,Value.int 313 0,Value.int 0 0,Value.ref 372,Value.int 325 0,Value.int 0 0,Value.ref 379,Value.int 338 0,Value.int 0 0,Value.ref 386,Value.int 347 0,Value.int 0 0,Value.ref 393,Value.int 354 0,Value.int 0 0,Value.ref 400,Value.int 367 0,Value.int 0 0,Value.ref 407,Value.int 369 0,Value.int 0 0,Value.ref 414,Value.int 375 0,Value.int 0 0,Value.ref 421,Value.int 377 0,Value.int 0 0,Value.ref 428,Value.int 415 0,Value.int 0 0,Value.ref 433,Value.int 417 0,Value.int 0 0,Value.ref 440,Value.int 458 0,Value.int 0 0,Value.ref 447,Value.int 462 0,Value.int 0 0,Value.ref 452]) #[],
  Obj.mk (Value.type "code") Option.none (Data.fields #[Value.str (s "<module>") 182,Value.str (s "<module>") 183,Value.str (s "/claim/cut.py") 184,Value.int 1 0,Value.int 0 0,Value.int 0 0,Value.int 0 0,Value.int 0 0,Value.ref 11,Value.bool Bool.false,Value.int 181 0,Value.ref 12,Value.none,Value.none,Value.none,Value.none,Value.int 185 0,Value.int 1 0,Value.str (s "/claim/cut.py") 186]) #[],
  Obj.mk (Value.type "frame") Option.none Data.plain #[Option.some (Value.ref 13),Option.some (Value.ref 3),Option.some (Value.ref 3),Option.none,Option.some (Value.str (s "__main__") 164),Option.none,Option.some (Value.ref 0)],
  tE,
  fE,
  tS 192 ["par"],
  tE,
  rO (st 1) "param_words",
  kO 20 P,
  kO 21 P,
  tE,
  fE,
  tS 199 ["params", "linked", "words", "slot"],
  tE,
  rO (st 2) "place_params",
  kO 27 P,
  kO 28 P,
  tE,
  Obj.mk (Value.type "builtin_function_or_method") Option.none (Data.fields #[Value.builtin "type.__prepare__",Value.type "type"]) #[],
  Obj.mk (Value.type "dict") Option.none (Data.dict #[DictEntry.mk (PyData.keyHash P (s "__module__")) (Value.str (s "__module__") 215) (Value.str (s "moduleyard.objfile") 206),DictEntry.mk (PyData.keyHash P (s "__qualname__")) (Value.str (s "__qualname__") 217) (Value.str (s "ObjectFile") 216),DictEntry.mk (PyData.keyHash P (s "__firstlineno__")) (Value.str (s "__firstlineno__") 219) (Value.int 16 218),DictEntry.mk (PyData.keyHash P (s "__init__")) (Value.str (s "__init__") 228) (Value.ref 42),DictEntry.mk (PyData.keyHash P (s "__static_attributes__")) (Value.str (s "__static_attributes__") 242) (Value.ref 43)] 5) #[],
  tE,
  Obj.mk Value.none Option.none (Data.fields #[Value.int 18 0,Value.int 4 0,Value.ref 41]) #[],
  Obj.mk (Value.type "code") Option.none (Data.fields #[Value.str (s "ObjectFile") 210,Value.str (s "ObjectFile") 211,Value.str (s "/claim/cut.py") 212,Value.int 16 0,Value.int 0 0,Value.int 0 0,Value.int 0 0,Value.int 0 0,Value.ref 32,Value.bool Bool.false,Value.int 181 0,Value.ref 33,Value.none,Value.none,Value.none,Value.none,Value.int 213 0,Value.int 16 0,Value.str (s "/claim/cut.py") 214]) #[],
  Obj.mk (Value.type "frame") Option.none Data.plain #[Option.some (Value.ref 34),Option.some (Value.ref 3),Option.some (Value.ref 31),Option.none,Option.some (Value.str (s "moduleyard.objfile") 206),Option.none,Option.some (Value.ref 0)],
  tE,
  fE,
  tS 223 ["self", "name", "key"],
  tE,
  rO (sb 4 0) "ObjectFile.__init__",
  kO 41 P,
  kO 42 P,
  tS 229 ["body", "commands", "data_fixups", "data_size", "entries", "fixups", "imports", "key", "maps", "name", "pointers", "rows", "words"],
  kO 44 P,
  kO 45 P,
  Obj.mk (Value.type "getset_descriptor") Option.none (Data.fields #[Value.str (s "__dict__") 243,Value.ref 45,Value.builtin "function.__dict__",Value.builtin "function.__dict__#set"]) #[],
  Obj.mk (Value.type "getset_descriptor") Option.none (Data.fields #[Value.str (s "__weakref__") 245,Value.ref 45,Value.builtin "ExceptionGroup.__weakref__",Value.none]) #[],
  Obj.mk (Value.type "super") Option.none (Data.fields #[Value.ref 45,Value.ref 45,Value.ref 45]) #[],
  Obj.mk (Value.type "builtin_function_or_method") Option.none (Data.fields #[Value.builtin "object.__init_subclass__",Value.ref 45]) #[],
  tE,
  Obj.mk (Value.type "builtin_function_or_method") Option.none (Data.fields #[Value.builtin "type.__prepare__",Value.type "type"]) #[],
  Obj.mk (Value.type "dict") Option.none (Data.dict #[DictEntry.mk (PyData.keyHash P (s "__module__")) (Value.str (s "__module__") 259) (Value.str (s "moduleyard.types") 250),DictEntry.mk (PyData.keyHash P (s "__qualname__")) (Value.str (s "__qualname__") 261) (Value.str (s "Type") 260),DictEntry.mk (PyData.keyHash P (s "__firstlineno__")) (Value.str (s "__firstlineno__") 263) (Value.int 33 262),DictEntry.mk (PyData.keyHash P (s "__init__")) (Value.str (s "__init__") 273) (Value.ref 63),DictEntry.mk (PyData.keyHash P (s "__static_attributes__")) (Value.str (s "__static_attributes__") 286) (Value.ref 64)] 5) #[],
  tE,
  Obj.mk Value.none Option.none (Data.fields #[Value.int 35 0,Value.int 4 0,Value.ref 62]) #[],
  Obj.mk (Value.type "code") Option.none (Data.fields #[Value.str (s "Type") 254,Value.str (s "Type") 255,Value.str (s "/claim/cut.py") 256,Value.int 33 0,Value.int 0 0,Value.int 0 0,Value.int 0 0,Value.int 0 0,Value.ref 53,Value.bool Bool.false,Value.int 181 0,Value.ref 54,Value.none,Value.none,Value.none,Value.none,Value.int 257 0,Value.int 33 0,Value.str (s "/claim/cut.py") 258]) #[],
  Obj.mk (Value.type "frame") Option.none Data.plain #[Option.some (Value.ref 55),Option.some (Value.ref 3),Option.some (Value.ref 52),Option.none,Option.some (Value.str (s "moduleyard.types") 250),Option.none,Option.some (Value.ref 0)],
  tE,
  fE,
  tS 267 ["self", "number", "form", "size"],
  tE,
  rO (sb 6 0) "Type.__init__",
  kO 62 P,
  kO 63 P,
  tS 274 ["base", "exno", "fields", "form", "hidden", "label", "length", "level", "module", "number", "params", "size"],
  kO 65 P,
  kO 66 P,
  Obj.mk (Value.type "getset_descriptor") Option.none (Data.fields #[Value.str (s "__dict__") 287,Value.ref 66,Value.builtin "function.__dict__",Value.builtin "function.__dict__#set"]) #[],
  Obj.mk (Value.type "getset_descriptor") Option.none (Data.fields #[Value.str (s "__weakref__") 289,Value.ref 66,Value.builtin "ExceptionGroup.__weakref__",Value.none]) #[],
  Obj.mk (Value.type "super") Option.none (Data.fields #[Value.ref 66,Value.ref 66,Value.ref 66]) #[],
  Obj.mk (Value.type "builtin_function_or_method") Option.none (Data.fields #[Value.builtin "object.__init_subclass__",Value.ref 66]) #[],
  tE,
  Obj.mk (Value.type "builtin_function_or_method") Option.none (Data.fields #[Value.builtin "type.__prepare__",Value.type "type"]) #[],
  Obj.mk (Value.type "dict") Option.none (Data.dict #[DictEntry.mk (PyData.keyHash P (s "__module__")) (Value.str (s "__module__") 301) (Value.str (s "moduleyard.types") 250),DictEntry.mk (PyData.keyHash P (s "__qualname__")) (Value.str (s "__qualname__") 303) (Value.str (s "Obj") 302),DictEntry.mk (PyData.keyHash P (s "__firstlineno__")) (Value.str (s "__firstlineno__") 305) (Value.int 48 304),DictEntry.mk (PyData.keyHash P (s "__init__")) (Value.str (s "__init__") 316) (Value.ref 84),DictEntry.mk (PyData.keyHash P (s "__static_attributes__")) (Value.str (s "__static_attributes__") 331) (Value.ref 85)] 5) #[],
  tE,
  Obj.mk Value.none Option.none (Data.fields #[Value.int 50 0,Value.int 4 0,Value.ref 83]) #[],
  Obj.mk (Value.type "code") Option.none (Data.fields #[Value.str (s "Obj") 296,Value.str (s "Obj") 297,Value.str (s "/claim/cut.py") 298,Value.int 48 0,Value.int 0 0,Value.int 0 0,Value.int 0 0,Value.int 0 0,Value.ref 74,Value.bool Bool.false,Value.int 181 0,Value.ref 75,Value.none,Value.none,Value.none,Value.none,Value.int 299 0,Value.int 48 0,Value.str (s "/claim/cut.py") 300]) #[],
  Obj.mk (Value.type "frame") Option.none Data.plain #[Option.some (Value.ref 76),Option.some (Value.ref 3),Option.some (Value.ref 73),Option.none,Option.some (Value.str (s "moduleyard.types") 250),Option.none,Option.some (Value.ref 0)],
  tE,
  fE,
  tS 309 ["self", "name", "kind", "type_of", "place"],
  tE,
  rO (sb 7 0) "Obj.__init__",
  kO 83 P,
  kO 84 P,
  tS 317 ["exported", "isparam", "kind", "level", "module", "name", "narrowed", "number", "offset", "place", "readonly", "slot", "type", "value"],
  kO 86 P,
  kO 87 P,
  Obj.mk (Value.type "getset_descriptor") Option.none (Data.fields #[Value.str (s "__dict__") 332,Value.ref 87,Value.builtin "function.__dict__",Value.builtin "function.__dict__#set"]) #[],
  Obj.mk (Value.type "getset_descriptor") Option.none (Data.fields #[Value.str (s "__weakref__") 334,Value.ref 87,Value.builtin "ExceptionGroup.__weakref__",Value.none]) #[],
  Obj.mk (Value.type "super") Option.none (Data.fields #[Value.ref 87,Value.ref 87,Value.ref 87]) #[],
  Obj.mk (Value.type "builtin_function_or_method") Option.none (Data.fields #[Value.builtin "object.__init_subclass__",Value.ref 87]) #[],
  tE,
  Obj.mk (Value.type "builtin_function_or_method") Option.none (Data.fields #[Value.builtin "type.__prepare__",Value.type "type"]) #[],
  Obj.mk (Value.type "dict") Option.none (Data.dict #[DictEntry.mk (PyData.keyHash P (s "__module__")) (Value.str (s "__module__") 346) (Value.str (s "moduleyard.types") 250),DictEntry.mk (PyData.keyHash P (s "__qualname__")) (Value.str (s "__qualname__") 348) (Value.str (s "Interface") 347),DictEntry.mk (PyData.keyHash P (s "__firstlineno__")) (Value.str (s "__firstlineno__") 350) (Value.int 65 349),DictEntry.mk (PyData.keyHash P (s "__init__")) (Value.str (s "__init__") 359) (Value.ref 105),DictEntry.mk (PyData.keyHash P (s "find")) (Value.str (s "find") 368) (Value.ref 112),DictEntry.mk (PyData.keyHash P (s "__static_attributes__")) (Value.str (s "__static_attributes__") 373) (Value.ref 113)] 6) #[],
  tE,
  Obj.mk Value.none Option.none (Data.fields #[Value.int 67 0,Value.int 4 0,Value.ref 104,Value.int 73 0,Value.int 4 0,Value.ref 111]) #[],
  Obj.mk (Value.type "code") Option.none (Data.fields #[Value.str (s "Interface") 341,Value.str (s "Interface") 342,Value.str (s "/claim/cut.py") 343,Value.int 65 0,Value.int 0 0,Value.int 0 0,Value.int 0 0,Value.int 0 0,Value.ref 95,Value.bool Bool.false,Value.int 181 0,Value.ref 96,Value.none,Value.none,Value.none,Value.none,Value.int 344 0,Value.int 65 0,Value.str (s "/claim/cut.py") 345]) #[],
  Obj.mk (Value.type "frame") Option.none Data.plain #[Option.some (Value.ref 97),Option.some (Value.ref 3),Option.some (Value.ref 94),Option.none,Option.some (Value.str (s "moduleyard.types") 250),Option.none,Option.some (Value.ref 0)],
  tE,
  fE,
  tS 354 ["self", "name", "key"],
  tE,
  rO (sb 8 0) "Interface.__init__",
  kO 104 P,
  kO 105 P,
  tE,
  fE,
  tS 363 ["self", "name", "obj"],
  tE,
  rO (sb 8 1) "Interface.find",
  kO 111 P,
  kO 112 P,
  tS 369 ["imports", "key", "name", "objs"],
  kO 114 P,
  kO 115 P,
  Obj.mk (Value.type "getset_descriptor") Option.none (Data.fields #[Value.str (s "__dict__") 374,Value.ref 115,Value.builtin "function.__dict__",Value.builtin "function.__dict__#set"]) #[],
  Obj.mk (Value.type "getset_descriptor") Option.none (Data.fields #[Value.str (s "__weakref__") 376,Value.ref 115,Value.builtin "ExceptionGroup.__weakref__",Value.none]) #[],
  Obj.mk (Value.type "super") Option.none (Data.fields #[Value.ref 115,Value.ref 115,Value.ref 115]) #[],
  Obj.mk (Value.type "builtin_function_or_method") Option.none (Data.fields #[Value.builtin "object.__init_subclass__",Value.ref 115]) #[],
  tE,
  Obj.mk (Value.type "builtin_function_or_method") Option.none (Data.fields #[Value.builtin "type.__prepare__",Value.type "type"]) #[],
  Obj.mk (Value.type "dict") Option.none (Data.dict #[DictEntry.mk (PyData.keyHash P (s "__module__")) (Value.str (s "__module__") 388) (Value.str (s "moduleyard.types") 250),DictEntry.mk (PyData.keyHash P (s "__qualname__")) (Value.str (s "__qualname__") 390) (Value.str (s "Types") 389),DictEntry.mk (PyData.keyHash P (s "__firstlineno__")) (Value.str (s "__firstlineno__") 392) (Value.int 78 391),DictEntry.mk (PyData.keyHash P (s "__init__")) (Value.str (s "__init__") 399) (Value.ref 133),DictEntry.mk (PyData.keyHash P (s "new")) (Value.str (s "new") 413) (Value.ref 141),DictEntry.mk (PyData.keyHash P (s "string")) (Value.str (s "string") 422) (Value.ref 148),DictEntry.mk (PyData.keyHash P (s "__static_attributes__")) (Value.str (s "__static_attributes__") 432) (Value.ref 149)] 7) #[],
  tE,
  Obj.mk Value.none Option.none (Data.fields #[Value.int 80 0,Value.int 4 0,Value.ref 132,Value.int 91 0,Value.int 4 0,Value.ref 140,Value.int 100 0,Value.int 4 0,Value.ref 147]) #[],
  Obj.mk (Value.type "code") Option.none (Data.fields #[Value.str (s "Types") 383,Value.str (s "Types") 384,Value.str (s "/claim/cut.py") 385,Value.int 78 0,Value.int 0 0,Value.int 0 0,Value.int 0 0,Value.int 0 0,Value.ref 123,Value.bool Bool.false,Value.int 181 0,Value.ref 124,Value.none,Value.none,Value.none,Value.none,Value.int 386 0,Value.int 78 0,Value.str (s "/claim/cut.py") 387]) #[],
  Obj.mk (Value.type "frame") Option.none Data.plain #[Option.some (Value.ref 125),Option.some (Value.ref 3),Option.some (Value.ref 122),Option.none,Option.some (Value.str (s "moduleyard.types") 250),Option.none,Option.some (Value.ref 0)],
  tE,
  fE,
  tS 396 ["self"],
  tE,
  rO (sb 9 0) "Types.__init__",
  kO 132 P,
  kO 133 P,
  kO 134 P,
  tE,
  fE,
  tS 405 ["self", "form", "size", "module", "label", "made"],
  tE,
  rO (sb 9 1) "Types.new",
  kO 140 P,
  kO 141 P,
  tE,
  fE,
  tS 417 ["self", "length", "made"],
  tE,
  rO (sb 9 2) "Types.string",
  cO "string" "Types.string" 414 100 2 (Value.ref 142) (Value.ref 143) Value.none (Value.ref 144) (Value.ref 145) (Value.ref 146) 420 421,
  fO (sb 9 2) "Types.string" 147 Value.none "moduleyard.types" 250,
  tS 423 ["boolean", "byte", "char", "counter", "integer", "known", "mask", "nil", "none"],
  kO 150 P,
  kO 151 P,
  Obj.mk (Value.type "getset_descriptor") Option.none (Data.fields #[Value.str (s "__dict__") 433,Value.ref 151,Value.builtin "function.__dict__",Value.builtin "function.__dict__#set"]) #[],
  Obj.mk (Value.type "getset_descriptor") Option.none (Data.fields #[Value.str (s "__weakref__") 435,Value.ref 151,Value.builtin "ExceptionGroup.__weakref__",Value.none]) #[],
  Obj.mk (Value.type "super") Option.none (Data.fields #[Value.ref 151,Value.ref 151,Value.ref 151]) #[],
  Obj.mk (Value.type "builtin_function_or_method") Option.none (Data.fields #[Value.builtin "object.__init_subclass__",Value.ref 151]) #[],
  tE,
  fE,
  tE,
  tE,
  rO (st 11) "host_names",
  kO 161 P,
  kO 162 P,
  tE,
  fE,
  tS 451 ["name", "one", "key"],
  tE,
  rO (st 12) "host_key",
  kO 168 P,
  kO 169 P,
  tE,
  fE,
  tS 460 ["name"],
  tE,
  rO (st 13) "host_calls",
  kO 175 P,
  kO 176 P,
  kO 177 P,
  tE,
  fE,
  tS 467 ["name", "kind", "t", "readonly", "par"],
  tE,
  rO (st 14) "parameter",
  kO 183 P,
  kO 184 P,
  tE,
  fE,
  tS 478 ["types", "module", "label", "made"],
  tE,
  rO (st 15) "open_text",
  kO 190 P,
  kO 191 P,
  tE,
  fE,
  tS 488 ["types", "module", "name", "kind"],
  tE,
  rO (st 16) "host_params",
  kO 197 P,
  kO 198 P,
  tE,
  fE,
  tS 498 ["types", "module", "name", "number", "kind", "par", "obj"],
  tE,
  rO (st 17) "host_proc",
  kO 204 P,
  kO 205 P,
  tE,
  fE,
  tS 511 ["types", "name", "made", "number", "proc", "call"],
  tE,
  rO (st 18) "host_interface",
  kO 211 P,
  kO 212 P,
  tE,
  fE,
  tS 523 ["types", "made", "name", "obj"],
  tE,
  rO (st 19) "system_interface",
  kO 218 P,
  kO 219 P,
  tE,
  fE,
  tS 533 ["name", "made", "proc", "call"],
  tE,
  rO (st 20) "host_rows",
  kO 225 P,
  kO 226 P,
  tE,
  fE,
  tE,
  tE,
  rO (st 22) "conditions",
  kO 232 P,
  kO 233 P,
  tE,
  fE,
  tE,
  tE,
  rO (st 23) "operations",
  kO 239 P,
  kO 240 P,
  tE,
  fE,
  tE,
  tE,
  rO (st 24) "memory_names",
  kO 246 P,
  kO 247 P,
  tE,
  fE,
  tS 563 ["value", "low", "high"],
  tE,
  rO (st 25) "is_whole",
  kO 253 P,
  kO 254 P,
  tE,
  fE,
  tS 572 ["value"],
  tE,
  rO (st 26) "is_register",
  kO 260 P,
  kO 261 P,
  tE,
  fE,
  tS 579 ["name"],
  tE,
  rO (st 27) "immediate_operation",
  kO 267 P,
  kO 268 P,
  tE,
  fE,
  tS 586 ["row", "name", "a", "b", "c"],
  tE,
  rO (st 28) "operation_fault",
  cO "operation_fault" "operation_fault" 583 193 1 (Value.ref 269) (Value.ref 270) Value.none (Value.ref 271) (Value.ref 272) (Value.ref 273) 591 592,
  fO (st 28) "operation_fault" 274 Value.none "moduleyard.isa" 540,
  tE,
  fE,
  tS 597 ["row"],
  tE,
  rO (st 29) "memory_fault",
  cO "memory_fault" "memory_fault" 594 206 1 (Value.ref 276) (Value.ref 277) Value.none (Value.ref 278) (Value.ref 279) (Value.ref 280) 598 599,
  fO (st 29) "memory_fault" 281 Value.none "moduleyard.isa" 540,
  tE,
  fE,
  tS 604 ["row", "name", "cond", "c", "last"],
  tE,
  rO (st 30) "branch_fault",
  kO 288 P,
  kO 289 P,
  tE,
  fE,
  tS 615 ["row", "name"],
  tE,
  rO (st 31) "row_fault",
  kO 295 P,
  kO 296 P,
  tE,
  fE,
  tS 627 ["row"],
  tE,
  rO (st 34) "is_call",
  kO 302 P,
  kO 303 P,
  tE,
  fE,
  tS 634 ["row"],
  tE,
  rO (st 35) "ends_way",
  kO 309 P,
  kO 310 P,
  tE,
  fE,
  tS 641 ["o", "faults", "at"],
  tE,
  rO (st 36) "row_faults",
  kO 316 P,
  kO 317 P,
  tE,
  fE,
  tS 650 ["o", "found", "at", "kind", "module", "entry"],
  tE,
  rO (st 37) "imported_calls",
  kO 323 P,
  kO 324 P,
  tE,
  fE,
  tS 662 ["o", "faults", "imported", "at", "row", "target"],
  tE,
  rO (st 38) "target_faults",
  kO 330 P,
  kO 331 P,
  tE,
  fE,
  tS 674 ["o", "faults", "at", "seen", "offset"],
  tE,
  rO (st 39) "map_faults",
  kO 337 P,
  kO 338 P,
  tE,
  fE,
  tS 685 ["o", "offset"],
  tE,
  rO (st 40) "is_word_offset",
  cO "is_word_offset" "is_word_offset" 682 285 2 (Value.ref 339) (Value.ref 340) Value.none (Value.ref 341) (Value.ref 342) (Value.ref 343) 687 688,
  fO (st 40) "is_word_offset" 344 Value.none "moduleyard.objcheck" 620,
  tE,
  fE,
  tS 693 ["o", "module", "entry"],
  tE,
  rO (st 41) "reference_fault",
  cO "reference_fault" "reference_fault" 690 287 3 (Value.ref 346) (Value.ref 347) Value.none (Value.ref 348) (Value.ref 349) (Value.ref 350) 696 697,
  fO (st 41) "reference_fault" 351 Value.none "moduleyard.objcheck" 620,
  tE,
  fE,
  tS 702 ["o", "faults", "seen", "offset", "word", "module", "entry"],
  tE,
  rO (st 42) "data_faults",
  kO 358 P,
  kO 359 P,
  tE,
  fE,
  tS 715 ["row", "kind"],
  tE,
  rO (st 43) "takes_fixup",
  cO "takes_fixup" "takes_fixup" 712 307 2 (Value.ref 360) (Value.ref 361) Value.none (Value.ref 362) (Value.ref 363) (Value.ref 364) 717 718,
  fO (st 43) "takes_fixup" 365 Value.none "moduleyard.objcheck" 620,
  tE,
  fE,
  tS 723 ["o", "faults", "seen", "at", "kind", "module", "entry"],
  tE,
  rO (st 44) "fixup_faults",
  kO 372 P,
  kO 373 P,
  tE,
  fE,
  tS 736 ["o", "faults", "number", "kind", "offset", "most", "name"],
  tE,
  rO (st 45) "entry_faults",
  kO 379 P,
  kO 380 P,
  tE,
  fE,
  tS 749 ["o", "faults", "seen", "number", "name"],
  tE,
  rO (st 46) "import_faults",
  kO 386 P,
  kO 387 P,
  tE,
  fE,
  tS 760 ["o", "faults"],
  tE,
  rO (st 47) "check_object",
  kO 393 P,
  kO 394 P,
  tE,
  fE,
  tS 770 ["script", "row", "cell", "figure", "lap"],
  tE,
  rO (st 49) "_law_row",
  kO 400 P,
  kO 401 P,
  tE,
  fE,
  tS 781 ["row"],
  tE,
  rO (st 50) "_law_next",
  kO 407 P,
  kO 408 P,
  tE,
  fE,
  tS 788 ["cond", "marks", "n", "z", "c", "v", "names", "at", "found"],
  tE,
  rO (st 51) "_law_holds",
  kO 414 P,
  kO 415 P,
  tE,
  fE,
  tS 803 ["word"],
  tE,
  rO (st 52) "_law_plus",
  cO "_law_plus" "_law_plus" 800 375 1 (Value.ref 416) (Value.ref 417) Value.none (Value.ref 418) (Value.ref 419) (Value.ref 420) 804 805,
  fO (st 52) "_law_plus" 421 Value.none "law_pb0364_01" 765,
  tE,
  fE,
  tS 810 ["name", "x", "y", "a", "b", "count", "over", "carry", "high", "found"],
  tE,
  rO (st 53) "_law_act",
  cO "_law_act" "_law_act" 807 377 3 (Value.ref 423) (Value.ref 424) Value.none (Value.ref 425) (Value.ref 426) (Value.ref 427) 820 821,
  fO (st 53) "_law_act" 428 Value.none "law_pb0364_01" 765,
  tE,
  fE,
  rO (st 54) "_law_got",
  cO "_law_got" "_law_got" 823 415 2 (Value.ref 430) (Value.ref 431) Value.none Value.none Value.none (Value.ref 432) 826 827,
  fO (st 54) "_law_got" 433 Value.none "law_pb0364_01" 765,
  tE,
  fE,
  tS 832 ["machine", "regs", "cells", "name", "a", "b", "c", "at", "step", "goal", "x", "y", "high"],
  tE,
  rO (st 55) "_law_step",
  kO 440 P,
  kO 441 P,
  tE,
  fE,
  tS 851 ["name"],
  tE,
  rO (st 56) "_law_table",
  kO 447 P,
  kO 448 P,
  tE,
  fE,
  rO (st 57) "law",
  kO 452 P,
  kO 453 P]
noncomputable def H1 (P : Params) : Heap := ⟨⟨hl P⟩, {}⟩
end hd
end Mine
end
section
open PySem PySem.W PyProof.Rows
namespace Mine
abbrev pgW : Program := PySem.Challenge.rw_pb0364_01.row.prog
theorem opW : ∀ w, (fencedOpening treeTable pgW w 5636).map (fun s => (s.heap, s.gens, s.drawn, s.toks)) = some (boot_heap w.params, Array.mk [], boot_drawn, boot_toks) :=
  boot_open (by kernel_rfl) (by kernel_rfl) fun _ => by kernel_rfl
theorem szW : ∀ w : World, ((boot_heap w.params).isNs mainGlobals && (Array.mk [] : Array GenState).size == 0, (boot_heap w.params).objs.size, (boot_heap w.params).nsMap mainGlobals "__annotations__") = (true, 11, some (Value.ref 6)) := fun w => by kernel_rfl
def chg (v : Value) : List DictEntry → List DictEntry
  | e :: r => { e with val := v } :: r
  | [] => []
/-- the main names behind some statements -/
def m3 (m : Nat) (v : Value) : Obj → Obj
  | ⟨c, d, .dict es _, sl⟩ => ⟨c, d, .dict ⟨chg v (es.toList.take m)⟩ m, sl⟩
  | x => x
def m12 (k : Nat) : Obj → Obj
  | ⟨c, d, .fields xs, sl⟩ => ⟨c, d, .fields ⟨xs.toList.take k⟩, sl⟩
  | x => x
/-- the heap behind some statements of the top: n objects, m main names, k words of the text's constants -/
noncomputable def Hm (n m k : Nat) (x : String) (t : Nat) (P : Params) : Heap :=
  ⟨⟨(((hd.hl P).take n).modify 3 (m3 m (.str (Str.ofString x) t))).modify 12 (m12 k)⟩, {}⟩
noncomputable abbrev sm (n m k : Nat) (x : String) (t toks : Nat) (w : World) (os : OsState) : Shared := ⟨Hm n m k x t w.params, Array.mk [], {}, toks, os⟩
noncomputable abbrev sW (w : World) (os : OsState) : Shared := ⟨boot_heap w.params, Array.mk [], boot_drawn, boot_toks, os⟩
noncomputable abbrev eS (w : World) (os : OsState) : Shared := ⟨hd.H1 w.params, Array.mk [], {}, 861, os⟩
def envW : Env := { scope := pgW.main.scope, locals := mainNs, globals := mainNs, cells := [], code := .ref 13, frame := some 14 }
def B0 : List Stmt := behindTheImports pgW
def B1 : List Stmt := B0.drop 8
def B2 : List Stmt := B1.drop 3
def B3 : List Stmt := B2.drop 15
def B4 : List Stmt := B3.drop 16
abbrev cW : Code := .body B0 envW
noncomputable abbrev tR (w : World) := topRun treeTable pgW w 11 (some (Value.ref 6))
noncomputable abbrev gR (w : World) := segRun treeTable pgW w 11 (some (Value.ref 6)) 1
set_option maxRecDepth 100000
theorem pre0 : ∀ (w : World) (os : OsState), topGo treeTable pgW w 11 (some (Value.ref 6)) 12 (sW w os) (topStub pgW) = some (sm 15 9 0 "__main__" 164 187 w os, ⟨denote treeTable cW, cW, default, [topFrame default]⟩) := fun w os => by
  rewrite [PySem.W.Fast.te15667345088766844465, PySem.W.Fast.te14364793385576792824, PySem.W.Fast.te11892475500146522536]
  kernel_rfl
theorem blk0 : ∀ (w : World) (os : OsState), gR w 1 (sm 15 9 0 "__main__" 164 187 w os) (blockOf B0 envW cW default [topFrame default]) = some (.next, sm 15 9 0 "__main__" 164 187 w os, cW, default) := fun w os => by
  unfold gR
  rewrite [PySem.W.Fast.te14374325043358763698, PySem.W.Fast.te14364793385576792824]
  kernel_rfl
theorem pc1 : ∀ (w : World) (os : OsState), gR w 1000 (sm 15 9 0 "__main__" 164 187 w os) (piecesOf (B0.take 8) envW cW default [topFrame default]) = some (.next, sm 92 14 15 "moduleyard.types" 250 339 w os, cW, ⟨48, 0, 64, 28⟩) := fun w os => by
  unfold gR
  rewrite [PySem.W.Fast.te14374325043358763698, PySem.W.Fast.te14364793385576792824]
  kernel_rfl
theorem pc2 : ∀ (w : World) (os : OsState), gR w 1000 (sm 92 14 15 "moduleyard.types" 250 339 w os) (piecesOf (B1.take 3) envW cW ⟨48, 0, 64, 28⟩ [topFrame default]) = some (.next, sm 156 16 21 "moduleyard.stdmods" 440 442 w os, cW, ⟨105, 0, 105, 8⟩) := fun w os => by
  unfold gR
  rewrite [PySem.W.Fast.te14374325043358763698, PySem.W.Fast.te14364793385576792824]
  kernel_rfl
theorem pc3 : ∀ (w : World) (os : OsState), gR w 1000 (sm 156 16 21 "moduleyard.stdmods" 440 442 w os) (piecesOf (B2.take 15) envW cW ⟨105, 0, 105, 8⟩ [topFrame default]) = some (.next, sm 255 30 63 "moduleyard.isa" 540 569 w os, cW, ⟨185, 0, 186, 106⟩) := fun w os => by
  unfold gR
  rewrite [PySem.W.Fast.te14374325043358763698, PySem.W.Fast.te14364793385576792824]
  kernel_rfl
theorem pc4 : ∀ (w : World) (os : OsState), gR w 1000 (sm 255 30 63 "moduleyard.isa" 540 569 w os) (piecesOf (B3.take 16) envW cW ⟨185, 0, 186, 106⟩ [topFrame default]) = some (.next, sm 353 45 105 "moduleyard.objcheck" 620 699 w os, cW, ⟨287, 0, 290, 61⟩) := fun w os => by
  unfold gR
  rewrite [PySem.W.Fast.te14374325043358763698, PySem.W.Fast.te14364793385576792824]
  kernel_rfl
theorem pc5 : ∀ (w : World) (os : OsState), tR w 1000 (sm 353 45 105 "moduleyard.objcheck" 620 699 w os) (restOf B4 envW cW ⟨287, 0, 290, 61⟩ [topFrame default]) = some (eS w os) := fun w os => by
  unfold tR
  rewrite [PySem.W.Fast.te14082659384304107361, PySem.W.Fast.te14364793385576792824]
  kernel_rfl
theorem cutB {w : World} {n N : Nat} {s s' r : Shared} {l : List Stmt} (j : Nat) {p p' : Pos} (h : gR w n s (piecesOf (l.take j) envW cW p [topFrame default]) = some (.next, s', cW, p'))
    (k : tR w N s' (restOf (l.drop j) envW cW p' [topFrame default]) = some r) : tR w (n + N) s (restOf l envW cW p [topFrame default]) = some r := by
  have e := piece_app h k
  rw [List.take_append_drop] at e
  exact e
theorem runW : ∀ (w : World) (os : OsState), tR w (12 + (1 + (1000 + (1000 + (1000 + (1000 + 1000)))))) (sW w os) (topStub pgW) = some (eS w os) := fun w os =>
  go_top (pre0 w os) (piece_block (blk0 w os) (cutB 8 (pc1 w os) (cutB 3 (pc2 w os) (cutB 15 (pc3 w os) (cutB 16 (pc4 w os) (pc5 w os))))))
end Mine
end
section
open PySem PySem.W PyProof.Rows
namespace Mine
noncomputable def HK2 : Hook := kHook Mine.hd.heap_39 asK asOk
abbrev vw : Program := Mine.hd.view_39
abbrev lo : List Str := [Str.ofString "parameter"]
abbrev xtW : Shared → Bool := fun s => xlAt vw [] s && recOk (RowW.records PySem.Challenge.rw_pb0364_01.row.toRowW) s
noncomputable abbrev sn (w : World) (os : OsState) := PySem.W.Fast.tw4187177175401517315 vw lo (importedModules pgW.main.body) xtW true (eS w os)
set_option maxRecDepth 100000
theorem l0 : ∀ (w : World) (os : OsState), (staticsOk (importedModules pgW.main.body) (boot_heap w.params) (hd.H1 w.params) && namesBound pgW (hd.H1 w.params) && gensDone (eS w os) && laidKept (boot_heap w.params) (hd.H1 w.params)) = true := fun w os => by kernel_rfl
theorem l1q : ∀ (w : World) (os : OsState), (sn w os).1 = ⟨(PySem.W.Fast.tw3399658132070893891 vw).map fun d => some d.shape, true, [], true, true, true, 0⟩ := fun w os => by kernel_rfl
theorem l1e : expectedOf vw = ⟨(PySem.W.Fast.tw3399658132070893891 vw).map fun d => some d.shape, true, [], true, true, true, 0⟩ := by
  unfold expectedOf
  rw [PySem.W.Fast.te3399658132070893891]
theorem l1 : ∀ (w : World) (os : OsState), (sn w os).1 = expectedOf vw := fun w os => (l1q w os).trans l1e.symm
theorem l2 : ∀ (w : World) (os : OsState), (sn w os).2.1 = bltViewBooted := fun w os => by kernel_rfl
theorem l3 : ∀ (w : World) (os : OsState), (sn w os).2.2.1 = true := fun w os => by kernel_rfl
theorem l4 : ∀ (w : World) (os : OsState), (sn w os).2.2.2.1 = true := fun w os => by kernel_rfl
theorem l5 : ∀ (w : World) (os : OsState), (sn w os).2.2.2.2.1 = pinGoodD (drecsOf vw) := fun w os => by kernel_rfl
theorem lq : ∀ (w : World) (os : OsState), (sn w os).2.2.2.2.2.1 = plainGoodE vw (PySem.W.Fast.tw821141287760084731 vw lo) := fun w os => by kernel_rfl
theorem l6 : ∀ (w : World) (os : OsState), (sn w os).2.2.2.2.2.1 = plainGoodE vw (looseW vw lo) := fun w os => (lq w os).trans (congrArg (plainGoodE vw) (congrFun (congrFun PySem.W.Fast.te821141287760084731 vw) lo).symm)
theorem l7 : ∀ (w : World) (os : OsState), (sn w os).2.2.2.2.2.2.1 = plainGoodD vw lo := fun w os => by kernel_rfl
theorem l8 : ∀ (w : World) (os : OsState), (sn w os).2.2.2.2.2.2.2.1 = wideGood vw := fun w os => by kernel_rfl
theorem l9 : ∀ (w : World) (os : OsState), (sn w os).2.2.2.2.2.2.2.2 = clsGoodW vw lo := fun w os => by kernel_rfl
theorem l10 : ∀ (w : World) (os : OsState), HK2.obs (eS w os) = HK2.val w := fun w os => by kernel_rfl
theorem pe9 {A1 A2 A3 A4 A5 A6 A7 A8 A9 : Type} {x : A1 × A2 × A3 × A4 × A5 × A6 × A7 × A8 × A9} {a1 : A1} {a2 : A2} {a3 : A3} {a4 : A4} {a5 : A5} {a6 : A6} {a7 : A7} {a8 : A8} {a9 : A9}
    (h1 : x.1 = a1) (h2 : x.2.1 = a2) (h3 : x.2.2.1 = a3) (h4 : x.2.2.2.1 = a4) (h5 : x.2.2.2.2.1 = a5) (h6 : x.2.2.2.2.2.1 = a6) (h7 : x.2.2.2.2.2.2.1 = a7) (h8 : x.2.2.2.2.2.2.2.1 = a8) (h9 : x.2.2.2.2.2.2.2.2 = a9) : x = (a1, a2, a3, a4, a5, a6, a7, a8, a9) :=
  Prod.ext h1 (Prod.ext h2 (Prod.ext h3 (Prod.ext h4 (Prod.ext h5 (Prod.ext h6 (Prod.ext h7 (Prod.ext h8 h9)))))))
theorem gW : openGood vw lo = (expectedOf vw, bltViewBooted, true, true, pinGoodD (drecsOf vw), plainGoodE vw (looseW vw lo), plainGoodD vw lo, wideGood vw, clsGoodW vw lo) := by with_unfolding_all exact Eq.refl _
theorem snE (w : World) (os : OsState) : openSeen vw lo (importedModules pgW.main.body) xtW true (eS w os) = openGood vw lo :=
  (congrFun (congrFun (congrFun (congrFun (congrFun (congrFun PySem.W.Fast.te4187177175401517315 vw) lo) (importedModules pgW.main.body)) xtW) true) (eS w os)).trans
    ((pe9 (l1 w os) (l2 w os) (l3 w os) (l4 w os) (l5 w os) (l6 w os) (l7 w os) (l8 w os) (l9 w os)).trans gW.symm)
theorem left2 : LeftO PySem.Challenge.rw_pb0364_01.row.prog vw lo (fun s => xlAt vw [] s && recOk (RowW.records PySem.Challenge.rw_pb0364_01.row.toRowW) s) (Hook.obs HK2) (Hook.val HK2) 5636 :=
  LeftO.of_pieces (H₀ := boot_heap) (H₁ := hd.H1) opW szW runW (by decide) fun w => funext fun os => Prod.ext (l0 w os) (Prod.ext (snE w os) (l10 w os))
end Mine
end
section
open PySem PySem.W PyProof.Rows
namespace Mine
abbrev RWL := PySem.Challenge.rw_pb0364_01
abbrev pS : Program := RWL.row.prog
set_option maxRecDepth 100000
theorem q1 : sreFenced pS.main = true := (congrFun PySem.W.Fast.te11788848310118352699 _).trans (by kernel_rfl)
theorem q2 : ((moduleNames pS.main.body).isEmpty || lookedIntoSs (moduleNames pS.main.body) pS.main.body) = true := by kernel_rfl
theorem q3 : namesResolve pS = true := (congrFun PySem.W.Fast.te8377067652309620493 _).trans (by kernel_rfl)
theorem q4 : (pS.boundNames.all fun n => !worldNames.contains n) = true := by kernel_rfl
theorem b1 : (!(importedModules pS.main.body).all cThrough.contains) = false := by kernel_rfl
theorem r1 : readsOut pS pS.main.body (Str.ofString "vars") = false := (congrFun (congrFun (congrFun PySem.W.Fast.te13343964577679436407 _) _) _).trans (by kernel_rfl)
theorem r2 : readsOut pS pS.main.body (Str.ofString "dir") = false := (congrFun (congrFun (congrFun PySem.W.Fast.te13343964577679436407 _) _) _).trans (by kernel_rfl)
theorem r3 : readsOut pS pS.main.body (Str.ofString "locals") = false := (congrFun (congrFun (congrFun PySem.W.Fast.te13343964577679436407 _) _) _).trans (by kernel_rfl)
theorem b2 : List.filter (readsOut pS pS.main.body) [Str.ofString "vars", Str.ofString "dir", Str.ofString "locals"] = [] := by
  rw [List.filter_cons_of_neg (by rw [r1]; decide), List.filter_cons_of_neg (by rw [r2]; decide), List.filter_cons_of_neg (by rw [r3]; decide)]
  rfl
theorem b3 : noRoadLSs { strict := false, foot := none, bare := [] } pS.main.body = true := (congrFun (congrFun PySem.W.Fast.te8326940854005059898 _) _).trans (by kernel_rfl)
theorem q5 : noRoadLSs { strict := !(importedModules pS.main.body).all cThrough.contains, foot := none, bare := List.filter (readsOut pS pS.main.body) [Str.ofString "vars", Str.ofString "dir", Str.ofString "locals"] } pS.main.body = true := by rewrite [b1, b2]; exact b3
theorem q6 : (namesMeet pS pS.main.body fun _ n => attrL n) = true := (congrFun (congrFun (congrFun PySem.W.Fast.te17119622794617984870 _) _) _).trans (by kernel_rfl)
theorem sd1 : looksOpen RWL.row.prog = true := by
  unfold looksOpen
  exact look_both (look_both (look_both (look_both (look_both q1 q2) q3) q4) q5) q6
theorem sd2 : OpenRow.partSaid RWL.row = true := by
  unfold OpenRow.partSaid
  iterate 13 (with_reducible refine look_both ?_ ?_)
  · exact sd1
  all_goals kernel_rfl
theorem h4 : noClassBlock RWL.prog RWL.footing = true := (congrFun (congrFun PySem.W.Fast.te8179353310426384613 _) _).trans (by kernel_rfl)
theorem h7 : noRoadLSs { strict := true, foot := some RWL.bound', writes := RWL.writes, may := RWL.may } RWL.footing = true := (congrFun (congrFun PySem.W.Fast.te8326940854005059898 _) _).trans (by kernel_rfl)
theorem h9 : RWL.namesIt = true := (congrFun PySem.W.Fast.te16286561074155671207 _).trans (by kernel_rfl)
theorem h11 : (RWL.bound'.all fun n => !builtinNamed n || RWL.about == [n] || !RWL.reads n) = true := by kernel_rfl
theorem h12 : (!RWL.writes || (List.flatMap importedNames RWL.prog.main.body).all fun n => !RWL.reads n) = true := by kernel_rfl
theorem h14 : (namesMeet RWL.prog RWL.footing fun sc n => (![Str.ofString "type", Str.ofString "isinstance", Str.ofString "issubclass", Str.ofString "getattr", Str.ofString "hasattr"].contains n || List.lookup n sc.names == some NameKind.globalImplicit) &&
    (RWL.may != some n || sc.kind == ScopeKind.module || List.lookup n sc.names == some NameKind.globalImplicit)) = true := (congrFun (congrFun (congrFun PySem.W.Fast.te17119622794617984870 _) _) _).trans (by kernel_rfl)
theorem h17 : (RWL.own.all fun n => !builtinNamed n) = true := by kernel_rfl
theorem h18 : (namesMeet RWL.prog RWL.above fun _ n => !RWL.own.contains n) = true := (congrFun (congrFun (congrFun PySem.W.Fast.te17119622794617984870 _) _) _).trans (by kernel_rfl)
theorem h19 : (namesMeet RWL.prog RWL.footing fun sc n => sc.kind == ScopeKind.module || List.lookup n sc.names != some NameKind.globalExplicit) = true := (congrFun (congrFun (congrFun PySem.W.Fast.te17119622794617984870 _) _) _).trans (by kernel_rfl)
theorem sd3 : RWL.row.wellSaid = true := by
  unfold OpenRow.wellSaid
  exact look_both (look_both sd2 (by kernel_rfl)) (by kernel_rfl)
theorem said2 : RWL.wellSaid = true := by
  unfold OpenLaw.wellSaid
  iterate 18 (with_reducible refine look_both ?_ ?_)
  · exact sd3
  · kernel_rfl
  · kernel_rfl
  · with_reducible exact h4
  · kernel_rfl
  · kernel_rfl
  · with_reducible exact h7
  · kernel_rfl
  · with_reducible exact h9
  · kernel_rfl
  · with_reducible exact h11
  · with_reducible exact h12
  · kernel_rfl
  · with_reducible exact h14
  · kernel_rfl
  · kernel_rfl
  · with_reducible exact h17
  · with_reducible exact h18
  · with_reducible exact h19
end Mine
end
section
open PySem PySem.W PySem.Calls PyProof.Rows
namespace Vx
/-- what the draws give: the script's row, its end first; where it stands; what is known of some draws' remainders -/
class Rho where
  L : List Int
  le : L.length ≤ 160
  D : Addr
  fm : List (Nat × Int × Int)
  ok : ∀ f ∈ fm, Int.fmod ((L.drop f.1).headD 0) f.2.1 = f.2.2
abbrev Rho.r [R : Rho] (k : Nat) : Int := (R.L.drop k).headD 0
/-- what the executor knows of a value: its token is forgotten, an own object is told by its number -/
inductive SV where
  | int (i : Int)
  | str (s : Str)
  | bool (b : Bool)
  | none
  | own (i : Nat)
  | val (v : Value)
  /-- a drawn int -/
  | sym (k : Nat)
  | anyi
  | anyb
/-- an own object -/
inductive SO where
  | list (l : List SV)
  | tup (l : List SV)
  | inst (C : Addr) (d : Nat)
  | attrs (l : List (Str × SV))
  /-- an empty dict -/
  | edict
  /-- Types' dict of the known: so many keys, each a tuple of the call's -/
  | known (k : Nat)
  /-- a dict by texts -/
  | sdict (l : List (Str × SV))
  /-- the script's row behind so many draws -/
  | row (k : Nat)
variable [Rho]
inductive All2 {α β : Type} (R : α → β → Prop) : List α → List β → Prop where
  | nil : All2 R [] []
  | cons {a b l r} : R a b → All2 R l r → All2 R (a :: l) (b :: r)
namespace All2
variable {α β : Type} {R S : α → β → Prop}
theorem mono (h : ∀ a b, R a b → S a b) : ∀ {l r}, All2 R l r → All2 S l r
  | _, _, .nil => .nil
  | _, _, .cons x y => .cons (h _ _ x) (mono h y)
theorem length : ∀ {l : List α} {r : List β}, All2 R l r → l.length = r.length
  | _, _, .nil => rfl
  | _, _, .cons _ y => congrArg Nat.succ (length y)
theorem append : ∀ {l : List α} {r : List β} {l' r'}, All2 R l r → All2 R l' r' → All2 R (l ++ l') (r ++ r')
  | _, _, _, _, .nil, h => h
  | _, _, _, _, .cons x y, h => .cons x (append y h)
theorem get : ∀ {l : List α} {r : List β} {i : Nat} {a : α}, All2 R l r → l[i]? = some a → ∃ b, r[i]? = some b ∧ R a b
  | _, _, 0, _, .cons x _, h => by cases h; exact ⟨_, rfl, x⟩
  | _, _, i + 1, _, .cons _ y, h => get (i := i) y h
  | _, _, _, _, .nil, h => by cases h
theorem set : ∀ {l : List α} {r : List β} {i : Nat} {a : α} {b : β}, All2 R l r → R a b → All2 R (l.set i a) (r.set i b)
  | _, _, _, _, _, .nil, _ => .nil
  | _, _, 0, _, _, .cons _ y, h => .cons h y
  | _, _, i + 1, _, _, .cons x y, h => .cons x (set (i := i) y h)
end All2
def RV (as : List Addr) : SV → Value → Prop
  | .int i, v => ∃ t, v = .int i t
  | .str x, v => ∃ t, v = .str x t
  | .bool b, v => v = .bool b
  | .none, v => v = .none
  | .own i, v => ∃ a, as[i]? = some a ∧ v = .ref a
  | .val u, v => v = u
  | .sym k, v => ∃ t, v = .int (Rho.r k) t
  | .anyi, v => ∃ i t, v = .int i t
  | .anyb, v => ∃ b, v = .bool b
theorem getExt {α : Type} {l ext : List α} {i : Nat} {a : α} (h : l[i]? = some a) : (l ++ ext)[i]? = some a := by
  obtain ⟨hl, he⟩ := List.getElem?_eq_some_iff.mp h
  rw [List.getElem?_append_left hl]
  exact h
theorem RV.ext {as ext : List Addr} {sv : SV} {v : Value} (h : RV as sv v) : RV (as ++ ext) sv v := by
  cases sv with
  | own i => obtain ⟨a, h1, h2⟩ := h; exact ⟨a, getExt h1, h2⟩
  | _ => exact h
def REnt (as : List Addr) (p : Str × SV) (e : DictEntry) : Prop := (∃ t, e.key = .str p.1 t) ∧ RV as p.2 e.val
abbrev Led := List (Addr × Obj)
abbrev KnT := Led ⊕ List (Str × Value) → Addr → Obj → Prop
def RKv (as : List Addr) (p : Str × SV) (q : Str × Value) : Prop := q.1 = p.1 ∧ RV as p.2 q.2
def RO (kn : KnT) (as : List Addr) (tl : Addr × Obj → Prop) (a : Addr) : SO → Obj → Prop
  | .list l, o => ∃ vs n, o = listOf vs.toArray n ∧ All2 (RV as) l vs
  | .tup l, o => ∃ vs, o = { cls := .type "tuple", data := .seq vs.toArray } ∧ All2 (RV as) l vs
  | .inst C d, o => ∃ dx, as[d]? = some dx ∧ o = instObj C dx
  | .attrs l, o => ∃ es n, o = dictOf es n ∧ All2 (REnt as) l es
  | .edict, o => (a == sysModules) = false ∧ ∃ n, o = dictOf [] n
  | .known k, o => ∃ ks, kn (.inl ks) a o ∧ ks.length = k ∧ ∀ q ∈ ks, tl q
  | .sdict l, o => (a == sysModules) = false ∧ ∃ kvs, kn (.inr kvs) a o ∧ All2 (RKv as) l kvs
  | .row k, o => a = Rho.D ∧ ∃ us n, o = listOf us.toArray n ∧ IntsAre us (Rho.L.drop k).reverse
theorem RO.ext {kn : KnT} {as ext : List Addr} {tl tl' : Addr × Obj → Prop} {a : Addr} {so : SO} {o : Obj} (ht : ∀ q, tl q → tl' q) (h : RO kn as tl a so o) : RO kn (as ++ ext) tl' a so o := by
  cases so with
  | list l => obtain ⟨vs, n, e, h⟩ := h; exact ⟨vs, n, e, h.mono fun _ _ => RV.ext⟩
  | tup l => obtain ⟨vs, e, h⟩ := h; exact ⟨vs, e, h.mono fun _ _ => RV.ext⟩
  | inst C d => obtain ⟨dx, h1, h2⟩ := h; exact ⟨dx, getExt h1, h2⟩
  | attrs l => obtain ⟨es, n, e, h⟩ := h; exact ⟨es, n, e, h.mono fun _ _ q => ⟨q.1, q.2.ext⟩⟩
  | edict => exact h
  | known k => obtain ⟨ks, h1, h2, h3⟩ := h; exact ⟨ks, h1, h2, fun q hq => ht q (h3 q hq)⟩
  | sdict l => obtain ⟨h1, kvs, h2, h3⟩ := h; exact ⟨h1, kvs, h2, h3.mono fun _ _ q => ⟨q.1, q.2.ext⟩⟩
  | row k => exact h
theorem RO.sub {kn : KnT} {as : List Addr} {tl tl' : Addr × Obj → Prop} {a : Addr} {so : SO} {o : Obj} (ht : ∀ q, tl q → tl' q) (h : RO kn as tl a so o) : RO kn as tl' a so o := by
  have := RO.ext (ext := []) ht h
  rw [List.append_nil] at this
  exact this
def isTupS : SO → Bool
  | .tup _ => true
  | _ => false
/-! the own objects: a tree by their numbers -/
inductive OT where
  | lf
  | val (v : SO)
  | br (l r : OT)
def OT.lft : OT → OT
  | .br l _ => l
  | _ => .lf
def OT.rgt : OT → OT
  | .br _ r => r
  | _ => .lf
def OT.it : OT → Option SO
  | .val v => some v
  | _ => none
noncomputable def otGet (d : Nat) : OT → Nat → Option SO := Nat.rec (fun t _ => t.it) (fun d ih t i => Bool.rec (ih t.lft i) (ih t.rgt (i - 2 ^ d)) (Nat.ble (2 ^ d) i)) d
noncomputable def otPut (v : SO) (d : Nat) : OT → Nat → OT := Nat.rec (fun _ _ => .val v) (fun d ih t i => Bool.rec (.br (ih t.lft i) t.rgt) (.br t.lft (ih t.rgt (i - 2 ^ d))) (Nat.ble (2 ^ d) i)) d
theorem otGet_succ (d : Nat) (t : OT) (i : Nat) : otGet (d + 1) t i = Bool.rec (otGet d t.lft i) (otGet d t.rgt (i - 2 ^ d)) (Nat.ble (2 ^ d) i) := rfl
theorem otPut_succ (v : SO) (d : Nat) (t : OT) (i : Nat) : otPut v (d + 1) t i = Bool.rec (.br (otPut v d t.lft i) t.rgt) (.br t.lft (otPut v d t.rgt (i - 2 ^ d))) (Nat.ble (2 ^ d) i) := rfl
theorem otGet_lf : ∀ {d i : Nat}, otGet d .lf i = none
  | 0, _ => rfl
  | d + 1, i => by
    rw [otGet_succ]
    cases Nat.ble (2 ^ d) i <;> exact otGet_lf
theorem ot_put {v : SO} : ∀ {d : Nat} {t : OT} {i j : Nat}, i < 2 ^ d → j < 2 ^ d → otGet d (otPut v d t i) j = if i = j then some v else otGet d t j
  | 0, t, i, j, hi, hj => by
    rw [if_pos (show i = j by have := Nat.pow_zero 2; omega)]
    rfl
  | d + 1, t, i, j, hi, hj => by
    have h2 : 2 ^ (d + 1) = 2 ^ d + 2 ^ d := by rw [Nat.pow_succ]; omega
    rw [otGet_succ, otPut_succ, otGet_succ]
    cases q1 : Nat.ble (2 ^ d) i with
    | true =>
      have q1 := Nat.le_of_ble_eq_true q1
      cases q2 : Nat.ble (2 ^ d) j with
      | true =>
        have q2 := Nat.le_of_ble_eq_true q2
        refine (ot_put (t := t.rgt) (i := i - 2 ^ d) (j := j - 2 ^ d) (by omega) (by omega)).trans ?_
        by_cases h : i = j
        · rw [if_pos h, if_pos (by omega)]
        · rw [if_neg h, if_neg (by omega)]
      | false =>
        have q2 : ¬ 2 ^ d ≤ j := fun z => by rw [Nat.ble_eq_true_of_le z] at q2; cases q2
        rw [if_neg (by omega)]
        rfl
    | false =>
      have q1 : ¬ 2 ^ d ≤ i := fun z => by rw [Nat.ble_eq_true_of_le z] at q1; cases q1
      cases q2 : Nat.ble (2 ^ d) j with
      | true =>
        have q2 := Nat.le_of_ble_eq_true q2
        rw [if_neg (by omega)]
        rfl
      | false =>
        have q2 : ¬ 2 ^ d ≤ j := fun z => by rw [Nat.ble_eq_true_of_le z] at q2; cases q2
        exact ot_put (t := t.lft) (by omega) (by omega)
structure OH where
  t : OT
  n : Nat
noncomputable def OH.get (h : OH) (i : Nat) : Option SO := Bool.rec (otGet 9 h.t i) none (Nat.ble 512 i)
noncomputable def OH.put (h : OH) (i : Nat) (v : SO) : OH := ⟨otPut v 9 h.t i, h.n⟩
noncomputable def OH.push (h : OH) (v : SO) : OH := ⟨Bool.rec (otPut v 9 h.t h.n) .lf (Nat.ble 512 h.n), h.n + 1⟩
theorem OH.get_lt {h : OH} {i : Nat} {x : SO} (e : h.get i = some x) : i < 512 ∧ otGet 9 h.t i = some x := by
  unfold OH.get at e
  revert e
  cases q : Nat.ble 512 i with
  | true => intro e; cases e
  | false => exact fun e => ⟨Nat.lt_of_not_le (fun z => by rw [Nat.ble_eq_true_of_le z] at q; cases q), e⟩
theorem OH.get_of {h : OH} {i : Nat} (l : i < 512) : h.get i = otGet 9 h.t i := by
  unfold OH.get
  cases q : Nat.ble 512 i with
  | true => have := Nat.le_of_ble_eq_true q; omega
  | false => rfl
theorem OH.get_put {h : OH} {i j : Nat} {x y v : SO} (e : h.get i = some x) (e' : (h.put i v).get j = some y) : (j = i ∧ y = v) ∨ (j ≠ i ∧ h.get j = some y) := by
  obtain ⟨l1, _⟩ := OH.get_lt e
  obtain ⟨l2, g⟩ := OH.get_lt e'
  have g : otGet 9 (otPut v 9 h.t i) j = some y := g
  rw [ot_put (d := 9) l1 l2] at g
  by_cases q : i = j
  · rw [if_pos q] at g
    cases g
    exact .inl ⟨q.symm, rfl⟩
  · rw [if_neg q] at g
    exact .inr ⟨fun z => q z.symm, by rw [OH.get_of l2]; exact g⟩
theorem OH.put_old {h : OH} {i j : Nat} {x y v : SO} (e : h.get i = some x) (e' : h.get j = some y) (ne : j ≠ i) : (h.put i v).get j = some y := by
  obtain ⟨l1, _⟩ := OH.get_lt e
  obtain ⟨l2, g⟩ := OH.get_lt e'
  rw [OH.get_of l2]
  show otGet 9 (otPut v 9 h.t i) j = some y
  rw [ot_put (d := 9) l1 l2, if_neg fun z => ne z.symm, g]
theorem OH.get_push {h : OH} {j : Nat} {y v : SO} (e' : (h.push v).get j = some y) : h.n < 512 ∧ ((j = h.n ∧ y = v) ∨ (j ≠ h.n ∧ h.get j = some y)) := by
  obtain ⟨l2, g⟩ := OH.get_lt e'
  unfold OH.push at g
  revert g
  cases q : Nat.ble 512 h.n with
  | true => intro g; rw [show otGet 9 OT.lf j = none from otGet_lf] at g; cases g
  | false =>
    intro g
    have l1 : h.n < 512 := Nat.lt_of_not_le fun z => by rw [Nat.ble_eq_true_of_le z] at q; cases q
    have g : otGet 9 (otPut v 9 h.t h.n) j = some y := g
    rw [ot_put (d := 9) l1 l2] at g
    refine ⟨l1, ?_⟩
    by_cases q : h.n = j
    · rw [if_pos q] at g
      cases g
      exact .inl ⟨q.symm, rfl⟩
    · rw [if_neg q] at g
      exact .inr ⟨fun z => q z.symm, by rw [OH.get_of l2]; exact g⟩
theorem OH.push_old {h : OH} {j : Nat} {y v : SO} (l1 : h.n < 512) (e' : h.get j = some y) (ne : j ≠ h.n) : (h.push v).get j = some y := by
  obtain ⟨l2, g⟩ := OH.get_lt e'
  rw [OH.get_of l2]
  unfold OH.push
  cases q : Nat.ble 512 h.n with
  | true => have := Nat.le_of_ble_eq_true q; omega
  | false =>
    show otGet 9 (otPut v 9 h.t h.n) j = some y
    rw [ot_put (d := 9) l1 l2, if_neg fun z => ne z.symm, g]
/-- the tuples among the own objects -/
def tups (h : OH) (nw : Led) (q : Addr × Obj) : Prop := ∃ i l, h.get i = some (.tup l) ∧ nw[i]? = some q
theorem tups_mem {h : OH} {nw : Led} {r : Addr × Obj} : tups h nw r → r ∈ nw := fun ⟨_, _, _, e⟩ => List.mem_of_getElem? e
theorem tups_at {h : OH} {nw : Led} {i : Nat} {t : List SV} {q : Addr × Obj} (e : h.get i = some (.tup t)) (e' : nw[i]? = some q) : tups h nw q := ⟨i, t, e, e'⟩
theorem nodup_inj {α : Type} {a : α} {l : List α} : ∀ {i j : Nat}, l.Nodup → l[i]? = some a → l[j]? = some a → i = j := by
  induction l with
  | nil => intro i j _ h; simp at h
  | cons x r ih =>
    intro i j nd h1 h2
    rw [List.nodup_cons] at nd
    cases i with
    | zero =>
      cases j with
      | zero => rfl
      | succ j =>
        rw [List.getElem?_cons_zero] at h1
        rw [List.getElem?_cons_succ] at h2
        obtain rfl := Option.some.inj h1
        exact absurd (List.mem_of_getElem? h2) nd.1
    | succ i =>
      cases j with
      | zero =>
        rw [List.getElem?_cons_zero] at h2
        rw [List.getElem?_cons_succ] at h1
        obtain rfl := Option.some.inj h2
        exact absurd (List.mem_of_getElem? h1) nd.1
      | succ j =>
        rw [List.getElem?_cons_succ] at h1 h2
        rw [ih nd.2 h1 h2]
/-- the executor's state: the names of the frame, the own objects, the oldest first -/
structure SS where
  loc : List (Str × SV)
  objs : OH
  /-- the own objects that may not change for now -/
  frz : List Nat
abbrev adrs (nw : Led) : List Addr := nw.map (·.1)
/-- hid: objects that stand by unseen; kp: objects that may not change -/
structure Hid where
  hid : Led
  kp : Led
  kn : KnT
/-- the own objects, told -/
structure OR (kn : KnT) (as : List Addr) (h : OH) (nw : Led) : Prop where
  len : h.n = nw.length
  at_ : ∀ i so, h.get i = some so → ∃ q, nw[i]? = some q ∧ RO kn as (tups h nw) q.1 so q.2
structure Rel (hid : Hid) (h₀ : Heap) (L : Addr) (σ : SS) (h : Heap) (m : Str → Option Value) (nw : Led) : Prop where
  fr : Fr h₀ L h m
  nws : News h₀ L h (nw ++ hid.hid)
  nd : (adrs (nw ++ hid.hid)).Nodup
  ro : OR hid.kn (adrs nw) σ.objs nw
  rm : ∀ x sv, σ.loc.lookup x = some sv → ∃ v, m x = some v ∧ RV (adrs nw) sv v
  kp : ∀ q ∈ hid.kp, q ∈ nw ++ hid.hid
  fz : ∀ q ∈ hid.kp, (∃ i ∈ σ.frz, (adrs nw)[i]? = some q.1) ∨ q ∈ hid.hid
section
variable {h₀ h h' : Heap} {L : Addr} {σ : SS} {m m' : Str → Option Value} {nw : Led} {hid : Hid}
theorem Rel.len (R : Rel hid h₀ L σ h m nw) : σ.objs.n = nw.length := R.ro.len
/-- an own object by its number -/
theorem Rel.at {i : Nat} {so : SO} (R : Rel hid h₀ L σ h m nw) (e : σ.objs.get i = some so) : ∃ a o, nw[i]? = some (a, o) ∧ (adrs nw)[i]? = some a ∧ RO hid.kn (adrs nw) (tups σ.objs nw) a so o ∧ (a, o) ∈ nw ++ hid.hid := by
  obtain ⟨⟨a, o'⟩, q1, h2⟩ := R.ro.at_ _ _ e
  exact ⟨a, o', q1, by rw [List.getElem?_map, q1]; rfl, h2, List.mem_append_left _ (List.mem_of_getElem? q1)⟩
theorem OR.push {kn : KnT} {oh : OH} {a : Addr} {o : Obj} {so : SO} (R : OR kn (adrs nw) oh nw) (ho : RO kn (adrs nw) (tups oh nw) a so o) : OR kn (adrs (nw ++ [(a, o)])) (oh.push so) (nw ++ [(a, o)]) where
  len := by rw [List.length_append, List.length_singleton, ← R.len]; rfl
  at_ := fun i so' e => by
    obtain ⟨l1, e2⟩ := OH.get_push e
    have ht : ∀ q, tups oh nw q → tups (oh.push so) (nw ++ [(a, o)]) q := fun q ⟨j, l, g1, g2⟩ => by
      have hj := (List.getElem?_eq_some_iff.mp g2).1
      exact ⟨j, l, OH.push_old l1 g1 (by have := R.len; omega), getExt g2⟩
    rw [adrs, List.map_append]
    rcases e2 with ⟨rfl, rfl⟩ | ⟨_, e2⟩
    · exact ⟨(a, o), by rw [R.len, List.getElem?_append_right (Nat.le_refl _), Nat.sub_self]; rfl, ho.ext ht⟩
    · obtain ⟨q, g1, g2⟩ := R.at_ i so' e2
      exact ⟨q, getExt g1, g2.ext ht⟩
theorem OR.put {kn : KnT} {oh : OH} {a : Addr} {o o' : Obj} {so so' : SO} {i : Nat} {as : List Addr} (R : OR kn as oh nw) (e : nw[i]? = some (a, o)) (hs : oh.get i = some so') (t1 : isTupS so' = false) (ho : RO kn as (tups oh nw) a so o') : OR kn as (oh.put i so) (nw.set i (a, o')) where
  len := by rw [List.length_set, ← R.len]; rfl
  at_ := fun j so₂ e' => by
    have ht : ∀ q, tups oh nw q → tups (oh.put i so) (nw.set i (a, o')) q := fun q ⟨j, l, g1, g2⟩ => by
      have ne : j ≠ i := fun z => by rw [z, hs] at g1; cases g1; cases t1
      exact ⟨j, l, OH.put_old hs g1 ne, by rw [List.getElem?_set_ne fun z => ne z.symm]; exact g2⟩
    rcases OH.get_put hs e' with ⟨rfl, rfl⟩ | ⟨ne, e'⟩
    · exact ⟨(a, o'), by rw [List.getElem?_set_self (List.getElem?_eq_some_iff.mp e).1], ho.sub ht⟩
    · obtain ⟨q, g1, g2⟩ := R.at_ j so₂ e'
      exact ⟨q, by rw [List.getElem?_set_ne fun z => ne z.symm]; exact g1, g2.sub ht⟩
theorem Rel.alloc {a : Addr} {o : Obj} {so : SO} (R : Rel hid h₀ L σ h m nw) (F : Fr h₀ L h' m) (N : News h₀ L h' ((a, o) :: (nw ++ hid.hid))) (lt : ∀ p ∈ nw ++ hid.hid, p.1 < a) (ho : RO hid.kn (adrs nw) (tups σ.objs nw) a so o) :
    Rel hid h₀ L { σ with objs := σ.objs.push so } h' m (nw ++ [(a, o)]) where
  fr := F
  nws := fun p hp => N p (by
    rcases List.mem_append.mp hp with hp | hp
    · rcases List.mem_append.mp hp with hp | hp
      · exact .tail _ (List.mem_append_left _ hp)
      · rcases List.mem_singleton.mp hp with rfl; exact .head _
    · exact .tail _ (List.mem_append_right _ hp))
  nd := by
    have hnd := R.nd
    show ((nw ++ [(a, o)] ++ hid.hid).map (·.1)).Nodup
    rw [List.append_assoc]
    have hp : ((a, o) :: (nw ++ hid.hid)).Perm (nw ++ ([(a, o)] ++ hid.hid)) := by
      exact (List.perm_middle (a := (a, o)) (l₁ := nw) (l₂ := hid.hid)).symm
    refine (hp.map _).nodup_iff.mp ?_
    rw [List.map_cons, List.nodup_cons]
    refine ⟨fun hm => ?_, hnd⟩
    obtain ⟨q, hq, e⟩ := List.mem_map.mp hm
    exact Nat.ne_of_lt (lt q hq) e
  ro := R.ro.push ho
  rm := fun x sv e => by
    obtain ⟨v, h1, h2⟩ := R.rm x sv e
    refine ⟨v, h1, ?_⟩
    show RV ((nw ++ [(a, o)]).map (·.1)) sv v
    rw [List.map_append]
    exact h2.ext
  kp := fun q hq => by
    rcases List.mem_append.mp (R.kp q hq) with h | h
    · exact List.mem_append_left _ (List.mem_append_left _ h)
    · exact List.mem_append_right _ h
  fz := fun q hq => by
    rcases R.fz q hq with ⟨i, h1, h2⟩ | h
    · refine .inl ⟨i, h1, ?_⟩
      show ((nw ++ [(a, o)]).map (·.1))[i]? = _
      rw [List.map_append]
      exact getExt h2
    · exact .inr h
/-- the ledger stands, the heap grew -/
theorem Rel.same (R : Rel hid h₀ L σ h m nw) (F : Fr h₀ L h' m) (N : News h₀ L h' (nw ++ hid.hid)) : Rel hid h₀ L σ h' m nw := ⟨F, N, R.nd, R.ro, R.rm, R.kp, R.fz⟩
theorem updOf {a : Addr} {o o' : Obj} {nw : Led} : ∀ {i : Nat}, (nw.map (·.1)).Nodup → nw[i]? = some (a, o) → Upd a o o' nw (nw.set i (a, o')) := by
  induction nw with
  | nil => intro i _ e; simp at e
  | cons p r ih =>
    intro i nd e
    rw [List.map_cons, List.nodup_cons] at nd
    cases i with
    | zero =>
      rw [List.getElem?_cons_zero] at e
      obtain rfl := Option.some.inj e
      rw [List.set_cons_zero]
      exact .head fun p hp q => nd.1 (List.mem_map.mpr ⟨p, hp, q⟩)
    | succ i =>
      rw [List.getElem?_cons_succ] at e
      rw [List.set_cons_succ]
      exact .tail (fun q => nd.1 (List.mem_map.mpr ⟨_, List.mem_of_getElem? e, q.symm⟩)) (ih nd.2 e)
theorem setApp {i : Nat} {q q' : Addr × Obj} (e : nw[i]? = some q') : (nw ++ hid.hid).set i q = nw.set i q ++ hid.hid := by
  obtain ⟨hl, _⟩ := List.getElem?_eq_some_iff.mp e
  exact List.set_append_left _ _ hl
/-- the change of an own object, as the rules want it -/
theorem Rel.updAt {i : Nat} {a : Addr} {o o' : Obj} (R : Rel hid h₀ L σ h m nw) (e : nw[i]? = some (a, o)) : Upd a o o' (nw ++ hid.hid) (nw.set i (a, o') ++ hid.hid) := by
  rw [← setApp e]
  exact updOf R.nd (getExt e)
theorem mapSet {nw : Led} {i : Nat} {a : Addr} {o o' : Obj} (e : nw[i]? = some (a, o)) : (nw.set i (a, o')).map (·.1) = nw.map (·.1) := by
  rw [List.map_set]
  apply List.ext_getElem?
  intro j
  rw [List.getElem?_set]
  split
  · rename_i h
    subst h
    split
    · rw [List.getElem?_map, e]; rfl
    · rename_i hl
      rw [List.length_map] at hl
      rw [List.getElem?_eq_none (by simpa using hl)]
  · rfl
/-- an own object changes -/
theorem Rel.upd {i : Nat} {a : Addr} {o o' : Obj} {so : SO} (R : Rel hid h₀ L σ h m nw) (e : nw[i]? = some (a, o)) (hf : σ.frz.contains i = false) (F : Fr h₀ L h' m) (N : News h₀ L h' (nw.set i (a, o') ++ hid.hid)) {so' : SO} (hs : σ.objs.get i = some so') (t1 : isTupS so' = false) (t2 : isTupS so = false) (ho : RO hid.kn (adrs nw) (tups σ.objs nw) a so o') :
    Rel hid h₀ L { σ with objs := σ.objs.put i so } h' m (nw.set i (a, o')) where
  fr := F
  nws := N
  nd := by
    show ((nw.set i (a, o') ++ hid.hid).map (·.1)).Nodup
    rw [List.map_append, mapSet e, ← List.map_append]
    exact R.nd
  ro := by
    rw [adrs, mapSet e]
    exact R.ro.put e hs t1 ho
  rm := fun x sv q => by
    obtain ⟨v, h1, h2⟩ := R.rm x sv q
    refine ⟨v, h1, ?_⟩
    show RV ((nw.set i (a, o')).map (·.1)) sv v
    rw [mapSet e]
    exact h2
  kp := fun q hq => by
    rcases List.mem_append.mp (R.kp q hq) with h | h
    · obtain ⟨j, hj⟩ := List.mem_iff_getElem?.mp h
      by_cases hij : i = j
      · subst hij
        have e1 : q = (a, o) := Option.some.inj (hj.symm.trans e)
        rcases R.fz q hq with ⟨i', h1, h2⟩ | h3
        · have h4 : (adrs nw)[i]? = some q.1 := by rw [adrs, List.getElem?_map, hj]; rfl
          have hnd := R.nd
          rw [adrs, List.map_append] at hnd
          have hn1 := (List.nodup_append.mp hnd).1
          have : i' = i := nodup_inj hn1 h2 h4
          subst this
          have hc : σ.frz.contains i' = true := by simpa using h1
          rw [hc] at hf
          cases hf
        · exact List.mem_append_right _ h3
      · exact List.mem_append_left _ (List.mem_iff_getElem?.mpr ⟨j, by rw [List.getElem?_set_ne hij]; exact hj⟩)
    · exact List.mem_append_right _ h
  fz := fun q hq => by
    rcases R.fz q hq with ⟨j, h1, h2⟩ | h
    · refine .inl ⟨j, h1, ?_⟩
      show ((nw.set i (a, o')).map (·.1))[j]? = _
      rw [mapSet e]
      exact h2
    · exact .inr h
/-- a name is bound -/
theorem Rel.store {x : Str} {sv : SV} {v : Value} (R : Rel hid h₀ L σ h m nw) (hv : RV (adrs nw) sv v) (F : Fr h₀ L h' (fun y => if y = x then some v else m y)) (N : News h₀ L h' (nw ++ hid.hid)) :
    Rel hid h₀ L { σ with loc := (x, sv) :: σ.loc } h' (fun y => if y = x then some v else m y) nw where
  fr := F
  nws := N
  nd := R.nd
  ro := R.ro
  rm := fun y sw q => by
    have q' : (match y == x with | true => some sv | false => σ.loc.lookup y) = some sw := q
    by_cases h : y = x
    · subst h
      rw [beq_self_eq_true] at q'
      cases q'
      exact ⟨v, if_pos rfl, hv⟩
    · rw [beq_eq_false_iff_ne.mpr h] at q'
      obtain ⟨v', h1, h2⟩ := R.rm y sw q'
      exact ⟨v', (if_neg h).trans h1, h2⟩
  kp := R.kp
  fz := R.fz
end
end Vx
end
section
open PySem PySem.W PySem.Calls PyProof.Rows
namespace Vx
variable [Rho]
/-! ways through options -/
section
variable {α β : Type}
theorem bindS {x : Option α} {f : α → Option β} {y : β} (h : x.bind f = some y) : ∃ a, x = some a ∧ f a = some y := by
  cases x with
  | none => cases h
  | some a => exact ⟨a, rfl, h⟩
theorem mapS {x : Option α} {f : α → β} {y : β} (h : x.map f = some y) : ∃ a, x = some a ∧ f a = y := by
  cases x with
  | none => cases h
  | some a => exact ⟨a, rfl, Option.some.inj h⟩
noncomputable def orS (x y : Option α) : Option α := match x with
  | some a => some a
  | none => y
theorem orS_of {x y : Option α} {a : α} (h : orS x y = some a) : x = some a ∨ y = some a := by
  cases x with
  | none => exact .inr h
  | some b => exact .inl h
noncomputable def whenS (b : Bool) (x : Option α) : Option α := match b with
  | true => x
  | false => none
theorem whenS_of {b : Bool} {x : Option α} {a : α} (h : whenS b x = some a) : b = true ∧ x = some a := by
  cases b with
  | true => exact ⟨rfl, h⟩
  | false => cases h
noncomputable def mapO (f : α → Option β) : List α → Option (List β)
  | [] => some []
  | x :: r => (f x).bind fun y => (mapO f r).map (y :: ·)
theorem andT {a b : Bool} (h : (a && b) = true) : a = true ∧ b = true := by
  cases a <;> cases b <;> first | exact ⟨rfl, rfl⟩ | cases h
theorem notT {a : Bool} (h : (!a) = true) : a = false := by
  cases a <;> first | rfl | cases h
end
/-! what a value is -/
noncomputable def intS : SV → Option Int
  | .int i => some i
  | _ => none
noncomputable def strS : SV → Option Str
  | .str x => some x
  | _ => none
noncomputable def symS : SV → Option Nat
  | .sym k => some k
  | _ => none
noncomputable def ownS : SV → Option Nat
  | .own i => some i
  | _ => none
theorem intS_eq {a : SV} {i : Int} (h : intS a = some i) : a = .int i := by
  cases a <;> first | (cases h; rfl) | cases h
theorem strS_eq {a : SV} {i : Str} (h : strS a = some i) : a = .str i := by
  cases a <;> first | (cases h; rfl) | cases h
theorem symS_eq {a : SV} {i : Nat} (h : symS a = some i) : a = .sym i := by
  cases a <;> first | (cases h; rfl) | cases h
theorem ownS_eq {a : SV} {i : Nat} (h : ownS a = some i) : a = .own i := by
  cases a <;> first | (cases h; rfl) | cases h
noncomputable def soList : SO → Option (List SV)
  | .list l => some l
  | _ => none
noncomputable def soTup : SO → Option (List SV)
  | .tup l => some l
  | _ => none
noncomputable def soEd : SO → Option Unit
  | .edict => some ()
  | _ => none
noncomputable def soSd : SO → Option (List (Str × SV))
  | .sdict l => some l
  | _ => none
noncomputable def soRow : SO → Option Nat
  | .row k => some k
  | _ => none
theorem soList_eq {a : SO} {i : List SV} (h : soList a = some i) : a = .list i := by
  cases a <;> first | (cases h; rfl) | cases h
theorem soTup_eq {a : SO} {i : List SV} (h : soTup a = some i) : a = .tup i := by
  cases a <;> first | (cases h; rfl) | cases h
theorem soEd_eq {a : SO} {i : Unit} (h : soEd a = some i) : a = .edict := by
  cases a <;> first | rfl | cases h
theorem soSd_eq {a : SO} {i : List (Str × SV)} (h : soSd a = some i) : a = .sdict i := by
  cases a <;> first | (cases h; rfl) | cases h
theorem soRow_eq {a : SO} {i : Nat} (h : soRow a = some i) : a = .row i := by
  cases a <;> first | (cases h; rfl) | cases h
noncomputable def soInst : SO → Option (Addr × Nat)
  | .inst C d => some (C, d)
  | _ => none
noncomputable def soAttrs : SO → Option (List (Str × SV))
  | .attrs l => some l
  | _ => none
theorem soInst_eq {a : SO} {i : Addr × Nat} (h : soInst a = some i) : a = .inst i.1 i.2 := by
  cases a <;> first | (cases h; rfl) | cases h
theorem soAttrs_eq {a : SO} {i : List (Str × SV)} (h : soAttrs a = some i) : a = .attrs i := by
  cases a <;> first | (cases h; rfl) | cases h
/-- the object that a value is -/
noncomputable def soAt (σ : SS) (a : SV) : Option (Nat × SO) := (ownS a).bind fun i => (σ.objs.get i).map fun so => (i, so)
noncomputable def listAt (σ : SS) (a : SV) : Option (Nat × List SV) := (soAt σ a).bind fun q => (soList q.2).map fun l => (q.1, l)
noncomputable def tupAt (σ : SS) (a : SV) : Option (Nat × List SV) := (soAt σ a).bind fun q => (soTup q.2).map fun l => (q.1, l)
noncomputable def sdAt (σ : SS) (a : SV) : Option (Nat × List (Str × SV)) := (soAt σ a).bind fun q => (soSd q.2).map fun l => (q.1, l)
noncomputable def edAt (σ : SS) (a : SV) : Option Nat := (soAt σ a).bind fun q => (soEd q.2).map fun _ => q.1
/-- an own object of a class, its class, its dict -/
noncomputable def instAt (σ : SS) (a : SV) : Option (Nat × Addr × Nat × List (Str × SV)) := (soAt σ a).bind fun q => (soInst q.2).bind fun C => (σ.objs.get C.2).bind fun so => (soAttrs so).map fun l => (q.1, C.1, C.2, l)
section
variable {σ : SS} {m : Str → Option Value} {nw : Led} {hid : Hid} {h₀ h : Heap} {L : Addr} {a : SV} {x : Value}
theorem Rel.soAt {i : Nat} {so : SO} (R : Rel hid h₀ L σ h m nw) (e : soAt σ a = some (i, so)) (hx : RV (adrs nw) a x) :
    ∃ d o, x = .ref d ∧ a = .own i ∧ σ.objs.get i = some so ∧ nw[i]? = some (d, o) ∧ (adrs nw)[i]? = some d ∧ (d, o) ∈ nw ++ hid.hid ∧ RO hid.kn (adrs nw) (tups σ.objs nw) d so o := by
  obtain ⟨j, q1, q2⟩ := bindS e
  obtain ⟨so', q3, q4⟩ := mapS q2
  cases q4
  obtain rfl := ownS_eq q1
  obtain ⟨d, o, h1, h2, h3, h4⟩ := R.at q3
  obtain ⟨d', z1, rfl⟩ := hx
  obtain rfl : d' = d := Option.some.inj (z1.symm.trans h2)
  exact ⟨_, _, rfl, rfl, q3, h1, h2, h4, h3⟩
theorem Rel.listAt {i : Nat} {l : List SV} (R : Rel hid h₀ L σ h m nw) (e : listAt σ a = some (i, l)) (hx : RV (adrs nw) a x) :
    ∃ d vs k, x = .ref d ∧ a = .own i ∧ σ.objs.get i = some (.list l) ∧ nw[i]? = some (d, listOf vs.toArray k) ∧ (d, listOf vs.toArray k) ∈ nw ++ hid.hid ∧ All2 (RV (adrs nw)) l vs := by
  obtain ⟨⟨j, so⟩, q1, q2⟩ := bindS e
  obtain ⟨l', q3, q4⟩ := mapS q2
  cases q4
  obtain rfl := soList_eq q3
  obtain ⟨d, o, g1, g2, g3, g4, g5, g6, vs, k, rfl, g7⟩ := R.soAt q1 hx
  exact ⟨d, vs, k, g1, g2, g3, g4, g6, g7⟩
theorem Rel.tupAt {i : Nat} {l : List SV} (R : Rel hid h₀ L σ h m nw) (e : tupAt σ a = some (i, l)) (hx : RV (adrs nw) a x) :
    ∃ d vs, x = .ref d ∧ a = .own i ∧ σ.objs.get i = some (.tup l) ∧ nw[i]? = some (d, { cls := .type "tuple", data := .seq vs.toArray }) ∧ (d, { cls := .type "tuple", data := .seq vs.toArray }) ∈ nw ++ hid.hid ∧ All2 (RV (adrs nw)) l vs := by
  obtain ⟨⟨j, so⟩, q1, q2⟩ := bindS e
  obtain ⟨l', q3, q4⟩ := mapS q2
  cases q4
  obtain rfl := soTup_eq q3
  obtain ⟨d, o, g1, g2, g3, g4, g5, g6, vs, rfl, g7⟩ := R.soAt q1 hx
  exact ⟨d, vs, g1, g2, g3, g4, g6, g7⟩
theorem Rel.sdAt {i : Nat} {l : List (Str × SV)} (R : Rel hid h₀ L σ h m nw) (e : sdAt σ a = some (i, l)) (hx : RV (adrs nw) a x) :
    ∃ d o kvs, x = .ref d ∧ a = .own i ∧ σ.objs.get i = some (.sdict l) ∧ nw[i]? = some (d, o) ∧ (d, o) ∈ nw ++ hid.hid ∧ (d == sysModules) = false ∧ hid.kn (.inr kvs) d o ∧ All2 (RKv (adrs nw)) l kvs := by
  obtain ⟨⟨j, so⟩, q1, q2⟩ := bindS e
  obtain ⟨l', q3, q4⟩ := mapS q2
  cases q4
  obtain rfl := soSd_eq q3
  obtain ⟨d, o, g1, g2, g3, g4, g5, g6, lo, kvs, g7, g8⟩ := R.soAt q1 hx
  exact ⟨d, o, kvs, g1, g2, g3, g4, g6, lo, g7, g8⟩
theorem Rel.instAt {q : Nat × Addr × Nat × List (Str × SV)} (R : Rel hid h₀ L σ h m nw) (e : instAt σ a = some q) (hx : RV (adrs nw) a x) :
    ∃ d dx es k, x = .ref d ∧ σ.objs.get q.2.2.1 = some (.attrs q.2.2.2) ∧ nw[q.2.2.1]? = some (dx, dictOf es k) ∧ All2 (REnt (adrs nw)) q.2.2.2 es ∧ W.InstAt h d (instObj q.2.1 dx) q.2.1 (some (dictOf es k)) := by
  obtain ⟨⟨i, so⟩, q1, e1⟩ := bindS e
  obtain ⟨C, q2, e2⟩ := bindS e1
  obtain ⟨so', q3, e3⟩ := bindS e2
  obtain ⟨l, q4, rfl⟩ := mapS e3
  clear e e1 e2 e3
  obtain rfl := soInst_eq q2
  obtain rfl := soAttrs_eq q4
  obtain ⟨d, o, g1, _, _, _, _, g6, g7⟩ := R.soAt q1 hx
  obtain ⟨dx, o', h1, h2, h3, h4⟩ := R.at q3
  obtain ⟨dx', z1, rfl⟩ := g7
  obtain ⟨es, k, rfl, z2⟩ := h3
  obtain rfl : dx' = dx := Option.some.inj (z1.symm.trans h2)
  exact ⟨d, dx', es, k, g1, q3, h1, z2, InstAt.of_news R.nws g6 h4⟩
theorem Rel.edAt {i : Nat} (R : Rel hid h₀ L σ h m nw) (e : edAt σ a = some i) (hx : RV (adrs nw) a x) :
    ∃ d k, x = .ref d ∧ a = .own i ∧ σ.objs.get i = some .edict ∧ nw[i]? = some (d, dictOf [] k) ∧ (d, dictOf [] k) ∈ nw ++ hid.hid ∧ (d == sysModules) = false := by
  obtain ⟨⟨j, so⟩, q1, q2⟩ := bindS e
  obtain ⟨l', q3, q4⟩ := mapS q2
  cases q4
  obtain rfl := soEd_eq q3
  obtain ⟨d, o, g1, g2, g3, g4, g5, g6, lo, k, rfl⟩ := R.soAt q1 hx
  exact ⟨d, k, g1, g2, g3, g4, g6, lo⟩
end
end Vx
end
section
open PySem PySem.W PySem.Calls PyProof.Rows
namespace Vx
variable [Rho]
/-- where a frame runs -/
structure Ctx where
  A : Around
  A₀ : Around
  base : Heap
  h₀ : Heap
  outer : List Env
  mean : ExcName → Option Value
  mg : Str → Option Value
  mb : Str → Option Value
  cn : Str
  cs : PySem.Scope
  L : Addr
  a : Addr
  ccd : Value
  cl : List (Str × Addr)
  hid : Hid
abbrev Ctx.env (c : Ctx) : Env := envX c.cn c.cs c.L c.a c.ccd c.cl
/-- Types' dict of the known: its keys are the tuples ks -/
noncomputable def KnownD (prog : Program) (w : World) (ks : Led) (d : Addr) (o : Obj) : Prop :=
  (d == sysModules) = false ∧ ∃ es ep, ∃ xs : List (List Str × Addr × Value), o.ExactDict ∧ o.data = .dict es ep ∧ es.toList = xs.map (entryOfKey (tupleKind (PySem.strKind prog w))) ∧ (xs.map (·.1)).Nodup ∧ xs.length ≤ ks.length ∧
    ∀ x ∈ xs, ∃ ok, (x.2.1, ok) ∈ ks ∧ TupKeyObj (PySem.strKind prog w) x.1 ok
structure Ctx.Ok (c : Ctx) (prog : Program) (w : World) (K : Frag) (p : Program) (loose : List Str) (n : Nat) : Prop where
  B : Below c.A₀ c.base c.outer c.h₀
  X : K.In c.h₀
  T : Top p loose c.mean c.mg c.mb c.h₀
  fr : c.A.frames = some (c.env :: c.outer)
  hd : c.A.handled = none
  dp : c.A.depth + 2 * n < recursionLimit
  un : c.A.units + 8 * n + 64 < cLine
  kd : c.cs.kind = .function
  kn : c.hid.kn = fun x d o => match x with | .inl ks => KnownD prog w ks d o | .inr kvs => o.IsDictOf (PySem.strKind prog w) kvs
  cell : ∀ x, c.cs.names.lookup x = some .cell → ∃ ca o, c.cl.lookup x = some ca ∧ (ca, o) ∈ c.hid.hid ∧ o.data = .cell (some (.ref Rho.D))
theorem Ctx.Ok.down {c : Ctx} {prog : Program} {w : World} {K : Frag} {p : Program} {loose : List Str} {n : Nat} (o : c.Ok prog w K p loose (n + 1)) : c.Ok prog w K p loose n :=
  ⟨o.B, o.X, o.T, o.fr, o.hd, by have := o.dp; omega, by have := o.un; omega, o.kd, o.kn, o.cell⟩
theorem Ctx.Ok.hide {c : Ctx} {prog : Program} {w : World} {K : Frag} {p : Program} {loose : List Str} {n : Nat} (o : c.Ok prog w K p loose n) {H kp : Led} (sub : ∀ q ∈ c.hid.hid, q ∈ H) : Ctx.Ok { c with hid := { hid := H, kp := kp, kn := c.hid.kn } } prog w K p loose n :=
  ⟨o.B, o.X, o.T, o.fr, o.hd, o.dp, o.un, o.kd, o.kn, fun x hx => let ⟨ca, oc, a, b, e⟩ := o.cell x hx; ⟨ca, oc, a, sub _ b, e⟩⟩
theorem Ctx.Ok.low {c : Ctx} {prog : Program} {w : World} {K : Frag} {p : Program} {loose : List Str} : ∀ {n : Nat}, c.Ok prog w K p loose (n + 1) → c.Ok prog w K p loose 1
  | 0, o => o
  | _ + 1, o => o.down.low
abbrev stt (s : Shared) (h : Heap) (tk : Nat) : Shared := { s with heap := h, toks := tk }
noncomputable def Ext (nw nw' : Led) : Prop := ∃ ext, adrs nw' = adrs nw ++ ext
theorem Ext.refl {nw : Led} : Ext nw nw := ⟨[], (List.append_nil _).symm⟩
theorem Ext.trans {a b c : Led} : Ext a b → Ext b c → Ext a c := by
  rintro ⟨x, e⟩ ⟨y, f⟩
  exact ⟨x ++ y, by rw [f, e, List.append_assoc]⟩
theorem Ext.push {nw : Led} {p : Addr × Obj} : Ext nw (nw ++ [p]) := ⟨[p.1], List.map_append ..⟩
theorem RV.up {nw nw' : Led} (x : Ext nw nw') {sv : SV} {v : Value} (h : RV (adrs nw) sv v) : RV (adrs nw') sv v := by
  obtain ⟨e, q⟩ := x
  rw [q]
  exact h.ext
abbrev EvT := PySem.Scope → SS → Expr → Option (SV × SS)
abbrev TrT := PySem.Scope → SS → Expr → Option (Bool × SS)
abbrev ClT := SS → SV → List SV → Option (SV × SS)
section
variable (prog : Program) (w : World) (K : Frag) (p : Program) (loose : List Str)
noncomputable def EvOk (n : Nat) (ev : EvT) : Prop := ∀ (c : Ctx) (σ : SS) (e : Expr) (v : SV) (σ' : SS), ev c.cs σ e = some (v, σ') → c.Ok prog w K p loose n →
  ∀ (m : Str → Option Value) (nw : Led) (s : Shared) (Q E : Value → Shared → Prop), Rel c.hid c.h₀ c.L σ s.heap m nw →
    (∀ h' tk nw' x, Rel c.hid c.h₀ c.L σ' h' m nw' → Ext nw nw' → RV (adrs nw') v x → Q x (stt s h' tk)) → wpAny (model prog w) c.A (eval e c.env) Q E s
noncomputable def TrOk (n : Nat) (tr : TrT) : Prop := ∀ (c : Ctx) (σ : SS) (e : Expr) (b : Bool) (σ' : SS), tr c.cs σ e = some (b, σ') → c.Ok prog w K p loose n →
  ∀ (m : Str → Option Value) (nw : Led) (s : Shared) (Q : Bool → Shared → Prop) (E : Value → Shared → Prop), Rel c.hid c.h₀ c.L σ s.heap m nw →
    (∀ h' tk nw', Rel c.hid c.h₀ c.L σ' h' m nw' → Ext nw nw' → Q b (stt s h' tk)) → wpAny (model prog w) c.A (PySem.isTrue e c.env (eval e c.env)) Q E s
noncomputable def ClOk (n : Nat) (cl : ClT) : Prop := ∀ (c : Ctx) (σ : SS) (f : SV) (vs : List SV) (v : SV) (σ' : SS), cl σ f vs = some (v, σ') → c.Ok prog w K p loose n →
  ∀ (m : Str → Option Value) (nw : Led) (s : Shared) (Q E : Value → Shared → Prop) (fv : Value) (xs : List Value), Rel c.hid c.h₀ c.L σ s.heap m nw → RV (adrs nw) f fv → All2 (RV (adrs nw)) vs xs →
    (∀ h' tk nw' x, Rel c.hid c.h₀ c.L σ' h' m nw' → Ext nw nw' → RV (adrs nw') v x → Q x (stt s h' tk)) → wpAny (model prog w) c.A (call fv xs) Q E s
end
/-! names -/
noncomputable def nameIs (cs : PySem.Scope) (x : Str) (k : NameKind) : Bool := decide (cs.names.lookup x = some k) && !(x == ("__debug__" : Str))
noncomputable def evName (K : Frag) (cs : PySem.Scope) (σ : SS) (x : Str) : Option SV :=
  if nameIs cs x .local then σ.loc.lookup x
  else if nameIs cs x .globalImplicit then
    match nsIn K mainGlobals x with
    | some (some v) => some (.val v)
    | some none => if x == ("__name__" : Str) then none else (bootBuiltins x).map .val
    | none => none
  else if nameIs cs x .cell then match σ.objs.get 0 with
    | some (.row _) => some (.own 0)
    | _ => none
  else none
section
variable {prog : Program} {w : World} {K : Frag} {p : Program} {loose : List Str} {n : Nat} {c : Ctx} {σ σ' : SS} {m : Str → Option Value} {nw : Led} {s : Shared} {E : Value → Shared → Prop}
theorem nameIs_iff {cs : PySem.Scope} {x : Str} {k : NameKind} (h : nameIs cs x k = true) : cs.names.lookup x = some k ∧ (x == ("__debug__" : Str)) = false := by
  unfold nameIs at h
  rw [Bool.and_eq_true, Bool.not_eq_true'] at h
  exact ⟨of_decide_eq_true h.1, h.2⟩
theorem name_sound {x : Str} {pos : Pos} {v : SV} {Q : Value → Shared → Prop} (e : evName K c.cs σ x = some v) (O : c.Ok prog w K p loose n) (R : Rel c.hid c.h₀ c.L σ s.heap m nw) (k : ∀ y, RV (adrs nw) v y → Q y s) :
    wpAny (model prog w) c.A (eval (.Name x pos) c.env) Q E s := by
  unfold evName at e
  split at e
  · rename_i h
    obtain ⟨h1, h2⟩ := nameIs_iff h
    obtain ⟨y, q1, q2⟩ := R.rm x v e
    exact nameX_L R.fr q1 (k y q2) O.kd h1 h2
  · split at e
    · rename_i h
      obtain ⟨h1, h2⟩ := nameIs_iff h
      split at e
      · rename_i y q
        cases e
        exact nameX_K R.fr O.X (topRead_of O.T) q (k y rfl) O.kd h1 h2
      · rename_i q
        split at e
        · cases e
        · rename_i hn
          obtain ⟨y, q1, q2⟩ := Option.map_eq_some_iff.mp e
          subst q2
          exact nameX_B R.fr O.X (topRead_of O.T) q q1 (fun z => hn (by rw [z]; rfl)) (k y rfl) O.kd h1 h2
      · cases e
    · split at e
      · rename_i h
        obtain ⟨h1, h2⟩ := nameIs_iff h
        split at e
        · rename_i q
          cases e
          obtain ⟨a, o, g1, g2, g3, g4⟩ := R.at q
          obtain ⟨ca, oc, f1, f2, f3⟩ := O.cell x h1
          exact wpAny_Name (wpAny_loadName_cell O.kd h1 f1 ⟨oc, R.nws.get (List.mem_append_right _ f2), f3⟩ (k _ ⟨a, g2, by rw [g3.1]⟩)) h2
        · cases e
      · cases e
/-! constants -/
noncomputable def evConst : Const → Option SV
  | .int i => some (.int i)
  | .str x => some (.str x)
  | .bool b => some (.bool b)
  | .none => some .none
  | _ => none
theorem const_sound {q : Const} {k : Nat} {pos : Pos} {v : SV} {Q : Value → Shared → Prop} (e : evConst q = some v) (h : ∀ tk y, RV (adrs nw) v y → Q y (stt s s.heap tk)) :
    wpAny (model prog w) c.A (eval (.Constant q k pos) c.env) Q E s := by
  cases q <;> simp only [evConst] at e <;> first | (cases e; done) | skip
  case int i => cases e; exact wpAny_Constant_int (h _ _ ⟨_, rfl⟩)
  case str x => cases e; exact Constant_str (h _ _ ⟨_, rfl⟩)
  case bool b => cases e; exact Constant_bool (h s.toks _ rfl)
  case none => cases e; exact wpAny_Constant_none (h s.toks _ rfl)
/-! an attribute of an own object -/
noncomputable def svOf (l : List (Str × SV)) (x : Str) : Option SV := (l.find? (fun p => p.1 == x)).map (·.2)
noncomputable def handedS : SV → Bool
  | .val v => handedIn v
  | _ => true
noncomputable def evAttr (K : Frag) (σ : SS) (v : SV) (x : Str) : Option SV := (instAt σ v).bind fun q => (findIn K (.ref q.2.1) x).bind fun g => (svOf q.2.2.2 x).bind fun r => whenS (plainGet K q.2.1 x && hasDictIn K q.2.1 && noGet K g && handedS r) (some r)
theorem isStr_eq {x y : Str} {t : Tok} : (Value.str x t).isStr y = (x == y) := rfl
theorem getL_of {as : List Addr} : ∀ {l : List (Str × SV)} {es : List DictEntry} {x : Str} {r : SV}, All2 (REnt as) l es → svOf l x = some r → ∃ v, getL x es = some (some v) ∧ RV as r v := by
  intro l es x r H
  unfold svOf getL
  induction H with
  | nil => intro h; cases h
  | @cons q e l es h1 h2 ih =>
    obtain ⟨⟨t, hk⟩, hv⟩ := h1
    intro h
    rw [List.find?_cons] at h ⊢
    have hx : e.key.isStr x = (q.1 == x) := by rw [hk]; rfl
    rw [hx]
    cases z : (q.1 == x) with
    | true =>
      rw [z] at h
      cases h
      exact ⟨_, rfl, hv⟩
    | false =>
      rw [z] at h
      obtain ⟨v, g1, g2⟩ := ih h
      refine ⟨v, ?_, g2⟩
      simp only at g1 ⊢
      split at g1
      · exact g1
      · rename_i q'
        split at g1 <;> cases g1
theorem RV.handed {as : List Addr} {sv : SV} {v : Value} (h : RV as sv v) (q : handedS sv = true) : handedIn v = true := by
  cases sv with
  | int i => obtain ⟨t, rfl⟩ := h; rfl
  | str x => obtain ⟨t, rfl⟩ := h; rfl
  | bool b => cases h; rfl
  | none => cases h; rfl
  | own i => obtain ⟨a, _, rfl⟩ := h; rfl
  | val u => cases h; exact q
  | sym k => obtain ⟨t, rfl⟩ := h; rfl
  | anyi => obtain ⟨i, t, rfl⟩ := h; rfl
  | anyb => obtain ⟨b, rfl⟩ := h; rfl
theorem attr_sound {sv : SV} {x : Str} {fv : Value} {b : Bool} {v : SV} {Q : Value → Shared → Prop} (e : evAttr K σ sv x = some v) (O : c.Ok prog w K p loose n) (R : Rel c.hid c.h₀ c.L σ s.heap m nw) (hv : RV (adrs nw) sv fv)
    (k : ∀ tk y, RV (adrs nw) v y → Q y (stt s s.heap tk)) : wpAny (model prog w) c.A (getAttr fv x b) Q E s := by
  obtain ⟨q, q1, e1⟩ := bindS e
  obtain ⟨g, q2, e2⟩ := bindS e1
  obtain ⟨r, q3, e3⟩ := bindS e2
  obtain ⟨q4, e4⟩ := whenS_of e3
  clear e e1 e2 e3
  cases e4
  obtain ⟨q4, q5⟩ := andT q4
  obtain ⟨q4, q6⟩ := andT q4
  obtain ⟨q4, q7⟩ := andT q4
  obtain ⟨d, dx, es, j, rfl, _, _, g3, g4⟩ := R.instAt q1 hv
  obtain ⟨y, f1, f2⟩ := getL_of g3 q3
  exact get_own R.fr O.X g4 q4 q7 q2 q6 f1 (f2.handed q5) (k _ y f2)
end
end Vx
end
section
open PySem PySem.W PySem.Calls PyProof.Rows
namespace Vx
variable [Rho]
noncomputable def putS (x : Str) (v : SV) : List (Str × SV) → List (Str × SV)
  | [] => [(x, v)]
  | q :: r => if q.1 == x then (q.1, v) :: r else q :: putS x v r
theorem putL_of {as : List Addr} {x : Str} {hs : Int} {t : Tok} {sv : SV} {v : Value} (hv : RV as sv v) : ∀ {l : List (Str × SV)} {es : List DictEntry}, All2 (REnt as) l es →
    All2 (REnt as) (putS x sv l) (putL x hs (.str x t) v es) := by
  intro l es H
  induction H with
  | nil => exact .cons ⟨⟨t, rfl⟩, hv⟩ .nil
  | @cons q e l es h1 h2 ih =>
    obtain ⟨⟨u, hk⟩, hw⟩ := h1
    unfold putS putL
    have hx : e.key.isStr x = (q.1 == x) := by rw [hk]; rfl
    rw [hx]
    split
    · exact .cons ⟨⟨u, hk⟩, hv⟩ h2
    · exact .cons ⟨⟨u, hk⟩, hw⟩ ih
theorem noRef {as : List Addr} {l : List (Str × SV)} {es : List DictEntry} (H : All2 (REnt as) l es) : es.any (·.refKey) = false := by
  induction H with
  | nil => rfl
  | @cons q e l es h1 h2 ih =>
    obtain ⟨⟨u, hk⟩, _⟩ := h1
    rw [List.any_cons, ih, Bool.or_false]
    unfold DictEntry.refKey
    rw [hk]
theorem getL_some {as : List Addr} {l : List (Str × SV)} {es : List DictEntry} (H : All2 (REnt as) l es) (x : Str) : (getL x es).isSome = true := by
  unfold getL
  split
  · rfl
  · rw [noRef H]; rfl
noncomputable def setOk (K : Frag) (C : Addr) (x : Str) : Bool := decide (findIn K (.ref C) (Str.ofString "__setattr__") = some (some (.builtin "object.__setattr__"))) && plainOver K C && decide (takerIn K C x = some none) && hasDictIn K C
noncomputable def setSv (K : Frag) (σ : SS) (v : SV) (x : Str) (r : SV) : Option SS := (instAt σ v).bind fun q => whenS (setOk K q.2.1 x && decide ((putS x r q.2.2.2).length ≤ 1000) && !σ.frz.contains q.2.2.1) (some { σ with objs := σ.objs.put q.2.2.1 (.attrs (putS x r q.2.2.2)) })
section
variable {prog : Program} {w : World} {K : Frag} {p : Program} {loose : List Str} {n : Nat} {c : Ctx} {σ σ' : SS} {m : Str → Option Value} {nw : Led} {s : Shared} {E : Value → Shared → Prop}
theorem mapSetA {nw : Led} {i : Nat} {a : Addr} {o o' : Obj} (e : nw[i]? = some (a, o)) : adrs (nw.set i (a, o')) = adrs nw := mapSet e
theorem set_sound {sv r : SV} {x : Str} {fv v : Value} {Q : Unit → Shared → Prop} (e : setSv K σ sv x r = some σ') (O : c.Ok prog w K p loose n) (R : Rel c.hid c.h₀ c.L σ s.heap m nw) (hv : RV (adrs nw) sv fv) (hr : RV (adrs nw) r v)
    (k : ∀ h' tk nw', Rel c.hid c.h₀ c.L σ' h' m nw' → Ext nw nw' → Q () (stt s h' tk)) : wpAny (model prog w) c.A (setAttr fv x v) Q E s := by
  obtain ⟨q, q1, e1⟩ := bindS e
  obtain ⟨q2, e2⟩ := whenS_of e1
  clear e e1
  cases e2
  obtain ⟨q2, q3⟩ := andT q2
  obtain ⟨q2, q4⟩ := andT q2
  obtain ⟨q2, f4⟩ := andT q2
  obtain ⟨q2, f3⟩ := andT q2
  obtain ⟨f1, f2⟩ := andT q2
  obtain ⟨d, dx, es, j, rfl, g0, g2, g3, g4⟩ := R.instAt q1 hv
  have H := putL_of (x := x) (hs := PyData.keyHash w.params x) (t := s.toks + 1) hr g3
  refine set_dict R.fr O.X R.nws g4 rfl (of_decide_eq_true f1) f2 (of_decide_eq_true f3) f4 (getL_some g3 x) rfl (R.updAt g2) (by rw [← H.length]; exact of_decide_eq_true q4) fun h' F' N' => ?_
  exact k h' _ _ (R.upd g2 (notT q3) F' N' g0 rfl rfl ⟨_, _, rfl, H⟩) ⟨[], by rw [mapSetA g2, List.append_nil]⟩
/-! empty dicts -/
theorem edict_is {K' : Type} [DecidableEq K'] {knd : KeyKind prog w K'} {j : Nat} : (dictOf [] j).IsDictOf knd [] := by
  exact ⟨#[], j, ⟨rfl, rfl, rfl⟩, rfl, fun _ he => by simp at he, Pairs.nil, List.nodup_nil⟩
theorem edict_of {K' : Type} [DecidableEq K'] {knd : KeyKind prog w K'} {o : Obj} (h : o.IsDictOf knd []) : ∃ j, o = dictOf [] j := by
  obtain ⟨es, ep, ⟨h1, h2, h3⟩, h4, _, h5, _⟩ := h
  obtain ⟨c, d, dt, sl⟩ := o
  simp only at h1 h2 h3 h4
  obtain ⟨l⟩ := es
  cases h5
  exact ⟨ep, by subst h1 h2 h3 h4; rfl⟩
theorem flat_str : PyProof.V.FlatPairs PyData.str [] [] := by constructor
theorem updFOf {a : Addr} {o : Obj} {nw : Led} : ∀ {i : Nat}, (nw.map (·.1)).Nodup → nw[i]? = some (a, o) → UpdF a o nw (fun o' => nw.set i (a, o')) := by
  induction nw with
  | nil => intro i _ e; simp at e
  | cons p r ih =>
    intro i nd e
    rw [List.map_cons, List.nodup_cons] at nd
    cases i with
    | zero =>
      rw [List.getElem?_cons_zero] at e
      obtain rfl := Option.some.inj e
      exact .head fun p hp q => nd.1 (List.mem_map.mpr ⟨p, hp, q⟩)
    | succ i =>
      rw [List.getElem?_cons_succ] at e
      exact .tail (fun q => nd.1 (List.mem_map.mpr ⟨_, List.mem_of_getElem? e, q.symm⟩)) (ih nd.2 e)
theorem Rel.updF {hid : Hid} {h₀ h : Heap} {L : Addr} {i : Nat} {a : Addr} {o : Obj} (R : Rel hid h₀ L σ h m nw) (e : nw[i]? = some (a, o)) : UpdF a o (nw ++ hid.hid) (fun o' => nw.set i (a, o') ++ hid.hid) := by
  have h1 := updFOf R.nd (getExt (ext := hid.hid) e)
  have : (fun o' => (nw ++ hid.hid).set i (a, o')) = fun o' => nw.set i (a, o') ++ hid.hid := funext fun o' => setApp e
  rw [this] at h1
  exact h1
/-- list.sort of an empty list -/
theorem sort_nil {A : Around} {h₀ : Heap} {L D : Addr} {news : Led} {j : Nat} {Q : Value → Shared → Prop} (F : Fr h₀ L s.heap m) (N : News h₀ L s.heap news) (U : Upd D (listOf #[] j) (listOf #[] j) news news)
    (h : ∀ h', Fr h₀ L h' m → News h₀ L h' news → Q .none { s with heap := h' }) : wpAny (model prog w) A (call (.builtin "list.sort") [.ref D]) Q E s := by
  obtain ⟨pre, post, e0, -, a, b⟩ := U.split
  have z := N (D, listOf #[] j) (by rw [e0]; exact List.mem_append.mpr (.inr (.head _)))
  have ho : s.heap.get? D = some (seqObj "list" ([] : List Value).toArray j) := z.1
  refine wpAny_call_entry PyProof.Rows.slot_list_sort ⟨_, z.1, rfl⟩ PyProof.Rows.entry_list_sort (list_sort_tree (n := j) (vs := []) (ns := []) ho .nil (by decide) fun out ns' hI hp hP => ⟨.none, rfl, ?_⟩) (PyProof.Rows.args_list_sort _)
  have hns : ns' = [] := hp.eq_nil
  subst hns
  have hout : out = #[] := by
    obtain ⟨l⟩ := out
    cases hI
    rfl
  subst hout
  rw [e0] at N
  have F1 : Fr h₀ L (s.heap.update D (Obj.mapSeq fun _ => (#[] : Array Value))) m := F.change (Heap.SameBut.update ..) z.2.1 z.2.2
  have N1 := ki_turn (fun _ => (#[] : Array Value)) (its' := #[]) (n' := j) N a b rfl rfl
  have N2 := News.grown N1 fun _ _ e => Heap.get?_push_of_some (seqObj "tuple" ([] : List Value).toArray 0) e
  have N3 := News.grown N2 fun _ _ e => Heap.get?_push_of_some (seqObj "list" #[] 0) e
  have N4 := ki_turn (fun _ => (#[] : Array Value)) (its' := #[]) (n' := j) N3 a b rfl rfl
  have F4 : Fr h₀ L ((((s.heap.update D (Obj.mapSeq fun _ => (#[] : Array Value))).push (seqObj "tuple" ([] : List Value).toArray 0)).push (seqObj "list" #[] 0)).update D (Obj.mapSeq fun _ => #[])) m :=
    ((F1.push (seqObj "tuple" ([] : List Value).toArray 0)).push (seqObj "list" #[] 0)).change (Heap.SameBut.update ..) z.2.1 z.2.2
  refine h _ F4 ?_
  rw [e0]
  exact N4
/-! arguments -/
noncomputable def notStar : Expr → Bool
  | .Starred .. => false
  | _ => true
theorem star_eq {e : Expr} {rest : List Expr} {env : Env} (h : notStar e = true) : starEach (e :: rest) env = (false, eval e env) :: starEach rest env := by
  cases e <;> first | rfl | (simp [notStar] at h)
noncomputable def evArgs1 (ev : SS → Expr → Option (SV × SS)) : SS → List Expr → Option (List SV × SS)
  | σ, [] => some ([], σ)
  | σ, e :: r => whenS (notStar e) ((ev σ e).bind fun q => (evArgs1 ev q.2 r).map fun q' => (q.1 :: q'.1, q'.2))
noncomputable abbrev evArgs (ev : EvT) (cs : PySem.Scope) : SS → List Expr → Option (List SV × SS) := evArgs1 (ev cs)
theorem All2.up {nw nw' : Led} (x : Ext nw nw') {l : List SV} {vs : List Value} (h : All2 (RV (adrs nw)) l vs) : All2 (RV (adrs nw')) l vs := h.mono fun _ _ => RV.up x
variable (prog w) in
/-- an evaluator of expressions in an environment, as long as I holds of the ledger -/
noncomputable def EvIn (c : Ctx) (env : Env) (m : Str → Option Value) (I : Led → Prop) (ev : SS → Expr → Option (SV × SS)) : Prop := ∀ (σ : SS) (e : Expr) (v : SV) (σ' : SS), ev σ e = some (v, σ') → ∀ (nw : Led) (s : Shared) (Q E : Value → Shared → Prop), I nw → Rel c.hid c.h₀ c.L σ s.heap m nw →
  (∀ h' tk nw' x, Rel c.hid c.h₀ c.L σ' h' m nw' → Ext nw nw' → RV (adrs nw') v x → Q x (stt s h' tk)) → wpAny (model prog w) c.A (eval e env) Q E s
theorem args_gen {ev : SS → Expr → Option (SV × SS)} {env : Env} {I : Led → Prop} (hI : ∀ nw nw', Ext nw nw' → I nw → I nw') (V : EvIn prog w c env m I ev) {pos : Pos} : ∀ {es : List Expr} {σ : SS} {vs : List SV} {σ' : SS} {nw : Led} {s : Shared} {Q : List Value → Shared → Prop}, evArgs1 ev σ es = some (vs, σ') → I nw → Rel c.hid c.h₀ c.L σ s.heap m nw →
    (∀ h' tk nw' xs, Rel c.hid c.h₀ c.L σ' h' m nw' → Ext nw nw' → All2 (RV (adrs nw')) vs xs → Q xs (stt s h' tk)) → wpAny (model prog w) c.A (spliced (backTo pos (starEach es env))) Q E s
  | [], σ, vs, σ', nw, s, Q, e, hi, R, k => by
    cases e
    exact args_nil (k s.heap s.toks nw [] R .refl .nil)
  | e :: r, σ, vs, σ', nw, s, Q, q, hi, R, k => by
    obtain ⟨hs, h1⟩ := whenS_of q
    obtain ⟨⟨v, σ₁⟩, q1, h2⟩ := bindS h1
    obtain ⟨⟨vs', σ₂⟩, q2, h3⟩ := mapS h2
    clear q h1 h2
    cases h3
    refine args_cons (V σ e v σ₁ q1 nw s _ _ hi R fun h' tk nw' x R' X' hx => ?_) (star_eq hs)
    exact args_gen hI V q2 (hI _ _ X' hi) R' fun h'' tk' nw'' xs R'' X'' hxs => k h'' tk' nw'' (x :: xs) R'' (X'.trans X'') (.cons (hx.up X'') hxs)
theorem args_sound {ev : EvT} (V : EvOk prog w K p loose n ev) (O : c.Ok prog w K p loose n) {pos : Pos} {es : List Expr} {σ : SS} {vs : List SV} {σ' : SS} {nw : Led} {s : Shared} {Q : List Value → Shared → Prop} (e : evArgs ev c.cs σ es = some (vs, σ')) (R : Rel c.hid c.h₀ c.L σ s.heap m nw)
    (k : ∀ h' tk nw' xs, Rel c.hid c.h₀ c.L σ' h' m nw' → Ext nw nw' → All2 (RV (adrs nw')) vs xs → Q xs (stt s h' tk)) : wpAny (model prog w) c.A (spliced (backTo pos (starEach es c.env))) Q E s :=
  args_gen (I := fun _ => True) (fun _ _ _ h => h) (fun σ e v σ' q nw s Q E _ R k => V c σ e v σ' q O m nw s Q E R k) e trivial R k
/-! new objects -/
theorem newTuple_sound {vs : List SV} {xs : List Value} {Q : Value → Shared → Prop} (R : Rel c.hid c.h₀ c.L σ s.heap m nw) (h : All2 (RV (adrs nw)) vs xs) (z : vs.length ≤ 1000)
    (k : ∀ h' nw' y, Rel c.hid c.h₀ c.L { σ with objs := σ.objs.push (.tup vs) } h' m nw' → Ext nw nw' → RV (adrs nw') (.own σ.objs.n) y → Q y (stt s h' s.toks)) : wpAny (model prog w) c.A (newTuple xs) Q E s := by
  refine kup_newTuple R.fr R.nws (fun D h' F' N' lt => ?_) (by rw [← h.length, sizeLine_eq]; omega)
  refine k h' _ _ (R.alloc F' N' lt ⟨xs, rfl, h⟩) .push ⟨D, ?_, rfl⟩
  rw [R.len, adrs, List.map_append, List.getElem?_append_right (by rw [List.length_map]; exact Nat.le_refl _), List.length_map, Nat.sub_self]
  rfl
theorem newList_sound {vs : List SV} {xs : List Value} {Q : Value → Shared → Prop} (R : Rel c.hid c.h₀ c.L σ s.heap m nw) (h : All2 (RV (adrs nw)) vs xs) (z : vs.length ≤ 1000)
    (k : ∀ h' nw' y, Rel c.hid c.h₀ c.L { σ with objs := σ.objs.push (.list vs) } h' m nw' → Ext nw nw' → RV (adrs nw') (.own σ.objs.n) y → Q y (stt s h' s.toks)) : wpAny (model prog w) c.A (newList xs) Q E s := by
  refine newList_K R.fr R.nws (fun D h' F' N' lt => ?_) (by rw [← h.length, sizeLine_eq]; omega)
  refine k h' _ _ (R.alloc F' N' lt ⟨xs, 0, rfl, h⟩) .push ⟨D, ?_, rfl⟩
  rw [R.len, adrs, List.map_append, List.getElem?_append_right (by rw [List.length_map]; exact Nat.le_refl _), List.length_map, Nat.sub_self]
  rfl
/-! a name is bound -/
noncomputable def storeS (cs : PySem.Scope) (σ : SS) (x : Str) (v : SV) : Option SS := if decide (cs.names.lookup x = some .local) then some { σ with loc := (x, v) :: σ.loc } else none
theorem store_sound {x : Str} {sv : SV} {v : Value} {Q : Unit → Shared → Prop} (e : storeS c.cs σ x sv = some σ') (O : c.Ok prog w K p loose n) (R : Rel c.hid c.h₀ c.L σ s.heap m nw) (hv : RV (adrs nw) sv v)
    (k : ∀ h' m', Rel c.hid c.h₀ c.L σ' h' m' nw → Q () (stt s h' (s.toks + 1))) : wpAny (model prog w) c.A (storeName c.env x v) Q E s := by
  unfold storeS at e
  split at e
  · rename_i h
    cases e
    exact storeX_L R.fr R.nws (fun h' F' N' => k h' _ (R.store hv F' N')) O.kd (of_decide_eq_true h)
  · cases e
end
end Vx
end
section
open PySem PySem.W PySem.Calls PyProof.Rows
namespace Vx
variable [Rho]
/-! comparisons -/
noncomputable def strsOf : List SV → Option (List Str) := mapO strS
theorem strsAre {as : List Addr} : ∀ {l : List SV} {vs : List Value} {ys : List Str}, All2 (RV as) l vs → strsOf l = some ys → StrsAre vs ys := by
  intro l vs ys H
  induction H generalizing ys with
  | nil => intro e; cases e; exact .nil
  | @cons a b l r h1 h2 ih =>
    intro e
    obtain ⟨x, q1, q2⟩ := bindS e
    obtain ⟨zs, q3, rfl⟩ := mapS q2
    obtain rfl := strS_eq q1
    obtain ⟨t, rfl⟩ := h1
    exact .cons _ _ (ih q3)
noncomputable def strsAt (σ : SS) (a : SV) : Option (List Str) := orS ((listAt σ a).bind fun q => strsOf q.2) ((tupAt σ a).bind fun q => strsOf q.2)
/-- the data that stand at a value -/
noncomputable def dataV (σ : SS) : Nat → SV → Option PyData
  | 0, _ => none
  | k + 1, a => match a with
    | .int i => some (.int i)
    | .str x => some (.str x)
    | .bool b => some (.bool b)
    | .none => some .none
    | a => orS ((listAt σ a).bind fun q => (mapO (dataV σ k) q.2).map .list) ((tupAt σ a).bind fun q => (mapO (dataV σ k) q.2).map .tuple)
noncomputable def dataEq (σ : SS) (a b : SV) : Option Bool := (dataV σ 6 a).bind fun x => (dataV σ 6 b).bind fun y => whenS (SeqAt.shaped x && SeqAt.shaped y) (some (x.eqv y))
/-- an int, or a drawn one -/
noncomputable def zOf : SV → Option (Int ⊕ Nat)
  | .int i => some (.inl i)
  | .sym k => some (.inr k)
  | _ => none
noncomputable def zval : Int ⊕ Nat → Int
  | .inl i => i
  | .inr k => Rho.r k
theorem intsOf {as : List Addr} : ∀ {l : List SV} {vs : List Value} {zs : List (Int ⊕ Nat)}, All2 (RV as) l vs → mapO zOf l = some zs → IntsAre vs (zs.map zval) := by
  intro l vs zs H
  induction H generalizing zs with
  | nil => intro e; cases e; exact .nil
  | @cons a b l r h1 h2 ih =>
    intro e
    obtain ⟨x, q1, q2⟩ := bindS e
    obtain ⟨zs, q3, rfl⟩ := mapS q2
    cases a <;> first | (cases q1; done) | skip
    case int i => cases q1; obtain ⟨t, rfl⟩ := h1; exact .cons _ _ (ih q3)
    case sym i => cases q1; obtain ⟨t, rfl⟩ := h1; exact .cons _ _ (ih q3)
noncomputable def zEq : List (Int ⊕ Nat) → List (Int ⊕ Nat) → Bool
  | [], [] => true
  | .inl i :: r, .inl j :: s => decide (i = j) && zEq r s
  | .inr i :: r, .inr j :: s => (i == j) && zEq r s
  | _, _ => false
theorem zEq_eq : ∀ {a b : List (Int ⊕ Nat)}, zEq a b = true → a = b
  | [], [], _ => rfl
  | .inl i :: r, .inl j :: s, h => by obtain ⟨h1, h2⟩ := andT h; rw [of_decide_eq_true h1, zEq_eq h2]
  | .inr i :: r, .inr j :: s, h => by obtain ⟨h1, h2⟩ := andT h; rw [eq_of_beq h1, zEq_eq h2]
noncomputable def cmpI (f : Int → Int → Bool) (a b : SV) : Option SV := (intS a).bind fun x => (intS b).map fun y => .bool (f x y)
noncomputable def cmpT (f : Str → Str → Bool) (a b : SV) : Option SV := (strS a).bind fun x => (strS b).map fun y => .bool (f x y)
noncomputable def isNoneS : SV → Bool
  | .none => true
  | _ => false
noncomputable def isAnyi : SV → Bool
  | .anyi => true
  | _ => false
noncomputable def cmpS (σ : SS) (op : CmpOp) (a b : SV) : Option SV := match op with
  | .Eq => orS (cmpI (fun x y => x == y) a b) (orS (cmpT (fun x y => x == y) a b) (orS ((dataEq σ a b).map .bool) (whenS (isAnyi a) ((intS b).map fun _ => .anyb))))
  | .NotEq => orS (cmpI (fun x y => x != y) a b) (orS (cmpT (fun x y => x != y) a b) (orS ((listAt σ a).bind fun q => (listAt σ b).bind fun r => (mapO zOf q.2).bind fun x => (mapO zOf r.2).bind fun y => whenS (zEq x y) (some (.bool false)))
      (orS ((dataEq σ a b).map fun r => .bool (!r)) ((edAt σ a).bind fun _ => (edAt σ b).map fun _ => .bool false))))
  | .Lt => cmpI (fun x y => decide (x < y)) a b
  | .LtE => cmpI (fun x y => decide (x ≤ y)) a b
  | .Gt => cmpI (fun x y => decide (y < x)) a b
  | .GtE => cmpI (fun x y => decide (y ≤ x)) a b
  | .Is => (ownS a).bind fun _ => whenS (isNoneS b) (some (.bool false))
  | .IsNot => whenS (isNoneS a && isNoneS b) (some (.bool false))
  | .In => (strS a).bind fun x => (strsAt σ b).map fun ys => .bool (ys.any fun y => y == x)
  | .NotIn => (strS a).bind fun x => (strsAt σ b).map fun ys => .bool (!ys.any fun y => y == x)
theorem isNoneS_eq {a : SV} (h : isNoneS a = true) : a = .none := by
  cases a <;> first | rfl | cases h
section
variable {prog : Program} {w : World} {K : Frag} {p : Program} {loose : List Str} {n : Nat} {c : Ctx} {σ σ' : SS} {m : Str → Option Value} {nw : Led} {s : Shared} {E : Value → Shared → Prop}
theorem Rel.str_seq {hid : Hid} {h : Heap} {h₀ : Heap} {L : Addr} {b : SV} {fv : Value} {ys : List Str} (R : Rel hid h₀ L σ h m nw) (e : strsAt σ b = some ys) (hb : RV (adrs nw) b fv) :
    ∃ a vs, fv = .ref a ∧ StrsAre vs ys ∧ (h.IsList a vs.toArray ∨ IsTup h a vs.toArray) := by
  rcases orS_of e with e | e
  · obtain ⟨⟨i, l⟩, q1, q2⟩ := bindS e
    obtain ⟨d, vs, k, g1, _, _, _, g4, g5⟩ := R.listAt q1 hb
    exact ⟨d, vs, g1, strsAre g5 q2, .inl ⟨_, (R.nws _ g4).1, rfl, k, rfl⟩⟩
  · obtain ⟨⟨i, l⟩, q1, q2⟩ := bindS e
    obtain ⟨d, vs, g1, _, _, _, g4, g5⟩ := R.tupAt q1 hb
    exact ⟨d, vs, g1, strsAre g5 q2, .inr (News.isTup R.nws g4)⟩
theorem Rel.reads {h : Heap} {hid : Hid} {h₀ : Heap} {L : Addr} (R : Rel hid h₀ L σ h m nw) : ∀ k v d x, dataV σ k v = some d → RV (adrs nw) v x → ∃ as, Reads h x d as := by
  intro k
  induction k with
  | zero => intro v d x e; cases e
  | succ k ih =>
    have all : ∀ l ds xs, mapO (dataV σ k) l = some ds → All2 (RV (adrs nw)) l xs → ∃ as, ReadsAll h xs ds as := by
      intro l ds xs e H
      induction H generalizing ds with
      | nil => cases e; exact ⟨_, .nil⟩
      | @cons a b l r h1 h2 ih2 =>
        obtain ⟨y, q1, q2⟩ := bindS e
        obtain ⟨zs, q3, rfl⟩ := mapS q2
        obtain ⟨as, z1⟩ := ih _ _ _ q1 h1
        obtain ⟨bs, z2⟩ := ih2 zs q3
        exact ⟨_, .cons z1 z2⟩
    have own : ∀ v d x, RV (adrs nw) v x → orS ((Vx.listAt σ v).bind fun q => (mapO (dataV σ k) q.2).map .list) ((Vx.tupAt σ v).bind fun q => (mapO (dataV σ k) q.2).map .tuple) = some d → ∃ as, Reads h x d as := by
      intro v d x hv e
      rcases orS_of e with e | e
      · obtain ⟨⟨i, l⟩, q1, q2⟩ := bindS e
        obtain ⟨ds, q3, rfl⟩ := mapS q2
        obtain ⟨d, vs, k, rfl, _, _, _, g4, g5⟩ := R.listAt q1 hv
        obtain ⟨as, z⟩ := all l ds vs q3 g5
        exact ⟨_, .list (R.nws _ g4).1 rfl rfl z⟩
      · obtain ⟨⟨i, l⟩, q1, q2⟩ := bindS e
        obtain ⟨ds, q3, rfl⟩ := mapS q2
        obtain ⟨d, vs, rfl, _, _, _, g4, g5⟩ := R.tupAt q1 hv
        obtain ⟨as, z⟩ := all l ds vs q3 g5
        exact ⟨_, .tuple (R.nws _ g4).1 rfl rfl z⟩
    intro v d x e hv
    cases v <;> first | exact own _ _ _ hv e | skip
    case int i => cases e; obtain ⟨t, rfl⟩ := hv; exact ⟨_, .int _ _⟩
    case str i => cases e; obtain ⟨t, rfl⟩ := hv; exact ⟨_, .str _ _⟩
    case bool b => cases e; cases hv; exact ⟨_, .bool _⟩
    case none => cases e; cases hv; exact ⟨_, .none⟩
theorem dataEq_sound {a b : SV} {x y : Value} {r : Bool} (e : dataEq σ a b = some r) (R : Rel c.hid c.h₀ c.L σ s.heap m nw) (ha : RV (adrs nw) a x) (hb : RV (adrs nw) b y) :
    ∃ da db as bs, Reads s.heap x da as ∧ Reads s.heap y db bs ∧ SeqAt.shaped da = true ∧ SeqAt.shaped db = true ∧ da.eqv db = r := by
  obtain ⟨da, q1, e⟩ := bindS e
  obtain ⟨db, q2, e⟩ := bindS e
  obtain ⟨q3, q4⟩ := whenS_of e
  cases q4
  obtain ⟨q3, q4⟩ := andT q3
  obtain ⟨as, z1⟩ := R.reads 6 _ _ _ q1 ha
  obtain ⟨bs, z2⟩ := R.reads 6 _ _ _ q2 hb
  exact ⟨da, db, as, bs, z1, z2, q3, q4, rfl⟩
theorem cmpI_of {f : Int → Int → Bool} {a b r : SV} {x y : Value} (e : cmpI f a b = some r) (ha : RV (adrs nw) a x) (hb : RV (adrs nw) b y) : ∃ i j t u, x = .int i t ∧ y = .int j u ∧ r = .bool (f i j) := by
  obtain ⟨i, q1, e⟩ := bindS e
  obtain ⟨j, q2, rfl⟩ := mapS e
  obtain rfl := intS_eq q1
  obtain rfl := intS_eq q2
  obtain ⟨t, rfl⟩ := ha
  obtain ⟨u, rfl⟩ := hb
  exact ⟨i, j, t, u, rfl, rfl, rfl⟩
theorem cmpT_of {f : Str → Str → Bool} {a b r : SV} {x y : Value} (e : cmpT f a b = some r) (ha : RV (adrs nw) a x) (hb : RV (adrs nw) b y) : ∃ i j t u, x = .str i t ∧ y = .str j u ∧ r = .bool (f i j) := by
  obtain ⟨i, q1, e⟩ := bindS e
  obtain ⟨j, q2, rfl⟩ := mapS e
  obtain rfl := strS_eq q1
  obtain rfl := strS_eq q2
  obtain ⟨t, rfl⟩ := ha
  obtain ⟨u, rfl⟩ := hb
  exact ⟨i, j, t, u, rfl, rfl, rfl⟩
theorem strIn_of {a b r : SV} {f : List Str → Str → SV} {x y : Value} (e : ((strS a).bind fun x => (strsAt σ b).map fun ys => f ys x) = some r) (R : Rel c.hid c.h₀ c.L σ s.heap m nw) (ha : RV (adrs nw) a x) (hb : RV (adrs nw) b y) :
    ∃ i t d vs ys, x = .str i t ∧ y = .ref d ∧ StrsAre vs ys ∧ (s.heap.IsList d vs.toArray ∨ IsTup s.heap d vs.toArray) ∧ r = f ys i := by
  obtain ⟨i, q1, e⟩ := bindS e
  obtain ⟨ys, q2, rfl⟩ := mapS e
  obtain rfl := strS_eq q1
  obtain ⟨t, rfl⟩ := ha
  obtain ⟨d, vs, rfl, h1, h2⟩ := R.str_seq q2 hb
  exact ⟨i, t, d, vs, ys, rfl, rfl, h1, h2, rfl⟩
theorem cmp_sound {op : CmpOp} {a b : SV} {x y : Value} {r : SV} {Q : Value → Shared → Prop} (O : c.Ok prog w K p loose n) (e : cmpS σ op a b = some r) (R : Rel c.hid c.h₀ c.L σ s.heap m nw) (ha : RV (adrs nw) a x) (hb : RV (adrs nw) b y)
    (k : ∀ v, RV (adrs nw) r v → Q v s) : wpAny (model prog w) c.A (compareOp op x y) Q E s := by
  have hu : c.A.units + 64 < cLine := by have := O.un; omega
  have kb : ∀ {b : Bool}, r = .bool b → Q (.bool b) s := fun e => k _ (by subst e; rfl)
  cases op
  case Eq =>
    rcases orS_of e with e | e
    · obtain ⟨i, j, t, u, rfl, rfl, q⟩ := cmpI_of e ha hb
      exact eq_int (kb q)
    rcases orS_of e with e | e
    · obtain ⟨i, j, t, u, rfl, rfl, q⟩ := cmpT_of e ha hb
      exact eq_str (kb q)
    rcases orS_of e with e | e
    · obtain ⟨r', q1, rfl⟩ := mapS e
      obtain ⟨da, db, as, bs, z1, z2, z3, z4, rfl⟩ := dataEq_sound q1 R ha hb
      exact eq_dataH z1 z2 z3 z4 hu (kb rfl)
    · obtain ⟨q1, e⟩ := whenS_of e
      obtain ⟨j, q2, rfl⟩ := mapS e
      obtain rfl := intS_eq q2
      cases a <;> first | (cases q1; done) | skip
      obtain ⟨i, t, rfl⟩ := ha
      obtain ⟨u, rfl⟩ := hb
      exact eq_int (k _ ⟨_, rfl⟩)
  case NotEq =>
    rcases orS_of e with e | e
    · obtain ⟨i, j, t, u, rfl, rfl, q⟩ := cmpI_of e ha hb
      exact ne_int (kb q)
    rcases orS_of e with e | e
    · obtain ⟨i, j, t, u, rfl, rfl, q⟩ := cmpT_of e ha hb
      exact ne_str (kb q)
    rcases orS_of e with e | e
    · obtain ⟨⟨i1, l1⟩, q1, e⟩ := bindS e
      obtain ⟨⟨i2, l2⟩, q2, e⟩ := bindS e
      obtain ⟨z1, q3, e⟩ := bindS e
      obtain ⟨z2, q4, e⟩ := bindS e
      obtain ⟨q5, e⟩ := whenS_of e
      cases e
      obtain rfl := zEq_eq q5
      obtain ⟨d1, vs1, k1, rfl, _, _, _, g1, g2⟩ := R.listAt q1 ha
      obtain ⟨d2, vs2, k2, rfl, _, _, _, f1, f2⟩ := R.listAt q2 hb
      exact ke_ne_ints ⟨_, (R.nws _ g1).1, rfl, k1, rfl⟩ ⟨_, (R.nws _ f1).1, rfl, k2, rfl⟩ (intsOf g2 q3) (intsOf f2 q4) hu (k _ (by rw [decide_eq_true rfl]; rfl))
    rcases orS_of e with e | e
    · obtain ⟨r', q1, rfl⟩ := mapS e
      obtain ⟨da, db, as, bs, z1, z2, z3, z4, rfl⟩ := dataEq_sound q1 R ha hb
      exact ne_dataH z1 z2 z3 z4 hu (kb rfl)
    · obtain ⟨i1, q1, e⟩ := bindS e
      obtain ⟨i2, q2, rfl⟩ := mapS e
      obtain ⟨d1, k1, rfl, _, _, _, g1, lo1⟩ := R.edAt q1 ha
      obtain ⟨d2, k2, rfl, _, _, _, f1, lo2⟩ := R.edAt q2 hb
      exact kne_tabs (knd := PySem.strKind prog w) PyProof.V.same_str (TabAt.ofNews R.nws g1 lo1 edict_is flat_str) (TabAt.ofNews R.nws f1 lo2 edict_is flat_str) rfl (by omega) .nil (kb rfl)
  case Lt => obtain ⟨i, j, t, u, rfl, rfl, q⟩ := cmpI_of e ha hb; exact lt_int (kb q)
  case LtE => obtain ⟨i, j, t, u, rfl, rfl, q⟩ := cmpI_of e ha hb; exact le_int (kb q)
  case Gt => obtain ⟨i, j, t, u, rfl, rfl, q⟩ := cmpI_of e ha hb; exact gt_int (kb q)
  case GtE => obtain ⟨i, j, t, u, rfl, rfl, q⟩ := cmpI_of e ha hb; exact ge_int (kb q)
  case Is =>
    obtain ⟨i, q1, e⟩ := bindS e
    obtain ⟨q2, e⟩ := whenS_of e
    cases e
    obtain rfl := ownS_eq q1
    obtain rfl := isNoneS_eq q2
    obtain ⟨d, _, rfl⟩ := ha
    cases hb
    exact is_ref_none (kb rfl)
  case IsNot =>
    obtain ⟨q1, e⟩ := whenS_of e
    cases e
    obtain ⟨q1, q2⟩ := andT q1
    obtain rfl := isNoneS_eq q1
    obtain rfl := isNoneS_eq q2
    cases ha
    cases hb
    exact isnot_none_none (kb rfl)
  case In =>
    obtain ⟨i, t, d, vs, ys, rfl, rfl, h1, h2, q⟩ := strIn_of (f := fun ys x => .bool (ys.any fun y => y == x)) e R ha hb
    rcases h2 with h2 | h2
    · exact in_list_strs h2 h1 (kb q)
    · exact in_tuple_strs h2 (by simpa using h1) (kb q)
  case NotIn =>
    obtain ⟨i, t, d, vs, ys, rfl, rfl, h1, h2, q⟩ := strIn_of (f := fun ys x => .bool (!ys.any fun y => y == x)) e R ha hb
    rcases h2 with h2 | h2
    · exact notin_list_strs h2 h1 (kb q)
    · exact notin_tuple_strs h2 (by simpa using h1) (kb q)
/-! arithmetic -/
noncomputable def smallI (x : Int) : Bool := decide (-100000 < x) && decide (x < 100000)
theorem mulOk {x y : Int} (h : (smallI x && smallI y) = true) : IntMulOk x y := by
  obtain ⟨hx, hy⟩ := andT h
  obtain ⟨h1, h2⟩ := andT hx
  obtain ⟨h3, h4⟩ := andT hy
  have h1 := of_decide_eq_true h1
  have h2 := of_decide_eq_true h2
  have h3 := of_decide_eq_true h3
  have h4 := of_decide_eq_true h4
  exact mulOk_of_bits (PySem.intBits_le_64 (by omega) (by omega)) (PySem.intBits_le_64 (by omega) (by omega)) (by decide)
/-- a drawn int's remainder -/
noncomputable def modSym (k : Nat) (n : Int) : SV := match Rho.fm.find? (fun f => f.1 == k && decide (f.2.1 = n)) with
  | some f => .int f.2.2
  | none => .anyi
theorem modSym_is {as : List Addr} {k : Nat} {n : Int} {t : Tok} : RV as (modSym k n) (.int (Int.fmod (Rho.r k) n) t) := by
  unfold modSym
  cases q : Rho.fm.find? (fun f => f.1 == k && decide (f.2.1 = n)) with
  | none => exact ⟨_, _, rfl⟩
  | some f =>
    have h0 : (f.1 == k && decide (f.2.1 = n)) = true := List.find?_some (p := fun f : Nat × Int × Int => f.1 == k && decide (f.2.1 = n)) q
    obtain ⟨h1, h2⟩ := andT h0
    have h3 := Rho.ok f (List.mem_of_find?_eq_some q)
    rw [eq_of_beq h1, of_decide_eq_true h2] at h3
    exact ⟨t, by rw [← h3]⟩
noncomputable def int2 (a b : SV) : Option (Int × Int) := (intS a).bind fun x => (intS b).map fun y => (x, y)
noncomputable def binS (σ : SS) (op : Operator) (a b : SV) : Option (SV × SS) := match op with
  | .Add => orS ((int2 a b).map fun q => (.int (q.1 + q.2), σ)) ((listAt σ a).bind fun l => (listAt σ b).bind fun r => whenS (decide (l.2.length + r.2.length ≤ 1000)) (some (.own σ.objs.n, { σ with objs := σ.objs.push (.list (l.2 ++ r.2)) })))
  | .Sub => (int2 a b).map fun q => (.int (q.1 - q.2), σ)
  | .Mult => (int2 a b).bind fun q => whenS (smallI q.1 && smallI q.2) (some (.int (q.1 * q.2), σ))
  | .Mod => orS ((int2 a b).bind fun q => whenS (!decide (q.2 = 0)) (some (.int (q.1.fmod q.2), σ))) ((symS a).bind fun k => (intS b).bind fun y => whenS (!decide (y = 0)) (some (modSym k y, σ)))
  | _ => none
theorem own_new {hid : Hid} {h₀ h : Heap} {L D : Addr} {o : Obj} (R : Rel hid h₀ L σ h m nw) : RV (adrs (nw ++ [(D, o)])) (.own σ.objs.n) (.ref D) := by
  refine ⟨D, ?_, rfl⟩
  rw [R.len, adrs, List.map_append, List.getElem?_append_right (by rw [List.length_map]; exact Nat.le_refl _), List.length_map, Nat.sub_self]
  rfl
theorem int2_of {a b : SV} {x y : Value} {q : Int × Int} (e : int2 a b = some q) (ha : RV (adrs nw) a x) (hb : RV (adrs nw) b y) : ∃ t u, x = .int q.1 t ∧ y = .int q.2 u := by
  obtain ⟨i, q1, e⟩ := bindS e
  obtain ⟨j, q2, rfl⟩ := mapS e
  obtain rfl := intS_eq q1
  obtain rfl := intS_eq q2
  obtain ⟨t, rfl⟩ := ha
  obtain ⟨u, rfl⟩ := hb
  exact ⟨t, u, rfl, rfl⟩
theorem bin_sound {op : Operator} {a b : SV} {x y : Value} {r : SV} {Q : Value → Shared → Prop} (e : binS σ op a b = some (r, σ')) (R : Rel c.hid c.h₀ c.L σ s.heap m nw) (ha : RV (adrs nw) a x) (hb : RV (adrs nw) b y)
    (k : ∀ h' tk nw' v, Rel c.hid c.h₀ c.L σ' h' m nw' → Ext nw nw' → RV (adrs nw') r v → Q v (stt s h' tk)) : wpAny (model prog w) c.A (binaryOp op x y) Q E s := by
  cases op <;> first | (cases e; done) | skip
  case Add =>
    rcases orS_of e with e | e
    · obtain ⟨q, q1, e⟩ := mapS e
      cases e
      obtain ⟨t, u, rfl, rfl⟩ := int2_of q1 ha hb
      exact add_int (k s.heap _ nw _ R .refl ⟨_, rfl⟩)
    · obtain ⟨l, q1, e⟩ := bindS e
      obtain ⟨r', q2, e⟩ := bindS e
      obtain ⟨hz, e⟩ := whenS_of e
      cases e
      obtain ⟨d1, vs, k1, rfl, _, _, _, h4, h5⟩ := R.listAt q1 ha
      obtain ⟨d2, us, k2, rfl, _, _, _, g4, g5⟩ := R.listAt q2 hb
      have e1 := h5.length
      have e2 := g5.length
      have hz' := of_decide_eq_true hz
      refine kmk_add_lit R.fr R.nws ⟨_, (R.nws _ h4).1, rfl, k1, rfl⟩ ⟨_, (R.nws _ g4).1, rfl, k2, rfl⟩ rfl (fun D h' F' N' lt => ?_) (by rw [sizeLine_eq]; simp; omega)
      exact k h' _ _ _ (R.alloc F' N' lt ⟨_, 0, rfl, by simpa using h5.append g5⟩) .push (own_new R)
  case Sub =>
    obtain ⟨q, q1, e⟩ := mapS e
    cases e
    obtain ⟨t, u, rfl, rfl⟩ := int2_of q1 ha hb
    exact sub_int (k s.heap _ nw _ R .refl ⟨_, rfl⟩)
  case Mult =>
    obtain ⟨q, q1, e⟩ := bindS e
    obtain ⟨q2, e⟩ := whenS_of e
    cases e
    obtain ⟨t, u, rfl, rfl⟩ := int2_of q1 ha hb
    exact mul_int (k s.heap _ nw _ R .refl ⟨_, rfl⟩) (mulOk q2)
  case Mod =>
    rcases orS_of e with e | e
    · obtain ⟨q, q1, e⟩ := bindS e
      obtain ⟨q2, e⟩ := whenS_of e
      cases e
      obtain ⟨t, u, rfl, rfl⟩ := int2_of q1 ha hb
      exact mod_int' (of_decide_eq_false (notT q2)) (k s.heap _ nw _ R .refl ⟨_, rfl⟩)
    · obtain ⟨j, q1, e⟩ := bindS e
      obtain ⟨i, q3, e⟩ := bindS e
      obtain ⟨q2, e⟩ := whenS_of e
      cases e
      obtain rfl := symS_eq q1
      obtain rfl := intS_eq q3
      obtain ⟨t, rfl⟩ := ha
      obtain ⟨u, rfl⟩ := hb
      exact mod_int' (of_decide_eq_false (notT q2)) (k s.heap _ nw _ R .refl modSym_is)
end
end Vx
end
section
open PySem PySem.W PySem.Calls PyProof.Rows
namespace Vx
variable [Rho]
/-! subscripts -/
noncomputable def plainIx : Expr → Bool
  | .Name .. => true
  | .Constant .. => true
  | .BinOp .. => true
  | .UnaryOp .. => true
  | .Subscript .. => true
  | .Attribute .. => true
  | _ => false
noncomputable def okIx (k : Int) : Bool := decide (-1000000 < k) && decide (k < 1000000)
noncomputable def ixOf (i : SV) (l : List SV) : Option SV := (intS i).bind fun k => whenS (okIx k) ((seqIndex? k l.length).bind fun j => l[j]?)
noncomputable def subS (σ : SS) (a i : SV) : Option SV := orS ((listAt σ a).bind fun q => ixOf i q.2) (orS ((tupAt σ a).bind fun q => ixOf i q.2) ((sdAt σ a).bind fun q => (strS i).bind fun x => svOf q.2 x))
/-- an item is stored: a dict by texts, a list -/
noncomputable def stS (x : Str) (v : SV) (l : List (Str × SV)) : List (Str × SV) := if l.any (fun p => p.1 == x) then l.map (fun p => if p.1 == x then (p.1, v) else p) else l ++ [(x, v)]
noncomputable def putIt (σ : SS) (a i v : SV) : Option SS :=
  orS ((sdAt σ a).bind fun q => (strS i).bind fun x => whenS (decide (q.2.length ≤ 1000) && !σ.frz.contains q.1) (some { σ with objs := σ.objs.put q.1 (.sdict (stS x v q.2)) }))
    ((listAt σ a).bind fun q => (intS i).bind fun k => whenS (decide (0 ≤ k) && decide (k < (q.2.length : Int)) && decide (k < 1000) && !σ.frz.contains q.1) (some { σ with objs := σ.objs.put q.1 (.list (q.2.set k.toNat v)) }))
section
variable {prog : Program} {w : World} {K : Frag} {p : Program} {loose : List Str} {n : Nat} {c : Ctx} {σ σ' : SS} {m : Str → Option Value} {nw : Led} {s : Shared} {E : Value → Shared → Prop}
theorem plain_sub {slice : Expr} {o i : Value} (h : plainIx slice = true) : subscripted slice false o i = operate [o, i] (getItem o i) := by
  cases slice <;> first | rfl | cases h
theorem seqIndex_pos {k : Int} {len j : Nat} (h : 0 ≤ k) (e : seqIndex? k len = some j) : k.toNat = j := by
  unfold seqIndex? at e
  simp only [if_neg (show ¬ k < 0 by omega)] at e
  split at e
  · cases e; rfl
  · cases e
theorem ixOf_of {i r : SV} {l : List SV} {y : Value} {vs : List Value} {as : List Addr} (e : ixOf i l = some r) (hi : RV as i y) (h : All2 (RV as) l vs) :
    ∃ k t j v, y = .int k t ∧ -1000000 < k ∧ k < 1000000 ∧ seqIndex? k vs.length = some j ∧ vs[j]? = some v ∧ RV as r v := by
  obtain ⟨k, q1, e1⟩ := bindS e
  obtain ⟨q2, e2⟩ := whenS_of e1
  obtain ⟨j, q3, e3⟩ := bindS e2
  obtain ⟨k1, k2⟩ := andT q2
  obtain rfl := intS_eq q1
  obtain ⟨t, rfl⟩ := hi
  obtain ⟨v, g1, g2⟩ := h.get e3
  exact ⟨k, t, j, v, rfl, of_decide_eq_true k1, of_decide_eq_true k2, by rw [← h.length]; exact q3, g1, g2⟩
theorem sv_val {as : List Addr} {x : Str} : ∀ {l : List (Str × SV)} {kvs : List (Str × Value)} {r : SV}, All2 (RKv as) l kvs → svOf l x = some r → ∃ v, valueAt kvs x = some v ∧ RV as r v := by
  intro l kvs r H
  unfold svOf valueAt
  induction H with
  | nil => intro e; cases e
  | @cons a b l s h1 h2 ih =>
    intro e
    rw [List.find?_cons] at e ⊢
    rw [h1.1, show decide (a.1 = x) = (a.1 == x) from rfl]
    cases q : (a.1 == x) with
    | true => rw [q] at e; cases e; exact ⟨_, rfl, h1.2⟩
    | false => rw [q] at e; exact ih e
theorem sub_sound {a i r : SV} {x y : Value} {value slice : Expr} {Q : Value → Shared → Prop} (O : c.Ok prog w K p loose n) (e : subS σ a i = some r) (hp : plainIx slice = true) (R : Rel c.hid c.h₀ c.L σ s.heap m nw) (ha : RV (adrs nw) a x) (hi : RV (adrs nw) i y)
    (k : ∀ tk v, RV (adrs nw) r v → Q v (stt s s.heap tk)) : wpAny (model prog w) c.A (subscriptTail value slice x y) Q E s := by
  rcases orS_of e with e | e
  · obtain ⟨q, q1, e⟩ := bindS e
    obtain ⟨d, vs, k3, rfl, _, _, _, h4, h5⟩ := R.listAt q1 ha
    obtain ⟨j, t, j', v, rfl, k1, k2, z1, z2, z3⟩ := ixOf_of e hi h5
    have hl : s.heap.IsList d vs.toArray := ⟨_, (R.nws _ h4).1, rfl, k3, rfl⟩
    by_cases hn : 0 ≤ j
    · exact item_litK hl hn (by omega) (by rw [seqIndex_pos hn z1]; exact z2) (k s.toks v z3) (plain_sub hp)
    · exact kde_neg hl (by omega) (by omega) z1 z2 (k s.toks v z3) (plain_sub hp)
  rcases orS_of e with e | e
  · obtain ⟨q, q1, e⟩ := bindS e
    obtain ⟨d, vs, rfl, _, _, _, h4, h5⟩ := R.tupAt q1 ha
    obtain ⟨j, t, j', v, rfl, k1, k2, z1, z2, z3⟩ := ixOf_of e hi h5
    exact item_tupleT (News.isTup R.nws h4) (by omega) (by omega) z1 z2 (k s.toks v z3) (plain_sub hp)
  · obtain ⟨q, q1, e⟩ := bindS e
    obtain ⟨x, q2, e⟩ := bindS e
    obtain ⟨d, o, kvs, rfl, _, _, _, h4, lo, h5, h6⟩ := R.sdAt q1 ha
    obtain rfl := strS_eq q2
    obtain ⟨t, rfl⟩ := hi
    obtain ⟨v, z1, z2⟩ := sv_val h6 e
    rw [O.kn] at h5
    exact kdt_tail R.nws h4 h5 (kdt_getItem R.nws h4 h5 (strKind_is _ _ _ _) z1 (k _ v z2)) (plain_sub hp)
/-- a dict's item, for a change in place -/
theorem gitem_sound {i r : SV} {a : SV} {x y : Value} {q : Nat × List (Str × SV)} {k0 : Str} {Q : Value → Shared → Prop} (O : c.Ok prog w K p loose n) (q1 : sdAt σ a = some q) (q2 : strS i = some k0) (e : svOf q.2 k0 = some r) (R : Rel c.hid c.h₀ c.L σ s.heap m nw) (ha : RV (adrs nw) a x) (hi : RV (adrs nw) i y)
    (k : ∀ tk v, RV (adrs nw) r v → Q v (stt s s.heap tk)) : wpAny (model prog w) c.A (getItem x y) Q E s := by
  obtain ⟨d, o, kvs, rfl, _, _, _, h4, lo, h5, h6⟩ := R.sdAt q1 ha
  obtain rfl := strS_eq q2
  obtain ⟨t, rfl⟩ := hi
  obtain ⟨v, z1, z2⟩ := sv_val h6 e
  rw [O.kn] at h5
  exact kdt_getItem R.nws h4 h5 (strKind_is _ _ _ _) z1 (k _ v z2)
theorem any_kv {as : List Addr} {x : Str} {l : List (Str × SV)} {kvs : List (Str × Value)} (H : All2 (RKv as) l kvs) : kvs.any (fun kv => kv.1 = x) = l.any (fun p => p.1 == x) := by
  induction H with
  | nil => rfl
  | @cons a b l s h1 h2 ih => rw [List.any_cons, List.any_cons, ih, h1.1]; rfl
theorem st_kv {as : List Addr} {x : Str} {sv : SV} {v : Value} (hv : RV as sv v) {l : List (Str × SV)} {kvs : List (Str × Value)} (H : All2 (RKv as) l kvs) : All2 (RKv as) (stS x sv l) (stored kvs x v) := by
  have hm : All2 (RKv as) (l.map (fun p => if p.1 == x then (p.1, sv) else p)) (kvs.map (fun kv => if kv.1 = x then (kv.1, v) else kv)) := by
    induction H with
    | nil => exact .nil
    | @cons a b l s h1 h2 ih =>
      refine .cons ?_ ih
      show RKv as (if a.1 == x then (a.1, sv) else a) (if b.1 = x then (b.1, v) else b)
      rw [h1.1]
      by_cases h : a.1 = x
      · rw [if_pos h, if_pos (beq_iff_eq.mpr h)]; exact ⟨rfl, hv⟩
      · rw [if_neg h, if_neg (fun z => h (beq_iff_eq.mp z))]; exact h1
  unfold stS stored
  rw [any_kv H]
  by_cases h : l.any (fun p => p.1 == x) = true
  · rw [if_pos h, if_pos h]; exact hm
  · rw [if_neg h, if_neg h]; exact H.append (.cons ⟨rfl, hv⟩ .nil)
theorem setL_of {v : Value} : ∀ {l : List Value} {i : Nat}, i < l.length → ki_setL l i v = some (l.set i v)
  | [], _, h => absurd h (Nat.not_lt_zero _)
  | _ :: _, 0, _ => rfl
  | x :: r, i + 1, h => by
    unfold ki_setL
    rw [setL_of (Nat.lt_of_succ_lt_succ h)]
    rfl
theorem putIt_sound {a i v : SV} {x y z : Value} {Q : Unit → Shared → Prop} (O : c.Ok prog w K p loose n) (e : putIt σ a i v = some σ') (R : Rel c.hid c.h₀ c.L σ s.heap m nw) (ha : RV (adrs nw) a x) (hi : RV (adrs nw) i y) (hz : RV (adrs nw) v z)
    (k : ∀ h' tk nw', Rel c.hid c.h₀ c.L σ' h' m nw' → Ext nw nw' → Q () (stt s h' tk)) : wpAny (model prog w) c.A (setItem x y z) Q E s := by
  rcases orS_of e with e | e
  · obtain ⟨q, q1, e⟩ := bindS e
    obtain ⟨x, q2, e⟩ := bindS e
    obtain ⟨q3, e⟩ := whenS_of e
    cases e
    obtain ⟨q3, q4⟩ := andT q3
    obtain ⟨d, o, kvs, rfl, rfl, g0, g1, h4, lo, h5, h6⟩ := R.sdAt q1 ha
    obtain rfl := strS_eq q2
    obtain ⟨t, rfl⟩ := hi
    rw [O.kn] at h5
    have hl := h6.length
    have q3 := of_decide_eq_true q3
    refine kda_set R.fr R.nws (R.updF g1) h5 (strKind_is _ _ _ _) (by rw [sizeLine_eq]; omega) fun h' o' F' N' hd' => ?_
    exact k h' _ _ (R.upd g1 (notT q4) F' N' g0 rfl rfl ⟨lo, _, by rw [O.kn]; exact hd', st_kv hz h6⟩) ⟨[], by rw [mapSetA g1, List.append_nil]⟩
  · obtain ⟨q, q1, e⟩ := bindS e
    obtain ⟨j, q2, e⟩ := bindS e
    obtain ⟨q3, e⟩ := whenS_of e
    cases e
    obtain ⟨q3, q4⟩ := andT q3
    obtain ⟨q3, q5⟩ := andT q3
    obtain ⟨q3, q6⟩ := andT q3
    obtain ⟨d, vs, k3, rfl, rfl, g0, g1, h4, h5⟩ := R.listAt q1 ha
    obtain rfl := intS_eq q2
    obtain ⟨t, rfl⟩ := hi
    have hl := h5.length
    have q3 := of_decide_eq_true q3
    have q5 := of_decide_eq_true q5
    have q6 := of_decide_eq_true q6
    have hj : j.toNat < vs.length := by omega
    refine ki_set R.fr R.nws q3 (by omega) (setL_of (l := vs) hj) (R.updAt g1) fun h' F' N' => ?_
    exact k h' s.toks _ (R.upd g1 (notT q4) F' N' g0 rfl rfl ⟨_, k3, rfl, h5.set hz⟩) ⟨[], by rw [mapSetA g1, List.append_nil]⟩
/-! truth, unary -/
noncomputable def truS : SV → Option Bool
  | .bool b => some b
  | _ => none
theorem tru_sound {a : SV} {x : Value} {b : Bool} {Q : Bool → Shared → Prop} (e : truS a = some b) (ha : RV (adrs nw) a x) (k : Q b s) : wpAny (model prog w) c.A (truthy x) Q E s := by
  cases a <;> first | (cases e; done) | skip
  case bool b' => cases e; cases ha; exact wpAny_truthy_bool k
noncomputable def unS (op : UnaryOp) (a : SV) : Option SV := match op with
  | .Not => (truS a).map fun b => .bool (!b)
  | .USub => (intS a).map fun i => .int (-i)
  | _ => none
theorem un_sound {op : UnaryOp} {a r : SV} {x : Value} {Q : Value → Shared → Prop} (e : unS op a = some r) (ha : RV (adrs nw) a x) (k : ∀ tk v, RV (adrs nw) r v → Q v (stt s s.heap tk)) : wpAny (model prog w) c.A (unaryOp op x) Q E s := by
  cases op <;> first | (cases e; done) | skip
  case Not =>
    obtain ⟨b, q1, rfl⟩ := mapS e
    exact not_of (tru_sound q1 ha (k s.toks _ rfl))
  case USub =>
    obtain ⟨b, q1, rfl⟩ := mapS e
    obtain rfl := intS_eq q1
    obtain ⟨t, rfl⟩ := ha
    exact neg_int (k _ _ ⟨_, rfl⟩)
end
end Vx
end
section
open PySem PySem.W PySem.Calls PyProof.Rows
namespace Vx
variable [Rho]
noncomputable def plainB : Expr → Bool
  | .Name .. => true
  | .Attribute .. => true
  | .Subscript .. => true
  | .Call (.Attribute ..) .. => true
  | .List .. => true
  | _ => false
theorem attr_eq {value : Expr} {attr : Str} {pos : Pos} {env : Env} (h : plainB value = true) : eval (value.Attribute attr pos) env = (do
          let o ← eval value env
          standAt pos.atName
          let r ← holding [o] (getAttr o attr true)
          letTemporaryGo value o r
          pure r) := by
  cases value <;> first | rfl | (cases h; done) | skip
  case Call f _ _ _ => cases f <;> first | rfl | cases h
theorem stars_any {pos : Pos} {env : Env} : ∀ {es : List Expr}, es.all notStar = true → (backTo pos (starEach es env)).any (fun x => x.1) = false
  | [], _ => rfl
  | e :: r, h => by
    rw [List.all_cons, Bool.and_eq_true] at h
    rw [star_eq h.1]
    exact stars_any h.2
theorem stars_all {pos : Pos} {env : Env} : ∀ {es : List Expr}, es.all notStar = true → (backTo pos (starEach es env)).all (fun x => !x.1) = true
  | [], _ => rfl
  | e :: r, h => by
    rw [List.all_cons, Bool.and_eq_true] at h
    rw [star_eq h.1]
    exact stars_all h.2
theorem base_eq {o : Expr} {name : Str} {env : Env} {t : Sem Value} (h : plainB o = true) : attributeBase o name env t = t := by
  cases o <;> first | rfl | (cases h; done) | skip
  case Call f _ _ _ => cases f <;> first | rfl | cases h
theorem meth_eq {o : Expr} {name : Str} {apos pos : Pos} {args : List Expr} {env : Env} (h : plainB o = true) (hs : args.all notStar = true) (hl : args.length < 30) (hp : (apos.endLine == pos.line) = true) :
    eval ((o.Attribute name apos).Call args [] pos) env = (do
          let ov ← eval o env
          standAt apos.atName
          let x ← holding [ov] (getMethod ov name (do return (← importBound o env).getD true))
          match x with
            | (f, first) => callWith pos f first (backTo pos (starEach args env)) []) := by
  have few : methodCallForm (args.length + ([] : List Keyword).length) (backTo pos (starEach args env)) (backToKw pos (keywordEach [] env)) = true := by
    unfold methodCallForm
    rw [stars_all hs]
    simp [backToKw, keywordEach, hl]
  show (do
    let ov ← attributeBase o name env (eval o env)
    standAt apos.atName
    methodCall o name apos pos env ov (args.length + ([] : List Keyword).length) (backTo pos (starEach args env)) (backToKw pos (keywordEach [] env))) = _
  rw [base_eq h]
  unfold methodCall
  rw [few]
  have e2 : methodCallPos true o env apos pos = pure pos := by
    unfold methodCallPos
    rw [hp]
    rfl
  simp only [e2]
  rfl
/-- what may be called with some arguments -/
noncomputable def callable (K : Frag) (first : List SV) : Value → Bool
  | .builtin _ => true
  | .type _ => first.isEmpty
  | .ref a => keepIn K (.ref a)
  | _ => false
section
variable {prog : Program} {w : World} {K : Frag} {p : Program} {loose : List Str} {n : Nat} {c : Ctx} {σ σ' : SS} {m : Str → Option Value} {nw : Led} {s : Shared} {E : Value → Shared → Prop}
theorem callWith_sound {ev : EvT} {cl : ClT} (V : EvOk prog w K p loose n ev) (C : ClOk prog w K p loose n cl) {pos : Pos} {args : List Expr} {f : Value} {first vs : List SV} {xs : List Value} {σ₁ : SS} {r : SV} {Q : Value → Shared → Prop}
    (hf : callable K first f = true) (hs : args.all notStar = true) (ea : evArgs ev c.cs σ args = some (vs, σ₁)) (ec : cl σ₁ (.val f) (first ++ vs) = some (r, σ')) (hb : args = [] → ∃ a, f = .ref a) (O : c.Ok prog w K p loose n) (R : Rel c.hid c.h₀ c.L σ s.heap m nw)
    (h1 : All2 (RV (adrs nw)) first xs)
    (k : ∀ h' tk nw' v, Rel c.hid c.h₀ c.L σ' h' m nw' → Ext nw nw' → RV (adrs nw') r v → Q v (stt s h' tk)) : wpAny (model prog w) c.A (callWith pos f xs (backTo pos (starEach args c.env)) []) Q E s := by
  have step : wpAny (model prog w) c.A (spliced (backTo pos (starEach args c.env))) (fun ys s₁ => K.In s₁.heap ∧ wpAny (model prog w) c.A (call f (xs ++ ys)) Q E s₁) E s :=
    args_sound V O ea R fun h' tk nw' ys R' X' hy => ⟨O.X.keeps R'.fr.keep, C c σ₁ _ _ _ _ ec O m nw' (stt s h' tk) _ _ f (xs ++ ys) R' rfl ((h1.up X').append hy) fun h'' tk' nw'' v R'' X'' hv => k h'' tk' nw'' v R'' (X'.trans X'') hv⟩
  cases args with
  | nil =>
    obtain ⟨a, rfl⟩ := hb rfl
    cases ea
    rw [List.append_nil] at ec
    exact callWith_K0 (O.X.keeps R.fr.keep) hf (by rw [List.append_nil]; exact C c _ _ _ _ _ ec O m nw s _ _ _ _ R rfl h1 k)
  | cons e rest =>
    rw [List.all_cons, Bool.and_eq_true] at hs
    cases f with
    | builtin id => exact callWith_method1 (wpAny_mono step (fun _ _ q => q.2) fun _ _ q => q) (star_eq hs.1) (stars_any hs.2)
    | type T =>
      cases first with
      | nil =>
        cases h1
        exact Pv.callWith_type1 (wpAny_mono step (fun _ _ q => q.2) fun _ _ q => q) (star_eq hs.1) (stars_any hs.2)
      | cons _ _ => cases hf
    | ref a => exact callWith_K O.X hf step (star_eq hs.1) (stars_any hs.2)
    | _ => cases hf
/-! methods -/
noncomputable def refV : Option Value → Option Addr
  | some (.ref f) => some f
  | _ => none
theorem refV_eq {a : Option Value} {i : Addr} (h : refV a = some i) : a = some (.ref i) := by
  cases a with
  | none => cases h
  | some v => cases v <;> first | (cases h; rfl) | cases h
noncomputable def listM (x : Str) : Option String := if x = Str.ofString "append" then some "list.append" else if x = Str.ofString "index" then some "list.index" else none
noncomputable def methS (K : Frag) (σ : SS) (v : SV) (x : Str) : Option (Value × List SV) :=
  orS ((instAt σ v).bind fun q => (findIn K (.ref q.2.1) x).bind fun g => (refV g).bind fun f => whenS (plainGet K q.2.1 x && isFn K (.ref f) && (svOf q.2.2.2 x).isNone) (some (.ref f, [v])))
  (orS ((listAt σ v).bind fun _ => (listM x).map fun id => (.builtin id, [v]))
    ((strS v).bind fun _ => whenS (decide (x = Str.ofString "endswith")) (some (.builtin "str.endswith", [v]))))
theorem getL_none {as : List Addr} : ∀ {l : List (Str × SV)} {es : List DictEntry} {x : Str}, All2 (REnt as) l es → svOf l x = none → getL x es = some none := by
  intro l es x H
  have hr := noRef H
  unfold svOf
  intro h
  have h' : l.find? (fun q => q.1 == x) = none := by simpa using h
  have : es.find? (fun e => e.key.isStr x) = none := by
    clear h hr
    induction H with
    | nil => rfl
    | @cons q e l es h1 h2 ih =>
      obtain ⟨⟨t, hk⟩, hv⟩ := h1
      rw [List.find?_cons] at h' ⊢
      have hx : e.key.isStr x = (q.1 == x) := by rw [hk]; rfl
      rw [hx]
      cases z : (q.1 == x) with
      | true => rw [z] at h'; cases h'
      | false => rw [z] at h'; exact ih h'
  unfold getL
  rw [this, hr]
  rfl
set_option maxRecDepth 100000 in
theorem meth_sound {sv : SV} {x : Str} {fv : Value} {r : Value × List SV} {pl : Sem Bool} {Q : Value × List Value → Shared → Prop} (e : methS K σ sv x = some r) (O : c.Ok prog w K p loose n) (R : Rel c.hid c.h₀ c.L σ s.heap m nw) (hv : RV (adrs nw) sv fv)
    (k : ∀ xs, All2 (RV (adrs nw)) r.2 xs → Q (r.1, xs) s) : wpAny (model prog w) c.A (getMethod fv x pl) Q E s := by
  rcases orS_of e with e | e
  · obtain ⟨q, q1, e1⟩ := bindS e
    obtain ⟨g, q2, e2⟩ := bindS e1
    obtain ⟨f, q6, e6⟩ := bindS e2
    obtain ⟨q7, e7⟩ := whenS_of e6
    clear e e1 e2 e6
    cases e7
    obtain ⟨q7, q8⟩ := andT q7
    obtain ⟨q7, q9⟩ := andT q7
    rw [refV_eq q6] at q2
    obtain ⟨d, dx, es, j, rfl, _, _, g3, g4⟩ := R.instAt q1 hv
    exact method_inst R.fr O.X g4 q7 q2 q9 (getL_none g3 (Option.isNone_iff_eq_none.mp q8)) (k _ (.cons hv .nil))
  rcases orS_of e with e | e
  · obtain ⟨q, q1, e1⟩ := bindS e
    obtain ⟨id, q2, e2⟩ := mapS e1
    cases e2
    obtain ⟨d, vs, k3, rfl, _, _, _, h4, _⟩ := R.listAt q1 hv
    unfold listM at q2
    split at q2
    · rename_i hx
      cases q2
      subst hx
      exact listMethod_K R.nws h4 PySem.F.slot_list_append PySem.F.type_list_append (k _ (.cons hv .nil))
    · split at q2
      · rename_i hx
        cases q2
        subst hx
        exact kf_method R.nws h4 PySem.F.slot_list_index PySem.F.type_list_index (k _ (.cons hv .nil))
      · cases q2
  · obtain ⟨y, q1, e1⟩ := bindS e
    obtain ⟨q2, e2⟩ := whenS_of e1
    cases e2
    obtain rfl := of_decide_eq_true q2
    have hv' := hv
    rw [strS_eq q1] at hv'
    obtain ⟨t, rfl⟩ := hv'
    exact GM.endswith (k _ (.cons hv .nil))
end
end Vx
end
section
open PySem PySem.W PySem.Calls PyProof.Rows
namespace Vx
variable [Rho]
/-! parts of expressions -/
noncomputable def oneL {α : Type} : List α → Option α
  | [x] => some x
  | _ => none
theorem oneL_eq {α : Type} {l : List α} {x : α} (h : oneL l = some x) : l = [x] := by
  match l, h with
  | [y], h => cases h; rfl
noncomputable def nameE : Expr → Option Str
  | .Name x _ => some x
  | _ => none
theorem nameE_eq {e : Expr} {x : Str} (h : nameE e = some x) : ∃ p, e = .Name x p := by
  cases e <;> first | (cases h; exact ⟨_, rfl⟩) | cases h
noncomputable def attrE : Expr → Option (Expr × Str × Pos)
  | .Attribute o x p => some (o, x, p)
  | _ => none
theorem attrE_eq {e : Expr} {q : Expr × Str × Pos} (h : attrE e = some q) : e = .Attribute q.1 q.2.1 q.2.2 := by
  cases e <;> first | (cases h; rfl) | cases h
noncomputable def cmpPart : Expr → Option (Expr × List CmpOp × List Expr)
  | .Compare l ops rs _ => some (l, ops, rs)
  | _ => none
theorem cmpPart_eq {e : Expr} {q : Expr × List CmpOp × List Expr} (h : cmpPart e = some q) : ∃ p, e = .Compare q.1 q.2.1 q.2.2 p := by
  cases e <;> first | (cases h; exact ⟨_, rfl⟩) | cases h
noncomputable def boolPart : Expr → Option (BoolOp × List Expr)
  | .BoolOp op es _ => some (op, es)
  | _ => none
theorem boolPart_eq {e : Expr} {q : BoolOp × List Expr} (h : boolPart e = some q) : ∃ p, e = .BoolOp q.1 q.2 p := by
  cases e <;> first | (cases h; exact ⟨_, rfl⟩) | cases h
noncomputable def unPart : Expr → Option (UnaryOp × Expr)
  | .UnaryOp op x _ => some (op, x)
  | _ => none
theorem unPart_eq {e : Expr} {q : UnaryOp × Expr} (h : unPart e = some q) : ∃ p, e = .UnaryOp q.1 q.2 p := by
  cases e <;> first | (cases h; exact ⟨_, rfl⟩) | cases h
/-! a bool that is not known -/
noncomputable def isAnyb : SV → Bool
  | .anyb => true
  | _ => false
noncomputable def isNe : CmpOp → Bool
  | .NotEq => true
  | _ => false
noncomputable def anyN (K : Frag) (cs : PySem.Scope) (σ : SS) (e : Expr) : Option Unit := (nameE e).bind fun x => (evName K cs σ x).bind fun v => whenS (isAnyb v) (some ())
noncomputable def anyS (K : Frag) (cs : PySem.Scope) (σ : SS) : Nat → Expr → Option Unit
  | 0, _ => none
  | k + 1, e => orS (anyN K cs σ e) (orS
      ((cmpPart e).bind fun q => (oneL q.2.1).bind fun op => (oneL q.2.2).bind fun r => whenS (isNe op) ((anyN K cs σ q.1).bind fun _ => (nameE r).bind fun _ => anyN K cs σ r))
      ((boolPart e).bind fun q => match q with
        | (.Or, [a, b]) => (anyS K cs σ k a).bind fun _ => anyS K cs σ k b
        | _ => none))
noncomputable def cmpE (ev : EvT) (cs : PySem.Scope) (σ : SS) (l : Expr) (op : CmpOp) (r : Expr) : Option (SV × SS) :=
  whenS (!behindInMarks op r) ((ev cs σ l).bind fun q => (ev cs q.2 r).bind fun q' => (cmpS q'.2 op q.1 q'.1).map (·, q'.2))
noncomputable def evAnd (ev : EvT) (cs : PySem.Scope) : SS → List Expr → Option (SV × SS)
  | _, [] => none
  | σ, [e] => ev cs σ e
  | σ, e :: e' :: r => (ev cs σ e).bind fun q => (truS q.1).bind fun b => match b with
    | true => evAnd ev cs q.2 (e' :: r)
    | false => some q
noncomputable def trOr (tr : TrT) (cs : PySem.Scope) : SS → List Expr → Option (Bool × SS)
  | σ, [] => some (false, σ)
  | σ, e :: r => (tr cs σ e).bind fun q => match q.1 with
    | true => some q
    | false => trOr tr cs q.2 r
noncomputable def trAnd (tr : TrT) (cs : PySem.Scope) : SS → List Expr → Option (Bool × SS)
  | σ, [] => some (true, σ)
  | σ, e :: r => (tr cs σ e).bind fun q => match q.1 with
    | true => trAnd tr cs q.2 r
    | false => some q
noncomputable def isRefV : Value → Bool
  | .ref _ => true
  | _ => false
noncomputable def callE (K : Frag) (ev : EvT) (cl : ClT) (cs : PySem.Scope) (σ : SS) (f : Value) (first : List SV) (args : List Expr) : Option (SV × SS) :=
  whenS (callable K first f && args.all notStar && (!args.isEmpty || isRefV f)) ((evArgs ev cs σ args).bind fun q => cl q.2 (.val f) (first ++ q.1))
noncomputable def valS : SV → Option Value
  | .val v => some v
  | _ => none
theorem valS_eq {a : SV} {i : Value} (h : valS a = some i) : a = .val i := by
  cases a <;> first | (cases h; rfl) | cases h
noncomputable def isBoolV : SV → Bool
  | .bool _ => true
  | _ => false
/-- the pairs of a dict's display -/
noncomputable def evPairs (ev : EvT) (cs : PySem.Scope) : SS → List (Option Expr) → List Expr → Option (List (Str × SV) × SS)
  | σ, [], [] => some ([], σ)
  | σ, some k :: ks, v :: vs => (ev cs σ k).bind fun q1 => (strS q1.1).bind fun x => (ev cs q1.2 v).bind fun q2 => (evPairs ev cs q2.2 ks vs).map fun q3 => ((x, q2.1) :: q3.1, q3.2)
  | _, _, _ => none
noncomputable def dictOk (keys : List (Option Expr)) (vals : List Expr) : Bool := keys.all (·.isSome) && decide (keys.length = vals.length) && !keys.isEmpty && decide (keys.length ≤ 15)
noncomputable def evDict (ev : EvT) (cs : PySem.Scope) (σ : SS) (keys : List (Option Expr)) (vals : List Expr) : Option (SV × SS) :=
  orS (whenS (keys.isEmpty && vals.isEmpty) (some (.own σ.objs.n, { σ with objs := σ.objs.push (.edict) })))
    (whenS (dictOk keys vals) ((evPairs ev cs { σ with objs := σ.objs.push (.edict) } keys vals).bind fun q => (edAt q.2 (.own σ.objs.n)).bind fun i => whenS (decide (q.1.map (·.1)).Nodup && !q.2.frz.contains i) (some (.own σ.objs.n, { q.2 with objs := q.2.objs.put i (.sdict q.1) }))))
noncomputable def evAttrE (K : Frag) (ev : EvT) (cs : PySem.Scope) (σ : SS) (o : Expr) (x : Str) : Option (SV × SS) := whenS (plainB o) ((ev cs σ o).bind fun q => (evAttr K q.2 q.1 x).map (·, q.2))
noncomputable def evTup (ev : EvT) (cs : PySem.Scope) (σ : SS) (es : List Expr) : Option (SV × SS) := (evArgs ev cs σ es).bind fun q => whenS (decide (q.1.length ≤ 1000)) (some (.own q.2.objs.n, { q.2 with objs := q.2.objs.push (.tup q.1) }))
noncomputable def evList (ev : EvT) (cs : PySem.Scope) (σ : SS) (es : List Expr) : Option (SV × SS) := (evArgs ev cs σ es).bind fun q => whenS (decide (q.1.length ≤ 1000)) (some (.own q.2.objs.n, { q.2 with objs := q.2.objs.push (.list q.1) }))
noncomputable def evCmp (K : Frag) (ev : EvT) (cs : PySem.Scope) (σ : SS) (l : Expr) (ops : List CmpOp) (rs : List Expr) (p : Pos) : Option (SV × SS) := orS ((anyS K cs σ 3 (.Compare l ops rs p)).map fun _ => (.anyb, σ)) ((oneL ops).bind fun op => (oneL rs).bind fun r => cmpE ev cs σ l op r)
noncomputable def evBool (K : Frag) (ev : EvT) (cs : PySem.Scope) (σ : SS) (op : BoolOp) (es : List Expr) (p : Pos) : Option (SV × SS) := orS ((anyS K cs σ 3 (.BoolOp op es p)).map fun _ => (.anyb, σ)) (match op with
    | .And => evAnd ev cs σ es
    | .Or => none)
noncomputable def evBin (ev : EvT) (cs : PySem.Scope) (σ : SS) (l : Expr) (op : Operator) (r : Expr) : Option (SV × SS) := (ev cs σ l).bind fun q => (ev cs q.2 r).bind fun q' => binS q'.2 op q.1 q'.1
noncomputable def evUn (ev : EvT) (cs : PySem.Scope) (σ : SS) (op : UnaryOp) (x : Expr) : Option (SV × SS) := (ev cs σ x).bind fun q => (unS op q.1).map (·, q.2)
noncomputable def evIf (ev : EvT) (tr : TrT) (cs : PySem.Scope) (σ : SS) (t b o : Expr) : Option (SV × SS) := (tr cs σ t).bind fun q => match q.1 with
    | true => ev cs q.2 b
    | false => ev cs q.2 o
noncomputable def evSub (ev : EvT) (cs : PySem.Scope) (σ : SS) (v i : Expr) : Option (SV × SS) := whenS (plainIx i) ((ev cs σ v).bind fun q => (ev cs q.2 i).bind fun q' => (subS q'.2 q.1 q'.1).map (·, q'.2))
noncomputable def evFn (K : Frag) (ev : EvT) (cl : ClT) (cs : PySem.Scope) (σ : SS) (x : Str) (args : List Expr) : Option (SV × SS) := (evName K cs σ x).bind fun v => (valS v).bind fun g => callE K ev cl cs σ g [] args
noncomputable def evMeth (K : Frag) (ev : EvT) (cl : ClT) (cs : PySem.Scope) (σ : SS) (a : Expr × Str × Pos) (args : List Expr) (pos : Pos) : Option (SV × SS) := whenS (plainB a.1 && decide (args.length < 30) && (a.2.2.endLine == pos.line)) ((ev cs σ a.1).bind fun q => (methS K q.2 q.1 a.2.1).bind fun g => callE K ev cl cs q.2 g.1 g.2 args)
noncomputable def evCall (K : Frag) (ev : EvT) (cl : ClT) (cs : PySem.Scope) (σ : SS) (f : Expr) (args : List Expr) (kws : List Keyword) (pos : Pos) : Option (SV × SS) := whenS kws.isEmpty (orS ((nameE f).bind fun x => evFn K ev cl cs σ x args) ((attrE f).bind fun a => evMeth K ev cl cs σ a args pos))
noncomputable def evalStep (K : Frag) (ev : EvT) (tr : TrT) (cl : ClT) : EvT := fun cs σ e => match e with
  | .Name x _ => (evName K cs σ x).map (·, σ)
  | .Constant q _ _ => (evConst q).map (·, σ)
  | .Attribute o x _ => evAttrE K ev cs σ o x
  | .Tuple es _ _ => evTup ev cs σ es
  | .List es _ => evList ev cs σ es
  | .Compare l ops rs p => evCmp K ev cs σ l ops rs p
  | .BoolOp op es p => evBool K ev cs σ op es p
  | .UnaryOp op x _ => evUn ev cs σ op x
  | .BinOp l op r _ => evBin ev cs σ l op r
  | .IfExp t b o _ => evIf ev tr cs σ t b o
  | .Subscript v i _ => evSub ev cs σ v i
  | .Dict keys vals _ => evDict ev cs σ keys vals
  | .Call f args kws pos => evCall K ev cl cs σ f args kws pos
  | _ => none
noncomputable def plainT : Expr → Bool
  | .Name .. => true
  | .Call .. => true
  | .Attribute .. => true
  | .Subscript .. => true
  | _ => false
noncomputable def trBool (tr : TrT) (cs : PySem.Scope) (σ : SS) (q : BoolOp × List Expr) : Option (Bool × SS) := match q.1 with
  | .Or => trOr tr cs σ q.2
  | .And => trAnd tr cs σ q.2
noncomputable def isNot : UnaryOp → Bool
  | .Not => true
  | _ => false
noncomputable def trCmp (ev : EvT) (cs : PySem.Scope) (σ : SS) (q : Expr × List CmpOp × List Expr) : Option (Bool × SS) := (oneL q.2.1).bind fun op => (oneL q.2.2).bind fun r => (cmpE ev cs σ q.1 op r).bind fun q => (truS q.1).map (·, q.2)
noncomputable def trNot (tr : TrT) (cs : PySem.Scope) (σ : SS) (q : UnaryOp × Expr) : Option (Bool × SS) := whenS (isNot q.1) ((tr cs σ q.2).map fun q => (!q.1, q.2))
noncomputable def trPlain (ev : EvT) (cs : PySem.Scope) (σ : SS) (e : Expr) : Option (Bool × SS) := whenS (plainT e) ((ev cs σ e).bind fun q => (truS q.1).map (·, q.2))
noncomputable def trStep (ev : EvT) (tr : TrT) : TrT := fun cs σ e =>
  orS ((cmpPart e).bind fun q => trCmp ev cs σ q) (orS ((boolPart e).bind fun q => trBool tr cs σ q) (orS ((unPart e).bind fun q => trNot tr cs σ q) (trPlain ev cs σ e)))
theorem plain_true {e : Expr} {env : Env} {whole : Sem Value} (h : plainT e = true) : PySem.isTrue e env whole = (do
        let v ← whole
        standAt e.pos
        holding [v] (truthy v)) := by
  cases e <;> first | rfl | cases h
section
variable {prog : Program} {w : World} {K : Frag} {p : Program} {loose : List Str} {n : Nat} {c : Ctx} {σ σ' : SS} {m : Str → Option Value} {nw : Led} {s : Shared} {E : Value → Shared → Prop} {ev : EvT} {tr : TrT} {cl : ClT}
theorem anyN_sound {e : Expr} {Q : Value → Shared → Prop} (h : anyN K c.cs σ e = some ()) (O : c.Ok prog w K p loose n) (R : Rel c.hid c.h₀ c.L σ s.heap m nw) (k : ∀ b, Q (.bool b) s) : wpAny (model prog w) c.A (eval e c.env) Q E s := by
  obtain ⟨x, q1, h1⟩ := bindS h
  obtain ⟨v, q2, h2⟩ := bindS h1
  obtain ⟨q3, _⟩ := whenS_of h2
  obtain ⟨pos, rfl⟩ := nameE_eq q1
  refine name_sound q2 O R fun y hy => ?_
  cases v <;> first | (cases q3; done) | skip
  obtain ⟨b, rfl⟩ := hy
  exact k b
theorem nameMark {r : Expr} {x : Str} {op : CmpOp} (h : nameE r = some x) : behindInMarks op r = false := by
  obtain ⟨pos, rfl⟩ := nameE_eq h
  rfl
theorem anyS_sound (O : c.Ok prog w K p loose n) : ∀ k {e : Expr} {s : Shared} {Q : Value → Shared → Prop}, anyS K c.cs σ k e = some () → Rel c.hid c.h₀ c.L σ s.heap m nw → (∀ b, Q (.bool b) s) → wpAny (model prog w) c.A (eval e c.env) Q E s
  | 0, _, _, _, h, _, _ => by cases h
  | k + 1, e, s, Q, h, R, kk => by
    rcases orS_of h with h | h
    · exact anyN_sound h O R kk
    rcases orS_of h with h | h
    · obtain ⟨q, q1, h1⟩ := bindS h
      obtain ⟨op, q2, h2⟩ := bindS h1
      obtain ⟨r, q3, h3⟩ := bindS h2
      obtain ⟨q4, h4⟩ := whenS_of h3
      obtain ⟨_, q5, h5⟩ := bindS h4
      obtain ⟨x, q6, h6⟩ := bindS h5
      obtain ⟨pos, rfl⟩ := cmpPart_eq q1
      rw [oneL_eq q2, oneL_eq q3]
      refine wpAny_Compare1 (anyN_sound q5 O R fun b => anyN_sound h6 O R fun d => ?_) (nameMark q6)
      cases op <;> first | (cases q4; done) | skip
      exact ne_bool (kk _)
    · obtain ⟨⟨op, es⟩, q1, h1⟩ := bindS h
      obtain ⟨pos, rfl⟩ := boolPart_eq q1
      match op, es, h1 with
      | .Or, [a, b], h1 =>
        obtain ⟨_, q2, h2⟩ := bindS h1
        refine BoolOp_or (anyS_sound O k q2 R fun b1 => wpAny_truthy_bool ?_)
        cases b1 with
        | true => exact kk true
        | false => exact BoolOp_one (anyS_sound O k h2 R kk)
theorem cmpE_sound (V : EvOk prog w K p loose n ev) (O : c.Ok prog w K p loose n) {l r : Expr} {op : CmpOp} {b : SV} (e : cmpE ev c.cs σ l op r = some (b, σ')) (R : Rel c.hid c.h₀ c.L σ s.heap m nw) {Q : Value → Shared → Prop}
    (k : ∀ h' tk nw' x, Rel c.hid c.h₀ c.L σ' h' m nw' → Ext nw nw' → RV (adrs nw') b x → Q x (stt s h' tk)) :
    behindInMarks op r = false ∧ wpAny (model prog w) c.A (eval l c.env) (fun a s₁ => wpAny (model prog w) c.A (eval r c.env) (fun b s₂ => wpAny (model prog w) c.A (compareOp op a b) Q E s₂) E s₁) E s := by
  obtain ⟨q0, e1⟩ := whenS_of e
  obtain ⟨⟨a, σ₁⟩, q1, e2⟩ := bindS e1
  obtain ⟨⟨b', σ₂⟩, q2, e3⟩ := bindS e2
  obtain ⟨z, q3, e4⟩ := mapS e3
  clear e e1 e2 e3
  cases e4
  exact ⟨notT q0, V c σ l a σ₁ q1 O m nw s _ _ R fun h' tk nw' x R' X' hx => V c σ₁ r b' _ q2 O m nw' (stt s h' tk) _ _ R' fun h'' tk' nw'' y R'' X'' hy =>
    cmp_sound (s := stt s h'' tk') O q3 R'' (hx.up X'') hy fun v hv => k h'' tk' nw'' v R'' (X'.trans X'') hv⟩
theorem evAnd_sound (V : EvOk prog w K p loose n ev) (O : c.Ok prog w K p loose n) {pos : Pos} : ∀ {es : List Expr} {σ : SS} {v : SV} {σ' : SS} {nw : Led} {s : Shared} {Q : Value → Shared → Prop}, evAnd ev c.cs σ es = some (v, σ') → Rel c.hid c.h₀ c.L σ s.heap m nw →
    (∀ h' tk nw' x, Rel c.hid c.h₀ c.L σ' h' m nw' → Ext nw nw' → RV (adrs nw') v x → Q x (stt s h' tk)) → wpAny (model prog w) c.A (eval (.BoolOp .And es pos) c.env) Q E s
  | [], _, _, _, _, _, _, e, _, _ => by cases e
  | [e], σ, v, σ', nw, s, Q, q, R, k => BoolOp_one (V c σ e v σ' q O m nw s _ _ R k)
  | e :: e' :: r, σ, v, σ', nw, s, Q, q, R, k => by
    obtain ⟨⟨v1, σ₁⟩, q1, h1⟩ := bindS q
    obtain ⟨b, q2, h2⟩ := bindS h1
    refine BoolOp_and (V c σ e v1 σ₁ q1 O m nw s _ _ R fun h' tk nw' x R' X' hx => tru_sound q2 hx ?_)
    cases b with
    | true => exact evAnd_sound V O h2 R' fun h'' tk' nw'' y R'' X'' hy => k h'' tk' nw'' y R'' (X'.trans X'') hy
    | false => cases h2; exact k h' tk nw' x R' X' hx
theorem trOr_sound (T : TrOk prog w K p loose n tr) (O : c.Ok prog w K p loose n) {pos : Pos} {whole : Sem Value} : ∀ {es : List Expr} {σ : SS} {b : Bool} {σ' : SS} {nw : Led} {s : Shared} {Q : Bool → Shared → Prop}, trOr tr c.cs σ es = some (b, σ') → Rel c.hid c.h₀ c.L σ s.heap m nw →
    (∀ h' tk nw', Rel c.hid c.h₀ c.L σ' h' m nw' → Ext nw nw' → Q b (stt s h' tk)) → wpAny (model prog w) c.A (PySem.isTrue (.BoolOp .Or es pos) c.env whole) Q E s
  | [], σ, b, σ', nw, s, Q, q, R, k => by cases q; exact isTrue_or_nil (k s.heap s.toks nw R .refl)
  | e :: r, σ, b, σ', nw, s, Q, q, R, k => by
    obtain ⟨⟨b1, σ₁⟩, q1, h1⟩ := bindS q
    refine isTrue_or (T c σ e b1 σ₁ q1 O m nw s _ _ R fun h' tk nw' R' X' => ?_)
    cases b1 with
    | true => cases h1; exact k h' tk nw' R' X'
    | false => exact trOr_sound T O h1 R' fun h'' tk' nw'' R'' X'' => k h'' tk' nw'' R'' (X'.trans X'')
theorem trAnd_sound (T : TrOk prog w K p loose n tr) (O : c.Ok prog w K p loose n) {pos : Pos} {whole : Sem Value} : ∀ {es : List Expr} {σ : SS} {b : Bool} {σ' : SS} {nw : Led} {s : Shared} {Q : Bool → Shared → Prop}, trAnd tr c.cs σ es = some (b, σ') → Rel c.hid c.h₀ c.L σ s.heap m nw →
    (∀ h' tk nw', Rel c.hid c.h₀ c.L σ' h' m nw' → Ext nw nw' → Q b (stt s h' tk)) → wpAny (model prog w) c.A (PySem.isTrue (.BoolOp .And es pos) c.env whole) Q E s
  | [], σ, b, σ', nw, s, Q, q, R, k => by cases q; exact isTrue_and_nil (k s.heap s.toks nw R .refl)
  | e :: r, σ, b, σ', nw, s, Q, q, R, k => by
    obtain ⟨⟨b1, σ₁⟩, q1, h1⟩ := bindS q
    refine isTrue_and (T c σ e b1 σ₁ q1 O m nw s _ _ R fun h' tk nw' R' X' => ?_)
    cases b1 with
    | true => exact trAnd_sound T O h1 R' fun h'' tk' nw'' R'' X'' => k h'' tk' nw'' R'' (X'.trans X'')
    | false => cases h1; exact k h' tk nw' R' X'
theorem callE_sound (V : EvOk prog w K p loose n ev) (C : ClOk prog w K p loose n cl) (O : c.Ok prog w K p loose n) {pos : Pos} {args : List Expr} {f : Value} {first : List SV} {xs : List Value} {r : SV} {Q : Value → Shared → Prop}
    (e : callE K ev cl c.cs σ f first args = some (r, σ')) (R : Rel c.hid c.h₀ c.L σ s.heap m nw) (h1 : All2 (RV (adrs nw)) first xs)
    (k : ∀ h' tk nw' v, Rel c.hid c.h₀ c.L σ' h' m nw' → Ext nw nw' → RV (adrs nw') r v → Q v (stt s h' tk)) : wpAny (model prog w) c.A (callWith pos f xs (backTo pos (starEach args c.env)) []) Q E s := by
  obtain ⟨hh, e1⟩ := whenS_of e
  obtain ⟨⟨vs, σ₁⟩, q1, e2⟩ := bindS e1
  obtain ⟨hh, h3⟩ := andT hh
  obtain ⟨hh, h4⟩ := andT hh
  refine callWith_sound V C hh h4 q1 e2 (fun ha => ?_) O R h1 k
  subst ha
  cases f <;> first | exact ⟨_, rfl⟩ | cases h3
/-! a dict's display -/
noncomputable def RP (as : List Addr) (p : Str × SV) (q : Value × Value) : Prop := (∃ t, q.1 = .str p.1 t) ∧ RV as p.2 q.2
theorem pairs_kv {as : List Addr} {l : List (Str × SV)} {vs : List (Value × Value)} (H : All2 (RP as) l vs) : allStrKeys vs = true ∧ (strPairs vs).map (·.1) = l.map (·.1) ∧ All2 (RKv as) l (strPairs vs) := by
  induction H with
  | nil => exact ⟨rfl, rfl, .nil⟩
  | @cons a b l s h1 h2 ih =>
    obtain ⟨b1, b2⟩ := b
    obtain ⟨⟨t, h3⟩, h4⟩ := h1
    have h3 : b1 = .str a.1 t := h3
    subst h3
    obtain ⟨i1, i2, i3⟩ := ih
    exact ⟨i1, congrArg (a.1 :: ·) i2, .cons ⟨rfl, h4⟩ i3⟩
theorem evPairs_sound (V : EvOk prog w K p loose n ev) (O : c.Ok prog w K p loose n) {pos : Pos} : ∀ {ks : List (Option Expr)} {vs : List Expr} {σ : SS} {l : List (Str × SV)} {σ' : SS} {nw : Led} {s : Shared} {Q : List (Value × Value) → Shared → Prop}, evPairs ev c.cs σ ks vs = some (l, σ') → Rel c.hid c.h₀ c.L σ s.heap m nw →
    (∀ h' tk nw' xs, Rel c.hid c.h₀ c.L σ' h' m nw' → Ext nw nw' → All2 (RP (adrs nw')) l xs → Q xs (stt s h' tk)) → wpAny (model prog w) c.A (evalPairs (pairTrees ks vs c.env pos)) Q E s
  | [], [], σ, l, σ', nw, s, Q, e, R, k => by cases e; exact pairTrees_nil_walk (k s.heap s.toks nw [] R .refl .nil)
  | some ke :: ks, ve :: vs, σ, l, σ', nw, s, Q, e, R, k => by
    obtain ⟨⟨kx, σ₁⟩, q1, e1⟩ := bindS e
    obtain ⟨x, q2, e2⟩ := bindS e1
    obtain ⟨⟨bx, σ₂⟩, q3, e3⟩ := bindS e2
    obtain ⟨⟨l', σ₃⟩, q4, e4⟩ := mapS e3
    clear e e1 e2 e3
    cases e4
    refine pairTrees_cons_walk (V c _ ke _ σ₁ q1 O m nw s _ _ R fun h1 tk1 nw1 y1 R1 X1 hy1 => V c σ₁ ve _ σ₂ q3 O m nw1 (stt s h1 tk1) _ _ R1 fun h2 tk2 nw2 y2 R2 X2 hy2 => ?_)
    refine evPairs_sound V O q4 R2 fun h3 tk3 nw3 xs R3 X3 hxs => k h3 tk3 nw3 _ R3 ((X1.trans X2).trans X3) (.cons ⟨?_, hy2.up X3⟩ hxs)
    rw [show kx = .str x from strS_eq q2] at hy1
    exact hy1
  | none :: _, _, _, _, _, _, _, _, e, _, _ => by cases e
  | some _ :: _, [], _, _, _, _, _, _, e, _, _ => by cases e
  | [], _ :: _, _, _, _, _, _, _, e, _, _ => by cases e
theorem evDict_sound (V : EvOk prog w K p loose n ev) (O : c.Ok prog w K p loose n) {keys : List (Option Expr)} {vals : List Expr} {pos : Pos} {v : SV} {Q : Value → Shared → Prop} (e : evDict ev c.cs σ keys vals = some (v, σ')) (R : Rel c.hid c.h₀ c.L σ s.heap m nw)
    (k : ∀ h' tk nw' x, Rel c.hid c.h₀ c.L σ' h' m nw' → Ext nw nw' → RV (adrs nw') v x → Q x (stt s h' tk)) : wpAny (model prog w) c.A (eval (.Dict keys vals pos) c.env) Q E s := by
  rcases orS_of e with e | e
  · obtain ⟨h1, e⟩ := whenS_of e
    cases e
    obtain ⟨h1, h2⟩ := andT h1
    rw [List.isEmpty_iff.mp h1, List.isEmpty_iff.mp h2]
    refine newDict_K R.fr R.nws O.T.nolimit fun d h' o F' N' lt lo hs fs hi fi => ?_
    obtain ⟨j, rfl⟩ := edict_of hs
    exact k h' _ _ _ (R.alloc F' N' lt ⟨lo, j, rfl⟩) .push (own_new R)
  · obtain ⟨h0, e1⟩ := whenS_of e
    obtain ⟨⟨l, σ₁⟩, q1, e2⟩ := bindS e1
    obtain ⟨i, q2, e3⟩ := bindS e2
    obtain ⟨q3, e4⟩ := whenS_of e3
    clear e e1 e2 e3
    cases e4
    obtain ⟨h0, h1⟩ := andT h0
    obtain ⟨h0, h2⟩ := andT h0
    obtain ⟨h0, h3⟩ := andT h0
    obtain ⟨q5, q4⟩ := andT q3
    refine kdn_eval (knd := PySem.strKind prog w) R.fr R.nws O.T.nolimit h0 (of_decide_eq_true h3) (fun z => by rw [z] at h2; cases h2) (of_decide_eq_true h1) fun d h' o F' N' lt lo hd => ?_
    obtain ⟨j, rfl⟩ := edict_of hd
    have R0 : Rel c.hid c.h₀ c.L { σ with objs := σ.objs.push (.edict) } h' m (nw ++ [(d, dictOf [] j)]) := R.alloc F' N' lt ⟨lo, j, rfl⟩
    have ho : RV (adrs (nw ++ [(d, dictOf [] j)])) (.own σ.objs.n) (.ref d) := own_new R
    refine evPairs_sound (s := { s with heap := h' }) V O q1 R0 fun h2 tk2 nw2 xs R2 X2 hxs => ?_
    have ho2 := ho.up X2
    obtain ⟨d2, k2, z1, z2, g0, g1, g4, _⟩ := R2.edAt q2 ho2
    cases z1
    cases z2
    obtain ⟨p1, p2, p3⟩ := pairs_kv hxs
    refine kdn_made_str R2.fr R2.nws (R2.updF g1) edict_is p1 (by rw [p2]; exact of_decide_eq_true q5) fun h3 o3 F3 N3 hd3 => ?_
    refine k h3 _ _ _ (R2.upd g1 (notT q4) F3 N3 g0 rfl rfl ⟨lo, _, by rw [O.kn]; exact hd3, p3⟩) ((Ext.push.trans X2).trans ⟨[], by rw [mapSetA g1, List.append_nil]⟩) ?_
    rw [mapSetA g1]
    exact ho2
theorem evalStep_sound (V : EvOk prog w K p loose n ev) (T : TrOk prog w K p loose n tr) (C : ClOk prog w K p loose n cl) : EvOk prog w K p loose n (evalStep K ev tr cl) := by
  intro c σ e v σ' h O m nw s Q E R k
  have unk : ∀ {e : Expr}, (anyS K c.cs σ 3 e).map (fun _ => (SV.anyb, σ)) = some (v, σ') → wpAny (model prog w) c.A (eval e c.env) Q E s := fun h => by
    obtain ⟨_, q1, q2⟩ := mapS h
    cases q2
    exact anyS_sound O 3 q1 R fun b => k s.heap s.toks nw _ R .refl ⟨b, rfl⟩
  cases e <;> first | (cases h; done) | skip
  case Name x pos =>
    obtain ⟨z, q1, q2⟩ := mapS h
    cases q2
    exact name_sound q1 O R fun y hy => k s.heap s.toks nw y R .refl hy
  case Constant x j pos =>
    obtain ⟨z, q1, q2⟩ := mapS h
    cases q2
    exact const_sound q1 fun tk y hy => k s.heap tk nw y R .refl hy
  case Attribute o x pos =>
    obtain ⟨hp, h⟩ := whenS_of h
    obtain ⟨⟨v1, σ₁⟩, q1, h⟩ := bindS h
    obtain ⟨z, q2, q3⟩ := mapS h
    cases q3
    exact Attribute_any_ (V c σ o v1 _ q1 O m nw s _ _ R fun h' tk nw' x R' X' hx => attr_sound (s := stt s h' tk) q2 O R' hx fun tk' y hy => k h' tk' nw' y R' X' hy) (attr_eq hp)
  case Tuple es j pos =>
    obtain ⟨⟨vs, σ₁⟩, q1, h⟩ := bindS h
    obtain ⟨hz, h⟩ := whenS_of h
    cases h
    exact Tuple_ (args_sound V O q1 R fun h' tk nw' xs R' X' hx => newTuple_sound (s := stt s h' tk) R' hx (of_decide_eq_true hz) fun h'' nw'' y R'' X'' hy => k h'' _ nw'' y R'' (X'.trans X'') hy)
  case List es pos =>
    obtain ⟨⟨vs, σ₁⟩, q1, h⟩ := bindS h
    obtain ⟨hz, h⟩ := whenS_of h
    cases h
    exact List_ (args_sound V O q1 R fun h' tk nw' xs R' X' hx => newList_sound (s := stt s h' tk) R' hx (of_decide_eq_true hz) fun h'' nw'' y R'' X'' hy => k h'' _ nw'' y R'' (X'.trans X'') hy)
  case Compare l ops rs pos =>
    rcases orS_of h with h | h
    · exact unk h
    obtain ⟨op, q1, h⟩ := bindS h
    obtain ⟨r, q2, h⟩ := bindS h
    rw [oneL_eq q1, oneL_eq q2]
    obtain ⟨g1, g2⟩ := cmpE_sound (Q := Q) (E := E) V O h R k
    exact wpAny_Compare1 g2 g1
  case BoolOp op es pos =>
    rcases orS_of h with h | h
    · exact unk h
    cases op with
    | And => exact evAnd_sound V O h R k
    | Or => cases h
  case UnaryOp op x pos =>
    obtain ⟨⟨v1, σ₁⟩, q1, h⟩ := bindS h
    obtain ⟨z, q2, q3⟩ := mapS h
    cases q3
    exact UnaryOp_ (V c σ x v1 _ q1 O m nw s _ _ R fun h' tk nw' y R' X' hy => un_sound (s := stt s h' tk) q2 hy fun tk' u hu => k h' tk' nw' u R' X' hu)
  case BinOp l op r pos =>
    obtain ⟨⟨a, σ₁⟩, q1, h⟩ := bindS h
    obtain ⟨⟨b, σ₂⟩, q2, h⟩ := bindS h
    exact wpAny_BinOp (V c σ l a σ₁ q1 O m nw s _ _ R fun h' tk nw' x R' X' hx => V c σ₁ r b σ₂ q2 O m nw' (stt s h' tk) _ _ R' fun h'' tk' nw'' y R'' X'' hy =>
      bin_sound (s := stt s h'' tk') h R'' (hx.up X'') hy fun h3 tk3 nw3 u R3 X3 hu => k h3 tk3 nw3 u R3 ((X'.trans X'').trans X3) hu)
  case IfExp t b o pos =>
    obtain ⟨⟨b1, σ₁⟩, q1, h⟩ := bindS h
    refine IfExp_ (T c σ t b1 σ₁ q1 O m nw s _ _ R fun h' tk nw' R' X' => ?_)
    cases b1 with
    | true => exact V c σ₁ b v σ' h O m nw' (stt s h' tk) _ _ R' fun h'' tk' nw'' y R'' X'' hy => k h'' tk' nw'' y R'' (X'.trans X'') hy
    | false => exact V c σ₁ o v σ' h O m nw' (stt s h' tk) _ _ R' fun h'' tk' nw'' y R'' X'' hy => k h'' tk' nw'' y R'' (X'.trans X'') hy
  case Subscript va i pos =>
    obtain ⟨hp, h⟩ := whenS_of h
    obtain ⟨⟨a, σ₁⟩, q1, h⟩ := bindS h
    obtain ⟨⟨b, σ₂⟩, q2, h⟩ := bindS h
    obtain ⟨z, q3, q4⟩ := mapS h
    cases q4
    exact Subscript_ (V c σ va a σ₁ q1 O m nw s _ _ R fun h' tk nw' x R' X' hx => V c σ₁ i b _ q2 O m nw' (stt s h' tk) _ _ R' fun h'' tk' nw'' y R'' X'' hy =>
      sub_sound (s := stt s h'' tk') O q3 hp R'' (hx.up X'') hy fun tk3 u hu => k h'' tk3 nw'' u R'' (X'.trans X'') hu)
  case Dict keys vals pos => exact evDict_sound V O h R k
  case Call f args kws pos =>
    obtain ⟨hk, h⟩ := whenS_of h
    rw [List.isEmpty_iff.mp hk]
    rcases orS_of h with h | h
    · obtain ⟨x, q0, h1⟩ := bindS h
      obtain ⟨u, q1, h2⟩ := bindS h1
      obtain ⟨g, q2, h3⟩ := bindS h2
      clear h h1 h2
      obtain ⟨px, rfl⟩ := nameE_eq q0
      rw [valS_eq q2] at q1
      exact Call_ (name_sound q1 O R fun y hy => by cases hy; exact callE_sound V C O h3 R .nil k) rfl
    · obtain ⟨a, q0, h⟩ := bindS h
      obtain ⟨hp, h⟩ := whenS_of h
      obtain ⟨⟨v1, σ₁⟩, q1, h⟩ := bindS h
      obtain ⟨g, q2, h⟩ := bindS h
      obtain ⟨hp, hp3⟩ := andT hp
      obtain ⟨hp, hp2⟩ := andT hp
      obtain ⟨hs, _⟩ := whenS_of h
      rw [attrE_eq q0]
      exact MethodCall_ (V c σ a.1 v1 σ₁ q1 O m nw s _ _ R fun h' tk nw' y R' X' hy => meth_sound (s := stt s h' tk) q2 O R' hy fun xs hx =>
        callE_sound (s := stt s h' tk) V C O h R' hx fun h'' tk' nw'' u R'' X'' hu => k h'' tk' nw'' u R'' (X'.trans X'') hu) (meth_eq hp (andT (andT hs).1).2 (of_decide_eq_true hp2) hp3)
theorem trStep_sound (V : EvOk prog w K p loose n ev) (T : TrOk prog w K p loose n tr) : TrOk prog w K p loose n (trStep ev tr) := by
  intro c σ e b σ' h O m nw s Q E R k
  rcases orS_of h with h | h
  · obtain ⟨q, q0, h⟩ := bindS h
    obtain ⟨op, q1, h⟩ := bindS h
    obtain ⟨r, q2, h⟩ := bindS h
    obtain ⟨⟨v, σ₁⟩, q3, h⟩ := bindS h
    obtain ⟨z, q4, q5⟩ := mapS h
    cases q5
    obtain ⟨pos, rfl⟩ := cmpPart_eq q0
    rw [oneL_eq q1, oneL_eq q2]
    obtain ⟨g1, g2⟩ := cmpE_sound (Q := fun x s' => wpAny (model prog w) c.A (truthy x) Q E s') (E := E) V O q3 R fun h' tk nw' x R' X' hx => tru_sound q4 hx (k h' tk nw' R' X')
    exact wpAny_isTrue_Compare1 g2 g1
  rcases orS_of h with h | h
  · obtain ⟨⟨op, es⟩, q0, h⟩ := bindS h
    obtain ⟨pos, rfl⟩ := boolPart_eq q0
    cases op with
    | And => exact trAnd_sound T O h R k
    | Or => exact trOr_sound T O h R k
  rcases orS_of h with h | h
  · obtain ⟨⟨op, x⟩, q0, h⟩ := bindS h
    obtain ⟨q1, h⟩ := whenS_of h
    obtain ⟨⟨b', σ₁⟩, q2, q3⟩ := mapS h
    cases q3
    obtain ⟨pos, rfl⟩ := unPart_eq q0
    cases op <;> first | (cases q1; done) | skip
    exact isTrue_not (T c σ x b' _ q2 O m nw s _ _ R k)
  · obtain ⟨hp, h⟩ := whenS_of h
    obtain ⟨⟨v, σ₁⟩, q1, h⟩ := bindS h
    obtain ⟨z, q2, q3⟩ := mapS h
    cases q3
    exact isTrue_plain (V c σ _ v _ q1 O m nw s _ _ R fun h' tk nw' x R' X' hx => tru_sound (s := stt s h' tk) q2 hx (k h' tk nw' R' X')) (plain_true hp)
end
end Vx
end
section
open PySem PySem.W PySem.Calls PyProof.Rows
namespace Vx
variable [Rho]
inductive SF where
  | next
  | cont
  | ret (v : SV)
noncomputable def RF (as : List Addr) : SF → Flow → Prop
  | .next, f => f = .next
  | .cont, f => f = .cont
  | .ret v, f => ∃ x, f = .ret x ∧ RV as v x
abbrev ExT := PySem.Scope → SS → List Stmt → Option (SF × SS)
/-- how a def binds some number of arguments: its parameters' names, and the defaults of those that are not given -/
abbrev BT := Addr → Nat → Option (List Str × List SV)
section
variable (prog : Program) (w : World) (K : Frag) (p : Program) (loose : List Str)
noncomputable def ExOk (n : Nat) (ex : ExT) : Prop := ∀ (c : Ctx) (σ : SS) (ss : List Stmt) (fl : SF) (σ' : SS), ex c.cs σ ss = some (fl, σ') → c.Ok prog w K p loose n →
  ∀ (m : Str → Option Value) (nw : Led) (s : Shared) (Q : Flow → Shared → Prop) (E : Value → Shared → Prop), PassesOwn (model prog w) c.A c.env E → Rel c.hid c.h₀ c.L σ s.heap m nw →
    (∀ h' tk m' nw' f, Rel c.hid c.h₀ c.L σ' h' m' nw' → Ext nw nw' → RF (adrs nw') fl f → Q f (stt s h' tk)) → wpAny (model prog w) c.A (execs ss c.env) Q E s
end
/-- a def as K holds it -/
noncomputable def fnI (K : Frag) (f : Addr) : Option FuncData := match K.lookup f with
  | some ⟨_, _, .func fd, _⟩ => some fd
  | _ => none
noncomputable def bodyI (fd : FuncData) : Option (List Stmt) := match fd.body with
  | .stmts b => some b
  | _ => none
noncomputable def fnOk (K : Frag) (fd : FuncData) : Bool := decide (fd.globals = mainGlobals) && fd.closure.isEmpty && decide (fd.builtins = builtinsNs) && codeIn K fd.code fd.qualname && !fd.scope.isCoroutine && !fd.scope.isGenerator && decide (fd.scope.kind = .function) && fd.scope.names.all (fun x => decide (x.2 ≠ .cell))
/-- the table of bindings tells what binding gives -/
noncomputable def BTOk (K : Frag) (bt : BT) : Prop := ∀ (f : Addr) (fd : FuncData) (xs : List Value) (names : List Str) (ds : List SV), fnI K f = some fd → bt f xs.length = some (names, ds) →
  ∀ s : Shared, K.In s.heap → ∃ vs, All2 (RV []) ds vs ∧ BindsTo s fd ⟨xs, []⟩ (names.zip (xs ++ vs))
theorem fnI_eq {K : Frag} {f : Addr} {fd : FuncData} {b : List Stmt} (h : fnI K f = some fd) (hb : bodyI fd = some b) (h1 : fd.globals = mainGlobals) (h2 : fd.closure = []) (h3 : fd.builtins = builtinsNs) :
    fd = fnOf fd.name fd.qualname fd.params b fd.scope fd.defaults fd.kwdefaults fd.doc fd.pyModule fd.annotations fd.code fd.closureTuple ∧
    ∃ oc od osl, K.lookup f = some ⟨oc, od, .func fd, osl⟩ := by
  refine ⟨?_, ?_⟩
  · obtain ⟨a1, a2, a3, a4, a5, a6, a7, a8, a9, a10, a11, a12, a13, a14, a15⟩ := fd
    unfold bodyI at hb
    simp only at hb h1 h2 h3
    split at hb
    · cases hb
      subst h1 h2 h3
      rfl
    · cases hb
  · unfold fnI at h
    split at h
    · rename_i q
      cases h
      exact ⟨_, _, _, q⟩
    · cases h
noncomputable def callDef (K : Frag) (bt : BT) (ex : ExT) (σ : SS) (f : Addr) (vs : List SV) : Option (SV × SS) := match fnI K f with
  | some fd => match bodyI fd with
    | some b => if fnOk K fd then match bt f vs.length with
      | some (ns, ds) => if ns.all (fun x => decide (fd.scope.names.lookup x = some .local)) then match ex fd.scope { loc := (ns.zip (vs ++ ds)).reverse, objs := σ.objs, frz := σ.frz } b with
        | some (.ret v, σ₁) => some (v, { loc := σ.loc, objs := σ₁.objs, frz := σ.frz })
        | some (.next, σ₁) => some (.none, { loc := σ.loc, objs := σ₁.objs, frz := σ.frz })
        | _ => none
        else none
      | none => none
      else none
    | none => none
  | none => none
theorem lookup_zip {as : List Addr} {ns : List Str} {l : List SV} {xs : List Value} (H : All2 (RV as) l xs) : All2 (fun (a : Str × SV) (b : Str × Value) => a.1 = b.1 ∧ RV as a.2 b.2) (ns.zip l) (ns.zip xs) := by
  induction H generalizing ns with
  | nil => rw [List.zip_nil_right, List.zip_nil_right]; exact .nil
  | cons h _ ih => cases ns with
    | nil => exact .nil
    | cons x r => exact .cons ⟨rfl, h⟩ ih
theorem All2.rev {α β : Type} {R : α → β → Prop} : ∀ {l : List α} {r : List β}, All2 R l r → All2 R l.reverse r.reverse
  | _, _, .nil => .nil
  | _, _, .cons x y => by rw [List.reverse_cons, List.reverse_cons]; exact (rev y).append (.cons x .nil)
theorem lookup_all2 {as : List Addr} {l : List (Str × SV)} {r : List (Str × Value)} (H : All2 (fun (a : Str × SV) (b : Str × Value) => a.1 = b.1 ∧ RV as a.2 b.2) l r) {x : Str} {sv : SV} (e : l.lookup x = some sv) : ∃ v, r.lookup x = some v ∧ RV as sv v := by
  induction H with
  | nil => cases e
  | @cons a b l r h _ ih =>
    obtain ⟨a1, a2⟩ := a
    obtain ⟨b1, b2⟩ := b
    obtain ⟨h1, h2⟩ := h
    simp only at h1 h2
    subst h1
    rw [List.lookup_cons] at e ⊢
    cases z : (x == a1) with
    | true => rw [z] at e; cases e; exact ⟨_, rfl, h2⟩
    | false => rw [z] at e; exact ih e
theorem mem_zip_fst {α β : Type} {y : α × β} : ∀ {l : List α} {r : List β}, y ∈ l.zip r → y.1 ∈ l
  | [], _, h => by cases h
  | _ :: _, [], h => by cases h
  | a :: l, b :: r, h => by
    rw [List.zip_cons_cons] at h
    rcases List.mem_cons.mp h with rfl | h
    · exact .head _
    · exact .tail _ (mem_zip_fst h)
section
variable {prog : Program} {w : World} {K : Frag} {p : Program} {loose : List Str} {n : Nat} {c : Ctx} {σ σ' : SS} {m : Str → Option Value} {nw : Led} {s : Shared} {E : Value → Shared → Prop} {ex : ExT} {bt : BT}
theorem lookup_mem {α : Type} {x : Str} {v : α} : ∀ {l : List (Str × α)}, l.lookup x = some v → (x, v) ∈ l
  | [], h => by cases h
  | (y, u) :: r, h => by
    rw [List.lookup_cons] at h
    cases z : (x == y) with
    | true => rw [z] at h; cases h; rw [eq_of_beq z]; exact .head _
    | false => rw [z] at h; exact .tail _ (lookup_mem h)
set_option maxHeartbeats 1000000 in
theorem callDef_code {f : Addr} {vs : List SV} {xs : List Value} {v : SV} {R : Result → Shared → Prop} {A : Around} (X : ExOk prog w K p loose n ex) (B : BTOk K bt) (h : callDef K bt ex σ f vs = some (v, σ'))
    (O : c.Ok prog w K p loose (n + 1)) (hA : A.frames = some (c.env :: c.outer)) (hhd : A.handled = none) (hdp : A.depth + 1 + 2 * n < recursionLimit) (hun : A.units + 3 + 8 * n + 64 < cLine) (Bl : Below c.A₀ c.base c.outer c.h₀) (hRel : Rel c.hid c.h₀ c.L σ s.heap m nw) (hx : All2 (RV (adrs nw)) vs xs)
    (k : ∀ h' tk nw' x, Rel c.hid c.h₀ c.L σ' h' m nw' → Ext nw nw' → RV (adrs nw') v x → R (.ok (.ret x)) (stt s h' tk)) : codeAny (model prog w) A (.call (.ref f) ⟨xs, []⟩) R s := by
  unfold callDef at h
  split at h
  · rename_i fd q1
    split at h
    · rename_i b q2
      split at h
      · rename_i q3
        split at h
        · rename_i ns ds q4
          split at h
          · rename_i q5
            unfold fnOk at q3
            simp only [Bool.and_eq_true, decide_eq_true_eq, Bool.not_eq_true', List.isEmpty_iff] at q3
            obtain ⟨⟨⟨⟨⟨⟨⟨f1, f2⟩, f3⟩, f4⟩, f5⟩, f6⟩, f7⟩, f8⟩ := q3
            obtain ⟨e1, oc, od, osl, e2⟩ := fnI_eq q1 q2 f1 f2 f3
            obtain ⟨dv, g1, g2⟩ := B f fd xs ns ds q1 (by rw [← hx.length]; exact q4) s (O.X.keeps hRel.fr.keep)
            rw [e1] at e2
            rw [e1] at g2
            have hz : All2 (RV (adrs nw)) (vs ++ ds) (xs ++ dv) := hx.append (g1.mono fun a b q => by have := RV.ext (ext := adrs nw) q; simpa using this)
            refine code_def Bl hRel.fr O.X hRel.nws O.T hA rfl O.kd e2 f4 (by omega) g2 (fun y hy => ?_) (fun g L' h₁ FG F' N' B' X' T' => ?_) f5 f6 f7 (fun x hxx => ?_)
            · have := List.all_eq_true.mp q5 y.1 (mem_zip_fst hy)
              exact of_decide_eq_true this
            · let c' : Ctx := { A := A.deeper (envOf fd.qualname fd.scope L' f fd.code), A₀ := A, base := c.base, h₀ := g, outer := c.env :: c.outer, mean := c.mean, mg := c.mg, mb := c.mb, cn := fd.qualname, cs := fd.scope, L := L', a := f, ccd := fd.code, cl := [], hid := c.hid }
              have O' : c'.Ok prog w K p loose n := ⟨B', X', T', by show A.frames.map _ = _; rw [hA]; rfl, hhd, hdp, by show A.units + 3 + 8 * n + 64 < _; exact hun, f7, O.kn, fun x hx => absurd rfl (of_decide_eq_true (List.all_eq_true.mp f8 _ (lookup_mem hx)))⟩
              have R0 : Rel c'.hid c'.h₀ c'.L { loc := (ns.zip (vs ++ ds)).reverse, objs := σ.objs, frz := σ.frz } h₁ (fun y => (ns.zip (xs ++ dv)).reverse.lookup y) nw := ⟨F', N', hRel.nd, hRel.ro, fun x sv e => lookup_all2 (lookup_zip hz).rev e, hRel.kp, hRel.fz⟩
              have fin : ∀ (σ₁ : SS) (h' : Heap) (tk : Nat) (m' : Str → Option Value) (nw' : Led) (y : Value), σ' = { loc := σ.loc, objs := σ₁.objs, frz := σ.frz } → Rel c'.hid c'.h₀ c'.L σ₁ h' m' nw' → Ext nw nw' → RV (adrs nw') v y → LeaveK c.h₀ c.L m g R y (stt s h' tk) := by
                intro σ₁ h' tk m' nw' y es R' X1 hy
                refine leaveK_ R'.fr R'.nws fun Fr' Ne' => ?_
                subst es
                refine k h' tk nw' y ⟨Fr', Ne', R'.nd, R'.ro, fun x sv e => ?_, R'.kp, fun q hq => ?_⟩ X1 hy
                · obtain ⟨z, z1, z2⟩ := hRel.rm x sv e
                  exact ⟨z, z1, z2.up X1⟩
                · rcases hRel.fz q hq with ⟨i, h1, h2⟩ | h
                  · obtain ⟨ex, hex⟩ := X1
                    exact .inl ⟨i, h1, by rw [hex]; exact getExt h2⟩
                  · exact .inr h
              split at h
              · rename_i r σ₁ q6
                cases h
                exact X c' _ b _ σ₁ q6 O' _ nw _ _ _ PassesOwn.leaving R0 fun h' tk m' nw' fl R' X1 hf => by
                  obtain ⟨y, rfl, hy⟩ := hf
                  exact fin σ₁ h' tk m' nw' y rfl R' X1 hy
              · rename_i σ₁ q6
                cases h
                exact X c' _ b _ σ₁ q6 O' _ nw _ _ _ PassesOwn.leaving R0 fun h' tk m' nw' fl R' X1 hf => by
                  cases hf
                  exact fin σ₁ h' tk m' nw' .none rfl R' X1 rfl
              · cases h
            · have := List.all_eq_true.mp f8 x hxx
              exact of_decide_eq_true this
          · cases h
        · cases h
      · cases h
    · cases h
  · cases h
end
end Vx
end
section
open PySem PySem.W PySem.Calls PyProof.Rows
namespace Vx
variable [Rho]
noncomputable def isNoneV : SV → Bool
  | .none => true
  | _ => false
noncomputable def callCls (K : Frag) (bt : BT) (ex : ExT) (σ : SS) (C : Addr) (vs : List SV) : Option (SV × SS) :=
  whenS (makesIn K C) ((findIn K (.ref C) (Str.ofString "__init__")).bind fun g => (refV g).bind fun fI => whenS (isFn K (.ref fI)) ((callDef K bt ex { σ with objs := (σ.objs.push (.attrs [])).push (.inst C σ.objs.n) } fI (.own (σ.objs.n + 1) :: vs)).bind fun q => whenS (isNoneS q.1) (some (.own (σ.objs.n + 1), q.2))))
section
variable {prog : Program} {w : World} {K : Frag} {p : Program} {loose : List Str} {n : Nat} {c : Ctx} {σ σ' : SS} {m : Str → Option Value} {nw : Led} {s : Shared} {E : Value → Shared → Prop} {ex : ExT} {bt : BT}
theorem at_len {nw : Led} {q : Addr × Obj} : (adrs (nw ++ [q]))[nw.length]? = some q.1 := by
  rw [adrs, List.map_append, List.getElem?_append_right (by rw [List.length_map]; exact Nat.le_refl _), List.length_map, Nat.sub_self]
  rfl
theorem callCls_sound {C : Addr} {vs : List SV} {xs : List Value} {v : SV} {Q : Value → Shared → Prop} (X : ExOk prog w K p loose n ex) (B : BTOk K bt) (h : callCls K bt ex σ C vs = some (v, σ')) (O : c.Ok prog w K p loose (n + 1))
    (R : Rel c.hid c.h₀ c.L σ s.heap m nw) (hx : All2 (RV (adrs nw)) vs xs)
    (k : ∀ h' tk nw' x, Rel c.hid c.h₀ c.L σ' h' m nw' → Ext nw nw' → RV (adrs nw') v x → Q x (stt s h' tk)) : wpAny (model prog w) c.A (call (.ref C) xs) Q E s := by
  obtain ⟨q1, h1⟩ := whenS_of h
  obtain ⟨g, q2, h2⟩ := bindS h1
  obtain ⟨fI, q3, h3⟩ := bindS h2
  obtain ⟨q4, h4⟩ := whenS_of h3
  obtain ⟨⟨r, σ₁⟩, q5, h5⟩ := bindS h4
  obtain ⟨q6, h6⟩ := whenS_of h5
  clear h h1 h2 h3 h4 h5
  cases h6
  rw [refV_eq q3] at q2
  rw [show r = .none from isNoneS_eq q6] at q5
  refine call_cls R.fr O.X R.nws q1 q2 q4 fun x dx h' F' N' l1 l2 => ?_
  have R1 : Rel c.hid c.h₀ c.L { σ with objs := σ.objs.push (.attrs []) } h' m (nw ++ [(dx, dictOf [] 0)]) := R.alloc F' (fun q hq => N' q (.tail _ hq)) l1 ⟨[], 0, rfl, .nil⟩
  have hd : (adrs (nw ++ [(dx, dictOf [] 0)]))[σ.objs.n]? = some dx := by rw [R.len]; exact at_len
  have R2 : Rel c.hid c.h₀ c.L { σ with objs := (σ.objs.push (.attrs [])).push (.inst C σ.objs.n) } h' m (nw ++ [(dx, dictOf [] 0)] ++ [(x, instObj C dx)]) := R1.alloc F' (fun q hq => N' q (by
      rcases List.mem_cons.mp hq with rfl | hq
      · exact .head _
      · rcases List.mem_append.mp hq with hq | hq
        · rcases List.mem_append.mp hq with hq | hq
          · exact .tail _ (.tail _ (List.mem_append_left _ hq))
          · rcases List.mem_singleton.mp hq with rfl; exact .tail _ (.head _)
        · exact .tail _ (.tail _ (List.mem_append_right _ hq))))
    (fun q hq => by
      rcases List.mem_append.mp hq with hq | hq
      · rcases List.mem_append.mp hq with hq | hq
        · exact Nat.lt_trans (l1 q (List.mem_append_left _ hq)) l2
        · rcases List.mem_singleton.mp hq with rfl; exact l2
      · exact Nat.lt_trans (l1 q (List.mem_append_right _ hq)) l2) ⟨dx, hd, rfl⟩
  have X1 : Ext nw (nw ++ [(dx, dictOf [] 0)] ++ [(x, instObj C dx)]) := Ext.push.trans .push
  have ho : RV (adrs (nw ++ [(dx, dictOf [] 0)] ++ [(x, instObj C dx)])) (.own (σ.objs.n + 1)) (.ref x) := by
    refine ⟨x, ?_, rfl⟩
    have : (adrs (nw ++ [(dx, dictOf [] 0)] ++ [(x, instObj C dx)]))[(nw ++ [(dx, dictOf [] 0)]).length]? = some x := at_len
    rw [List.length_append, List.length_singleton] at this
    rw [R.len]
    exact this
  have hy := O.dp
  have hu := O.un
  exact callDef_code (n := n) (c := c) X B q5 O (A := c.A.under (Code.builtin "type.__call__" { pos := .ref C :: xs, kw := [] })) (by have := O.fr; exact this) O.hd (by show c.A.depth + 1 + 1 + 2 * n < _; omega) (by show c.A.units + 1 + 3 + 8 * n + 64 < _; omega) (by exact ⟨O.B.1, O.B.2, O.B.3⟩) (s := { s with heap := h' }) R2 (.cons ho (hx.up X1))
    fun h'' tk nw' z R3 X3 hz => by
      cases hz
      exact ⟨rfl, k h'' tk nw' _ R3 (X1.trans X3) (ho.up X3)⟩
theorem All2.inv1 {α β : Type} {R : α → β → Prop} {a : α} {r : List β} (h : All2 R [a] r) : ∃ x, r = [x] ∧ R a x := by
  cases h with
  | cons h1 h2 => cases h2; exact ⟨_, rfl, h1⟩
theorem All2.inv2 {α β : Type} {R : α → β → Prop} {a b : α} {r : List β} (h : All2 R [a, b] r) : ∃ x y, r = [x, y] ∧ R a x ∧ R b y := by
  cases h with
  | cons h1 h2 => obtain ⟨y, rfl, h3⟩ := h2.inv1; exact ⟨_, y, rfl, h1, h3⟩
/-! built-in calls -/
noncomputable def twoL {α : Type} : List α → Option (α × α)
  | [x, y] => some (x, y)
  | _ => none
theorem twoL_eq {α : Type} {l : List α} {x : α × α} (h : twoL l = some x) : l = [x.1, x.2] := by
  match l, h with
  | [y, z], h => cases h; rfl
noncomputable def soKn : SO → Option Nat
  | .known k => some k
  | _ => none
theorem soKn_eq {a : SO} {i : Nat} (h : soKn a = some i) : a = .known i := by
  cases a <;> first | (cases h; rfl) | cases h
noncomputable def appendS (σ : SS) (vs : List SV) : Option (SV × SS) := (twoL vs).bind fun q => (listAt σ q.1).bind fun l => whenS (decide (l.2.length ≤ 1000) && !σ.frz.contains l.1) (some (.none, { σ with objs := σ.objs.put l.1 (.list (l.2 ++ [q.2])) }))
noncomputable def lenB (σ : SS) (vs : List SV) : Option (SV × SS) := (oneL vs).bind fun v =>
  orS ((listAt σ v).bind fun q => whenS (decide (q.2.length ≤ 1000)) (some (.int (q.2.length : Int), σ))) ((tupAt σ v).bind fun q => whenS (decide (q.2.length ≤ 1000)) (some (.int (q.2.length : Int), σ)))
noncomputable def endsB (σ : SS) (vs : List SV) : Option (SV × SS) := (twoL vs).bind fun q => (strS q.1).bind fun x => (strS q.2).bind fun d => whenS (decide (d.length ≤ x.length)) (some (.bool (Txt.endswith x d), σ))
noncomputable def sortedB (σ : SS) (vs : List SV) : Option (SV × SS) := (oneL vs).bind fun v => (edAt σ v).map fun _ => (.own σ.objs.n, { σ with objs := σ.objs.push (.list []) })
noncomputable def indexB (σ : SS) (vs : List SV) : Option (SV × SS) := (twoL vs).bind fun q => (listAt σ q.1).bind fun l => (strS q.2).bind fun x => (strsOf l.2).bind fun ys => (ys.findIdx? (fun y => y == x)).bind fun j => whenS (decide (ys.length ≤ 1000)) (some (.int (j : Int), σ))
noncomputable def typeV : Value → Option String
  | .type t => some t
  | _ => none
theorem typeV_eq {a : Value} {i : String} (h : typeV a = some i) : a = .type i := by
  cases a <;> first | (cases h; rfl) | cases h
noncomputable def instB (K : Frag) (σ : SS) (vs : List SV) : Option (SV × SS) := (twoL vs).bind fun q => (valS q.2).bind fun v => (typeV v).bind fun t =>
  orS ((intS q.1).bind fun _ => orS (whenS (decide (t = "int")) (some (.bool true, σ))) (whenS (decide (t = "bool")) (some (.bool false, σ))))
  (orS ((strS q.1).bind fun _ => whenS (decide (t = "str")) (some (.bool true, σ)))
    ((tupAt σ q.1).bind fun _ => whenS (decide (t = "tuple")) ((kitOne K (.type "tuple") (.type "tuple")).map fun b => (.bool b, σ))))
noncomputable def callB (K : Frag) (σ : SS) (id : String) (vs : List SV) : Option (SV × SS) :=
  orS (whenS (decide (id = "list.append")) (appendS σ vs))
  (orS (whenS (decide (id = "len")) (lenB σ vs))
  (orS (whenS (decide (id = "str.endswith")) (endsB σ vs))
  (orS (whenS (decide (id = "sorted")) (sortedB σ vs))
  (orS (whenS (decide (id = "list.index")) (indexB σ vs))
    (whenS (decide (id = "isinstance")) (instB K σ vs))))))
noncomputable def copyB (σ : SS) (T : String) (vs : List SV) : Option (SV × SS) := whenS (decide (T = "list")) ((oneL vs).bind fun v => (listAt σ v).bind fun q => whenS (decide (q.2.length ≤ 1000)) (some (.own σ.objs.n, { σ with objs := σ.objs.push (.list q.2) })))
theorem append_sound {vs : List SV} {xs : List Value} {v : SV} {Q : Value → Shared → Prop} (h : appendS σ vs = some (v, σ')) (R : Rel c.hid c.h₀ c.L σ s.heap m nw) (hx : All2 (RV (adrs nw)) vs xs)
    (k : ∀ h' tk nw' x, Rel c.hid c.h₀ c.L σ' h' m nw' → Ext nw nw' → RV (adrs nw') v x → Q x (stt s h' tk)) : wpAny (model prog w) c.A (call (.builtin "list.append") xs) Q E s := by
  obtain ⟨⟨a, b⟩, q1, h1⟩ := bindS h
  obtain ⟨⟨i, l⟩, q2, h2⟩ := bindS h1
  obtain ⟨q3, h3⟩ := whenS_of h2
  clear h h1 h2
  cases h3
  rw [twoL_eq q1] at hx
  obtain ⟨x, y, rfl, ha, hv⟩ := hx.inv2
  obtain ⟨d, us, k3, z1, z2, g0, g1, g4, g5⟩ := R.listAt q2 ha
  obtain ⟨q4, q5⟩ := andT q3
  subst z1
  have q4 : l.length ≤ 1000 := of_decide_eq_true q4
  have hl : l.length = us.length := g5.length
  refine append_K R.fr R.nws (R.updAt g1) (fun h' F' N' => k h' s.toks _ .none (R.upd g1 (notT q5) F' N' g0 rfl rfl ⟨us ++ [y], k3 + 1, by simp, g5.append (.cons hv .nil)⟩) ⟨[], by rw [mapSetA g1, List.append_nil]⟩ rfl) (by rw [sizeLine_eq]; simp; omega)
theorem len_sound {vs : List SV} {xs : List Value} {v : SV} {Q : Value → Shared → Prop} (h : lenB σ vs = some (v, σ')) (R : Rel c.hid c.h₀ c.L σ s.heap m nw) (hx : All2 (RV (adrs nw)) vs xs)
    (k : ∀ h' tk nw' x, Rel c.hid c.h₀ c.L σ' h' m nw' → Ext nw nw' → RV (adrs nw') v x → Q x (stt s h' tk)) : wpAny (model prog w) c.A (call (.builtin "len") xs) Q E s := by
  obtain ⟨a, q1, h1⟩ := bindS h
  rw [oneL_eq q1] at hx
  obtain ⟨x, rfl, ha⟩ := hx.inv1
  clear h
  rcases orS_of h1 with h | h
  · obtain ⟨q, q2, h2⟩ := bindS h
    obtain ⟨q3, h3⟩ := whenS_of h2
    cases h3
    obtain ⟨d, us, k3, rfl, _, _, _, g4, g5⟩ := R.listAt q2 ha
    exact kun_lenL (k := (q.2.length : Int)) ⟨_, (R.nws _ g4).1, rfl, k3, rfl⟩ (by rw [g5.length]; simp) (by have := of_decide_eq_true q3; omega) (k s.heap _ nw _ R .refl ⟨_, rfl⟩)
  · obtain ⟨q, q2, h2⟩ := bindS h
    obtain ⟨q3, h3⟩ := whenS_of h2
    cases h3
    obtain ⟨d, us, rfl, _, _, _, g4, g5⟩ := R.tupAt q2 ha
    exact kun_lenT (k := (q.2.length : Int)) (News.isTup R.nws g4) (by rw [g5.length]; simp) (by have := of_decide_eq_true q3; omega) (k s.heap _ nw _ R .refl ⟨_, rfl⟩)
theorem ends_sound {vs : List SV} {xs : List Value} {v : SV} {Q : Value → Shared → Prop} (h : endsB σ vs = some (v, σ')) (R : Rel c.hid c.h₀ c.L σ s.heap m nw) (hx : All2 (RV (adrs nw)) vs xs)
    (k : ∀ h' tk nw' x, Rel c.hid c.h₀ c.L σ' h' m nw' → Ext nw nw' → RV (adrs nw') v x → Q x (stt s h' tk)) : wpAny (model prog w) c.A (call (.builtin "str.endswith") xs) Q E s := by
  obtain ⟨⟨a, b⟩, q1, h1⟩ := bindS h
  obtain ⟨x, q2, h2⟩ := bindS h1
  obtain ⟨d, q3, h3⟩ := bindS h2
  obtain ⟨q4, h4⟩ := whenS_of h3
  clear h h1 h2 h3
  cases h4
  rw [twoL_eq q1, show a = .str x from strS_eq q2, show b = .str d from strS_eq q3] at hx
  obtain ⟨y1, y2, rfl, ⟨t, rfl⟩, ⟨u, rfl⟩⟩ := hx.inv2
  exact KAf.ends_suf (KAf.suf_of rfl (of_decide_eq_true q4)) (k s.heap s.toks nw _ R .refl rfl)
theorem sorted_sound {vs : List SV} {xs : List Value} {v : SV} {Q : Value → Shared → Prop} (h : sortedB σ vs = some (v, σ')) (O : c.Ok prog w K p loose n) (R : Rel c.hid c.h₀ c.L σ s.heap m nw) (hx : All2 (RV (adrs nw)) vs xs)
    (k : ∀ h' tk nw' x, Rel c.hid c.h₀ c.L σ' h' m nw' → Ext nw nw' → RV (adrs nw') v x → Q x (stt s h' tk)) : wpAny (model prog w) c.A (call (.builtin "sorted") xs) Q E s := by
  obtain ⟨a, q1, h1⟩ := bindS h
  obtain ⟨i, q2, h2⟩ := mapS h1
  clear h h1
  cases h2
  rw [oneL_eq q1] at hx
  obtain ⟨x, rfl, ha⟩ := hx.inv1
  obtain ⟨d, j, rfl, _, _, _, g4, lo⟩ := R.edAt q2 ha
  refine kdu_sortedD (knd := PySem.strKind prog w) (enc := PyData.str) (fun _ _ => kdl_flat_str) O.hd R.fr R.nws (TabAt.ofNews R.nws g4 lo edict_is flat_str) (by decide) fun B h' tk F' N' lt => ?_
  have R' : Rel c.hid c.h₀ c.L { σ with objs := σ.objs.push (.list []) } h' m (nw ++ [(B, W.listOf #[] 0)]) := R.alloc F' N' lt ⟨[], 0, rfl, .nil⟩
  have hB : (nw ++ [(B, W.listOf #[] 0)])[nw.length]? = some (B, W.listOf #[] 0) := by rw [List.getElem?_append_right (Nat.le_refl _), Nat.sub_self]; rfl
  have U := R'.updAt (o' := W.listOf #[] 0) hB
  have es : (nw ++ [(B, W.listOf #[] 0)]).set nw.length (B, W.listOf #[] 0) = nw ++ [(B, W.listOf #[] 0)] := by
    rw [List.set_append_right _ _ (Nat.le_refl _), Nat.sub_self]; rfl
  rw [es] at U
  exact sort_nil (A := c.A.in1) R'.fr R'.nws U fun h'' F'' N'' => k h'' _ _ _ (R'.same F'' N'') .push (own_new R)
theorem copy_sound {T : String} {vs : List SV} {xs : List Value} {v : SV} {Q : Value → Shared → Prop} (h : copyB σ T vs = some (v, σ')) (R : Rel c.hid c.h₀ c.L σ s.heap m nw) (hx : All2 (RV (adrs nw)) vs xs)
    (k : ∀ h' tk nw' x, Rel c.hid c.h₀ c.L σ' h' m nw' → Ext nw nw' → RV (adrs nw') v x → Q x (stt s h' tk)) : wpAny (model prog w) c.A (call (.type T) xs) Q E s := by
  obtain ⟨q0, h0⟩ := whenS_of h
  obtain ⟨a, q1, h1⟩ := bindS h0
  obtain ⟨q, q2, h2⟩ := bindS h1
  obtain ⟨q3, h3⟩ := whenS_of h2
  clear h h0 h1 h2
  cases h3
  rw [of_decide_eq_true q0]
  rw [oneL_eq q1] at hx
  obtain ⟨x, rfl, ha⟩ := hx.inv1
  obtain ⟨d, us, k3, rfl, _, _, _, g4, g5⟩ := R.listAt q2 ha
  exact kup_listOf R.fr R.nws g4 rfl (fun D c' h' F' N' lt => k h' s.toks _ _ (R.alloc F' N' lt ⟨us, c', rfl, g5⟩) .push (own_new R)) (by rw [sizeLine_eq]; have := of_decide_eq_true q3; have := g5.length; simp; omega)
noncomputable def allStr : List Value → Bool
  | [] => true
  | .str _ _ :: r => allStr r
  | _ :: _ => false
noncomputable def isS (x : Str) : Value → Bool
  | .str y _ => y == x
  | _ => false
theorem allStr_eq {x : Str} {t : Tok} : ∀ {l : List Value}, allStr l = true → ∀ y, y ∈ l → MeetsSeq.EqGives y (.str x t) (isS x y)
  | [], _, _, hy => nomatch hy
  | z :: r, h, y, hy => by
    cases z with
    | str a u =>
      rcases List.mem_cons.mp hy with rfl | hy
      · exact PyProof.Rows.eqGives_str a x u t
      · exact allStr_eq (l := r) h y hy
    | _ => cases h
theorem idx_str {A : Around} {h₀ : Heap} {L D : Addr} {news : Led} {its : List Value} {j0 : Nat} {x : Str} {t : Tok} {Q : Value → Shared → Prop} (j : Nat) (N : News h₀ L s.heap news) (hm : (D, W.listOf its.toArray j0) ∈ news) (hi : allStr its = true) (e : its.findIdx? (isS x) = some j) (hz : its.length ≤ 1000)
    (h : Q (.int (j : Int) s.toks) { s with toks := s.toks + 1 }) : wpAny (model prog w) A (call (.builtin "list.index") [.ref D, .str x t]) Q E s := by
  obtain ⟨a, b, c⟩ := List.findIdx?_eq_some_iff_getElem.mp e
  refine call_meets PySem.F.slot_list_index ⟨_, (N _ hm).1, rfl⟩ PySem.F.entry_list_index (PySem.F.args_list_index_2 _ _)
    (MeetsSeq.list_index D its.toArray j0 (.str x t) (isS x) (fun y hy => allStr_eq hi y (by simpa using hy)) j (by simpa using a) (by omega) (by simpa using b) (fun i hi hlt => by simpa using c i hlt)) ⟨(N _ hm).1, h⟩
theorem strs_all {as : List Addr} {x : Str} : ∀ {l : List SV} {vs : List Value} {ys : List Str}, All2 (RV as) l vs → strsOf l = some ys → allStr vs = true ∧ vs.findIdx? (isS x) = ys.findIdx? (fun y => y == x) ∧ vs.length = ys.length := by
  intro l vs ys H
  induction H generalizing ys with
  | nil => intro e; cases e; exact ⟨rfl, rfl, rfl⟩
  | @cons a b l r h1 h2 ih =>
    intro e
    obtain ⟨z, q0, e⟩ := bindS e
    obtain ⟨zs, q1, rfl⟩ := mapS e
    rw [strS_eq q0] at h1
    obtain ⟨t, rfl⟩ := h1
    obtain ⟨g1, g2, g3⟩ := ih q1
    refine ⟨g1, ?_, congrArg Nat.succ g3⟩
    rw [List.findIdx?_cons, List.findIdx?_cons, g2]
    rfl
theorem index_sound {vs : List SV} {xs : List Value} {v : SV} {Q : Value → Shared → Prop} (h : indexB σ vs = some (v, σ')) (R : Rel c.hid c.h₀ c.L σ s.heap m nw) (hx : All2 (RV (adrs nw)) vs xs)
    (k : ∀ h' tk nw' x, Rel c.hid c.h₀ c.L σ' h' m nw' → Ext nw nw' → RV (adrs nw') v x → Q x (stt s h' tk)) : wpAny (model prog w) c.A (call (.builtin "list.index") xs) Q E s := by
  obtain ⟨⟨a, b⟩, q1, h1⟩ := bindS h
  obtain ⟨l, q2, h2⟩ := bindS h1
  obtain ⟨x, q3, h3⟩ := bindS h2
  obtain ⟨ys, q4, h4⟩ := bindS h3
  obtain ⟨j, q5, h5⟩ := bindS h4
  obtain ⟨q6, h6⟩ := whenS_of h5
  clear h h1 h2 h3 h4 h5
  cases h6
  rw [twoL_eq q1, show b = .str x from strS_eq q3] at hx
  obtain ⟨y1, y2, rfl, ha, ⟨t, rfl⟩⟩ := hx.inv2
  obtain ⟨d, us, k3, rfl, _, _, _, g4, g5⟩ := R.listAt q2 ha
  obtain ⟨g1, g2, g3⟩ := strs_all (x := x) g5 q4
  exact idx_str j R.nws g4 g1 (g2.trans q5) (by have := of_decide_eq_true q6; omega) (k s.heap _ nw _ R .refl ⟨_, rfl⟩)
theorem inst_sound {vs : List SV} {xs : List Value} {v : SV} {Q : Value → Shared → Prop} (h : instB K σ vs = some (v, σ')) (O : c.Ok prog w K p loose n) (R : Rel c.hid c.h₀ c.L σ s.heap m nw) (hx : All2 (RV (adrs nw)) vs xs)
    (k : ∀ tk b, v = .bool b → σ' = σ → Q (.bool b) (stt s s.heap tk)) : wpAny (model prog w) c.A (call (.builtin "isinstance") xs) Q E s := by
  obtain ⟨⟨a, b⟩, q1, h1⟩ := bindS h
  obtain ⟨x, q2, h2⟩ := bindS h1
  obtain ⟨T, q3, h3⟩ := bindS h2
  clear h h1 h2
  rw [twoL_eq q1, show b = .val x from valS_eq q2, typeV_eq q3] at hx
  obtain ⟨y1, y2, rfl, ha, rfl⟩ := hx.inv2
  clear q1 q2 q3 hx
  rcases orS_of h3 with h | h
  · obtain ⟨i, q4, h4⟩ := bindS h
    rw [show a = .int i from intS_eq q4] at ha
    obtain ⟨t, rfl⟩ := ha
    rcases orS_of h4 with h | h
    · obtain ⟨q5, h5⟩ := whenS_of h
      cases h5
      rw [of_decide_eq_true q5]
      exact IsiPair.int_int (k s.toks _ rfl rfl)
    · obtain ⟨q5, h5⟩ := whenS_of h
      cases h5
      rw [of_decide_eq_true q5]
      exact IsiPair.int_bool (k _ _ rfl rfl)
  rcases orS_of h with h | h
  · obtain ⟨i, q4, h4⟩ := bindS h
    rw [show a = .str i from strS_eq q4] at ha
    obtain ⟨t, rfl⟩ := ha
    obtain ⟨q5, h5⟩ := whenS_of h4
    cases h5
    rw [of_decide_eq_true q5]
    exact IsiPair.str_str (k s.toks _ rfl rfl)
  · obtain ⟨q, q4, h4⟩ := bindS h
    obtain ⟨q5, h5⟩ := whenS_of h4
    obtain ⟨b, q6, h6⟩ := mapS h5
    cases h6
    rw [of_decide_eq_true q5]
    obtain ⟨d, us, rfl, _, _, _, g4, g5⟩ := R.tupAt q4 ha
    exact kia_one kitx_tuple (O.X.keeps R.fr.keep) (kitAt_N R.nws g4 rfl) q6 (by intro z; cases z) fun tk => k tk _ rfl rfl
/-- Types' dict takes a key -/
theorem known_nil {d : Addr} {j : Nat} (h : (d == sysModules) = false) : KnownD prog w [] d (dictOf [] j) :=
  ⟨h, #[], j, [], ⟨rfl, rfl, rfl⟩, rfl, rfl, List.nodup_nil, Nat.le_refl _, fun _ hx => nomatch hx⟩
theorem storedH_len {K : Type} [DecidableEq K] (xs : List (K × Addr × Value)) (k : K) (a : Addr) (v : Value) : (storedH xs k a v).length ≤ xs.length + 1 := by
  unfold storedH
  split
  · rw [List.length_map]; omega
  · rw [List.length_append]; simp
theorem set_known {A : Around} {h₀ : Heap} {L d a : Addr} {o ok : Obj} {news ks : Led} {g : Obj → Led} {kk : List Str} {v : Value} {Q : Unit → Shared → Prop}
    (hu : A.units + 1 < cLine) (F : Fr h₀ L s.heap m) (N : News h₀ L s.heap news) (U : UpdF d o news g) (H : KnownD prog w ks d o) (sub : ∀ p ∈ ks, p ∈ news) (hka : (a, ok) ∈ news) (tk : TupKeyObj (PySem.strKind prog w) kk ok) (hl : ks.length ≤ 1000)
    (h : ∀ h' o', Fr h₀ L h' m → News h₀ L h' (g o') → KnownD prog w ((a, ok) :: ks) d o' → Q () { s with heap := h', toks := s.toks + (kk.length + 1) }) :
    wpAny (model prog w) A (setItem (.ref d) (.ref a) v) Q E s := by
  obtain ⟨pre, post, rfl, hg, np, nq⟩ := U.split
  obtain ⟨lo, es, ep, xs, hc, hd, he, hn, hxl, hk⟩ := H
  have hm : (d, o) ∈ pre ++ (d, o) :: post := List.mem_append_right _ (.head _)
  have hD : s.heap.DictOfH (tupleKind (PySem.strKind prog w)) d xs := ⟨o, es, ep, N.get hm, hc, hd, he, fun x hx => let ⟨_, hmk, t⟩ := hk x hx; t.key (N.get (sub _ hmk)), hn⟩
  refine wpAny_setItem_heap (hsz := by rw [sizeLine_eq]; omega) (knd := tupleKind (PySem.strKind prog w)) (tupleKind_room_in1 hu) (tk.key (N.get hka)) hD fun h' hm' hs => ?_
  obtain ⟨o', es', ep', ho', hc', hd', he', _, hn'⟩ := hm'
  refine h h' o' (F.change hs (N _ hm).2.1 (N.fresh hm)) (hg o' ▸ N.setIn np nq hs ho') ⟨lo, es', ep', storedH xs kk a v, hc', hd', he', hn', ?_, fun x hx => ?_⟩
  · have := storedH_len xs kk a v
    rw [List.length_cons]; omega
  · rcases mem_storedH hx with ⟨y, hy, e1, e2⟩ | ⟨e1, e2⟩
    · obtain ⟨oky, hmk, t⟩ := hk y hy
      exact ⟨oky, by rw [e2]; exact .tail _ hmk, by rw [e1]; exact t⟩
    · exact ⟨ok, by rw [e2]; exact .head _, by rw [e1]; exact tk⟩
theorem items_of {as : List Addr} : ∀ {l : List SV} {vs : List Value} {ys : List Str}, All2 (RV as) l vs → strsOf l = some ys → ItemsAre (PySem.strKind prog w) ys vs := by
  intro l vs ys H
  induction H generalizing ys with
  | nil => intro e; cases e; tuptab_items_str
  | @cons a b l r h1 h2 ih =>
    intro e
    obtain ⟨z, q0, e⟩ := bindS e
    obtain ⟨zs, q1, rfl⟩ := mapS e
    rw [strS_eq q0] at h1
    obtain ⟨t, rfl⟩ := h1
    have h3 := ih q1
    exact ItemsAre.cons (strKind_is _ _ _ _) h3
noncomputable def knownS (σ : SS) (d t : SV) : Option SS := (tupAt σ t).bind fun q => (strsOf q.2).bind fun _ => (soAt σ d).bind fun r => whenS (!σ.frz.contains r.1)
  (orS ((soEd r.2).map fun _ => { σ with objs := σ.objs.put r.1 (.known 1) }) ((soKn r.2).bind fun k => whenS (decide (k ≤ 900)) (some { σ with objs := σ.objs.put r.1 (.known (k + 1)) })))
theorem known_sound {d t : SV} {x y v : Value} {Q : Unit → Shared → Prop} (e : knownS σ d t = some σ') (O : c.Ok prog w K p loose n) (R : Rel c.hid c.h₀ c.L σ s.heap m nw) (hd : RV (adrs nw) d x) (ht : RV (adrs nw) t y)
    (k : ∀ h' tk nw', Rel c.hid c.h₀ c.L σ' h' m nw' → Ext nw nw' → Q () (stt s h' tk)) : wpAny (model prog w) c.A (setItem x y v) Q E s := by
  have hu : c.A.units + 1 < cLine := by have := O.un; omega
  obtain ⟨q, q1, e1⟩ := bindS e
  obtain ⟨ys, q2, e2⟩ := bindS e1
  obtain ⟨⟨i, so⟩, q3, e3⟩ := bindS e2
  obtain ⟨q4, e4⟩ := whenS_of e3
  clear e e1 e2 e3
  obtain ⟨a2, us, rfl, _, z3, z4, h4, h5⟩ := R.tupAt q1 ht
  obtain ⟨a1, o, rfl, _, g2, g1, _, g4, g5⟩ := R.soAt q3 hd
  have tk := TupKeyObj.made (items_of (prog := prog) (w := w) h5 q2)
  have fin : ∀ {ks : Led} {kk : Nat}, isTupS so = false → KnownD prog w ks a1 o → ks.length = kk → kk ≤ 900 → (∀ q ∈ ks, tups σ.objs nw q) → σ' = { σ with objs := σ.objs.put i (.known (kk + 1)) } →
      wpAny (model prog w) c.A (setItem (.ref a1) (.ref a2) v) Q E s := by
    intro ks kk g3 g5 g6 g7 g8 g9
    subst g9
    refine set_known hu R.fr R.nws (R.updF g1) g5 (fun q hq => List.mem_append_left _ (tups_mem (g8 q hq))) h4 tk (by omega) fun h' o' F' N' H' => ?_
    refine k h' _ _ (R.upd g1 (notT q4) F' N' g2 g3 rfl ⟨_ :: ks, by rw [O.kn]; exact H', by rw [List.length_cons, g6], fun q hq => ?_⟩) ⟨[], by rw [mapSetA g1, List.append_nil]⟩
    rcases List.mem_cons.mp hq with rfl | hq
    · exact tups_at z3 z4
    · exact g8 q hq
  rcases orS_of e4 with h | h
  · obtain ⟨_, q5, h5⟩ := mapS h
    cases h5
    have q5 : so = .edict := soEd_eq q5
    subst q5
    obtain ⟨lo, jj, rfl⟩ := g5
    exact fin (kk := 0) rfl (known_nil lo) rfl (by omega) (fun q hq => nomatch hq) rfl
  · obtain ⟨kk, q5, h5⟩ := bindS h
    obtain ⟨q6, h6⟩ := whenS_of h5
    cases h6
    have q5 : so = .known kk := soKn_eq q5
    subst q5
    obtain ⟨ks, f1, f2, f3⟩ := g5
    rw [O.kn] at f1
    exact fin rfl f1 f2 (of_decide_eq_true q6) f3 rfl
theorem callB_sound {id : String} {vs : List SV} {xs : List Value} {v : SV} {Q : Value → Shared → Prop} (h : callB K σ id vs = some (v, σ')) (O : c.Ok prog w K p loose n) (R : Rel c.hid c.h₀ c.L σ s.heap m nw) (hx : All2 (RV (adrs nw)) vs xs)
    (k : ∀ h' tk nw' x, Rel c.hid c.h₀ c.L σ' h' m nw' → Ext nw nw' → RV (adrs nw') v x → Q x (stt s h' tk)) : wpAny (model prog w) c.A (call (.builtin id) xs) Q E s := by
  rcases orS_of h with h | h
  · obtain ⟨q, h⟩ := whenS_of h
    rw [of_decide_eq_true q]
    exact append_sound h R hx k
  rcases orS_of h with h | h
  · obtain ⟨q, h⟩ := whenS_of h
    rw [of_decide_eq_true q]
    exact len_sound h R hx k
  rcases orS_of h with h | h
  · obtain ⟨q, h⟩ := whenS_of h
    rw [of_decide_eq_true q]
    exact ends_sound h R hx k
  rcases orS_of h with h | h
  · obtain ⟨q, h⟩ := whenS_of h
    rw [of_decide_eq_true q]
    exact sorted_sound h O R hx k
  rcases orS_of h with h | h
  · obtain ⟨q, h⟩ := whenS_of h
    rw [of_decide_eq_true q]
    exact index_sound h R hx k
  · obtain ⟨q, h⟩ := whenS_of h
    rw [of_decide_eq_true q]
    exact inst_sound h O R hx fun tk b e1 e2 => by subst e1 e2; exact k s.heap tk nw _ R .refl rfl
/-! a draw from the row -/
variable (prog w K p loose) in
/-- what the call of the drawing def does -/
noncomputable def DrawOk (nx : Addr) : Prop := ∀ (c : Ctx), c.Ok prog w K p loose 1 → ∀ (σ : SS) (k : Nat) (m : Str → Option Value) (nw : Led) (s : Shared) (Q E : Value → Shared → Prop), σ.objs.get 0 = some (.row k) → σ.frz.contains 0 = false → σ.objs.n < 512 → Rel c.hid c.h₀ c.L σ s.heap m nw →
  (∀ h' tk nw' t, Rel c.hid c.h₀ c.L { σ with objs := (σ.objs.push (.list [])).put 0 (.row (k + 1)) } h' m nw' → Ext nw nw' → Q (.int (Rho.r k) t) (stt s h' tk)) → wpAny (model prog w) c.A (call (.ref nx) [.ref Rho.D]) Q E s
noncomputable def drawS (σ : SS) (vs : List SV) : Option (SV × SS) := (oneL vs).bind fun v => (ownS v).bind fun i => (σ.objs.get 0).bind fun so => (soRow so).bind fun k => whenS (i == 0 && !σ.frz.contains 0 && decide (σ.objs.n < 512)) (some (.sym k, { σ with objs := (σ.objs.push (.list [])).put 0 (.row (k + 1)) }))
theorem draw_sound {nx : Addr} {vs : List SV} {xs : List Value} {v : SV} {Q : Value → Shared → Prop} (D : DrawOk prog w K p loose nx) (h : drawS σ vs = some (v, σ')) (O : c.Ok prog w K p loose 1) (R : Rel c.hid c.h₀ c.L σ s.heap m nw) (hx : All2 (RV (adrs nw)) vs xs)
    (k : ∀ h' tk nw' x, Rel c.hid c.h₀ c.L σ' h' m nw' → Ext nw nw' → RV (adrs nw') v x → Q x (stt s h' tk)) : wpAny (model prog w) c.A (call (.ref nx) xs) Q E s := by
  obtain ⟨a, q1, h1⟩ := bindS h
  obtain ⟨i, q2, h2⟩ := bindS h1
  obtain ⟨so, q3, h3⟩ := bindS h2
  obtain ⟨j, q4, h4⟩ := bindS h3
  obtain ⟨q5, h5⟩ := whenS_of h4
  clear h h1 h2 h3 h4
  cases h5
  obtain ⟨q5, q7⟩ := andT q5
  obtain ⟨q5, q6⟩ := andT q5
  rw [oneL_eq q1, show a = .own i from ownS_eq q2, eq_of_beq q5] at hx
  obtain ⟨y, rfl, ⟨d, z1, rfl⟩⟩ := hx.inv1
  rw [soRow_eq q4] at q3
  obtain ⟨d', o, _, g2, g3, _⟩ := R.at q3
  have : d = Rho.D := (Option.some.inj (z1.symm.trans g2)).trans g3.1
  rw [this]
  exact D c O _ _ m nw s Q E q3 (notT q6) (of_decide_eq_true q7) R fun h' tk nw' t R' X' => k h' tk nw' _ R' X' ⟨t, rfl⟩
/-! all calls -/
noncomputable def refCall (K : Frag) (bt : BT) (nx : Addr) (ex : ExT) (σ : SS) (a : Addr) (vs : List SV) : Option (SV × SS) := match a == nx with
  | true => drawS σ vs
  | false => match (clsIn K a).isSome with
    | true => callCls K bt ex σ a vs
    | false => callDef K bt ex σ a vs
noncomputable def clStep (K : Frag) (bt : BT) (nx : Addr) (ex : ExT) : ClT := fun σ f vs => (valS f).bind fun v => match v with
  | .ref a => refCall K bt nx ex σ a vs
  | .builtin id => callB K σ id vs
  | .type T => copyB σ T vs
  | _ => none
theorem clStep_sound {nx : Addr} (X : ExOk prog w K p loose n ex) (B : BTOk K bt) (D : DrawOk prog w K p loose nx) : ClOk prog w K p loose (n + 1) (clStep K bt nx ex) := by
  intro c σ f vs v σ' h O m nw s Q E fv xs R hf hx k
  obtain ⟨u, q1, h⟩ := bindS h
  rw [valS_eq q1] at hf
  cases hf
  cases fv <;> first | (cases h; done) | skip
  case ref a =>
    have h : refCall K bt nx ex σ a vs = some (v, σ') := h
    unfold refCall at h
    revert h
    cases q : a == nx with
    | true => intro h; rw [eq_of_beq q]; exact draw_sound D h (by exact O.low) R hx k
    | false =>
      cases (clsIn K a).isSome with
      | true => intro h; exact callCls_sound X B h O R hx k
      | false =>
        intro h
        refine wpAny_call ?_
        have hy := O.dp
        have hu := O.un
        exact callDef_code X B h O O.fr O.hd (by omega) (by omega) O.B R hx k
  case builtin id => exact callB_sound h O R hx k
  case type T => exact copy_sound h R hx k
end
end Vx
end
section
open PySem PySem.W PySem.Calls PyProof.Rows
namespace Vx
variable [Rho]
/-! targets -/
noncomputable def nameT : Expr → Bool
  | .Name .. => true
  | _ => false
noncomputable def assignList (cs : PySem.Scope) : SS → List Expr → List SV → Option SS
  | σ, [], [] => some σ
  | σ, t :: r, v :: vs => (nameE t).bind fun x => (storeS cs σ x v).bind fun σ₁ => assignList cs σ₁ r vs
  | _, _, _ => none
noncomputable def assignS (cs : PySem.Scope) (σ : SS) (t : Expr) (v : SV) : Option SS := match t with
  | .Name x _ => storeS cs σ x v
  | .Tuple es _ _ => whenS (es.all nameT) (orS ((tupAt σ v).bind fun q => whenS (decide (es.length = q.2.length)) (assignList cs σ es q.2)) ((listAt σ v).bind fun q => whenS (decide (es.length = q.2.length)) (assignList cs σ es q.2)))
  | _ => none
theorem each_cons {t : Expr} {r : List Expr} {env : Env} (h : nameT t = true) : assignEach (t :: r) env = (false, assign t env) :: assignEach r env := by
  cases t <;> first | rfl | cases h
theorem each_len {env : Env} : ∀ {es : List Expr}, es.all nameT = true → (assignEach es env).length = es.length
  | [], _ => rfl
  | e :: r, h => by
    obtain ⟨h1, h2⟩ := andT h
    rw [each_cons h1, List.length_cons, each_len h2, List.length_cons]
theorem each_find {env : Env} : ∀ {es : List Expr}, es.all nameT = true → (assignEach es env).findIdx? (fun x => x.1) = none
  | [], _ => rfl
  | e :: r, h => by
    obtain ⟨h1, h2⟩ := andT h
    rw [each_cons h1, List.findIdx?_cons, each_find h2]
    rfl
section
variable {prog : Program} {w : World} {K : Frag} {p : Program} {loose : List Str} {n : Nat} {c : Ctx} {σ σ' : SS} {m : Str → Option Value} {nw : Led} {s : Shared} {E : Value → Shared → Prop} {ev : EvT} {tr : TrT} {cl : ClT} {ex : ExT}
theorem assignList_sound (O : c.Ok prog w K p loose n) : ∀ {es : List Expr} {vs : List SV} {xs : List Value} {σ : SS} {m : Str → Option Value} {s : Shared} {Q : Unit → Shared → Prop}, assignList c.cs σ es vs = some σ' → All2 (RV (adrs nw)) vs xs → Rel c.hid c.h₀ c.L σ s.heap m nw →
    (∀ h' tk m', Rel c.hid c.h₀ c.L σ' h' m' nw → Q () (stt s h' tk)) → wpAny (model prog w) c.A (assignInOrder ((assignEach es c.env).map (fun x => x.2)) xs) Q E s
  | [], [], xs, σ, m, s, Q, e, hx, R, k => by cases hx; cases e; exact assignInOrder_nil (k s.heap s.toks m R)
  | [], _ :: _, xs, σ, m, s, Q, e, hx, R, k => by cases e
  | _ :: _, [], xs, σ, m, s, Q, e, hx, R, k => by cases e
  | t :: r, v :: vs, _, σ, m, s, Q, e, .cons h1 h2, R, k => by
    obtain ⟨x, q1, e1⟩ := bindS e
    obtain ⟨σ₁, q2, e2⟩ := bindS e1
    obtain ⟨pos, rfl⟩ := nameE_eq q1
    rw [each_cons rfl]
    exact assignInOrder_cons (assign_Name (store_sound q2 O R h1 fun h' m' R' => assignList_sound (s := stt s h' (s.toks + 1)) O e2 h2 R' fun h'' tk m'' R'' => k h'' tk m'' R''))
theorem assign_sound {t : Expr} {v : SV} {x : Value} {Q : Unit → Shared → Prop} (O : c.Ok prog w K p loose n) (e : assignS c.cs σ t v = some σ') (hv : RV (adrs nw) v x) (R : Rel c.hid c.h₀ c.L σ s.heap m nw)
    (k : ∀ h' tk m', Rel c.hid c.h₀ c.L σ' h' m' nw → Q () (stt s h' tk)) : wpAny (model prog w) c.A (assign t c.env x) Q E s := by
  cases t <;> first | (cases e; done) | skip
  case Name x pos => exact assign_Name (store_sound e O R hv fun h' m' R' => k h' _ m' R')
  case Tuple es j pos =>
    obtain ⟨hn, e⟩ := whenS_of e
    rcases orS_of e with e | e
    · obtain ⟨q, q1, e⟩ := bindS e
      obtain ⟨q2, e⟩ := whenS_of e
      obtain ⟨d, us, rfl, _, _, _, h4, h5⟩ := R.tupAt q1 hv
      refine unpackN_ R.fr R.nws (News.isTup R.nws h4) O.hd (by rw [each_len hn, of_decide_eq_true q2, h5.length]; rfl) (each_find hn) fun h' F' N' => ?_
      exact assignList_sound (s := { s with heap := h' }) O e h5 (R.same F' N') fun h'' tk m'' R'' => k h'' tk m'' R''
    · obtain ⟨q, q1, e⟩ := bindS e
      obtain ⟨q2, e⟩ := whenS_of e
      obtain ⟨d, us, k3, rfl, _, _, _, h4, h5⟩ := R.listAt q1 hv
      refine kun_list R.fr R.nws (News.isList R.nws h4) O.hd (by rw [each_len hn, of_decide_eq_true q2, h5.length]; rfl) (each_find hn) fun h' F' N' => ?_
      exact assignList_sound (s := { s with heap := h' }) O e h5 (R.same F' N') fun h'' tk m'' R'' => k h'' tk m'' R''
/-! statements -/
noncomputable def plainV : Expr → Bool
  | .ListComp .. => false
  | .SetComp .. => false
  | .DictComp .. => false
  | _ => true
noncomputable def notTup : Expr → Bool
  | .Tuple .. => false
  | _ => true
theorem swaps_no {v : Expr} {t : Option Expr} {l : Nat} {env : Env} (h : plainV v = true) : swapsWith v t l env = pure false := by
  cases v <;> first | rfl | cases h
theorem swapsS_no {t v : Expr} {l : Nat} {env : Env} (h : plainV v = true) : swapsWithSole [t] v l env = pure false := swaps_no h
theorem stores_no {v : Expr} {ts : List Expr} {k : Nat} {pos : Pos} {env : Env} (h : notTup v = true) : swappedStores [.Tuple ts k pos] v env = pure none := by
  cases v <;> first | rfl | cases h
noncomputable def incS (a b : SV) : Option SV := (int2 a b).map fun q => .int (q.1 + q.2)
theorem inc_sound {a b r : SV} {x y : Value} {Q : Value → Shared → Prop} (e : incS a b = some r) (ha : RV (adrs nw) a x) (hb : RV (adrs nw) b y) (k : ∀ tk v, RV (adrs nw) r v → Q v (stt s s.heap tk)) : wpAny (model prog w) c.A (inplaceOp .Add x y) Q E s := by
  obtain ⟨q, q1, rfl⟩ := mapS e
  obtain ⟨t, u, rfl, rfl⟩ := int2_of q1 ha hb
  exact iadd_int (k _ _ ⟨_, rfl⟩)
/-! two names at once, by a tuple that is made for them -/
noncomputable def namePos : Expr → Option (Str × Pos)
  | .Name x p => some (x, p)
  | _ => none
theorem namePos_eq {e : Expr} {q : Str × Pos} (h : namePos e = some q) : e = .Name q.1 q.2 := by
  cases e <;> first | (cases h; rfl) | cases h
noncomputable def tupE : Expr → Option (List Expr)
  | .Tuple es _ _ => some es
  | _ => none
theorem tupE_eq {e : Expr} {es : List Expr} (h : tupE e = some es) : ∃ k p, e = .Tuple es k p := by
  cases e <;> first | (cases h; exact ⟨_, _, rfl⟩) | cases h
noncomputable def subE : Expr → Option (Expr × Expr × Pos)
  | .Subscript a i p => some (a, i, p)
  | _ => none
theorem subE_eq {e : Expr} {q : Expr × Expr × Pos} (h : subE e = some q) : e = .Subscript q.1 q.2.1 q.2.2 := by
  cases e <;> first | (cases h; rfl) | cases h
noncomputable def swapOk (cs : PySem.Scope) (x y : Str × Pos) (v : Expr × Expr) : Bool := decide (cs.names.lookup x.1 = some .local) && decide (cs.names.lookup y.1 = some .local) && (y.2.line == x.2.line) && !(x.1 == y.1) && !foldedForSure 8 v.1 && !constantsAlone 8 v.1
noncomputable def swapPart (cs : PySem.Scope) (ts : List Expr) (v : Expr) : Option (Str × Str) := (twoL ts).bind fun t => (namePos t.1).bind fun x => (namePos t.2).bind fun y => (tupE v).bind fun es => (twoL es).bind fun v => (subE v.1).bind fun _ => (subE v.2).bind fun _ => whenS (swapOk cs x y v) (some (x.1, y.1))
theorem swap_two {ts : List Expr} {k : Nat} {pos : Pos} {v : Expr} {xy : Str × Str} (O : c.Ok prog w K p loose n) (h : swapPart c.cs ts v = some xy) : swappedStores [.Tuple ts k pos] v c.env = pure (some [xy.1, xy.2]) := by
  obtain ⟨t, q1, h1⟩ := bindS h
  obtain ⟨x, q2, h2⟩ := bindS h1
  obtain ⟨y, q3, h3⟩ := bindS h2
  obtain ⟨es, q4, h4⟩ := bindS h3
  obtain ⟨v, q5, h5⟩ := bindS h4
  obtain ⟨s1, q7, h6⟩ := bindS h5
  obtain ⟨s2, q8, h7⟩ := bindS h6
  obtain ⟨q6, h8⟩ := whenS_of h7
  clear h h1 h2 h3 h4 h5 h6 h7
  cases h8
  obtain ⟨k', p', rfl⟩ := tupE_eq q4
  unfold swapOk at q6
  simp only [Bool.and_eq_true, decide_eq_true_eq, Bool.not_eq_true'] at q6
  obtain ⟨⟨⟨⟨⟨g1, g2⟩, g3⟩, g4⟩, g7⟩, g8⟩ := q6
  rw [subE_eq q7] at g7 g8
  rw [twoL_eq q1, namePos_eq q2, namePos_eq q3, twoL_eq q5, subE_eq q7, subE_eq q8]
  have b : c.env.blockKind = .function := by
    unfold Env.blockKind
    show (if c.cs.kind.isAnnotationScope = true then ScopeKind.function else c.cs.kind) = _
    rw [O.kd]
    rfl
  have k1 : c.env.kindOf x.1 = some .local := g1
  have k2 : c.env.kindOf y.1 = some .local := g2
  have g3' : y.2.line = x.2.line := eq_of_beq g3
  have g4' : ¬ y.1 = x.1 := fun z => by rw [z, beq_self_eq_true] at g4; cases g4
  simp [swappedStores, b, k1, k2, g3', g4', g7, g8, List.eraseDups_cons, Expr.pos]
noncomputable def asgT (ev : EvT) (cs : PySem.Scope) (σ : SS) (es : List Expr) (k : Nat) (p : Pos) (v : Expr) : Option SS := orS (whenS (notTup v) ((ev cs σ v).bind fun q => assignS cs q.2 (.Tuple es k p) q.1))
      ((swapPart cs es v).bind fun xy => (ev cs σ v).bind fun q => (tupAt q.2 q.1).bind fun l => (twoL l.2).bind fun ab => (storeS cs q.2 xy.2 ab.2).bind fun σ₁ => storeS cs σ₁ xy.1 ab.1)
noncomputable def asgI (ev : EvT) (cs : PySem.Scope) (σ : SS) (o i v : Expr) : Option SS := (ev cs σ v).bind fun q => (ev cs q.2 o).bind fun q' => (ev cs q'.2 i).bind fun q'' => orS (putIt q''.2 q'.1 q''.1 q.1) (knownS q''.2 q'.1 q''.1)
noncomputable def asgA (K : Frag) (ev : EvT) (cs : PySem.Scope) (σ : SS) (o : Expr) (x : Str) (v : Expr) : Option SS := (ev cs σ v).bind fun q => (ev cs q.2 o).bind fun q' => setSv K q'.2 q'.1 x q.1
noncomputable def asgS (K : Frag) (ev : EvT) (cs : PySem.Scope) (σ : SS) (t v : Expr) : Option SS := match t with
  | .Name x _ => (ev cs σ v).bind fun q => storeS cs q.2 x q.1
  | .Tuple es k p => asgT ev cs σ es k p v
  | .Attribute o x _ => asgA K ev cs σ o x v
  | .Subscript o i _ => asgI ev cs σ o i v
  | _ => none
noncomputable def augN (ev : EvT) (cs : PySem.Scope) (σ : SS) (x : Str) (v : Expr) : Option SS := whenS (decide (cs.names.lookup x = some .local)) ((σ.loc.lookup x).bind fun a => (ev cs σ v).bind fun q => (incS a q.1).bind fun r => storeS cs q.2 x r)
noncomputable def augA (K : Frag) (ev : EvT) (cs : PySem.Scope) (σ : SS) (o : Expr) (x : Str) (v : Expr) : Option SS := (ev cs σ o).bind fun q1 => (evAttr K q1.2 q1.1 x).bind fun a => (ev cs q1.2 v).bind fun q2 => (incS a q2.1).bind fun r => setSv K q2.2 q1.1 x r
noncomputable def augI (ev : EvT) (cs : PySem.Scope) (σ : SS) (o i v : Expr) : Option SS := whenS (plainIx i) ((ev cs σ o).bind fun q1 => (ev cs q1.2 i).bind fun q2 => (sdAt q2.2 q1.1).bind fun d => (strS q2.1).bind fun x => (svOf d.2 x).bind fun a => (ev cs q2.2 v).bind fun q3 => (incS a q3.1).bind fun r => putIt q3.2 q1.1 q2.1 r)
noncomputable def augS (K : Frag) (ev : EvT) (cs : PySem.Scope) (σ : SS) (t v : Expr) : Option SS := match t with
  | .Name x _ => augN ev cs σ x v
  | .Attribute o x _ => augA K ev cs σ o x v
  | .Subscript o i _ => augI ev cs σ o i v
  | _ => none
noncomputable def isAdd : Operator → Bool
  | .Add => true
  | _ => false
noncomputable def ifS (tr : TrT) (ex : ExT) (cs : PySem.Scope) (σ : SS) (t : Expr) (b o : List Stmt) : Option (SF × SS) := (tr cs σ t).bind fun q => match q.1 with
    | true => ex cs q.2 b
    | false => ex cs q.2 o
noncomputable def simpleS (K : Frag) (ev : EvT) (tr : TrT) (ex : ExT) (cs : PySem.Scope) (σ : SS) (st : Stmt) : Option (SF × SS) := match st with
  | .Assign ts v _ => (oneL ts).bind fun t => whenS (plainV v) ((asgS K ev cs σ t v).map (SF.next, ·))
  | .AugAssign t op v _ => whenS (isAdd op) ((augS K ev cs σ t v).map (SF.next, ·))
  | .Expr e _ => whenS (plainV e) ((ev cs σ e).map fun q => (.next, q.2))
  | .If t b o _ => ifS tr ex cs σ t b o
  | .Return v _ => v.bind fun e => (ev cs σ e).map fun q => (.ret q.1, q.2)
  | .Continue _ => some (.cont, σ)
  | _ => none
theorem aug_ix {i : Expr} (h : plainIx i = true) : ∀ ov iv new, augStore i ov iv new = (do holding [new, ov, iv] (setItem ov iv new); release [new, ov, iv] []; pure .next) := by
  cases i <;> first | (intro _ _ _; rfl) | cases h
theorem asg_sound (V : EvOk prog w K p loose n ev) (O : c.Ok prog w K p loose n) {t v : Expr} {pos : Pos} {Q : Flow → Shared → Prop} (hp : plainV v = true) (h : asgS K ev c.cs σ t v = some σ') (R : Rel c.hid c.h₀ c.L σ s.heap m nw)
    (k : ∀ h' tk m' nw', Rel c.hid c.h₀ c.L σ' h' m' nw' → Ext nw nw' → Q .next (stt s h' tk)) : wpAny (model prog w) c.A (exec (.Assign [t] v pos) c.env) Q E s := by
  cases t <;> first | (cases h; done) | skip
  case Name x q =>
    obtain ⟨⟨a, σ₁⟩, q1, h⟩ := bindS h
    exact wpAny_Assign_Name (V c σ v a σ₁ q1 O m nw s _ _ R fun h' tk nw' y R' X' hy => store_sound (s := stt s h' tk) h O R' hy fun h'' m' R'' => k h'' _ m' nw' R'' X') (swaps_no hp)
  case Tuple es j q =>
    rcases orS_of h with h | h
    · obtain ⟨h0, h⟩ := whenS_of h
      obtain ⟨⟨a, σ₁⟩, q1, h⟩ := bindS h
      exact Assign_Tuple (V c σ v a σ₁ q1 O m nw s _ _ R fun h' tk nw' y R' X' hy => assign_sound (s := stt s h' tk) O h hy R' fun h'' tk' m' R'' => k h'' tk' m' nw' R'' X') (swapsS_no hp) (stores_no h0)
    · obtain ⟨xy, q0, h⟩ := bindS h
      obtain ⟨⟨a, σ₁⟩, q1, h⟩ := bindS h
      obtain ⟨l, q2, h⟩ := bindS h
      obtain ⟨ab, q3, h⟩ := bindS h
      obtain ⟨σ₂, q4, h⟩ := bindS h
      refine Assign_Tuple_swapped (V c σ v a σ₁ q1 O m nw s _ _ R fun h' tk nw' y R' X' hy => ?_) (swapsS_no hp) (swap_two O q0)
      obtain ⟨d, us, rfl, _, _, _, h4, h5⟩ := R'.tupAt q2 hy
      rw [twoL_eq q3] at h5
      obtain ⟨x1, x2, rfl, z1, z2⟩ := h5.inv2
      refine unpackItemsN_ R'.fr R'.nws (News.isTup R'.nws h4) O.hd rfl fun h2 F2 N2 => ?_
      refine assignInOrder_cons (bindName_ (store_sound (s := stt s h2 tk) q4 O (R'.same F2 N2) z2 fun h3 m3 R3 => ?_))
      exact assignInOrder_cons (bindName_ (store_sound (s := stt s h3 (tk + 1)) h O R3 z1 fun h4 m4 R4 => assignInOrder_nil (k h4 _ m4 nw' R4 X')))
  case Attribute o x q =>
    obtain ⟨⟨a, σ₁⟩, q1, h⟩ := bindS h
    obtain ⟨⟨b, σ₂⟩, q2, h⟩ := bindS h
    exact plainObj_wpAny_Assign_Attribute (V c σ v a σ₁ q1 O m nw s _ _ R fun h' tk nw' y R' X' hy => V c σ₁ o b σ₂ q2 O m nw' (stt s h' tk) _ _ R' fun h'' tk' nw'' y' R'' X'' hy' =>
      set_sound (s := stt s h'' tk') h O R'' hy' (hy.up X'') fun h3 tk3 nw3 R3 X3 => k h3 tk3 m nw3 R3 ((X'.trans X'').trans X3)) (swaps_no hp)
  case Subscript o i q =>
    obtain ⟨⟨a, σ₁⟩, q1, h⟩ := bindS h
    obtain ⟨⟨d, σ₂⟩, q2, h⟩ := bindS h
    obtain ⟨⟨t', σ₃⟩, q3, h⟩ := bindS h
    refine wpAny_Assign_Subscript (V c σ v a σ₁ q1 O m nw s _ _ R fun h' tk nw' y R' X' hy => V c σ₁ o d σ₂ q2 O m nw' (stt s h' tk) _ _ R' fun h'' tk' nw'' y' R'' X'' hy' =>
      V c σ₂ i t' σ₃ q3 O m nw'' (stt s h'' tk') _ _ R'' fun h3 tk3 nw3 y3 R3 X3 hy3 => ?_) (swaps_no hp)
    rcases orS_of h with h | h
    · exact putIt_sound (s := stt s h3 tk3) O h R3 (hy'.up X3) hy3 ((hy.up X'').up X3) fun h4 tk4 nw4 R4 X4 => k h4 tk4 m nw4 R4 (((X'.trans X'').trans X3).trans X4)
    · exact known_sound (s := stt s h3 tk3) h O R3 (hy'.up X3) hy3 fun h4 tk4 nw4 R4 X4 => k h4 tk4 m nw4 R4 (((X'.trans X'').trans X3).trans X4)
theorem aug_sound (V : EvOk prog w K p loose n ev) (O : c.Ok prog w K p loose n) {t v : Expr} {pos : Pos} {Q : Flow → Shared → Prop} (h : augS K ev c.cs σ t v = some σ') (R : Rel c.hid c.h₀ c.L σ s.heap m nw)
    (k : ∀ h' tk m' nw', Rel c.hid c.h₀ c.L σ' h' m' nw' → Ext nw nw' → Q .next (stt s h' tk)) : wpAny (model prog w) c.A (exec (.AugAssign t .Add v pos) c.env) Q E s := by
  cases t <;> first | (cases h; done) | skip
  case Name x q =>
    obtain ⟨hl, h⟩ := whenS_of h
    obtain ⟨a, q0, h⟩ := bindS h
    obtain ⟨⟨b, σ₁⟩, q1, h⟩ := bindS h
    obtain ⟨r, q2, h⟩ := bindS h
    obtain ⟨y, g1, g2⟩ := R.rm x a q0
    refine wpAny_AugAssign_Name (wpAny_loadName_local O.kd (of_decide_eq_true hl) R.fr.ns g1 ?_)
    exact V c σ v b σ₁ q1 O m nw s _ _ R fun h' tk nw' y' R' X' hy' => inc_sound (s := stt s h' tk) q2 (g2.up X') hy' fun tk' u hu =>
      store_sound (s := stt s h' tk') h O R' hu fun h'' m' R'' => k h'' _ m' nw' R'' X'
  case Attribute o x q =>
    obtain ⟨⟨b, σ₁⟩, q1, h⟩ := bindS h
    obtain ⟨a, q2, h⟩ := bindS h
    obtain ⟨⟨d, σ₂⟩, q3, h⟩ := bindS h
    obtain ⟨r, q4, h⟩ := bindS h
    exact wpAny_AugAssign_AttributeAny (V c σ o b σ₁ q1 O m nw s _ _ R fun h' tk nw' y R' X' hy => attr_sound (s := stt s h' tk) q2 O R' hy fun tk1 u hu =>
      V c σ₁ v d σ₂ q3 O m nw' (stt s h' tk1) _ _ R' fun h'' tk' nw'' y' R'' X'' hy' => inc_sound (s := stt s h'' tk') q4 (hu.up X'') hy' fun tk2 u2 hu2 =>
        set_sound (s := stt s h'' tk2) h O R'' (hy.up X'') hu2 fun h3 tk3 nw3 R3 X3 => k h3 tk3 m nw3 R3 ((X'.trans X'').trans X3))
  case Subscript o i q =>
    obtain ⟨hp, h⟩ := whenS_of h
    obtain ⟨⟨b, σ₁⟩, q1, h⟩ := bindS h
    obtain ⟨⟨j, σ₂⟩, q2, h⟩ := bindS h
    obtain ⟨d, q3, h⟩ := bindS h
    obtain ⟨x, q4, h⟩ := bindS h
    obtain ⟨a, q5, h⟩ := bindS h
    obtain ⟨⟨f, σ₃⟩, q6, h⟩ := bindS h
    obtain ⟨r, q7, h⟩ := bindS h
    exact wpAny_AugAssign_Subscript_any (V c σ o b σ₁ q1 O m nw s _ _ R fun h' tk nw' y R' X' hy => V c σ₁ i j σ₂ q2 O m nw' (stt s h' tk) _ _ R' fun h'' tk' nw'' y' R'' X'' hy' =>
      gitem_sound (s := stt s h'' tk') O q3 q4 q5 R'' (hy.up X'') hy' fun tk2 u hu => V c σ₂ v f σ₃ q6 O m nw'' (stt s h'' tk2) _ _ R'' fun h3 tk3 nw3 y3 R3 X3 hy3 =>
        inc_sound (s := stt s h3 tk3) q7 (hu.up X3) hy3 fun tk4 u2 hu2 => putIt_sound (s := stt s h3 tk4) O h R3 ((hy.up X'').up X3) (hy'.up X3) hu2 fun h4 tk5 nw4 R4 X4 => k h4 tk5 m nw4 R4 (((X'.trans X'').trans X3).trans X4)) (aug_ix hp)
abbrev StT := PySem.Scope → SS → Stmt → Option (SF × SS)
variable (prog w K p loose) in
noncomputable def StOk (n : Nat) (st : StT) : Prop := ∀ (c : Ctx) (σ : SS) (t : Stmt) (fl : SF) (σ' : SS), st c.cs σ t = some (fl, σ') → c.Ok prog w K p loose n →
  ∀ (m : Str → Option Value) (nw : Led) (s : Shared) (Q : Flow → Shared → Prop) (E : Value → Shared → Prop), PassesOwn (model prog w) c.A c.env E → Rel c.hid c.h₀ c.L σ s.heap m nw →
    (∀ h' tk m' nw' f, Rel c.hid c.h₀ c.L σ' h' m' nw' → Ext nw nw' → RF (adrs nw') fl f → Q f (stt s h' tk)) → wpAny (model prog w) c.A (exec t c.env) Q E s
theorem simple_sound (V : EvOk prog w K p loose n ev) (T : TrOk prog w K p loose n tr) (X : ExOk prog w K p loose n ex) : StOk prog w K p loose n (simpleS K ev tr ex) := by
  intro c σ st fl σ' h O m nw s Q E hE R k
  cases st <;> first | (cases h; done) | skip
  case Assign ts v pos =>
    obtain ⟨t, q1, h⟩ := bindS h
    obtain ⟨hp, h⟩ := whenS_of h
    obtain ⟨z, q2, q3⟩ := mapS h
    cases q3
    rw [oneL_eq q1]
    exact asg_sound V O hp q2 R fun h' tk m' nw' R' X' => k h' tk m' nw' _ R' X' rfl
  case AugAssign t op v pos =>
    obtain ⟨q1, h⟩ := whenS_of h
    obtain ⟨z, q2, q3⟩ := mapS h
    cases q3
    cases op <;> first | (cases q1; done) | skip
    exact aug_sound V O q2 R fun h' tk m' nw' R' X' => k h' tk m' nw' _ R' X' rfl
  case Expr e pos =>
    obtain ⟨hp, h⟩ := whenS_of h
    obtain ⟨⟨a, σ₁⟩, q1, q2⟩ := mapS h
    cases q2
    exact wpAny_Expr_any (V c σ e a _ q1 O m nw s _ _ R fun h' tk nw' y R' X' hy => k h' tk m nw' _ R' X' rfl) (by unfold interactive; show (c.cs.kind == .module && _) = false; rw [O.kd]; rfl) (swaps_no hp)
  case If t b o pos =>
    obtain ⟨⟨b1, σ₁⟩, q1, h⟩ := bindS h
    refine wpAny_If (T c σ t b1 σ₁ q1 O m nw s _ _ R fun h' tk nw' R' X' => ?_)
    cases b1 with
    | true => exact X c σ₁ b fl σ' h O m nw' (stt s h' tk) _ _ hE R' fun h'' tk' m' nw'' f R'' X'' hf => k h'' tk' m' nw'' f R'' (X'.trans X'') hf
    | false => exact X c σ₁ o fl σ' h O m nw' (stt s h' tk) _ _ hE R' fun h'' tk' m' nw'' f R'' X'' hf => k h'' tk' m' nw'' f R'' (X'.trans X'') hf
  case Return v pos =>
    obtain ⟨e, q0, h⟩ := bindS h
    obtain ⟨⟨a, σ₁⟩, q1, q2⟩ := mapS h
    cases q2
    rw [q0]
    exact wpAny_Return_some (V c σ e a _ q1 O m nw s _ _ R fun h' tk nw' y R' X' hy => k h' tk m nw' _ R' X' ⟨y, rfl, hy⟩)
  case Continue pos =>
    cases h
    exact wpAny_Continue (k s.heap s.toks m nw _ R .refl rfl)
/-! a run of statements -/
noncomputable def exsOf (st : StT) (cs : PySem.Scope) : SS → List Stmt → Option (SF × SS)
  | σ, [] => some (.next, σ)
  | σ, t :: r => (st cs σ t).bind fun q => match q.1 with
    | .next => exsOf st cs q.2 r
    | _ => some q
theorem exs_sound {st : StT} (S : StOk prog w K p loose n st) : ExOk prog w K p loose n (exsOf st) := by
  intro c σ ss
  induction ss generalizing σ with
  | nil =>
    intro fl σ' h O m nw s Q E hE R k
    cases h
    exact wpAny_execs_nil (k s.heap s.toks m nw _ R .refl rfl)
  | cons t r ih =>
    intro fl σ' h O m nw s Q E hE R k
    obtain ⟨⟨f1, σ₁⟩, q1, h⟩ := bindS h
    refine wpAny_execs_cons (S c σ t f1 σ₁ q1 O m nw s _ _ hE R fun h' tk m' nw' f R' X' hf => ?_)
    cases f1 with
    | next =>
      cases hf
      exact ih σ₁ fl σ' h O m' nw' (stt s h' tk) Q E hE R' fun h'' tk' m'' nw'' f R'' X'' hf => k h'' tk' m'' nw'' f R'' (X'.trans X'') hf
    | cont =>
      cases h
      cases hf
      exact k h' tk m' nw' _ R' X' rfl
    | ret v =>
      cases h
      obtain ⟨y, rfl, hy⟩ := hf
      exact k h' tk m' nw' _ R' X' ⟨y, rfl, hy⟩
end
end Vx
end
section
open PySem PySem.W PySem.Calls PyProof.Rows
namespace Vx
variable [Rho]
/-- what is known of the state beside the heap -/
structure RelA (hid : Hid) (σ : SS) (m : Str → Option Value) (nw : Led) : Prop where
  nd : (adrs (nw ++ hid.hid)).Nodup
  ro : OR hid.kn (adrs nw) σ.objs nw
  rm : ∀ x sv, σ.loc.lookup x = some sv → ∃ v, m x = some v ∧ RV (adrs nw) sv v
  kp : ∀ q ∈ hid.kp, q ∈ nw ++ hid.hid
  fz : ∀ q ∈ hid.kp, (∃ i ∈ σ.frz, (adrs nw)[i]? = some q.1) ∨ q ∈ hid.hid
theorem Rel.abs {hid : Hid} {h₀ h : Heap} {L : Addr} {σ : SS} {m : Str → Option Value} {nw : Led} (R : Rel hid h₀ L σ h m nw) : RelA hid σ m nw := ⟨R.nd, R.ro, R.rm, R.kp, R.fz⟩
theorem RelA.on {hid : Hid} {h₀ h : Heap} {L : Addr} {σ : SS} {m : Str → Option Value} {nw : Led} (R : RelA hid σ m nw) (F : Fr h₀ L h m) (N : News h₀ L h (nw ++ hid.hid)) : Rel hid h₀ L σ h m nw := ⟨F, N, R.nd, R.ro, R.rm, R.kp, R.fz⟩
/-- an object is seen no more, and may not change: an iterator's turn begins -/
theorem RelA.enter {hid : Hid} {σ : SS} {m : Str → Option Value} {nw : Led} {q : Addr × Obj} (R : RelA hid σ m nw) (h : q.1 ∉ adrs (nw ++ hid.hid)) : RelA { hid with hid := q :: hid.hid } σ m nw where
  nd := by
    have hp : (q :: (nw ++ hid.hid)).Perm (nw ++ (q :: hid.hid)) := (List.perm_middle (a := q) (l₁ := nw) (l₂ := hid.hid)).symm
    refine (hp.map (·.1)).nodup_iff.mp ?_
    rw [List.map_cons, List.nodup_cons]
    exact ⟨h, R.nd⟩
  ro := R.ro
  rm := R.rm
  kp := fun r hr => by
    rcases List.mem_append.mp (R.kp r hr) with z | z
    · exact List.mem_append_left _ z
    · exact List.mem_append_right _ (.tail _ z)
  fz := fun r hr => by
    rcases R.fz r hr with z | z
    · exact .inl z
    · exact .inr (.tail _ z)
theorem RelA.leave {hid : Hid} {σ : SS} {m : Str → Option Value} {nw : Led} {q : Addr × Obj} (R : RelA { hid with hid := q :: hid.hid } σ m nw) (h : ∀ r ∈ hid.kp, r.1 ≠ q.1) : RelA hid σ m nw ∧ q.1 ∉ adrs (nw ++ hid.hid) := by
  have hp : (q :: (nw ++ hid.hid)).Perm (nw ++ (q :: hid.hid)) := (List.perm_middle (a := q) (l₁ := nw) (l₂ := hid.hid)).symm
  have hn : ((q :: (nw ++ hid.hid)).map (·.1)).Nodup := (hp.map (·.1)).nodup_iff.mpr R.nd
  rw [List.map_cons, List.nodup_cons] at hn
  refine ⟨⟨hn.2, R.ro, R.rm, fun r hr => ?_, fun r hr => ?_⟩, hn.1⟩
  · rcases List.mem_append.mp (R.kp r hr) with z | z
    · exact List.mem_append_left _ z
    · rcases List.mem_cons.mp z with rfl | z
      · exact absurd rfl (h _ hr)
      · exact List.mem_append_right _ z
  · rcases R.fz r hr with z | z
    · exact .inl z
    · rcases List.mem_cons.mp z with rfl | z
      · exact absurd rfl (h _ hr)
      · exact .inr z
theorem RelA.keep {hid : Hid} {σ : SS} {m : Str → Option Value} {nw : Led} {q : Addr × Obj} {i : Nat} (R : RelA hid σ m nw) (e : nw[i]? = some q) : RelA { hid with kp := q :: hid.kp } { σ with frz := i :: σ.frz } m nw where
  nd := R.nd
  ro := R.ro
  rm := R.rm
  kp := fun r hr => by
    rcases List.mem_cons.mp hr with rfl | hr
    · exact List.mem_append_left _ (List.mem_of_getElem? e)
    · exact R.kp r hr
  fz := fun r hr => by
    rcases List.mem_cons.mp hr with rfl | hr
    · exact .inl ⟨i, .head _, by rw [adrs, List.getElem?_map, e]; rfl⟩
    · rcases R.fz r hr with ⟨j, z1, z2⟩ | z
      · exact .inl ⟨j, .tail _ z1, z2⟩
      · exact .inr z
/-- the frozen of before again -/
theorem RelA.thaw {H H0 : Hid} {σ σ0 : SS} {m m0 : Str → Option Value} {nw nw0 : Led} (R : RelA H σ m nw) (R0 : RelA H0 σ0 m0 nw0) (X : Ext nw0 nw) (hh : H.hid = H0.hid) (hkn : H.kn = H0.kn) (hk : ∀ q ∈ H0.kp, q ∈ H.kp) : RelA H0 { σ with frz := σ0.frz } m nw where
  nd := by rw [← hh]; exact R.nd
  ro := by rw [← hkn]; exact R.ro
  rm := R.rm
  kp := fun q hq => by rw [← hh]; exact R.kp q (hk q hq)
  fz := fun q hq => by
    rcases R0.fz q hq with ⟨i, z1, z2⟩ | z
    · obtain ⟨ex, hex⟩ := X
      exact .inl ⟨i, z1, by rw [hex]; exact getExt z2⟩
    · exact .inr z
noncomputable def forL (ex : ExT) (cs : PySem.Scope) (t : Expr) (body : List Stmt) : SS → List SV → Option (SF × SS)
  | σ, [] => some (.next, σ)
  | σ, v :: r => match assignS cs σ t v with
    | some σ₁ => match ex cs σ₁ body with
      | some (.next, σ₂) => forL ex cs t body σ₂ r
      | some (.cont, σ₂) => forL ex cs t body σ₂ r
      | some (.ret x, σ₂) => some (.ret x, σ₂)
      | none => none
    | none => none
section
variable {prog : Program} {w : World} {K : Frag} {p : Program} {loose : List Str} {n : Nat} {c : Ctx} {E : Value → Shared → Prop} {ex : ExT}
set_option maxHeartbeats 1000000 in
theorem items_sound (X : ExOk prog w K p loose n ex) (O : c.Ok prog w K p loose n) (hE : PassesOwn (model prog w) c.A c.env E) {t : Expr} {body : List Stmt} {s : Shared} {Q : Flow → Shared → Prop} {I : Addr} {T : String} {ax : Addr} {lo : Obj} {fl : SF} {σ' σ0 : SS} {m0 : Str → Option Value} {nw0 : Led} (R0 : RelA c.hid σ0 m0 nw0)
    (k : ∀ h' tk m' nw' f, Rel c.hid c.h₀ c.L { σ' with frz := σ0.frz } h' m' nw' → Ext nw0 nw' → RF (adrs nw') fl f → Q f (stt s h' tk)) :
    ∀ {l : List SV} {vs : List Value} {σ : SS} {m : Str → Option Value} {nw : Led}, forL ex c.cs t body σ l = some (fl, σ') → All2 (RV (adrs nw)) l vs → RelA { c.hid with kp := (ax, lo) :: c.hid.kp } σ m nw → I ∉ adrs (nw ++ c.hid.hid) → Ext nw0 nw →
      ItemsRest prog w c.A E c.h₀ c.env t body Q s [(I, T)] [(ax, lo)] (vs.map .val) m (nw ++ c.hid.hid)
  | [], vs, σ, m, nw, e, hx, R, hI, X0 => by
    cases hx
    cases e
    exact ItemsRest.zero fun h tk F N => k h tk m nw .next ((R.thaw R0 X0 rfl rfl fun q hq => .tail _ hq).on F N) X0 rfl
  | v :: r, vs, σ, m, nw, e, hx, R, hI, X0 => by
    cases hx with
    | @cons _ y _ ys h1 h2 =>
      refine ItemsRest.val fun h tk F it hit N => ?_
      let c' : Ctx := { c with hid := { c.hid with hid := (I, it) :: c.hid.hid, kp := (ax, lo) :: c.hid.kp } }
      have O' : c'.Ok prog w K p loose n := O.hide fun q hq => by repeat (first | exact hq | refine .tail _ ?_)
      have RA : RelA c'.hid σ m nw := R.enter (q := (I, it)) hI
      have hk : ∀ q ∈ ({ c.hid with kp := (ax, lo) :: c.hid.kp } : Hid).kp, q.1 ≠ I := fun q hq z => hI (z ▸ List.mem_map_of_mem (R.kp q hq))
      have N1 : News c.h₀ c.L h (nw ++ ((I, it) :: c.hid.hid)) := fun q hq => N q (by
        rcases List.mem_append.mp hq with z | z
        · exact .tail _ (List.mem_append_right [] (List.mem_append_left _ z))
        · rcases List.mem_cons.mp z with rfl | z
          · exact .head _
          · exact .tail _ (List.mem_append_right [] (List.mem_append_right _ z)))
      have R1 : Rel c'.hid c'.h₀ c'.L σ h m nw := RA.on F N1
      have back : ∀ {σ₂ : SS} {h' : Heap} {m' : Str → Option Value} {nw' : Led}, Rel c'.hid c'.h₀ c'.L σ₂ h' m' nw' → (RelA { c.hid with kp := (ax, lo) :: c.hid.kp } σ₂ m' nw' ∧ I ∉ adrs (nw' ++ c.hid.hid)) ∧ News c.h₀ c.L h' (nw' ++ c.hid.hid) ∧ News c.h₀ c.L h' ((I, it) :: (nw' ++ c.hid.hid)) := by
        intro σ₂ h' m' nw' R2
        refine ⟨RelA.leave (hid := { c.hid with kp := (ax, lo) :: c.hid.kp }) (q := (I, it)) R2.abs hk, fun q hq => R2.nws q ?_, fun q hq => R2.nws q ?_⟩
        · rcases List.mem_append.mp hq with z | z
          · exact List.mem_append_left _ z
          · exact List.mem_append_right _ (.tail _ z)
        · rcases List.mem_cons.mp hq with rfl | hq
          · exact List.mem_append_right _ (.head _)
          · rcases List.mem_append.mp hq with z | z
            · exact List.mem_append_left _ z
            · exact List.mem_append_right _ (.tail _ z)
      unfold forL at e
      split at e
      · rename_i σ₁ q1
        refine assign_sound (c := c') (s := stt s h tk) O' q1 h1 R1 fun h' tk' m' R2 => ?_
        have turn : ∀ {σ₂ : SS} {h'' : Heap} {tk'' : Nat} {m'' : Str → Option Value} {nw'' : Led}, forL ex c.cs t body σ₂ r = some (fl, σ') → Rel c'.hid c'.h₀ c'.L σ₂ h'' m'' nw'' → Ext nw nw'' →
            UnrEndW c.h₀ c.env.locals (stt s h tk) [(I, it)] (fun m' n' => SubL [(ax, lo)] n' ∧ ItemsRest prog w c.A E c.h₀ c.env t body Q s [(I, T)] [(ax, lo)] (ys.map .val) m' n') (stt s h'' tk'') := by
          intro σ₂ h'' tk'' m'' nw'' e2 R3 X3
          obtain ⟨⟨A1, A2⟩, A3, A4⟩ := back R3
          refine ⟨h'', tk'', m'', nw'' ++ c.hid.hid, rfl, R3.fr, A4, fun q hq q' hq' z => ?_, ⟨A1.kp _ (.head _), trivial⟩, ?_⟩
          · rcases List.mem_singleton.mp hq' with rfl
            exact A2 (by have h9 := List.mem_map_of_mem (f := (·.1)) hq; rw [z] at h9; exact h9)
          · exact items_sound X O hE R0 k e2 (h2.up X3) A1 A2 (X0.trans X3)
        split at e
        · rename_i σ₂ q2
          refine X c' σ₁ body .next σ₂ q2 O' m' nw (stt s h' tk') _ _ hE R2 fun h'' tk'' m'' nw'' f R3 X3 hf => ?_
          cases hf
          exact turn e R3 X3
        · rename_i σ₂ q2
          refine X c' σ₁ body .cont σ₂ q2 O' m' nw (stt s h' tk') _ _ hE R2 fun h'' tk'' m'' nw'' f R3 X3 hf => ?_
          cases hf
          exact turn e R3 X3
        · rename_i x σ₂ q2
          cases e
          refine X c' σ₁ body (.ret x) σ' q2 O' m' nw (stt s h' tk') _ _ hE R2 fun h'' tk'' m'' nw'' f R3 X3 hf => ?_
          obtain ⟨⟨A1, A2⟩, A3, A4⟩ := back R3
          obtain ⟨y', rfl, hy⟩ := hf
          exact k h'' tk'' m'' nw'' _ ((A1.thaw R0 (X0.trans X3) rfl rfl fun q hq => .tail _ hq).on R3.fr A3) (X0.trans X3) ⟨y', rfl, hy⟩
        · cases e
      · cases e
end
end Vx
end
section
open PySem PySem.W PySem.Calls PyProof.Rows
namespace Vx
variable [Rho]
noncomputable def forR (ex : ExT) (cs : PySem.Scope) (x : Str) (body : List Stmt) : SS → Int → Nat → Option (SF × SS)
  | σ, _, 0 => some (.next, σ)
  | σ, a, k + 1 => match ex cs { σ with loc := (x, .int a) :: σ.loc } body with
    | some (.next, σ₂) => forR ex cs x body σ₂ (a + 1) k
    | some (.cont, σ₂) => forR ex cs x body σ₂ (a + 1) k
    | some (.ret v, σ₂) => some (.ret v, σ₂)
    | none => none
section
variable {prog : Program} {w : World} {K : Frag} {p : Program} {loose : List Str} {n : Nat} {c : Ctx} {E : Value → Shared → Prop} {ex : ExT} {ev : EvT}
set_option maxHeartbeats 1000000 in
theorem range_sound (X : ExOk prog w K p loose n ex) (O : c.Ok prog w K p loose n) (hE : PassesOwn (model prog w) c.A c.env E) {x : Str} {body : List Stmt} {s : Shared} {Q : Flow → Shared → Prop} {I : Addr} {a : Int} {N₀ : Nat} {fl : SF} {σ' σ0 : SS} {m0 : Str → Option Value} {nw0 : Led} (R0 : RelA c.hid σ0 m0 nw0)
    (k : ∀ h' tk m' nw' f, Rel c.hid c.h₀ c.L { σ' with frz := σ0.frz } h' m' nw' → Ext nw0 nw' → RF (adrs nw') fl f → Q f (stt s h' tk)) :
    ∀ {j i : Nat} {σ : SS} {m : Str → Option Value} {nw : Led}, forR ex c.cs x body σ (a + (i : Int)) j = some (fl, σ') → RelA c.hid σ m nw → I ∉ adrs (nw ++ c.hid.hid) → Ext nw0 nw →
      RangeRest prog w c.A E c.h₀ c.env x body Q s I a N₀ j i m (nw ++ c.hid.hid)
  | 0, i, σ, m, nw, e, R, hI, X0 => by
    cases e
    exact RangeRest.zero fun h tk F N => k h tk m nw .next ((R.thaw R0 X0 rfl rfl fun q hq => hq).on F N) X0 rfl
  | j + 1, i, σ, m, nw, e, R, hI, X0 => by
    refine RangeRest.succ fun t h tk F N => ?_
    let it : Obj := itR (a + ((i + 1 : Nat) : Int)) ((N₀ : Int) - ((i + 1 : Nat) : Int))
    let c' : Ctx := { c with hid := { c.hid with hid := (I, it) :: c.hid.hid } }
    have O' : c'.Ok prog w K p loose n := O.hide fun q hq => by repeat (first | exact hq | refine .tail _ ?_)
    have RB : RelA c.hid { σ with loc := (x, .int (a + (i : Int))) :: σ.loc } (fun y => if y = x then some (.int (a + (i : Int)) t) else m y) nw := by
      refine ⟨R.nd, R.ro, fun y sw q => ?_, R.kp, R.fz⟩
      have q' : (match y == x with | true => some (SV.int (a + (i : Int))) | false => σ.loc.lookup y) = some sw := q
      by_cases h : y = x
      · subst h
        rw [beq_self_eq_true] at q'
        cases q'
        exact ⟨_, if_pos rfl, ⟨t, rfl⟩⟩
      · rw [beq_eq_false_iff_ne.mpr h] at q'
        obtain ⟨v', h1, h2⟩ := R.rm y sw q'
        exact ⟨v', (if_neg h).trans h1, h2⟩
    have RA : RelA c'.hid _ _ nw := RB.enter (q := (I, it)) hI
    have hk : ∀ q ∈ c.hid.kp, q.1 ≠ I := fun q hq z => hI (z ▸ List.mem_map_of_mem (R.kp q hq))
    have N1 : News c.h₀ c.L h (nw ++ ((I, it) :: c.hid.hid)) := fun q hq => N q (by
      rcases List.mem_append.mp hq with z | z
      · exact .tail _ (List.mem_append_left _ z)
      · rcases List.mem_cons.mp z with rfl | z
        · exact .head _
        · exact .tail _ (List.mem_append_right _ z))
    have R1 : Rel c'.hid c'.h₀ c'.L _ h _ nw := RA.on F N1
    have back : ∀ {σ₂ : SS} {h' : Heap} {m' : Str → Option Value} {nw' : Led}, Rel c'.hid c'.h₀ c'.L σ₂ h' m' nw' → (RelA c.hid σ₂ m' nw' ∧ I ∉ adrs (nw' ++ c.hid.hid)) ∧ News c.h₀ c.L h' (nw' ++ c.hid.hid) ∧ News c.h₀ c.L h' ((I, it) :: (nw' ++ c.hid.hid)) := by
      intro σ₂ h' m' nw' R2
      refine ⟨RelA.leave (hid := c.hid) (q := (I, it)) R2.abs hk, fun q hq => R2.nws q ?_, fun q hq => R2.nws q ?_⟩
      · rcases List.mem_append.mp hq with z | z
        · exact List.mem_append_left _ z
        · exact List.mem_append_right _ (.tail _ z)
      · rcases List.mem_cons.mp hq with rfl | hq
        · exact List.mem_append_right _ (.head _)
        · rcases List.mem_append.mp hq with z | z
          · exact List.mem_append_left _ z
          · exact List.mem_append_right _ (.tail _ z)
    unfold forR at e
    have turn : ∀ {σ₂ : SS} {h'' : Heap} {tk'' : Nat} {m'' : Str → Option Value} {nw'' : Led}, forR ex c.cs x body σ₂ (a + (i : Int) + 1) j = some (fl, σ') → Rel c'.hid c'.h₀ c'.L σ₂ h'' m'' nw'' → Ext nw nw'' →
        UnrEnd c.h₀ c.env.locals (stt s h tk) I it (RangeRest prog w c.A E c.h₀ c.env x body Q s I a N₀ j (i + 1)) (stt s h'' tk'') := by
      intro σ₂ h'' tk'' m'' nw'' e2 R3 X3
      obtain ⟨⟨A1, A2⟩, A3, A4⟩ := back R3
      refine UnrEnd.intro R3.fr A4 (nw'' ++ c.hid.hid) (fun q hq => hq) (fun q hq z => A2 (by have h9 := List.mem_map_of_mem (f := (·.1)) hq; rw [z] at h9; exact h9)) ?_
      refine range_sound X O hE R0 k (i := i + 1) ?_ A1 A2 (X0.trans X3)
      have : a + ((i + 1 : Nat) : Int) = a + (i : Int) + 1 := by omega
      rw [this]
      exact e2
    split at e
    · rename_i σ₂ q2
      refine X c' _ body .next σ₂ q2 O' _ nw (stt s h tk) _ _ hE R1 fun h'' tk'' m'' nw'' f R3 X3 hf => ?_
      cases hf
      exact turn e R3 X3
    · rename_i σ₂ q2
      refine X c' _ body .cont σ₂ q2 O' _ nw (stt s h tk) _ _ hE R1 fun h'' tk'' m'' nw'' f R3 X3 hf => ?_
      cases hf
      exact turn e R3 X3
    · rename_i v σ₂ q2
      cases e
      refine X c' _ body (.ret v) σ' q2 O' _ nw (stt s h tk) _ _ hE R1 fun h'' tk'' m'' nw'' f R3 X3 hf => ?_
      obtain ⟨⟨A1, A2⟩, A3, A4⟩ := back R3
      obtain ⟨y', rfl, hy⟩ := hf
      exact k h'' tk'' m'' nw'' _ ((A1.thaw R0 (X0.trans X3) rfl rfl fun q hq => hq).on R3.fr A3) (X0.trans X3) ⟨y', rfl, hy⟩
    · cases e
/-! the statement -/
noncomputable def notSet : Expr → Bool
  | .Set .. => false
  | _ => true
theorem set_no {e : Expr} {env : Env} (h : notSet e = true) : ∀ x, foldedSetIterable e env x = pure x := by
  intro x
  cases e <;> first | rfl | cases h
noncomputable def callPart : Expr → Option (Expr × List Expr × List Keyword)
  | .Call f args kws _ => some (f, args, kws)
  | _ => none
theorem callPart_eq {e : Expr} {q : Expr × List Expr × List Keyword} (h : callPart e = some q) : ∃ p, e = .Call q.1 q.2.1 q.2.2 p := by
  cases e <;> first | (cases h; exact ⟨_, rfl⟩) | cases h
noncomputable def rangeTo (a b : Int) : Option Nat := if Builtin.Range.small a b 1 && decide (a ≤ b) then some (Builtin.Range.rangeSize a b 1).toNat else none
noncomputable def bounds (l : List SV) : Option (Int × Int) := orS ((oneL l).bind fun v => (intS v).map fun b => (0, b)) ((twoL l).bind fun q => int2 q.1 q.2)
/-- range( .. ): its start, its length -/
noncomputable def rangeArgs (K : Frag) (ev : EvT) (cs : PySem.Scope) (σ : SS) (iter : Expr) : Option (Int × Nat × SS) := (callPart iter).bind fun f => (nameE f.1).bind fun x => (evName K cs σ x).bind fun v => (valS v).bind fun u => (typeV u).bind fun T =>
  whenS (decide (T = "range") && f.2.2.isEmpty && f.2.1.all notStar && !f.2.1.isEmpty) ((evArgs ev cs σ f.2.1).bind fun q => (bounds q.1).bind fun ab => (rangeTo ab.1 ab.2).map fun j => (ab.1, j, q.2))
theorem rangeTo_eq {a b : Int} {j : Nat} (h : rangeTo a b = some j) : Builtin.Range.small a b 1 = true ∧ Builtin.Range.rangeSize a b 1 = (j : Int) ∧ b = a + (j : Int) := by
  unfold rangeTo at h
  split at h
  · rename_i q
    obtain ⟨q1, q2⟩ := andT q
    have q2 := of_decide_eq_true q2
    cases h
    have e : Builtin.Range.rangeSize a b 1 = b - a := by
      unfold Builtin.Range.rangeSize
      rw [if_pos (by decide), Int.ediv_one]
      split <;> omega
    rw [e]
    exact ⟨q1, by omega, by omega⟩
  · cases h
theorem fresh_not {nw : Led} {hid : Led} {I : Addr} (lt : ∀ q ∈ nw ++ hid, q.1 < I) : I ∉ adrs (nw ++ hid) := fun h => by
  obtain ⟨q, hq, e⟩ := List.mem_map.mp h
  exact Nat.ne_of_lt (lt q hq) e
theorem rangeArgs_sound (V : EvOk prog w K p loose n ev) (O : c.Ok prog w K p loose n) {iter : Expr} {σ σ₁ : SS} {a : Int} {j : Nat} {m : Str → Option Value} {nw : Led} {s : Shared} {Q : Value → Shared → Prop} (h : rangeArgs K ev c.cs σ iter = some (a, j, σ₁)) (R : Rel c.hid c.h₀ c.L σ s.heap m nw)
    (k : ∀ h' tk nw' r b t u v, IsRange h' r a b 1 t u v → Builtin.Range.small a b 1 = true → Builtin.Range.rangeSize a b 1 = (j : Int) → b = a + (j : Int) → Rel c.hid c.h₀ c.L σ₁ h' m nw' → Ext nw nw' → Q (.ref r) (stt s h' tk)) :
    wpAny (model prog w) c.A (eval iter c.env) Q E s ∧ ∀ env x, foldedSetIterable iter env x = pure x := by
  obtain ⟨f, q1, h1⟩ := bindS h
  obtain ⟨x, q2, h2⟩ := bindS h1
  obtain ⟨v, q3, h3⟩ := bindS h2
  obtain ⟨u, q4, h4⟩ := bindS h3
  obtain ⟨T, q5, h5⟩ := bindS h4
  obtain ⟨q6, h6⟩ := whenS_of h5
  obtain ⟨⟨vs, σ₂⟩, q7, h7⟩ := bindS h6
  obtain ⟨⟨a', b⟩, q8, h8⟩ := bindS h7
  obtain ⟨j', q9, h9⟩ := mapS h8
  clear h h1 h2 h3 h4 h5 h6 h7 h8
  cases h9
  obtain ⟨q6, e1⟩ := andT q6
  obtain ⟨q6, e2⟩ := andT q6
  obtain ⟨q6, e3⟩ := andT q6
  obtain ⟨pos, rfl⟩ := callPart_eq q1
  obtain ⟨px, e4⟩ := nameE_eq q2
  rw [e4, List.isEmpty_iff.mp e3]
  rw [valS_eq q4, typeV_eq q5, of_decide_eq_true q6] at q3
  obtain ⟨g6, g7, g8⟩ := rangeTo_eq q9
  refine ⟨Call_ (name_sound q3 O R fun y hy => ?_) rfl, fun _ _ => rfl⟩
  cases hy
  generalize f.2.1 = args at e1 e2 q7
  cases args with
  | nil => cases e1
  | cons e rest =>
    obtain ⟨h5, h6⟩ := andT e2
    refine Pv.callWith_type1 (args_sound V O q7 R fun h' tk nw' xs R' X' hx => ?_) (star_eq h5) (stars_any h6)
    rcases orS_of q8 with h | h
    · obtain ⟨v1, z1, h1⟩ := bindS h
      obtain ⟨b1, z2, h2⟩ := mapS h1
      cases h2
      rw [show vs = [v1] from oneL_eq z1, intS_eq z2] at hx
      obtain ⟨y1, rfl, t1, rfl⟩ := hx.inv1
      exact range1_rows (s := stt s h' tk) R'.fr R'.nws fun h'' tk'' t₁ u₁ v₁ g3 F' N' keep => k h'' tk'' nw' _ _ _ _ _ g3 g6 g7 g8 (R'.same F' N') X'
    · obtain ⟨v1, z1, h1⟩ := bindS h
      rw [show vs = [v1.1, v1.2] from twoL_eq z1] at hx
      obtain ⟨y1, y2, rfl, z2, z3⟩ := hx.inv2
      obtain ⟨t1, t2, rfl, rfl⟩ := int2_of h1 z2 z3
      exact range2_rows (s := stt s h' tk) R'.fr R'.nws fun h'' tk'' t₁ u₁ v₁ g3 F' N' keep => k h'' tk'' nw' _ _ _ _ _ g3 g6 g7 g8 (R'.same F' N') X'
/-- an own list or tuple, to go through -/
noncomputable def itemsAt (σ : SS) (a : SV) : Option (Nat × List SV) := orS (listAt σ a) (tupAt σ a)
noncomputable def forPart : Stmt → Option (Expr × Expr × List Stmt × List Stmt)
  | .For t it b o _ => some (t, it, b, o)
  | _ => none
theorem forPart_eq {e : Stmt} {q : Expr × Expr × List Stmt × List Stmt} (h : forPart e = some q) : ∃ p, e = .For q.1 q.2.1 q.2.2.1 q.2.2.2 p := by
  cases e <;> first | (cases h; exact ⟨_, rfl⟩) | cases h
noncomputable def forS (K : Frag) (ev : EvT) (ex : ExT) (cs : PySem.Scope) (σ : SS) (st : Stmt) : Option (SF × SS) := (forPart st).bind fun f => whenS f.2.2.2.isEmpty (orS
  ((rangeArgs K ev cs σ f.2.1).bind fun r => (nameE f.1).bind fun x => whenS (decide (cs.names.lookup x = some .local)) ((forR ex cs x f.2.2.1 r.2.2 (r.1 + ((0 : Nat) : Int)) r.2.1).map fun q => (q.1, { q.2 with frz := r.2.2.frz })))
  (whenS (notSet f.2.1) ((ev cs σ f.2.1).bind fun q => (itemsAt q.2 q.1).bind fun l => (forL ex cs f.1 f.2.2.1 { q.2 with frz := l.1 :: q.2.frz } l.2).map fun r => (r.1, { r.2 with frz := q.2.frz }))))
set_option maxHeartbeats 1000000 in
theorem for_sound (V : EvOk prog w K p loose n ev) (X : ExOk prog w K p loose n ex) : StOk prog w K p loose n (forS K ev ex) := by
  intro c σ st fl σ' h O m nw s Q E hE R k
  obtain ⟨⟨t, iter, body, orel⟩, q1, h1⟩ := bindS h
  obtain ⟨q2, h2⟩ := whenS_of h1
  clear h h1
  obtain ⟨pos, rfl⟩ := forPart_eq q1
  rw [show orel = [] from List.isEmpty_iff.mp q2]
  rcases orS_of h2 with h | h
  · obtain ⟨⟨a, j, σ₁⟩, q3, h3⟩ := bindS h
    obtain ⟨x, q4, h4⟩ := bindS h3
    obtain ⟨q5, h5⟩ := whenS_of h4
    obtain ⟨⟨fl', σ₂⟩, q6, h6⟩ := mapS h5
    clear h h2 h3 h4 h5
    cases h6
    obtain ⟨px, e4⟩ := nameE_eq q4
    rw [show t = .Name x px from e4]
    have z := rangeArgs_sound (E := E) (Q := fun iv s₁ => wpAny (model prog w) c.A (pyIter iv) (fun it s₂ => LoopAtV prog w c.A c.h₀ c.env x body Q E it s₂) E s₁) V O q3 R fun h' tk nw' r b t u v g3 g6 g7 _ R1 X1 => by
      refine iter_rangeUnr (s := stt s h' tk) O.hd g3 g6 g7 R1.fr R1.nws fun I hI => ?_
      exact range_sound (s := stt s h' tk) X O hE R1.abs (fun h'' tk'' m'' nw'' f R3 X3 hf => k h'' tk'' m'' nw'' f R3 (X1.trans X3) hf) q6 R1.abs (fresh_not hI) .refl
    exact For_invVF R.fr (of_decide_eq_true q5) (by show (c.cs.kind == .class || c.cs.kind == .module && _) = false; rw [O.kd]; rfl) z.1 (z.2 _) hE
  · obtain ⟨q3, h3⟩ := whenS_of h
    obtain ⟨⟨a, σ₁⟩, q4, h4⟩ := bindS h3
    obtain ⟨⟨i, l⟩, q5, h5⟩ := bindS h4
    obtain ⟨⟨fl', σ₂⟩, q6, h6⟩ := mapS h5
    clear h h2 h3 h4 h5
    cases h6
    refine For_turns R.fr (V c σ iter _ σ₁ q4 O m nw s _ _ R fun h' tk nw' x R' X' hx => ?_) (set_no q3) hE
    rcases orS_of q5 with h | h
    · obtain ⟨d, us, k3, rfl, _, _, g1, g4, g5⟩ := R'.listAt h hx
      refine iter_listTurns (s := stt s h' tk) O.hd R'.fr R'.nws g4 rfl rfl fun I hI => ?_
      exact items_sound (s := stt s h' tk) X O hE R'.abs (fun h'' tk'' m'' nw'' f R3 X3 hf => k h'' tk'' m'' nw'' f R3 (X'.trans X3) hf) q6 g5 (R'.abs.keep g1) (fresh_not hI) .refl
    · obtain ⟨d, us, rfl, _, _, g1, g4, g5⟩ := R'.tupAt h hx
      refine iter_tupTurns (s := stt s h' tk) O.hd R'.fr R'.nws g4 rfl rfl fun I hI => ?_
      exact items_sound (s := stt s h' tk) X O hE R'.abs (fun h'' tk'' m'' nw'' f R3 X3 hf => k h'' tk'' m'' nw'' f R3 (X'.trans X3) hf) q6 g5 (R'.abs.keep g1) (fresh_not hI) .refl
end
end Vx
end
section
open PySem PySem.W PySem.Calls PyProof.Rows
namespace Vx
variable [Rho]
/-! names in a comprehension -/
/-- a name that is not the comprehension's own: a def of the module, the row -/
noncomputable def cnS (K : Frag) (names : List (Str × NameKind)) (cs : PySem.Scope) (σ : SS) (y : Str) : Option SV := whenS (!(y == ("__debug__" : Str)))
  (orS (whenS (decide (names.lookup y = some .globalImplicit)) ((nsIn K mainGlobals y).bind fun v => v.map .val))
    (whenS (decide (names.lookup y = some .free) && decide (cs.names.lookup y = some .cell)) ((σ.objs.get 0).bind fun so => (soRow so).map fun _ => .own 0)))
noncomputable def cname (cn : SS → Str → Option SV) (x : Str) (xv : SV) (σ : SS) (y : Str) : Option SV := match y == x with
  | true => some xv
  | false => cn σ y
/-- an element of a comprehension: x is its name -/
noncomputable def ceval (K : Frag) (nx : Addr) (cn : SS → Str → Option SV) (x : Str) (xv : SV) : Nat → SS → Expr → Option (SV × SS)
  | 0, _, _ => none
  | k + 1, σ, e => match e with
    | .Name y _ => (cname cn x xv σ y).map (·, σ)
    | .Constant q _ _ => (evConst q).map (·, σ)
    | .Attribute o a _ => whenS (plainB o) ((ceval K nx cn x xv k σ o).bind fun q => (evAttr K q.2 q.1 a).map (·, q.2))
    | .Subscript v i _ => whenS (plainIx i) ((ceval K nx cn x xv k σ v).bind fun q => (ceval K nx cn x xv k q.2 i).bind fun q' => (subS q'.2 q.1 q'.1).map (·, q'.2))
    | .Tuple es _ _ => (evArgs1 (ceval K nx cn x xv k) σ es).bind fun q => whenS (decide (q.1.length ≤ 1000)) (some (.own q.2.objs.n, { q.2 with objs := q.2.objs.push (.tup q.1) }))
    | .BinOp l op r _ => (ceval K nx cn x xv k σ l).bind fun q => (ceval K nx cn x xv k q.2 r).bind fun q' => binS q'.2 op q.1 q'.1
    | .Compare l ops rs _ => (oneL ops).bind fun op => (oneL rs).bind fun r => whenS (!behindInMarks op r) ((ceval K nx cn x xv k σ l).bind fun q => (ceval K nx cn x xv k q.2 r).bind fun q' => (cmpS q'.2 op q.1 q'.1).map (·, q'.2))
    | .Call f args kws _ => whenS kws.isEmpty ((nameE f).bind fun y => (cname cn x xv σ y).bind fun v => (valS v).bind fun u => whenS (decide (u = .ref nx) && keepIn K (.ref nx)) ((oneL args).bind fun a => whenS (notStar a) ((ceval K nx cn x xv k σ a).bind fun q => drawS q.2 [q.1])))
    | _ => none
noncomputable def compL (K : Frag) (nx : Addr) (cn : SS → Str → Option SV) (x : Str) (elt : Expr) : SS → List SV → Option (List SV × SS)
  | σ, [] => some ([], σ)
  | σ, v :: r => (ceval K nx cn x v 12 σ elt).bind fun q => (compL K nx cn x elt q.2 r).map fun q' => (q.1 :: q'.1, q'.2)
section
variable {prog : Program} {w : World} {K : Frag} {p : Program} {loose : List Str} {n : Nat} {c : Ctx} {m : Str → Option Value} {E : Value → Shared → Prop} {ev : EvT} {nx : Addr} {cn : SS → Str → Option SV}
/-- what the names of a comprehension give -/
noncomputable def NamesOk (prog : Program) (w : World) (c : Ctx) (env : Env) (m : Str → Option Value) (cn : SS → Str → Option SV) (x : Str) (xv : SV) (v : Value) : Prop :=
  ∀ (σ : SS) (y : Str) (sv : SV) (nw : Led) (s : Shared) (pos : Pos) (Q E : Value → Shared → Prop), cname cn x xv σ y = some sv → RV (adrs nw) xv v → Rel c.hid c.h₀ c.L σ s.heap m nw → (∀ z, RV (adrs nw) sv z → Q z s) → wpAny (model prog w) c.A (eval (.Name y pos) env) Q E s
theorem ceval_sound (D : DrawOk prog w K p loose nx) (O : c.Ok prog w K p loose (n + 1)) {env : Env} {x : Str} {xv : SV} {v : Value} (G : NamesOk prog w c env m cn x xv v) : ∀ k, EvIn prog w c env m (fun nw => RV (adrs nw) xv v) (ceval K nx cn x xv k) := by
  intro k
  induction k with
  | zero => exact fun _ _ _ _ h => by cases h
  | succ k ih =>
    intro σ e r σ' h nw s Q E hv R cont
    cases e <;> first | (cases h; done) | skip
    case Name y pos =>
      obtain ⟨z, q1, q2⟩ := mapS h
      cases q2
      exact G σ y _ nw s pos Q E q1 hv R fun u hu => cont s.heap s.toks nw u R .refl hu
    case Constant q kk pos =>
      obtain ⟨z, q1, q2⟩ := mapS h
      cases q2
      cases q <;> first | (cases q1; done) | skip
      case int i => cases q1; exact wpAny_Constant_int (cont s.heap _ nw _ R .refl ⟨_, rfl⟩)
      case str y => cases q1; exact Constant_str (cont s.heap _ nw _ R .refl ⟨_, rfl⟩)
      case bool b => cases q1; exact Constant_bool (cont s.heap s.toks nw _ R .refl rfl)
      case none => cases q1; exact wpAny_Constant_none (cont s.heap s.toks nw _ R .refl rfl)
    case Attribute o a pos =>
      obtain ⟨hp, h⟩ := whenS_of h
      obtain ⟨⟨v1, σ₁⟩, q1, h⟩ := bindS h
      obtain ⟨z, q2, q3⟩ := mapS h
      cases q3
      exact Attribute_any_ (ih σ o v1 _ q1 nw s _ _ hv R fun h' tk nw' y R' X' hy => attr_sound (s := stt s h' tk) q2 O R' hy fun tk' z hz => cont h' tk' nw' z R' X' hz) (attr_eq hp)
    case Subscript va i pos =>
      obtain ⟨hp, h⟩ := whenS_of h
      obtain ⟨⟨a, σ₁⟩, q1, h⟩ := bindS h
      obtain ⟨⟨b, σ₂⟩, q2, h⟩ := bindS h
      obtain ⟨z, q3, q4⟩ := mapS h
      cases q4
      exact Subscript_ (ih σ va a σ₁ q1 nw s _ _ hv R fun h' tk nw' y R' X' hy => ih σ₁ i b _ q2 nw' (stt s h' tk) _ _ (hv.up X') R' fun h'' tk' nw'' z R'' X'' hz =>
        sub_sound (s := stt s h'' tk') O q3 hp R'' (hy.up X'') hz fun tk3 u hu => cont h'' tk3 nw'' u R'' (X'.trans X'') hu)
    case Tuple es j pos =>
      obtain ⟨⟨vs, σ₁⟩, q1, h⟩ := bindS h
      obtain ⟨hz, h⟩ := whenS_of h
      cases h
      exact Tuple_ (args_gen (I := fun nw => RV (adrs nw) xv v) (fun _ _ X h => h.up X) ih q1 hv R fun h' tk nw' ys R' X' hy => newTuple_sound (s := stt s h' tk) R' hy (of_decide_eq_true hz) fun h'' nw'' y R'' X'' hy => cont h'' _ nw'' y R'' (X'.trans X'') hy)
    case BinOp l op r pos =>
      obtain ⟨⟨a, σ₁⟩, q1, h⟩ := bindS h
      obtain ⟨⟨b, σ₂⟩, q2, h⟩ := bindS h
      exact wpAny_BinOp (ih σ l a σ₁ q1 nw s _ _ hv R fun h' tk nw' x R' X' hx => ih σ₁ r b σ₂ q2 nw' (stt s h' tk) _ _ (hv.up X') R' fun h'' tk' nw'' y R'' X'' hy =>
        bin_sound (s := stt s h'' tk') h R'' (hx.up X'') hy fun h3 tk3 nw3 u R3 X3 hu => cont h3 tk3 nw3 u R3 ((X'.trans X'').trans X3) hu)
    case Compare l ops rs pos =>
      obtain ⟨op, q1, h⟩ := bindS h
      obtain ⟨r', q2, h⟩ := bindS h
      obtain ⟨q0, h⟩ := whenS_of h
      obtain ⟨⟨a, σ₁⟩, q3, h⟩ := bindS h
      obtain ⟨⟨b, σ₂⟩, q4, h⟩ := bindS h
      obtain ⟨z, q5, q6⟩ := mapS h
      cases q6
      rw [oneL_eq q1, oneL_eq q2]
      exact wpAny_Compare1 (ih σ l a σ₁ q3 nw s _ _ hv R fun h' tk nw' x R' X' hx => ih σ₁ r' b _ q4 nw' (stt s h' tk) _ _ (hv.up X') R' fun h'' tk' nw'' y R'' X'' hy =>
        cmp_sound (s := stt s h'' tk') O q5 R'' (hx.up X'') hy fun u hu => cont h'' tk' nw'' u R'' (X'.trans X'') hu) (notT q0)
    case Call f args kws pos =>
      obtain ⟨q0, h1⟩ := whenS_of h
      obtain ⟨y, q1, h2⟩ := bindS h1
      obtain ⟨u, q2, h3⟩ := bindS h2
      obtain ⟨g, q3, h4⟩ := bindS h3
      obtain ⟨q4, h5⟩ := whenS_of h4
      obtain ⟨a, q5, h6⟩ := bindS h5
      obtain ⟨q6, h7⟩ := whenS_of h6
      obtain ⟨⟨b, σ₁⟩, q7, h8⟩ := bindS h7
      clear h h1 h2 h3 h4 h5 h6 h7
      obtain ⟨q4, q8⟩ := andT q4
      obtain ⟨px, rfl⟩ := nameE_eq q1
      rw [valS_eq q3, of_decide_eq_true q4] at q2
      rw [List.isEmpty_iff.mp q0, oneL_eq q5]
      refine Call_ (G σ y _ nw s px _ _ q2 hv R fun z hz => ?_) rfl
      cases hz
      refine callWith_K O.X q8 (args_cons (ih σ a b σ₁ q7 nw s _ _ hv R fun h' tk nw' z R' X' hz => args_nil ⟨O.X.keeps R'.fr.keep, ?_⟩) (star_eq q6)) (star_eq q6) (stars_any (es := []) rfl)
      exact draw_sound (s := stt s h' tk) D h8 O.low R' (.cons hz .nil) fun h'' tk' nw'' u R'' X'' hu => cont h'' tk' nw'' u R'' (X'.trans X'') hu
/-! the comprehension's scope -/
noncomputable def compShape : List (Str × NameKind) → Option (Option Str)
  | [(_, .local), (_, .local)] => some none
  | [(_, .local), (_, .local), (_, .globalImplicit), (r, .free)] => some (some r)
  | _ => none
noncomputable def freeIs (cs : PySem.Scope) (o : Option Str) : Bool := match o with
  | none => true
  | some r => decide (cs.names.lookup r = some .cell)
noncomputable def compOk (cs scope : PySem.Scope) (x : Str) : Bool := decide (scope.kind = .function) && !(x == ("__debug__" : Str)) && decide (scope.names.lookup x = some .local) && scope.names.all (fun y => !decide (y.2 = .cell) && (!decide (y.2 = .local) || decide (scope.names.lookup y.1 = some .local))) && (match compShape scope.names with
  | some o => freeIs cs o
  | none => false)
theorem relabel_lookup {env : Env} : ∀ {names : List (Str × NameKind)} {y : Str}, (names.map fun (n, k) => if (k == NameKind.free && env.scope.kind == .function && env.kindOf n == some .cell) then (n, NameKind.cell) else (n, k)).lookup y =
    (names.lookup y).map fun k => if (k == NameKind.free && env.scope.kind == .function && env.kindOf y == some .cell) then NameKind.cell else k
  | [], _ => rfl
  | (n, k) :: r, y => by
    show List.lookup y ((if (k == NameKind.free && env.scope.kind == .function && env.kindOf n == some .cell) = true then (n, NameKind.cell) else (n, k)) :: _) = _
    have ih := @relabel_lookup env r y
    rw [show ∀ (b : Bool), (if b = true then (n, NameKind.cell) else (n, k)) = (n, if b = true then NameKind.cell else k) from fun b => by cases b <;> rfl, List.lookup_cons, List.lookup_cons, ih]
    cases hx : y == n with
    | true => rw [eq_of_beq hx]; rfl
    | false => rfl
/-- its closure -/
noncomputable def ClOf (c : Ctx) (names : List (Str × NameKind)) (cl : List (Str × Addr)) : Prop := ∀ y, names.lookup y = some .free → ∃ ca oc, cl.lookup y = some ca ∧ (ca, oc) ∈ c.hid.hid ∧ oc.data = .cell (some (.ref Rho.D))
theorem closure_ok {scope : PySem.Scope} {x : Str} (O : c.Ok prog w K p loose n) (h : compOk c.cs scope x = true) : ∃ cl, closureFor scope c.env = pure cl ∧ ClOf c scope.names cl := by
  obtain ⟨_, h⟩ := andT h
  unfold ClOf closureFor
  generalize scope.names = names at h
  match names, h with
  | [(a, .local), (b, .local)], _ =>
    refine ⟨[], rfl, fun y hy => ?_⟩
    rw [List.lookup_cons, List.lookup_cons] at hy
    cases z : y == a <;> rw [z] at hy <;> first | (cases hy; done) | skip
    cases z : y == b <;> rw [z] at hy <;> cases hy
  | [(a, .local), (b, .local), (f, .globalImplicit), (r, .free)], h =>
    obtain ⟨ca, oc, f1, f2, f3⟩ := O.cell r (of_decide_eq_true h)
    refine ⟨[(r, ca)], ?_, fun y hy => ?_⟩
    · have e : cellOf c.env r = pure ca := by
        unfold cellOf
        rw [show c.env.cells.lookup r = some ca from f1]
      simp [e]
    · rw [List.lookup_cons, List.lookup_cons, List.lookup_cons, List.lookup_cons] at hy
      cases z : y == a <;> rw [z] at hy <;> first | (cases hy; done) | skip
      cases z : y == b <;> rw [z] at hy <;> first | (cases hy; done) | skip
      cases z : y == f <;> rw [z] at hy <;> first | (cases hy; done) | skip
      cases z : y == r <;> rw [z] at hy <;> first | (cases hy; done) | skip
      exact ⟨ca, oc, by rw [List.lookup_cons, z], f2, f3⟩
theorem names_ok {scope : PySem.Scope} {cl : List (Str × Addr)} {x : Str} {xv : SV} {v : Value} {C : Addr} {oC : Obj} {m₂ : Str → Option Value} (O : c.Ok prog w K p loose n) (H : ClOf c scope.names cl) (hk : scope.kind = .function) (hx : scope.names.lookup x = some .local) (hd : (x == ("__debug__" : Str)) = false)
    (hC : LCg.NsObj oC m₂) (hm : (C, oC) ∈ c.hid.hid) (hv : m₂ x = some v) : NamesOk prog w c (compEnvC scope cl C c.env) m (cnS K scope.names c.cs) x xv v := by
  intro σ y sv nw s pos Q E e hxv R k
  have kind : ∀ {k k' : NameKind}, scope.names.lookup y = some k → (if (k == NameKind.free && c.env.scope.kind == .function && c.env.kindOf y == some .cell) then NameKind.cell else k) = k' → (compEnvC scope cl C c.env).kindOf y = some k' := fun h1 h2 => by
    show List.lookup y (List.map _ _) = _
    rw [relabel_lookup, h1]
    exact congrArg some h2
  unfold cname at e
  revert e
  cases z : y == x with
  | true =>
    intro e
    cases e
    obtain rfl := eq_of_beq z
    exact LCgL.ld_own R.nws (List.mem_append_right _ hm) hC hv (k v hxv) hk (kind hx rfl) hd
  | false =>
    intro e
    obtain ⟨h1, e⟩ := whenS_of e
    rcases orS_of e with e | e
    · obtain ⟨h2, e⟩ := whenS_of e
      obtain ⟨o, q1, e⟩ := bindS e
      obtain ⟨u, rfl, rfl⟩ := mapS e
      exact LCgL.ld_global R.fr O.X O.T q1 (k u rfl) rfl hk (kind (of_decide_eq_true h2) rfl) (notT h1)
    · obtain ⟨h2, e⟩ := whenS_of e
      obtain ⟨so, q1, e⟩ := bindS e
      obtain ⟨j, q2, e⟩ := mapS e
      cases e
      obtain ⟨h2, h3⟩ := andT h2
      obtain ⟨ca, oc, f1, f2, f3⟩ := H y (of_decide_eq_true h2)
      rw [soRow_eq q2] at q1
      obtain ⟨a, o, g1, g2, g3, g4⟩ := R.at q1
      refine kcf_cell R.nws f1 (List.mem_append_right _ f2) f3 (k _ ⟨a, g2, by rw [g3.1]⟩) hk (kind (of_decide_eq_true h2) ?_) (notT h1)
      have e1 : (c.env.scope.kind == .function) = true := by rw [show c.env.scope.kind = .function from O.kd]; rfl
      have e2 : (c.env.kindOf y == some .cell) = true := by rw [show c.env.kindOf y = some .cell from of_decide_eq_true h3]; rfl
      rw [e1, e2]
      rfl
/-- a new object, known to be apart -/
theorem RelA.push {hid : Hid} {σ : SS} {nw : Led} {a : Addr} {o : Obj} {so : SO} (R : RelA hid σ m nw) (h : a ∉ adrs (nw ++ hid.hid)) (ho : RO hid.kn (adrs nw) (tups σ.objs nw) a so o) : RelA hid { σ with objs := σ.objs.push (so) } m (nw ++ [(a, o)]) where
  nd := by
    show ((nw ++ [(a, o)] ++ hid.hid).map (·.1)).Nodup
    rw [List.append_assoc]
    have hp : ((a, o) :: (nw ++ hid.hid)).Perm (nw ++ ([(a, o)] ++ hid.hid)) := (List.perm_middle (a := (a, o)) (l₁ := nw) (l₂ := hid.hid)).symm
    refine (hp.map (·.1)).nodup_iff.mp ?_
    rw [List.map_cons, List.nodup_cons]
    exact ⟨h, R.nd⟩
  ro := R.ro.push ho
  rm := fun x sv e => by
    obtain ⟨v, h1, h2⟩ := R.rm x sv e
    refine ⟨v, h1, ?_⟩
    show RV ((nw ++ [(a, o)]).map (·.1)) sv v
    rw [List.map_append]
    exact h2.ext
  kp := fun q hq => by
    rcases List.mem_append.mp (R.kp q hq) with z | z
    · exact List.mem_append_left _ (List.mem_append_left _ z)
    · exact List.mem_append_right _ z
  fz := fun q hq => by
    rcases R.fz q hq with ⟨i, h1, h2⟩ | z
    · refine .inl ⟨i, h1, ?_⟩
      show ((nw ++ [(a, o)]).map (·.1))[i]? = _
      rw [List.map_append]
      exact getExt h2
    · exact .inr z
theorem off1Not {D : Addr} : ∀ {l : Led}, LCg.Off1 D l → D ∉ adrs l := by
  intro l
  induction l with
  | nil => intro _ h; cases h
  | cons q r ih =>
    intro h hm
    unfold LCg.Off1 at h
    rcases List.mem_cons.mp hm with e | hm
    · exact h.1 e.symm
    · exact ih h.2 hm
theorem offNot {I C D : Addr} {l : Led} (h : LCg.Off3 I C D l) : I ∉ adrs l ∧ C ∉ adrs l ∧ D ∉ adrs l :=
  ⟨fun z => let ⟨q, hq, e⟩ := List.mem_map.mp z; (h.mem q hq).1 e, fun z => let ⟨q, hq, e⟩ := List.mem_map.mp z; (h.mem q hq).2.1 e, fun z => let ⟨q, hq, e⟩ := List.mem_map.mp z; (h.mem q hq).2.2 e⟩
theorem adr_of {a : Addr} {q : Addr × Obj} {l : Led} (hq : q ∈ l) (z : q.1 = a) : a ∈ adrs l := z ▸ List.mem_map_of_mem hq
theorem notMid {a b : Addr} {ob : Obj} {nw hid : Led} (h : a ∉ adrs (nw ++ hid)) (ne : a ≠ b) : a ∉ adrs (nw ++ (b, ob) :: hid) := fun z => by
  obtain ⟨q, hq, e⟩ := List.mem_map.mp z
  rcases List.mem_append.mp hq with y | y
  · exact h (e ▸ List.mem_map_of_mem (List.mem_append_left _ y))
  · rcases List.mem_cons.mp y with rfl | y
    · exact ne e.symm
    · exact h (e ▸ List.mem_map_of_mem (List.mem_append_right _ y))
theorem notSub {a : Addr} {nw H H' : Led} (h : a ∉ adrs (nw ++ H)) (sub : ∀ q ∈ H', q ∈ H) : a ∉ adrs (nw ++ H') := fun z => by
  obtain ⟨q, hq, e⟩ := List.mem_map.mp z
  refine h (e ▸ List.mem_map_of_mem ?_)
  rcases List.mem_append.mp hq with y | y
  · exact List.mem_append_left _ y
  · exact List.mem_append_right _ (sub q y)
theorem midSub {H nw : Led} {a b d : Addr × Obj} : (∀ q ∈ nw ++ (a :: b :: d :: H), q ∈ a :: b :: d :: (nw ++ H)) ∧ ∀ q ∈ a :: b :: d :: (nw ++ H), q ∈ nw ++ (a :: b :: d :: H) := by
  refine ⟨fun q hq => ?_, fun q hq => ?_⟩
  · rcases List.mem_append.mp hq with z | z
    · exact .tail _ (.tail _ (.tail _ (List.mem_append_left _ z)))
    · rcases List.mem_cons.mp z with rfl | z
      · exact .head _
      · rcases List.mem_cons.mp z with rfl | z
        · exact .tail _ (.head _)
        · rcases List.mem_cons.mp z with rfl | z
          · exact .tail _ (.tail _ (.head _))
          · exact .tail _ (.tail _ (.tail _ (List.mem_append_right _ z)))
  · rcases List.mem_cons.mp hq with rfl | hq
    · exact List.mem_append_right _ (.head _)
    · rcases List.mem_cons.mp hq with rfl | hq
      · exact List.mem_append_right _ (.tail _ (.head _))
      · rcases List.mem_cons.mp hq with rfl | hq
        · exact List.mem_append_right _ (.tail _ (.tail _ (.head _)))
        · rcases List.mem_append.mp hq with z | z
          · exact List.mem_append_left _ z
          · exact List.mem_append_right _ (.tail _ (.tail _ (.tail _ z)))
set_option maxHeartbeats 2000000 in
theorem comp_sound (D : DrawOk prog w K p loose nx) (O : c.Ok prog w K p loose (n + 1)) {x : Str} {elt : Expr} {scope : PySem.Scope} {cl : List (Str × Addr)} {s : Shared} {Fin : List Value → Led → Prop} {S : Led → Prop} {P : Nat → Value → Prop} {kp0 : Led} {src : List SV} {σ' σ0 : SS} {nw0 : Led} {yall : List SV} (hok : compOk c.cs scope x = true) (H : ClOf c scope.names cl) (R0 : RelA c.hid σ0 m nw0)
    (hS : ∀ H : Led, (∀ q ∈ kp0, q ∈ H) → S H) (hP : ∀ i v sv, src[i]? = some sv → P i v → RV (adrs nw0) sv v)
    (k : ∀ ys nw', RelA c.hid { σ' with frz := σ0.frz } m nw' → Ext nw0 nw' → All2 (RV (adrs nw')) yall ys → Fin ys (nw' ++ c.hid.hid)) :
    ∀ {r : List SV} {i : Nat} {ysv : List SV} {ys : List Value} {rest : List SV} {σ : SS} {nw : Led}, compL K nx (cnS K scope.names c.cs) x elt σ r = some (rest, σ') → yall = ysv ++ rest → (∀ j, r[j]? = src[i + j]?) → All2 (RV (adrs nw)) ysv ys → RelA { c.hid with kp := kp0 ++ c.hid.kp } σ m nw → Ext nw0 nw →
      LCg.CompRest prog w c.A c.h₀ c.L m c.env elt x scope cl s S P Fin r.length i ys (nw ++ c.hid.hid)
  | [], i, ysv, ys, rest, σ, nw, e, ey, hr, hy, R, X0 => by
    cases e
    rw [List.append_nil] at ey
    subst ey
    exact LCg.CompRest.zero (k ys nw (R.thaw R0 X0 rfl rfl fun q hq => List.mem_append_right _ hq) X0 hy)
  | v :: r, i, ysv, ys, rest, σ, nw, e, ey, hr, hy, R, X0 => by
    obtain ⟨⟨y1, σ₁⟩, q1, e1⟩ := bindS e
    obtain ⟨⟨ys2, σ₂⟩, q2, e2⟩ := mapS e1
    clear e e1
    cases e2
    obtain ⟨h0, _⟩ := andT hok
    obtain ⟨h0, _⟩ := andT h0
    obtain ⟨h0, hx⟩ := andT h0
    obtain ⟨hk, hd⟩ := andT h0
    refine LCg.CompRest.succ fun v' I oI C oC D' m₂ h tk E' hv' hC hm2 F N off hne => ?_
    let c' : Ctx := { c with hid := { c.hid with hid := (I, oI) :: (C, oC) :: (D', LCg.lst ys) :: c.hid.hid, kp := kp0 ++ c.hid.kp } }
    have O' : c'.Ok prog w K p loose (n + 1) := O.hide fun q hq => .tail _ (.tail _ (.tail _ hq))
    obtain ⟨nI, nC, nD⟩ := offNot off
    have R1 := R.enter (q := (D', LCg.lst ys)) nD
    have R2 := R1.enter (q := (C, oC)) (notMid nC hne.2.2)
    have R3 := R2.enter (q := (I, oI)) (notMid (notMid nI hne.2.1) hne.1)
    have RR : Rel c'.hid c'.h₀ c'.L σ h m nw := R3.on F fun q hq => N q (midSub.1 q hq)
    have H' : ClOf c' scope.names cl := fun y hy => let ⟨ca, oc, f1, f2, f3⟩ := H y hy; ⟨ca, oc, f1, .tail _ (.tail _ (.tail _ f2)), f3⟩
    have hv1 : RV (adrs nw) v v' := (hP i v' v (by have := hr 0; exact this.symm) hv').up X0
    refine ceval_sound (c := c') D O' (names_ok (c := c') O' H' (of_decide_eq_true hk) (of_decide_eq_true hx) (notT hd) hC (.tail _ (.head _)) hm2) 12 σ elt y1 σ₁ q1 nw (stt s h tk) _ _ hv1 RR fun h' tk' nw' yv R4 X4 hyv => ?_
    have hk1 : ∀ {J : Addr}, J ∉ adrs (nw ++ c.hid.hid) → ∀ q ∈ ({ c.hid with kp := kp0 ++ c.hid.kp } : Hid).kp, q.1 ≠ J := fun hJ q hq z => hJ (z ▸ List.mem_map_of_mem (R.kp q hq))
    obtain ⟨A1, B1⟩ := RelA.leave (hid := { c.hid with hid := (C, oC) :: (D', LCg.lst ys) :: c.hid.hid, kp := kp0 ++ c.hid.kp }) (q := (I, oI)) R4.abs (hk1 nI)
    obtain ⟨A2, B2⟩ := RelA.leave (hid := { c.hid with hid := (D', LCg.lst ys) :: c.hid.hid, kp := kp0 ++ c.hid.kp }) (q := (C, oC)) A1 (hk1 nC)
    obtain ⟨A3, B3⟩ := RelA.leave (hid := { c.hid with kp := kp0 ++ c.hid.kp }) (q := (D', LCg.lst ys)) A2 (hk1 nD)
    have C1 := notSub B1 (H' := c.hid.hid) fun q hq => .tail _ (.tail _ hq)
    have C2 := notSub B2 (H' := c.hid.hid) fun q hq => .tail _ hq
    refine LCg.CompEnd.intro (s₁ := stt s h tk) R4.fr R4.nws (nw' ++ c.hid.hid) midSub.2 (LCg.Off3.of fun q hq => ⟨fun z => C1 (adr_of hq z), fun z => C2 (adr_of hq z), fun z => B3 (adr_of hq z)⟩) (hS _ fun q hq => A3.kp q (List.mem_append_left _ hq)) ?_
    exact comp_sound D O hok H R0 hS hP k (ysv := ysv ++ [y1]) q2 (by rw [ey, List.append_assoc]; rfl) (fun j => by have := hr (j + 1); rw [List.getElem?_cons_succ] at this; rw [this]; congr 1; omega) ((hy.up X4).append (.cons hyv .nil)) A3 (X0.trans X4)
theorem finE {h₀ : Heap} {hid : Hid} {L : Addr} {σ : SS} {s : Shared} {yall : List SV} {Q : Value → Shared → Prop} {ys : List Value} {nw : Led} (R : RelA hid σ m nw) (hy : All2 (RV (adrs nw)) yall ys)
    (k : ∀ h' tk nw' D, Rel hid h₀ L { σ with objs := σ.objs.push (.list yall) } h' m nw' → Ext nw nw' → RV (adrs nw') (.own σ.objs.n) (.ref D) → Q (.ref D) (stt s h' tk)) : LCg.FinE h₀ L m s Q ys (nw ++ hid.hid) := by
  intro D h tk F N off
  have R2 := R.push (a := D) (o := LCg.lst ys) (so := .list yall) (off1Not off) ⟨ys, ys.length, rfl, hy⟩
  refine k h tk _ D (R2.on F fun q hq => N q ?_) .push ?_
  · rcases List.mem_append.mp hq with z | z
    · rcases List.mem_append.mp z with z | z
      · exact .tail _ (List.mem_append_left _ z)
      · rcases List.mem_singleton.mp z with rfl; exact .head _
    · exact .tail _ (List.mem_append_right _ z)
  · have hl : σ.objs.n = nw.length := R.ro.len
    exact ⟨D, by rw [hl]; exact at_len, rfl⟩
theorem finA {h₀ : Heap} {hid : Hid} {L : Addr} {σ : SS} {s : Shared} {y : Str} {yall : List SV} {Q : Flow → Shared → Prop} {ys : List Value} {nw : Led} (R : RelA hid σ m nw) (hy : All2 (RV (adrs nw)) yall ys)
    (k : ∀ h' tk m' nw', Rel hid h₀ L { σ with objs := σ.objs.push (.list yall), loc := (y, .own σ.objs.n) :: σ.loc } h' m' nw' → Ext nw nw' → Q .next (stt s h' tk)) : LCg.FinA h₀ L m s y Q ys (nw ++ hid.hid) := by
  intro D h tk F N off
  have R2 := R.push (a := D) (o := LCg.lst ys) (so := .list yall) (off1Not off) ⟨ys, ys.length, rfl, hy⟩
  have hl : σ.objs.n = nw.length := R.ro.len
  have hD : RV (adrs (nw ++ [(D, LCg.lst ys)])) (.own σ.objs.n) (.ref D) := ⟨D, by rw [hl]; exact at_len, rfl⟩
  refine k h tk _ _ ⟨F, fun q hq => N q ?_, R2.nd, R2.ro, fun z sw q => ?_, R2.kp, R2.fz⟩ .push
  · rcases List.mem_append.mp hq with z | z
    · rcases List.mem_append.mp z with z | z
      · exact .tail _ (List.mem_append_left _ z)
      · rcases List.mem_singleton.mp z with rfl; exact .head _
    · exact .tail _ (List.mem_append_right _ z)
  · have q' : (match z == y with | true => some (SV.own σ.objs.n) | false => σ.loc.lookup z) = some sw := q
    by_cases h : z = y
    · subst h
      rw [beq_self_eq_true] at q'
      cases q'
      exact ⟨_, if_pos rfl, hD⟩
    · rw [beq_eq_false_iff_ne.mpr h] at q'
      obtain ⟨v', h1, h2⟩ := R2.rm z sw q'
      exact ⟨v', (if_neg h).trans h1, h2⟩
/-! the source, and the whole -/
noncomputable def rints (a : Int) : Nat → List SV
  | 0 => []
  | j + 1 => .int a :: rints (a + 1) j
theorem rints_len : ∀ {j : Nat} {a : Int}, (rints a j).length = j
  | 0, _ => rfl
  | j + 1, a => congrArg Nat.succ rints_len
theorem rints_get : ∀ {j i : Nat} {a : Int} {sv : SV}, (rints a j)[i]? = some sv → sv = .int (a + (i : Int))
  | 0, _, _, _, h => by cases h
  | j + 1, 0, a, sv, h => by cases h; rw [show a + ((0 : Nat) : Int) = a by omega]
  | j + 1, i + 1, a, sv, h => by rw [rints_get (j := j) (i := i) (a := a + 1) h]; congr 1; omega
/-- the list that a comprehension makes -/
noncomputable def compOf (K : Frag) (nx : Addr) (ev : EvT) (cs : PySem.Scope) (σ : SS) (elt : Expr) (x : Str) (iter : Expr) (scope : PySem.Scope) : Option (List SV × SS) := whenS (compOk cs scope x) (orS
  ((rangeArgs K ev cs σ iter).bind fun r => whenS (decide (r.2.1 ≤ 1000)) ((compL K nx (cnS K scope.names cs) x elt r.2.2 (rints r.1 r.2.1)).map fun q => (q.1, { q.2 with frz := r.2.2.frz })))
  (whenS (notSet iter) ((ev cs σ iter).bind fun q => (listAt q.2 q.1).bind fun l => whenS (decide (l.2.length ≤ 1000)) ((compL K nx (cnS K scope.names cs) x elt { q.2 with frz := l.1 :: q.2.frz } l.2).map fun r => (r.1, { r.2 with frz := q.2.frz })))))
theorem compOf_sound (V : EvOk prog w K p loose (n + 1) ev) (D : DrawOk prog w K p loose nx) (O : c.Ok prog w K p loose (n + 1)) {elt iter : Expr} {x : Str} {scope : PySem.Scope} {σ σ' : SS} {ys : List SV} {nw : Led} {s : Shared} {Fin : Shared → List Value → Led → Prop} {cl : List (Str × Addr)} (H : ClOf c scope.names cl) (h : compOf K nx ev c.cs σ elt x iter scope = some (ys, σ')) (R : Rel c.hid c.h₀ c.L σ s.heap m nw)
    (k : ∀ h' tk ys' nw', RelA c.hid σ' m nw' → Ext nw nw' → All2 (RV (adrs nw')) ys ys' → Fin (stt s h' tk) ys' (nw' ++ c.hid.hid)) :
    wpAny (model prog w) c.A (eval iter c.env) (LCg.CompSrc prog w c.A c.h₀ c.L m c.env elt x scope cl Fin) E s ∧ ∀ z, foldedSetIterable iter c.env z = pure z := by
  obtain ⟨h0, h⟩ := whenS_of h
  rcases orS_of h with h | h
  · obtain ⟨⟨a, j, σ₁⟩, q1, h⟩ := bindS h
    obtain ⟨q2, h⟩ := whenS_of h
    obtain ⟨⟨ys0, σ₂⟩, q3, h⟩ := mapS h
    cases h
    have z := rangeArgs_sound (E := E) (Q := LCg.CompSrc prog w c.A c.h₀ c.L m c.env elt x scope cl Fin) V O q1 R fun h' tk nw' r b t u v g3 g6 g7 _ R1 X1 => by
      refine LCg.CompSrc.range (s₁ := stt s h' tk) O.hd R1.fr R1.nws g3 g6 g7 (by rw [sizeLine_eq]; have q2 : j ≤ 1000 := of_decide_eq_true q2; omega) fun g => ?_
      have e := comp_sound (s := { stt s h' tk with heap := g }) (S := fun _ => True) (P := fun i v => ∃ t, v = .int (a + (i : Int)) t) (Fin := Fin { stt s h' tk with heap := g }) (kp0 := []) (src := rints a j) (σ0 := σ₁) (nw0 := nw') D O h0 H R1.abs (fun _ _ => trivial) (fun i v sv e1 e2 => by rw [rints_get e1]; exact e2) (fun ys' nw'' RA X'' hy' => k _ _ ys' nw'' RA (X1.trans X'') hy') (i := 0) (ysv := []) (ys := []) q3 rfl (fun j => by rw [Nat.zero_add]) .nil R1.abs .refl
      rw [rints_len] at e
      exact e
    exact ⟨z.1, z.2 _⟩
  · obtain ⟨q0, h⟩ := whenS_of h
    obtain ⟨⟨a, σ₁⟩, q1, h⟩ := bindS h
    obtain ⟨⟨i, l⟩, q2, h⟩ := bindS h
    obtain ⟨q3, h⟩ := whenS_of h
    obtain ⟨⟨ys0, σ₂⟩, q4, h⟩ := mapS h
    cases h
    refine ⟨V c σ iter _ σ₁ q1 O m nw s _ _ R fun h' tk nw' y R' X' hy => ?_, set_no q0⟩
    obtain ⟨d, us, k3, rfl, _, _, g1, g4, g5⟩ := R'.listAt q2 hy
    have q3 : l.length ≤ 1000 := of_decide_eq_true q3
    have hl : us.toArray.size = l.length := by rw [g5.length]; simp
    refine LCg.CompSrc.ledger (s₁ := stt s h' tk) O.hd R'.fr R'.nws g4 (by rw [sizeLine_eq, hl]; omega) fun g => ?_
    rw [hl]
    exact comp_sound (s := { stt s h' tk with heap := g }) (kp0 := [(d, listOf us.toArray k3)]) (src := l) (σ0 := σ₁) (nw0 := nw') D O h0 H R'.abs (fun H hH => .inr ⟨_, hH _ (.head _), rfl, k3, rfl⟩) (fun i v sv e1 e2 => by
      obtain ⟨u, z1, z2⟩ := g5.get e1
      have e2 : us.toArray[i]? = some v := e2
      rw [List.getElem?_toArray, z1] at e2
      cases e2
      exact z2) (fun ys' nw'' RA X'' hy' => k _ _ ys' nw'' RA (X'.trans X'') hy') (i := 0) (ysv := []) (ys := []) q4 rfl (fun j => by rw [Nat.zero_add]) .nil (R'.abs.keep g1) .refl
noncomputable def compPart : Expr → Option (Expr × Expr × Expr × PySem.Scope × Pos)
  | .ListComp elt [⟨t, iter, [], 0⟩] scope pos => some (elt, t, iter, scope, pos)
  | _ => none
theorem compPart_eq {e : Expr} {q : Expr × Expr × Expr × PySem.Scope × Pos} (h : compPart e = some q) : e = .ListComp q.1 [⟨q.2.1, q.2.2.1, [], 0⟩] q.2.2.2.1 q.2.2.2.2 := by
  cases e <;> first | (cases h; done) | skip
  case ListComp elt gs scope pos =>
    match gs, h with
    | [⟨t, iter, [], 0⟩], h => cases h; rfl
theorem all_of {cs scope : PySem.Scope} {x : Str} (h : compOk cs scope x = true) : scope.kind = .function ∧ scope.names.lookup x = some .local ∧ (∀ y ∈ scope.names, y.2 ≠ .cell) ∧ ∀ y ∈ scope.names, y.2 = .local → scope.names.lookup y.1 = some .local := by
  obtain ⟨h0, _⟩ := andT h
  obtain ⟨h0, ha⟩ := andT h0
  obtain ⟨h0, hx⟩ := andT h0
  obtain ⟨hk, _⟩ := andT h0
  refine ⟨of_decide_eq_true hk, of_decide_eq_true hx, fun y hy => ?_, fun y hy e => ?_⟩
  · exact of_decide_eq_false (notT (andT (List.all_eq_true.mp ha y hy)).1)
  · have := (andT (List.all_eq_true.mp ha y hy)).2
    rw [decide_eq_true e] at this
    exact of_decide_eq_true this
noncomputable def compE (K : Frag) (nx : Addr) (ev : EvT) : EvT := fun cs σ e => (compPart e).bind fun g => (nameE g.2.1).bind fun x => (compOf K nx ev cs σ g.1 x g.2.2.1 g.2.2.2.1).map fun q => (.own q.2.objs.n, { q.2 with objs := q.2.objs.push (.list q.1) })
theorem compE_sound (V : EvOk prog w K p loose (n + 1) ev) (D : DrawOk prog w K p loose nx) : EvOk prog w K p loose (n + 1) (compE K nx ev) := by
  intro c σ e v σ' h O m nw s Q E R k
  obtain ⟨⟨elt, t, iter, scope, pos⟩, q1, h1⟩ := bindS h
  obtain ⟨x, q2, h2⟩ := bindS h1
  obtain ⟨⟨ys, σ₁⟩, q3, h3⟩ := mapS h2
  clear h h1 h2
  cases h3
  obtain ⟨px, e1⟩ := nameE_eq q2
  rw [compPart_eq q1, show t = .Name x px from e1]
  obtain ⟨h0, _⟩ := whenS_of q3
  obtain ⟨a1, a2, a3, a4⟩ := all_of h0
  obtain ⟨cl, g1, g2⟩ := closure_ok O h0
  have z := compOf_sound (E := E) V D O g2 q3 R (Fin := fun s₂ => LCg.FinE c.h₀ c.L m s₂ Q) fun h' tk ys' nw' RA X' hy' => finE RA hy' fun h'' tk'' nw'' D R'' X3 hD => k h'' tk'' nw'' _ R'' (X'.trans X3) hD
  exact LCg.ListComp_U R.fr g1 a3 a1 a4 a2 z.1 z.2
/-- a name bound to a comprehension -/
noncomputable def asgPart : Stmt → Option (Expr × Expr × Pos)
  | .Assign [t] v p => some (t, v, p)
  | _ => none
theorem asgPart_eq {e : Stmt} {q : Expr × Expr × Pos} (h : asgPart e = some q) : e = .Assign [q.1] q.2.1 q.2.2 := by
  cases e <;> first | (cases h; done) | skip
  case Assign ts v p =>
    match ts, h with
    | [t], h => cases h; rfl
noncomputable def swapC (cs scope : PySem.Scope) (y : Str × Pos) (pos : Pos) : Bool := decide (cs.names.lookup y.1 = some .local) && (y.2.line == pos.line) && !(scope.names.any fun q => q.1 == y.1 && (q.2 == NameKind.local || q.2 == NameKind.cell))
noncomputable def compA (K : Frag) (nx : Addr) (ev : EvT) : StT := fun cs σ st => (asgPart st).bind fun a => (namePos a.1).bind fun y => (compPart a.2.1).bind fun g => (nameE g.2.1).bind fun x => whenS (swapC cs g.2.2.2.1 y g.2.2.2.2)
  ((compOf K nx ev cs σ g.1 x g.2.2.1 g.2.2.2.1).map fun q => (.next, { q.2 with objs := q.2.objs.push (.list q.1), loc := (y.1, .own q.2.objs.n) :: q.2.loc }))
theorem compA_sound (V : EvOk prog w K p loose (n + 1) ev) (D : DrawOk prog w K p loose nx) : StOk prog w K p loose (n + 1) (compA K nx ev) := by
  intro c σ st fl σ' h O m nw s Q E hE R k
  obtain ⟨⟨t, v, spos⟩, q1, h1⟩ := bindS h
  obtain ⟨⟨y, yp⟩, q2, h2⟩ := bindS h1
  obtain ⟨⟨elt, t', iter, scope, pos⟩, q3, h3⟩ := bindS h2
  obtain ⟨x, q4, h4⟩ := bindS h3
  obtain ⟨q5, h5⟩ := whenS_of h4
  obtain ⟨⟨ys, σ₁⟩, q6, h6⟩ := mapS h5
  clear h h1 h2 h3 h4 h5
  cases h6
  obtain ⟨px, e1⟩ := nameE_eq q4
  rw [asgPart_eq q1, show t = .Name y yp from namePos_eq q2, show v = _ from compPart_eq q3, show t' = .Name x px from e1]
  obtain ⟨h0, _⟩ := whenS_of q6
  obtain ⟨a1, a2, a3, a4⟩ := all_of h0
  obtain ⟨cl, g1, g2⟩ := closure_ok O h0
  obtain ⟨q5, h7⟩ := andT q5
  obtain ⟨h5, h6⟩ := andT q5
  have h5 : c.cs.names.lookup y = some .local := of_decide_eq_true h5
  have z := compOf_sound (E := E) V D O g2 q6 R (Fin := fun s₂ => LCg.FinA c.h₀ c.L m s₂ y Q) fun h' tk ys' nw' RA X' hy' => finA RA hy' fun h'' tk'' m' nw'' R'' X3 => k h'' tk'' m' nw'' _ R'' (X'.trans X3) rfl
  refine LCg.Assign_ListComp_U R.fr rfl ?_ g1 a3 a1 a4 a2 h5 (by show (c.cs.kind == .class || c.cs.kind == .module && _) = false; rw [O.kd]; rfl) z.1 z.2
  have e1 : (c.env.blockKind == .function) = true := by
    unfold Env.blockKind
    rw [show c.env.scope.kind = .function from O.kd]
    rfl
  have e2 : (c.env.kindOf y == some .local) = true := by
    rw [show c.env.kindOf y = some .local from h5]; rfl
  unfold swapsWith
  simp only [e1, e2]
  show (pure (true && true && (yp.line == pos.line) && !(scope.names.any fun q => q.1 == y && (q.2 == NameKind.local || q.2 == NameKind.cell))) : Sem Bool) = pure true
  rw [show (yp.line == pos.line) = true from h6, show (!(scope.names.any fun q => q.1 == y && (q.2 == NameKind.local || q.2 == NameKind.cell))) = true from h7]
  rfl
end
end Vx
end
section
open PySem PySem.W PySem.Calls PyProof.Rows
namespace Mz
abbrev Led := List (Addr × Obj)
abbrev Trip (h : Heap) (T : Addr) (a b c : Value) : Prop := h.get? T = some { cls := .type "tuple", data := .seq #[a, b, c] }
theorem newCall_zip_3 (a b c : Value) : checkBuiltinCall "zip.__new__" ⟨[.type "zip", a, b, c], []⟩ = pure () := by kernel_rfl
theorem typeCall_zip_3 (a b c : Value) : checkTypeCall "zip" ⟨[a, b, c], []⟩ = pure () := by kernel_rfl
theorem args_init_4 (a b c d : Value) : argsOk "object.__init__" ⟨[a, b, c, d], []⟩ := by
  unfold argsOk; rw [signature?_of (id := "object.__init__") (n := ['_', '_', 't', 'i', 'n', 'i', '_', '_']) (o := ['t', 'c', 'e', 'j', 'b', 'o']) (by kernel_rfl) PySem.F.owner_object]; kernel_rfl
/-- where the parts of a zip over two lists and a range stand: from b on, in the order in which they are made -/
structure ZS (b l1 l2 : Nat) (xs ys : Array Value) (n : Nat) (f0 : Value) (i : Nat) (h : Heap) : Prop where
  z : IsZip h (b + 5) (b + 3) (b + 4) f0
  ti : Trip h (b + 3) (.ref b) (.ref (b + 1 : Nat)) (.ref (b + 2 : Nat))
  to : ∃ p q r, Trip h (b + 4) p q r
  i1 : h.IsListIter b l1 i
  i2 : h.IsListIter (b + 1) l2 i
  i3 : IsRangeIter h (b + 2) (i : Int) ((n : Int) - i) 1
  a1 : h.IsList l1 xs
  a2 : h.IsList l2 ys
section
variable {prog : Program} {w : World} {A : Around} {E : Value → Shared → Prop} {s : Shared}
theorem updTrip {T : Addr} {a b c x : Value} {k : Nat} {Q : Unit → Shared → Prop} (hT : Trip s.heap T a b c)
    (h : ∀ h', h'.get? T = some { cls := .type "tuple", data := .seq ((#[a, b, c] : Array Value).setIfInBounds k x) } → Heap.SameBut T s.heap h' → Q () { s with heap := h' }) :
    wpAny (model prog w) A (updateSeq T (·.setIfInBounds k x)) Q E s := by
  refine wpAny_updateSeq hT rfl (h _ ?_ (Heap.SameBut.update ..))
  rw [Heap.get?_update_self _ hT rfl]
  simp [Obj.mapSeq]
theorem nextRange {it : Addr} {x left : Int} {Q : Value → Shared → Prop} (hit : IsRangeIter s.heap it x left 1) (hleft : 0 < left)
    (hQ : ∀ h', IsRangeIter h' it (x + 1) (left - 1) 1 → Heap.SameBut it s.heap h' → Q (.int x s.toks) { s with heap := h', toks := s.toks + 1 }) :
    wpAny (model prog w) A (Builtin.SmallTypes.nextOf (.ref it)) Q E s := by
  have hT : s.TypeIs (.ref it) "range_iterator" := ⟨_, hit, rfl⟩
  unfold Builtin.SmallTypes.nextOf
  refine wpAny_bind (wpAny_callSpecial?_slot (name := Str.ofString "__next__") hT PySem.F.slot_range_iterator_next
    (call_meets PySem.F.slot_range_iterator_next hT PySem.F.entry_range_iterator_next (PySem.F.args_range_iterator_next_1 _) (AutoRange.range_iterator___next___range_iterator_1 it x left 1 (by omega)) ⟨hit, ?_⟩))
  exact wpAny_pure (hQ _ (Heap.get?_update_self _ (Heap.get?_update_self _ hit rfl) rfl) ((Heap.SameBut.update ..).trans (Heap.SameBut.update ..)))
theorem z3_raw {b l1 l2 : Nat} {xs ys : Array Value} {n i : Nat} {x y : Value} {Q : Value → Shared → Prop} (h1 : l1 < b) (h2 : l2 < b) (Z : ZS b l1 l2 xs ys n .none i s.heap) (hx : xs[i]? = some x) (hy : ys[i]? = some y) (hi : i < n)
    (hQ : ∀ h', ZS b l1 l2 xs ys n (rawInt s.heap.objs.size) (i + 1) h' → Trip h' s.heap.objs.size x y (.int i s.toks) →
      (∀ c o, c ∉ [b + 5, b + 4, b, b + 1, b + 2] → s.heap.get? c = some o → h'.get? c = some o) → Q (.ref s.heap.objs.size) { s with heap := h', toks := s.toks + 1 }) :
    wpAny (model prog w) A (Builtin.«zip.__next__» ⟨[.ref (b + 5 : Nat)], []⟩) (fun fin s' => ∃ v, fin = .done (.ret v) ∧ Q v s') E s := by
  obtain ⟨hz, hTI, ⟨p, q, r, hTO⟩, j1, j2, j3, a1, a2⟩ := Z
  show wpAny _ _ (field (.ref (b + 5 : Nat)) 2 >>= _) _ _ _
  refine wpAny_bind (wpAny_field hz rfl (x := .bool false) rfl ?_)
  show wpAny _ _ (field (.ref (b + 5 : Nat)) 3 >>= _) _ _ _
  refine wpAny_bind (wpAny_field hz rfl (x := .ref (b + 3 : Nat)) rfl ?_)
  refine wpAny_bind (wpAny_seqItems hTI rfl ?_)
  show wpAny _ _ (Builtin.SmallTypes.ownedTupleIsFree (.ref (b + 5 : Nat)) >>= _) _ _ _
  refine wpAny_bind ?_
  unfold Builtin.SmallTypes.ownedTupleIsFree
  refine wpAny_bind (wpAny_field hz rfl (x := .none) rfl (wpAny_pure ?_))
  simp only [if_true]
  refine wpAny_bind (wpAny_rule ?_)
  refine wpAny_bind (wpAny_field hz rfl (x := .ref (b + 4 : Nat)) rfl ?_)
  refine wpAny_bind (wpAny_setField_rec hz (by simp) fun g1 hz1 s1 => ?_)
  replace hz1 : IsZip g1 (b + 5) (b + 3) (b + 4) .ellipsis := hz1
  refine wpAny_bind ?_
  simp only [List.zipIdx_cons, List.zipIdx_nil, List.forIn_cons, List.forIn_nil]
  -- the first
  refine wpAny_bind (wpAny_bind (wpAny_onRaise ?_))
  show wpAny _ _ (Builtin.SmallTypes.nextOf (.ref b) >>= _) _ _ _
  refine wpAny_bind (wpAny_nextOf_list_item (j1.extBut s1.extBut (neN (by omega))) (a1.extBut s1.extBut (neN (by omega))) hx fun g2 k1 s2 => wpAny_pure ?_)
  have t2 : Trip g2 (b + 4) p q r := s2.extBut _ _ (neN (by omega)) (s1.extBut _ _ (neN (by omega)) hTO)
  refine wpAny_bind (wpAny_seqItems t2 rfl ?_)
  refine wpAny_bind (updTrip t2 fun g3 t3 s3 => ?_)
  replace t3 : Trip g3 (b + 4) x q r := t3
  refine wpAny_bind (wpAny_letGo (wpAny_pure ?_))
  -- the second
  refine wpAny_bind (wpAny_bind (wpAny_onRaise ?_))
  show wpAny _ _ (Builtin.SmallTypes.nextOf (.ref (b + 1 : Nat)) >>= _) _ _ _
  refine wpAny_bind (wpAny_nextOf_list_item (((j2.extBut s1.extBut (neN (by omega))).extBut s2.extBut (neN (by omega))).extBut s3.extBut (neN (by omega)))
    (((a2.extBut s1.extBut (neN (by omega))).extBut s2.extBut (neN (by omega))).extBut s3.extBut (neN (by omega))) hy fun g4 k2 s4 => wpAny_pure ?_)
  have t4 : Trip g4 (b + 4) x q r := s4.extBut _ _ (neN (by omega)) t3
  refine wpAny_bind (wpAny_seqItems t4 rfl ?_)
  refine wpAny_bind (updTrip t4 fun g5 t5 s5 => ?_)
  replace t5 : Trip g5 (b + 4) x y r := t5
  refine wpAny_bind (wpAny_letGo (wpAny_pure ?_))
  -- the third
  refine wpAny_bind (wpAny_bind (wpAny_onRaise ?_))
  show wpAny _ _ (Builtin.SmallTypes.nextOf (.ref (b + 2 : Nat)) >>= _) _ _ _
  have k3 : IsRangeIter g5 (b + 2) (i : Int) ((n : Int) - i) 1 := s5.extBut _ _ (neN (by omega)) (s4.extBut _ _ (neN (by omega)) (s3.extBut _ _ (neN (by omega)) (s2.extBut _ _ (neN (by omega)) (s1.extBut _ _ (neN (by omega)) j3))))
  refine wpAny_bind (nextRange k3 (by omega) fun g6 m3 s6 => wpAny_pure ?_)
  have t6 : Trip g6 (b + 4) x y r := s6.extBut _ _ (neN (by omega)) t5
  refine wpAny_bind (wpAny_seqItems t6 rfl ?_)
  refine wpAny_bind (updTrip t6 fun g7 t7 s7 => ?_)
  replace t7 : Trip g7 (b + 4) x y (.int i s.toks) := t7
  refine wpAny_bind (wpAny_letGo (wpAny_pure (wpAny_pure ?_)))
  -- the tuple that is handed out
  refine wpAny_bind (wpAny_seqItems t7 rfl ?_)
  refine wpAny_bind (wpAny_newTuple ?_)
  have hsz : g7.objs.size = s.heap.objs.size := by rw [s7.1, s6.1, s5.1, s4.1, s3.1, s2.1, s1.1]
  have hz7 : IsZip g7 (b + 5) (b + 3) (b + 4) .ellipsis := s7.extBut _ _ (neN (by omega)) (s6.extBut _ _ (neN (by omega)) (s5.extBut _ _ (neN (by omega)) (s4.extBut _ _ (neN (by omega)) (s3.extBut _ _ (neN (by omega)) (s2.extBut _ _ (neN (by omega)) hz1)))))
  have keep7 : ∀ c o, c ≠ b + 5 → c ≠ b + 4 → c ≠ b → c ≠ b + 1 → c ≠ b + 2 → s.heap.get? c = some o → g7.get? c = some o := fun c o c1 c2 c3 c4 c5 e =>
    s7.extBut _ _ c2 (s6.extBut _ _ c5 (s5.extBut _ _ c2 (s4.extBut _ _ c4 (s3.extBut _ _ c2 (s2.extBut _ _ c3 (s1.extBut _ _ c1 e))))))
  have q1 : g7.IsListIter b l1 (i + 1) := ((((k1.extBut s3.extBut (neN (by omega))).extBut s4.extBut (neN (by omega))).extBut s5.extBut (neN (by omega))).extBut s6.extBut (neN (by omega))).extBut s7.extBut (neN (by omega))
  have q2 : g7.IsListIter (b + 1) l2 (i + 1) := ((k2.extBut s5.extBut (neN (by omega))).extBut s6.extBut (neN (by omega))).extBut s7.extBut (neN (by omega))
  have q3 : IsRangeIter g7 (b + 2) ((i : Int) + 1) ((n : Int) - i - 1) 1 := s7.extBut _ _ (neN (by omega)) m3
  have hzlt : b + 5 < g7.objs.size := Heap.lt_size hz7
  show wpAny _ _ (Builtin.SmallTypes.ownedTupleHandOut (.ref (b + 5 : Nat)) (.ref g7.objs.size) >>= _) _ _ _
  refine wpAny_bind ?_
  unfold Builtin.SmallTypes.ownedTupleHandOut
  have hz8 : IsZip (g7.push { cls := .type "tuple", data := .seq #[x, y, .int i s.toks] }) (b + 5) (b + 3) (b + 4) .ellipsis := Heap.get?_push_of_some _ hz7
  refine wpAny_bind (wpAny_setField_rec hz8 (by simp) fun g9 hz9 s9 => ?_)
  replace hz9 : IsZip g9 (b + 5) (b + 3) (b + 4) (rawInt g7.objs.size) := hz9
  refine wpAny_setField_rec hz9 (by simp) fun g10 hz10 s10 => ?_
  replace hz10 : IsZip g10 (b + 5) (b + 3) (b + 4) (rawInt g7.objs.size) := hz10
  have up : ∀ c o, c ≠ b + 5 → g7.get? c = some o → g10.get? c = some o := fun c o c1 e => s10.extBut _ _ c1 (s9.extBut _ _ c1 (Heap.get?_push_of_some _ e))
  have hT10 : Trip g10 g7.objs.size x y (.int i s.toks) := s10.extBut _ _ (Nat.ne_of_gt hzlt) (s9.extBut _ _ (Nat.ne_of_gt hzlt) (Heap.get?_push_size _ rfl))
  rw [hsz] at hz10 hT10
  refine wpAny_pure ⟨_, rfl, ?_⟩
  show Q (.ref g7.objs.size) _
  rw [hsz]
  refine hQ g10 ⟨hz10, up _ _ (neN (by omega)) (keep7 _ _ (neN (by omega)) (neN (by omega)) (neN (by omega)) (neN (by omega)) (neN (by omega)) hTI), ⟨_, _, _, up _ _ (neN (by omega)) t7⟩, q1.at fun o e => up _ o (neN (by omega)) e, q2.at fun o e => up _ o (neN (by omega)) e,
    ?_, a1.at fun o e => up _ o (neN (by omega)) (keep7 _ _ (neN (by omega)) (neN (by omega)) (neN (by omega)) (neN (by omega)) (neN (by omega)) e), a2.at fun o e => up _ o (neN (by omega)) (keep7 _ _ (neN (by omega)) (neN (by omega)) (neN (by omega)) (neN (by omega)) (neN (by omega)) e)⟩ hT10 ?_
  · have := up _ _ (neN (by omega)) q3
    rw [show ((i + 1 : Nat) : Int) = (i : Int) + 1 by omega, show (n : Int) - ((i : Int) + 1) = (n : Int) - i - 1 by omega]
    exact this
  · intro c o hc e
    simp only [List.mem_cons, List.not_mem_nil, or_false, not_or] at hc
    exact up _ _ hc.1 (keep7 _ _ hc.1 hc.2.1 hc.2.2.1 hc.2.2.2.1 hc.2.2.2.2 e)
theorem z3_rawEnd {b l1 l2 : Nat} {xs ys : Array Value} {n i : Nat} {Q : Fin → Shared → Prop} (hh : A.handled = none) (h1 : l1 < b) (Z : ZS b l1 l2 xs ys n .none i s.heap) (hx : xs[i]? = none)
    (hE : ∀ h' e, (∀ c o, c ∉ [b + 5, b + 4, b, b + 1, b + 2] → s.heap.get? c = some o → h'.get? c = some o) → (∃ o, h'.get? e = some o ∧ o.cls = .type "StopIteration") → E (.ref e) { s with heap := h' }) :
    wpAny (model prog w) A (Builtin.«zip.__next__» ⟨[.ref (b + 5 : Nat)], []⟩) Q E s := by
  obtain ⟨hz, hTI, ⟨p, q, r, hTO⟩, j1, j2, j3, a1, a2⟩ := Z
  show wpAny _ _ (field (.ref (b + 5 : Nat)) 2 >>= _) _ _ _
  refine wpAny_bind (wpAny_field hz rfl (x := .bool false) rfl ?_)
  show wpAny _ _ (field (.ref (b + 5 : Nat)) 3 >>= _) _ _ _
  refine wpAny_bind (wpAny_field hz rfl (x := .ref (b + 3 : Nat)) rfl ?_)
  refine wpAny_bind (wpAny_seqItems hTI rfl ?_)
  show wpAny _ _ (Builtin.SmallTypes.ownedTupleIsFree (.ref (b + 5 : Nat)) >>= _) _ _ _
  refine wpAny_bind ?_
  unfold Builtin.SmallTypes.ownedTupleIsFree
  refine wpAny_bind (wpAny_field hz rfl (x := .none) rfl (wpAny_pure ?_))
  simp only [if_true]
  refine wpAny_bind (wpAny_rule ?_)
  refine wpAny_bind (wpAny_field hz rfl (x := .ref (b + 4 : Nat)) rfl ?_)
  refine wpAny_bind (wpAny_setField_rec hz (by simp) fun g1 hz1 s1 => ?_)
  replace hz1 : IsZip g1 (b + 5) (b + 3) (b + 4) .ellipsis := hz1
  refine wpAny_bind ?_
  simp only [List.zipIdx_cons, List.zipIdx_nil, List.forIn_cons, List.forIn_nil]
  refine wpAny_bind (wpAny_bind (wpAny_onRaise ?_))
  show wpAny _ _ (Builtin.SmallTypes.nextOf (.ref b) >>= _) _ _ _
  refine wpAny_bind (wpAny_nextOf_list_end hh (j1.extBut s1.extBut (neN (by omega))) (a1.extBut s1.extBut (neN (by omega))) hx fun g2 e s2 he => ?_)
  obtain ⟨oe, hoe, hce⟩ := he
  have hz2 : IsZip g2 (b + 5) (b + 3) (b + 4) .ellipsis := s2 _ _ (neN (by omega)) hz1
  have hez : e ≠ b + 5 := fun x => by
    rw [x] at hoe
    have : oe = _ := Option.some.inj (hoe.symm.trans hz2)
    rw [this] at hce
    exact absurd hce (by simp)
  refine wpAny_setField_rec hz2 (by simp) fun g3 _ s3 => hE g3 e (fun c o hc x => ?_) ⟨oe, s3.extBut _ _ hez hoe, hce⟩
  simp only [List.mem_cons, List.not_mem_nil, or_false, not_or] at hc
  exact s3.extBut _ _ hc.1 (s2 _ _ hc.2.2.1 (s1.extBut _ _ hc.1 x))
theorem z3_item {b l1 l2 : Nat} {xs ys : Array Value} {n i : Nat} {x y : Value} {Q : Option Value → Shared → Prop} (h1 : l1 < b) (h2 : l2 < b) (Z : ZS b l1 l2 xs ys n .none i s.heap) (hx : xs[i]? = some x) (hy : ys[i]? = some y) (hi : i < n)
    (hQ : ∀ h', ZS b l1 l2 xs ys n (rawInt s.heap.objs.size) (i + 1) h' → Trip h' s.heap.objs.size x y (.int i s.toks) →
      (∀ c o, c ∉ [b + 5, b + 4, b, b + 1, b + 2] → s.heap.get? c = some o → h'.get? c = some o) → Q (some (.ref s.heap.objs.size)) { s with heap := h', toks := s.toks + 1 }) :
    wpAny (model prog w) A (pyNext (.ref (b + 5 : Nat))) Q E s := by
  have hT : s.TypeIs (.ref (b + 5 : Nat)) "zip" := ⟨_, Z.z, rfl⟩
  unfold pyNext
  exact wpAny_bind (wpAny_attempt (wpAny_callSpecial?_slot (name := Str.ofString "__next__") hT PySem.F.slot_zip_next
    (wpAny_call_entry PySem.F.slot_zip_next hT PySem.F.entry_zip_next
      (z3_raw h1 h2 Z hx hy hi fun h' a b c => wpAny_pure (hQ h' a b c)) (PySem.F.args_zip_next_1 _))))
theorem z3_end {b l1 l2 : Nat} {xs ys : Array Value} {n i : Nat} {Q : Option Value → Shared → Prop} (hh : A.handled = none) (h1 : l1 < b) (Z : ZS b l1 l2 xs ys n .none i s.heap) (hx : xs[i]? = none)
    (hQ : ∀ h', (∀ c o, c ∉ [b + 5, b + 4, b, b + 1, b + 2] → s.heap.get? c = some o → h'.get? c = some o) → Q none { s with heap := h' }) :
    wpAny (model prog w) A (pyNext (.ref (b + 5 : Nat))) Q E s := by
  have hT : s.TypeIs (.ref (b + 5 : Nat)) "zip" := ⟨_, Z.z, rfl⟩
  unfold pyNext
  refine wpAny_bind (wpAny_attempt (wpAny_callSpecial?_slot (name := Str.ofString "__next__") hT PySem.F.slot_zip_next
    (wpAny_call_entry PySem.F.slot_zip_next hT PySem.F.entry_zip_next (z3_rawEnd hh h1 Z hx fun h' e hk he => ?_) (PySem.F.args_zip_next_1 _))))
  obtain ⟨o, ho, hc⟩ := he
  refine wpAny_bind (wpAny_isInstance (T := "StopIteration") (b := true) ⟨o, ho, hc⟩ isSubtype_stop ?_)
  exact wpAny_pure (hQ _ hk)
end
end Mz
end
section
open PySem PySem.W PySem.Calls PyProof.Rows
namespace Mz
abbrev zh1 (h : Heap) (l1 : Addr) : Heap := h.push { cls := .type "list_iterator", data := .fields #[.ref l1, .int 0 0] }
abbrev zh2 (h : Heap) (l1 l2 : Addr) : Heap := (zh1 h l1).push { cls := .type "list_iterator", data := .fields #[.ref l2, .int 0 0] }
abbrev zh3 (h : Heap) (l1 l2 : Addr) (n : Nat) : Heap := (zh2 h l1 l2).push { cls := .type "range_iterator", data := .fields #[rawInt 0, rawInt (Builtin.Range.rangeSize 0 (n : Int) 1), rawInt 1] }
abbrev zh4 (h : Heap) (l1 l2 : Addr) (n : Nat) : Heap := (zh3 h l1 l2 n).push { cls := .type "tuple", data := .seq #[.ref h.objs.size, .ref (zh1 h l1).objs.size, .ref (zh2 h l1 l2).objs.size] }
abbrev zh5 (h : Heap) (l1 l2 : Addr) (n : Nat) : Heap := (zh4 h l1 l2 n).push { cls := .type "tuple", data := .seq #[.none, .none, .none] }
abbrev zh6 (h : Heap) (l1 l2 : Addr) (n : Nat) : Heap := (zh5 h l1 l2 n).push { cls := .type "zip", data := .fields #[.none, .bool false, .bool false, .ref (zh3 h l1 l2 n).objs.size, .ref (zh4 h l1 l2 n).objs.size] }
set_option maxHeartbeats 4000000 in
theorem meets_zip3 (l1 l2 rg : Addr) (xs ys : Array Value) (n : Nat) (t u v : Tok) (hsm : Builtin.Range.small 0 (n : Int) 1 = true) :
    Meets (Builtin.«zip.__new__» ⟨[.type "zip", .ref l1, .ref l2, .ref rg], []⟩) (fun _ R s => s.heap.IsList l1 xs ∧ s.heap.IsList l2 ys ∧ IsRange s.heap rg 0 (n : Int) 1 t u v ∧
      R (.ok (.ret (.ref (zh5 s.heap l1 l2 n).objs.size))) { s with heap := zh6 s.heap l1 l2 n }) :=
  .of_wp fun prog w A R s h => by
    obtain ⟨hp, g, d, tk, os⟩ := s; obtain ⟨hl1, hl2, hr, h⟩ := h
    have hsub := sub_zip
    have hL1 : Heap.IsList (Shared.heap ⟨hp, g, d, tk, os⟩) l1 xs := hl1
    have hL2 : Heap.IsList (Shared.heap ⟨zh1 hp l1, g, d, tk, os⟩) l2 ys := Heap.IsList.push hl2 _
    have hL3 : IsRange (Shared.heap ⟨zh2 hp l1 l2, g, d, tk, os⟩) rg 0 (n : Int) 1 t u v := Heap.get?_push_of_some _ (Heap.get?_push_of_some _ hr)
    wp_walk using wpAny_pyIter_list hL1, wpAny_pyIter_list hL2, wpAny_pyIter_range hL3 hsm
    exact ⟨_, rfl, h⟩
section
variable {prog : Program} {w : World} {A : Around} {E : Value → Shared → Prop} {s : Shared}
theorem call_zip3 {l1 l2 rg : Addr} {xs ys : Array Value} {n : Nat} {t u v : Tok} {Q : Value → Shared → Prop} (hl1 : s.heap.IsList l1 xs) (hl2 : s.heap.IsList l2 ys) (hr : IsRange s.heap rg 0 (n : Int) 1 t u v) (hsm : Builtin.Range.small 0 (n : Int) 1 = true) (hn : Builtin.Range.rangeSize 0 (n : Int) 1 = (n : Int))
    (h : ∀ h', ZS s.heap.objs.size l1 l2 xs ys n .none 0 h' → (∀ c o, s.heap.get? c = some o → h'.get? c = some o) → Q (.ref (s.heap.objs.size + 5 : Nat)) { s with heap := h' }) :
    wpAny (model prog w) A (call (.type "zip") [.ref l1, .ref l2, .ref rg]) Q E s := by
  refine callType_new PySem.F.called_zip (by decide) (typeCall_zip_3 _ _ _) (newCall_zip_3 _ _ _) (fun obj => args_init_4 obj _ _ _) PySem.F.entry_zip_new
    (meets_zip3 l1 l2 rg xs ys n t u v hsm) ⟨hl1, hl2, hr, ?_⟩
  have e1 : (zh1 s.heap l1).objs.size = s.heap.objs.size + 1 := Heap.size_push ..
  have e2 : (zh2 s.heap l1 l2).objs.size = s.heap.objs.size + 2 := by rw [Heap.size_push, e1]
  have e3 : (zh3 s.heap l1 l2 n).objs.size = s.heap.objs.size + 3 := by rw [Heap.size_push, e2]
  have e4 : (zh4 s.heap l1 l2 n).objs.size = s.heap.objs.size + 4 := by rw [Heap.size_push, e3]
  have e5 : (zh5 s.heap l1 l2 n).objs.size = s.heap.objs.size + 5 := by rw [Heap.size_push, e4]
  have g6 : (zh6 s.heap l1 l2 n).get? (zh5 s.heap l1 l2 n).objs.size = some _ := Heap.get?_push_size _ rfl
  have g5 : (zh6 s.heap l1 l2 n).get? (zh4 s.heap l1 l2 n).objs.size = some _ := Heap.get?_push_of_some _ (Heap.get?_push_size _ rfl)
  have g4 : (zh6 s.heap l1 l2 n).get? (zh3 s.heap l1 l2 n).objs.size = some _ := Heap.get?_push_of_some _ (Heap.get?_push_of_some _ (Heap.get?_push_size _ rfl))
  have g3 : (zh6 s.heap l1 l2 n).get? (zh2 s.heap l1 l2).objs.size = some _ := Heap.get?_push_of_some _ (Heap.get?_push_of_some _ (Heap.get?_push_of_some _ (Heap.get?_push_size _ rfl)))
  have g2 : (zh6 s.heap l1 l2 n).get? (zh1 s.heap l1).objs.size = some _ := Heap.get?_push_of_some _ (Heap.get?_push_of_some _ (Heap.get?_push_of_some _ (Heap.get?_push_of_some _ (Heap.get?_push_size _ rfl))))
  have g1 : (zh6 s.heap l1 l2 n).get? s.heap.objs.size = some _ := Heap.get?_push_of_some _ (Heap.get?_push_of_some _ (Heap.get?_push_of_some _ (Heap.get?_push_of_some _ (Heap.get?_push_of_some _ (Heap.get?_push_size _ rfl)))))
  have up : ∀ c o, s.heap.get? c = some o → (zh6 s.heap l1 l2 n).get? c = some o := fun c o x =>
    Heap.get?_push_of_some _ (Heap.get?_push_of_some _ (Heap.get?_push_of_some _ (Heap.get?_push_of_some _ (Heap.get?_push_of_some _ (Heap.get?_push_of_some _ x)))))
  show _ ∧ _
  rw [e3, e4, e5] at g6
  rw [e1, e2, e3] at g4
  rw [e4] at g5
  rw [e2, hn] at g3
  rw [e1] at g2
  rw [e5]
  refine ⟨⟨_, g6, rfl⟩, h _ ⟨g6, g4, ⟨_, _, _, g5⟩, ⟨_, g1, rfl, rfl⟩, ⟨_, g2, rfl, rfl⟩, ?_, hl1.at fun o e => up _ o e, hl2.at fun o e => up _ o e⟩ up⟩
  rw [show ((0 : Nat) : Int) = 0 from rfl, Int.sub_zero]
  exact g3
end
/-- a turn's end, in a loop that leaves the ledger as it is: own are the iterator's objects -/
def TurnEnd (h₀ : Heap) (L : Addr) (s : Shared) (own news : Led) (J : (Str → Option Value) → Prop) (Q : Flow → Shared → Prop) (f : Flow) (s' : Shared) : Prop :=
  match f with
  | .ret v => Q (.ret v) s'
  | .brk => Q .next s'
  | _ => ∃ h' tk m', s' = { s with heap := h', toks := tk } ∧ Fr h₀ L h' m' ∧ News h₀ L h' (own ++ news) ∧ J m'
section
variable {prog : Program} {w : World} {A : Around} {E : Value → Shared → Prop} {s : Shared} {env : Env} {h₀ : Heap} {body : List Stmt} {Q : Flow → Shared → Prop}
/-- for .. in zip(two lists, a range) -/
theorem turns3 {elts : List PySem.Expr} {k : Nat} {pos : Pos} {l1 l2 rg : Addr} {lo1 lo2 : Obj} {xs ys : List Value} {n1 n2 n : Nat} {t u v : Tok} {m₀ : Str → Option Value} {news : Led} (J : (Str → Option Value) → Prop)
    (hh : A.handled = none) (F : Fr h₀ env.locals s.heap m₀) (N : News h₀ env.locals s.heap news) (hm1 : (l1, lo1) ∈ news) (hc1 : lo1.cls = .type "list") (hd1 : lo1.data = .seq xs.toArray n1) (hm2 : (l2, lo2) ∈ news) (hc2 : lo2.cls = .type "list") (hd2 : lo2.data = .seq ys.toArray n2)
    (hr : IsRange s.heap rg 0 (n : Int) 1 t u v) (hsm : Builtin.Range.small 0 (n : Int) 1 = true) (hn : Builtin.Range.rangeSize 0 (n : Int) 1 = (n : Int)) (hx : xs.length = n) (hy : ys.length = n) (h0 : J m₀)
    (step : ∀ (i : Nat) (x y : Value) (m₁ : Str → Option Value) (T : Addr) (tk : Nat) (tj : Tok) (h : Heap) (own : Led), i < n → xs[i]? = some x → ys[i]? = some y → J m₁ → Fr h₀ env.locals h m₁ → News h₀ env.locals h (own ++ news) → IsTup h T #[x, y, .int (i : Int) tj] →
      wpAny (model prog w) A (assign (.Tuple elts k pos) env (.ref T)) (fun _ s₂ => wpAny (model prog w) A (execs body env) (TurnEnd h₀ env.locals { s with heap := h, toks := tk } own news J Q) E s₂) E { s with heap := h, toks := tk })
    (fin : ∀ h tk m', J m' → Fr h₀ env.locals h m' → News h₀ env.locals h news → Q .next { s with heap := h, toks := tk }) :
    wpAny (model prog w) A (call (.type "zip") [.ref l1, .ref l2, .ref rg]) (fun xv s₁ => wpAny (model prog w) A (pyIter xv) (fun it s₂ => TurnsAt prog w A h₀ env (.Tuple elts k pos) body Q E it s₂) E s₁) E s := by
  have g1 := N _ hm1
  have g2 := N _ hm2
  have hl1 : s.heap.IsList l1 xs.toArray := ⟨lo1, g1.1, hc1, n1, hd1⟩
  have hl2 : s.heap.IsList l2 ys.toArray := ⟨lo2, g2.1, hc2, n2, hd2⟩
  have lt1 : @LT.lt Nat _ l1 s.heap.objs.size := Heap.lt_size g1.1
  have lt2 : @LT.lt Nat _ l2 s.heap.objs.size := Heap.lt_size g2.1
  have hLs : @LT.lt Nat _ env.locals s.heap.objs.size := F.ns.lt
  refine call_zip3 hl1 hl2 hr hsm hn fun h' Z up => ?_
  refine wpAny_pyIter_zip Z.z ?_
  have fresh : ∀ c, s.heap.objs.size ≤ c → h₀.get? c = none := fun c hc => by
    cases e : h₀.get? c with
    | none => rfl
    | some o => exact absurd (Heap.lt_size (F.keep _ _ e)) (Nat.not_lt.mpr hc)
  generalize hb : s.heap.objs.size = b at *
  refine ⟨(b + 5 : Nat), [b + 5, b + 3, b + 4, b, b + 1, b + 2, l1, l2], [b + 5, b + 4, b, b + 1, b + 2], n,
    (fun i v h => ∃ T tj x y, v = .ref T ∧ xs[i]? = some x ∧ ys[i]? = some y ∧ IsTup h T #[x, y, .int (i : Int) tj]),
    (fun i v h => ∃ T tj x y, v = .ref T ∧ xs[i]? = some x ∧ ys[i]? = some y ∧ IsTup h T #[x, y, .int (i : Int) tj] ∧ ZS b l1 l2 xs.toArray ys.toArray n (rawInt T) (i + 1) h ∧ T ≠ b + 5),
    (fun i h => ZS b l1 l2 xs.toArray ys.toArray n .none i h), m₀, news, (fun _ m news' => J m ∧ news' = news), rfl, ?_, ?_, ?_, ?_, Z, F.keeps up, N.grown up, ⟨h0, rfl⟩, ?_, ?_⟩
  · refine ⟨fun c hc => ?_, fun i g g' Z hk => ?_, fun i s Q E hi Z hQ => ?_, fun i v s Q E hm hQ => ?_, fun s Q E Z hQ => ?_⟩
    · simp only [List.mem_cons, List.not_mem_nil, or_false] at hc ⊢
      rcases hc with rfl | rfl | rfl | rfl | rfl <;> simp
    · obtain ⟨z, ti, ⟨p, q, r, to⟩, i1, i2, i3, a1, a2⟩ := Z
      exact ⟨hk _ (by simp) _ z, hk _ (by simp) _ ti, ⟨p, q, r, hk _ (by simp) _ to⟩, i1.at fun o e => hk _ (by simp) o e, i2.at fun o e => hk _ (by simp) o e, hk _ (by simp) _ i3, a1.at fun o e => hk _ (by simp) o e, a2.at fun o e => hk _ (by simp) o e⟩
    · have hix : i < xs.length := by omega
      have hiy : i < ys.length := by omega
      refine z3_item lt1 lt2 Z (x := xs[i]) (y := ys[i]) (by simp [hix]) (by simp [hiy]) hi fun g Z' hT hk => ?_
      exact hQ _ g _ ⟨_, _, _, _, rfl, List.getElem?_eq_getElem hix, List.getElem?_eq_getElem hiy, ⟨_, hT, rfl, _, rfl⟩, Z', Nat.ne_of_gt (Heap.lt_size Z.z)⟩ hk
    · obtain ⟨T, tj, x, y, rfl, e1, e2, hT, Z', ne⟩ := hm
      refine wpAny_letOwnedTupleGo_zip Z'.z fun g hz' hs' => ?_
      obtain ⟨z, ti, ⟨p, q, r, to⟩, i1, i2, i3, a1, a2⟩ := Z'
      refine hQ g ⟨T, tj, x, y, rfl, e1, e2, hT.extBut hs'.extBut ne⟩ ⟨hz', hs'.extBut _ _ (neN (by omega)) ti, ⟨p, q, r, hs'.extBut _ _ (neN (by omega)) to⟩, i1.extBut hs'.extBut (neN (by omega)), i2.extBut hs'.extBut (neN (by omega)), hs'.extBut _ _ (neN (by omega)) i3, a1.extBut hs'.extBut (neN (by omega)), a2.extBut hs'.extBut (neN (by omega))⟩ fun c o hc e => hs'.extBut _ _ (fun q => hc (by rw [q]; simp)) e
    · exact z3_end hh lt1 Z (by simp; omega) fun g hk => hQ g s.toks hk
  · simp only [List.mem_cons, List.not_mem_nil, or_false, not_or]
    refine ⟨neN (by omega), neN (by omega), neN (by omega), neN (by omega), neN (by omega), neN (by omega), fun e => g1.2.1 e.symm, fun e => g2.2.1 e.symm⟩
  · intro c hc
    refine fresh c ?_
    simp only [List.mem_cons, List.not_mem_nil, or_false] at hc
    rcases hc with rfl | rfl | rfl | rfl | rfl
    · exact Nat.le_add_right _ _
    · exact Nat.le_add_right _ _
    · exact Nat.le_refl _
    · exact Nat.le_add_right _ _
    · exact Nat.le_add_right _ _
  · intro p hp hc
    have lt : @LT.lt Nat _ p.1 b := hb ▸ Heap.lt_size (N p hp).1
    simp only [List.mem_cons, List.not_mem_nil, or_false] at hc
    rcases hc with e | e | e | e | e <;> (rw [e] at lt; omega)
  · rintro i v m₁ news₁ g tk own hi ⟨T, tj, x, y, rfl, e1, e2, hT⟩ ⟨hJ, rfl⟩ hoff hown hget hall Z' F₁ N₁
    refine wpAny_mono (step i x y m₁ T tk tj g own hi e1 e2 hJ F₁ N₁ hT) (fun _ s₂ h₂ => wpAny_mono h₂ (fun f s₃ h₃ => ?_) fun _ _ e => e) fun _ _ e => e
    cases f with
    | ret v => exact h₃
    | brk => exact h₃
    | next =>
      obtain ⟨g', tk', m', e, F', N', J'⟩ := h₃
      exact ⟨rfl, g', tk', m', _, e, F', N', hoff, J', rfl⟩
    | cont =>
      obtain ⟨g', tk', m', e, F', N', J'⟩ := h₃
      exact ⟨rfl, g', tk', m', _, e, F', N', hoff, J', rfl⟩
  · rintro g tk m' news' F' N' _ ⟨hJ, rfl⟩
    exact fin g tk m' hJ F' N'
end
theorem turnEnd_next {h₀ h' : Heap} {L : Addr} {s : Shared} {own news cur : Led} {J : (Str → Option Value) → Prop} {Q : Flow → Shared → Prop} {tk : Nat} {m' : Str → Option Value} (F : Fr h₀ L h' m') (N : News h₀ L h' cur) (s1 : ∀ p ∈ own, p ∈ cur) (s2 : ∀ p ∈ news, p ∈ cur) (j : J m') :
    TurnEnd h₀ L s own news J Q .next { s with heap := h', toks := tk } :=
  ⟨h', tk, m', rfl, F, fun p hp => by
    rcases List.mem_append.mp hp with hp | hp
    · exact N p (s1 p hp)
    · exact N p (s2 p hp), j⟩
theorem news_swap {h₀ h : Heap} {L : Addr} {a b : Led} (N : News h₀ L h (a ++ b)) : News h₀ L h (b ++ a) := fun p hp => N p (by
  rcases List.mem_append.mp hp with hp | hp
  · exact List.mem_append_right _ hp
  · exact List.mem_append_left _ hp)
theorem compEnd0 {h₀ : Heap} {L I C D : Addr} {m : Str → Option Value} {s₁ : Shared} {oI oC oD : Obj} {S : Led → Prop} {rest : Value → Led → Prop} {y : Value} {h' : Heap} {tk : Nat} {l : Led} (F : Fr h₀ L h' m) (N : News h₀ L h' ((I, oI) :: (C, oC) :: (D, oD) :: l)) (off : LCg.Off3 I C D l) (hS : S l) (r : rest y l) :
    LCg.CompEnd h₀ L m s₁ I oI C oC D oD S rest y { s₁ with heap := h', toks := tk } := ⟨h', tk, l, rfl, F, N, off, hS, r⟩
theorem compEnd1 {h₀ : Heap} {L I C D t : Addr} {m : Str → Option Value} {s₁ : Shared} {oI oC oD o : Obj} {S : Led → Prop} {rest : Value → Led → Prop} {y : Value} {h' : Heap} {tk : Nat} {l : Led} (F : Fr h₀ L h' m) (N : News h₀ L h' ((t, o) :: (I, oI) :: (C, oC) :: (D, oD) :: l)) (off : LCg.Off3 I C D l)
    (n1 : @Ne Nat t I) (n2 : @Ne Nat t C) (n3 : @Ne Nat t D) (hS : S ((t, o) :: l)) (r : rest y ((t, o) :: l)) :
    LCg.CompEnd h₀ L m s₁ I oI C oC D oD S rest y { s₁ with heap := h', toks := tk } := ⟨h', tk, (t, o) :: l, rfl, F, fun p hp => N p (by
      simp only [List.mem_cons] at hp ⊢
      rcases hp with h | h | h | h | h
      · exact .inr (.inl h)
      · exact .inr (.inr (.inl h))
      · exact .inr (.inr (.inr (.inl h)))
      · exact .inl h
      · exact .inr (.inr (.inr (.inr h)))), ⟨⟨n1, n2, n3⟩, off⟩, hS, r⟩
end Mz
end
section
open PySem PySem.W PySem.Calls PyProof.Rows
namespace Vx
variable [Rho]
/-- what of a ledger stands at new places -/
noncomputable def fresh : List Addr → Led → Led
  | _, [] => []
  | as, q :: r => if q.1 ∈ as then fresh as r else q :: fresh (q.1 :: as) r
theorem fresh_sub : ∀ {l : Led} {as : List Addr}, ∀ q ∈ fresh as l, q ∈ l ∧ q.1 ∉ as
  | [], _, _, h => by cases h
  | p :: r, as, q, h => by
    unfold fresh at h
    split at h
    · have := fresh_sub q h
      exact ⟨.tail _ this.1, this.2⟩
    · rename_i hn
      rcases List.mem_cons.mp h with rfl | h
      · exact ⟨.head _, hn⟩
      · have := fresh_sub q h
        exact ⟨.tail _ this.1, fun z => this.2 (.tail _ z)⟩
theorem fresh_nd : ∀ {l : Led} {as : List Addr}, ((fresh as l).map (·.1)).Nodup
  | [], _ => List.nodup_nil
  | p :: r, as => by
    unfold fresh
    split
    · exact fresh_nd
    · rw [List.map_cons, List.nodup_cons]
      refine ⟨fun h => ?_, fresh_nd⟩
      obtain ⟨q, hq, e⟩ := List.mem_map.mp h
      exact (fresh_sub q hq).2 (e ▸ .head _)
theorem fresh_all : ∀ {l : Led} {as : List Addr}, ∀ q ∈ l, q.1 ∈ as ∨ ∃ q' ∈ fresh as l, q'.1 = q.1
  | [], _, _, h => by cases h
  | p :: r, as, q, h => by
    unfold fresh
    split
    · rename_i hp
      rcases List.mem_cons.mp h with rfl | h
      · exact .inl hp
      · exact fresh_all q h
    · rename_i hp
      rcases List.mem_cons.mp h with rfl | h
      · exact .inr ⟨_, .head _, rfl⟩
      · rcases fresh_all (as := p.1 :: as) q h with z | ⟨q', z1, z2⟩
        · rcases List.mem_cons.mp z with z | z
          · exact .inr ⟨p, .head _, z.symm⟩
          · exact .inl z
        · exact .inr ⟨q', .tail _ z1, z2⟩
noncomputable def svEqB (a b : SV) : Bool := (orS ((ownS a).bind fun i => (ownS b).bind fun j => whenS (i == j) (some ())) (orS ((strS a).bind fun i => (strS b).bind fun j => whenS (decide (i = j)) (some ())) ((intS a).bind fun i => (intS b).bind fun j => whenS (decide (i = j)) (some ())))).isSome
theorem svEqB_eq {a b : SV} (h : svEqB a b = true) : a = b := by
  obtain ⟨u, h⟩ := Option.isSome_iff_exists.mp h
  rcases orS_of h with h | h
  · obtain ⟨i, q1, h⟩ := bindS h
    obtain ⟨j, q2, h⟩ := bindS h
    rw [ownS_eq q1, ownS_eq q2, eq_of_beq (whenS_of h).1]
  rcases orS_of h with h | h
  · obtain ⟨i, q1, h⟩ := bindS h
    obtain ⟨j, q2, h⟩ := bindS h
    rw [strS_eq q1, strS_eq q2, of_decide_eq_true (whenS_of h).1]
  · obtain ⟨i, q1, h⟩ := bindS h
    obtain ⟨j, q2, h⟩ := bindS h
    rw [intS_eq q1, intS_eq q2, of_decide_eq_true (whenS_of h).1]
noncomputable def locEqB : List (Str × SV) → List (Str × SV) → Bool
  | [], [] => true
  | p :: r, q :: s => decide (p.1 = q.1) && svEqB p.2 q.2 && locEqB r s
  | _, _ => false
theorem locEqB_eq : ∀ {a b : List (Str × SV)}, locEqB a b = true → a = b
  | [], [], _ => rfl
  | p :: r, q :: s, h => by
    obtain ⟨h, h3⟩ := andT h
    obtain ⟨h1, h2⟩ := andT h
    rw [locEqB_eq h3, show p = q from Prod.ext (of_decide_eq_true h1) (svEqB_eq h2)]
/-- the names of before stand below those that the turn bound -/
noncomputable def sameLoc (l0 l : List (Str × SV)) : Bool := locEqB (l.drop (l.length - l0.length)) l0 && (l.take (l.length - l0.length)).all (fun q => l0.all (fun z => !(z.1 == q.1)))
theorem sameLoc_eq {l0 l : List (Str × SV)} (h : sameLoc l0 l = true) {x : Str} {sv : SV} (e : l0.lookup x = some sv) : l.lookup x = some sv := by
  obtain ⟨h1, h2⟩ := andT h
  have hl : l = l.take (l.length - l0.length) ++ l0 := by
    have := List.take_append_drop (l.length - l0.length) l
    rw [locEqB_eq h1] at this
    exact this.symm
  generalize l.take (l.length - l0.length) = pre at hl h2
  subst hl
  clear h h1
  have hm := lookup_mem e
  induction pre with
  | nil => exact e
  | cons p r ih =>
    obtain ⟨h3, h4⟩ := andT h2
    rw [List.cons_append, List.lookup_cons, show (x == p.1) = false from notT (List.all_eq_true.mp h3 _ hm)]
    exact ih h4
noncomputable def isNC : SF → Bool
  | .ret _ => false
  | _ => true
noncomputable def turnOk (ex : ExT) (cs : PySem.Scope) (es : List Expr) (body : List Stmt) (σ : SS) (i : Nat) (x y : SV) : Option (SS × SF × SS) :=
  (assignList cs { σ with frz := List.range σ.objs.n } es [x, y, .int (i : Int)]).bind fun σ₁ => (ex cs σ₁ body).bind fun q => whenS (isNC q.1 && sameLoc σ.loc q.2.loc) (some (σ₁, q.1, q.2))
noncomputable def zipTurns (ex : ExT) (cs : PySem.Scope) (es : List Expr) (body : List Stmt) (σ : SS) : Nat → List SV → List SV → Bool
  | i, x :: xs, y :: ys => (turnOk ex cs es body σ i x y).isSome && zipTurns ex cs es body σ (i + 1) xs ys
  | _, _, _ => true
theorem zipTurns_at {ex : ExT} {cs : PySem.Scope} {es : List Expr} {body : List Stmt} {σ : SS} : ∀ {xs ys : List SV} {i j : Nat} {x y : SV}, zipTurns ex cs es body σ i xs ys = true → xs[j]? = some x → ys[j]? = some y → ∃ q, turnOk ex cs es body σ (i + j) x y = some q
  | [], _, _, _, _, _, _, hx, _ => by cases hx
  | _ :: _, [], _, _, _, _, _, _, hy => by cases hy
  | a :: r, b :: s, i, 0, x, y, h, hx, hy => by
    cases hx
    cases hy
    exact Option.isSome_iff_exists.mp (andT h).1
  | a :: r, b :: s, i, j + 1, x, y, h, hx, hy => by
    have := zipTurns_at (i := i + 1) (j := j) (andT h).2 hx hy
    rw [show i + 1 + j = i + (j + 1) by omega] at this
    exact this
noncomputable def threeL {α : Type} : List α → Option (α × α × α)
  | [x, y, z] => some (x, y, z)
  | _ => none
theorem threeL_eq {α : Type} {l : List α} {x : α × α × α} (h : threeL l = some x) : l = [x.1, x.2.1, x.2.2] := by
  match l, h with
  | [y, z, u], h => cases h; rfl
noncomputable def isType (K : Frag) (cs : PySem.Scope) (σ : SS) (x : Str) (T : String) : Option Unit := (evName K cs σ x).bind fun v => (valS v).bind fun u => (typeV u).bind fun T' => whenS (decide (T' = T)) (some ())
theorem isType_eq {K : Frag} {cs : PySem.Scope} {σ : SS} {x : Str} {T : String} {u : Unit} (h : isType K cs σ x T = some u) : evName K cs σ x = some (.val (.type T)) := by
  obtain ⟨v, q1, h⟩ := bindS h
  obtain ⟨w, q2, h⟩ := bindS h
  obtain ⟨T', q3, h⟩ := bindS h
  rw [q1, valS_eq q2, typeV_eq q3, of_decide_eq_true (whenS_of h).1]
noncomputable def zipS (K : Frag) (ev : EvT) (ex : ExT) (cs : PySem.Scope) (σ : SS) (st : Stmt) : Option (SF × SS) := (forPart st).bind fun f => (tupE f.1).bind fun es => (callPart f.2.1).bind fun z => (nameE z.1).bind fun zn => (threeL z.2.1).bind fun a =>
  whenS (f.2.2.2.isEmpty && z.2.2.isEmpty && es.all nameT && decide (es.length = 3) && notStar a.1 && notStar a.2.1 && notStar a.2.2) ((isType K cs σ zn "zip").bind fun _ => (ev cs σ a.1).bind fun q1 => (ev cs q1.2 a.2.1).bind fun q2 => (rangeArgs K ev cs q2.2 a.2.2).bind fun r => (listAt r.2.2 q1.1).bind fun l1 => (listAt r.2.2 q2.1).bind fun l2 =>
    whenS (decide (r.1 = 0) && decide (l1.2.length = r.2.1) && decide (l2.2.length = r.2.1) && zipTurns ex cs es f.2.2.1 r.2.2 0 l1.2 l2.2) (some (.next, r.2.2)))
theorem RV.down {as ext : List Addr} {sv : SV} {v0 v : Value} (h0 : RV as sv v0) (h : RV (as ++ ext) sv v) : RV as sv v := by
  cases sv with
  | own i =>
    obtain ⟨a0, z1, _⟩ := h0
    obtain ⟨a, y1, rfl⟩ := h
    have := getExt (ext := ext) z1
    rw [this] at y1
    obtain rfl := Option.some.inj y1
    exact ⟨a0, z1, rfl⟩
  | _ => exact h
section
variable {prog : Program} {w : World} {K : Frag} {p : Program} {loose : List Str} {n : Nat} {ev : EvT} {ex : ExT}
set_option maxHeartbeats 2000000 in
theorem zip_sound (V : EvOk prog w K p loose n ev) (X : ExOk prog w K p loose n ex) : StOk prog w K p loose n (zipS K ev ex) := by
  intro c σ st fl σ' h O m nw s Q E hE R k
  obtain ⟨⟨t, iter, body, orel⟩, q1, h1⟩ := bindS h
  obtain ⟨es, q2, h2⟩ := bindS h1
  obtain ⟨⟨zf, zargs, zk⟩, q3, h3⟩ := bindS h2
  obtain ⟨z, q4, h4⟩ := bindS h3
  obtain ⟨⟨e1, e2, e3⟩, q5, h5⟩ := bindS h4
  obtain ⟨q6, h6⟩ := whenS_of h5
  obtain ⟨_, q7, h7⟩ := bindS h6
  obtain ⟨⟨b1, σ₁⟩, q8, h8⟩ := bindS h7
  obtain ⟨⟨b2, σ₂⟩, q9, h9⟩ := bindS h8
  obtain ⟨⟨a0, j, σ₃⟩, q10, h10⟩ := bindS h9
  obtain ⟨⟨i1, l1⟩, q11, h11⟩ := bindS h10
  obtain ⟨⟨i2, l2⟩, q12, h12⟩ := bindS h11
  obtain ⟨q13, h13⟩ := whenS_of h12
  clear h h1 h2 h3 h4 h5 h6 h7 h8 h9 h10 h11 h12
  cases h13
  simp only [Bool.and_eq_true, decide_eq_true_eq] at q6 q13
  obtain ⟨⟨⟨⟨⟨⟨c1, c2⟩, h2⟩, h3⟩, h4⟩, h5⟩, h6⟩ := q6
  obtain ⟨⟨⟨f1, f2⟩, f3⟩, f4⟩ := q13
  subst f1
  obtain ⟨pos, rfl⟩ := forPart_eq q1
  obtain ⟨kk, tp, rfl⟩ := tupE_eq q2
  obtain ⟨zp, rfl⟩ := callPart_eq q3
  obtain ⟨zq, rfl⟩ := nameE_eq q4
  have q5 : zargs = [e1, e2, e3] := threeL_eq q5
  have c1 : orel = [] := List.isEmpty_iff.mp c1
  have c2 : zk = [] := List.isEmpty_iff.mp c2
  subst q5 c1 c2
  refine For_turns R.fr ?_ (by intro _; rfl) hE
  refine Call_ (name_sound (isType_eq q7) O R fun y hy => ?_) rfl
  cases hy
  refine Pv.callWith_type1 ?_ (star_eq h4) (stars_any (es := [e2, e3]) (by rw [List.all_cons, List.all_cons, h5, h6]; rfl))
  refine args_cons (V c σ e1 _ σ₁ q8 O m nw s _ _ R fun ha ta nwa xa Ra Xa hxa => ?_) (star_eq h4)
  refine args_cons (V c σ₁ e2 _ σ₂ q9 O m nwa (stt s ha ta) _ _ Ra fun hb tb nwb xb Rb Xb hxb => ?_) (star_eq h5)
  refine args_cons ?_ (star_eq h6)
  refine (rangeArgs_sound V O q10 Rb fun hd td nwc r b t u v g3 g6 g7 g8 R3 Xc => ?_).1
  refine args_nil ?_
  obtain ⟨d1, vs1, k1, e4, _, _, _, y4, y5⟩ := R3.listAt q11 ((hxa.up Xb).up Xc)
  obtain ⟨d2, vs2, k2, e5, _, _, _, w4, w5⟩ := R3.listAt q12 (hxb.up Xc)
  subst e4 e5
  have e1' := y5.length
  have e2' := w5.length
  have f2 : l1.length = j := f2
  have f3 : l2.length = j := f3
  obtain rfl : b = (j : Int) := by omega
  have X3 : Ext nw nwc := (Xa.trans Xb).trans Xc
  refine Mz.turns3 (s := stt s hd td) (n := j) (fun m' => ∀ x sv, σ₃.loc.lookup x = some sv → ∃ v, m' x = some v ∧ RV (adrs nwc) sv v) O.hd R3.fr R3.nws y4 rfl rfl w4 rfl rfl g3 g6 g7 (by omega) (by omega) R3.rm (fun i' x y m₁ T tk tj h own hi hx hy hJ F N hT => ?_) fun h tk m' hJ F N => ?_
  · obtain ⟨sx, gx1, gx2⟩ : ∃ sx, l1[i']? = some sx ∧ RV (adrs nwc) sx x := by
      have hl : i' < l1.length := by omega
      obtain ⟨v, hv1, hv2⟩ := y5.get (List.getElem?_eq_getElem hl)
      rw [hx] at hv1
      obtain rfl := Option.some.inj hv1
      exact ⟨_, List.getElem?_eq_getElem hl, hv2⟩
    obtain ⟨sy, gy1, gy2⟩ : ∃ sy, l2[i']? = some sy ∧ RV (adrs nwc) sy y := by
      have hl : i' < l2.length := by omega
      obtain ⟨v, hv1, hv2⟩ := w5.get (List.getElem?_eq_getElem hl)
      rw [hy] at hv1
      obtain rfl := Option.some.inj hv1
      exact ⟨_, List.getElem?_eq_getElem hl, hv2⟩
    obtain ⟨q, gq⟩ := zipTurns_at f4 gx1 gy1
    rw [Nat.zero_add] at gq
    obtain ⟨σa, g7, gq⟩ := bindS gq
    obtain ⟨⟨fl, σb⟩, g8, gq⟩ := bindS gq
    obtain ⟨gq, _⟩ := whenS_of gq
    obtain ⟨g9, g10⟩ := andT gq
    let c' : Ctx := { c with hid := { c.hid with hid := fresh (adrs (nwc ++ c.hid.hid)) own ++ c.hid.hid, kp := nwc ++ c.hid.kp } }
    have O' : c'.Ok prog w K p loose n := O.hide fun q hq => List.mem_append_right _ hq
    have N1 : News c.h₀ c.L h (nwc ++ (fresh (adrs (nwc ++ c.hid.hid)) own ++ c.hid.hid)) := fun q hq => N q (by
      rcases List.mem_append.mp hq with u | u
      · exact List.mem_append_right _ (List.mem_append_left _ u)
      · rcases List.mem_append.mp u with u | u
        · exact List.mem_append_left _ (fresh_sub q u).1
        · exact List.mem_append_right _ (List.mem_append_right _ u))
    have RA : RelA c'.hid { σ₃ with frz := List.range σ₃.objs.n } m₁ nwc := by
      refine ⟨?_, R3.ro, hJ, fun q hq => ?_, fun q hq => ?_⟩
      · have hp : (fresh (adrs (nwc ++ c.hid.hid)) own ++ (nwc ++ c.hid.hid)).Perm (nwc ++ (fresh (adrs (nwc ++ c.hid.hid)) own ++ c.hid.hid)) := by
          rw [← List.append_assoc, ← List.append_assoc]
          exact List.Perm.append_right _ List.perm_append_comm
        refine (hp.map (·.1)).nodup_iff.mp ?_
        rw [List.map_append, List.nodup_append]
        refine ⟨fresh_nd, R3.nd, fun u hu v hv e => ?_⟩
        obtain ⟨q, hq, rfl⟩ := List.mem_map.mp hu
        exact (fresh_sub q hq).2 (e ▸ hv)
      · rcases List.mem_append.mp hq with u | u
        · exact List.mem_append_left _ u
        · rcases List.mem_append.mp (R3.kp q u) with u | u
          · exact List.mem_append_left _ u
          · exact List.mem_append_right _ (List.mem_append_right _ u)
      · have idx : q ∈ nwc → (∃ i ∈ List.range σ₃.objs.n, (adrs nwc)[i]? = some q.1) := fun u => by
          obtain ⟨jj, hj⟩ := List.mem_iff_getElem?.mp u
          obtain ⟨hl, _⟩ := List.getElem?_eq_some_iff.mp hj
          have hlen : σ₃.objs.n = nwc.length := R3.len
          exact ⟨jj, List.mem_range.mpr (by omega), by rw [adrs, List.getElem?_map, hj]; rfl⟩
        rcases List.mem_append.mp hq with u | u
        · exact .inl (idx u)
        · rcases List.mem_append.mp (R3.kp q u) with u | u
          · exact .inl (idx u)
          · exact .inr (List.mem_append_right _ u)
    have RR : Rel c'.hid c'.h₀ c'.L { σ₃ with frz := List.range σ₃.objs.n } h m₁ nwc := RA.on F N1
    refine unpackN_ F N hT O.hd (by rw [each_len h2, h3]; rfl) (each_find h2) fun h' F' N' => ?_
    have N2 : News c.h₀ c.L h' (nwc ++ (fresh (adrs (nwc ++ c.hid.hid)) own ++ c.hid.hid)) := fun q hq => N' q (by
      rcases List.mem_append.mp hq with u | u
      · exact List.mem_append_right _ (List.mem_append_left _ u)
      · rcases List.mem_append.mp u with u | u
        · exact List.mem_append_left _ (fresh_sub q u).1
        · exact List.mem_append_right _ (List.mem_append_right _ u))
    refine assignList_sound (c := c') (s := stt s h' tk) O' g7 (by exact .cons gx2 (.cons gy2 (.cons ⟨tj, rfl⟩ .nil))) (RA.on F' N2) fun h'' tk' m'' R4 => ?_
    have fin : ∀ {f : Flow} {σ₂ : SS} {h3 : Heap} {tk3 : Nat} {m3 : Str → Option Value} {nw3 : Led}, (f = .next ∨ f = .cont) → sameLoc σ₃.loc σ₂.loc = true → Rel c'.hid c'.h₀ c'.L σ₂ h3 m3 nw3 → Ext nwc nw3 →
        Mz.TurnEnd c.h₀ c.env.locals (stt s h tk) own (nwc ++ c.hid.hid) (fun m' => ∀ x sv, σ₃.loc.lookup x = some sv → ∃ v, m' x = some v ∧ RV (adrs nwc) sv v) Q f (stt s h3 tk3) := by
      intro f σ₂ h3 tk3 m3 nw3 hf hs R5 X5
      have key : ∀ q, q ∈ nwc ++ c.hid.hid → q ∈ nw3 ++ c'.hid.hid := fun q hq => by
        rcases List.mem_append.mp hq with u | u
        · exact R5.kp q (List.mem_append_left _ u)
        · exact List.mem_append_right _ (List.mem_append_right _ u)
      have same : ∀ q q2 : Addr × Obj, q ∈ own ++ (nwc ++ c.hid.hid) → q2 ∈ own ++ (nwc ++ c.hid.hid) → q2.1 = q.1 → q2 = q := fun q q2 u1 u2 e => by
        have v1 := (N q u1).1
        have v2 := (N q2 u2).1
        rw [e, v1] at v2
        exact Prod.ext e (Option.some.inj v2).symm
      have nws : News c.h₀ c.env.locals h3 (own ++ (nwc ++ c.hid.hid)) := fun q hq => by
        rcases List.mem_append.mp hq with u | u
        · rcases fresh_all (as := adrs (nwc ++ c.hid.hid)) q u with u' | ⟨q', u1, u2⟩
          · obtain ⟨q2, v1, v2⟩ := List.mem_map.mp u'
            have := same q q2 hq (List.mem_append_right _ v1) v2
            subst this
            exact R5.nws _ (key _ v1)
          · have := same q q' hq (List.mem_append_left _ (fresh_sub q' u1).1) u2
            subst this
            exact R5.nws _ (List.mem_append_right _ (List.mem_append_left _ u1))
        · exact R5.nws _ (key q u)
      have hJ' : ∀ x sv, σ₃.loc.lookup x = some sv → ∃ v, m3 x = some v ∧ RV (adrs nwc) sv v := fun x sv e => by
        obtain ⟨v, v1, v2⟩ := R5.rm x sv (sameLoc_eq hs e)
        obtain ⟨v0, _, v4⟩ := R3.rm x sv e
        obtain ⟨ext, hext⟩ := X5
        rw [hext] at v2
        exact ⟨v, v1, v4.down v2⟩
      rcases hf with rfl | rfl
      · exact ⟨h3, tk3, m3, rfl, R5.fr, nws, hJ'⟩
      · exact ⟨h3, tk3, m3, rfl, R5.fr, nws, hJ'⟩
    refine X c' σa body fl σb g8 O' m'' nwc (stt s h'' tk') _ _ hE R4 fun h3 tk3 m3 nw3 f R5 X5 hf => ?_
    refine fin ?_ g10 R5 X5
    cases fl with
    | next => exact .inl hf
    | cont => exact .inr hf
    | ret v => cases g9
  · exact k h tk m' nwc _ ⟨F, N, R3.nd, R3.ro, hJ, R3.kp, R3.fz⟩ X3 rfl
end
end Vx
end
section
open PySem PySem.W PySem.Calls PyProof.Rows
namespace Vx
variable [Rho]
noncomputable def isForB : Stmt → Bool
  | .For .. => true
  | _ => false
noncomputable def isCompB : Expr → Bool
  | .ListComp .. => true
  | _ => false
noncomputable def isAsgC : Stmt → Bool
  | .Assign _ v _ => isCompB v
  | _ => false
noncomputable def stStep (K : Frag) (nx : Addr) (ev : EvT) (tr : TrT) (ex : ExT) : StT := fun cs σ st => orS (whenS (isForB st) (orS (zipS K ev ex cs σ st) (forS K ev ex cs σ st))) (orS (whenS (isAsgC st) (compA K nx ev cs σ st)) (simpleS K ev tr ex cs σ st))
noncomputable def evAll (K : Frag) (nx : Addr) (ev : EvT) (tr : TrT) (cl : ClT) : EvT := fun cs σ e => orS (whenS (isCompB e) (compE K nx ev cs σ e)) (evalStep K ev tr cl cs σ e)
structure Lev where
  ev : EvT
  tr : TrT
  ex : ExT
noncomputable def lev (K : Frag) (bt : BT) (nx : Addr) : Nat → Lev
  | 0 => ⟨fun _ _ _ => none, fun _ _ _ => none, fun _ _ _ => none⟩
  | n + 1 =>
    let l := lev K bt nx n
    let ev := evAll K nx l.ev l.tr (clStep K bt nx l.ex)
    let tr := trStep l.ev l.tr
    ⟨ev, tr, exsOf (stStep K nx ev tr l.ex)⟩
section
variable {prog : Program} {w : World} {K : Frag} {p : Program} {loose : List Str} {n : Nat} {ev : EvT} {tr : TrT} {ex : ExT} {bt : BT} {nx : Addr}
theorem EvOk.up (h : EvOk prog w K p loose n ev) : EvOk prog w K p loose (n + 1) ev := fun c σ e v σ' q O => h c σ e v σ' q O.down
theorem TrOk.up (h : TrOk prog w K p loose n tr) : TrOk prog w K p loose (n + 1) tr := fun c σ e v σ' q O => h c σ e v σ' q O.down
theorem ExOk.up (h : ExOk prog w K p loose n ex) : ExOk prog w K p loose (n + 1) ex := fun c σ e v σ' q O => h c σ e v σ' q O.down
theorem st_sound (V : EvOk prog w K p loose (n + 1) ev) (T : TrOk prog w K p loose (n + 1) tr) (X : ExOk prog w K p loose (n + 1) ex) (D : DrawOk prog w K p loose nx) : StOk prog w K p loose (n + 1) (stStep K nx ev tr ex) := by
  intro c σ st fl σ' h
  rcases orS_of h with h | h
  · obtain ⟨_, h⟩ := whenS_of h
    rcases orS_of h with h | h
    · exact zip_sound V X c σ st fl σ' h
    · exact for_sound V X c σ st fl σ' h
  rcases orS_of h with h | h
  · exact compA_sound V D c σ st fl σ' (whenS_of h).2
  · exact simple_sound V T X c σ st fl σ' h
theorem evAll_sound {cl : ClT} (V : EvOk prog w K p loose (n + 1) ev) (T : TrOk prog w K p loose (n + 1) tr) (C : ClOk prog w K p loose (n + 1) cl) (D : DrawOk prog w K p loose nx) : EvOk prog w K p loose (n + 1) (evAll K nx ev tr cl) := by
  intro c σ e v σ' h
  rcases orS_of h with h | h
  · exact compE_sound V D c σ e v σ' (whenS_of h).2
  · exact evalStep_sound V T C c σ e v σ' h
theorem lev_sound (B : BTOk K bt) (D : DrawOk prog w K p loose nx) : ∀ n, EvOk prog w K p loose n (lev K bt nx n).ev ∧ TrOk prog w K p loose n (lev K bt nx n).tr ∧ ExOk prog w K p loose n (lev K bt nx n).ex
  | 0 => ⟨fun _ _ _ _ _ h => (nomatch h), fun _ _ _ _ _ h => (nomatch h), fun _ _ _ _ _ h => (nomatch h)⟩
  | n + 1 => by
    obtain ⟨V, T, X⟩ := lev_sound B D n
    have V' := evAll_sound V.up T.up (clStep_sound X B D) D
    have T' := trStep_sound V.up T.up
    exact ⟨V', T', exs_sound (st_sound V' T' X.up D)⟩
end
end Vx
end
section
open PySem PySem.W PySem.Calls PyProof.Rows
namespace Vx
variable [Rho]
noncomputable abbrev KH (P : Params) : Frag := Mine.hd.heap_39 P
/-- the defs that law's parts call, with the number of arguments -/
def prs : List (Nat × Nat) := [(21, 1), (28, 2), (42, 3), (63, 4), (84, 5), (105, 3), (112, 2), (133, 1), (141, 5), (141, 3), (162, 0), (169, 1), (176, 1), (184, 4), (184, 3), (191, 3), (198, 3), (205, 4), (212, 2), (219, 1), (226, 1), (233, 0), (240, 0), (247, 0), (254, 3), (261, 1), (268, 1), (289, 1), (296, 1), (303, 1), (310, 1), (317, 1), (324, 1), (331, 1), (338, 1), (359, 1), (373, 1), (380, 1), (387, 1), (394, 1), (448, 1), (415, 2), (441, 1), (408, 1)]
def dflt (f k : Nat) : List SV := if f == 141 && k == 3 then [.str (Str.ofString ""), .str (Str.ofString "")] else if f == 184 && k == 3 then [.bool false] else []
noncomputable def btH (P : Params) : BT := fun f k => if prs.any (fun r => r.1 == f && r.2 == k) then match fnI (KH P) f with
  | some fd => some (fd.params.args.map (·.arg), dflt f k)
  | none => none
  else none
noncomputable abbrev fdH (P : Params) (f : Addr) : FuncData := (fnI (KH P) f).getD default
noncomputable abbrev nsH (P : Params) (f : Addr) : List Str := (fdH P f).params.args.map (·.arg)
def RowOk (P : Params) (r : Nat × Nat) : Prop := ∀ xs : List Value, xs.length = r.2 → ∀ s : Shared, (KH P).In s.heap → ∃ vs, All2 (RV []) (dflt r.1 r.2) vs ∧ BindsTo s (fdH P r.1) ⟨xs, []⟩ ((nsH P r.1).zip (xs ++ vs))
section
variable {P : Params} {f : Addr}
theorem row0 (hd : dflt f 0 = []) (h : bindArgs (fdH P f) ⟨[], []⟩ = pure ((nsH P f).zip [])) : RowOk P (f, 0) := fun xs hx s _ => by
  match xs, hx with
  | [], _ => exact ⟨[], by rw [hd]; exact .nil, BindsTo.of_eq (h )⟩
theorem row1 (hd : dflt f 1 = []) (h : ∀ a0 : Value, bindArgs (fdH P f) ⟨[a0], []⟩ = pure ((nsH P f).zip [a0])) : RowOk P (f, 1) := fun xs hx s _ => by
  match xs, hx with
  | [a0], _ => exact ⟨[], by rw [hd]; exact .nil, BindsTo.of_eq (h a0)⟩
theorem row2 (hd : dflt f 2 = []) (h : ∀ a0 a1 : Value, bindArgs (fdH P f) ⟨[a0, a1], []⟩ = pure ((nsH P f).zip [a0, a1])) : RowOk P (f, 2) := fun xs hx s _ => by
  match xs, hx with
  | [a0, a1], _ => exact ⟨[], by rw [hd]; exact .nil, BindsTo.of_eq (h a0 a1)⟩
theorem row3 (hd : dflt f 3 = []) (h : ∀ a0 a1 a2 : Value, bindArgs (fdH P f) ⟨[a0, a1, a2], []⟩ = pure ((nsH P f).zip [a0, a1, a2])) : RowOk P (f, 3) := fun xs hx s _ => by
  match xs, hx with
  | [a0, a1, a2], _ => exact ⟨[], by rw [hd]; exact .nil, BindsTo.of_eq (h a0 a1 a2)⟩
theorem row4 (hd : dflt f 4 = []) (h : ∀ a0 a1 a2 a3 : Value, bindArgs (fdH P f) ⟨[a0, a1, a2, a3], []⟩ = pure ((nsH P f).zip [a0, a1, a2, a3])) : RowOk P (f, 4) := fun xs hx s _ => by
  match xs, hx with
  | [a0, a1, a2, a3], _ => exact ⟨[], by rw [hd]; exact .nil, BindsTo.of_eq (h a0 a1 a2 a3)⟩
theorem row5 (hd : dflt f 5 = []) (h : ∀ a0 a1 a2 a3 a4 : Value, bindArgs (fdH P f) ⟨[a0, a1, a2, a3, a4], []⟩ = pure ((nsH P f).zip [a0, a1, a2, a3, a4])) : RowOk P (f, 5) := fun xs hx s _ => by
  match xs, hx with
  | [a0, a1, a2, a3, a4], _ => exact ⟨[], by rw [hd]; exact .nil, BindsTo.of_eq (h a0 a1 a2 a3 a4)⟩
/-- binding, behind the look at the defaults -/
def rest (fd : FuncData) (xs : List Value) : { k : Option (Array Value) → Sem (List (Str × Value)) // bindArgs fd ⟨xs, []⟩ = seqItems? fd.defaults >>= k } := ⟨_, rfl⟩
end
theorem bt21_1 (P : Params) : RowOk P (21, 1) := row1 rfl (fun a0 => by kernel_rfl)
theorem bt28_2 (P : Params) : RowOk P (28, 2) := row2 rfl (fun a0 a1 => by kernel_rfl)
theorem bt42_3 (P : Params) : RowOk P (42, 3) := row3 rfl (fun a0 a1 a2 => by kernel_rfl)
theorem bt63_4 (P : Params) : RowOk P (63, 4) := row4 rfl (fun a0 a1 a2 a3 => by kernel_rfl)
theorem bt84_5 (P : Params) : RowOk P (84, 5) := row5 rfl (fun a0 a1 a2 a3 a4 => by kernel_rfl)
theorem bt105_3 (P : Params) : RowOk P (105, 3) := row3 rfl (fun a0 a1 a2 => by kernel_rfl)
theorem bt112_2 (P : Params) : RowOk P (112, 2) := row2 rfl (fun a0 a1 => by kernel_rfl)
theorem bt133_1 (P : Params) : RowOk P (133, 1) := row1 rfl (fun a0 => by kernel_rfl)
theorem bt141_5 (P : Params) : RowOk P (141, 5) := fun xs hx s hK => by
  match xs, hx with
  | [a0, a1, a2, a3, a4], _ => exact ⟨[], .nil, BindsTo.of_defaults (T := 134) (o := { cls := .type "tuple", data := .seq #[.str (Str.ofString "") 400, .str (Str.ofString "") 401] 0 }) (items := #[.str (Str.ofString "") 400, .str (Str.ofString "") 401]) (n := 0) (by kernel_rfl) (hK _ _ (by kernel_rfl)) rfl (rest _ _).2 (by kernel_rfl)⟩
theorem bt141_3 (P : Params) : RowOk P (141, 3) := fun xs hx s hK => by
  match xs, hx with
  | [a0, a1, a2], _ => exact ⟨[.str (Str.ofString "") 400, .str (Str.ofString "") 401], .cons ⟨_, rfl⟩ (.cons ⟨_, rfl⟩ .nil), BindsTo.of_defaults (T := 134) (o := { cls := .type "tuple", data := .seq #[.str (Str.ofString "") 400, .str (Str.ofString "") 401] 0 }) (items := #[.str (Str.ofString "") 400, .str (Str.ofString "") 401]) (n := 0) (by kernel_rfl) (hK _ _ (by kernel_rfl)) rfl (rest _ _).2 (by kernel_rfl)⟩
theorem bt162_0 (P : Params) : RowOk P (162, 0) := row0 rfl (by kernel_rfl)
theorem bt169_1 (P : Params) : RowOk P (169, 1) := row1 rfl (fun a0 => by kernel_rfl)
theorem bt176_1 (P : Params) : RowOk P (176, 1) := row1 rfl (fun a0 => by kernel_rfl)
theorem bt184_4 (P : Params) : RowOk P (184, 4) := fun xs hx s hK => by
  match xs, hx with
  | [a0, a1, a2, a3], _ => exact ⟨[], .nil, BindsTo.of_defaults (T := 177) (o := { cls := .type "tuple", data := .seq #[.bool false] 0 }) (items := #[.bool false]) (n := 0) (by kernel_rfl) (hK _ _ (by kernel_rfl)) rfl (rest _ _).2 (by kernel_rfl)⟩
theorem bt184_3 (P : Params) : RowOk P (184, 3) := fun xs hx s hK => by
  match xs, hx with
  | [a0, a1, a2], _ => exact ⟨[.bool false], .cons rfl .nil, BindsTo.of_defaults (T := 177) (o := { cls := .type "tuple", data := .seq #[.bool false] 0 }) (items := #[.bool false]) (n := 0) (by kernel_rfl) (hK _ _ (by kernel_rfl)) rfl (rest _ _).2 (by kernel_rfl)⟩
theorem bt191_3 (P : Params) : RowOk P (191, 3) := row3 rfl (fun a0 a1 a2 => by kernel_rfl)
theorem bt198_3 (P : Params) : RowOk P (198, 3) := row3 rfl (fun a0 a1 a2 => by kernel_rfl)
theorem bt205_4 (P : Params) : RowOk P (205, 4) := row4 rfl (fun a0 a1 a2 a3 => by kernel_rfl)
theorem bt212_2 (P : Params) : RowOk P (212, 2) := row2 rfl (fun a0 a1 => by kernel_rfl)
theorem bt219_1 (P : Params) : RowOk P (219, 1) := row1 rfl (fun a0 => by kernel_rfl)
theorem bt226_1 (P : Params) : RowOk P (226, 1) := row1 rfl (fun a0 => by kernel_rfl)
theorem bt233_0 (P : Params) : RowOk P (233, 0) := row0 rfl (by kernel_rfl)
theorem bt240_0 (P : Params) : RowOk P (240, 0) := row0 rfl (by kernel_rfl)
theorem bt247_0 (P : Params) : RowOk P (247, 0) := row0 rfl (by kernel_rfl)
theorem bt254_3 (P : Params) : RowOk P (254, 3) := row3 rfl (fun a0 a1 a2 => by kernel_rfl)
theorem bt261_1 (P : Params) : RowOk P (261, 1) := row1 rfl (fun a0 => by kernel_rfl)
theorem bt268_1 (P : Params) : RowOk P (268, 1) := row1 rfl (fun a0 => by kernel_rfl)
theorem bt289_1 (P : Params) : RowOk P (289, 1) := row1 rfl (fun a0 => by kernel_rfl)
theorem bt296_1 (P : Params) : RowOk P (296, 1) := row1 rfl (fun a0 => by kernel_rfl)
theorem bt303_1 (P : Params) : RowOk P (303, 1) := row1 rfl (fun a0 => by kernel_rfl)
theorem bt310_1 (P : Params) : RowOk P (310, 1) := row1 rfl (fun a0 => by kernel_rfl)
theorem bt317_1 (P : Params) : RowOk P (317, 1) := row1 rfl (fun a0 => by kernel_rfl)
theorem bt324_1 (P : Params) : RowOk P (324, 1) := row1 rfl (fun a0 => by kernel_rfl)
theorem bt331_1 (P : Params) : RowOk P (331, 1) := row1 rfl (fun a0 => by kernel_rfl)
theorem bt338_1 (P : Params) : RowOk P (338, 1) := row1 rfl (fun a0 => by kernel_rfl)
theorem bt359_1 (P : Params) : RowOk P (359, 1) := row1 rfl (fun a0 => by kernel_rfl)
theorem bt373_1 (P : Params) : RowOk P (373, 1) := row1 rfl (fun a0 => by kernel_rfl)
theorem bt380_1 (P : Params) : RowOk P (380, 1) := row1 rfl (fun a0 => by kernel_rfl)
theorem bt387_1 (P : Params) : RowOk P (387, 1) := row1 rfl (fun a0 => by kernel_rfl)
theorem bt394_1 (P : Params) : RowOk P (394, 1) := row1 rfl (fun a0 => by kernel_rfl)
theorem bt448_1 (P : Params) : RowOk P (448, 1) := row1 rfl (fun a0 => by kernel_rfl)
theorem bt415_2 (P : Params) : RowOk P (415, 2) := row2 rfl (fun a0 a1 => by kernel_rfl)
theorem bt441_1 (P : Params) : RowOk P (441, 1) := row1 rfl (fun a0 => by kernel_rfl)
theorem bt408_1 (P : Params) : RowOk P (408, 1) := row1 rfl (fun a0 => by kernel_rfl)
theorem rows_ok (P : Params) : ∀ r ∈ prs, RowOk P r := by
  unfold prs
  simp only [List.forall_mem_cons]
  exact ⟨bt21_1 P, bt28_2 P, bt42_3 P, bt63_4 P, bt84_5 P, bt105_3 P, bt112_2 P, bt133_1 P, bt141_5 P, bt141_3 P, bt162_0 P, bt169_1 P, bt176_1 P, bt184_4 P, bt184_3 P, bt191_3 P, bt198_3 P, bt205_4 P, bt212_2 P, bt219_1 P, bt226_1 P, bt233_0 P, bt240_0 P, bt247_0 P, bt254_3 P, bt261_1 P, bt268_1 P, bt289_1 P, bt296_1 P, bt303_1 P, bt310_1 P, bt317_1 P, bt324_1 P, bt331_1 P, bt338_1 P, bt359_1 P, bt373_1 P, bt380_1 P, bt387_1 P, bt394_1 P, bt448_1 P, bt415_2 P, bt441_1 P, bt408_1 P, fun _ h => nomatch h⟩
theorem btH_ok (P : Params) : BTOk (KH P) (btH P) := by
  intro f fd xs names ds h1 h2 s hK
  unfold btH at h2
  split at h2
  · rename_i hc
    rw [h1] at h2
    cases h2
    obtain ⟨r, hr, hb⟩ := List.any_eq_true.mp hc
    rw [Bool.and_eq_true, beq_iff_eq, beq_iff_eq] at hb
    obtain ⟨vs, q1, q2⟩ := rows_ok P r hr xs hb.2.symm s hK
    have e : fdH P r.1 = fd := by rw [hb.1]; show (fnI (KH P) f).getD default = fd; rw [h1]; rfl
    rw [hb.1, hb.2] at q1
    unfold nsH at q2
    rw [e] at q2
    exact ⟨vs, q1, q2⟩
  · cases h2
end Vx
end
section
open PySem PySem.W PySem.Calls PyProof.Rows
namespace Vx
variable [Rho]
/-! the drawing def -/
def rowN : Str := Str.ofString "row"
noncomputable def drawBody (P : Params) : List Stmt := (bodyI (fdH P 408)).getD []
open Classical in
noncomputable def exDraw (K : Frag) (body : List Stmt) : ExT := fun cs σ ss => if ss = body ∧ evName K cs σ rowN = some (.own 0) ∧ σ.frz.contains 0 = false ∧ σ.objs.n < 512 then (σ.objs.get 0).bind fun so => (soRow so).map fun k => (.ret (.sym k), { σ with objs := (σ.objs.push (.list [])).put 0 (.row (k + 1)) }) else none
section
variable {prog : Program} {w : World} {p : Program} {loose : List Str} {n : Nat} {c : Ctx} {σ σ' : SS} {m : Str → Option Value} {nw : Led} {s : Shared} {E : Value → Shared → Prop}
theorem rev_last {k : Nat} : (Rho.L.drop k).reverse.getLastD 0 = Rho.r k := by
  rw [List.getLastD_eq_getLast?, List.getLast?_reverse]
  show _ = (Rho.L.drop k).headD 0
  cases Rho.L.drop k <;> rfl
theorem rev_drop {k : Nat} : (Rho.L.drop k).reverse.dropLast = (Rho.L.drop (k + 1)).reverse := by
  rw [← List.tail_drop]
  cases Rho.L.drop k with
  | nil => rfl
  | cons x r => rw [List.reverse_cons, List.dropLast_concat]; rfl
theorem draw_body {P : Params} (O : c.Ok prog w (KH P) p loose n) {k : Nat} (e1 : evName (KH P) c.cs σ rowN = some (.own 0)) (e2 : σ.frz.contains 0 = false) (e4 : σ.objs.n < 512) (e3 : σ.objs.get 0 = some (.row k)) (R : Rel c.hid c.h₀ c.L σ s.heap m nw) {Q : Flow → Shared → Prop}
    (kk : ∀ h' tk nw' t, Rel c.hid c.h₀ c.L { σ with objs := (σ.objs.push (.list [])).put 0 (.row (k + 1)) } h' m nw' → Ext nw nw' → Q (.ret (.int (Rho.r k) t)) (stt s h' tk)) : wpAny (model prog w) c.A (execs (drawBody P) c.env) Q E s := by
  have hu : c.A.units + 64 < cLine := by have := O.un; omega
  obtain ⟨d, o, g1, g2, g3, g4⟩ := R.at e3
  obtain ⟨rfl, us, j, rfl, hi⟩ := g3
  have hl : (Rho.L.drop k).reverse.length ≤ 160 := by rw [List.length_reverse, List.length_drop]; have := Rho.le; omega
  have hus := IntsAre.length hi
  have row : ∀ {s : Shared} {y : Value}, RV (adrs nw) (.own 0) y → y = .ref Rho.D := fun hy => by
    obtain ⟨a, z1, rfl⟩ := hy
    rw [Option.some.inj (z1.symm.trans g2)]
  rw [show drawBody P = _ :: _ from rfl]
  refine wpAny_execs_cons (wpAny_Return_some (IfExp_ (wpAny_isTrue_Compare1 (name_sound e1 O R fun y hy => List_ (args_nil (newList_K R.fr R.nws (fun D h1 F1 N1 lt => ?_) (Nat.zero_le _)))) rfl)))
  rw [row (s := s) hy]
  have R1 : Rel c.hid c.h₀ c.L { σ with objs := σ.objs.push (.list []) } h1 m (nw ++ [(D, listOf #[] 0)]) := R.alloc F1 N1 lt ⟨[], 0, rfl, .nil⟩
  have hp : (σ.objs.push (.list [])).get 0 = some (.row k) := OH.push_old e4 e3 (by have := R.len; have := (List.getElem?_eq_some_iff.mp g1).1; omega)
  have gp : (nw ++ [(D, listOf #[] 0)])[0]? = some (Rho.D, listOf us.toArray j) := getExt g1
  refine ke_ne_ints (s := { s with heap := h1 }) ⟨_, (N1 _ (.tail _ g4)).1, rfl, j, rfl⟩ ⟨_, (N1 _ (.head _)).1, rfl, 0, rfl⟩ hi .nil hu (wpAny_truthy_bool ?_)
  by_cases hz : (Rho.L.drop k).reverse = []
  · rw [decide_eq_true hz]
    refine wpAny_Constant_int ?_
    have hr : Rho.r k = 0 := by
      show (Rho.L.drop k).headD 0 = 0
      rw [List.reverse_eq_nil_iff.mp hz]; rfl
    have hd : (Rho.L.drop (k + 1)).reverse = (Rho.L.drop k).reverse := by rw [← rev_drop, hz]; rfl
    have F2 : News c.h₀ c.L h1 ((nw ++ [(D, listOf #[] 0)]).set 0 (Rho.D, listOf us.toArray j) ++ c.hid.hid) := by
      have e : (nw ++ [(D, listOf #[] 0)]).set 0 (Rho.D, listOf us.toArray j) = nw ++ [(D, listOf #[] 0)] := by
        obtain ⟨hl, he⟩ := List.getElem?_eq_some_iff.mp gp
        rw [← he]
        exact List.set_getElem_self hl
      rw [e]
      exact R1.nws
    have R2 := R1.upd gp e2 F1 F2 (so := .row (k + 1)) hp rfl rfl ⟨rfl, us, j, rfl, by rw [hd]; exact hi⟩
    have := kk h1 (s.toks + 1) _ s.toks R2 (Ext.push.trans ⟨[], by rw [mapSetA gp, List.append_nil]⟩)
    rw [hr] at this
    exact this
  · rw [decide_eq_false hz]
    refine MethodCall_ (name_sound (s := { s with heap := h1 }) e1 O (R.same F1 fun q hq => N1 q (.tail _ hq)) fun y hy => ?_) (meth_eq rfl rfl (by decide) rfl)
    rw [row (s := s) hy]
    refine kl_method N1 (.tail _ g4) PySem.F.slot_list_pop PySem.F.type_list_pop ?_
    refine callWith_method0 ?_
    refine kpa_pop R1.fr R1.nws (R1.updAt gp) hi ?_ (by rw [sizeLine_eq]; omega) fun h2 t F2 N2 hi2 => ?_
    · rw [hus]
      exact List.length_pos_iff.mpr hz
    rw [rev_last]
    rw [rev_drop] at hi2
    exact kk h2 s.toks _ t (R1.upd gp e2 F2 N2 hp rfl rfl ⟨rfl, _, _, rfl, hi2⟩) (Ext.push.trans ⟨[], by rw [mapSetA gp, List.append_nil]⟩)
theorem draw_ex {P : Params} : ExOk prog w (KH P) p loose n (exDraw (KH P) (drawBody P)) := by
  intro c σ ss fl σ' h O m nw s Q E hE R k
  unfold exDraw at h
  split at h
  · rename_i hh
    obtain ⟨rfl, e1, e2, e4⟩ := hh
    obtain ⟨so, q1, h⟩ := bindS h
    obtain ⟨j, q2, h⟩ := mapS h
    cases h
    rw [soRow_eq q2] at q1
    exact draw_body O e1 e2 e4 q1 R fun h' tk nw' t R' X' => k h' tk m nw' _ R' X' ⟨_, rfl, t, rfl⟩
  · cases h
end
theorem callDef_of {K : Frag} {bt : BT} {ex : ExT} {σ : SS} {f : Addr} {vs : List SV} {fd : FuncData} {b : List Stmt} {ns : List Str} {ds : List SV} {v : SV} {σ₁ : SS} (h1 : fnI K f = some fd) (h2 : bodyI fd = some b) (h3 : fnOk K fd = true) (h4 : bt f vs.length = some (ns, ds))
    (h5 : ns.all (fun x => decide (fd.scope.names.lookup x = some .local)) = true) (h6 : ex fd.scope { loc := (ns.zip (vs ++ ds)).reverse, objs := σ.objs, frz := σ.frz } b = some (.ret v, σ₁)) : callDef K bt ex σ f vs = some (v, { loc := σ.loc, objs := σ₁.objs, frz := σ.frz }) := by
  unfold callDef
  rw [h1]
  simp only [h2, h3, h4, h5, h6, if_true]
set_option maxRecDepth 100000 in
theorem drawH_ok {prog : Program} {w : World} {p : Program} {loose : List Str} {P : Params} : DrawOk prog w (KH P) p loose 408 := by
  intro c O σ k m nw s Q E e1 e2 e3 R cont
  refine wpAny_call ?_
  have hy := O.dp
  have hu := O.un
  obtain ⟨a, o, g1, g2, g3, g4⟩ := R.at e1
  refine callDef_code (n := 0) (vs := [.own 0]) (v := .sym k) (σ' := { σ with objs := (σ.objs.push (.list [])).put 0 (.row (k + 1)) }) (ex := exDraw (KH P) (drawBody P)) draw_ex (btH_ok P) ?_ O O.fr O.hd (by omega) (by omega) O.B R (.cons ⟨a, g2, by rw [g3.1]⟩ .nil) fun h' tk nw' x R' X' hx => ?_
  · refine callDef_of (fd := fdH P 408) (b := drawBody P) (ns := [rowN]) (ds := []) (σ₁ := { loc := [(rowN, .own 0)], objs := (σ.objs.push (.list [])).put 0 (.row (k + 1)), frz := σ.frz }) (by kernel_rfl) (by kernel_rfl) (by kernel_rfl) (by kernel_rfl) (by kernel_rfl) ?_
    unfold exDraw
    rw [if_pos ⟨rfl, by kernel_rfl, e2, e3⟩, show ({ loc := ([rowN].zip ([SV.own 0] ++ [])).reverse, objs := σ.objs, frz := σ.frz } : SS).objs.get 0 = some (.row k) from e1]
    rfl
  · obtain ⟨t, rfl⟩ := hx
    exact cont h' tk nw' t R' X'
end Vx
end
section
open PySem PySem.W PySem.Calls PyProof.Rows
namespace Vx
/-- law's body and scope, read off the row's program -/
def lawB : List Stmt × PySem.Scope := match PySem.Challenge.rw_pb0364_01.prog.main.body.getLast? with
  | some (.FunctionDef _ _ b _ _ _ sc _ _ _) => (b, sc)
  | _ => ([], { kind := .function, names := [], isGenerator := false, isCoroutine := false })
def lawScope : PySem.Scope := lawB.2
/-- law's body behind the row's making -/
def restB : List Stmt := lawB.1.drop 1
noncomputable def σ0 : SS := { loc := [], objs := (OH.mk .lf 0).push (.row 0), frz := [] }
noncomputable def runs (R : Rho) (P : Params) : Option SF := ((lev (KH P) (btH P) 408 40).ex lawScope σ0 restB).map Prod.fst
/-- the known of the two first draws -/
def fms (a M b : Int) : List (Nat × Int × Int) := [(0, 2, a), (1, M, b)]
def Runs (a M b : Int) : Prop := ∀ (P : Params) (L : List Int) (le : L.length ≤ 160) (D : Addr) (ok : ∀ f ∈ fms a M b, Int.fmod ((L.drop f.1).headD 0) f.2.1 = f.2.2), runs ⟨L, le, D, fms a M b, ok⟩ P = some (.ret (.bool true))
set_option maxRecDepth 100000 in
theorem run_00 : Runs 0 4 0 := fun P L le D ok => by kernel_rfl
set_option maxRecDepth 100000 in
theorem run_01 : Runs 0 4 1 := fun P L le D ok => by kernel_rfl
set_option maxRecDepth 100000 in
theorem run_02 : Runs 0 4 2 := fun P L le D ok => by kernel_rfl
set_option maxRecDepth 100000 in
theorem run_03 : Runs 0 4 3 := fun P L le D ok => by kernel_rfl
set_option maxRecDepth 100000 in
theorem run_10 : Runs 1 2 0 := fun P L le D ok => by kernel_rfl
set_option maxRecDepth 100000 in
theorem run_11 : Runs 1 2 1 := fun P L le D ok => by kernel_rfl
theorem runs_of {a M b : Int} (H : Runs a M b) (P : Params) (L : List Int) (le : L.length ≤ 160) (D : Addr) (h1 : Int.fmod ((L.drop 0).headD 0) 2 = a) (h2 : Int.fmod ((L.drop 1).headD 0) M = b) : ∃ R : Rho, R.L = L ∧ R.D = D ∧ runs R P = some (.ret (.bool true)) :=
  ⟨_, rfl, rfl, H P L le D fun f hf => by
    rcases List.mem_cons.mp hf with rfl | hf
    · exact h1
    · rcases List.mem_singleton.mp hf with rfl
      exact h2⟩
theorem runs_any (P : Params) (L : List Int) (le : L.length ≤ 160) (D : Addr) : ∃ R : Rho, R.L = L ∧ R.D = D ∧ runs R P = some (.ret (.bool true)) := by
  have e2 : ∀ x : Int, Int.fmod x 2 = x % 2 := fun x => Int.fmod_eq_emod_of_nonneg x (by decide)
  have e4 : ∀ x : Int, Int.fmod x 4 = x % 4 := fun x => Int.fmod_eq_emod_of_nonneg x (by decide)
  have s2 : ∀ x : Int, Int.fmod x 2 = 0 ∨ Int.fmod x 2 = 1 := fun x => by rw [e2]; omega
  have s4 : ∀ x : Int, Int.fmod x 4 = 0 ∨ Int.fmod x 4 = 1 ∨ Int.fmod x 4 = 2 ∨ Int.fmod x 4 = 3 := fun x => by rw [e4]; omega
  rcases s2 ((L.drop 0).headD 0) with h | h
  · rcases s4 ((L.drop 1).headD 0) with g | g | g | g
    · exact runs_of run_00 P L le D h g
    · exact runs_of run_01 P L le D h g
    · exact runs_of run_02 P L le D h g
    · exact runs_of run_03 P L le D h g
  · rcases s2 ((L.drop 1).headD 0) with g | g
    · exact runs_of run_10 P L le D h g
    · exact runs_of run_11 P L le D h g
section
variable {w : World} {mean : ExcName → Option Value} {mg mb : Str → Option Value} {dp un : Nat} {gd : Option (List Code)} {c a : Addr} {ccd : Value} {outer : List Env} {A₀ : Around} {base h₀ : Heap} {L : Addr} {m : Str → Option Value} {s : Shared} {Q : Flow → Shared → Prop} {E : Value → Shared → Prop}
abbrev vwH : Program := Mine.hd.view_39
abbrev loH : List Str := looseW Mine.hd.view_39 [Str.ofString "parameter"]
/-- what law does behind the row's making -/
theorem law_rest {D : Addr} {oc : Obj} {us : List Value} {ns : List Int} {j : Nat} (hoc : oc.data = .cell (some (.ref D))) (hi : IntsAre us ns) (hl : ns.length ≤ 160) (hcD : @Ne Nat D c)
    (B : Below A₀ base outer h₀) (F : Fr h₀ L s.heap m) (X : (KH w.params).In h₀) (N : News h₀ L s.heap [(c, oc), (D, listOf us.toArray j)]) (T : Top vwH loH mean mg mb h₀) (hd : dp + 100 < recursionLimit) (hu : un + 500 < cLine)
    (hE : PassesOwn (model PySem.Challenge.rw_pb0364_01.row.prog w) (ktrTop dp un gd (Str.ofString "law") lawScope L a ccd [(Str.ofString "row", c)] outer) (envX (Str.ofString "law") lawScope L a ccd [(Str.ofString "row", c)]) E)
    (k : ∀ h' tk m' news', Fr h₀ L h' m' → News h₀ L h' news' → Q (.ret (.bool true)) { s with heap := h', toks := tk }) :
    wpAny (model PySem.Challenge.rw_pb0364_01.row.prog w) (ktrTop dp un gd (Str.ofString "law") lawScope L a ccd [(Str.ofString "row", c)] outer) (execs restB (envX (Str.ofString "law") lawScope L a ccd [(Str.ofString "row", c)])) Q E s := by
  obtain ⟨R, e1, e2, e3⟩ := runs_any w.params ns.reverse (by rw [List.length_reverse]; exact hl) D
  letI : Rho := R
  obtain ⟨⟨fl, σ'⟩, g1, g2⟩ := mapS e3
  have g2 : fl = .ret (.bool true) := g2
  subst g2
  let K0 : KnT := fun x d o => match x with
    | .inl ks => KnownD PySem.Challenge.rw_pb0364_01.row.prog w ks d o
    | .inr kvs => o.IsDictOf (PySem.strKind PySem.Challenge.rw_pb0364_01.row.prog w) kvs
  let c₀ : Ctx := { A := ktrTop dp un gd (Str.ofString "law") lawScope L a ccd [(Str.ofString "row", c)] outer, A₀ := A₀, base := base, h₀ := h₀, outer := outer, mean := mean, mg := mg, mb := mb, cn := Str.ofString "law", cs := lawScope, L := L, a := a, ccd := ccd, cl := [(Str.ofString "row", c)], hid := { hid := [(c, oc)], kp := [], kn := K0 } }
  have O : c₀.Ok PySem.Challenge.rw_pb0364_01.row.prog w (KH w.params) vwH loH 40 := ⟨B, X, T, rfl, rfl, by show dp + 2 * 40 < _; omega, by show un + 8 * 40 + 64 < _; omega, by rfl, rfl, fun x hx => by
    have hm := lookup_mem hx
    have hall : lawScope.names.all (fun y => !decide (y.2 = .cell) || decide (y.1 = Str.ofString "row")) = true := by kernel_rfl
    have := List.all_eq_true.mp hall _ hm
    simp only [decide_true, Bool.not_true, Bool.false_or, decide_eq_true_eq] at this
    subst this
    exact ⟨c, oc, rfl, .head _, by rw [hoc]; show _ = Data.cell (some (.ref R.D)); rw [e2]⟩⟩
  have R0 : Rel c₀.hid c₀.h₀ c₀.L σ0 s.heap m [(D, listOf us.toArray j)] := by
    refine ⟨F, fun q hq => N q ?_, ?_, ⟨rfl, fun i so e => ?_⟩, fun x sv e => ?_, fun q hq => (nomatch hq), fun q hq => (nomatch hq)⟩
    · rcases List.mem_cons.mp hq with rfl | hq
      · exact .tail _ (.head _)
      · rcases List.mem_singleton.mp hq with rfl
        exact .head _
    · show [D, c].Nodup
      rw [List.nodup_cons]
      exact ⟨fun h => hcD (List.mem_singleton.mp h), List.nodup_cons.mpr ⟨fun h => (nomatch h), List.nodup_nil⟩⟩
    · obtain ⟨_, g⟩ := OH.get_push e
      rcases g with ⟨rfl, rfl⟩ | ⟨_, g⟩
      · exact ⟨_, rfl, e2.symm, us, j, rfl, by show IntsAre us (R.L.drop 0).reverse; rw [e1, List.drop_zero, List.reverse_reverse]; exact hi⟩
      · obtain ⟨_, g⟩ := OH.get_lt g
        rw [show otGet 9 (OH.mk .lf 0).t i = none from otGet_lf] at g
        cases g
    · cases e
  exact (lev_sound (btH_ok w.params) drawH_ok 40).2.2 c₀ σ0 restB _ σ' g1 O m _ s Q E hE R0 fun h' tk m' nw' f R' X' hf => by
    obtain ⟨y, rfl, rfl⟩ := hf
    exact k h' tk m' _ R'.fr R'.nws
end
end Vx
end
section
open PySem PySem.W PySem.Calls PyProof.Rows
namespace Mine
abbrev Led := List (Addr × Obj)
/-- what stood in h beside the ledger's objects stands in h' -/
def Keeps (h : Heap) (news : Led) (h' : Heap) : Prop := ∀ b o, h.get? b = some o → b ∉ news.map (·.1) → h'.get? b = some o
/-- the end of a walked def: a value, and what was kept -/
def KeepR (Q E : Value → Shared → Prop) (h : Heap) (news : Led) (r : Result) (s' : Shared) : Prop :=
  Keeps h news s'.heap → match r with | .ok (.ret v) => Q v s' | .ok _ => False | .error e => E e s'

section
variable {prog : Program} {w : World} {A₀ A : Around} {s : Shared} {base h₀ : Heap} {outer : List Env} {L : Addr} {m mg mb : Str → Option Value} {env : Env} {news : List (Addr × Obj)} {K : Frag} {p : Program} {loose : List Str} {mean : ExcName → Option Value}
  {Q E : Value → Shared → Prop} {name qual : Str} {params : Arguments} {body : List Stmt} {scope : Scope} {dV kV doc pm cdv ct oc : Value} {an od : Option Addr} {osl : Array (Option Value)} {f : Addr} {vs : List Value} {kw : List (Str × Value)} {binds : List (Str × Value)}

/-- the call of a def as a code tree, for its own contract -/
theorem enterC (B : Below A₀ base outer h₀) (F : Fr h₀ L s.heap m) (X₀ : K.In h₀) (N : News h₀ L s.heap news) (T : Top p loose mean mg mb h₀) (hA : A.frames = some (env :: outer)) (hf : env.frame = some L) (hke : env.scope.kind = .function)
    (ho : K.lookup f = some ⟨oc, od, .func (fnOf name qual params body scope dV kV doc pm an cdv ct), osl⟩) (hcd : codeIn K cdv qual = true) (hroom : A.depth < recursionLimit)
    (hbind : BindsTo s (fnOf name qual params body scope dV kV doc pm an cdv ct) ⟨vs, kw⟩ binds) (hloc : ∀ y ∈ binds, scope.names.lookup y.1 = some .local)
    (h : ∀ g L' h₁, Fr h₀ L g m → Fr g L' h₁ (fun y => binds.reverse.lookup y) → News g L' h₁ news → Below A base (env :: outer) g → K.In g → Top p loose mean mg mb g →
      wpAny (model prog w) (A.deeper (envOf qual scope L' f cdv)) (execs body (envOf qual scope L' f cdv))
        (fun fl s' => LeaveK h₀ L m g (KeepR Q E s.heap news) (match fl with | .ret v => v | _ => .none) s')
        (fun e s' => wpAny (model prog w) (A.deeper (envOf qual scope L' f cdv)) (leaving (envOf qual scope L' f cdv) e) (fun _ s'' => E e s'') (fun e' s'' => E e' s'') s')
        { s with heap := h₁, toks := s.toks + binds.length })
    (hco : scope.isCoroutine = false) (hgen : scope.isGenerator = false) (hk : scope.kind = .function)
    (hcell : ∀ x ∈ scope.names, x.2 ≠ .cell) : wpAny (model prog w) A (call (.ref f) vs kw) Q E s := by
  refine wpAny_call ?_
  obtain ⟨FG, BG, st, lv⟩ := groundX (R := fun r s' => match r with | .ok (.ret v) => Q v s' | .ok _ => False | .error e => E e s') B F N hA hf hke
  refine codeAny_call_def (fd := fnOf name qual params body scope dV kV doc pm an cdv ct) (body := body) (binds := binds) hroom ((X₀.keeps F.keep) _ _ ho) rfl (T.nolimit.keeps F.keep) (codeRec_of (X₀.keeps F.keep) hcd) rfl hbind hcell hloc (fun h₁ hns hk₁ => ?_) hco hgen hk
  refine wpAny_mono (h _ s.heap.objs.size h₁ FG ⟨hns, fun b o e => hk₁ b o (of_hideAll _ e), Nat.le_of_eq (hideAll_size _ _)⟩
    (fun p hp => ⟨hk₁ _ _ (N p hp).1, Nat.ne_of_lt (Heap.lt_size (N p hp).1), hideAll_none _ (List.mem_map_of_mem hp)⟩) BG (X₀.keeps st) (T.keeps st)) (fun fl s' hl => lv _ _ ?_) fun _ _ y => y
  obtain ⟨L', m', news', F', N', k⟩ := hl
  exact ⟨L', m', news', F', N', fun a b => k a b fun b o e n => F'.keep b o (hideAll_get _ e n)⟩
end

/-- the ledger is as it was, and more -/
def RO (news0 : Led) (P : Value → Led → Prop) (r : Value) (news' : Led) : Prop := ∃ tl, news' = tl ++ news0 ∧ P r tl
theorem fits_small {n : Nat} (h : n ≤ 1000) : n ≤ sizeLine := by
  rw [sizeLine_eq]
  omega
/-- a call of f on the script: what stands below holds it -/
def DoesS (w : World) (sc : Addr) (us : List Value) (k : Nat) (f : Addr) (news : Led) (vs : List Value) (Post : Value → Led → Prop) : Prop :=
  ∀ (mean : ExcName → Option Value) (mg mb : Str → Option Value) (dp un : Nat) (gd : Option (List Code)) (cn : Str) (cs : Scope) (a : Addr) (ccd : Value) (cl : List (Str × Addr)) (outer : List Env) (A₀ : Around) (base h₀ : Heap) (L : Addr) (m : Str → Option Value) (s : Shared) (Q E : Value → Shared → Prop),
    base.IsList sc us.toArray → Below A₀ base outer h₀ → Fr h₀ L s.heap m → (hd.heap_39 w.params).In h₀ → News h₀ L s.heap news → Top hd.view_39 (looseW hd.view_39 [Str.ofString "parameter"]) mean mg mb h₀ → cs.kind = .function →
    dp + k < recursionLimit → un + 8 * k < cLine →
    (∀ (r : Value) (news' : Led) (h' : Heap) (tk' : Nat), Post r news' → Fr h₀ L h' m → News h₀ L h' news' → Keeps s.heap news h' → Q r { s with heap := h', toks := tk' }) →
    wpAny (model PySem.Challenge.rw_pb0364_01.row.prog w) (ktrTop dp un gd cn cs L a ccd cl outer) (call (.ref f) vs) Q E s
section
variable {w : World} {k : Nat} {c : Addr} {cur news0 : Led} {vs : List Value} {mean : ExcName → Option Value} {mg mb : Str → Option Value} {dp un : Nat} {gd : Option (List Code)} {cn : Str} {cs : PySem.Scope} {a : Addr} {ccd : Value} {cl : List (Str × Addr)} {outer : List Env} {A₀ : Around} {base h₀ : Heap} {L : Addr} {m : Str → Option Value} {s : Shared}
theorem useS {sc : Addr} {us : List Value} {f : Addr} {P : Value → Led → Prop} {Q E : Value → Shared → Prop} (C : DoesS w sc us k f news0 vs (RO news0 P)) (hsc : base.IsList sc us.toArray) (B : Below A₀ base outer h₀) (F : Fr h₀ L s.heap m) (X : (hd.heap_39 w.params).In h₀) (N : News h₀ L s.heap cur) (T : Top hd.view_39 (looseW hd.view_39 [Str.ofString "parameter"]) mean mg mb h₀) (hk : cs.kind = .function)
    (hd' : dp + k < recursionLimit) (hu : un + 8 * k < cLine) (sub : ∀ p ∈ news0, p ∈ cur)
    (hret : ∀ (r : Value) (tl : Led) (h' : Heap) (tk' : Nat), P r tl → Fr h₀ L h' m → News h₀ L h' (tl ++ cur) → Q r { s with heap := h', toks := tk' }) :
    wpAny (model PySem.Challenge.rw_pb0364_01.row.prog w) (ktrTop dp un gd cn cs L a ccd cl outer) (call (.ref f) vs) Q E s := by
  refine C mean mg mb dp un gd cn cs a ccd cl outer A₀ base h₀ L m s Q E hsc B F X (fun p hp => N p (sub p hp)) T hk hd' hu ?_
  rintro r _ h' tk' ⟨tl, rfl, hP⟩ F' N' hkp
  refine hret r tl h' tk' hP F' fun p hp => ?_
  rcases List.mem_append.mp hp with hp | hp
  · exact N' p (List.mem_append_left _ hp)
  · by_cases hq : p.1 ∈ news0.map (·.1)
    · obtain ⟨q, hq, hqe⟩ := List.mem_map.mp hq
      have hqe' : q.1 = p.1 := hqe
      have h1 := (N q (sub q hq)).1
      rw [hqe', (N p hp).1] at h1
      have : q = p := Prod.ext hqe' (Option.some.inj h1).symm
      exact N' p (List.mem_append_right _ (this ▸ hq))
    · exact ⟨hkp _ _ (N p hp).1 hq, (N p hp).2⟩
end
/-- a list and a cell stand at two places -/
theorem cell_ne {h₀ h : Heap} {L a b : Addr} {l : Led} {vs : List Value} {n : Nat} {o : Obj} {v : Option Value} (N : News h₀ L h l) (ha : (a, W.listOf vs.toArray n) ∈ l) (hb : (b, o) ∈ l) (hd : o.data = .cell v) : @Ne Nat a b := by
  intro e
  have h1 := (N _ ha).1
  have h2 := (N _ hb).1
  rw [show a = b from e] at h1
  have h3 : W.listOf vs.toArray n = o := Option.some.inj (h1.symm.trans h2)
  rw [← h3] at hd
  cases hd
end Mine
end
section
open PySem PySem.W PySem.Calls PyProof.Rows
namespace Mine
local macro_rules | `(tactic| k_room) => `(tactic| ktr_room)
local macro_rules | `(tactic| k_units) => `(tactic| ktr_units)
local macro_rules | `(tactic| walk_at "mine enter") => `(tactic| (k_dflt (refine' enterC ?k1 ?k2 ?k3 ?k4 ?k5 ?kA ?kF ?kK ?k6 ?k7 ?k8 ?k9 ?kB ?_ ?c2 ?c3 ?c4 ?c5; (case kA => exact rfl); (case kF => exact rfl); (case kK => assumption); (case k1 => k_asm); (case k2 => k_asm); (case k3 => k_asm); (case k4 => k_asm); (case k5 => k_asm); (case k6 => k_is); (case k7 => k_is); (case k8 => ktr_room); (case k9 => first | exact BindsTo.of_eq rfl | exact binds_K (by k_in) rfl (by k_is) rfl rfl rfl); (case c5 => decide); (case kB => exact locs rfl); (case c2 => exact rfl); (case c3 => exact rfl); (case c4 => exact rfl); k_whole); intro g' L' h' FG' F' N' B' X' T'; (try dsimp only); (try k_lift B'); (try k_fold)))
local macro_rules | `(tactic| walk_at "mine sub") => `(tactic| first | exact List.forall_mem_nil _ | exact fun _ h => h | (refine List.forall_mem_cons.mpr ⟨?_, ?_⟩; (k_mem); (walk_at "mine sub")) | (intro p9 hp9; repeat (first | exact hp9 | refine List.Mem.tail _ ?_)))
local macro_rules | `(tactic| walk_at "callWith") => `(tactic| first | with_reducible refine callWith_method0 ?_ | ((with_reducible refine callWith_method1 (he := ?he) (hplain := ?hp) ?_); (case he => rfl); (case hp => rfl)))
local macro_rules | `(tactic| size_fits) => `(tactic| with_unfolding_all exact fits_small (Nat.le_of_ble_eq_true rfl))
local macro_rules | `(tactic| ktr_room) => `(tactic| ((try simp only [depth_under_make, depth_under_kw, depth_in1, depth_deeper, depth_caller]); (try dsimp only [ktrTop]); omega))
local macro_rules | `(tactic| ktr_units) => `(tactic| ((try simp only [units_under_make, units_in1, units_deeper, Around.mark_units, units_caller]); (try dsimp only [ktrTop]); (first | omega | (have hcL9 := cLine_is; omega))))
local macro_rules | `(tactic| k_in) => `(tactic| first | assumption | exact Frag.In.keeps (by k_asm) (Fr.keep (by k_asm)))
theorem ints_app {us vs : List Value} {ms ns : List Int} (h : IntsAre us ms) (g : IntsAre vs ns) : IntsAre (us ++ vs) (ms ++ ns) := by
  induction h with
  | nil => exact g
  | cons n t r ih => exact .cons _ _ ih
theorem ints_rev {us : List Value} {ms : List Int} (h : IntsAre us ms) : IntsAre us.reverse ms.reverse := by
  induction h with
  | nil => exact .nil
  | cons n t r ih =>
    rw [List.reverse_cons, List.reverse_cons]
    exact ints_app ih (.cons _ _ .nil)
theorem rev_I {prog : Program} {w : World} {A : Around} {E : Value → Shared → Prop} {s : Shared} {h₀ : Heap} {L D : Addr} {m : Str → Option Value} {news news' : List (Addr × Obj)} {us : List Value} {ns : List Int} {n : Nat} {Q : Value → Shared → Prop} (F : Fr h₀ L s.heap m) (N : News h₀ L s.heap news)
    (U : Upd D (W.listOf us.toArray n) (W.listOf us.reverse.toArray n) news news') (hi : IntsAre us ns) (hl : ns.length ≤ 160)
    (h : ∀ h', Fr h₀ L h' m → News h₀ L h' news' → IntsAre us.reverse ns.reverse → ns.reverse.length ≤ 160 → Q .none { s with heap := h' }) : wpAny (model prog w) A (call (.builtin "list.reverse") [.ref D]) Q E s := by
  have hu := IntsAre.length hi
  exact kl_reverse F N (by simp) U (by rw [sizeLine_eq]; simp; omega) fun h' F' N' => h h' F' N' (ints_rev hi) (by rw [List.length_reverse]; exact hl)
local macro_rules | `(tactic| walk_at "call builtin:list.reverse") => `(tactic| (k_here; (with_reducible show wpAny _ _ (call (Value.builtin _) [Value.ref _]) _ _ _); k_dflt (refine' rev_I ?F ?N ?U ?i ?z ?_; (case F => k_asm); (case N => k_asm); (case U => k_upd); (case i => assumption); (case z => (rw [List.length_take]; omega)); k_whole); intro h' F' N' iA' iL'; (try k_sweep)))
theorem append_I {prog : Program} {w : World} {A : Around} {E : Value → Shared → Prop} {s : Shared} {h₀ : Heap} {L D : Addr} {m : Str → Option Value} {news news' : List (Addr × Obj)} {us : List Value} {ns : List Int} {n : Nat} {x : Int} {t : Tok} {Q : Value → Shared → Prop} (F : Fr h₀ L s.heap m) (N : News h₀ L s.heap news)
    (U : Upd D (W.listOf us.toArray n) (W.listOf (us ++ [Value.int x t]).toArray (n + 1)) news news') (hi : IntsAre us ns) (hsz : us.length ≤ sizeLine)
    (h : ∀ h', Fr h₀ L h' m → News h₀ L h' news' → IntsAre (us ++ [Value.int x t]) (ns ++ [x]) → Q .none { s with heap := h' }) : wpAny (model prog w) A (call (.builtin "list.append") [.ref D, .int x t]) Q E s := by
  have hA : IntsAre (us ++ [Value.int x t]) (ns ++ [x]) := by
    clear U h hsz
    induction hi with
    | nil => exact .cons _ _ .nil
    | cons n t r ih => exact .cons _ _ ih
  have e : us.toArray.push (Value.int x t) = (us ++ [Value.int x t]).toArray := by simp
  exact append_K F N (e ▸ U) (fun h' F' N' => h h' F' N' hA) (by rw [List.size_toArray]; exact hsz)
local macro_rules | `(tactic| walk_at "call builtin:list.append") => `(tactic| (k_here; (with_reducible show wpAny _ _ (call (Value.builtin _) [Value.ref _, Value.int _ _]) _ _ _); k_dflt (refine' append_I ?F ?N ?U ?i ?z ?_; (case F => k_asm); (case N => k_asm); (case U => k_upd); (case i => assumption); (case z => (rw [sizeLine_eq]; first | omega | (have hL9 := IntsAre.length (by assumption); omega))); k_whole); intro h' F' N' iA'; (try k_sweep)))
set_option maxRecDepth 100000 in
set_option maxHeartbeats 0 in
theorem law_row (w : World) (sc : Addr) (us : List Value) (ns : List Int) (hi : IntsAre us ns) (hl : ns.length ≤ 63) :
    DoesS w sc us 3 401 [] [.ref sc] (RO [] fun r tl => ∃ D vs' ns' n', r = .ref D ∧ tl = [(D, W.listOf vs'.toArray n')] ∧ IntsAre vs' ns' ∧ ns'.length ≤ 160) := by
  unfold DoesS
  k_fill
  intro mean mg mb dp un gd cn cs a ccd cl outer A₀ base h₀ L m s Q E hsc B F X N T hk hd hu hret
  walk_at "mine enter"
  k_with "pyIter ref" => (k_of "cell" => k_state (fun pre row => row.length ≤ 31 * pre.length) "row")
  k_with "pyIter ref" => (k_of "lap" => k_state (fun pre figure row => row.length ≤ 31 * kPre.length + 1 + pre.length) "figure" "row")
  k_with "state" => ((try simp only [List.length_append, List.length_cons, List.length_nil]); omega)
  k_steps
  all_goals first | (intro hkp; exact hret _ _ _ _ ⟨_, rfl, _, _, _, _, rfl, rfl, by assumption, by assumption⟩ (by k_asm) (cb_drop (by assumption) (by walk_at "mine sub")) hkp) | (trace_state; w_report)
end Mine
end
section
open PySem PySem.W PySem.Calls PyProof.Rows
namespace Mine
local macro_rules | `(tactic| walk_at "pad row") => `(tactic| fail)
local macro_rules | `(tactic| walk_at "pad row") => `(tactic| fail)
local macro_rules | `(tactic| walk_at "pad row") => `(tactic| fail)
local macro_rules | `(tactic| walk_at "pad row") => `(tactic| fail)
local macro_rules | `(tactic| walk_at "pad row") => `(tactic| fail)
local macro_rules | `(tactic| k_room) => `(tactic| ktr_room)
local macro_rules | `(tactic| k_units) => `(tactic| ktr_units)
local macro_rules | `(tactic| walk_at "mine sub") => `(tactic| first | exact List.forall_mem_nil _ | exact fun _ h => h | (refine List.forall_mem_cons.mpr ⟨?_, ?_⟩; (k_mem); (walk_at "mine sub")) | (intro p9 hp9; repeat (first | exact hp9 | refine List.Mem.tail _ ?_)))
local macro_rules | `(tactic| ktr_room) => `(tactic| ((try simp only [depth_under_make, depth_under_kw, depth_in1, depth_deeper, depth_caller]); (try dsimp only [ktrTop]); omega))
local macro_rules | `(tactic| ktr_units) => `(tactic| ((try simp only [units_under_make, units_in1, units_deeper, Around.mark_units, units_caller]); (try dsimp only [ktrTop]); (first | omega | (have hcL9 := cLine_is; omega))))
local macro_rules | `(tactic| k_in) => `(tactic| first | assumption | exact Frag.In.keeps (by k_asm) (Fr.keep (by k_asm)))
local macro_rules | `(tactic| walk_at "call ref") => `(tactic| (k_here; (with_reducible show wpAny _ _ (call (Value.ref 401) _) _ _ _); k_dflt (refine' useS (law_row _ _ _ _ ?hi ?hl) ?hsc ?k1 ?k2 ?k3 ?k4 ?k5 ?kK ?kd ?ku ?ks ?_; (case hi => assumption); (case hl => omega); (case hsc => assumption); (case k1 => k_asm); (case k2 => k_asm); (case k3 => k_asm); (case k4 => k_asm); (case k5 => k_asm); (case kK => first | exact rfl | assumption); (case kd => ktr_room); (case ku => ktr_units); (case ks => walk_at "mine sub"); k_whole); intro r9 tl9 h9 tk9 hP9 F9 N9; (obtain ⟨_, _, _, _, e9, e8, iA9, iL9⟩ := hP9; subst e9; subst e8); (k_dflt (simp only [List.nil_append, List.cons_append] at N9)); (k_dflt (have hcD9 := cell_ne N9 (.head _) (.tail _ (.head _)) (by assumption))); (try dsimp only at N9); (try dsimp only); (try k_fold); (try k_sweep)))
local macro_rules | `(tactic| walk_at "execs cons") => `(tactic| (k_here; (with_reducible show wpAny _ _ (execs (Stmt.Assign [Expr.Name (Str.ofString "name") _] _ _ :: _) _) _ _ _); k_dflt (refine' Vx.law_rest ?hoc ?hi ?hl ?hcD ?k1 ?k2 ?k3 ?k4 ?k5 ?kd ?ku ?hE ?_; (case hoc => assumption); (case hi => assumption); (case hl => assumption); (case hcD => assumption); (case k1 => k_asm); (case k2 => k_asm); (case k3 => k_asm); (case k4 => exact cb_drop (by k_asm) (by walk_at "mine sub")); (case k5 => k_asm); (case kd => ktr_room); (case ku => ktr_units); (case hE => passes_own); k_whole); intro h9 tk9 m9 n9 F9 N9; (k_dflt (try dsimp only)); (try k_fold)))
set_option maxRecDepth 100000 in
set_option maxHeartbeats 0 in
theorem law1 : PySem.Challenge.rw_pb0364_01.Holds := by
  refine holds_law said2 (fun said => ?_)
  refine holds_open left2 (Hook.of HK2) (Hook.keeps HK2) (fun s e => xl_of s (Bool.and_eq_true_iff.mp e).1) XL.keeps (by rfl) (by rfl) (by rfl) (fun s e => recFacts_of (Bool.and_eq_true_iff.mp e).2) (by rfl) (by first | assumption | decide +kernel) (by decide +kernel) ⟨rfl, rfl, rfl, rfl, rfl, by decide +kernel⟩ ?hw ?hc
  case hw => w_witness2
  case hc => (delta HK2; k_go0; (all_goals try k_fold); k_steps; (all_goals (try k_data)); all_goals w_report)
end Mine
end
set_option maxRecDepth 100000 in
theorem PySem.Challenge.cw_pb0364_01_holds : PySem.Challenge.rw_pb0364_01.Holds := by
  exact Mine.law1
