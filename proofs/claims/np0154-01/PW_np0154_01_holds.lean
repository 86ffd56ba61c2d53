import PyProof.Rows.All
import Wide.All
import OpenK.AllK
import Wide.FinOn
import Lean
import PySem.Challenge.RW_np0154_01
open PySem PySem.W PyProof.Rows
set_option Elab.async false
set_option maxRecDepth 100000
set_option linter.all false
namespace Mini

section
noncomputable def nthS : List Stmt → Nat → Stmt
  | [], _ => .Pass ⟨0, 0, 0, 0⟩
  | s :: _, 0 => s
  | _ :: r, i + 1 => nthS r i
noncomputable def st (i : Nat) : Stmt := nthS PySem.Challenge.pw_np0154_01.main.body i
noncomputable def me (i j : Nat) : Stmt := match st i with
  | .ClassDef _ _ _ b .. => nthS b j
  | s => s
noncomputable def fu (s : Stmt) (q : Str) (g : Addr) (d m c : Value) : FuncData := match s with
  | .FunctionDef n a b _ _ _ sc _ _ _ => { name := n, qualname := q, params := a, body := .stmts b, scope := sc, globals := g, closure := [], defaults := d, kwdefaults := .none, pyModule := m, code := c }
  | _ => default
noncomputable def fr (s : Stmt) (q : Str) : Obj := { cls := .none, data := .func (fu s q 0 .none .none .none) }
noncomputable def fo (s : Stmt) (q : Str) (d : Value) (m : Str) (t : Tok) (c : Addr) : Obj := { cls := .type "function", data := .func (fu s q 3 d (.str m t) (.ref c)) }
noncomputable def tu (l : Array Value) : Obj := { cls := .type "tuple", data := .seq l }
noncomputable def nf : Obj := { cls := .none, data := .fields #[] }
noncomputable def de (P : Params) (k : Str) (t : Tok) (v : Value) : DictEntry := ⟨PyData.keyHash P k, .str k t, v⟩
noncomputable def x : BT := .nil
noncomputable def n (o : Obj) (l r : BT) : BT := .node o l r
noncomputable def o2 (P : Params) : Obj := { cls := .none, data := .dict #[(de P "type.__subclasses__.Exception.0" 221 (.int 38 0)), (de P "type.__subclasses__.Exception.n" 222 (.int 2 0)), (de P "type.__subclasses__.Exception.1" 297 (.int 84 0))] 3 }
noncomputable def o3 (P : Params) : Obj := { cls := .type "dict", data := .dict #[(de P "__name__" 165 (.str "law_np0154_01" 1119)), (de P "__doc__" 166 (.none)), (de P "__package__" 167 (.none)), (de P "__loader__" 168 (.builtin "__main__.__loader__#opaque")), (de P "__spec__" 169 (.none)), (de P "__annotations__" 170 (.ref 6)), (de P "__builtins__" 171 (.ref 4)), (de P "__file__" 173 (.str "/claim/cut.py" 172)), (de P "__cached__" 174 (.none)), (de P "_wall" 193 (.ref 21)), (de P "TclFault" 224 (.ref 38)), (de P "Misused" 240 (.ref 51)), (de P "OutOfFuel" 256 (.ref 63)), (de P "Raised" 300 (.ref 84)), (de P "Nest" 336 (.ref 105)), (de P "Pause" 367 (.ref 126)), (de P "error" 376 (.ref 139)), (de P "cut" 384 (.ref 146)), (de P "note" 392 (.ref 153)), (de P "note_row" 400 (.ref 160)), (de P "end_return" 407 (.ref 167)), (de P "end_proc" 417 (.ref 174)), (de P "is_blank" 426 (.ref 181)), (de P "digit" 434 (.ref 188)), (de P "hex_sign" 448 (.ref 195)), (de P "octal_sign" 459 (.ref 202)), (de P "backslash" 470 (.ref 209)), (de P "is_gap" 477 (.ref 216)), (de P "skip_gaps" 485 (.ref 223)), (de P "comment_behind" 494 (.ref 230)), (de P "skip_to_command" 502 (.ref 237)), (de P "read_name" 510 (.ref 244)), (de P "variable" 522 (.ref 251)), (de P "brackets" 533 (.ref 258)), (de P "braces" 548 (.ref 265)), (de P "parts_until" 564 (.ref 272)), (de P "bare_stops" 571 (.ref 279)), (de P "is_expanded" 580 (.ref 286)), (de P "word" 595 (.ref 293)), (de P "command_at" 610 (.ref 301)), (de P "check_behind" 622 (.ref 308)), (de P "braced_element" 633 (.ref 315)), (de P "quoted_element" 643 (.ref 322)), (de P "bare_element" 653 (.ref 329)), (de P "find_element" 661 (.ref 336)), (de P "split_list" 670 (.ref 343)), (de P "mode_of" 686 (.ref 350)), (de P "escaped" 695 (.ref 357)), (de P "quote" 706 (.ref 365)), (de P "join_list" 715 (.ref 372)), (de P "Var" 750 (.ref 389)), (de P "text_of" 763 (.ref 400)), (de P "words_of" 774 (.ref 407)), (de P "blame" 784 (.ref 414)), (de P "run_script" 799 (.ref 421)), (de P "Host" 911 (.ref 502)), (de P "no_variable" 920 (.ref 513)), (de P "var_in" 928 (.ref 520)), (de P "put_value" 937 (.ref 527)), (de P "elements_in" 947 (.ref 534)), (de P "pair_of" 954 (.ref 541)), (de P "act" 964 (.ref 548)), (de P "SmallHost" 1118 (.ref 665)), (de P "_law_next" 1128 (.ref 674)), (de P "_law_sign" 1138 (.ref 681)), (de P "_law_drawn" 1149 (.ref 688)), (de P "_law_fixed" 1155 (.ref 695)), (de P "_law_hex" 1165 (.ref 702)), (de P "_law_coded" 1175 (.ref 709)), (de P "_law_spelled" 1188 (.ref 716)), (de P "_law_may_brace" 1198 (.ref 723)), (de P "_law_written" 1208 (.ref 730)), (de P "_law_command" 1220 (.ref 737)), (de P "_law_record" 1229 (.ref 744)), (de P "law" 1250 (.ref 751))] 75 }
noncomputable def o11 : Obj := tu #[]
noncomputable def o12 : Obj := { cls := .none, data := .fields #[.int 1 0, .int 0 0, .ref 20, .int 5 0, .int 0 0, .ref 27, .int 10 0, .int 0 0, .ref 47, .int 12 0, .int 0 0, .ref 59, .int 14 0, .int 0 0, .ref 71, .int 27 0, .int 0 0, .ref 93, .int 34 0, .int 0 0, .ref 115, .int 39 0, .int 0 0, .ref 138, .int 41 0, .int 0 0, .ref 145, .int 45 0, .int 0 0, .ref 152, .int 53 0, .int 0 0, .ref 159, .int 60 0, .int 0 0, .ref 166, .int 68 0, .int 0 0, .ref 173, .int 83 0, .int 0 0, .ref 180, .int 85 0, .int 0 0, .ref 187, .int 97 0, .int 0 0, .ref 194, .int 114 0, .int 0 0, .ref 201, .int 124 0, .int 0 0, .ref 208, .int 141 0, .int 0 0, .ref 215, .int 143 0, .int 0 0, .ref 222, .int 152 0, .int 0 0, .ref 229, .int 162 0, .int 0 0, .ref 236, .int 171 0, .int 0 0, .ref 243, .int 182 0, .int 0 0, .ref 250, .int 198 0, .int 0 0, .ref 257, .int 207 0, .int 0 0, .ref 264, .int 233 0, .int 0 0, .ref 271, .int 263 0, .int 0 0, .ref 278, .int 267 0, .int 0 0, .ref 285, .int 274 0, .int 0 0, .ref 292, .int 291 0, .int 0 0, .ref 300, .int 313 0, .int 0 0, .ref 307, .int 320 0, .int 0 0, .ref 314, .int 335 0, .int 0 0, .ref 321, .int 348 0, .int 0 0, .ref 328, .int 358 0, .int 0 0, .ref 335, .int 368 0, .int 0 0, .ref 342, .int 375 0, .int 0 0, .ref 349, .int 409 0, .int 0 0, .ref 356, .int 416 0, .int 0 0, .ref 364, .int 428 0, .int 0 0, .ref 371, .int 434 0, .int 0 0, .ref 378, .int 444 0, .int 0 0, .ref 399, .int 457 0, .int 0 0, .ref 406, .int 466 0, .int 0 0, .ref 413, .int 473 0, .int 0 0, .ref 420, .int 489 0, .int 0 0, .ref 427, .int 554 0, .int 0 0, .ref 512, .int 557 0, .int 0 0, .ref 519, .int 561 0, .int 0 0, .ref 526, .int 566 0, .int 0 0, .ref 533, .int 572 0, .int 0 0, .ref 540, .int 576 0, .int 0 0, .ref 547, .int 580 0, .int 0 0, .ref 554, .int 644 0, .int 0 0, .ref 673, .int 648 0, .int 0 0, .ref 680, .int 655 0, .int 0 0, .ref 687, .int 663 0, .int 0 0, .ref 694, .int 665 0, .int 0 0, .ref 701, .int 671 0, .int 0 0, .ref 708, .int 687 0, .int 0 0, .ref 715, .int 696 0, .int 0 0, .ref 722, .int 712 0, .int 0 0, .ref 729, .int 721 0, .int 0 0, .ref 736, .int 735 0, .int 0 0, .ref 743, .int 738 0, .int 0 0, .ref 750] }
noncomputable def o13 : Obj := { cls := .type "code", data := .fields #[.str "<module>" 182, .str "<module>" 183, .str "/claim/cut.py" 184, .int 1 0, .int 0 0, .int 0 0, .int 0 0, .int 0 0, .ref 11, .bool false, .int 181 0, .ref 12, .none, .none, .none, .none, .int 185 0, .int 1 0, .str "/claim/cut.py" 186] }
noncomputable def o14 : Obj := { cls := .type "frame", slots := #[some (.ref 13), some (.ref 3), some (.ref 3), none, some (.str "__main__" 164), none, some (.ref 0)] }
noncomputable def o16 : Obj := nf
noncomputable def o17 : Obj := tu #[.str "k" 190]
noncomputable def o19 : Obj := fr (st 0) "_wall"
noncomputable def o20 : Obj := { cls := .type "code", data := .fields #[.str "_wall" 187, .str "_wall" 188, .str "/claim/cut.py" 189, .int 1 0, .int 1 0, .int 0 0, .int 0 0, .int 3 0, .ref 15, .bool true, .int 181 0, .ref 16, .none, .ref 17, .ref 18, .ref 19, .int 191 0, .int 1 0, .str "/claim/cut.py" 192] }
noncomputable def o21 : Obj := fo (st 0) "_wall" .none "__main__" 164 20
noncomputable def o22 : Obj := tu #[.type "Exception"]
noncomputable def o23 : Obj := { cls := .type "builtin_function_or_method", data := .fields #[.builtin "type.__prepare__", .type "type"] }
noncomputable def o24 (P : Params) : Obj := { cls := .type "dict", data := .dict #[(de P "__module__" 203 (.str "tclcore.faults" 194)), (de P "__qualname__" 205 (.str "TclFault" 204)), (de P "__firstlineno__" 207 (.int 5 206)), (de P "__init__" 215 (.ref 35)), (de P "__static_attributes__" 217 (.ref 36))] 5 }
noncomputable def o26 : Obj := { cls := .none, data := .fields #[.int 7 0, .int 4 0, .ref 34] }
noncomputable def o27 : Obj := { cls := .type "code", data := .fields #[.str "TclFault" 198, .str "TclFault" 199, .str "/claim/cut.py" 200, .int 5 0, .int 0 0, .int 0 0, .int 0 0, .int 0 0, .ref 25, .bool false, .int 181 0, .ref 26, .none, .none, .none, .none, .int 201 0, .int 5 0, .str "/claim/cut.py" 202] }
noncomputable def o28 : Obj := { cls := .type "frame", slots := #[some (.ref 27), some (.ref 3), some (.ref 24), none, some (.str "tclcore.faults" 194), none, some (.ref 0)] }
noncomputable def o31 : Obj := tu #[.str "self" 211, .str "why" 212]
noncomputable def o33 : Obj := fr (me 2 0) "TclFault.__init__"
noncomputable def o34 : Obj := { cls := .type "code", data := .fields #[.str "__init__" 208, .str "TclFault.__init__" 209, .str "/claim/cut.py" 210, .int 7 0, .int 2 0, .int 0 0, .int 0 0, .int 3 0, .ref 29, .bool true, .int 181 0, .ref 30, .none, .ref 31, .ref 32, .ref 33, .int 213 0, .int 7 0, .str "/claim/cut.py" 214] }
noncomputable def o35 : Obj := fo (me 2 0) "TclFault.__init__" .none "tclcore.faults" 194 34
noncomputable def o36 : Obj := tu #[.str "why" 216]
noncomputable def o37 (P : Params) : Obj := { cls := .type "dict", data := .dict #[(de P "__module__" 203 (.str "tclcore.faults" 194)), (de P "__firstlineno__" 207 (.int 5 206)), (de P "__init__" 215 (.ref 35)), (de P "__static_attributes__" 217 (.ref 36)), (de P "__weakref__" 219 (.ref 39)), (de P "__doc__" 220 (.none))] 3 }
noncomputable def o38 : Obj := { cls := .type "type", data := .cls { name := "TclFault", bases := [.type "Exception"], mro := [.ref 38, .type "Exception", .type "BaseException", .type "object"], ns := 37, qualname := "TclFault", subclasses := [.ref 51, .ref 63] }, slots := #[some (.ref 22), none, some (.str "TclFault" 196), some (.str "TclFault" 204), some (.builtin "Exception.__new__"), some (.bool true)] }
noncomputable def o39 : Obj := { cls := .type "getset_descriptor", data := .fields #[.str "__weakref__" 218, .ref 38, .builtin "ExceptionGroup.__weakref__", .none] }
noncomputable def o40 : Obj := { cls := .type "super", data := .fields #[.ref 38, .ref 38, .ref 38] }
noncomputable def o41 : Obj := { cls := .type "builtin_function_or_method", data := .fields #[.builtin "object.__init_subclass__", .ref 38] }
noncomputable def o42 : Obj := tu #[.ref 38]
noncomputable def o44 (P : Params) : Obj := { cls := .type "dict", data := .dict #[(de P "__module__" 232 (.str "tclcore.faults" 194)), (de P "__qualname__" 234 (.str "Misused" 233)), (de P "__firstlineno__" 236 (.int 10 235)), (de P "__static_attributes__" 237 (.ref 49))] 4 }
noncomputable def o47 : Obj := { cls := .type "code", data := .fields #[.str "Misused" 227, .str "Misused" 228, .str "/claim/cut.py" 229, .int 10 0, .int 0 0, .int 0 0, .int 0 0, .int 0 0, .ref 45, .bool false, .int 181 0, .ref 46, .none, .none, .none, .none, .int 230 0, .int 10 0, .str "/claim/cut.py" 231] }
noncomputable def o48 : Obj := { cls := .type "frame", slots := #[some (.ref 47), some (.ref 3), some (.ref 44), none, some (.str "tclcore.faults" 194), none, some (.ref 0)] }
noncomputable def o50 (P : Params) : Obj := { cls := .type "dict", data := .dict #[(de P "__module__" 232 (.str "tclcore.faults" 194)), (de P "__firstlineno__" 236 (.int 10 235)), (de P "__static_attributes__" 237 (.ref 49)), (de P "__doc__" 238 (.none))] 2 }
noncomputable def o51 : Obj := { cls := .type "type", data := .cls { name := "Misused", bases := [.ref 38], mro := [.ref 51, .ref 38, .type "Exception", .type "BaseException", .type "object"], ns := 50, qualname := "Misused" }, slots := #[some (.ref 42), none, some (.str "Misused" 225), some (.str "Misused" 233), some (.builtin "Exception.__new__"), some (.bool true)] }
noncomputable def o52 : Obj := { cls := .type "super", data := .fields #[.ref 51, .ref 51, .ref 51] }
noncomputable def o53 : Obj := { cls := .type "builtin_function_or_method", data := .fields #[.builtin "object.__init_subclass__", .ref 51] }
noncomputable def o56 (P : Params) : Obj := { cls := .type "dict", data := .dict #[(de P "__module__" 248 (.str "tclcore.faults" 194)), (de P "__qualname__" 250 (.str "OutOfFuel" 249)), (de P "__firstlineno__" 252 (.int 12 251)), (de P "__static_attributes__" 253 (.ref 61))] 4 }
noncomputable def o59 : Obj := { cls := .type "code", data := .fields #[.str "OutOfFuel" 243, .str "OutOfFuel" 244, .str "/claim/cut.py" 245, .int 12 0, .int 0 0, .int 0 0, .int 0 0, .int 0 0, .ref 57, .bool false, .int 181 0, .ref 58, .none, .none, .none, .none, .int 246 0, .int 12 0, .str "/claim/cut.py" 247] }
noncomputable def o60 : Obj := { cls := .type "frame", slots := #[some (.ref 59), some (.ref 3), some (.ref 56), none, some (.str "tclcore.faults" 194), none, some (.ref 0)] }
noncomputable def o62 (P : Params) : Obj := { cls := .type "dict", data := .dict #[(de P "__module__" 248 (.str "tclcore.faults" 194)), (de P "__firstlineno__" 252 (.int 12 251)), (de P "__static_attributes__" 253 (.ref 61)), (de P "__doc__" 254 (.none))] 2 }
noncomputable def o63 : Obj := { cls := .type "type", data := .cls { name := "OutOfFuel", bases := [.ref 38], mro := [.ref 63, .ref 38, .type "Exception", .type "BaseException", .type "object"], ns := 62, qualname := "OutOfFuel" }, slots := #[some (.ref 54), none, some (.str "OutOfFuel" 241), some (.str "OutOfFuel" 249), some (.builtin "Exception.__new__"), some (.bool true)] }
noncomputable def o64 : Obj := { cls := .type "super", data := .fields #[.ref 63, .ref 63, .ref 63] }
noncomputable def o65 : Obj := { cls := .type "builtin_function_or_method", data := .fields #[.builtin "object.__init_subclass__", .ref 63] }
noncomputable def o68 (P : Params) : Obj := { cls := .type "dict", data := .dict #[(de P "__module__" 264 (.str "tclcore.faults" 194)), (de P "__qualname__" 266 (.str "Raised" 265)), (de P "__firstlineno__" 268 (.int 14 267)), (de P "__init__" 283 (.ref 81)), (de P "__static_attributes__" 293 (.ref 82))] 5 }
noncomputable def o70 : Obj := { cls := .none, data := .fields #[.int 16 0, .int 4 0, .ref 80] }
noncomputable def o71 : Obj := { cls := .type "code", data := .fields #[.str "Raised" 259, .str "Raised" 260, .str "/claim/cut.py" 261, .int 14 0, .int 0 0, .int 0 0, .int 0 0, .int 0 0, .ref 69, .bool false, .int 181 0, .ref 70, .none, .none, .none, .none, .int 262 0, .int 14 0, .str "/claim/cut.py" 263] }
noncomputable def o72 : Obj := { cls := .type "frame", slots := #[some (.ref 71), some (.ref 3), some (.ref 68), none, some (.str "tclcore.faults" 194), none, some (.ref 0)] }
noncomputable def o73 : Obj := tu #[.str "NONE" 269]
noncomputable def o74 : Obj := tu #[.ref 73, .int 0 270, .int 0 271]
noncomputable def o77 : Obj := tu #[.str "self" 275, .str "code" 276, .str "value" 277, .str "errorcode" 278, .str "level" 279, .str "ret" 280]
noncomputable def o79 : Obj := fr (me 5 0) "Raised.__init__"
noncomputable def o80 : Obj := { cls := .type "code", data := .fields #[.str "__init__" 272, .str "Raised.__init__" 273, .str "/claim/cut.py" 274, .int 16 0, .int 6 0, .int 0 0, .int 0 0, .int 3 0, .ref 75, .bool true, .int 181 0, .ref 76, .none, .ref 77, .ref 78, .ref 79, .int 281 0, .int 16 0, .str "/claim/cut.py" 282] }
noncomputable def o81 : Obj := fo (me 5 0) "Raised.__init__" (.ref 74) "tclcore.faults" 194 80
noncomputable def o82 : Obj := tu #[.str "code" 284, .str "errorcode" 285, .str "extra" 286, .str "info" 287, .str "is_noted" 288, .str "level" 289, .str "line" 290, .str "ret" 291, .str "value" 292]
noncomputable def o83 (P : Params) : Obj := { cls := .type "dict", data := .dict #[(de P "__module__" 264 (.str "tclcore.faults" 194)), (de P "__firstlineno__" 268 (.int 14 267)), (de P "__init__" 283 (.ref 81)), (de P "__static_attributes__" 293 (.ref 82)), (de P "__weakref__" 295 (.ref 85)), (de P "__doc__" 296 (.none))] 3 }
noncomputable def o84 : Obj := { cls := .type "type", data := .cls { name := "Raised", bases := [.type "Exception"], mro := [.ref 84, .type "Exception", .type "BaseException", .type "object"], ns := 83, qualname := "Raised" }, slots := #[some (.ref 66), none, some (.str "Raised" 257), some (.str "Raised" 265), some (.builtin "Exception.__new__"), some (.bool true)] }
noncomputable def o85 : Obj := { cls := .type "getset_descriptor", data := .fields #[.str "__weakref__" 294, .ref 84, .builtin "ExceptionGroup.__weakref__", .none] }
noncomputable def o86 : Obj := { cls := .type "super", data := .fields #[.ref 84, .ref 84, .ref 84] }
noncomputable def o87 : Obj := { cls := .type "builtin_function_or_method", data := .fields #[.builtin "object.__init_subclass__", .ref 84] }
noncomputable def o90 (P : Params) : Obj := { cls := .type "dict", data := .dict #[(de P "__module__" 308 (.str "tclcore.faults" 194)), (de P "__qualname__" 310 (.str "Nest" 309)), (de P "__firstlineno__" 312 (.int 27 311)), (de P "__init__" 324 (.ref 102)), (de P "__static_attributes__" 329 (.ref 103))] 5 }
noncomputable def o92 : Obj := { cls := .none, data := .fields #[.int 29 0, .int 4 0, .ref 101] }
noncomputable def o93 : Obj := { cls := .type "code", data := .fields #[.str "Nest" 303, .str "Nest" 304, .str "/claim/cut.py" 305, .int 27 0, .int 0 0, .int 0 0, .int 0 0, .int 0 0, .ref 91, .bool false, .int 181 0, .ref 92, .none, .none, .none, .none, .int 306 0, .int 27 0, .str "/claim/cut.py" 307] }
noncomputable def o94 : Obj := { cls := .type "frame", slots := #[some (.ref 93), some (.ref 3), some (.ref 90), none, some (.str "tclcore.faults" 194), none, some (.ref 0)] }
noncomputable def o95 : Obj := tu #[.none, .bool false, .str "" 313]
noncomputable def o98 : Obj := tu #[.str "self" 317, .str "script" 318, .str "back" 319, .str "is_proc" 320, .str "label" 321]
noncomputable def o100 : Obj := fr (me 6 0) "Nest.__init__"
noncomputable def o101 : Obj := { cls := .type "code", data := .fields #[.str "__init__" 314, .str "Nest.__init__" 315, .str "/claim/cut.py" 316, .int 29 0, .int 5 0, .int 0 0, .int 0 0, .int 3 0, .ref 96, .bool true, .int 181 0, .ref 97, .none, .ref 98, .ref 99, .ref 100, .int 322 0, .int 29 0, .str "/claim/cut.py" 323] }
noncomputable def o102 : Obj := fo (me 6 0) "Nest.__init__" (.ref 95) "tclcore.faults" 194 101
noncomputable def o103 : Obj := tu #[.str "back" 325, .str "is_proc" 326, .str "label" 327, .str "script" 328]
noncomputable def o104 (P : Params) : Obj := { cls := .type "dict", data := .dict #[(de P "__module__" 308 (.str "tclcore.faults" 194)), (de P "__firstlineno__" 312 (.int 27 311)), (de P "__init__" 324 (.ref 102)), (de P "__static_attributes__" 329 (.ref 103)), (de P "__dict__" 331 (.ref 106)), (de P "__weakref__" 333 (.ref 107)), (de P "__doc__" 334 (.none))] 4 }
noncomputable def o105 : Obj := { cls := .type "type", data := .cls { name := "Nest", bases := [.type "object"], mro := [.ref 105, .type "object"], ns := 104, qualname := "Nest" }, slots := #[none, none, some (.str "Nest" 301), some (.str "Nest" 309), some (.builtin "object.__new__"), some (.bool true)] }
noncomputable def o106 : Obj := { cls := .type "getset_descriptor", data := .fields #[.str "__dict__" 330, .ref 105, .builtin "function.__dict__", .builtin "function.__dict__#set"] }
noncomputable def o107 : Obj := { cls := .type "getset_descriptor", data := .fields #[.str "__weakref__" 332, .ref 105, .builtin "ExceptionGroup.__weakref__", .none] }
noncomputable def o108 : Obj := { cls := .type "super", data := .fields #[.ref 105, .ref 105, .ref 105] }
noncomputable def o109 : Obj := { cls := .type "builtin_function_or_method", data := .fields #[.builtin "object.__init_subclass__", .ref 105] }
noncomputable def o112 (P : Params) : Obj := { cls := .type "dict", data := .dict #[(de P "__module__" 344 (.str "tclcore.faults" 194)), (de P "__qualname__" 346 (.str "Pause" 345)), (de P "__firstlineno__" 348 (.int 34 347)), (de P "__init__" 357 (.ref 123)), (de P "__static_attributes__" 360 (.ref 124))] 5 }
noncomputable def o114 : Obj := { cls := .none, data := .fields #[.int 36 0, .int 4 0, .ref 122] }
noncomputable def o115 : Obj := { cls := .type "code", data := .fields #[.str "Pause" 339, .str "Pause" 340, .str "/claim/cut.py" 341, .int 34 0, .int 0 0, .int 0 0, .int 0 0, .int 0 0, .ref 113, .bool false, .int 181 0, .ref 114, .none, .none, .none, .none, .int 342 0, .int 34 0, .str "/claim/cut.py" 343] }
noncomputable def o116 : Obj := { cls := .type "frame", slots := #[some (.ref 115), some (.ref 3), some (.ref 112), none, some (.str "tclcore.faults" 194), none, some (.ref 0)] }
noncomputable def o119 : Obj := tu #[.str "self" 352, .str "kind" 353, .str "words" 354]
noncomputable def o121 : Obj := fr (me 7 0) "Pause.__init__"
noncomputable def o122 : Obj := { cls := .type "code", data := .fields #[.str "__init__" 349, .str "Pause.__init__" 350, .str "/claim/cut.py" 351, .int 36 0, .int 3 0, .int 0 0, .int 0 0, .int 3 0, .ref 117, .bool true, .int 181 0, .ref 118, .none, .ref 119, .ref 120, .ref 121, .int 355 0, .int 36 0, .str "/claim/cut.py" 356] }
noncomputable def o123 : Obj := fo (me 7 0) "Pause.__init__" .none "tclcore.faults" 194 122
noncomputable def o124 : Obj := tu #[.str "kind" 358, .str "words" 359]
noncomputable def o125 (P : Params) : Obj := { cls := .type "dict", data := .dict #[(de P "__module__" 344 (.str "tclcore.faults" 194)), (de P "__firstlineno__" 348 (.int 34 347)), (de P "__init__" 357 (.ref 123)), (de P "__static_attributes__" 360 (.ref 124)), (de P "__dict__" 362 (.ref 127)), (de P "__weakref__" 364 (.ref 128)), (de P "__doc__" 365 (.none))] 4 }
noncomputable def o126 : Obj := { cls := .type "type", data := .cls { name := "Pause", bases := [.type "object"], mro := [.ref 126, .type "object"], ns := 125, qualname := "Pause" }, slots := #[none, none, some (.str "Pause" 337), some (.str "Pause" 345), some (.builtin "object.__new__"), some (.bool true)] }
noncomputable def o127 : Obj := { cls := .type "getset_descriptor", data := .fields #[.str "__dict__" 361, .ref 126, .builtin "function.__dict__", .builtin "function.__dict__#set"] }
noncomputable def o128 : Obj := { cls := .type "getset_descriptor", data := .fields #[.str "__weakref__" 363, .ref 126, .builtin "ExceptionGroup.__weakref__", .none] }
noncomputable def o129 : Obj := { cls := .type "super", data := .fields #[.ref 126, .ref 126, .ref 126] }
noncomputable def o130 : Obj := { cls := .type "builtin_function_or_method", data := .fields #[.builtin "object.__init_subclass__", .ref 126] }
noncomputable def o131 : Obj := tu #[.str "NONE" 368]
noncomputable def o132 : Obj := tu #[.ref 131]
noncomputable def o135 : Obj := tu #[.str "text" 372, .str "errorcode" 373]
noncomputable def o137 : Obj := fr (st 8) "error"
noncomputable def o138 : Obj := { cls := .type "code", data := .fields #[.str "error" 369, .str "error" 370, .str "/claim/cut.py" 371, .int 39 0, .int 2 0, .int 0 0, .int 0 0, .int 3 0, .ref 133, .bool true, .int 181 0, .ref 134, .none, .ref 135, .ref 136, .ref 137, .int 374 0, .int 39 0, .str "/claim/cut.py" 375] }
noncomputable def o139 : Obj := fo (st 8) "error" (.ref 132) "tclcore.faults" 194 138
noncomputable def o142 : Obj := tu #[.str "text" 380, .str "most" 381]
noncomputable def o144 : Obj := fr (st 9) "cut"
noncomputable def o145 : Obj := { cls := .type "code", data := .fields #[.str "cut" 377, .str "cut" 378, .str "/claim/cut.py" 379, .int 41 0, .int 2 0, .int 0 0, .int 0 0, .int 3 0, .ref 140, .bool true, .int 181 0, .ref 141, .none, .ref 142, .ref 143, .ref 144, .int 382 0, .int 41 0, .str "/claim/cut.py" 383] }
noncomputable def o146 : Obj := fo (st 9) "cut" .none "tclcore.faults" 194 145
noncomputable def o149 : Obj := tu #[.str "raised" 388, .str "source" 389]
noncomputable def o151 : Obj := fr (st 10) "note"
noncomputable def o152 : Obj := { cls := .type "code", data := .fields #[.str "note" 385, .str "note" 386, .str "/claim/cut.py" 387, .int 45 0, .int 2 0, .int 0 0, .int 0 0, .int 3 0, .ref 147, .bool true, .int 181 0, .ref 148, .none, .ref 149, .ref 150, .ref 151, .int 390 0, .int 45 0, .str "/claim/cut.py" 391] }
noncomputable def o153 : Obj := fo (st 10) "note" .none "tclcore.faults" 194 152
noncomputable def o156 : Obj := tu #[.str "raised" 396, .str "text" 397]
noncomputable def o158 : Obj := fr (st 11) "note_row"
noncomputable def o159 : Obj := { cls := .type "code", data := .fields #[.str "note_row" 393, .str "note_row" 394, .str "/claim/cut.py" 395, .int 53 0, .int 2 0, .int 0 0, .int 0 0, .int 3 0, .ref 154, .bool true, .int 181 0, .ref 155, .none, .ref 156, .ref 157, .ref 158, .int 398 0, .int 53 0, .str "/claim/cut.py" 399] }
noncomputable def o160 : Obj := fo (st 11) "note_row" .none "tclcore.faults" 194 159
noncomputable def o163 : Obj := tu #[.str "raised" 404]
noncomputable def o165 : Obj := fr (st 12) "end_return"
noncomputable def o166 : Obj := { cls := .type "code", data := .fields #[.str "end_return" 401, .str "end_return" 402, .str "/claim/cut.py" 403, .int 60 0, .int 1 0, .int 0 0, .int 0 0, .int 3 0, .ref 161, .bool true, .int 181 0, .ref 162, .none, .ref 163, .ref 164, .ref 165, .int 405 0, .int 60 0, .str "/claim/cut.py" 406] }
noncomputable def o167 : Obj := fo (st 12) "end_return" .none "tclcore.faults" 194 166
noncomputable def o170 : Obj := tu #[.str "nest" 411, .str "raised" 412, .str "fault" 413, .str "word" 414]
noncomputable def o172 : Obj := fr (st 13) "end_proc"
noncomputable def o173 : Obj := { cls := .type "code", data := .fields #[.str "end_proc" 408, .str "end_proc" 409, .str "/claim/cut.py" 410, .int 68 0, .int 2 0, .int 0 0, .int 0 0, .int 3 0, .ref 168, .bool true, .int 181 0, .ref 169, .none, .ref 170, .ref 171, .ref 172, .int 415 0, .int 68 0, .str "/claim/cut.py" 416] }
noncomputable def o174 : Obj := fo (st 13) "end_proc" .none "tclcore.faults" 194 173
noncomputable def o177 : Obj := tu #[.str "c" 423]
noncomputable def o179 : Obj := fr (st 15) "is_blank"
noncomputable def o180 : Obj := { cls := .type "code", data := .fields #[.str "is_blank" 420, .str "is_blank" 421, .str "/claim/cut.py" 422, .int 83 0, .int 1 0, .int 0 0, .int 0 0, .int 3 0, .ref 175, .bool true, .int 181 0, .ref 176, .none, .ref 177, .ref 178, .ref 179, .int 424 0, .int 83 0, .str "/claim/cut.py" 425] }
noncomputable def o181 : Obj := fo (st 15) "is_blank" .none "tclcore.numbers" 418 180
noncomputable def o184 : Obj := tu #[.str "c" 430, .str "n" 431]
noncomputable def o186 : Obj := fr (st 16) "digit"
noncomputable def o187 : Obj := { cls := .type "code", data := .fields #[.str "digit" 427, .str "digit" 428, .str "/claim/cut.py" 429, .int 85 0, .int 1 0, .int 0 0, .int 0 0, .int 3 0, .ref 182, .bool true, .int 181 0, .ref 183, .none, .ref 184, .ref 185, .ref 186, .int 432 0, .int 85 0, .str "/claim/cut.py" 433] }
noncomputable def o188 : Obj := fo (st 16) "digit" .none "tclcore.numbers" 418 187
noncomputable def o191 : Obj := tu #[.str "text" 440, .str "at" 441, .str "most" 442, .str "place" 443, .str "value" 444, .str "step" 445]
noncomputable def o193 : Obj := fr (st 18) "hex_sign"
noncomputable def o194 : Obj := { cls := .type "code", data := .fields #[.str "hex_sign" 437, .str "hex_sign" 438, .str "/claim/cut.py" 439, .int 97 0, .int 2 0, .int 0 0, .int 0 0, .int 3 0, .ref 189, .bool true, .int 181 0, .ref 190, .none, .ref 191, .ref 192, .ref 193, .int 446 0, .int 97 0, .str "/claim/cut.py" 447] }
noncomputable def o195 : Obj := fo (st 18) "hex_sign" .none "tclcore.words" 435 194
noncomputable def o198 : Obj := tu #[.str "text" 452, .str "at" 453, .str "place" 454, .str "value" 455, .str "step" 456]
noncomputable def o200 : Obj := fr (st 19) "octal_sign"
noncomputable def o201 : Obj := { cls := .type "code", data := .fields #[.str "octal_sign" 449, .str "octal_sign" 450, .str "/claim/cut.py" 451, .int 114 0, .int 2 0, .int 0 0, .int 0 0, .int 3 0, .ref 196, .bool true, .int 181 0, .ref 197, .none, .ref 198, .ref 199, .ref 200, .int 457 0, .int 114 0, .str "/claim/cut.py" 458] }
noncomputable def o202 : Obj := fo (st 19) "octal_sign" .none "tclcore.words" 435 201
noncomputable def o205 : Obj := tu #[.str "text" 463, .str "at" 464, .str "sign" 465, .str "known" 466, .str "behind" 467]
noncomputable def o207 : Obj := fr (st 20) "backslash"
noncomputable def o208 : Obj := { cls := .type "code", data := .fields #[.str "backslash" 460, .str "backslash" 461, .str "/claim/cut.py" 462, .int 124 0, .int 2 0, .int 0 0, .int 0 0, .int 3 0, .ref 203, .bool true, .int 181 0, .ref 204, .none, .ref 205, .ref 206, .ref 207, .int 468 0, .int 124 0, .str "/claim/cut.py" 469] }
noncomputable def o209 : Obj := fo (st 20) "backslash" .none "tclcore.words" 435 208
noncomputable def o212 : Obj := tu #[.str "c" 474]
noncomputable def o214 : Obj := fr (st 21) "is_gap"
noncomputable def o215 : Obj := { cls := .type "code", data := .fields #[.str "is_gap" 471, .str "is_gap" 472, .str "/claim/cut.py" 473, .int 141 0, .int 1 0, .int 0 0, .int 0 0, .int 3 0, .ref 210, .bool true, .int 181 0, .ref 211, .none, .ref 212, .ref 213, .ref 214, .int 475 0, .int 141 0, .str "/claim/cut.py" 476] }
noncomputable def o216 : Obj := fo (st 21) "is_gap" .none "tclcore.words" 435 215
noncomputable def o219 : Obj := tu #[.str "text" 481, .str "at" 482]
noncomputable def o221 : Obj := fr (st 22) "skip_gaps"
noncomputable def o222 : Obj := { cls := .type "code", data := .fields #[.str "skip_gaps" 478, .str "skip_gaps" 479, .str "/claim/cut.py" 480, .int 143 0, .int 2 0, .int 0 0, .int 0 0, .int 3 0, .ref 217, .bool true, .int 181 0, .ref 218, .none, .ref 219, .ref 220, .ref 221, .int 483 0, .int 143 0, .str "/claim/cut.py" 484] }
noncomputable def o223 : Obj := fo (st 22) "skip_gaps" .none "tclcore.words" 435 222
noncomputable def o226 : Obj := tu #[.str "text" 489, .str "at" 490, .str "size" 491]
noncomputable def o228 : Obj := fr (st 23) "comment_behind"
noncomputable def o229 : Obj := { cls := .type "code", data := .fields #[.str "comment_behind" 486, .str "comment_behind" 487, .str "/claim/cut.py" 488, .int 152 0, .int 2 0, .int 0 0, .int 0 0, .int 3 0, .ref 224, .bool true, .int 181 0, .ref 225, .none, .ref 226, .ref 227, .ref 228, .int 492 0, .int 152 0, .str "/claim/cut.py" 493] }
noncomputable def o230 : Obj := fo (st 23) "comment_behind" .none "tclcore.words" 435 229
noncomputable def o233 : Obj := tu #[.str "text" 498, .str "at" 499]
noncomputable def o235 : Obj := fr (st 24) "skip_to_command"
noncomputable def o236 : Obj := { cls := .type "code", data := .fields #[.str "skip_to_command" 495, .str "skip_to_command" 496, .str "/claim/cut.py" 497, .int 162 0, .int 2 0, .int 0 0, .int 0 0, .int 3 0, .ref 231, .bool true, .int 181 0, .ref 232, .none, .ref 233, .ref 234, .ref 235, .int 500 0, .int 162 0, .str "/claim/cut.py" 501] }
noncomputable def o237 : Obj := fo (st 24) "skip_to_command" .none "tclcore.words" 435 236
noncomputable def o240 : Obj := tu #[.str "text" 506, .str "at" 507]
noncomputable def o242 : Obj := fr (st 25) "read_name"
noncomputable def o243 : Obj := { cls := .type "code", data := .fields #[.str "read_name" 503, .str "read_name" 504, .str "/claim/cut.py" 505, .int 171 0, .int 2 0, .int 0 0, .int 0 0, .int 3 0, .ref 238, .bool true, .int 181 0, .ref 239, .none, .ref 240, .ref 241, .ref 242, .int 508 0, .int 171 0, .str "/claim/cut.py" 509] }
noncomputable def o244 : Obj := fo (st 25) "read_name" .none "tclcore.words" 435 243
noncomputable def o247 : Obj := tu #[.str "text" 514, .str "at" 515, .str "begin" 516, .str "close" 517, .str "behind" 518, .str "index" 519]
noncomputable def o249 : Obj := fr (st 26) "variable"
noncomputable def o250 : Obj := { cls := .type "code", data := .fields #[.str "variable" 511, .str "variable" 512, .str "/claim/cut.py" 513, .int 182 0, .int 2 0, .int 0 0, .int 0 0, .int 3 0, .ref 245, .bool true, .int 181 0, .ref 246, .none, .ref 247, .ref 248, .ref 249, .int 520 0, .int 182 0, .str "/claim/cut.py" 521] }
noncomputable def o251 : Obj := fo (st 26) "variable" .none "tclcore.words" 435 250
noncomputable def o254 : Obj := tu #[.str "text" 526, .str "at" 527, .str "begin" 528, .str "place" 529, .str "command" 530]
noncomputable def o256 : Obj := fr (st 27) "brackets"
noncomputable def o257 : Obj := { cls := .type "code", data := .fields #[.str "brackets" 523, .str "brackets" 524, .str "/claim/cut.py" 525, .int 198 0, .int 2 0, .int 0 0, .int 0 0, .int 3 0, .ref 252, .bool true, .int 181 0, .ref 253, .none, .ref 254, .ref 255, .ref 256, .int 531 0, .int 198 0, .str "/claim/cut.py" 532] }
noncomputable def o258 : Obj := fo (st 27) "brackets" .none "tclcore.words" 435 257
noncomputable def o261 : Obj := tu #[.str "text" 537, .str "at" 538, .str "size" 539, .str "begin" 540, .str "place" 541, .str "made" 542, .str "depth" 543, .str "blank" 544, .str "behind" 545]
noncomputable def o263 : Obj := fr (st 28) "braces"
noncomputable def o264 : Obj := { cls := .type "code", data := .fields #[.str "braces" 534, .str "braces" 535, .str "/claim/cut.py" 536, .int 207 0, .int 2 0, .int 0 0, .int 0 0, .int 3 0, .ref 259, .bool true, .int 181 0, .ref 260, .none, .ref 261, .ref 262, .ref 263, .int 546 0, .int 207 0, .str "/claim/cut.py" 547] }
noncomputable def o265 : Obj := fo (st 28) "braces" .none "tclcore.words" 435 264
noncomputable def o268 : Obj := tu #[.str "text" 552, .str "at" 553, .str "stops" 554, .str "parts" 555, .str "run" 556, .str "size" 557, .str "part" 558, .str "script" 559, .str "piece" 560, .str "begin" 561]
noncomputable def o270 : Obj := fr (st 29) "parts_until"
noncomputable def o271 : Obj := { cls := .type "code", data := .fields #[.str "parts_until" 549, .str "parts_until" 550, .str "/claim/cut.py" 551, .int 233 0, .int 3 0, .int 0 0, .int 0 0, .int 3 0, .ref 266, .bool true, .int 181 0, .ref 267, .none, .ref 268, .ref 269, .ref 270, .int 562 0, .int 233 0, .str "/claim/cut.py" 563] }
noncomputable def o272 : Obj := fo (st 29) "parts_until" .none "tclcore.words" 435 271
noncomputable def o275 : Obj := tu #[.str "is_nested" 568]
noncomputable def o277 : Obj := fr (st 30) "bare_stops"
noncomputable def o278 : Obj := { cls := .type "code", data := .fields #[.str "bare_stops" 565, .str "bare_stops" 566, .str "/claim/cut.py" 567, .int 263 0, .int 1 0, .int 0 0, .int 0 0, .int 3 0, .ref 273, .bool true, .int 181 0, .ref 274, .none, .ref 275, .ref 276, .ref 277, .int 569 0, .int 263 0, .str "/claim/cut.py" 570] }
noncomputable def o279 : Obj := fo (st 30) "bare_stops" .none "tclcore.words" 435 278
noncomputable def o282 : Obj := tu #[.str "text" 575, .str "at" 576, .str "behind" 577]
noncomputable def o284 : Obj := fr (st 31) "is_expanded"
noncomputable def o285 : Obj := { cls := .type "code", data := .fields #[.str "is_expanded" 572, .str "is_expanded" 573, .str "/claim/cut.py" 574, .int 267 0, .int 2 0, .int 0 0, .int 0 0, .int 3 0, .ref 280, .bool true, .int 181 0, .ref 281, .none, .ref 282, .ref 283, .ref 284, .int 578 0, .int 267 0, .str "/claim/cut.py" 579] }
noncomputable def o286 : Obj := fo (st 31) "is_expanded" .none "tclcore.words" 435 285
noncomputable def o289 : Obj := tu #[.str "text" 584, .str "at" 585, .str "is_nested" 586, .str "is_expand" 587, .str "sign" 588, .str "inner" 589, .str "behind" 590, .str "parts" 591, .str "close" 592]
noncomputable def o291 : Obj := fr (st 32) "word"
noncomputable def o292 : Obj := { cls := .type "code", data := .fields #[.str "word" 581, .str "word" 582, .str "/claim/cut.py" 583, .int 274 0, .int 3 0, .int 0 0, .int 0 0, .int 3 0, .ref 287, .bool true, .int 181 0, .ref 288, .none, .ref 289, .ref 290, .ref 291, .int 593 0, .int 274 0, .str "/claim/cut.py" 594] }
noncomputable def o293 : Obj := fo (st 32) "word" .none "tclcore.words" 435 292
noncomputable def o294 : Obj := tu #[.bool false]
noncomputable def o297 : Obj := tu #[.str "text" 599, .str "at" 600, .str "is_nested" 601, .str "begin" 602, .str "size" 603, .str "words" 604, .str "place" 605, .str "found" 606, .str "end" 607]
noncomputable def o299 : Obj := fr (st 33) "command_at"
noncomputable def o300 : Obj := { cls := .type "code", data := .fields #[.str "command_at" 596, .str "command_at" 597, .str "/claim/cut.py" 598, .int 291 0, .int 3 0, .int 0 0, .int 0 0, .int 3 0, .ref 295, .bool true, .int 181 0, .ref 296, .none, .ref 297, .ref 298, .ref 299, .int 608 0, .int 291 0, .str "/claim/cut.py" 609] }
noncomputable def o301 : Obj := fo (st 33) "command_at" (.ref 294) "tclcore.words" 435 300
noncomputable def o304 : Obj := tu #[.str "text" 616, .str "at" 617, .str "what" 618, .str "end" 619]
noncomputable def o306 : Obj := fr (st 35) "check_behind"
noncomputable def o307 : Obj := { cls := .type "code", data := .fields #[.str "check_behind" 613, .str "check_behind" 614, .str "/claim/cut.py" 615, .int 313 0, .int 3 0, .int 0 0, .int 0 0, .int 3 0, .ref 302, .bool true, .int 181 0, .ref 303, .none, .ref 304, .ref 305, .ref 306, .int 620 0, .int 313 0, .str "/claim/cut.py" 621] }
noncomputable def o308 : Obj := fo (st 35) "check_behind" .none "tclcore.lists" 611 307
noncomputable def o311 : Obj := tu #[.str "text" 626, .str "first" 627, .str "depth" 628, .str "at" 629, .str "c" 630]
noncomputable def o313 : Obj := fr (st 36) "braced_element"
noncomputable def o314 : Obj := { cls := .type "code", data := .fields #[.str "braced_element" 623, .str "braced_element" 624, .str "/claim/cut.py" 625, .int 320 0, .int 2 0, .int 0 0, .int 0 0, .int 3 0, .ref 309, .bool true, .int 181 0, .ref 310, .none, .ref 311, .ref 312, .ref 313, .int 631 0, .int 320 0, .str "/claim/cut.py" 632] }
noncomputable def o315 : Obj := fo (st 36) "braced_element" .none "tclcore.lists" 611 314
noncomputable def o318 : Obj := tu #[.str "text" 637, .str "at" 638, .str "out" 639, .str "c" 640]
noncomputable def o320 : Obj := fr (st 37) "quoted_element"
noncomputable def o321 : Obj := { cls := .type "code", data := .fields #[.str "quoted_element" 634, .str "quoted_element" 635, .str "/claim/cut.py" 636, .int 335 0, .int 2 0, .int 0 0, .int 0 0, .int 3 0, .ref 316, .bool true, .int 181 0, .ref 317, .none, .ref 318, .ref 319, .ref 320, .int 641 0, .int 335 0, .str "/claim/cut.py" 642] }
noncomputable def o322 : Obj := fo (st 37) "quoted_element" .none "tclcore.lists" 611 321
noncomputable def o325 : Obj := tu #[.str "text" 647, .str "at" 648, .str "out" 649, .str "c" 650]
noncomputable def o327 : Obj := fr (st 38) "bare_element"
noncomputable def o328 : Obj := { cls := .type "code", data := .fields #[.str "bare_element" 644, .str "bare_element" 645, .str "/claim/cut.py" 646, .int 348 0, .int 2 0, .int 0 0, .int 0 0, .int 3 0, .ref 323, .bool true, .int 181 0, .ref 324, .none, .ref 325, .ref 326, .ref 327, .int 651 0, .int 348 0, .str "/claim/cut.py" 652] }
noncomputable def o329 : Obj := fo (st 38) "bare_element" .none "tclcore.lists" 611 328
noncomputable def o332 : Obj := tu #[.str "text" 657, .str "at" 658]
noncomputable def o334 : Obj := fr (st 39) "find_element"
noncomputable def o335 : Obj := { cls := .type "code", data := .fields #[.str "find_element" 654, .str "find_element" 655, .str "/claim/cut.py" 656, .int 358 0, .int 2 0, .int 0 0, .int 0 0, .int 3 0, .ref 330, .bool true, .int 181 0, .ref 331, .none, .ref 332, .ref 333, .ref 334, .int 659 0, .int 358 0, .str "/claim/cut.py" 660] }
noncomputable def o336 : Obj := fo (st 39) "find_element" .none "tclcore.lists" 611 335
noncomputable def o339 : Obj := tu #[.str "text" 665, .str "items" 666, .str "found" 667]
noncomputable def o341 : Obj := fr (st 40) "split_list"
noncomputable def o342 : Obj := { cls := .type "code", data := .fields #[.str "split_list" 662, .str "split_list" 663, .str "/claim/cut.py" 664, .int 368 0, .int 1 0, .int 0 0, .int 0 0, .int 3 0, .ref 337, .bool true, .int 181 0, .ref 338, .none, .ref 339, .ref 340, .ref 341, .int 668 0, .int 368 0, .str "/claim/cut.py" 669] }
noncomputable def o343 : Obj := fo (st 40) "split_list" .none "tclcore.lists" 611 342
noncomputable def o346 : Obj := tu #[.str "element" 674, .str "is_hash" 675, .str "begins" 676, .str "is_bound" 677, .str "is_hashed" 678, .str "wants_brace" 679, .str "wants_escape" 680, .str "depth" 681, .str "at" 682, .str "c" 683]
noncomputable def o348 : Obj := fr (st 41) "mode_of"
noncomputable def o349 : Obj := { cls := .type "code", data := .fields #[.str "mode_of" 671, .str "mode_of" 672, .str "/claim/cut.py" 673, .int 375 0, .int 2 0, .int 0 0, .int 0 0, .int 3 0, .ref 344, .bool true, .int 181 0, .ref 345, .none, .ref 346, .ref 347, .ref 348, .int 684 0, .int 375 0, .str "/claim/cut.py" 685] }
noncomputable def o350 : Obj := fo (st 41) "mode_of" .none "tclcore.lists" 611 349
noncomputable def o353 : Obj := tu #[.str "c" 690, .str "is_deep" 691, .str "place" 692]
noncomputable def o355 : Obj := fr (st 42) "escaped"
noncomputable def o356 : Obj := { cls := .type "code", data := .fields #[.str "escaped" 687, .str "escaped" 688, .str "/claim/cut.py" 689, .int 409 0, .int 2 0, .int 0 0, .int 0 0, .int 3 0, .ref 351, .bool true, .int 181 0, .ref 352, .none, .ref 353, .ref 354, .ref 355, .int 693 0, .int 409 0, .str "/claim/cut.py" 694] }
noncomputable def o357 : Obj := fo (st 42) "escaped" .none "tclcore.lists" 611 356
noncomputable def o361 : Obj := tu #[.str "element" 699, .str "is_hash" 700, .str "mode" 701, .str "out" 702, .str "c" 703]
noncomputable def o363 : Obj := fr (st 43) "quote"
noncomputable def o364 : Obj := { cls := .type "code", data := .fields #[.str "quote" 696, .str "quote" 697, .str "/claim/cut.py" 698, .int 416 0, .int 2 0, .int 0 0, .int 0 0, .int 3 0, .ref 359, .bool true, .int 181 0, .ref 360, .none, .ref 361, .ref 362, .ref 363, .int 704 0, .int 416 0, .str "/claim/cut.py" 705] }
noncomputable def o365 : Obj := fo (st 43) "quote" (.ref 358) "tclcore.lists" 611 364
noncomputable def o368 : Obj := tu #[.str "items" 710, .str "out" 711, .str "item" 712]
noncomputable def o370 : Obj := fr (st 44) "join_list"
noncomputable def o371 : Obj := { cls := .type "code", data := .fields #[.str "join_list" 707, .str "join_list" 708, .str "/claim/cut.py" 709, .int 428 0, .int 1 0, .int 0 0, .int 0 0, .int 3 0, .ref 366, .bool true, .int 181 0, .ref 367, .none, .ref 368, .ref 369, .ref 370, .int 713 0, .int 428 0, .str "/claim/cut.py" 714] }
noncomputable def o372 : Obj := fo (st 44) "join_list" .none "tclcore.lists" 611 371
noncomputable def o375 (P : Params) : Obj := { cls := .type "dict", data := .dict #[(de P "__module__" 725 (.str "tclcore.spaces" 716)), (de P "__qualname__" 727 (.str "Var" 726)), (de P "__firstlineno__" 729 (.int 434 728)), (de P "__init__" 736 (.ref 386)), (de P "__static_attributes__" 743 (.ref 387))] 5 }
noncomputable def o377 : Obj := { cls := .none, data := .fields #[.int 436 0, .int 4 0, .ref 385] }
noncomputable def o378 : Obj := { cls := .type "code", data := .fields #[.str "Var" 720, .str "Var" 721, .str "/claim/cut.py" 722, .int 434 0, .int 0 0, .int 0 0, .int 0 0, .int 0 0, .ref 376, .bool false, .int 181 0, .ref 377, .none, .none, .none, .none, .int 723 0, .int 434 0, .str "/claim/cut.py" 724] }
noncomputable def o379 : Obj := { cls := .type "frame", slots := #[some (.ref 378), some (.ref 3), some (.ref 375), none, some (.str "tclcore.spaces" 716), none, some (.ref 0)] }
noncomputable def o382 : Obj := tu #[.str "self" 733]
noncomputable def o384 : Obj := fr (me 46 0) "Var.__init__"
noncomputable def o385 : Obj := { cls := .type "code", data := .fields #[.str "__init__" 730, .str "Var.__init__" 731, .str "/claim/cut.py" 732, .int 436 0, .int 1 0, .int 0 0, .int 0 0, .int 3 0, .ref 380, .bool true, .int 181 0, .ref 381, .none, .ref 382, .ref 383, .ref 384, .int 734 0, .int 436 0, .str "/claim/cut.py" 735] }
noncomputable def o386 : Obj := fo (me 46 0) "Var.__init__" .none "tclcore.spaces" 716 385
noncomputable def o387 : Obj := tu #[.str "is_busy" 737, .str "is_element" 738, .str "kind" 739, .str "traces" 740, .str "value" 741, .str "writes" 742]
noncomputable def o388 (P : Params) : Obj := { cls := .type "dict", data := .dict #[(de P "__module__" 725 (.str "tclcore.spaces" 716)), (de P "__firstlineno__" 729 (.int 434 728)), (de P "__init__" 736 (.ref 386)), (de P "__static_attributes__" 743 (.ref 387)), (de P "__dict__" 745 (.ref 390)), (de P "__weakref__" 747 (.ref 391)), (de P "__doc__" 748 (.none))] 4 }
noncomputable def o389 : Obj := { cls := .type "type", data := .cls { name := "Var", bases := [.type "object"], mro := [.ref 389, .type "object"], ns := 388, qualname := "Var" }, slots := #[none, none, some (.str "Var" 718), some (.str "Var" 726), some (.builtin "object.__new__"), some (.bool true)] }
noncomputable def o390 : Obj := { cls := .type "getset_descriptor", data := .fields #[.str "__dict__" 744, .ref 389, .builtin "function.__dict__", .builtin "function.__dict__#set"] }
noncomputable def o391 : Obj := { cls := .type "getset_descriptor", data := .fields #[.str "__weakref__" 746, .ref 389, .builtin "ExceptionGroup.__weakref__", .none] }
noncomputable def o392 : Obj := { cls := .type "super", data := .fields #[.ref 389, .ref 389, .ref 389] }
noncomputable def o393 : Obj := { cls := .type "builtin_function_or_method", data := .fields #[.builtin "object.__init_subclass__", .ref 389] }
noncomputable def o396 : Obj := tu #[.str "host" 756, .str "parts" 757, .str "made" 758, .str "part" 759, .str "index" 760]
noncomputable def o398 : Obj := fr (st 48) "text_of"
noncomputable def o399 : Obj := { cls := .type "code", data := .fields #[.str "text_of" 753, .str "text_of" 754, .str "/claim/cut.py" 755, .int 444 0, .int 2 0, .int 0 0, .int 0 0, .int 3 0, .ref 394, .bool true, .int 181 0, .ref 395, .none, .ref 396, .ref 397, .ref 398, .int 761 0, .int 444 0, .str "/claim/cut.py" 762] }
noncomputable def o400 : Obj := fo (st 48) "text_of" .none "tclcore.host" 751 399
noncomputable def o403 : Obj := tu #[.str "host" 767, .str "words" 768, .str "made" 769, .str "word" 770, .str "text" 771]
noncomputable def o405 : Obj := fr (st 49) "words_of"
noncomputable def o406 : Obj := { cls := .type "code", data := .fields #[.str "words_of" 764, .str "words_of" 765, .str "/claim/cut.py" 766, .int 457 0, .int 2 0, .int 0 0, .int 0 0, .int 3 0, .ref 401, .bool true, .int 181 0, .ref 402, .none, .ref 403, .ref 404, .ref 405, .int 772 0, .int 457 0, .str "/claim/cut.py" 773] }
noncomputable def o407 : Obj := fo (st 49) "words_of" .none "tclcore.host" 751 406
noncomputable def o410 : Obj := tu #[.str "raised" 778, .str "text" 779, .str "begin" 780, .str "end" 781]
noncomputable def o412 : Obj := fr (st 50) "blame"
noncomputable def o413 : Obj := { cls := .type "code", data := .fields #[.str "blame" 775, .str "blame" 776, .str "/claim/cut.py" 777, .int 466 0, .int 4 0, .int 0 0, .int 0 0, .int 3 0, .ref 408, .bool true, .int 181 0, .ref 409, .none, .ref 410, .ref 411, .ref 412, .int 782 0, .int 466 0, .str "/claim/cut.py" 783] }
noncomputable def o414 : Obj := fo (st 50) "blame" .none "tclcore.host" 751 413
noncomputable def o417 : Obj := tu #[.str "host" 788, .str "text" 789, .str "result" 790, .str "begin" 791, .str "end" 792, .str "command" 793, .str "words" 794, .str "behind" 795, .str "raised" 796]
noncomputable def o419 : Obj := fr (st 51) "run_script"
noncomputable def o420 : Obj := { cls := .type "code", data := .fields #[.str "run_script" 785, .str "run_script" 786, .str "/claim/cut.py" 787, .int 473 0, .int 2 0, .int 0 0, .int 0 0, .int 3 0, .ref 415, .bool true, .int 181 0, .ref 416, .none, .ref 417, .ref 418, .ref 419, .int 797 0, .int 473 0, .str "/claim/cut.py" 798] }
noncomputable def o421 : Obj := fo (st 51) "run_script" .none "tclcore.host" 751 420
noncomputable def o424 (P : Params) : Obj := { cls := .type "dict", data := .dict #[(de P "__module__" 807 (.str "tclcore.host" 751)), (de P "__qualname__" 809 (.str "Host" 808)), (de P "__firstlineno__" 811 (.int 489 810)), (de P "__init__" 821 (.ref 436)), (de P "tool" 829 (.ref 443)), (de P "spend" 836 (.ref 450)), (de P "where" 843 (.ref 457)), (de P "run" 852 (.ref 464)), (de P "run_global" 860 (.ref 471)), (de P "call" 869 (.ref 478)), (de P "finish" 878 (.ref 485)), (de P "leave" 886 (.ref 492)), (de P "outcome" 894 (.ref 499)), (de P "__static_attributes__" 904 (.ref 500))] 14 }
noncomputable def o426 : Obj := { cls := .none, data := .fields #[.int 491 0, .int 4 0, .ref 435, .int 502 0, .int 4 0, .ref 442, .int 507 0, .int 4 0, .ref 449, .int 512 0, .int 4 0, .ref 456, .int 515 0, .int 4 0, .ref 463, .int 525 0, .int 4 0, .ref 470, .int 528 0, .int 4 0, .ref 477, .int 538 0, .int 4 0, .ref 484, .int 548 0, .int 4 0, .ref 491, .int 552 0, .int 4 0, .ref 498] }
noncomputable def o427 : Obj := { cls := .type "code", data := .fields #[.str "Host" 802, .str "Host" 803, .str "/claim/cut.py" 804, .int 489 0, .int 0 0, .int 0 0, .int 0 0, .int 0 0, .ref 425, .bool false, .int 181 0, .ref 426, .none, .none, .none, .none, .int 805 0, .int 489 0, .str "/claim/cut.py" 806] }
noncomputable def o428 : Obj := { cls := .type "frame", slots := #[some (.ref 427), some (.ref 3), some (.ref 424), none, some (.str "tclcore.host" 751), none, some (.ref 0)] }
noncomputable def o429 : Obj := tu #[.int 40 812, .none]
noncomputable def o432 : Obj := tu #[.str "self" 816, .str "limit" 817, .str "fuel" 818]
noncomputable def o434 : Obj := fr (me 52 0) "Host.__init__"
noncomputable def o435 : Obj := { cls := .type "code", data := .fields #[.str "__init__" 813, .str "Host.__init__" 814, .str "/claim/cut.py" 815, .int 491 0, .int 3 0, .int 0 0, .int 0 0, .int 3 0, .ref 430, .bool true, .int 181 0, .ref 431, .none, .ref 432, .ref 433, .ref 434, .int 819 0, .int 491 0, .str "/claim/cut.py" 820] }
noncomputable def o436 : Obj := fo (me 52 0) "Host.__init__" (.ref 429) "tclcore.host" 751 435
noncomputable def o439 : Obj := tu #[.str "self" 825, .str "name" 826]
noncomputable def o441 : Obj := fr (me 52 1) "Host.tool"
noncomputable def o442 : Obj := { cls := .type "code", data := .fields #[.str "tool" 822, .str "Host.tool" 823, .str "/claim/cut.py" 824, .int 502 0, .int 2 0, .int 0 0, .int 0 0, .int 3 0, .ref 437, .bool true, .int 181 0, .ref 438, .none, .ref 439, .ref 440, .ref 441, .int 827 0, .int 502 0, .str "/claim/cut.py" 828] }
noncomputable def o443 : Obj := fo (me 52 1) "Host.tool" .none "tclcore.host" 751 442
noncomputable def o446 : Obj := tu #[.str "self" 833]
noncomputable def o448 : Obj := fr (me 52 2) "Host.spend"
noncomputable def o449 : Obj := { cls := .type "code", data := .fields #[.str "spend" 830, .str "Host.spend" 831, .str "/claim/cut.py" 832, .int 507 0, .int 1 0, .int 0 0, .int 0 0, .int 3 0, .ref 444, .bool true, .int 181 0, .ref 445, .none, .ref 446, .ref 447, .ref 448, .int 834 0, .int 507 0, .str "/claim/cut.py" 835] }
noncomputable def o450 : Obj := fo (me 52 2) "Host.spend" .none "tclcore.host" 751 449
noncomputable def o453 : Obj := tu #[.str "self" 840]
noncomputable def o455 : Obj := fr (me 52 3) "Host.where"
noncomputable def o456 : Obj := { cls := .type "code", data := .fields #[.str "where" 837, .str "Host.where" 838, .str "/claim/cut.py" 839, .int 512 0, .int 1 0, .int 0 0, .int 0 0, .int 3 0, .ref 451, .bool true, .int 181 0, .ref 452, .none, .ref 453, .ref 454, .ref 455, .int 841 0, .int 512 0, .str "/claim/cut.py" 842] }
noncomputable def o457 : Obj := fo (me 52 3) "Host.where" .none "tclcore.host" 751 456
noncomputable def o460 : Obj := tu #[.str "self" 847, .str "script" 848, .str "runner" 849]
noncomputable def o462 : Obj := fr (me 52 4) "Host.run"
noncomputable def o463 : Obj := { cls := .type "code", data := .fields #[.str "run" 844, .str "Host.run" 845, .str "/claim/cut.py" 846, .int 515 0, .int 2 0, .int 0 0, .int 0 0, .int 3 0, .ref 458, .bool true, .int 181 0, .ref 459, .none, .ref 460, .ref 461, .ref 462, .int 850 0, .int 515 0, .str "/claim/cut.py" 851] }
noncomputable def o464 : Obj := fo (me 52 4) "Host.run" .none "tclcore.host" 751 463
noncomputable def o467 : Obj := tu #[.str "self" 856, .str "script" 857]
noncomputable def o469 : Obj := fr (me 52 5) "Host.run_global"
noncomputable def o470 : Obj := { cls := .type "code", data := .fields #[.str "run_global" 853, .str "Host.run_global" 854, .str "/claim/cut.py" 855, .int 525 0, .int 2 0, .int 0 0, .int 0 0, .int 3 0, .ref 465, .bool true, .int 181 0, .ref 466, .none, .ref 467, .ref 468, .ref 469, .int 858 0, .int 525 0, .str "/claim/cut.py" 859] }
noncomputable def o471 : Obj := fo (me 52 5) "Host.run_global" .none "tclcore.host" 751 470
noncomputable def o474 : Obj := tu #[.str "self" 864, .str "words" 865, .str "got" 866]
noncomputable def o476 : Obj := fr (me 52 6) "Host.call"
noncomputable def o477 : Obj := { cls := .type "code", data := .fields #[.str "call" 861, .str "Host.call" 862, .str "/claim/cut.py" 863, .int 528 0, .int 2 0, .int 0 0, .int 0 0, .int 3 0, .ref 472, .bool true, .int 181 0, .ref 473, .none, .ref 474, .ref 475, .ref 476, .int 867 0, .int 528 0, .str "/claim/cut.py" 868] }
noncomputable def o478 : Obj := fo (me 52 6) "Host.call" .none "tclcore.host" 751 477
noncomputable def o481 : Obj := tu #[.str "self" 873, .str "nest" 874, .str "raised" 875]
noncomputable def o483 : Obj := fr (me 52 7) "Host.finish"
noncomputable def o484 : Obj := { cls := .type "code", data := .fields #[.str "finish" 870, .str "Host.finish" 871, .str "/claim/cut.py" 872, .int 538 0, .int 2 0, .int 0 0, .int 0 0, .int 3 0, .ref 479, .bool true, .int 181 0, .ref 480, .none, .ref 481, .ref 482, .ref 483, .int 876 0, .int 538 0, .str "/claim/cut.py" 877] }
noncomputable def o485 : Obj := fo (me 52 7) "Host.finish" .none "tclcore.host" 751 484
noncomputable def o488 : Obj := tu #[.str "self" 882, .str "nest" 883]
noncomputable def o490 : Obj := fr (me 52 8) "Host.leave"
noncomputable def o491 : Obj := { cls := .type "code", data := .fields #[.str "leave" 879, .str "Host.leave" 880, .str "/claim/cut.py" 881, .int 548 0, .int 2 0, .int 0 0, .int 0 0, .int 3 0, .ref 486, .bool true, .int 181 0, .ref 487, .none, .ref 488, .ref 489, .ref 490, .int 884 0, .int 548 0, .str "/claim/cut.py" 885] }
noncomputable def o492 : Obj := fo (me 52 8) "Host.leave" .none "tclcore.host" 751 491
noncomputable def o495 : Obj := tu #[.str "self" 890, .str "script" 891]
noncomputable def o497 : Obj := fr (me 52 9) "Host.outcome"
noncomputable def o498 : Obj := { cls := .type "code", data := .fields #[.str "outcome" 887, .str "Host.outcome" 888, .str "/claim/cut.py" 889, .int 552 0, .int 2 0, .int 0 0, .int 0 0, .int 3 0, .ref 493, .bool true, .int 181 0, .ref 494, .none, .ref 495, .ref 496, .ref 497, .int 892 0, .int 552 0, .str "/claim/cut.py" 893] }
noncomputable def o499 : Obj := fo (me 52 9) "Host.outcome" .none "tclcore.host" 751 498
noncomputable def o500 : Obj := tu #[.str "coroutine" 895, .str "depth" 896, .str "epoch" 897, .str "frame" 898, .str "fuel" 899, .str "inline" 900, .str "limit" 901, .str "spent" 902, .str "tools" 903]
noncomputable def o501 (P : Params) : Obj := { cls := .type "dict", data := .dict #[(de P "__module__" 807 (.str "tclcore.host" 751)), (de P "__firstlineno__" 811 (.int 489 810)), (de P "__init__" 821 (.ref 436)), (de P "tool" 829 (.ref 443)), (de P "spend" 836 (.ref 450)), (de P "where" 843 (.ref 457)), (de P "run" 852 (.ref 464)), (de P "run_global" 860 (.ref 471)), (de P "call" 869 (.ref 478)), (de P "finish" 878 (.ref 485)), (de P "leave" 886 (.ref 492)), (de P "outcome" 894 (.ref 499)), (de P "__static_attributes__" 904 (.ref 500)), (de P "__dict__" 906 (.ref 503)), (de P "__weakref__" 908 (.ref 504)), (de P "__doc__" 909 (.none))] 4 }
noncomputable def o502 : Obj := { cls := .type "type", data := .cls { name := "Host", bases := [.type "object"], mro := [.ref 502, .type "object"], ns := 501, qualname := "Host", subclasses := [.ref 665] }, slots := #[none, none, some (.str "Host" 800), some (.str "Host" 808), some (.builtin "object.__new__"), some (.bool true)] }
noncomputable def o503 : Obj := { cls := .type "getset_descriptor", data := .fields #[.str "__dict__" 905, .ref 502, .builtin "function.__dict__", .builtin "function.__dict__#set"] }
noncomputable def o504 : Obj := { cls := .type "getset_descriptor", data := .fields #[.str "__weakref__" 907, .ref 502, .builtin "ExceptionGroup.__weakref__", .none] }
noncomputable def o505 : Obj := { cls := .type "super", data := .fields #[.ref 502, .ref 502, .ref 502] }
noncomputable def o506 : Obj := { cls := .type "builtin_function_or_method", data := .fields #[.builtin "object.__init_subclass__", .ref 502] }
noncomputable def o509 : Obj := tu #[.str "verb" 915, .str "name" 916, .str "why" 917]
noncomputable def o511 : Obj := fr (st 53) "no_variable"
noncomputable def o512 : Obj := { cls := .type "code", data := .fields #[.str "no_variable" 912, .str "no_variable" 913, .str "/claim/cut.py" 914, .int 554 0, .int 2 0, .int 0 0, .int 0 0, .int 3 0, .ref 507, .bool true, .int 181 0, .ref 508, .none, .ref 509, .ref 510, .ref 511, .int 918 0, .int 554 0, .str "/claim/cut.py" 919] }
noncomputable def o513 : Obj := fo (st 53) "no_variable" .none "tclcore.host" 751 512
noncomputable def o516 : Obj := tu #[.str "book" 924, .str "name" 925]
noncomputable def o518 : Obj := fr (st 54) "var_in"
noncomputable def o519 : Obj := { cls := .type "code", data := .fields #[.str "var_in" 921, .str "var_in" 922, .str "/claim/cut.py" 923, .int 557 0, .int 2 0, .int 0 0, .int 0 0, .int 3 0, .ref 514, .bool true, .int 181 0, .ref 515, .none, .ref 516, .ref 517, .ref 518, .int 926 0, .int 557 0, .str "/claim/cut.py" 927] }
noncomputable def o520 : Obj := fo (st 54) "var_in" .none "tclcore.host" 751 519
noncomputable def o523 : Obj := tu #[.str "var" 932, .str "kind" 933, .str "value" 934]
noncomputable def o525 : Obj := fr (st 55) "put_value"
noncomputable def o526 : Obj := { cls := .type "code", data := .fields #[.str "put_value" 929, .str "put_value" 930, .str "/claim/cut.py" 931, .int 561 0, .int 3 0, .int 0 0, .int 0 0, .int 3 0, .ref 521, .bool true, .int 181 0, .ref 522, .none, .ref 523, .ref 524, .ref 525, .int 935 0, .int 561 0, .str "/claim/cut.py" 936] }
noncomputable def o527 : Obj := fo (st 55) "put_value" .none "tclcore.host" 751 526
noncomputable def o530 : Obj := tu #[.str "book" 941, .str "name" 942, .str "found" 943, .str "whole" 944]
noncomputable def o532 : Obj := fr (st 56) "elements_in"
noncomputable def o533 : Obj := { cls := .type "code", data := .fields #[.str "elements_in" 938, .str "elements_in" 939, .str "/claim/cut.py" 940, .int 566 0, .int 2 0, .int 0 0, .int 0 0, .int 3 0, .ref 528, .bool true, .int 181 0, .ref 529, .none, .ref 530, .ref 531, .ref 532, .int 945 0, .int 566 0, .str "/claim/cut.py" 946] }
noncomputable def o534 : Obj := fo (st 56) "elements_in" .none "tclcore.host" 751 533
noncomputable def o537 : Obj := tu #[.str "entry" 951]
noncomputable def o539 : Obj := fr (st 57) "pair_of"
noncomputable def o540 : Obj := { cls := .type "code", data := .fields #[.str "pair_of" 948, .str "pair_of" 949, .str "/claim/cut.py" 950, .int 572 0, .int 1 0, .int 0 0, .int 0 0, .int 3 0, .ref 535, .bool true, .int 181 0, .ref 536, .none, .ref 537, .ref 538, .ref 539, .int 952 0, .int 572 0, .str "/claim/cut.py" 953] }
noncomputable def o541 : Obj := fo (st 57) "pair_of" .none "tclcore.host" 751 540
noncomputable def o544 : Obj := tu #[.str "host" 958, .str "words" 959, .str "action" 960, .str "data" 961]
noncomputable def o546 : Obj := fr (st 58) "act"
noncomputable def o547 : Obj := { cls := .type "code", data := .fields #[.str "act" 955, .str "act" 956, .str "/claim/cut.py" 957, .int 576 0, .int 4 0, .int 0 0, .int 0 0, .int 3 0, .ref 542, .bool true, .int 181 0, .ref 543, .none, .ref 544, .ref 545, .ref 546, .int 962 0, .int 576 0, .str "/claim/cut.py" 963] }
noncomputable def o548 : Obj := fo (st 58) "act" .none "tclcore.host" 751 547
noncomputable def o549 : Obj := tu #[.ref 502]
noncomputable def o551 (P : Params) : Obj := { cls := .type "dict", data := .dict #[(de P "__module__" 972 (.str "tclcore.host" 751)), (de P "__qualname__" 974 (.str "SmallHost" 973)), (de P "__firstlineno__" 976 (.int 580 975)), (de P "__init__" 986 (.ref 563)), (de P "has" 994 (.ref 570)), (de P "place" 1002 (.ref 577)), (de P "read_var" 1011 (.ref 584)), (de P "write_var" 1021 (.ref 591)), (de P "read" 1029 (.ref 598)), (de P "write" 1038 (.ref 605)), (de P "drop" 1046 (.ref 612)), (de P "stamp" 1054 (.ref 619)), (de P "array" 1064 (.ref 626)), (de P "put" 1074 (.ref 634)), (de P "remove" 1082 (.ref 641)), (de P "add" 1093 (.ref 648)), (de P "is_first" 1101 (.ref 655)), (de P "begin" 1111 (.ref 662)), (de P "__static_attributes__" 1115 (.ref 663))] 19 }
noncomputable def o553 : Obj := { cls := .none, data := .fields #[.int 582 0, .int 4 0, .ref 562, .int 588 0, .int 4 0, .ref 569, .int 591 0, .int 4 0, .ref 576, .int 594 0, .int 4 0, .ref 583, .int 599 0, .int 4 0, .ref 590, .int 602 0, .int 4 0, .ref 597, .int 605 0, .int 4 0, .ref 604, .int 608 0, .int 4 0, .ref 611, .int 611 0, .int 4 0, .ref 618, .int 614 0, .int 4 0, .ref 625, .int 618 0, .int 4 0, .ref 633, .int 622 0, .int 4 0, .ref 640, .int 628 0, .int 4 0, .ref 647, .int 634 0, .int 4 0, .ref 654, .int 637 0, .int 4 0, .ref 661] }
noncomputable def o554 : Obj := { cls := .type "code", data := .fields #[.str "SmallHost" 967, .str "SmallHost" 968, .str "/claim/cut.py" 969, .int 580 0, .int 0 0, .int 0 0, .int 0 0, .int 0 0, .ref 552, .bool false, .int 181 0, .ref 553, .none, .none, .none, .none, .int 970 0, .int 580 0, .str "/claim/cut.py" 971] }
noncomputable def o555 : Obj := { cls := .type "frame", slots := #[some (.ref 554), some (.ref 3), some (.ref 551), none, some (.str "tclcore.host" 751), none, some (.ref 0)] }
noncomputable def o556 : Obj := tu #[.int 40 977, .none]
noncomputable def o559 : Obj := tu #[.str "self" 981, .str "limit" 982, .str "fuel" 983]
noncomputable def o561 : Obj := fr (me 59 0) "SmallHost.__init__"
noncomputable def o562 : Obj := { cls := .type "code", data := .fields #[.str "__init__" 978, .str "SmallHost.__init__" 979, .str "/claim/cut.py" 980, .int 582 0, .int 3 0, .int 0 0, .int 0 0, .int 3 0, .ref 557, .bool true, .int 181 0, .ref 558, .none, .ref 559, .ref 560, .ref 561, .int 984 0, .int 582 0, .str "/claim/cut.py" 985] }
noncomputable def o563 : Obj := fo (me 59 0) "SmallHost.__init__" (.ref 556) "tclcore.host" 751 562
noncomputable def o566 : Obj := tu #[.str "self" 990, .str "name" 991]
noncomputable def o568 : Obj := fr (me 59 1) "SmallHost.has"
noncomputable def o569 : Obj := { cls := .type "code", data := .fields #[.str "has" 987, .str "SmallHost.has" 988, .str "/claim/cut.py" 989, .int 588 0, .int 2 0, .int 0 0, .int 0 0, .int 3 0, .ref 564, .bool true, .int 181 0, .ref 565, .none, .ref 566, .ref 567, .ref 568, .int 992 0, .int 588 0, .str "/claim/cut.py" 993] }
noncomputable def o570 : Obj := fo (me 59 1) "SmallHost.has" .none "tclcore.host" 751 569
noncomputable def o573 : Obj := tu #[.str "self" 998, .str "name" 999]
noncomputable def o575 : Obj := fr (me 59 2) "SmallHost.place"
noncomputable def o576 : Obj := { cls := .type "code", data := .fields #[.str "place" 995, .str "SmallHost.place" 996, .str "/claim/cut.py" 997, .int 591 0, .int 2 0, .int 0 0, .int 0 0, .int 3 0, .ref 571, .bool true, .int 181 0, .ref 572, .none, .ref 573, .ref 574, .ref 575, .int 1000 0, .int 591 0, .str "/claim/cut.py" 1001] }
noncomputable def o577 : Obj := fo (me 59 2) "SmallHost.place" .none "tclcore.host" 751 576
noncomputable def o580 : Obj := tu #[.str "self" 1006, .str "var" 1007, .str "name" 1008]
noncomputable def o582 : Obj := fr (me 59 3) "SmallHost.read_var"
noncomputable def o583 : Obj := { cls := .type "code", data := .fields #[.str "read_var" 1003, .str "SmallHost.read_var" 1004, .str "/claim/cut.py" 1005, .int 594 0, .int 3 0, .int 0 0, .int 0 0, .int 3 0, .ref 578, .bool true, .int 181 0, .ref 579, .none, .ref 580, .ref 581, .ref 582, .int 1009 0, .int 594 0, .str "/claim/cut.py" 1010] }
noncomputable def o584 : Obj := fo (me 59 3) "SmallHost.read_var" .none "tclcore.host" 751 583
noncomputable def o587 : Obj := tu #[.str "self" 1015, .str "var" 1016, .str "name" 1017, .str "value" 1018]
noncomputable def o589 : Obj := fr (me 59 4) "SmallHost.write_var"
noncomputable def o590 : Obj := { cls := .type "code", data := .fields #[.str "write_var" 1012, .str "SmallHost.write_var" 1013, .str "/claim/cut.py" 1014, .int 599 0, .int 4 0, .int 0 0, .int 0 0, .int 3 0, .ref 585, .bool true, .int 181 0, .ref 586, .none, .ref 587, .ref 588, .ref 589, .int 1019 0, .int 599 0, .str "/claim/cut.py" 1020] }
noncomputable def o591 : Obj := fo (me 59 4) "SmallHost.write_var" .none "tclcore.host" 751 590
noncomputable def o594 : Obj := tu #[.str "self" 1025, .str "name" 1026]
noncomputable def o596 : Obj := fr (me 59 5) "SmallHost.read"
noncomputable def o597 : Obj := { cls := .type "code", data := .fields #[.str "read" 1022, .str "SmallHost.read" 1023, .str "/claim/cut.py" 1024, .int 602 0, .int 2 0, .int 0 0, .int 0 0, .int 3 0, .ref 592, .bool true, .int 181 0, .ref 593, .none, .ref 594, .ref 595, .ref 596, .int 1027 0, .int 602 0, .str "/claim/cut.py" 1028] }
noncomputable def o598 : Obj := fo (me 59 5) "SmallHost.read" .none "tclcore.host" 751 597
noncomputable def o601 : Obj := tu #[.str "self" 1033, .str "name" 1034, .str "value" 1035]
noncomputable def o603 : Obj := fr (me 59 6) "SmallHost.write"
noncomputable def o604 : Obj := { cls := .type "code", data := .fields #[.str "write" 1030, .str "SmallHost.write" 1031, .str "/claim/cut.py" 1032, .int 605 0, .int 3 0, .int 0 0, .int 0 0, .int 3 0, .ref 599, .bool true, .int 181 0, .ref 600, .none, .ref 601, .ref 602, .ref 603, .int 1036 0, .int 605 0, .str "/claim/cut.py" 1037] }
noncomputable def o605 : Obj := fo (me 59 6) "SmallHost.write" .none "tclcore.host" 751 604
noncomputable def o608 : Obj := tu #[.str "self" 1042, .str "name" 1043]
noncomputable def o610 : Obj := fr (me 59 7) "SmallHost.drop"
noncomputable def o611 : Obj := { cls := .type "code", data := .fields #[.str "drop" 1039, .str "SmallHost.drop" 1040, .str "/claim/cut.py" 1041, .int 608 0, .int 2 0, .int 0 0, .int 0 0, .int 3 0, .ref 606, .bool true, .int 181 0, .ref 607, .none, .ref 608, .ref 609, .ref 610, .int 1044 0, .int 608 0, .str "/claim/cut.py" 1045] }
noncomputable def o612 : Obj := fo (me 59 7) "SmallHost.drop" .none "tclcore.host" 751 611
noncomputable def o615 : Obj := tu #[.str "self" 1050, .str "name" 1051]
noncomputable def o617 : Obj := fr (me 59 8) "SmallHost.stamp"
noncomputable def o618 : Obj := { cls := .type "code", data := .fields #[.str "stamp" 1047, .str "SmallHost.stamp" 1048, .str "/claim/cut.py" 1049, .int 611 0, .int 2 0, .int 0 0, .int 0 0, .int 3 0, .ref 613, .bool true, .int 181 0, .ref 614, .none, .ref 615, .ref 616, .ref 617, .int 1052 0, .int 611 0, .str "/claim/cut.py" 1053] }
noncomputable def o619 : Obj := fo (me 59 8) "SmallHost.stamp" .none "tclcore.host" 751 618
noncomputable def o622 : Obj := tu #[.str "self" 1058, .str "name" 1059, .str "is_made" 1060, .str "found" 1061]
noncomputable def o624 : Obj := fr (me 59 9) "SmallHost.array"
noncomputable def o625 : Obj := { cls := .type "code", data := .fields #[.str "array" 1055, .str "SmallHost.array" 1056, .str "/claim/cut.py" 1057, .int 614 0, .int 3 0, .int 0 0, .int 0 0, .int 3 0, .ref 620, .bool true, .int 181 0, .ref 621, .none, .ref 622, .ref 623, .ref 624, .int 1062 0, .int 614 0, .str "/claim/cut.py" 1063] }
noncomputable def o626 : Obj := fo (me 59 9) "SmallHost.array" .none "tclcore.host" 751 625
noncomputable def o627 : Obj := tu #[.none]
noncomputable def o630 : Obj := tu #[.str "self" 1068, .str "name" 1069, .str "action" 1070, .str "data" 1071]
noncomputable def o632 : Obj := fr (me 59 10) "SmallHost.put"
noncomputable def o633 : Obj := { cls := .type "code", data := .fields #[.str "put" 1065, .str "SmallHost.put" 1066, .str "/claim/cut.py" 1067, .int 618 0, .int 4 0, .int 0 0, .int 0 0, .int 3 0, .ref 628, .bool true, .int 181 0, .ref 629, .none, .ref 630, .ref 631, .ref 632, .int 1072 0, .int 618 0, .str "/claim/cut.py" 1073] }
noncomputable def o634 : Obj := fo (me 59 10) "SmallHost.put" (.ref 627) "tclcore.host" 751 633
noncomputable def o637 : Obj := tu #[.str "self" 1078, .str "name" 1079]
noncomputable def o639 : Obj := fr (me 59 11) "SmallHost.remove"
noncomputable def o640 : Obj := { cls := .type "code", data := .fields #[.str "remove" 1075, .str "SmallHost.remove" 1076, .str "/claim/cut.py" 1077, .int 622 0, .int 2 0, .int 0 0, .int 0 0, .int 3 0, .ref 635, .bool true, .int 181 0, .ref 636, .none, .ref 637, .ref 638, .ref 639, .int 1080 0, .int 622 0, .str "/claim/cut.py" 1081] }
noncomputable def o641 : Obj := fo (me 59 11) "SmallHost.remove" .none "tclcore.host" 751 640
noncomputable def o644 : Obj := tu #[.str "self" 1086, .str "group" 1087, .str "name" 1088, .str "action" 1089, .str "data" 1090]
noncomputable def o646 : Obj := fr (me 59 12) "SmallHost.add"
noncomputable def o647 : Obj := { cls := .type "code", data := .fields #[.str "add" 1083, .str "SmallHost.add" 1084, .str "/claim/cut.py" 1085, .int 628 0, .int 2 0, .int 0 0, .int 0 0, .int 3 0, .ref 642, .bool true, .int 181 0, .ref 643, .none, .ref 644, .ref 645, .ref 646, .int 1091 0, .int 628 0, .str "/claim/cut.py" 1092] }
noncomputable def o648 : Obj := fo (me 59 12) "SmallHost.add" .none "tclcore.host" 751 647
noncomputable def o651 : Obj := tu #[.str "self" 1097, .str "name" 1098]
noncomputable def o653 : Obj := fr (me 59 13) "SmallHost.is_first"
noncomputable def o654 : Obj := { cls := .type "code", data := .fields #[.str "is_first" 1094, .str "SmallHost.is_first" 1095, .str "/claim/cut.py" 1096, .int 634 0, .int 2 0, .int 0 0, .int 0 0, .int 3 0, .ref 649, .bool true, .int 181 0, .ref 650, .none, .ref 651, .ref 652, .ref 653, .int 1099 0, .int 634 0, .str "/claim/cut.py" 1100] }
noncomputable def o655 : Obj := fo (me 59 13) "SmallHost.is_first" .none "tclcore.host" 751 654
noncomputable def o658 : Obj := tu #[.str "self" 1105, .str "words" 1106, .str "action" 1107, .str "data" 1108]
noncomputable def o660 : Obj := fr (me 59 14) "SmallHost.begin"
noncomputable def o661 : Obj := { cls := .type "code", data := .fields #[.str "begin" 1102, .str "SmallHost.begin" 1103, .str "/claim/cut.py" 1104, .int 637 0, .int 2 0, .int 0 0, .int 0 0, .int 3 0, .ref 656, .bool true, .int 181 0, .ref 657, .none, .ref 658, .ref 659, .ref 660, .int 1109 0, .int 637 0, .str "/claim/cut.py" 1110] }
noncomputable def o662 : Obj := fo (me 59 14) "SmallHost.begin" .none "tclcore.host" 751 661
noncomputable def o663 : Obj := tu #[.str "commands" 1112, .str "firsts" 1113, .str "vars" 1114]
noncomputable def o664 (P : Params) : Obj := { cls := .type "dict", data := .dict #[(de P "__module__" 972 (.str "tclcore.host" 751)), (de P "__firstlineno__" 976 (.int 580 975)), (de P "__init__" 986 (.ref 563)), (de P "has" 994 (.ref 570)), (de P "place" 1002 (.ref 577)), (de P "read_var" 1011 (.ref 584)), (de P "write_var" 1021 (.ref 591)), (de P "read" 1029 (.ref 598)), (de P "write" 1038 (.ref 605)), (de P "drop" 1046 (.ref 612)), (de P "stamp" 1054 (.ref 619)), (de P "array" 1064 (.ref 626)), (de P "put" 1074 (.ref 634)), (de P "remove" 1082 (.ref 641)), (de P "add" 1093 (.ref 648)), (de P "is_first" 1101 (.ref 655)), (de P "begin" 1111 (.ref 662)), (de P "__static_attributes__" 1115 (.ref 663)), (de P "__doc__" 1116 (.none))] 2 }
noncomputable def o665 : Obj := { cls := .type "type", data := .cls { name := "SmallHost", bases := [.ref 502], mro := [.ref 665, .ref 502, .type "object"], ns := 664, qualname := "SmallHost" }, slots := #[some (.ref 549), none, some (.str "SmallHost" 965), some (.str "SmallHost" 973), some (.builtin "object.__new__"), some (.bool true)] }
noncomputable def o666 : Obj := { cls := .type "super", data := .fields #[.ref 665, .ref 665, .ref 665] }
noncomputable def o667 : Obj := { cls := .type "builtin_function_or_method", data := .fields #[.builtin "object.__init_subclass__", .ref 665] }
noncomputable def o670 : Obj := tu #[.str "pen" 1124, .str "at" 1125]
noncomputable def o672 : Obj := fr (st 61) "_law_next"
noncomputable def o673 : Obj := { cls := .type "code", data := .fields #[.str "_law_next" 1121, .str "_law_next" 1122, .str "/claim/cut.py" 1123, .int 644 0, .int 1 0, .int 0 0, .int 0 0, .int 3 0, .ref 668, .bool true, .int 181 0, .ref 669, .none, .ref 670, .ref 671, .ref 672, .int 1126 0, .int 644 0, .str "/claim/cut.py" 1127] }
noncomputable def o674 : Obj := fo (st 61) "_law_next" .none "law_np0154_01" 1119 673
noncomputable def o677 : Obj := tu #[.str "v" 1132, .str "signs" 1133, .str "place" 1134, .str "point" 1135]
noncomputable def o679 : Obj := fr (st 62) "_law_sign"
noncomputable def o680 : Obj := { cls := .type "code", data := .fields #[.str "_law_sign" 1129, .str "_law_sign" 1130, .str "/claim/cut.py" 1131, .int 648 0, .int 1 0, .int 0 0, .int 0 0, .int 3 0, .ref 675, .bool true, .int 181 0, .ref 676, .none, .ref 677, .ref 678, .ref 679, .int 1136 0, .int 648 0, .str "/claim/cut.py" 1137] }
noncomputable def o681 : Obj := fo (st 62) "_law_sign" .none "law_np0154_01" 1119 680
noncomputable def o684 : Obj := tu #[.str "pen" 1142, .str "words" 1143, .str "turn" 1144, .str "text" 1145, .str "k" 1146]
noncomputable def o686 : Obj := fr (st 63) "_law_drawn"
noncomputable def o687 : Obj := { cls := .type "code", data := .fields #[.str "_law_drawn" 1139, .str "_law_drawn" 1140, .str "/claim/cut.py" 1141, .int 655 0, .int 1 0, .int 0 0, .int 0 0, .int 3 0, .ref 682, .bool true, .int 181 0, .ref 683, .none, .ref 684, .ref 685, .ref 686, .int 1147 0, .int 655 0, .str "/claim/cut.py" 1148] }
noncomputable def o688 : Obj := fo (st 63) "_law_drawn" .none "law_np0154_01" 1119 687
noncomputable def o693 : Obj := fr (st 64) "_law_fixed"
noncomputable def o694 : Obj := { cls := .type "code", data := .fields #[.str "_law_fixed" 1150, .str "_law_fixed" 1151, .str "/claim/cut.py" 1152, .int 663 0, .int 0 0, .int 0 0, .int 0 0, .int 3 0, .ref 689, .bool true, .int 181 0, .ref 690, .none, .ref 691, .ref 692, .ref 693, .int 1153 0, .int 663 0, .str "/claim/cut.py" 1154] }
noncomputable def o695 : Obj := fo (st 64) "_law_fixed" .none "law_np0154_01" 1119 694
noncomputable def o698 : Obj := tu #[.str "n" 1159, .str "wide" 1160, .str "out" 1161, .str "k" 1162]
noncomputable def o700 : Obj := fr (st 65) "_law_hex"
noncomputable def o701 : Obj := { cls := .type "code", data := .fields #[.str "_law_hex" 1156, .str "_law_hex" 1157, .str "/claim/cut.py" 1158, .int 665 0, .int 2 0, .int 0 0, .int 0 0, .int 3 0, .ref 696, .bool true, .int 181 0, .ref 697, .none, .ref 698, .ref 699, .ref 700, .int 1163 0, .int 665 0, .str "/claim/cut.py" 1164] }
noncomputable def o702 : Obj := fo (st 65) "_law_hex" .none "law_np0154_01" 1119 701
noncomputable def o705 : Obj := tu #[.str "c" 1169, .str "way" 1170, .str "n" 1171, .str "place" 1172]
noncomputable def o707 : Obj := fr (st 66) "_law_coded"
noncomputable def o708 : Obj := { cls := .type "code", data := .fields #[.str "_law_coded" 1166, .str "_law_coded" 1167, .str "/claim/cut.py" 1168, .int 671 0, .int 2 0, .int 0 0, .int 0 0, .int 3 0, .ref 703, .bool true, .int 181 0, .ref 704, .none, .ref 705, .ref 706, .ref 707, .int 1173 0, .int 671 0, .str "/claim/cut.py" 1174] }
noncomputable def o709 : Obj := fo (st 66) "_law_coded" .none "law_np0154_01" 1119 708
noncomputable def o712 : Obj := tu #[.str "text" 1179, .str "must" 1180, .str "ahead" 1181, .str "turn" 1182, .str "out" 1183, .str "k" 1184, .str "c" 1185]
noncomputable def o714 : Obj := fr (st 67) "_law_spelled"
noncomputable def o715 : Obj := { cls := .type "code", data := .fields #[.str "_law_spelled" 1176, .str "_law_spelled" 1177, .str "/claim/cut.py" 1178, .int 687 0, .int 4 0, .int 0 0, .int 0 0, .int 3 0, .ref 710, .bool true, .int 181 0, .ref 711, .none, .ref 712, .ref 713, .ref 714, .int 1186 0, .int 687 0, .str "/claim/cut.py" 1187] }
noncomputable def o716 : Obj := fo (st 67) "_law_spelled" .none "law_np0154_01" 1119 715
noncomputable def o719 : Obj := tu #[.str "text" 1192, .str "depth" 1193, .str "at" 1194, .str "c" 1195]
noncomputable def o721 : Obj := fr (st 68) "_law_may_brace"
noncomputable def o722 : Obj := { cls := .type "code", data := .fields #[.str "_law_may_brace" 1189, .str "_law_may_brace" 1190, .str "/claim/cut.py" 1191, .int 696 0, .int 1 0, .int 0 0, .int 0 0, .int 3 0, .ref 717, .bool true, .int 181 0, .ref 718, .none, .ref 719, .ref 720, .ref 721, .int 1196 0, .int 696 0, .str "/claim/cut.py" 1197] }
noncomputable def o723 : Obj := fo (st 68) "_law_may_brace" .none "law_np0154_01" 1119 722
noncomputable def o726 : Obj := tu #[.str "text" 1202, .str "turn" 1203, .str "is_first" 1204, .str "form" 1205]
noncomputable def o728 : Obj := fr (st 69) "_law_written"
noncomputable def o729 : Obj := { cls := .type "code", data := .fields #[.str "_law_written" 1199, .str "_law_written" 1200, .str "/claim/cut.py" 1201, .int 712 0, .int 3 0, .int 0 0, .int 0 0, .int 3 0, .ref 724, .bool true, .int 181 0, .ref 725, .none, .ref 726, .ref 727, .ref 728, .int 1206 0, .int 712 0, .str "/claim/cut.py" 1207] }
noncomputable def o730 : Obj := fo (st 69) "_law_written" .none "law_np0154_01" 1119 729
noncomputable def o733 : Obj := tu #[.str "words" 1212, .str "turn" 1213, .str "gaps" 1214, .str "out" 1215, .str "k" 1216, .str "many" 1217]
noncomputable def o735 : Obj := fr (st 70) "_law_command"
noncomputable def o736 : Obj := { cls := .type "code", data := .fields #[.str "_law_command" 1209, .str "_law_command" 1210, .str "/claim/cut.py" 1211, .int 721 0, .int 2 0, .int 0 0, .int 0 0, .int 3 0, .ref 731, .bool true, .int 181 0, .ref 732, .none, .ref 733, .ref 734, .ref 735, .int 1218 0, .int 721 0, .str "/claim/cut.py" 1219] }
noncomputable def o737 : Obj := fo (st 70) "_law_command" .none "law_np0154_01" 1119 736
noncomputable def o740 : Obj := tu #[.str "host" 1224, .str "words" 1225, .str "data" 1226]
noncomputable def o742 : Obj := fr (st 71) "_law_record"
noncomputable def o743 : Obj := { cls := .type "code", data := .fields #[.str "_law_record" 1221, .str "_law_record" 1222, .str "/claim/cut.py" 1223, .int 735 0, .int 3 0, .int 0 0, .int 0 0, .int 3 0, .ref 738, .bool true, .int 181 0, .ref 739, .none, .ref 740, .ref 741, .ref 742, .int 1227 0, .int 735 0, .str "/claim/cut.py" 1228] }
noncomputable def o744 : Obj := fo (st 71) "_law_record" .none "law_np0154_01" 1119 743
noncomputable def o747 : Obj := tu #[.str "script" 1233, .str "pen" 1234, .str "name" 1235, .str "leads" 1236, .str "ends" 1237, .str "tails" 1238, .str "turn" 1239, .str "first" 1240, .str "second" 1241, .str "one" 1242, .str "between" 1243, .str "other" 1244, .str "host" 1245, .str "log" 1246, .str "told" 1247]
noncomputable def o749 : Obj := fr (st 72) "law"
noncomputable def o750 : Obj := { cls := .type "code", data := .fields #[.str "law" 1230, .str "law" 1231, .str "/claim/cut.py" 1232, .int 738 0, .int 1 0, .int 0 0, .int 0 0, .int 3 0, .ref 745, .bool true, .int 181 0, .ref 746, .none, .ref 747, .ref 748, .ref 749, .int 1248 0, .int 738 0, .str "/claim/cut.py" 1249] }
noncomputable def o751 : Obj := fo (st 72) "law" .none "law_np0154_01" 1119 750
noncomputable def objsF (P : Params) : List Obj := [(PySem.W.boot_o_0 P), (PySem.W.boot_o_1 P), (o2 P), (o3 P), (PySem.W.boot_o_4 P), (PySem.W.boot_o_5 P), (PySem.W.boot_o_6 P), (PySem.W.boot_o_7 P), (PySem.W.boot_o_8 P), (PySem.W.boot_o_9 P), (PySem.W.boot_o_10 P), o11, o12, o13, o14, o11, o16, o17, o11, o19, o20, o21, o22, o23, (o24 P), o11, o26, o27, o28, o11, o16, o31, o11, o33, o34, o35, o36, (o37 P), o38, o39, o40, o41, o42, o23, (o44 P), o11, o16, o47, o48, o11, (o50 P), o51, o52, o53, o42, o23, (o56 P), o11, o16, o59, o60, o11, (o62 P), o63, o64, o65, o22, o23, (o68 P), o11, o70, o71, o72, o73, o74, o11, o16, o77, o11, o79, o80, o81, o82, (o83 P), o84, o85, o86, o87, o11, o23, (o90 P), o11, o92, o93, o94, o95, o11, o16, o98, o11, o100, o101, o102, o103, (o104 P), o105, o106, o107, o108, o109, o11, o23, (o112 P), o11, o114, o115, o116, o11, o16, o119, o11, o121, o122, o123, o124, (o125 P), o126, o127, o128, o129, o130, o131, o132, o11, o16, o135, o11, o137, o138, o139, o11, o16, o142, o11, o144, o145, o146, o11, o16, o149, o11, o151, o152, o153, o11, o16, o156, o11, o158, o159, o160, o11, o16, o163, o11, o165, o166, o167, o11, o16, o170, o11, o172, o173, o174, o11, o16, o177, o11, o179, o180, o181, o11, o16, o184, o11, o186, o187, o188, o11, o16, o191, o11, o193, o194, o195, o11, o16, o198, o11, o200, o201, o202, o11, o16, o205, o11, o207, o208, o209, o11, o16, o212, o11, o214, o215, o216, o11, o16, o219, o11, o221, o222, o223, o11, o16, o226, o11, o228, o229, o230, o11, o16, o233, o11, o235, o236, o237, o11, o16, o240, o11, o242, o243, o244, o11, o16, o247, o11, o249, o250, o251, o11, o16, o254, o11, o256, o257, o258, o11, o16, o261, o11, o263, o264, o265, o11, o16, o268, o11, o270, o271, o272, o11, o16, o275, o11, o277, o278, o279, o11, o16, o282, o11, o284, o285, o286, o11, o16, o289, o11, o291, o292, o293, o294, o11, o16, o297, o11, o299, o300, o301, o11, o16, o304, o11, o306, o307, o308, o11, o16, o311, o11, o313, o314, o315, o11, o16, o318, o11, o320, o321, o322, o11, o16, o325, o11, o327, o328, o329, o11, o16, o332, o11, o334, o335, o336, o11, o16, o339, o11, o341, o342, o343, o11, o16, o346, o11, o348, o349, o350, o11, o16, o353, o11, o355, o356, o357, o294, o11, o16, o361, o11, o363, o364, o365, o11, o16, o368, o11, o370, o371, o372, o11, o23, (o375 P), o11, o377, o378, o379, o11, o16, o382, o11, o384, o385, o386, o387, (o388 P), o389, o390, o391, o392, o393, o11, o16, o396, o11, o398, o399, o400, o11, o16, o403, o11, o405, o406, o407, o11, o16, o410, o11, o412, o413, o414, o11, o16, o417, o11, o419, o420, o421, o11, o23, (o424 P), o11, o426, o427, o428, o429, o11, o16, o432, o11, o434, o435, o436, o11, o16, o439, o11, o441, o442, o443, o11, o16, o446, o11, o448, o449, o450, o11, o16, o453, o11, o455, o456, o457, o11, o16, o460, o11, o462, o463, o464, o11, o16, o467, o11, o469, o470, o471, o11, o16, o474, o11, o476, o477, o478, o11, o16, o481, o11, o483, o484, o485, o11, o16, o488, o11, o490, o491, o492, o11, o16, o495, o11, o497, o498, o499, o500, (o501 P), o502, o503, o504, o505, o506, o11, o16, o509, o11, o511, o512, o513, o11, o16, o516, o11, o518, o519, o520, o11, o16, o523, o11, o525, o526, o527, o11, o16, o530, o11, o532, o533, o534, o11, o16, o537, o11, o539, o540, o541, o11, o16, o544, o11, o546, o547, o548, o549, o23, (o551 P), o11, o553, o554, o555, o556, o11, o16, o559, o11, o561, o562, o563, o11, o16, o566, o11, o568, o569, o570, o11, o16, o573, o11, o575, o576, o577, o11, o16, o580, o11, o582, o583, o584, o11, o16, o587, o11, o589, o590, o591, o11, o16, o594, o11, o596, o597, o598, o11, o16, o601, o11, o603, o604, o605, o11, o16, o608, o11, o610, o611, o612, o11, o16, o615, o11, o617, o618, o619, o11, o16, o622, o11, o624, o625, o626, o627, o11, o16, o630, o11, o632, o633, o634, o11, o16, o637, o11, o639, o640, o641, o11, o16, o644, o11, o646, o647, o648, o11, o16, o651, o11, o653, o654, o655, o11, o16, o658, o11, o660, o661, o662, o663, (o664 P), o665, o666, o667, o11, o16, o670, o11, o672, o673, o674, o11, o16, o677, o11, o679, o680, o681, o11, o16, o684, o11, o686, o687, o688, o11, o16, o11, o11, o693, o694, o695, o11, o16, o698, o11, o700, o701, o702, o11, o16, o705, o11, o707, o708, o709, o11, o16, o712, o11, o714, o715, o716, o11, o16, o719, o11, o721, o722, o723, o11, o16, o726, o11, o728, o729, o730, o11, o16, o733, o11, o735, o736, o737, o11, o16, o740, o11, o742, o743, o744, o11, o16, o747, o11, o749, o750, o751]
noncomputable def treeF (P : Params) : BT := (n (PySem.W.boot_o_0 P) (n (PySem.W.boot_o_1 P) (n (o3 P) (n (PySem.W.boot_o_7 P) (n o11 (n o31 (n o63 (n o127 (n o11 (n o511 x x) x) (n o11 (n o639 x x) x)) (n o191 (n o11 (n o575 x x) x) (n o11 (n o11 x x) x))) (n o95 (n o159 (n o11 (n o16 x x) x) (n o11 (n o11 x x) x)) (n o223 (n o11 (n o16 x x) x) (n o11 (n o735 x x) x)))) (n o47 (n o79 (n o11 (n o271 (n o527 x x) x) (n o399 (n o655 x x) x)) (n o207 (n o335 (n o591 x x) x) (n o463 (n o719 x x) x))) (n o23 (n o11 (n o16 (n o559 x x) x) (n o16 (n o687 x x) x)) (n o16 (n o16 (n o11 x x) x) (n o495 (n o751 x x) x))))) (n o23 (n o39 (n o71 (n o135 (n o263 (n o519 x x) x) (n o391 (n o647 x x) x)) (n o11 (n o327 (n o583 x x) x) (n o455 (n o16 x x) x))) (n o103 (n o167 (n o11 (n (o551 P) x x) x) (n o23 (n o679 x x) x)) (n o11 (n o11 (n o615 x x) x) (n o16 (n o743 x x) x)))) (n o23 (n o87 (n o151 (n o279 (n o11 x x) x) (n o407 (n o663 x x) x)) (n o215 (n o343 (n o11 x x) x) (n o471 (n o11 x x) x))) (n o119 (n o16 (n o311 (n o11 x x) x) (n o439 (n o695 x x) x)) (n o247 (n (o375 P) (n o11 x x) x) (n o503 x x)))))) (n o11 (n o19 (n o35 (n o23 (n o131 (n o11 (n o16 x x) x) (n o387 (n o16 x x) x)) (n o195 (n o11 (n o16 x x) x) (n o11 (n o707 x x) x))) (n o11 (n o163 (n o291 (n o547 x x) x) (n o419 (n o11 x x) x)) (n o11 (n o355 (n o611 x x) x) (n o483 (n o16 x x) x)))) (n o51 (n (o83 P) (n o11 (n o275 (n o11 x x) x) (n o403 (n o11 x x) x)) (n o16 (n o339 (n o11 x x) x) (n o467 (n o723 x x) x))) (n o115 (n o179 (n o307 (n o563 x x) x) (n o435 (n o11 x x) x)) (n o243 (n o371 (n o627 x x) x) (n o499 x x))))) (n o27 (n o23 (n o11 (n o139 (n o16 (n o523 x x) x) (n o16 (n o651 x x) x)) (n o11 (n o16 (n o587 x x) x) (n o16 (n o715 x x) x))) (n o107 (n o11 (n o299 (n o555 x x) x) (n o427 (n o16 x x) x)) (n o235 (n o363 (n o619 x x) x) (n o491 (n o747 x x) x)))) (n o59 (n o11 (n o16 (n o11 (n o539 x x) x) (n o11 (n o667 x x) x)) (n o219 (n o11 (n o603 x x) x) (n o11 (n o11 x x) x))) (n o123 (n o187 (n o315 (n o11 x x) x) (n o443 (n o11 x x) x)) (n o251 (n o379 (n o11 x x) x) (n o11 x x))))))) (n (PySem.W.boot_o_5 P) (n (PySem.W.boot_o_9 P) (n o17 (n o33 (n o65 (n o129 (n o257 (n o513 x x) x) (n o385 (n o641 x x) x)) (n o193 (n o321 (n o577 x x) x) (n o449 (n o705 x x) x))) (n o16 (n o11 (n o289 (n o11 x x) x) (n o417 (n o673 x x) x)) (n o16 (n o353 (n o11 x x) x) (n o481 (n o737 x x) x)))) (n o11 (n o81 (n o145 (n o11 (n o16 x x) x) (n o11 (n o16 x x) x)) (n o209 (n o11 (n o16 x x) x) (n o11 (n o721 x x) x))) (n o11 (n o177 (n o11 (n o561 x x) x) (n o11 (n o11 x x) x)) (n o11 (n o11 (n o625 x x) x) (n o497 x x))))) (n o11 (n o41 (n o73 (n o137 (n o265 (n o11 x x) x) (n o393 (n o11 x x) x)) (n o201 (n o329 (n o11 x x) x) (n o457 (n o11 x x) x))) (n o105 (n o16 (n o297 (n o553 x x) x) (n o11 (n o681 x x) x)) (n o233 (n o361 (n o617 x x) x) (n o11 (n o11 x x) x)))) (n o11 (n o23 (n o153 (n o16 (n o537 x x) x) (n o16 (n o665 x x) x)) (n o11 (n o16 (n o601 x x) x) (n o16 (n o729 x x) x))) (n o121 (n o11 (n o313 (n o569 x x) x) (n o441 (n o16 x x) x)) (n o249 (n o377 (n o633 x x) x) (n o505 x x)))))) (n o13 (n o21 (n (o37 P) (n o11 (n o11 (n o261 (n o11 x x) x) (n o389 (n o11 x x) x)) (n o16 (n o325 (n o11 x x) x) (n o453 (n o709 x x) x))) (n o101 (n o165 (n o293 (n o549 x x) x) (n o421 (n o677 x x) x)) (n o229 (n o357 (n o11 x x) x) (n o485 (n o11 x x) x)))) (n o53 (n o85 (n o149 (n o277 (n o533 x x) x) (n o405 (n o661 x x) x)) (n o11 (n o341 (n o597 x x) x) (n o469 (n o16 x x) x))) (n o11 (n o181 (n o11 (n o16 x x) x) (n o11 (n o693 x x) x)) (n o11 (n o11 (n o16 x x) x) (n (o501 P) x x))))) (n o11 (n o11 (n o77 (n o16 (n o11 (n o525 x x) x) (n o11 (n o653 x x) x)) (n o205 (n o11 (n o589 x x) x) (n o11 (n o11 x x) x))) (n o109 (n o173 (n o301 (n o11 x x) x) (n o429 (n o11 x x) x)) (n o237 (n o365 (n o16 x x) x) (n o11 (n o749 x x) x)))) (n o11 (n o93 (n o11 (n o285 (n o541 x x) x) (n o413 (n o16 x x) x)) (n o221 (n o349 (n o605 x x) x) (n o477 (n o733 x x) x))) (n (o125 P) (n o11 (n o16 (n o573 x x) x) (n o16 (n o701 x x) x)) (n o16 (n o16 (n o637 x x) x) (n o509 x x)))))))) (n (o2 P) (n (PySem.W.boot_o_4 P) (n (PySem.W.boot_o_8 P) (n o16 (n o11 (n o64 (n o128 (n o256 (n o512 x x) x) (n o384 (n o640 x x) x)) (n o11 (n o320 (n o576 x x) x) (n o448 (n o16 x x) x))) (n o11 (n o160 (n o16 (n o544 x x) x) (n o16 (n o672 x x) x)) (n o11 (n o16 (n o608 x x) x) (n o16 (n o736 x x) x)))) (n o48 (n o80 (n o144 (n o272 (n o11 x x) x) (n o400 (n o11 x x) x)) (n o208 (n o336 (n o11 x x) x) (n o464 (n o11 x x) x))) (n (o112 P) (n o16 (n o304 (n o11 x x) x) (n o432 (n o688 x x) x)) (n o240 (n o368 (n o624 x x) x) (n o11 x x))))) (n (o24 P) (n o40 (n o72 (n o11 (n o264 (n o520 x x) x) (n o392 (n o648 x x) x)) (n o200 (n o328 (n o584 x x) x) (n o456 (n o712 x x) x))) (n (o104 P) (n o11 (n o16 (n o11 x x) x) (n (o424 P) (n o680 x x) x)) (n o16 (n o16 (n o11 x x) x) (n o488 (n o744 x x) x)))) (n (o56 P) (n o11 (n o152 (n o11 (n o16 x x) x) (n o11 (n (o664 P) x x) x)) (n o216 (n o11 (n o16 x x) x) (n o11 (n o728 x x) x))) (n o11 (n o184 (n o11 (n o568 x x) x) (n o11 (n o11 x x) x)) (n o11 (n o11 (n o632 x x) x) (n o504 x x)))))) (n o12 (n o20 (n o36 (n (o68 P) (n o132 (n o16 (n o516 x x) x) (n (o388 P) (n o644 x x) x)) (n o11 (n o16 (n o580 x x) x) (n o16 (n o708 x x) x))) (n o100 (n o11 (n o292 (n o548 x x) x) (n o420 (n o16 x x) x)) (n o228 (n o356 (n o612 x x) x) (n o484 (n o740 x x) x)))) (n o52 (n o84 (n o16 (n o11 (n o532 x x) x) (n o11 (n o660 x x) x)) (n o212 (n o11 (n o596 x x) x) (n o11 (n o11 x x) x))) (n o116 (n o180 (n o308 (n o11 x x) x) (n o436 (n o11 x x) x)) (n o244 (n o372 (n o11 x x) x) (n o500 x x))))) (n o28 (n (o44 P) (n o16 (n o11 (n o268 (n o11 x x) x) (n o396 (n o11 x x) x)) (n o16 (n o332 (n o11 x x) x) (n o460 (n o716 x x) x))) (n o108 (n o172 (n o300 (n o556 x x) x) (n o428 (n o684 x x) x)) (n o236 (n o364 (n o11 x x) x) (n o492 (n o11 x x) x)))) (n o60 (n o92 (n o156 (n o284 (n o540 x x) x) (n o412 (n o11 x x) x)) (n o11 (n o348 (n o604 x x) x) (n o476 (n o16 x x) x))) (n o124 (n o188 (n o11 (n o16 x x) x) (n o11 (n o700 x x) x)) (n o11 (n o11 (n o16 x x) x) (n o16 x x))))))) (n (PySem.W.boot_o_6 P) (n (PySem.W.boot_o_10 P) (n o11 (n o34 (n o22 (n o130 (n o258 (n o11 x x) x) (n o386 (n o11 x x) x)) (n o194 (n o322 (n o11 x x) x) (n o450 (n o11 x x) x))) (n o98 (n o16 (n o11 (n o546 x x) x) (n o11 (n o674 x x) x)) (n o226 (n o11 (n o610 x x) x) (n o11 (n o11 x x) x)))) (n (o50 P) (n o82 (n o146 (n o16 (n o530 x x) x) (n o16 (n o658 x x) x)) (n o11 (n o16 (n o594 x x) x) (n o16 (n o722 x x) x))) (n o114 (n o11 (n o306 (n o562 x x) x) (n o434 (n o16 x x) x)) (n o242 (n o370 (n o626 x x) x) (n o498 x x))))) (n o26 (n o42 (n o74 (n o138 (n o11 (n o16 x x) x) (n o11 (n o16 x x) x)) (n o202 (n o11 (n o16 x x) x) (n o11 (n o714 x x) x))) (n o106 (n o170 (n o11 (n o554 x x) x) (n o426 (n o11 x x) x)) (n o11 (n o11 (n o618 x x) x) (n o490 (n o16 x x) x)))) (n o16 (n (o90 P) (n o11 (n o282 (n o11 x x) x) (n o410 (n o666 x x) x)) (n o16 (n o346 (n o11 x x) x) (n o474 (n o730 x x) x))) (n o122 (n o186 (n o314 (n o570 x x) x) (n o442 (n o698 x x) x)) (n o250 (n o378 (n o634 x x) x) (n o506 x x)))))) (n o14 (n o22 (n o38 (n o70 (n o16 (n o11 (n o518 x x) x) (n o390 (n o646 x x) x)) (n o198 (n o11 (n o582 x x) x) (n o11 (n o11 x x) x))) (n o102 (n o166 (n o294 (n o23 x x) x) (n o11 (n o11 x x) x)) (n o230 (n o294 (n o16 x x) x) (n o11 (n o742 x x) x)))) (n o42 (n o86 (n o11 (n o278 (n o534 x x) x) (n o406 (n o662 x x) x)) (n o214 (n o342 (n o598 x x) x) (n o470 (n o726 x x) x))) (n o16 (n o11 (n o16 (n o566 x x) x) (n o16 (n o694 x x) x)) (n o16 (n o23 (n o630 x x) x) (n o502 x x))))) (n o16 (n o16 (n o11 (n o142 (n o270 (n o526 x x) x) (n o398 (n o654 x x) x)) (n o11 (n o334 (n o590 x x) x) (n o462 (n o16 x x) x))) (n o11 (n o174 (n o11 (n o16 x x) x) (n o11 (n o686 x x) x)) (n o11 (n o11 (n o622 x x) x) (n o16 (n o750 x x) x)))) (n (o62 P) (n o94 (n o158 (n o286 (n o11 x x) x) (n o414 (n o670 x x) x)) (n o222 (n o350 (n o11 x x) x) (n o478 (n o11 x x) x))) (n o126 (n o16 (n o318 (n o11 x x) x) (n o446 (n o702 x x) x)) (n o254 (n o382 (n o11 x x) x) (n o11 x x)))))))))
noncomputable abbrev pE : Program := PySem.Challenge.pw_np0154_01
noncomputable def heapA (P : Params) : Heap := ⟨⟨[PySem.W.boot_o_0 P, PySem.W.boot_o_1 P, PySem.W.boot_o_2 P, PySem.W.boot_o_3 P, PySem.W.boot_o_4 P, PySem.W.boot_o_5 P, PySem.W.boot_o_6 P, PySem.W.boot_o_7 P, PySem.W.boot_o_8 P, PySem.W.boot_o_9 P, PySem.W.boot_o_10 P, o11, nf, o13, o14]⟩, {}⟩
noncomputable def treeA (P : Params) : BT := (n (PySem.W.boot_o_0 P) (n (PySem.W.boot_o_1 P) (n (PySem.W.boot_o_3 P) (n (PySem.W.boot_o_7 P) x x) (n o11 x x)) (n (PySem.W.boot_o_5 P) (n (PySem.W.boot_o_9 P) x x) (n o13 x x))) (n (PySem.W.boot_o_2 P) (n (PySem.W.boot_o_4 P) (n (PySem.W.boot_o_8 P) x x) (n nf x x)) (n (PySem.W.boot_o_6 P) (n (PySem.W.boot_o_10 P) x x) (n o14 x x))))
noncomputable def heapF (P : Params) : Heap := ⟨⟨objsF P⟩, {}⟩
noncomputable def envF : Env := { scope := pE.main.scope, locals := mainNs, globals := mainNs, cells := [], code := .ref 13, frame := some 14 }
noncomputable def cdF : Code := .body (behindTheImports pE) envF
noncomputable abbrev pos0 : Pos := ⟨0, 0, 0, 0⟩
noncomputable abbrev posF : Pos := ⟨738, 0, 754, 85⟩
noncomputable abbrev annF : Option Value := some (.ref 6)
noncomputable def shA (w : World) (os : OsState) : SharedT := { tree := treeA w.params, n := 15, life := {}, gens := ⟨[]⟩, drawn := {}, toks := 187, os := os }
noncomputable def shF (w : World) (os : OsState) : SharedT := { tree := treeF w.params, n := 752, life := {}, gens := ⟨[]⟩, drawn := {}, toks := 1251, os := os }
theorem run1 : ∀ w : World, (fun os => topGo treeTable pE w 11 annF 12 ⟨boot_heap w.params, ⟨[]⟩, boot_drawn, boot_toks, os⟩ (topStub pE)) =
    fun os => some (⟨heapA w.params, ⟨[]⟩, {}, 187, os⟩, ⟨denote treeTable cdF, cdF, pos0, [topFrame pos0]⟩) := by intro w; kernel_rfl
theorem run2 : ∀ w : World, (fun os => segRun treeTable pE w 11 annF 1 1 ⟨heapA w.params, ⟨[]⟩, {}, 187, os⟩ (blockOf (behindTheImports pE) envF cdF pos0 [topFrame pos0])) =
    fun os => some (Flow.next, (shA w os).abs, cdF, pos0) := by intro w; kernel_rfl
theorem run3 : ∀ w : World, (fun os => segRunT treeTable pE w 11 annF 1 6000 (shA w os) (piecesOf (behindTheImports pE) envF cdF pos0 [topFrame pos0])) =
    fun os => some (Flow.next, shF w os, cdF, posF) := by intro w; kernel_rfl
theorem run4 : ∀ w : World, (fun os => topRun treeTable pE w 11 annF 2 (shF w os).abs ⟨doneF .next, cdF, posF, [topFrame pos0]⟩) =
    fun os => some ⟨heapF w.params, ⟨[]⟩, {}, 1251, os⟩ := by intro w; kernel_rfl
theorem runF (w : World) (os : OsState) : topRun treeTable pE w 11 annF (12 + (1 + (6000 + 2))) ⟨boot_heap w.params, ⟨[]⟩, boot_drawn, boot_toks, os⟩ (topStub pE) = some ⟨heapF w.params, ⟨[]⟩, {}, 1251, os⟩ := by
  refine go_top (congrFun (run1 w) os) (piece_block (congrFun (run2 w) os) ?_)
  have h := piece_app (rest := []) (segRun_of (congrFun (run3 w) os)) (piece_nil (congrFun (run4 w) os))
  rw [List.append_nil] at h
  exact h
end

section
noncomputable def qF : Program := view pE [72]
noncomputable def looseF : List Str := List.map Str.ofString ["_wall", "TclFault", "Misused", "OutOfFuel", "Raised", "Nest", "Pause", "error", "cut", "note", "note_row", "end_return", "end_proc", "is_blank", "digit", "hex_sign", "octal_sign", "backslash", "is_gap", "skip_gaps", "comment_behind", "skip_to_command", "read_name", "variable", "brackets", "braces", "parts_until", "bare_stops", "is_expanded", "word", "command_at", "check_behind", "braced_element", "quoted_element", "bare_element", "find_element", "split_list", "mode_of", "escaped", "quote", "join_list", "Var", "text_of", "words_of", "blame", "run_script", "Host", "no_variable", "var_in", "put_value", "elements_in", "pair_of", "act", "SmallHost", "_law_next", "_law_sign", "_law_drawn", "_law_fixed", "_law_hex", "_law_coded", "_law_spelled", "_law_may_brace", "_law_written", "_law_command", "_law_record"]
noncomputable abbrev asF : List Addr := List.range 752
noncomputable def KF (P : Params) : Frag := (objsF P).zipIdx.map fun p => (p.2, p.1)
theorem KF_as (P : Params) : asF = (KF P).map (·.1) := by kernel_rfl
noncomputable def hookF : Hook := kHook KF asF KF_as
noncomputable def XtF (s : Shared) : Bool := xlAt qF [] s && recOk (RowW.records PySem.Challenge.rw_np0154_01.row.toRowW) s
theorem looks1 : ∀ w : World, (fun os : OsState => (staticsOk (importedModules pE.main.body) (boot_heap w.params) (heapF w.params) && namesBound pE (heapF w.params) && gensDone ⟨heapF w.params, ⟨[]⟩, {}, 1251, os⟩ && laidKept (boot_heap w.params) (heapF w.params))) = fun _ => true := by intro w; kernel_rfl
theorem looks2 : ∀ w : World, (fun os : OsState => openSeen qF looseF (importedModules pE.main.body) XtF true ⟨heapF w.params, ⟨[]⟩, {}, 1251, os⟩) = fun _ => openGood qF looseF := by intro w; kernel_rfl
theorem looks3 : ∀ w : World, (fun os : OsState => hookF.obs ⟨heapF w.params, ⟨[]⟩, {}, 1251, os⟩) = fun _ => hookF.val w := by intro w; kernel_rfl
theorem leftF : LeftO pE qF looseF XtF hookF.obs hookF.val 9556 := by
  refine LeftO.of_pieces (H₀ := boot_heap) (H₁ := heapF) (gs₀ := ⟨[]⟩) (gs₁ := ⟨[]⟩) (d₀ := boot_drawn) (d₁ := {}) (k₀ := boot_toks) (k₁ := 1251) (m₀ := 11) (ann := annF) (M := 12 + (1 + (6000 + 2))) (boot_open (by kernel_rfl) (by decide) (by intro s; kernel_rfl)) (by intro w; kernel_rfl) runF (by decide) ?_
  intro w
  funext os
  rw [congrFun (looks1 w) os, congrFun (looks2 w) os, congrFun (looks3 w) os]
end

section
theorem dF_some : (defOf qF (Str.ofString "law")).isSome = true := by kernel_rfl
noncomputable def dF : DefRec := ((defOf qF (Str.ofString "law")).get dF_some).1
noncomputable abbrev WalkF : Prop := WalkO qF looseF (XL qF []) hookF.says PySem.Challenge.rw_np0154_01.row.toRowW dF [] fun f vs => PySem.call f vs
theorem saidNames : namesResolve PySem.Challenge.pw_np0154_01 = true := by kernel_rfl
theorem saidLooks : looksOpen PySem.Challenge.pw_np0154_01 = true := by
  unfold looksOpen
  rw [saidNames]
  kernel_rfl
theorem saidR : PySem.Challenge.rw_np0154_01.row.wellSaid = true := by
  unfold OpenRow.wellSaid OpenRow.partSaid
  rw [show looksOpen PySem.Challenge.rw_np0154_01.row.prog = true from saidLooks]
  kernel_rfl
theorem said1 : PySem.Challenge.rw_np0154_01.wellSaid = true := by
  unfold OpenLaw.wellSaid
  rw [saidR]
  kernel_rfl
theorem hdF (walk : WalkF) : PySem.Challenge.rw_np0154_01.Holds := by
  refine holds_law said1 fun _ => ?_
  refine PySem.W.holds_open (q := qF) (loose := looseF) (Xt := XtF) (XP := XL qF []) (Yf := Hook.obs hookF) (Ya := Hook.val hookF) (YP := Hook.says hookF) (N := 9556) (d := dF) (kwd := []) leftF (Hook.of hookF) (Hook.keeps hookF)
    (fun s e => xl_of s (Bool.and_eq_true_iff.mp e).1) XL.keeps (by kernel_rfl) (by kernel_rfl) (by kernel_rfl) (fun s e => recFacts_of (Bool.and_eq_true_iff.mp e).2) (by rfl) saidR (by kernel_rfl) ⟨rfl, rfl, rfl, rfl, rfl, by decide +kernel⟩ ?hw walk
  case hw => w_witness2
end

section
/-! ## The small language: names -/
inductive Fn where
  | is_blank | digit | hex_sign | octal_sign | backslash | is_gap | skip_gaps | comment_behind | skip_to_command
  | braces | parts_until | bare_stops | is_expanded | word | command_at
  | check_behind | braced_element | quoted_element | bare_element | find_element | split_list
  | mode_of | escaped | quote | join_list | text_of | words_of | run_script | act
  | hostInit | spend | call | smallInit | put | remove | begin
  | law_next | law_sign | law_drawn | law_fixed | law_hex | law_coded | law_spelled | law_may_brace
  | law_written | law_command | law_record | law
inductive Cl where | nest | pause | host | small
inductive Bi where | len | ord | chr | str | tuple | isinstance
inductive Mt where | append | extend | find | join | pop | init | put | remove | begin | spend | call
inductive At where | tools | inline | limit | fuel | depth | spent | epoch | frame | coroutine | vars | commands | firsts
  deriving DecidableEq

/-! ## Values -/
inductive Vl where
  | none
  | bool (b : Bool)
  | int (i : Int)
  | str (s : List Nat)
  | tup (l : List Vl)
  | lst (l : List Vl)
  | ref (i : Nat)
  | fn (f : Fn)
  | cls (c : Cl)
inductive Ob where
  | list (l : List Vl)
  | attrs (l : List (At × Vl))
  | inst (d : Nat)
  | dict (l : List (List Nat × Vl))
noncomputable abbrev Sto := List Ob

/-! ## Syntax -/
inductive Bop where | add | sub | mul | fdiv | mod
inductive Cop where | eq | ne | lt | le | gt | ge | isin | notin | is | isnot
set_option genInjectivity false
set_option genSizeOf false
mutual
inductive Ex where
  | none (p : Pos)
  | bool (b : Bool) (p : Pos)
  | int (i : Int) (p : Pos)
  | str (s : Str) (l : List Nat) (p : Pos)
  | loc (i : Nat) (p : Pos)
  | fn (f : Fn) (p : Pos)
  | bin (op : Bop) (l r : Ex) (p : Pos)
  | neg (e : Ex) (p : Pos)
  | not (e : Ex) (p : Pos)
  | cmp (op : Cop) (l r : Ex) (p : Pos)
  | cmp2 (o1 o2 : Cop) (a b c : Ex) (p : Pos)
  | bop (isAnd : Bool) (es : Exs) (p : Pos)
  | ite (t b o : Ex) (p : Pos)
  | idx (o i : Ex) (p : Pos)
  | slc (o l u : Ex) (ps p : Pos)
  | slcU (o u : Ex) (ps p : Pos)
  | tup (es : Exs) (p : Pos)
  | list (es : Exs) (p : Pos)
  | call (f : Fn) (pf : Pos) (es : Exs) (p : Pos)
  | callL (i : Nat) (pf : Pos) (es : Exs) (p : Pos)
  | bi (b : Bi) (pf : Pos) (es : Exs) (p : Pos)
  | isi (i : Nat) (c : Cl) (pf pi pc p : Pos)
  | meth (o : Ex) (m : Mt) (pa : Pos) (es : Exs) (p : Pos)
  | clsInit (c : Cl) (pc pa : Pos) (es : Exs) (p : Pos)
  | attr (o : Ex) (a : At) (p : Pos)
  | new (pf p : Pos)
  | dict0 (p : Pos)
  | raw (e : Expr)
inductive Exs where
  | nil
  | cons (e : Ex) (es : Exs)
end
mutual
inductive St where
  | assign (i : Nat) (pi : Pos) (e : Ex) (p : Pos)
  | assignT (is : List (Nat × Pos)) (pt : Pos) (e : Ex) (p : Pos)
  | assignD (i : Nat) (pi : Pos) (j : Nat) (pj : Pos) (pt : Pos) (a b : Ex) (pe p : Pos)
  | setItem (o i e : Ex) (ps p : Pos)
  | setAttr (o : Ex) (a : At) (pa : Pos) (e : Ex) (p : Pos)
  | aug (i : Nat) (pi : Pos) (op : Bop) (e : Ex) (p : Pos)
  | augAttr (i : Nat) (pi : Pos) (a : At) (pa : Pos) (op : Bop) (e : Ex) (p : Pos)
  | ite (t : Ex) (a b : Sts) (p : Pos)
  | while (t : Ex) (b : Sts) (p : Pos)
  | for (i : Nat) (pi : Pos) (e : Ex) (b : Sts) (p : Pos)
  | forR (i : Nat) (pi : Pos) (pf : Pos) (e : Ex) (pc : Pos) (b : Sts) (p : Pos)
  | ret (e : Ex) (p : Pos)
  | ret0 (p : Pos)
  | expr (e : Ex) (p : Pos)
  | brk (p : Pos)
  | tri (b : Sts) (hs : List ExceptHandler) (p : Pos)
  | raw (s : Stmt)
inductive Sts where
  | nil
  | cons (s : St) (ss : Sts)
end

set_option genInjectivity true
set_option genSizeOf true
/-! ## Back to the model's syntax -/
noncomputable def Fn.name : Fn → Str
  | .is_blank => "is_blank" | .digit => "digit" | .hex_sign => "hex_sign" | .octal_sign => "octal_sign" | .backslash => "backslash"
  | .is_gap => "is_gap" | .skip_gaps => "skip_gaps" | .comment_behind => "comment_behind" | .skip_to_command => "skip_to_command"
  | .braces => "braces" | .parts_until => "parts_until" | .bare_stops => "bare_stops" | .is_expanded => "is_expanded" | .word => "word"
  | .command_at => "command_at" | .check_behind => "check_behind" | .braced_element => "braced_element" | .quoted_element => "quoted_element"
  | .bare_element => "bare_element" | .find_element => "find_element" | .split_list => "split_list" | .mode_of => "mode_of" | .escaped => "escaped"
  | .quote => "quote" | .join_list => "join_list" | .text_of => "text_of" | .words_of => "words_of" | .run_script => "run_script" | .act => "act"
  | .hostInit => "__init__" | .spend => "spend" | .call => "call" | .smallInit => "__init__" | .put => "put" | .remove => "remove" | .begin => "begin"
  | .law_next => "_law_next" | .law_sign => "_law_sign" | .law_drawn => "_law_drawn" | .law_fixed => "_law_fixed" | .law_hex => "_law_hex"
  | .law_coded => "_law_coded" | .law_spelled => "_law_spelled" | .law_may_brace => "_law_may_brace" | .law_written => "_law_written"
  | .law_command => "_law_command" | .law_record => "_law_record" | .law => "law"
noncomputable def Cl.name : Cl → Str
  | .nest => "Nest" | .pause => "Pause" | .host => "Host" | .small => "SmallHost"
noncomputable def Bi.name : Bi → Str
  | .len => "len" | .ord => "ord" | .chr => "chr" | .str => "str" | .tuple => "tuple" | .isinstance => "isinstance"
noncomputable def Mt.name : Mt → Str
  | .append => "append" | .extend => "extend" | .find => "find" | .join => "join" | .pop => "pop" | .init => "__init__" | .put => "put"
  | .remove => "remove" | .begin => "begin" | .spend => "spend" | .call => "call"
noncomputable def At.name : At → Str
  | .tools => "tools" | .inline => "inline" | .limit => "limit" | .fuel => "fuel" | .depth => "depth" | .spent => "spent" | .epoch => "epoch"
  | .frame => "frame" | .coroutine => "coroutine" | .vars => "vars" | .commands => "commands" | .firsts => "firsts"
noncomputable def Bop.py : Bop → Operator
  | .add => .Add | .sub => .Sub | .mul => .Mult | .fdiv => .FloorDiv | .mod => .Mod
noncomputable def Cop.py : Cop → CmpOp
  | .eq => .Eq | .ne => .NotEq | .lt => .Lt | .le => .LtE | .gt => .Gt | .ge => .GtE | .isin => .In | .notin => .NotIn | .is => .Is | .isnot => .IsNot
noncomputable def nm : List Str → Nat → Str
  | [], _ => Str.empty
  | x :: _, 0 => x
  | _ :: xs, n + 1 => nm xs n
mutual
noncomputable def Ex.py (ns : List Str) : Ex → Expr
  | .none p => .Constant .none 0 p
  | .bool b p => .Constant (.bool b) 0 p
  | .int i p => .Constant (.int i) 0 p
  | .str s _ p => .Constant (.str s) 0 p
  | .loc i p => .Name (nm ns i) p
  | .fn f p => .Name f.name p
  | .bin op l r p => .BinOp (l.py ns) op.py (r.py ns) p
  | .neg e p => .UnaryOp .USub (e.py ns) p
  | .not e p => .UnaryOp .Not (e.py ns) p
  | .cmp op l r p => .Compare (l.py ns) [op.py] [r.py ns] p
  | .cmp2 o1 o2 a b c p => .Compare (a.py ns) [o1.py, o2.py] [b.py ns, c.py ns] p
  | .bop isAnd es p => .BoolOp (match isAnd with | true => .And | false => .Or) (es.py ns) p
  | .ite t b o p => .IfExp (t.py ns) (b.py ns) (o.py ns) p
  | .idx o i p => .Subscript (o.py ns) (i.py ns) p
  | .slc o l u ps p => .Subscript (o.py ns) (.Slice (some (l.py ns)) (some (u.py ns)) none ps) p
  | .slcU o u ps p => .Subscript (o.py ns) (.Slice none (some (u.py ns)) none ps) p
  | .tup es p => .Tuple (es.py ns) 0 p
  | .list es p => .List (es.py ns) p
  | .call f pf es p => .Call (.Name f.name pf) (es.py ns) [] p
  | .callL i pf es p => .Call (.Name (nm ns i) pf) (es.py ns) [] p
  | .bi b pf es p => .Call (.Name b.name pf) (es.py ns) [] p
  | .isi i c pf pi pc p => .Call (.Name Bi.isinstance.name pf) [.Name (nm ns i) pi, .Name c.name pc] [] p
  | .meth o m pa es p => .Call (.Attribute (o.py ns) m.name pa) (es.py ns) [] p
  | .clsInit c pc pa es p => .Call (.Attribute (.Name c.name pc) "__init__" pa) (es.py ns) [] p
  | .attr o a p => .Attribute (o.py ns) a.name p
  | .new pf p => .Call (.Name Cl.small.name pf) [] [] p
  | .dict0 p => .Dict [] [] p
  | .raw e => e
noncomputable def Exs.py (ns : List Str) : Exs → List Expr
  | .nil => []
  | .cons e es => e.py ns :: es.py ns
end
mutual
noncomputable def St.py (ns : List Str) : St → Stmt
  | .assign i pi e p => .Assign [.Name (nm ns i) pi] (e.py ns) p
  | .assignT is pt e p => .Assign [.Tuple (is.map fun x => .Name (nm ns x.1) x.2) 0 pt] (e.py ns) p
  | .assignD i pi j pj pt a b pe p => .Assign [.Tuple [.Name (nm ns i) pi, .Name (nm ns j) pj] 0 pt] (.Tuple [a.py ns, b.py ns] 0 pe) p
  | .setItem o i e ps p => .Assign [.Subscript (o.py ns) (i.py ns) ps] (e.py ns) p
  | .setAttr o a pa e p => .Assign [.Attribute (o.py ns) a.name pa] (e.py ns) p
  | .aug i pi op e p => .AugAssign (.Name (nm ns i) pi) op.py (e.py ns) p
  | .augAttr i pi a pa op e p => .AugAssign (.Attribute (.Name (nm ns i) pi) a.name pa) op.py (e.py ns) p
  | .ite t a b p => .If (t.py ns) (a.py ns) (b.py ns) p
  | .while t b p => .While (t.py ns) (b.py ns) [] p
  | .for i pi e b p => .For (.Name (nm ns i) pi) (e.py ns) (b.py ns) [] p
  | .forR i pi pf e pc b p => .For (.Name (nm ns i) pi) (.Call (.Name "range" pf) [e.py ns] [] pc) (b.py ns) [] p
  | .ret e p => .Return (some (e.py ns)) p
  | .ret0 p => .Return none p
  | .expr e p => .Expr (e.py ns) p
  | .brk p => .Break p
  | .tri b hs p => .Try (b.py ns) hs [] [] p
  | .raw s => s
noncomputable def Sts.py (ns : List Str) : Sts → List Stmt
  | .nil => []
  | .cons s ss => s.py ns :: ss.py ns
end

/-! ## The interpreter -/
noncomputable def locGet : List (Option Vl) → Nat → Option Vl
  | [], _ => none
  | x :: _, 0 => x
  | _ :: xs, n + 1 => locGet xs n
noncomputable def locSet : List (Option Vl) → Nat → Vl → List (Option Vl)
  | [], _, _ => []
  | _ :: xs, 0, v => some v :: xs
  | x :: xs, n + 1, v => x :: locSet xs n v
noncomputable abbrev Loc := List (Option Vl)

/-- what a value is -/
noncomputable def vInt : Vl → Option Int
  | .int a => some a
  | .none => none | .bool _ => none | .str _ => none | .tup _ => none | .lst _ => none | .ref _ => none | .fn _ => none | .cls _ => none
noncomputable def vStr : Vl → Option (List Nat)
  | .str a => some a
  | .none => none | .bool _ => none | .int _ => none | .tup _ => none | .lst _ => none | .ref _ => none | .fn _ => none | .cls _ => none
noncomputable def vRef : Vl → Option Nat
  | .ref a => some a
  | .none => none | .bool _ => none | .int _ => none | .str _ => none | .tup _ => none | .lst _ => none | .fn _ => none | .cls _ => none
noncomputable def vTup : Vl → Option (List Vl)
  | .tup a => some a
  | .none => none | .bool _ => none | .int _ => none | .str _ => none | .ref _ => none | .lst _ => none | .fn _ => none | .cls _ => none
noncomputable def vLst : Vl → Option (List Vl)
  | .lst a => some a
  | .none => none | .bool _ => none | .int _ => none | .str _ => none | .ref _ => none | .tup _ => none | .fn _ => none | .cls _ => none
noncomputable def vFn : Vl → Option Fn
  | .fn a => some a
  | .none => none | .bool _ => none | .int _ => none | .str _ => none | .ref _ => none | .tup _ => none | .lst _ => none | .cls _ => none
noncomputable def vNone : Vl → Option Unit
  | .none => some ()
  | .fn _ => none | .bool _ => none | .int _ => none | .str _ => none | .ref _ => none | .tup _ => none | .lst _ => none | .cls _ => none
noncomputable def obL : Ob → Option (List Vl)
  | .list l => some l
  | .attrs _ => none | .inst _ => none | .dict _ => none
noncomputable def obA : Ob → Option (List (At × Vl))
  | .attrs l => some l
  | .list _ => none | .inst _ => none | .dict _ => none
noncomputable def obI : Ob → Option Nat
  | .inst d => some d
  | .list _ => none | .attrs _ => none | .dict _ => none
noncomputable def obD : Ob → Option (List (List Nat × Vl))
  | .dict l => some l
  | .list _ => none | .attrs _ => none | .inst _ => none
noncomputable def lstI (σ : Sto) (i : Nat) : Option (List Vl) := (σ[i]?).bind obL
noncomputable def dctI (σ : Sto) (i : Nat) : Option (List (List Nat × Vl)) := (σ[i]?).bind obD
noncomputable def lstOf (σ : Sto) : Vl → Option (List Vl)
  | .lst l => some l
  | .ref i => lstI σ i
  | .none => none | .bool _ => none | .int _ => none | .str _ => none | .tup _ => none | .fn _ => none | .cls _ => none
noncomputable def truthV (σ : Sto) : Vl → Option Bool
  | .bool b => some b
  | .lst l => some (!l.isEmpty)
  | .ref i => (lstI σ i).map fun l => !l.isEmpty
  | .none => none | .int _ => none | .str _ => none | .tup _ => none | .fn _ => none | .cls _ => none
noncomputable def strsOf : List Vl → Option (List (List Nat))
  | [] => some []
  | v :: r => (vStr v).bind fun s => (strsOf r).map fun t => s :: t
noncomputable def inStrs (a : List Nat) : List Vl → Option Bool
  | [] => some false
  | v :: r => (vStr v).bind fun b => (inStrs a r).map fun x => (b == a) || x
noncomputable def dictGet (k : List Nat) : List (List Nat × Vl) → Option Vl
  | [] => none
  | (j, v) :: r => if j = k then some v else dictGet k r
noncomputable def dictPut (k : List Nat) (v : Vl) : List (List Nat × Vl) → List (List Nat × Vl)
  | [] => [(k, v)]
  | (j, u) :: r => if j = k then (j, v) :: r else (j, u) :: dictPut k v r
noncomputable def attrGet (a : At) : List (At × Vl) → Option Vl
  | [] => none
  | (b, v) :: r => if b = a then some v else attrGet a r
noncomputable def attrPut (a : At) (v : Vl) : List (At × Vl) → List (At × Vl)
  | [] => [(a, v)]
  | (b, u) :: r => if b = a then (b, v) :: r else (b, u) :: attrPut a v r
noncomputable def idxC (c : Nat) : List Nat → Nat → Int
  | [], _ => -1
  | x :: r, n => if x = c then (n : Int) else idxC c r (n + 1)
/-- two lists of texts -/
noncomputable def eqStrs : List Vl → List Vl → Option Bool
  | [], b => some b.isEmpty
  | v :: r, b => match b with
    | [] => some false
    | u :: q => (vStr v).bind fun a => (vStr u).bind fun c => (eqStrs r q).map fun x => (a == c) && x
/-- two lists of lists of texts -/
noncomputable def eqLists : List Vl → List Vl → Option Bool
  | [], b => match b with
    | [] => some true
    | _ :: _ => none
  | v :: r, b => match b with
    | [] => none
    | u :: q => (vLst v).bind fun a => (vLst u).bind fun c => (eqStrs a c).bind fun x => (eqLists r q).map fun y => x && y
noncomputable def headLst : List Vl → Bool
  | [] => false
  | v :: _ => (vLst v).isSome
noncomputable def eqL (a b : List Vl) : Option Bool := match headLst a with
  | true => eqLists a b
  | false => eqStrs a b
noncomputable def eqV (σ : Sto) (x y : Vl) : Option Bool := match x with
  | .int a => (vInt y).map fun b => a == b
  | .str a => (vStr y).map fun b => a == b
  | .ref i => (lstI σ i).bind fun a => (vRef y).bind fun j => (lstI σ j).bind fun b => eqL a b
  | .none => none | .bool _ => none | .tup _ => none | .lst _ => none | .fn _ => none | .cls _ => none
noncomputable def neV (x y : Vl) : Option Bool := match x with
  | .int a => (vInt y).map fun b => a != b
  | .str a => (vStr y).map fun b => a != b
  | .none => none | .bool _ => none | .tup _ => none | .lst _ => none | .fn _ => none | .cls _ => none | .ref _ => none
noncomputable def intsV (f : Int → Int → Bool) (x y : Vl) : Option Bool := (vInt x).bind fun a => (vInt y).map fun b => f a b
noncomputable def oneC : List Nat → Option Nat
  | [] => none
  | c :: r => match r with
    | [] => some c
    | _ :: _ => none
noncomputable def inW (σ : Sto) (a : List Nat) (y : Vl) : Option Bool := match y with
  | .tup l => inStrs a l
  | .str b => (oneC a).map fun c => b.contains c
  | .ref i => (dctI σ i).map fun l => (dictGet a l).isSome
  | .none => none | .bool _ => none | .int _ => none | .lst _ => none | .fn _ => none | .cls _ => none
noncomputable def inV (σ : Sto) (x y : Vl) : Option Bool := (vStr x).bind fun a => inW σ a y
noncomputable def isNV : Vl → Option Bool
  | .none => some true
  | .tup _ => some false
  | .ref _ => some false
  | .bool _ => none | .int _ => none | .str _ => none | .lst _ => none | .fn _ => none | .cls _ => none
noncomputable def isV (x y : Vl) : Option Bool := (vNone y).bind fun _ => isNV x
noncomputable def cmpV (σ : Sto) (op : Cop) (x y : Vl) : Option Bool :=
  match op with
  | .eq => eqV σ x y
  | .ne => neV x y
  | .lt => intsV (fun a b => decide (a < b)) x y
  | .le => intsV (fun a b => decide (a ≤ b)) x y
  | .gt => intsV (fun a b => decide (b < a)) x y
  | .ge => intsV (fun a b => decide (b ≤ a)) x y
  | .isin => inV σ x y
  | .notin => (inV σ x y).map fun b => !b
  | .is => isV x y
  | .isnot => (isV x y).map fun b => !b
noncomputable def big : Nat := 1099511627776
noncomputable def line : Nat := 16777216
noncomputable def intsO (f : Int → Int → Option Vl) (x y : Vl) : Option Vl := (vInt x).bind fun a => (vInt y).bind fun b => f a b
noncomputable def catS (a b : List Nat) : Option Vl := if a.length + b.length ≤ line then some (.str (a ++ b)) else none
noncomputable def addV (σ : Sto) (x y : Vl) : Option Vl := match x with
  | .int a => (vInt y).map fun b => .int (a + b)
  | .str a => (vStr y).bind fun b => catS a b
  | .ref i => (lstI σ i).bind fun a => (lstOf σ y).bind fun b => if a.length + b.length ≤ line then some (.lst (a ++ b)) else none
  | .none => none | .bool _ => none | .tup _ => none | .lst _ => none | .fn _ => none | .cls _ => none
noncomputable def binV (σ : Sto) (op : Bop) (x y : Vl) : Option Vl :=
  match op with
  | .add => addV σ x y
  | .sub => intsO (fun a b => some (.int (a - b))) x y
  | .mul => intsO (fun a b => if a.natAbs < big ∧ b.natAbs < big then some (.int (a * b)) else none) x y
  | .fdiv => intsO (fun a b => if 0 < b ∧ b < big then some (.int (a / b)) else none) x y
  | .mod => intsO (fun a b => if 0 < b ∧ b < big then some (.int (a % b)) else none) x y
noncomputable def iaddV (x y : Vl) : Option Vl := match x with
  | .int a => (vInt y).map fun b => .int (a + b)
  | .str a => (vStr y).bind fun b => catS a b
  | .none => none | .bool _ => none | .tup _ => none | .lst _ => none | .fn _ => none | .cls _ => none | .ref _ => none
noncomputable def augV (op : Bop) (x y : Vl) : Option Vl :=
  match op with
  | .add => iaddV x y
  | .sub => intsO (fun a b => some (.int (a - b))) x y
  | .mul => none | .fdiv => none | .mod => none
noncomputable def natI (v : Vl) : Option Nat := (vInt v).bind fun i => if 0 ≤ i then some i.toNat else none
noncomputable def idxO (o : Ob) (i : Vl) : Option Vl := match o with
  | .list l => (natI i).bind fun n => l[n]?
  | .dict l => (vStr i).bind fun k => dictGet k l
  | .attrs _ => none | .inst _ => none
noncomputable def idxV (σ : Sto) (o i : Vl) : Option Vl := match o with
  | .str s => (natI i).bind fun n => (s[n]?).map fun c => .str [c]
  | .tup l => (natI i).bind fun n => l[n]?
  | .lst l => (natI i).bind fun n => l[n]?
  | .ref r => (σ[r]?).bind fun b => idxO b i
  | .none => none | .bool _ => none | .int _ => none | .fn _ => none | .cls _ => none
noncomputable def slcW (o : Vl) (a b : Nat) : Option Vl := match o with
  | .str s => some (.str ((s.drop a).take (b - a)))
  | .lst l => some (.lst ((l.drop a).take (b - a)))
  | .none => none | .bool _ => none | .int _ => none | .tup _ => none | .ref _ => none | .fn _ => none | .cls _ => none
noncomputable def slcV (σ : Sto) (o : Vl) (a b : Int) : Option Vl :=
  if 0 ≤ a ∧ 0 ≤ b ∧ a < big ∧ b < big then slcW o a.toNat b.toNat else none
noncomputable def arg1 : List Vl → Option Vl
  | [] => none
  | v :: r => match r with
    | [] => some v
    | _ :: _ => none
noncomputable def lenV (σ : Sto) (v : Vl) : Option Vl := match v with
  | .str s => some (.int s.length)
  | .lst l => some (.int l.length)
  | .ref i => (lstI σ i).map fun l => .int l.length
  | .none => none | .bool _ => none | .int _ => none | .tup _ => none | .fn _ => none | .cls _ => none
noncomputable def biV (σ : Sto) (b : Bi) (vs : List Vl) : Option Vl := (arg1 vs).bind fun v =>
  match b with
  | .len => lenV σ v
  | .ord => (vStr v).bind fun s => (oneC s).map fun (c : Nat) => Vl.int (Int.ofNat c)
  | .chr => (vInt v).bind fun n => if 0 ≤ n ∧ n < 1114112 then some (.str [n.toNat]) else none
  | .str => (vInt v).bind fun n => if 0 ≤ n ∧ n < 10 then some (.str [48 + n.toNat]) else none
  | .tuple => (lstOf σ v).map fun l => .tup l
  | .isinstance => none
noncomputable def joinL (sep : List Nat) : List (List Nat) → List Nat
  | [] => []
  | [x] => x
  | x :: r => x ++ sep ++ joinL sep r
noncomputable def noneOf : List Vl → Option Unit
  | [] => none
  | v :: r => match r with
    | [] => vNone v
    | _ :: _ => none
noncomputable def popA : List Vl → Option (List Nat)
  | [] => none
  | v :: r => (vStr v).bind fun k => (noneOf r).map fun _ => k
noncomputable def popD (σ : Sto) : List (List Nat × Vl) → Option (Vl × Sto)
  | [] => some (.none, σ)
  | _ :: _ => none
/-- methods of lists, texts, dicts -/
noncomputable def methV (σ : Sto) (m : Mt) (o : Vl) (vs : List Vl) : Option (Vl × Sto) :=
  match m with
  | .append => (vRef o).bind fun i => (arg1 vs).bind fun v => (lstI σ i).bind fun l => if l.length < line then some (.none, σ.set i (.list (l ++ [v]))) else none
  | .extend => (vRef o).bind fun i => (arg1 vs).bind fun v => (lstI σ i).bind fun l => (lstOf σ v).bind fun k => if l.length + k.length < line then some (.none, σ.set i (.list (l ++ k))) else none
  | .find => (vStr o).bind fun s => (arg1 vs).bind fun v => (vStr v).bind fun t => (oneC t).map fun c => (.int (idxC c s 0), σ)
  | .join => (vStr o).bind fun s => (arg1 vs).bind fun v => (lstOf σ v).bind fun l => (strsOf l).bind fun ss => if (ss.map List.length).sum + ss.length * s.length ≤ line then some (.str (joinL s ss), σ) else none
  | .pop => (vRef o).bind fun i => (popA vs).bind fun k => (dctI σ i).bind fun l => popD σ l
  | .init => none | .put => none | .remove => none | .begin => none | .spend => none | .call => none
noncomputable def isL (σ : Sto) (x : Vl) : Bool := ((vRef x).bind (lstI σ)).isSome
noncomputable def methK (σ : Sto) (m : Mt) (x : Vl) : Bool :=
  match m with
  | .append => isL σ x
  | .extend => isL σ x
  | .pop => ((vRef x).bind (dctI σ)).isSome
  | .find => (vStr x).isSome
  | .join => (vStr x).isSome
  | .init => false | .put => false | .remove => false | .begin => false | .spend => false | .call => false
noncomputable def instI (σ : Sto) (i : Nat) : Option (Nat × List (At × Vl)) := (σ[i]?).bind fun o => (obI o).bind fun d => (σ[d]?).bind fun a => (obA a).map fun l => (d, l)
noncomputable def instOf (σ : Sto) (x : Vl) : Option (List (At × Vl)) := (vRef x).bind fun i => (instI σ i).map fun p => p.2
/-- methods of the text's own -/
noncomputable def methF : Mt → Option Fn
  | .put => some .put | .remove => some .remove | .begin => some .begin | .spend => some .spend | .call => some .call
  | .append => none | .extend => none | .find => none | .join => none | .pop => none | .init => none
inductive Fl where
  | next | brk | ret (v : Vl)
noncomputable abbrev CallT := Fn → List Vl → Sto → Option (Vl × Sto)
noncomputable def thenV {α : Type} (o : Option (Vl × Sto)) (f : Vl → Sto → Option α) : Option α := match o with
  | some p => f p.1 p.2
  | none => none
noncomputable def thenL {α : Type} (o : Option (List Vl × Sto)) (f : List Vl → Sto → Option α) : Option α := match o with
  | some p => f p.1 p.2
  | none => none
noncomputable def thenF {α : Type} (o : Option (Fl × Loc × Sto)) (f : Fl → Loc → Sto → Option α) : Option α := match o with
  | some p => f p.1 p.2.1 p.2.2
  | none => none
noncomputable def pick2 {α : Type} (u : Bool) (a b : Option α) : Option α := match u with
  | true => a
  | false => b
mutual
noncomputable def evE (C : CallT) : Ex → Loc → Sto → Option (Vl × Sto)
  | .none _, _, σ => some (.none, σ)
  | .bool b _, _, σ => some (.bool b, σ)
  | .int i _, _, σ => some (.int i, σ)
  | .str _ l _, _, σ => some (.str l, σ)
  | .loc i _, ρ, σ => (locGet ρ i).map fun v => (v, σ)
  | .fn f _, _, σ => some (.fn f, σ)
  | .bin op l r _, ρ, σ => thenV (evE C l ρ σ) fun x σ => thenV (evE C r ρ σ) fun y σ => (binV σ op x y).map fun v => (v, σ)
  | .neg e _, ρ, σ => thenV (evE C e ρ σ) fun x σ => (vInt x).map fun i => (.int (-i), σ)
  | .not e _, ρ, σ => thenV (evE C e ρ σ) fun x σ => (truthV σ x).map fun b => (.bool (!b), σ)
  | .cmp op l r _, ρ, σ => thenV (evE C l ρ σ) fun x σ => thenV (evE C r ρ σ) fun y σ => (cmpV σ op x y).map fun b => (.bool b, σ)
  | .cmp2 o1 o2 a b c _, ρ, σ => thenV (evE C a ρ σ) fun x σ => thenV (evE C b ρ σ) fun y σ => (cmpV σ o1 x y).bind fun u =>
      pick2 u (thenV (evE C c ρ σ) fun z σ => (cmpV σ o2 y z).map fun b => (.bool b, σ)) (some (.bool false, σ))
  | .bop isAnd es _, ρ, σ => evB C isAnd es ρ σ
  | .ite t b o _, ρ, σ => thenV (evE C t ρ σ) fun x σ => (truthV σ x).bind fun u => pick2 u (evE C b ρ σ) (evE C o ρ σ)
  | .idx o i _, ρ, σ => thenV (evE C o ρ σ) fun x σ => thenV (evE C i ρ σ) fun y σ => (idxV σ x y).map fun v => (v, σ)
  | .slc o l u _ _, ρ, σ => thenV (evE C o ρ σ) fun x σ => thenV (evE C l ρ σ) fun a σ => (vInt a).bind fun a => thenV (evE C u ρ σ) fun b σ => (vInt b).bind fun b => (slcV σ x a b).map fun v => (v, σ)
  | .slcU o u _ _, ρ, σ => thenV (evE C o ρ σ) fun x σ => thenV (evE C u ρ σ) fun b σ => (vInt b).bind fun b => (slcV σ x 0 b).map fun v => (v, σ)
  | .tup es _, ρ, σ => thenL (evEs C es ρ σ) fun vs σ => if vs.length ≤ 100 then some (.tup vs, σ) else none
  | .list es _, ρ, σ => thenL (evEs C es ρ σ) fun vs σ => if vs.length ≤ 100 then some (.ref σ.length, σ ++ [.list vs]) else none
  | .call f _ es _, ρ, σ => thenL (evEs C es ρ σ) fun vs σ => C f vs σ
  | .callL i _ es _, ρ, σ => (locGet ρ i).bind fun g => (vFn g).bind fun f => thenL (evEs C es ρ σ) fun vs σ => C f vs σ
  | .bi b _ es _, ρ, σ => thenL (evEs C es ρ σ) fun vs σ => (biV σ b vs).map fun v => (v, σ)
  | .isi i _ _ _ _ _, ρ, σ => (locGet ρ i).bind fun x => (vStr x).map fun _ => (.bool false, σ)
  | .meth o m _ es _, ρ, σ => thenV (evE C o ρ σ) fun x σ => match methF m with
    | some f => (instOf σ x).bind fun _ => thenL (evEs C es ρ σ) fun vs σ => C f (x :: vs) σ
    | none => pick2 (methK σ m x) (thenL (evEs C es ρ σ) fun vs σ => methV σ m x vs) none
  | .clsInit c _ _ es _, ρ, σ => match c with
    | .host => thenL (evEs C es ρ σ) fun vs σ => C .hostInit vs σ
    | .nest => none | .pause => none | .small => none
  | .attr o a _, ρ, σ => thenV (evE C o ρ σ) fun x σ => (instOf σ x).bind fun l => (attrGet a l).map fun v => (v, σ)
  | .new _ _, _, σ => thenV (C .smallInit [.ref (σ.length + 1)] (σ ++ [.attrs [], .inst σ.length])) fun x σ' => (vNone x).map fun _ => (.ref (σ.length + 1), σ')
  | .dict0 _, _, σ => some (.ref σ.length, σ ++ [.dict []])
  | .raw _, _, _ => none
noncomputable def evEs (C : CallT) : Exs → Loc → Sto → Option (List Vl × Sto)
  | .nil, _, σ => some ([], σ)
  | .cons e es, ρ, σ => thenV (evE C e ρ σ) fun v σ => thenL (evEs C es ρ σ) fun vs σ => some (v :: vs, σ)
noncomputable def evB (C : CallT) (isAnd : Bool) : Exs → Loc → Sto → Option (Vl × Sto)
  | .nil, _, _ => none
  | .cons e es, ρ, σ => thenV (evE C e ρ σ) fun v σ => match es with
    | .nil => some (v, σ)
    | .cons _ _ => (truthV σ v).bind fun b => if b = isAnd then evB C isAnd es ρ σ else some (v, σ)
end
noncomputable def aftF (fl : Fl) (X : Option (Fl × Loc × Sto)) (ρ : Loc) (σ : Sto) : Option (Fl × Loc × Sto) := match fl with
  | .next => X
  | .brk => some (.next, ρ, σ)
  | .ret v => some (.ret v, ρ, σ)
noncomputable def whileN (c : Loc → Sto → Option (Bool × Sto)) (b : Loc → Sto → Option (Fl × Loc × Sto)) : Nat → Loc → Sto → Option (Fl × Loc × Sto)
  | 0, _, _ => none
  | n + 1, ρ, σ => (c ρ σ).bind fun p => pick2 p.1 (thenF (b ρ p.2) fun fl ρ σ => aftF fl (whileN c b n ρ σ) ρ σ) (some (.next, ρ, p.2))
noncomputable def forL (b : Loc → Sto → Option (Fl × Loc × Sto)) (i : Nat) : List Vl → Loc → Sto → Option (Fl × Loc × Sto)
  | [], ρ, σ => some (.next, ρ, σ)
  | v :: vs, ρ, σ => thenF (b (locSet ρ i v) σ) fun fl ρ σ => aftF fl (forL b i vs ρ σ) ρ σ
noncomputable def test (C : CallT) (t : Ex) (ρ : Loc) (σ : Sto) : Option (Bool × Sto) := thenV (evE C t ρ σ) fun x σ => (truthV σ x).map fun b => (b, σ)
noncomputable def iterOf : Vl → Option (List Vl)
  | .tup l => some l
  | .lst l => some l
  | .str s => some (s.map fun c => .str [c])
  | .none => none | .bool _ => none | .int _ => none | .ref _ => none | .fn _ => none | .cls _ => none
noncomputable def locSets : List (Nat × Pos) → List Vl → Loc → Loc
  | [], _, ρ => ρ
  | p :: is, vs, ρ => match vs with
    | [] => ρ
    | v :: vs => locSets is vs (locSet ρ p.1 v)
noncomputable def rangeVs (n : Nat) : List Vl := (List.range n).map fun (k : Nat) => Vl.int (k : Int)
noncomputable def setO (o : Ob) (k v : Vl) : Option Ob := match o with
  | .list l => (natI k).bind fun n => if n < l.length then some (.list (l.set n v)) else none
  | .dict l => (vStr k).bind fun s => match l with
    | [] => some (.dict [(s, v)])
    | _ :: _ => none
  | .attrs _ => none | .inst _ => none
noncomputable def putA (σ : Sto) (d : Nat) (l : List (At × Vl)) (a : At) (v : Vl) (ρ : Loc) : Option (Fl × Loc × Sto) := if l.length < 100 then some (.next, ρ, σ.set d (.attrs (attrPut a v l))) else none
noncomputable def seqF (fl : Fl) (X : Option (Fl × Loc × Sto)) (ρ : Loc) (σ : Sto) : Option (Fl × Loc × Sto) := match fl with
  | .next => X
  | .brk => some (.brk, ρ, σ)
  | .ret v => some (.ret v, ρ, σ)
mutual
noncomputable def exS (C : CallT) (N : Nat) : St → Loc → Sto → Option (Fl × Loc × Sto)
  | .assign i _ e _, ρ, σ => thenV (evE C e ρ σ) fun v σ => some (.next, locSet ρ i v, σ)
  | .assignT is _ e _, ρ, σ => thenV (evE C e ρ σ) fun x σ => (vTup x).bind fun vs => if vs.length = is.length then some (.next, locSets is vs ρ, σ) else none
  | .assignD i _ j _ _ a b _ _, ρ, σ => thenV (evE C a ρ σ) fun x σ => thenV (evE C b ρ σ) fun y σ => if i ≠ j then some (.next, locSet (locSet ρ i x) j y, σ) else none
  | .setItem o i e _ _, ρ, σ => thenV (evE C e ρ σ) fun v σ => thenV (evE C o ρ σ) fun x σ => (vRef x).bind fun r => thenV (evE C i ρ σ) fun k σ => (σ[r]?).bind fun o => (setO o k v).map fun o' => (.next, ρ, σ.set r o')
  | .setAttr o a _ e _, ρ, σ => thenV (evE C e ρ σ) fun v σ => thenV (evE C o ρ σ) fun x σ => (vRef x).bind fun r => (instI σ r).bind fun p => putA σ p.1 p.2 a v ρ
  | .aug i _ op e _, ρ, σ => (locGet ρ i).bind fun x => thenV (evE C e ρ σ) fun y σ => (augV op x y).map fun v => (.next, locSet ρ i v, σ)
  | .augAttr i _ a _ op e _, ρ, σ => (locGet ρ i).bind fun z => (vRef z).bind fun r => (instI σ r).bind fun p => (attrGet a p.2).bind fun w => (vInt w).bind fun x => thenV (evE C e ρ σ) fun y σ' => (augV op (.int x) y).bind fun v => (instI σ' r).bind fun p' => if p.1 = p'.1 then putA σ' p'.1 p'.2 a v ρ else none
  | .ite t a b _, ρ, σ => thenV (evE C t ρ σ) fun x σ => (truthV σ x).bind fun u => pick2 u (exSs C N a ρ σ) (exSs C N b ρ σ)
  | .while t b _, ρ, σ => whileN (test C t) (exSs C N b) N ρ σ
  | .for i _ e b _, ρ, σ => thenV (evE C e ρ σ) fun v σ => (iterOf v).bind fun vs => forL (exSs C N b) i vs ρ σ
  | .forR i _ _ e _ b _, ρ, σ => thenV (evE C e ρ σ) fun x σ => (vInt x).bind fun n => if 0 ≤ n ∧ n < big then forL (exSs C N b) i (rangeVs n.toNat) ρ σ else none
  | .ret e _, ρ, σ => thenV (evE C e ρ σ) fun v σ => some (.ret v, ρ, σ)
  | .ret0 _, ρ, σ => some (.ret .none, ρ, σ)
  | .expr e _, ρ, σ => thenV (evE C e ρ σ) fun v σ => (vNone v).map fun _ => (.next, ρ, σ)
  | .brk _, ρ, σ => some (.brk, ρ, σ)
  | .tri b _ _, ρ, σ => exSs C N b ρ σ
  | .raw _, _, _ => none
noncomputable def exSs (C : CallT) (N : Nat) : Sts → Loc → Sto → Option (Fl × Loc × Sto)
  | .nil, ρ, σ => some (.next, ρ, σ)
  | .cons s ss, ρ, σ => thenF (exS C N s ρ σ) fun fl ρ σ => seqF fl (exSs C N ss ρ σ) ρ σ
end
mutual
noncomputable def noref (n : Nat) : Vl → Bool
  | .tup l => norefs n l
  | .lst l => norefs n l
  | .ref i => decide (i < n)
  | .none => true | .bool _ => true | .int _ => true | .str _ => true | .fn _ => true | .cls _ => true
noncomputable def norefs (n : Nat) : List Vl → Bool
  | [] => true
  | v :: r => noref n v && norefs n r
end
noncomputable def freeze (n : Nat) (σ : Sto) (v : Vl) : Option Vl := match vRef v with
  | some i => if i < n then some (.ref i) else (lstI σ i).bind fun l => if norefs n l = true then some (.lst l) else none
  | none => if noref n v = true then some v else none
open Classical in
noncomputable def finish (pur : Bool) (σ : Sto) (v : Vl) (σ' : Sto) : Option (Vl × Sto) :=
  match pur with
  | true => if σ'.take σ.length = σ then (freeze σ.length σ' v).map fun v => (v, σ) else none
  | false => some (v, σ')
structure FnD where
  np : Nat
  defs : List Vl
  names : List Str
  body : Sts
  pur : Bool
noncomputable def bindA (np : Nat) (defs vs : List Vl) : Option (List Vl) :=
  if vs.length ≤ np ∧ np ≤ vs.length + defs.length then some (vs ++ defs.drop (vs.length + defs.length - np)) else none
noncomputable def padN : Nat → Loc
  | 0 => []
  | n + 1 => none :: padN n
noncomputable def outV : Fl → Option Vl
  | .ret v => some v
  | .next => some .none
  | .brk => none
noncomputable def callN (D : Fn → FnD) (N : Nat) : Nat → CallT
  | 0 => fun _ _ _ => none
  | d + 1 => fun f vs σ => (bindA (D f).np (D f).defs vs).bind fun us => thenF (exSs (callN D N d) N (D f).body (us.map some ++ padN ((D f).names.length - (D f).np)) σ) fun fl _ σ' => (outV fl).bind fun v => finish (D f).pur σ v σ'

/-! ## What a result tells -/
theorem bindE {α β : Type} {o : Option α} {f : α → Option β} {r : β} {P : Prop} (h : o.bind f = some r) (k : ∀ a, o = some a → f a = some r → P) : P := by
  cases o with
  | none => cases h
  | some a => exact k a rfl h
theorem mapE {α β : Type} {o : Option α} {f : α → β} {r : β} {P : Prop} (h : o.map f = some r) (k : ∀ a, o = some a → f a = r → P) : P := by
  cases o with
  | none => cases h
  | some a => exact k a rfl (Option.some.inj h)
theorem thenVE {α : Type} {o : Option (Vl × Sto)} {f : Vl → Sto → Option α} {r : α} {P : Prop} (h : thenV o f = some r) (k : ∀ x σ, o = some (x, σ) → f x σ = some r → P) : P := by
  cases o with
  | none => cases h
  | some a => exact k a.1 a.2 rfl h
theorem thenLE {α : Type} {o : Option (List Vl × Sto)} {f : List Vl → Sto → Option α} {r : α} {P : Prop} (h : thenL o f = some r) (k : ∀ x σ, o = some (x, σ) → f x σ = some r → P) : P := by
  cases o with
  | none => cases h
  | some a => exact k a.1 a.2 rfl h
theorem thenFE {α : Type} {o : Option (Fl × Loc × Sto)} {f : Fl → Loc → Sto → Option α} {r : α} {P : Prop} (h : thenF o f = some r) (k : ∀ x ρ σ, o = some (x, ρ, σ) → f x ρ σ = some r → P) : P := by
  cases o with
  | none => cases h
  | some a => exact k a.1 a.2.1 a.2.2 rfl h
theorem ifE {α : Type} {c : Prop} {i : Decidable c} {X : Option α} {r : α} {P : Prop} (h : (if c then X else none) = some r) (k : c → X = some r → P) : P := by
  by_cases q : c
  · rw [if_pos q] at h; exact k q h
  · rw [if_neg q] at h; cases h
theorem pickE {α : Type} {u : Bool} {X Y : Option α} {r : α} {P : Prop} (h : pick2 u X Y = some r) (k1 : u = true → X = some r → P) (k2 : u = false → Y = some r → P) : P := by
  cases u with
  | true => exact k1 rfl h
  | false => exact k2 rfl h
theorem pick_t {α : Type} {X Y : Option α} : pick2 true X Y = X := rfl
theorem pick_f {α : Type} {X Y : Option α} : pick2 false X Y = Y := rfl
theorem oneC_eq {l : List Nat} {c : Nat} (h : oneC l = some c) : l = [c] := by
  cases l with
  | nil => cases h
  | cons a r => cases r with
    | nil => cases h; rfl
    | cons _ _ => cases h
theorem arg1_eq {l : List Vl} {c : Vl} (h : arg1 l = some c) : l = [c] := by
  cases l with
  | nil => cases h
  | cons a r => cases r with
    | nil => cases h; rfl
    | cons _ _ => cases h
theorem noneOf_eq {l : List Vl} {u : Unit} (h : noneOf l = some u) : l = [.none] := by
  cases l with
  | nil => cases h
  | cons a r => cases r with
    | nil => cases a <;> first | rfl | cases h
    | cons _ _ => cases h
theorem vInt_eq {v : Vl} {a : Int} (h : vInt v = some a) : v = .int a := by cases v <;> cases h; rfl
theorem vStr_eq {v : Vl} {a : List Nat} (h : vStr v = some a) : v = .str a := by cases v <;> cases h; rfl
theorem vRef_eq {v : Vl} {a : Nat} (h : vRef v = some a) : v = .ref a := by cases v <;> cases h; rfl
theorem vTup_eq {v : Vl} {a : List Vl} (h : vTup v = some a) : v = .tup a := by cases v <;> cases h; rfl
theorem vLst_eq {v : Vl} {a : List Vl} (h : vLst v = some a) : v = .lst a := by cases v <;> cases h; rfl
theorem vFn_eq {v : Vl} {a : Fn} (h : vFn v = some a) : v = .fn a := by cases v <;> cases h; rfl
theorem vNone_eq {v : Vl} {a : Unit} (h : vNone v = some a) : v = .none := by cases v <;> cases h; rfl
theorem obL_eq {o : Ob} {l : List Vl} (h : obL o = some l) : o = .list l := by cases o <;> cases h; rfl
theorem obA_eq {o : Ob} {l : List (At × Vl)} (h : obA o = some l) : o = .attrs l := by cases o <;> cases h; rfl
theorem obI_eq {o : Ob} {d : Nat} (h : obI o = some d) : o = .inst d := by cases o <;> cases h; rfl
theorem obD_eq {o : Ob} {l : List (List Nat × Vl)} (h : obD o = some l) : o = .dict l := by cases o <;> cases h; rfl
theorem lstI_eq {σ : Sto} {i : Nat} {l : List Vl} (h : lstI σ i = some l) : σ[i]? = some (.list l) := bindE h fun o h1 h2 => by rw [h1, obL_eq h2]
theorem dctI_eq {σ : Sto} {i : Nat} {l : List (List Nat × Vl)} (h : dctI σ i = some l) : σ[i]? = some (.dict l) := bindE h fun o h1 h2 => by rw [h1, obD_eq h2]
theorem instI_eq {σ : Sto} {i : Nat} {p : Nat × List (At × Vl)} (h : instI σ i = some p) : σ[i]? = some (.inst p.1) ∧ σ[p.1]? = some (.attrs p.2) :=
  bindE h fun o h1 h => bindE h fun d h2 h => bindE h fun a h3 h => mapE h fun l h4 h => by
    subst h; exact ⟨by rw [h1, obI_eq h2], by rw [h3, obA_eq h4]⟩
theorem natI_eq {v : Vl} {n : Nat} (h : natI v = some n) : v = .int (n : Int) :=
  bindE h fun i h1 h => ifE h fun h0 h => by
    cases h
    rw [vInt_eq h1, Int.toNat_of_nonneg h0]
theorem xS_assign {C : CallT} {N : Nat} {ρ : Loc} {σ : Sto} {i : Nat} {u1 : Pos} {e : Ex} {u2 : Pos} : exS C N (.assign i u1 e u2) ρ σ = thenV (evE C e ρ σ) fun v σ => some (.next, locSet ρ i v, σ) := rfl
theorem xS_assignT {C : CallT} {N : Nat} {ρ : Loc} {σ : Sto} {is : List (Nat × Pos)} {u1 : Pos} {e : Ex} {u2 : Pos} : exS C N (.assignT is u1 e u2) ρ σ = thenV (evE C e ρ σ) fun x σ => (vTup x).bind fun vs => if vs.length = is.length then some (.next, locSets is vs ρ, σ) else none := rfl
theorem xS_assignD {C : CallT} {N : Nat} {ρ : Loc} {σ : Sto} {i : Nat} {u1 : Pos} {j : Nat} {u2 : Pos} {u3 : Pos} {a : Ex} {b : Ex} {u4 : Pos} {u5 : Pos} : exS C N (.assignD i u1 j u2 u3 a b u4 u5) ρ σ = thenV (evE C a ρ σ) fun x σ => thenV (evE C b ρ σ) fun y σ => if i ≠ j then some (.next, locSet (locSet ρ i x) j y, σ) else none := rfl
theorem xS_setItem {C : CallT} {N : Nat} {ρ : Loc} {σ : Sto} {o : Ex} {i : Ex} {e : Ex} {u1 : Pos} {u2 : Pos} : exS C N (.setItem o i e u1 u2) ρ σ = thenV (evE C e ρ σ) fun v σ => thenV (evE C o ρ σ) fun x σ => (vRef x).bind fun r => thenV (evE C i ρ σ) fun k σ => (σ[r]?).bind fun o => (setO o k v).map fun o' => (.next, ρ, σ.set r o') := rfl
theorem xS_setAttr {C : CallT} {N : Nat} {ρ : Loc} {σ : Sto} {o : Ex} {a : At} {u1 : Pos} {e : Ex} {u2 : Pos} : exS C N (.setAttr o a u1 e u2) ρ σ = thenV (evE C e ρ σ) fun v σ => thenV (evE C o ρ σ) fun x σ => (vRef x).bind fun r => (instI σ r).bind fun p => putA σ p.1 p.2 a v ρ := rfl
theorem xS_aug {C : CallT} {N : Nat} {ρ : Loc} {σ : Sto} {i : Nat} {u1 : Pos} {op : Bop} {e : Ex} {u2 : Pos} : exS C N (.aug i u1 op e u2) ρ σ = (locGet ρ i).bind fun x => thenV (evE C e ρ σ) fun y σ => (augV op x y).map fun v => (.next, locSet ρ i v, σ) := rfl
theorem xS_augAttr {C : CallT} {N : Nat} {ρ : Loc} {σ : Sto} {i : Nat} {u1 : Pos} {a : At} {u2 : Pos} {op : Bop} {e : Ex} {u3 : Pos} : exS C N (.augAttr i u1 a u2 op e u3) ρ σ = (locGet ρ i).bind fun z => (vRef z).bind fun r => (instI σ r).bind fun p => (attrGet a p.2).bind fun w => (vInt w).bind fun x => thenV (evE C e ρ σ) fun y σ' => (augV op (.int x) y).bind fun v => (instI σ' r).bind fun p' => if p.1 = p'.1 then putA σ' p'.1 p'.2 a v ρ else none := rfl
theorem xS_ite {C : CallT} {N : Nat} {ρ : Loc} {σ : Sto} {t : Ex} {a : Sts} {b : Sts} {u1 : Pos} : exS C N (.ite t a b u1) ρ σ = thenV (evE C t ρ σ) fun x σ => (truthV σ x).bind fun u => pick2 u (exSs C N a ρ σ) (exSs C N b ρ σ) := rfl
theorem xS_for {C : CallT} {N : Nat} {ρ : Loc} {σ : Sto} {i : Nat} {u1 : Pos} {e : Ex} {b : Sts} {u2 : Pos} : exS C N (.for i u1 e b u2) ρ σ = thenV (evE C e ρ σ) fun v σ => (iterOf v).bind fun vs => forL (exSs C N b) i vs ρ σ := rfl
theorem xS_forR {C : CallT} {N : Nat} {ρ : Loc} {σ : Sto} {i : Nat} {u1 : Pos} {u2 : Pos} {e : Ex} {u3 : Pos} {b : Sts} {u4 : Pos} : exS C N (.forR i u1 u2 e u3 b u4) ρ σ = thenV (evE C e ρ σ) fun x σ => (vInt x).bind fun n => if 0 ≤ n ∧ n < big then forL (exSs C N b) i (rangeVs n.toNat) ρ σ else none := rfl
theorem xS_ret {C : CallT} {N : Nat} {ρ : Loc} {σ : Sto} {e : Ex} {u1 : Pos} : exS C N (.ret e u1) ρ σ = thenV (evE C e ρ σ) fun v σ => some (.ret v, ρ, σ) := rfl
theorem xS_expr {C : CallT} {N : Nat} {ρ : Loc} {σ : Sto} {e : Ex} {u1 : Pos} : exS C N (.expr e u1) ρ σ = thenV (evE C e ρ σ) fun v σ => (vNone v).map fun _ => (.next, ρ, σ) := rfl
theorem xSs_cons {C : CallT} {N : Nat} {ρ : Loc} {σ : Sto} {s : St} {ss : Sts} : exSs C N (.cons s ss) ρ σ = thenF (exS C N s ρ σ) fun fl ρ σ => seqF fl (exSs C N ss ρ σ) ρ σ := rfl
theorem tr {α : Type} {a b c : α} (h : a = c) (e : a = b) : b = c := e.symm.trans h
theorem callN_eq {D : Fn → FnD} {N d : Nat} {f : Fn} {vs : List Vl} {σ : Sto} : callN D N (d + 1) f vs σ = (bindA (D f).np (D f).defs vs).bind fun us => thenF (exSs (callN D N d) N (D f).body (us.map some ++ padN ((D f).names.length - (D f).np)) σ) fun fl _ σ' => (outV fl).bind fun v => finish (D f).pur σ v σ' := rfl
end

section
noncomputable def n_is_blank : List Str := [Str.ofString "c"]
noncomputable def b_is_blank : Sts := (.cons (.ret (.cmp .isin (.loc 0 ⟨84,11,84,12⟩) (.tup (.cons (.str " " [32] ⟨84,17,84,20⟩) (.cons (.str "\t" [9] ⟨84,22,84,26⟩) (.cons (.str "\n" [10] ⟨84,28,84,32⟩) (.cons (.str "\x0b" [11] ⟨84,34,84,40⟩) (.cons (.str "\x0c" [12] ⟨84,42,84,48⟩) (.cons (.str "\x0d" [13] ⟨84,50,84,54⟩) .nil)))))) ⟨84,16,84,55⟩) ⟨84,11,84,55⟩) ⟨84,4,84,55⟩)
  .nil)
noncomputable def n_digit : List Str := [Str.ofString "c", Str.ofString "n"]
noncomputable def b_digit : Sts := (.cons (.ite (.cmp .ne (.bi .len ⟨86,7,86,10⟩ (.cons (.loc 0 ⟨86,11,86,12⟩) .nil) ⟨86,7,86,13⟩) (.int 1 ⟨86,17,86,18⟩) ⟨86,7,86,18⟩) (.cons (.ret (.neg (.int 1 ⟨87,16,87,17⟩) ⟨87,15,87,17⟩) ⟨87,8,87,17⟩)
  .nil) .nil ⟨86,4,87,17⟩)
  (.cons (.assign 1 ⟨88,4,88,5⟩ (.bi .ord ⟨88,8,88,11⟩ (.cons (.loc 0 ⟨88,12,88,13⟩) .nil) ⟨88,8,88,14⟩) ⟨88,4,88,14⟩)
  (.cons (.ite (.cmp2 .le .le (.int 48 ⟨89,7,89,9⟩) (.loc 1 ⟨89,13,89,14⟩) (.int 57 ⟨89,18,89,20⟩) ⟨89,7,89,20⟩) (.cons (.ret (.bin .sub (.loc 1 ⟨90,15,90,16⟩) (.int 48 ⟨90,19,90,21⟩) ⟨90,15,90,21⟩) ⟨90,8,90,21⟩)
  .nil) .nil ⟨89,4,90,21⟩)
  (.cons (.ite (.cmp2 .le .le (.int 97 ⟨91,7,91,9⟩) (.loc 1 ⟨91,13,91,14⟩) (.int 122 ⟨91,18,91,21⟩) ⟨91,7,91,21⟩) (.cons (.ret (.bin .sub (.loc 1 ⟨92,15,92,16⟩) (.int 87 ⟨92,19,92,21⟩) ⟨92,15,92,21⟩) ⟨92,8,92,21⟩)
  .nil) .nil ⟨91,4,92,21⟩)
  (.cons (.ite (.cmp2 .le .le (.int 65 ⟨93,7,93,9⟩) (.loc 1 ⟨93,13,93,14⟩) (.int 90 ⟨93,18,93,20⟩) ⟨93,7,93,20⟩) (.cons (.ret (.bin .sub (.loc 1 ⟨94,15,94,16⟩) (.int 55 ⟨94,19,94,21⟩) ⟨94,15,94,21⟩) ⟨94,8,94,21⟩)
  .nil) .nil ⟨93,4,94,21⟩)
  (.cons (.ret (.neg (.int 1 ⟨95,12,95,13⟩) ⟨95,11,95,13⟩) ⟨95,4,95,13⟩)
  .nil))))))
noncomputable def n_hex_sign : List Str := [Str.ofString "text", Str.ofString "at", Str.ofString "most", Str.ofString "place", Str.ofString "value", Str.ofString "step"]
noncomputable def t_hex_sign_0 : Ex := (.bop true (.cons (.cmp .lt (.loc 3 ⟨105,10,105,15⟩) (.loc 2 ⟨105,18,105,22⟩) ⟨105,10,105,22⟩) (.cons (.cmp .lt (.loc 3 ⟨105,27,105,32⟩) (.bi .len ⟨105,35,105,38⟩ (.cons (.loc 0 ⟨105,39,105,43⟩) .nil) ⟨105,35,105,44⟩) ⟨105,27,105,44⟩) (.cons (.cmp .le (.loc 4 ⟨105,50,105,55⟩) (.int 69631 ⟨105,59,105,64⟩) ⟨105,50,105,64⟩) .nil))) ⟨105,10,105,65⟩)
noncomputable def w_hex_sign_0 : Sts := (.cons (.assign 5 ⟨106,8,106,12⟩ (.call .digit ⟨106,15,106,20⟩ (.cons (.idx (.loc 0 ⟨106,21,106,25⟩) (.loc 3 ⟨106,26,106,31⟩) ⟨106,21,106,32⟩) .nil) ⟨106,15,106,33⟩) ⟨106,8,106,33⟩)
  (.cons (.ite (.bop false (.cons (.cmp .lt (.loc 5 ⟨107,11,107,15⟩) (.int 0 ⟨107,18,107,19⟩) ⟨107,11,107,19⟩) (.cons (.cmp .gt (.loc 5 ⟨107,23,107,27⟩) (.int 15 ⟨107,30,107,32⟩) ⟨107,23,107,32⟩) .nil)) ⟨107,11,107,32⟩) (.cons (.brk ⟨108,12,108,17⟩)
  .nil) .nil ⟨107,8,108,17⟩)
  (.cons (.assign 4 ⟨109,8,109,13⟩ (.bin .add (.bin .mul (.loc 4 ⟨109,16,109,21⟩) (.int 16 ⟨109,24,109,26⟩) ⟨109,16,109,26⟩) (.loc 5 ⟨109,29,109,33⟩) ⟨109,16,109,33⟩) ⟨109,8,109,33⟩)
  (.cons (.aug 3 ⟨110,8,110,13⟩ .add (.int 1 ⟨110,17,110,18⟩) ⟨110,8,110,18⟩)
  .nil))))
noncomputable def b_hex_sign : Sts := (.cons (.assign 2 ⟨98,4,98,8⟩ (.bin .add (.loc 1 ⟨98,11,98,13⟩) (.int 3 ⟨98,16,98,17⟩) ⟨98,11,98,17⟩) ⟨98,4,98,17⟩)
  (.cons (.ite (.cmp .eq (.idx (.loc 0 ⟨99,7,99,11⟩) (.loc 1 ⟨99,12,99,14⟩) ⟨99,7,99,15⟩) (.str "u" [117] ⟨99,19,99,22⟩) ⟨99,7,99,22⟩) (.cons (.assign 2 ⟨100,8,100,12⟩ (.bin .add (.loc 1 ⟨100,15,100,17⟩) (.int 5 ⟨100,20,100,21⟩) ⟨100,15,100,21⟩) ⟨100,8,100,21⟩)
  .nil) (.cons (.ite (.cmp .eq (.idx (.loc 0 ⟨101,9,101,13⟩) (.loc 1 ⟨101,14,101,16⟩) ⟨101,9,101,17⟩) (.str "U" [85] ⟨101,21,101,24⟩) ⟨101,9,101,24⟩) (.cons (.assign 2 ⟨102,8,102,12⟩ (.bin .add (.loc 1 ⟨102,15,102,17⟩) (.int 9 ⟨102,20,102,21⟩) ⟨102,15,102,21⟩) ⟨102,8,102,21⟩)
  .nil) .nil ⟨101,4,102,21⟩)
  .nil) ⟨99,4,102,21⟩)
  (.cons (.assign 3 ⟨103,4,103,9⟩ (.bin .add (.loc 1 ⟨103,12,103,14⟩) (.int 1 ⟨103,17,103,18⟩) ⟨103,12,103,18⟩) ⟨103,4,103,18⟩)
  (.cons (.assign 4 ⟨104,4,104,9⟩ (.int 0 ⟨104,12,104,13⟩) ⟨104,4,104,13⟩)
  (.cons (.while t_hex_sign_0 w_hex_sign_0 ⟨105,4,110,18⟩)
  (.cons (.ite (.cmp .eq (.loc 3 ⟨111,7,111,12⟩) (.bin .add (.loc 1 ⟨111,16,111,18⟩) (.int 1 ⟨111,21,111,22⟩) ⟨111,16,111,22⟩) ⟨111,7,111,22⟩) (.cons (.ret (.tup (.cons (.idx (.loc 0 ⟨112,16,112,20⟩) (.loc 1 ⟨112,21,112,23⟩) ⟨112,16,112,24⟩) (.cons (.loc 3 ⟨112,26,112,31⟩) .nil)) ⟨112,15,112,32⟩) ⟨112,8,112,32⟩)
  .nil) .nil ⟨111,4,112,32⟩)
  (.cons (.ret (.tup (.cons (.bi .chr ⟨113,12,113,15⟩ (.cons (.loc 4 ⟨113,16,113,21⟩) .nil) ⟨113,12,113,22⟩) (.cons (.loc 3 ⟨113,24,113,29⟩) .nil)) ⟨113,11,113,30⟩) ⟨113,4,113,30⟩)
  .nil)))))))
noncomputable def n_octal_sign : List Str := [Str.ofString "text", Str.ofString "at", Str.ofString "place", Str.ofString "value", Str.ofString "step"]
noncomputable def t_octal_sign_0 : Ex := (.bop true (.cons (.cmp .lt (.loc 2 ⟨117,10,117,15⟩) (.bin .add (.loc 1 ⟨117,18,117,20⟩) (.int 3 ⟨117,23,117,24⟩) ⟨117,18,117,24⟩) ⟨117,10,117,24⟩) (.cons (.cmp .lt (.loc 2 ⟨117,29,117,34⟩) (.bi .len ⟨117,37,117,40⟩ (.cons (.loc 0 ⟨117,41,117,45⟩) .nil) ⟨117,37,117,46⟩) ⟨117,29,117,46⟩) (.cons (.cmp .lt (.loc 3 ⟨117,52,117,57⟩) (.int 32 ⟨117,60,117,62⟩) ⟨117,52,117,62⟩) .nil))) ⟨117,10,117,63⟩)
noncomputable def w_octal_sign_0 : Sts := (.cons (.assign 4 ⟨118,8,118,12⟩ (.call .digit ⟨118,15,118,20⟩ (.cons (.idx (.loc 0 ⟨118,21,118,25⟩) (.loc 2 ⟨118,26,118,31⟩) ⟨118,21,118,32⟩) .nil) ⟨118,15,118,33⟩) ⟨118,8,118,33⟩)
  (.cons (.ite (.bop false (.cons (.cmp .lt (.loc 4 ⟨119,11,119,15⟩) (.int 0 ⟨119,18,119,19⟩) ⟨119,11,119,19⟩) (.cons (.cmp .gt (.loc 4 ⟨119,23,119,27⟩) (.int 7 ⟨119,30,119,31⟩) ⟨119,23,119,31⟩) .nil)) ⟨119,11,119,31⟩) (.cons (.brk ⟨120,12,120,17⟩)
  .nil) .nil ⟨119,8,120,17⟩)
  (.cons (.assign 3 ⟨121,8,121,13⟩ (.bin .add (.bin .mul (.loc 3 ⟨121,16,121,21⟩) (.int 8 ⟨121,24,121,25⟩) ⟨121,16,121,25⟩) (.loc 4 ⟨121,28,121,32⟩) ⟨121,16,121,32⟩) ⟨121,8,121,32⟩)
  (.cons (.aug 2 ⟨122,8,122,13⟩ .add (.int 1 ⟨122,17,122,18⟩) ⟨122,8,122,18⟩)
  .nil))))
noncomputable def b_octal_sign : Sts := (.cons (.assign 2 ⟨115,4,115,9⟩ (.loc 1 ⟨115,12,115,14⟩) ⟨115,4,115,14⟩)
  (.cons (.assign 3 ⟨116,4,116,9⟩ (.int 0 ⟨116,12,116,13⟩) ⟨116,4,116,13⟩)
  (.cons (.while t_octal_sign_0 w_octal_sign_0 ⟨117,4,122,18⟩)
  (.cons (.ret (.tup (.cons (.bi .chr ⟨123,12,123,15⟩ (.cons (.loc 3 ⟨123,16,123,21⟩) .nil) ⟨123,12,123,22⟩) (.cons (.loc 2 ⟨123,24,123,29⟩) .nil)) ⟨123,11,123,30⟩) ⟨123,4,123,30⟩)
  .nil))))
noncomputable def n_backslash : List Str := [Str.ofString "text", Str.ofString "at", Str.ofString "sign", Str.ofString "known", Str.ofString "behind"]
noncomputable def t_backslash_0 : Ex := (.cmp .isin (.slc (.loc 0 ⟨133,14,133,18⟩) (.loc 4 ⟨133,19,133,25⟩) (.bin .add (.loc 4 ⟨133,26,133,32⟩) (.int 1 ⟨133,35,133,36⟩) ⟨133,26,133,36⟩) ⟨133,19,133,36⟩ ⟨133,14,133,37⟩) (.tup (.cons (.str " " [32] ⟨133,42,133,45⟩) (.cons (.str "\t" [9] ⟨133,47,133,51⟩) .nil)) ⟨133,41,133,52⟩) ⟨133,14,133,52⟩)
noncomputable def w_backslash_0 : Sts := (.cons (.aug 4 ⟨134,12,134,18⟩ .add (.int 1 ⟨134,22,134,23⟩) ⟨134,12,134,23⟩)
  .nil)
noncomputable def b_backslash : Sts := (.cons (.assign 2 ⟨125,4,125,8⟩ (.slc (.loc 0 ⟨125,11,125,15⟩) (.bin .add (.loc 1 ⟨125,16,125,18⟩) (.int 1 ⟨125,21,125,22⟩) ⟨125,16,125,22⟩) (.bin .add (.loc 1 ⟨125,23,125,25⟩) (.int 2 ⟨125,28,125,29⟩) ⟨125,23,125,29⟩) ⟨125,16,125,29⟩ ⟨125,11,125,30⟩) ⟨125,4,125,30⟩)
  (.cons (.ite (.cmp .eq (.loc 2 ⟨126,7,126,11⟩) (.str "" [] ⟨126,15,126,17⟩) ⟨126,7,126,17⟩) (.cons (.ret (.tup (.cons (.str "\\" [92] ⟨127,16,127,20⟩) (.cons (.bin .add (.loc 1 ⟨127,22,127,24⟩) (.int 1 ⟨127,27,127,28⟩) ⟨127,22,127,28⟩) .nil)) ⟨127,15,127,29⟩) ⟨127,8,127,29⟩)
  .nil) .nil ⟨126,4,127,29⟩)
  (.cons (.assign 3 ⟨128,4,128,9⟩ (.meth (.str "abfnrtv" [97, 98, 102, 110, 114, 116, 118] ⟨128,12,128,21⟩) .find ⟨128,12,128,26⟩ (.cons (.loc 2 ⟨128,27,128,31⟩) .nil) ⟨128,12,128,32⟩) ⟨128,4,128,32⟩)
  (.cons (.ite (.cmp .ge (.loc 3 ⟨129,7,129,12⟩) (.int 0 ⟨129,16,129,17⟩) ⟨129,7,129,17⟩) (.cons (.ret (.tup (.cons (.idx (.str "\x07\x08\x0c\n\x0d\t\x0b" [7, 8, 12, 10, 13, 9, 11] ⟨130,16,130,40⟩) (.loc 3 ⟨130,41,130,46⟩) ⟨130,16,130,47⟩) (.cons (.bin .add (.loc 1 ⟨130,49,130,51⟩) (.int 2 ⟨130,54,130,55⟩) ⟨130,49,130,55⟩) .nil)) ⟨130,15,130,56⟩) ⟨130,8,130,56⟩)
  .nil) .nil ⟨129,4,130,56⟩)
  (.cons (.ite (.cmp .eq (.loc 2 ⟨131,7,131,11⟩) (.str "\n" [10] ⟨131,15,131,19⟩) ⟨131,7,131,19⟩) (.cons (.assign 4 ⟨132,8,132,14⟩ (.bin .add (.loc 1 ⟨132,17,132,19⟩) (.int 2 ⟨132,22,132,23⟩) ⟨132,17,132,23⟩) ⟨132,8,132,23⟩)
  (.cons (.while t_backslash_0 w_backslash_0 ⟨133,8,134,23⟩)
  (.cons (.ret (.tup (.cons (.str " " [32] ⟨135,16,135,19⟩) (.cons (.loc 4 ⟨135,21,135,27⟩) .nil)) ⟨135,15,135,28⟩) ⟨135,8,135,28⟩)
  .nil))) .nil ⟨131,4,135,28⟩)
  (.cons (.ite (.cmp .isin (.loc 2 ⟨136,7,136,11⟩) (.tup (.cons (.str "x" [120] ⟨136,16,136,19⟩) (.cons (.str "u" [117] ⟨136,21,136,24⟩) (.cons (.str "U" [85] ⟨136,26,136,29⟩) .nil))) ⟨136,15,136,30⟩) ⟨136,7,136,30⟩) (.cons (.ret (.call .hex_sign ⟨137,15,137,23⟩ (.cons (.loc 0 ⟨137,24,137,28⟩) (.cons (.bin .add (.loc 1 ⟨137,30,137,32⟩) (.int 1 ⟨137,35,137,36⟩) ⟨137,30,137,36⟩) .nil)) ⟨137,15,137,37⟩) ⟨137,8,137,37⟩)
  .nil) .nil ⟨136,4,137,37⟩)
  (.cons (.ite (.cmp .isin (.loc 2 ⟨138,7,138,11⟩) (.tup (.cons (.str "0" [48] ⟨138,16,138,19⟩) (.cons (.str "1" [49] ⟨138,21,138,24⟩) (.cons (.str "2" [50] ⟨138,26,138,29⟩) (.cons (.str "3" [51] ⟨138,31,138,34⟩) (.cons (.str "4" [52] ⟨138,36,138,39⟩) (.cons (.str "5" [53] ⟨138,41,138,44⟩) (.cons (.str "6" [54] ⟨138,46,138,49⟩) (.cons (.str "7" [55] ⟨138,51,138,54⟩) .nil)))))))) ⟨138,15,138,55⟩) ⟨138,7,138,55⟩) (.cons (.ret (.call .octal_sign ⟨139,15,139,25⟩ (.cons (.loc 0 ⟨139,26,139,30⟩) (.cons (.bin .add (.loc 1 ⟨139,32,139,34⟩) (.int 1 ⟨139,37,139,38⟩) ⟨139,32,139,38⟩) .nil)) ⟨139,15,139,39⟩) ⟨139,8,139,39⟩)
  .nil) .nil ⟨138,4,139,39⟩)
  (.cons (.ret (.tup (.cons (.loc 2 ⟨140,12,140,16⟩) (.cons (.bin .add (.loc 1 ⟨140,18,140,20⟩) (.int 2 ⟨140,23,140,24⟩) ⟨140,18,140,24⟩) .nil)) ⟨140,11,140,25⟩) ⟨140,4,140,25⟩)
  .nil))))))))
noncomputable def n_is_gap : List Str := [Str.ofString "c"]
noncomputable def b_is_gap : Sts := (.cons (.ret (.cmp .isin (.loc 0 ⟨142,11,142,12⟩) (.tup (.cons (.str " " [32] ⟨142,17,142,20⟩) (.cons (.str "\t" [9] ⟨142,22,142,26⟩) (.cons (.str "\x0b" [11] ⟨142,28,142,34⟩) (.cons (.str "\x0c" [12] ⟨142,36,142,42⟩) (.cons (.str "\x0d" [13] ⟨142,44,142,48⟩) .nil))))) ⟨142,16,142,49⟩) ⟨142,11,142,49⟩) ⟨142,4,142,49⟩)
  .nil)
noncomputable def n_skip_gaps : List Str := [Str.ofString "text", Str.ofString "at"]
noncomputable def t_skip_gaps_0 : Ex := (.cmp .lt (.loc 1 ⟨144,10,144,12⟩) (.bi .len ⟨144,15,144,18⟩ (.cons (.loc 0 ⟨144,19,144,23⟩) .nil) ⟨144,15,144,24⟩) ⟨144,10,144,24⟩)
noncomputable def w_skip_gaps_0 : Sts := (.cons (.ite (.call .is_gap ⟨145,11,145,17⟩ (.cons (.idx (.loc 0 ⟨145,18,145,22⟩) (.loc 1 ⟨145,23,145,25⟩) ⟨145,18,145,26⟩) .nil) ⟨145,11,145,27⟩) (.cons (.aug 1 ⟨146,12,146,14⟩ .add (.int 1 ⟨146,18,146,19⟩) ⟨146,12,146,19⟩)
  .nil) (.cons (.ite (.cmp .eq (.slc (.loc 0 ⟨147,13,147,17⟩) (.loc 1 ⟨147,18,147,20⟩) (.bin .add (.loc 1 ⟨147,21,147,23⟩) (.int 2 ⟨147,26,147,27⟩) ⟨147,21,147,27⟩) ⟨147,18,147,27⟩ ⟨147,13,147,28⟩) (.str "\\\n" [92, 10] ⟨147,32,147,38⟩) ⟨147,13,147,38⟩) (.cons (.aug 1 ⟨148,12,148,14⟩ .add (.int 2 ⟨148,18,148,19⟩) ⟨148,12,148,19⟩)
  .nil) (.cons (.ret (.loc 1 ⟨150,19,150,21⟩) ⟨150,12,150,21⟩)
  .nil) ⟨147,8,150,21⟩)
  .nil) ⟨145,8,150,21⟩)
  .nil)
noncomputable def b_skip_gaps : Sts := (.cons (.while t_skip_gaps_0 w_skip_gaps_0 ⟨144,4,150,21⟩)
  (.cons (.ret (.loc 1 ⟨151,11,151,13⟩) ⟨151,4,151,13⟩)
  .nil))
noncomputable def n_comment_behind : List Str := [Str.ofString "text", Str.ofString "at", Str.ofString "size"]
noncomputable def t_comment_behind_0 : Ex := (.cmp .lt (.loc 1 ⟨154,10,154,12⟩) (.loc 2 ⟨154,15,154,19⟩) ⟨154,10,154,19⟩)
noncomputable def w_comment_behind_0 : Sts := (.cons (.ite (.cmp .eq (.idx (.loc 0 ⟨155,11,155,15⟩) (.loc 1 ⟨155,16,155,18⟩) ⟨155,11,155,19⟩) (.str "\\" [92] ⟨155,23,155,27⟩) ⟨155,11,155,27⟩) (.cons (.aug 1 ⟨156,12,156,14⟩ .add (.int 2 ⟨156,18,156,19⟩) ⟨156,12,156,19⟩)
  .nil) (.cons (.ite (.cmp .eq (.idx (.loc 0 ⟨157,13,157,17⟩) (.loc 1 ⟨157,18,157,20⟩) ⟨157,13,157,21⟩) (.str "\n" [10] ⟨157,25,157,29⟩) ⟨157,13,157,29⟩) (.cons (.ret (.bin .add (.loc 1 ⟨158,19,158,21⟩) (.int 1 ⟨158,24,158,25⟩) ⟨158,19,158,25⟩) ⟨158,12,158,25⟩)
  .nil) (.cons (.aug 1 ⟨160,12,160,14⟩ .add (.int 1 ⟨160,18,160,19⟩) ⟨160,12,160,19⟩)
  .nil) ⟨157,8,160,19⟩)
  .nil) ⟨155,8,160,19⟩)
  .nil)
noncomputable def b_comment_behind : Sts := (.cons (.assign 2 ⟨153,4,153,8⟩ (.bi .len ⟨153,11,153,14⟩ (.cons (.loc 0 ⟨153,15,153,19⟩) .nil) ⟨153,11,153,20⟩) ⟨153,4,153,20⟩)
  (.cons (.while t_comment_behind_0 w_comment_behind_0 ⟨154,4,160,19⟩)
  (.cons (.ret (.loc 2 ⟨161,11,161,15⟩) ⟨161,4,161,15⟩)
  .nil)))
noncomputable def n_skip_to_command : List Str := [Str.ofString "text", Str.ofString "at"]
noncomputable def t_skip_to_command_0 : Ex := (.cmp .isin (.slc (.loc 0 ⟨164,10,164,14⟩) (.loc 1 ⟨164,15,164,17⟩) (.bin .add (.loc 1 ⟨164,18,164,20⟩) (.int 1 ⟨164,23,164,24⟩) ⟨164,18,164,24⟩) ⟨164,15,164,24⟩ ⟨164,10,164,25⟩) (.tup (.cons (.str "\n" [10] ⟨164,30,164,34⟩) (.cons (.str ";" [59] ⟨164,36,164,39⟩) (.cons (.str "#" [35] ⟨164,41,164,44⟩) .nil))) ⟨164,29,164,45⟩) ⟨164,10,164,45⟩)
noncomputable def w_skip_to_command_0 : Sts := (.cons (.ite (.cmp .eq (.idx (.loc 0 ⟨165,11,165,15⟩) (.loc 1 ⟨165,16,165,18⟩) ⟨165,11,165,19⟩) (.str "#" [35] ⟨165,23,165,26⟩) ⟨165,11,165,26⟩) (.cons (.assign 1 ⟨166,12,166,14⟩ (.call .comment_behind ⟨166,17,166,31⟩ (.cons (.loc 0 ⟨166,32,166,36⟩) (.cons (.loc 1 ⟨166,38,166,40⟩) .nil)) ⟨166,17,166,41⟩) ⟨166,12,166,41⟩)
  .nil) (.cons (.aug 1 ⟨168,12,168,14⟩ .add (.int 1 ⟨168,18,168,19⟩) ⟨168,12,168,19⟩)
  .nil) ⟨165,8,168,19⟩)
  (.cons (.assign 1 ⟨169,8,169,10⟩ (.call .skip_gaps ⟨169,13,169,22⟩ (.cons (.loc 0 ⟨169,23,169,27⟩) (.cons (.loc 1 ⟨169,29,169,31⟩) .nil)) ⟨169,13,169,32⟩) ⟨169,8,169,32⟩)
  .nil))
noncomputable def b_skip_to_command : Sts := (.cons (.assign 1 ⟨163,4,163,6⟩ (.call .skip_gaps ⟨163,9,163,18⟩ (.cons (.loc 0 ⟨163,19,163,23⟩) (.cons (.loc 1 ⟨163,25,163,27⟩) .nil)) ⟨163,9,163,28⟩) ⟨163,4,163,28⟩)
  (.cons (.while t_skip_to_command_0 w_skip_to_command_0 ⟨164,4,169,32⟩)
  (.cons (.ret (.loc 1 ⟨170,11,170,13⟩) ⟨170,4,170,13⟩)
  .nil)))
noncomputable def n_braces : List Str := [Str.ofString "text", Str.ofString "at", Str.ofString "size", Str.ofString "begin", Str.ofString "place", Str.ofString "made", Str.ofString "depth", Str.ofString "blank", Str.ofString "behind"]
noncomputable def t_braces_0 : Ex := (.cmp .lt (.loc 4 ⟨213,10,213,15⟩) (.loc 2 ⟨213,18,213,22⟩) ⟨213,10,213,22⟩)
noncomputable def t_braces_1 : Ex := (.bop true (.cons (.cmp .lt (.loc 4 ⟨230,18,230,23⟩) (.loc 2 ⟨230,26,230,30⟩) ⟨230,18,230,30⟩) (.cons (.cmp .notin (.idx (.loc 0 ⟨230,35,230,39⟩) (.loc 4 ⟨230,40,230,45⟩) ⟨230,35,230,46⟩) (.str "{}\\" [123, 125, 92] ⟨230,54,230,60⟩) ⟨230,35,230,60⟩) .nil)) ⟨230,18,230,60⟩)
noncomputable def w_braces_1 : Sts := (.cons (.aug 4 ⟨231,16,231,21⟩ .add (.int 1 ⟨231,25,231,26⟩) ⟨231,16,231,26⟩)
  .nil)
noncomputable def w_braces_0 : Sts := (.cons (.ite (.cmp .eq (.idx (.loc 0 ⟨214,11,214,15⟩) (.loc 4 ⟨214,16,214,21⟩) ⟨214,11,214,22⟩) (.str "{" [123] ⟨214,26,214,29⟩) ⟨214,11,214,29⟩) (.cons (.aug 6 ⟨215,12,215,17⟩ .add (.int 1 ⟨215,21,215,22⟩) ⟨215,12,215,22⟩)
  (.cons (.aug 4 ⟨216,12,216,17⟩ .add (.int 1 ⟨216,21,216,22⟩) ⟨216,12,216,22⟩)
  .nil)) (.cons (.ite (.cmp .eq (.idx (.loc 0 ⟨217,13,217,17⟩) (.loc 4 ⟨217,18,217,23⟩) ⟨217,13,217,24⟩) (.str "}" [125] ⟨217,28,217,31⟩) ⟨217,13,217,31⟩) (.cons (.aug 6 ⟨218,12,218,17⟩ .sub (.int 1 ⟨218,21,218,22⟩) ⟨218,12,218,22⟩)
  (.cons (.aug 4 ⟨219,12,219,17⟩ .add (.int 1 ⟨219,21,219,22⟩) ⟨219,12,219,22⟩)
  (.cons (.ite (.cmp .eq (.loc 6 ⟨220,15,220,20⟩) (.int 0 ⟨220,24,220,25⟩) ⟨220,15,220,25⟩) (.cons (.ret (.tup (.cons (.bin .add (.loc 5 ⟨221,24,221,28⟩) (.slc (.loc 0 ⟨221,31,221,35⟩) (.loc 3 ⟨221,36,221,41⟩) (.bin .sub (.loc 4 ⟨221,42,221,47⟩) (.int 1 ⟨221,50,221,51⟩) ⟨221,42,221,51⟩) ⟨221,36,221,51⟩ ⟨221,31,221,52⟩) ⟨221,24,221,52⟩) (.cons (.loc 4 ⟨221,54,221,59⟩) .nil)) ⟨221,23,221,60⟩) ⟨221,16,221,60⟩)
  .nil) .nil ⟨220,12,221,60⟩)
  .nil))) (.cons (.ite (.cmp .eq (.slc (.loc 0 ⟨222,13,222,17⟩) (.loc 4 ⟨222,18,222,23⟩) (.bin .add (.loc 4 ⟨222,24,222,29⟩) (.int 2 ⟨222,32,222,33⟩) ⟨222,24,222,33⟩) ⟨222,18,222,33⟩ ⟨222,13,222,34⟩) (.str "\\\n" [92, 10] ⟨222,38,222,44⟩) ⟨222,13,222,44⟩) (.cons (.assignT [(7, ⟨223,12,223,17⟩), (8, ⟨223,19,223,25⟩)] ⟨223,12,223,25⟩ (.call .backslash ⟨223,28,223,37⟩ (.cons (.loc 0 ⟨223,38,223,42⟩) (.cons (.loc 4 ⟨223,44,223,49⟩) .nil)) ⟨223,28,223,50⟩) ⟨223,12,223,50⟩)
  (.cons (.aug 5 ⟨224,12,224,16⟩ .add (.bin .add (.slc (.loc 0 ⟨224,20,224,24⟩) (.loc 3 ⟨224,25,224,30⟩) (.loc 4 ⟨224,31,224,36⟩) ⟨224,25,224,36⟩ ⟨224,20,224,37⟩) (.loc 7 ⟨224,40,224,45⟩) ⟨224,20,224,45⟩) ⟨224,12,224,45⟩)
  (.cons (.assign 4 ⟨225,12,225,17⟩ (.loc 8 ⟨225,20,225,26⟩) ⟨225,12,225,26⟩)
  (.cons (.assign 3 ⟨226,12,226,17⟩ (.loc 8 ⟨226,20,226,26⟩) ⟨226,12,226,26⟩)
  .nil)))) (.cons (.ite (.cmp .eq (.idx (.loc 0 ⟨227,13,227,17⟩) (.loc 4 ⟨227,18,227,23⟩) ⟨227,13,227,24⟩) (.str "\\" [92] ⟨227,28,227,32⟩) ⟨227,13,227,32⟩) (.cons (.aug 4 ⟨228,12,228,17⟩ .add (.int 2 ⟨228,21,228,22⟩) ⟨228,12,228,22⟩)
  .nil) (.cons (.while t_braces_1 w_braces_1 ⟨230,12,231,26⟩)
  .nil) ⟨227,8,231,26⟩)
  .nil) ⟨222,8,231,26⟩)
  .nil) ⟨217,8,231,26⟩)
  .nil) ⟨214,8,231,26⟩)
  .nil)
noncomputable def b_braces : Sts := (.cons (.assign 2 ⟨208,4,208,8⟩ (.bi .len ⟨208,11,208,14⟩ (.cons (.loc 0 ⟨208,15,208,19⟩) .nil) ⟨208,11,208,20⟩) ⟨208,4,208,20⟩)
  (.cons (.assign 3 ⟨209,4,209,9⟩ (.bin .add (.loc 1 ⟨209,12,209,14⟩) (.int 1 ⟨209,17,209,18⟩) ⟨209,12,209,18⟩) ⟨209,4,209,18⟩)
  (.cons (.assign 4 ⟨210,4,210,9⟩ (.loc 3 ⟨210,12,210,17⟩) ⟨210,4,210,17⟩)
  (.cons (.assign 5 ⟨211,4,211,8⟩ (.str "" [] ⟨211,11,211,13⟩) ⟨211,4,211,13⟩)
  (.cons (.assign 6 ⟨212,4,212,9⟩ (.int 1 ⟨212,12,212,13⟩) ⟨212,4,212,13⟩)
  (.cons (.while t_braces_0 w_braces_0 ⟨213,4,231,26⟩)
  (.cons (.raw (Stmt.Raise (some (Expr.Call (Expr.Name "error" ⟨232,10,232,15⟩) [(Expr.Constant (.str "missing close-brace") 0 ⟨232,16,232,37⟩)] [] ⟨232,10,232,38⟩)) none ⟨232,4,232,38⟩))
  .nil)))))))
noncomputable def n_parts_until : List Str := [Str.ofString "text", Str.ofString "at", Str.ofString "stops", Str.ofString "parts", Str.ofString "run", Str.ofString "size", Str.ofString "part", Str.ofString "script", Str.ofString "begin", Str.ofString "piece"]
noncomputable def t_parts_until_0 : Ex := (.bop true (.cons (.cmp .lt (.loc 1 ⟨237,10,237,12⟩) (.loc 5 ⟨237,15,237,19⟩) ⟨237,10,237,19⟩) (.cons (.cmp .notin (.idx (.loc 0 ⟨237,24,237,28⟩) (.loc 1 ⟨237,29,237,31⟩) ⟨237,24,237,32⟩) (.loc 2 ⟨237,40,237,45⟩) ⟨237,24,237,45⟩) .nil)) ⟨237,10,237,45⟩)
noncomputable def t_parts_until_1 : Ex := (.bop true (.cons (.cmp .lt (.loc 1 ⟨250,18,250,20⟩) (.loc 5 ⟨250,23,250,27⟩) ⟨250,18,250,27⟩) (.cons (.cmp .notin (.idx (.loc 0 ⟨250,32,250,36⟩) (.loc 1 ⟨250,37,250,39⟩) ⟨250,32,250,40⟩) (.str "$[\\" [36, 91, 92] ⟨250,48,250,54⟩) ⟨250,32,250,54⟩) (.cons (.cmp .notin (.idx (.loc 0 ⟨250,60,250,64⟩) (.loc 1 ⟨250,65,250,67⟩) ⟨250,60,250,68⟩) (.loc 2 ⟨250,76,250,81⟩) ⟨250,60,250,81⟩) .nil))) ⟨250,18,250,82⟩)
noncomputable def w_parts_until_1 : Sts := (.cons (.aug 1 ⟨251,16,251,18⟩ .add (.int 1 ⟨251,22,251,23⟩) ⟨251,16,251,23⟩)
  .nil)
noncomputable def w_parts_until_0 : Sts := (.cons (.ite (.cmp .eq (.idx (.loc 0 ⟨238,11,238,15⟩) (.loc 1 ⟨238,16,238,18⟩) ⟨238,11,238,19⟩) (.str "$" [36] ⟨238,23,238,26⟩) ⟨238,11,238,26⟩) (.cons (.raw (Stmt.Assign [(Expr.Tuple [(Expr.Name "part" ⟨239,12,239,16⟩), (Expr.Name "at" ⟨239,18,239,20⟩)] 0 ⟨239,12,239,20⟩)] (Expr.Call (Expr.Name "variable" ⟨239,23,239,31⟩) [(Expr.Name "text" ⟨239,32,239,36⟩), (Expr.Name "at" ⟨239,38,239,40⟩)] [] ⟨239,23,239,41⟩) ⟨239,12,239,41⟩))
  .nil) (.cons (.ite (.cmp .eq (.idx (.loc 0 ⟨240,13,240,17⟩) (.loc 1 ⟨240,18,240,20⟩) ⟨240,13,240,21⟩) (.str "[" [91] ⟨240,25,240,28⟩) ⟨240,13,240,28⟩) (.cons (.raw (Stmt.Assign [(Expr.Tuple [(Expr.Name "script" ⟨241,12,241,18⟩), (Expr.Name "at" ⟨241,20,241,22⟩)] 0 ⟨241,12,241,22⟩)] (Expr.Call (Expr.Name "brackets" ⟨241,25,241,33⟩) [(Expr.Name "text" ⟨241,34,241,38⟩), (Expr.Name "at" ⟨241,40,241,42⟩)] [] ⟨241,25,241,43⟩) ⟨241,12,241,43⟩))
  (.cons (.assign 6 ⟨242,12,242,16⟩ (.tup (.cons (.str "cmd" [99, 109, 100] ⟨242,20,242,25⟩) (.cons (.loc 7 ⟨242,27,242,33⟩) .nil)) ⟨242,19,242,34⟩) ⟨242,12,242,34⟩)
  .nil)) (.cons (.ite (.cmp .eq (.idx (.loc 0 ⟨243,13,243,17⟩) (.loc 1 ⟨243,18,243,20⟩) ⟨243,13,243,21⟩) (.str "\\" [92] ⟨243,25,243,29⟩) ⟨243,13,243,29⟩) (.cons (.ite (.bop true (.cons (.cmp .isin (.str " " [32] ⟨244,15,244,18⟩) (.loc 2 ⟨244,22,244,27⟩) ⟨244,15,244,27⟩) (.cons (.cmp .eq (.slc (.loc 0 ⟨244,32,244,36⟩) (.bin .add (.loc 1 ⟨244,37,244,39⟩) (.int 1 ⟨244,42,244,43⟩) ⟨244,37,244,43⟩) (.bin .add (.loc 1 ⟨244,44,244,46⟩) (.int 2 ⟨244,49,244,50⟩) ⟨244,44,244,50⟩) ⟨244,37,244,50⟩ ⟨244,32,244,51⟩) (.str "\n" [10] ⟨244,55,244,59⟩) ⟨244,32,244,59⟩) .nil)) ⟨244,15,244,59⟩) (.cons (.brk ⟨245,16,245,21⟩)
  .nil) .nil ⟨244,12,245,21⟩)
  (.cons (.assignT [(9, ⟨246,12,246,17⟩), (1, ⟨246,19,246,21⟩)] ⟨246,12,246,21⟩ (.call .backslash ⟨246,24,246,33⟩ (.cons (.loc 0 ⟨246,34,246,38⟩) (.cons (.loc 1 ⟨246,40,246,42⟩) .nil)) ⟨246,24,246,43⟩) ⟨246,12,246,43⟩)
  (.cons (.assign 6 ⟨247,12,247,16⟩ (.tup (.cons (.str "text" [116, 101, 120, 116] ⟨247,20,247,26⟩) (.cons (.loc 9 ⟨247,28,247,33⟩) .nil)) ⟨247,19,247,34⟩) ⟨247,12,247,34⟩)
  .nil))) (.cons (.assign 8 ⟨249,12,249,17⟩ (.loc 1 ⟨249,20,249,22⟩) ⟨249,12,249,22⟩)
  (.cons (.while t_parts_until_1 w_parts_until_1 ⟨250,12,251,23⟩)
  (.cons (.assign 6 ⟨252,12,252,16⟩ (.tup (.cons (.str "text" [116, 101, 120, 116] ⟨252,20,252,26⟩) (.cons (.slc (.loc 0 ⟨252,28,252,32⟩) (.loc 8 ⟨252,33,252,38⟩) (.loc 1 ⟨252,39,252,41⟩) ⟨252,33,252,41⟩ ⟨252,28,252,42⟩) .nil)) ⟨252,19,252,43⟩) ⟨252,12,252,43⟩)
  .nil))) ⟨243,8,252,43⟩)
  .nil) ⟨240,8,252,43⟩)
  .nil) ⟨238,8,252,43⟩)
  (.cons (.ite (.cmp .eq (.idx (.loc 6 ⟨253,11,253,15⟩) (.int 0 ⟨253,16,253,17⟩) ⟨253,11,253,18⟩) (.str "text" [116, 101, 120, 116] ⟨253,22,253,28⟩) ⟨253,11,253,28⟩) (.cons (.aug 4 ⟨254,12,254,15⟩ .add (.idx (.loc 6 ⟨254,19,254,23⟩) (.int 1 ⟨254,24,254,25⟩) ⟨254,19,254,26⟩) ⟨254,12,254,26⟩)
  .nil) (.cons (.ite (.cmp .ne (.loc 4 ⟨256,15,256,18⟩) (.str "" [] ⟨256,22,256,24⟩) ⟨256,15,256,24⟩) (.cons (.expr (.meth (.loc 3 ⟨257,16,257,21⟩) .append ⟨257,16,257,28⟩ (.cons (.tup (.cons (.str "text" [116, 101, 120, 116] ⟨257,30,257,36⟩) (.cons (.loc 4 ⟨257,38,257,41⟩) .nil)) ⟨257,29,257,42⟩) .nil) ⟨257,16,257,43⟩) ⟨257,16,257,43⟩)
  (.cons (.assign 4 ⟨258,16,258,19⟩ (.str "" [] ⟨258,22,258,24⟩) ⟨258,16,258,24⟩)
  .nil)) .nil ⟨256,12,258,24⟩)
  (.cons (.expr (.meth (.loc 3 ⟨259,12,259,17⟩) .append ⟨259,12,259,24⟩ (.cons (.loc 6 ⟨259,25,259,29⟩) .nil) ⟨259,12,259,30⟩) ⟨259,12,259,30⟩)
  .nil)) ⟨253,8,259,30⟩)
  .nil))
noncomputable def b_parts_until : Sts := (.cons (.assign 3 ⟨234,4,234,9⟩ (.list .nil ⟨234,12,234,14⟩) ⟨234,4,234,14⟩)
  (.cons (.assign 4 ⟨235,4,235,7⟩ (.str "" [] ⟨235,10,235,12⟩) ⟨235,4,235,12⟩)
  (.cons (.assign 5 ⟨236,4,236,8⟩ (.bi .len ⟨236,11,236,14⟩ (.cons (.loc 0 ⟨236,15,236,19⟩) .nil) ⟨236,11,236,20⟩) ⟨236,4,236,20⟩)
  (.cons (.while t_parts_until_0 w_parts_until_0 ⟨237,4,259,30⟩)
  (.cons (.ite (.cmp .ne (.loc 4 ⟨260,7,260,10⟩) (.str "" [] ⟨260,14,260,16⟩) ⟨260,7,260,16⟩) (.cons (.expr (.meth (.loc 3 ⟨261,8,261,13⟩) .append ⟨261,8,261,20⟩ (.cons (.tup (.cons (.str "text" [116, 101, 120, 116] ⟨261,22,261,28⟩) (.cons (.loc 4 ⟨261,30,261,33⟩) .nil)) ⟨261,21,261,34⟩) .nil) ⟨261,8,261,35⟩) ⟨261,8,261,35⟩)
  .nil) .nil ⟨260,4,261,35⟩)
  (.cons (.ret (.tup (.cons (.bi .tuple ⟨262,12,262,17⟩ (.cons (.loc 3 ⟨262,18,262,23⟩) .nil) ⟨262,12,262,24⟩) (.cons (.loc 1 ⟨262,26,262,28⟩) .nil)) ⟨262,11,262,29⟩) ⟨262,4,262,29⟩)
  .nil))))))
noncomputable def n_bare_stops : List Str := [Str.ofString "is_nested"]
noncomputable def b_bare_stops : Sts := (.cons (.ite (.loc 0 ⟨264,7,264,16⟩) (.cons (.ret (.tup (.cons (.str " " [32] ⟨265,16,265,19⟩) (.cons (.str "\t" [9] ⟨265,21,265,25⟩) (.cons (.str "\x0b" [11] ⟨265,27,265,33⟩) (.cons (.str "\x0c" [12] ⟨265,35,265,41⟩) (.cons (.str "\x0d" [13] ⟨265,43,265,47⟩) (.cons (.str "\n" [10] ⟨265,49,265,53⟩) (.cons (.str ";" [59] ⟨265,55,265,58⟩) (.cons (.str "]" [93] ⟨265,60,265,63⟩) .nil)))))))) ⟨265,15,265,64⟩) ⟨265,8,265,64⟩)
  .nil) .nil ⟨264,4,265,64⟩)
  (.cons (.ret (.tup (.cons (.str " " [32] ⟨266,12,266,15⟩) (.cons (.str "\t" [9] ⟨266,17,266,21⟩) (.cons (.str "\x0b" [11] ⟨266,23,266,29⟩) (.cons (.str "\x0c" [12] ⟨266,31,266,37⟩) (.cons (.str "\x0d" [13] ⟨266,39,266,43⟩) (.cons (.str "\n" [10] ⟨266,45,266,49⟩) (.cons (.str ";" [59] ⟨266,51,266,54⟩) .nil))))))) ⟨266,11,266,55⟩) ⟨266,4,266,55⟩)
  .nil))
noncomputable def n_is_expanded : List Str := [Str.ofString "text", Str.ofString "at", Str.ofString "behind"]
noncomputable def b_is_expanded : Sts := (.cons (.ite (.cmp .ne (.slc (.loc 0 ⟨268,7,268,11⟩) (.loc 1 ⟨268,12,268,14⟩) (.bin .add (.loc 1 ⟨268,15,268,17⟩) (.int 3 ⟨268,20,268,21⟩) ⟨268,15,268,21⟩) ⟨268,12,268,21⟩ ⟨268,7,268,22⟩) (.str "{*}" [123, 42, 125] ⟨268,26,268,31⟩) ⟨268,7,268,31⟩) (.cons (.ret (.bool false ⟨269,15,269,20⟩) ⟨269,8,269,20⟩)
  .nil) .nil ⟨268,4,269,20⟩)
  (.cons (.assign 2 ⟨270,4,270,10⟩ (.bin .add (.loc 1 ⟨270,13,270,15⟩) (.int 3 ⟨270,18,270,19⟩) ⟨270,13,270,19⟩) ⟨270,4,270,19⟩)
  (.cons (.ite (.cmp .isin (.slc (.loc 0 ⟨271,7,271,11⟩) (.loc 2 ⟨271,12,271,18⟩) (.bin .add (.loc 2 ⟨271,19,271,25⟩) (.int 1 ⟨271,28,271,29⟩) ⟨271,19,271,29⟩) ⟨271,12,271,29⟩ ⟨271,7,271,30⟩) (.tup (.cons (.str "" [] ⟨271,35,271,37⟩) (.cons (.str "\n" [10] ⟨271,39,271,43⟩) (.cons (.str ";" [59] ⟨271,45,271,48⟩) .nil))) ⟨271,34,271,49⟩) ⟨271,7,271,49⟩) (.cons (.ret (.bool false ⟨272,15,272,20⟩) ⟨272,8,272,20⟩)
  .nil) .nil ⟨271,4,272,20⟩)
  (.cons (.ret (.cmp .eq (.call .skip_gaps ⟨273,11,273,20⟩ (.cons (.loc 0 ⟨273,21,273,25⟩) (.cons (.loc 2 ⟨273,27,273,33⟩) .nil)) ⟨273,11,273,34⟩) (.loc 2 ⟨273,38,273,44⟩) ⟨273,11,273,44⟩) ⟨273,4,273,44⟩)
  .nil))))
noncomputable def n_word : List Str := [Str.ofString "text", Str.ofString "at", Str.ofString "is_nested", Str.ofString "is_expand", Str.ofString "sign", Str.ofString "parts", Str.ofString "behind", Str.ofString "inner", Str.ofString "close"]
noncomputable def b_word : Sts := (.cons (.assign 3 ⟨275,4,275,13⟩ (.call .is_expanded ⟨275,16,275,27⟩ (.cons (.loc 0 ⟨275,28,275,32⟩) (.cons (.loc 1 ⟨275,34,275,36⟩) .nil)) ⟨275,16,275,37⟩) ⟨275,4,275,37⟩)
  (.cons (.ite (.loc 3 ⟨276,7,276,16⟩) (.cons (.aug 1 ⟨277,8,277,10⟩ .add (.int 3 ⟨277,14,277,15⟩) ⟨277,8,277,15⟩)
  .nil) .nil ⟨276,4,277,15⟩)
  (.cons (.assign 4 ⟨278,4,278,8⟩ (.slc (.loc 0 ⟨278,11,278,15⟩) (.loc 1 ⟨278,16,278,18⟩) (.bin .add (.loc 1 ⟨278,19,278,21⟩) (.int 1 ⟨278,24,278,25⟩) ⟨278,19,278,25⟩) ⟨278,16,278,25⟩ ⟨278,11,278,26⟩) ⟨278,4,278,26⟩)
  (.cons (.ite (.cmp .eq (.loc 4 ⟨279,7,279,11⟩) (.str "{" [123] ⟨279,15,279,18⟩) ⟨279,7,279,18⟩) (.cons (.assignT [(7, ⟨280,8,280,13⟩), (6, ⟨280,15,280,21⟩)] ⟨280,8,280,21⟩ (.call .braces ⟨280,24,280,30⟩ (.cons (.loc 0 ⟨280,31,280,35⟩) (.cons (.loc 1 ⟨280,37,280,39⟩) .nil)) ⟨280,24,280,40⟩) ⟨280,8,280,40⟩)
  (.cons (.ite (.cmp .eq (.loc 7 ⟨281,11,281,16⟩) (.str "" [] ⟨281,20,281,22⟩) ⟨281,11,281,22⟩) (.cons (.ret (.tup (.cons (.tup (.cons (.loc 3 ⟨282,21,282,30⟩) (.cons (.tup .nil ⟨282,32,282,34⟩) .nil)) ⟨282,20,282,35⟩) (.cons (.loc 6 ⟨282,37,282,43⟩) .nil)) ⟨282,19,282,44⟩) ⟨282,12,282,44⟩)
  .nil) .nil ⟨281,8,282,44⟩)
  (.cons (.ret (.tup (.cons (.tup (.cons (.loc 3 ⟨283,17,283,26⟩) (.cons (.tup (.cons (.tup (.cons (.str "text" [116, 101, 120, 116] ⟨283,30,283,36⟩) (.cons (.loc 7 ⟨283,38,283,43⟩) .nil)) ⟨283,29,283,44⟩) .nil) ⟨283,28,283,46⟩) .nil)) ⟨283,16,283,47⟩) (.cons (.loc 6 ⟨283,49,283,55⟩) .nil)) ⟨283,15,283,56⟩) ⟨283,8,283,56⟩)
  .nil))) .nil ⟨279,4,283,56⟩)
  (.cons (.ite (.cmp .eq (.loc 4 ⟨284,7,284,11⟩) (.str "\"" [34] ⟨284,15,284,18⟩) ⟨284,7,284,18⟩) (.cons (.assignT [(5, ⟨285,8,285,13⟩), (8, ⟨285,15,285,20⟩)] ⟨285,8,285,20⟩ (.call .parts_until ⟨285,23,285,34⟩ (.cons (.loc 0 ⟨285,35,285,39⟩) (.cons (.bin .add (.loc 1 ⟨285,41,285,43⟩) (.int 1 ⟨285,46,285,47⟩) ⟨285,41,285,47⟩) (.cons (.tup (.cons (.str "\"" [34] ⟨285,50,285,53⟩) .nil) ⟨285,49,285,55⟩) .nil))) ⟨285,23,285,56⟩) ⟨285,8,285,56⟩)
  (.cons (.ite (.cmp .ge (.loc 8 ⟨286,11,286,16⟩) (.bi .len ⟨286,20,286,23⟩ (.cons (.loc 0 ⟨286,24,286,28⟩) .nil) ⟨286,20,286,29⟩) ⟨286,11,286,29⟩) (.cons (.raw (Stmt.Raise (some (Expr.Call (Expr.Name "error" ⟨287,18,287,23⟩) [(Expr.Constant (.str "missing \"") 0 ⟨287,24,287,35⟩)] [] ⟨287,18,287,36⟩)) none ⟨287,12,287,36⟩))
  .nil) .nil ⟨286,8,287,36⟩)
  (.cons (.ret (.tup (.cons (.tup (.cons (.loc 3 ⟨288,17,288,26⟩) (.cons (.loc 5 ⟨288,28,288,33⟩) .nil)) ⟨288,16,288,34⟩) (.cons (.bin .add (.loc 8 ⟨288,36,288,41⟩) (.int 1 ⟨288,44,288,45⟩) ⟨288,36,288,45⟩) .nil)) ⟨288,15,288,46⟩) ⟨288,8,288,46⟩)
  .nil))) .nil ⟨284,4,288,46⟩)
  (.cons (.assignT [(5, ⟨289,4,289,9⟩), (6, ⟨289,11,289,17⟩)] ⟨289,4,289,17⟩ (.call .parts_until ⟨289,20,289,31⟩ (.cons (.loc 0 ⟨289,32,289,36⟩) (.cons (.loc 1 ⟨289,38,289,40⟩) (.cons (.call .bare_stops ⟨289,42,289,52⟩ (.cons (.loc 2 ⟨289,53,289,62⟩) .nil) ⟨289,42,289,63⟩) .nil))) ⟨289,20,289,64⟩) ⟨289,4,289,64⟩)
  (.cons (.ret (.tup (.cons (.tup (.cons (.loc 3 ⟨290,13,290,22⟩) (.cons (.loc 5 ⟨290,24,290,29⟩) .nil)) ⟨290,12,290,30⟩) (.cons (.loc 6 ⟨290,32,290,38⟩) .nil)) ⟨290,11,290,39⟩) ⟨290,4,290,39⟩)
  .nil)))))))
noncomputable def n_command_at : List Str := [Str.ofString "text", Str.ofString "at", Str.ofString "is_nested", Str.ofString "begin", Str.ofString "size", Str.ofString "words", Str.ofString "place", Str.ofString "found", Str.ofString "end"]
noncomputable def t_command_at_0 : Ex := (.bool true ⟨298,10,298,14⟩)
noncomputable def w_command_at_0 : Sts := (.cons (.assignT [(7, ⟨299,8,299,13⟩), (8, ⟨299,15,299,18⟩)] ⟨299,8,299,18⟩ (.call .word ⟨299,21,299,25⟩ (.cons (.loc 0 ⟨299,26,299,30⟩) (.cons (.loc 6 ⟨299,32,299,37⟩) (.cons (.loc 2 ⟨299,39,299,48⟩) .nil))) ⟨299,21,299,49⟩) ⟨299,8,299,49⟩)
  (.cons (.expr (.meth (.loc 5 ⟨300,8,300,13⟩) .append ⟨300,8,300,20⟩ (.cons (.loc 7 ⟨300,21,300,26⟩) .nil) ⟨300,8,300,27⟩) ⟨300,8,300,27⟩)
  (.cons (.assign 6 ⟨301,8,301,13⟩ (.call .skip_gaps ⟨301,16,301,25⟩ (.cons (.loc 0 ⟨301,26,301,30⟩) (.cons (.loc 8 ⟨301,32,301,35⟩) .nil)) ⟨301,16,301,36⟩) ⟨301,8,301,36⟩)
  (.cons (.ite (.cmp .ge (.loc 6 ⟨302,11,302,16⟩) (.loc 4 ⟨302,20,302,24⟩) ⟨302,11,302,24⟩) (.cons (.ret (.tup (.cons (.bi .tuple ⟨303,20,303,25⟩ (.cons (.loc 5 ⟨303,26,303,31⟩) .nil) ⟨303,20,303,32⟩) (.cons (.loc 3 ⟨303,34,303,39⟩) (.cons (.loc 8 ⟨303,41,303,44⟩) (.cons (.loc 4 ⟨303,46,303,50⟩) .nil)))) ⟨303,19,303,51⟩) ⟨303,12,303,51⟩)
  .nil) .nil ⟨302,8,303,51⟩)
  (.cons (.ite (.cmp .isin (.idx (.loc 0 ⟨304,11,304,15⟩) (.loc 6 ⟨304,16,304,21⟩) ⟨304,11,304,22⟩) (.tup (.cons (.str "\n" [10] ⟨304,27,304,31⟩) (.cons (.str ";" [59] ⟨304,33,304,36⟩) .nil)) ⟨304,26,304,37⟩) ⟨304,11,304,37⟩) (.cons (.ret (.tup (.cons (.bi .tuple ⟨305,20,305,25⟩ (.cons (.loc 5 ⟨305,26,305,31⟩) .nil) ⟨305,20,305,32⟩) (.cons (.loc 3 ⟨305,34,305,39⟩) (.cons (.loc 8 ⟨305,41,305,44⟩) (.cons (.bin .add (.loc 6 ⟨305,46,305,51⟩) (.int 1 ⟨305,54,305,55⟩) ⟨305,46,305,55⟩) .nil)))) ⟨305,19,305,56⟩) ⟨305,12,305,56⟩)
  .nil) .nil ⟨304,8,305,56⟩)
  (.cons (.ite (.bop true (.cons (.loc 2 ⟨306,11,306,20⟩) (.cons (.cmp .eq (.idx (.loc 0 ⟨306,25,306,29⟩) (.loc 6 ⟨306,30,306,35⟩) ⟨306,25,306,36⟩) (.str "]" [93] ⟨306,40,306,43⟩) ⟨306,25,306,43⟩) .nil)) ⟨306,11,306,43⟩) (.cons (.ret (.tup (.cons (.bi .tuple ⟨307,20,307,25⟩ (.cons (.loc 5 ⟨307,26,307,31⟩) .nil) ⟨307,20,307,32⟩) (.cons (.loc 3 ⟨307,34,307,39⟩) (.cons (.loc 8 ⟨307,41,307,44⟩) (.cons (.loc 6 ⟨307,46,307,51⟩) .nil)))) ⟨307,19,307,52⟩) ⟨307,12,307,52⟩)
  .nil) .nil ⟨306,8,307,52⟩)
  (.cons (.ite (.cmp .eq (.loc 6 ⟨308,11,308,16⟩) (.loc 8 ⟨308,20,308,23⟩) ⟨308,11,308,23⟩) (.cons (.ite (.cmp .eq (.idx (.loc 0 ⟨309,15,309,19⟩) (.bin .sub (.loc 8 ⟨309,20,309,23⟩) (.int 1 ⟨309,26,309,27⟩) ⟨309,20,309,27⟩) ⟨309,15,309,28⟩) (.str "\"" [34] ⟨309,32,309,35⟩) ⟨309,15,309,35⟩) (.cons (.raw (Stmt.Raise (some (Expr.Call (Expr.Name "error" ⟨310,22,310,27⟩) [(Expr.Constant (.str "extra characters after close-quote") 0 ⟨310,28,310,64⟩)] [] ⟨310,22,310,65⟩)) none ⟨310,16,310,65⟩))
  .nil) .nil ⟨309,12,310,65⟩)
  (.cons (.raw (Stmt.Raise (some (Expr.Call (Expr.Name "error" ⟨311,18,311,23⟩) [(Expr.Constant (.str "extra characters after close-brace") 0 ⟨311,24,311,60⟩)] [] ⟨311,18,311,61⟩)) none ⟨311,12,311,61⟩))
  .nil)) .nil ⟨308,8,311,61⟩)
  .nil)))))))
noncomputable def b_command_at : Sts := (.cons (.assign 3 ⟨292,4,292,9⟩ (.call .skip_to_command ⟨292,12,292,27⟩ (.cons (.loc 0 ⟨292,28,292,32⟩) (.cons (.loc 1 ⟨292,34,292,36⟩) .nil)) ⟨292,12,292,37⟩) ⟨292,4,292,37⟩)
  (.cons (.assign 4 ⟨293,4,293,8⟩ (.bi .len ⟨293,11,293,14⟩ (.cons (.loc 0 ⟨293,15,293,19⟩) .nil) ⟨293,11,293,20⟩) ⟨293,4,293,20⟩)
  (.cons (.ite (.bop false (.cons (.cmp .ge (.loc 3 ⟨294,7,294,12⟩) (.loc 4 ⟨294,16,294,20⟩) ⟨294,7,294,20⟩) (.cons (.bop true (.cons (.loc 2 ⟨294,25,294,34⟩) (.cons (.cmp .eq (.idx (.loc 0 ⟨294,39,294,43⟩) (.loc 3 ⟨294,44,294,49⟩) ⟨294,39,294,50⟩) (.str "]" [93] ⟨294,54,294,57⟩) ⟨294,39,294,57⟩) .nil)) ⟨294,25,294,57⟩) .nil)) ⟨294,7,294,58⟩) (.cons (.ret (.none ⟨295,15,295,19⟩) ⟨295,8,295,19⟩)
  .nil) .nil ⟨294,4,295,19⟩)
  (.cons (.assign 5 ⟨296,4,296,9⟩ (.list .nil ⟨296,12,296,14⟩) ⟨296,4,296,14⟩)
  (.cons (.assign 6 ⟨297,4,297,9⟩ (.loc 3 ⟨297,12,297,17⟩) ⟨297,4,297,17⟩)
  (.cons (.while t_command_at_0 w_command_at_0 ⟨298,4,311,61⟩)
  .nil))))))
noncomputable def n_check_behind : List Str := [Str.ofString "text", Str.ofString "at", Str.ofString "what", Str.ofString "end"]
noncomputable def t_check_behind_0 : Ex := (.bop true (.cons (.cmp .lt (.loc 3 ⟨317,10,317,13⟩) (.bi .len ⟨317,16,317,19⟩ (.cons (.loc 0 ⟨317,20,317,24⟩) .nil) ⟨317,16,317,25⟩) ⟨317,10,317,25⟩) (.cons (.cmp .lt (.loc 3 ⟨317,30,317,33⟩) (.bin .add (.loc 1 ⟨317,36,317,38⟩) (.int 20 ⟨317,41,317,43⟩) ⟨317,36,317,43⟩) ⟨317,30,317,43⟩) (.cons (.not (.call .is_blank ⟨317,53,317,61⟩ (.cons (.idx (.loc 0 ⟨317,62,317,66⟩) (.loc 3 ⟨317,67,317,70⟩) ⟨317,62,317,71⟩) .nil) ⟨317,53,317,72⟩) ⟨317,49,317,72⟩) .nil))) ⟨317,10,317,73⟩)
noncomputable def w_check_behind_0 : Sts := (.cons (.aug 3 ⟨318,8,318,11⟩ .add (.int 1 ⟨318,15,318,16⟩) ⟨318,8,318,16⟩)
  .nil)
noncomputable def b_check_behind : Sts := (.cons (.ite (.bop false (.cons (.cmp .ge (.loc 1 ⟨314,7,314,9⟩) (.bi .len ⟨314,13,314,16⟩ (.cons (.loc 0 ⟨314,17,314,21⟩) .nil) ⟨314,13,314,22⟩) ⟨314,7,314,22⟩) (.cons (.call .is_blank ⟨314,26,314,34⟩ (.cons (.idx (.loc 0 ⟨314,35,314,39⟩) (.loc 1 ⟨314,40,314,42⟩) ⟨314,35,314,43⟩) .nil) ⟨314,26,314,44⟩) .nil)) ⟨314,7,314,44⟩) (.cons (.ret0 ⟨315,8,315,14⟩)
  .nil) .nil ⟨314,4,315,14⟩)
  (.cons (.assign 3 ⟨316,4,316,7⟩ (.loc 1 ⟨316,10,316,12⟩) ⟨316,4,316,12⟩)
  (.cons (.while t_check_behind_0 w_check_behind_0 ⟨317,4,318,16⟩)
  (.cons (.raw (Stmt.Raise (some (Expr.Call (Expr.Name "error" ⟨319,10,319,15⟩) [(Expr.BinOp (Expr.BinOp (Expr.BinOp (Expr.BinOp (Expr.Constant (.str "list element in ") 0 ⟨319,16,319,34⟩) .Add (Expr.Name "what" ⟨319,37,319,41⟩) ⟨319,16,319,41⟩) .Add (Expr.Constant (.str " followed by \"") 0 ⟨319,44,319,60⟩) ⟨319,16,319,60⟩) .Add (Expr.Subscript (Expr.Name "text" ⟨319,63,319,67⟩) (Expr.Slice (some (Expr.Name "at" ⟨319,68,319,70⟩)) (some (Expr.Name "end" ⟨319,71,319,74⟩)) none ⟨319,68,319,74⟩) ⟨319,63,319,75⟩) ⟨319,16,319,75⟩) .Add (Expr.Constant (.str "\" instead of space") 0 ⟨319,78,319,98⟩) ⟨319,16,319,98⟩), (Expr.Tuple [(Expr.Constant (.str "TCL") 0 ⟨319,101,319,106⟩), (Expr.Constant (.str "VALUE") 0 ⟨319,108,319,115⟩), (Expr.Constant (.str "LIST") 0 ⟨319,117,319,123⟩), (Expr.Constant (.str "JUNK") 0 ⟨319,125,319,131⟩)] 0 ⟨319,100,319,132⟩)] [] ⟨319,10,319,133⟩)) none ⟨319,4,319,133⟩))
  .nil))))
noncomputable def n_braced_element : List Str := [Str.ofString "text", Str.ofString "first", Str.ofString "depth", Str.ofString "at", Str.ofString "c"]
noncomputable def t_braced_element_0 : Ex := (.cmp .lt (.loc 3 ⟨322,10,322,12⟩) (.bi .len ⟨322,15,322,18⟩ (.cons (.loc 0 ⟨322,19,322,23⟩) .nil) ⟨322,15,322,24⟩) ⟨322,10,322,24⟩)
noncomputable def w_braced_element_0 : Sts := (.cons (.assign 4 ⟨323,8,323,9⟩ (.idx (.loc 0 ⟨323,12,323,16⟩) (.loc 3 ⟨323,17,323,19⟩) ⟨323,12,323,20⟩) ⟨323,8,323,20⟩)
  (.cons (.ite (.cmp .eq (.loc 4 ⟨324,11,324,12⟩) (.str "\\" [92] ⟨324,16,324,20⟩) ⟨324,11,324,20⟩) (.cons (.aug 3 ⟨325,12,325,14⟩ .add (.int 1 ⟨325,18,325,19⟩) ⟨325,12,325,19⟩)
  .nil) (.cons (.ite (.cmp .eq (.loc 4 ⟨326,13,326,14⟩) (.str "{" [123] ⟨326,18,326,21⟩) ⟨326,13,326,21⟩) (.cons (.aug 2 ⟨327,12,327,17⟩ .add (.int 1 ⟨327,21,327,22⟩) ⟨327,12,327,22⟩)
  .nil) (.cons (.ite (.cmp .eq (.loc 4 ⟨328,13,328,14⟩) (.str "}" [125] ⟨328,18,328,21⟩) ⟨328,13,328,21⟩) (.cons (.aug 2 ⟨329,12,329,17⟩ .sub (.int 1 ⟨329,21,329,22⟩) ⟨329,12,329,22⟩)
  (.cons (.ite (.cmp .eq (.loc 2 ⟨330,15,330,20⟩) (.int 0 ⟨330,24,330,25⟩) ⟨330,15,330,25⟩) (.cons (.expr (.call .check_behind ⟨331,16,331,28⟩ (.cons (.loc 0 ⟨331,29,331,33⟩) (.cons (.bin .add (.loc 3 ⟨331,35,331,37⟩) (.int 1 ⟨331,40,331,41⟩) ⟨331,35,331,41⟩) (.cons (.str "braces" [98, 114, 97, 99, 101, 115] ⟨331,43,331,51⟩) .nil))) ⟨331,16,331,52⟩) ⟨331,16,331,52⟩)
  (.cons (.ret (.tup (.cons (.slc (.loc 0 ⟨332,24,332,28⟩) (.loc 1 ⟨332,29,332,34⟩) (.loc 3 ⟨332,35,332,37⟩) ⟨332,29,332,37⟩ ⟨332,24,332,38⟩) (.cons (.bin .add (.loc 3 ⟨332,40,332,42⟩) (.int 1 ⟨332,45,332,46⟩) ⟨332,40,332,46⟩) .nil)) ⟨332,23,332,47⟩) ⟨332,16,332,47⟩)
  .nil)) .nil ⟨330,12,332,47⟩)
  .nil)) .nil ⟨328,8,332,47⟩)
  .nil) ⟨326,8,332,47⟩)
  .nil) ⟨324,8,332,47⟩)
  (.cons (.aug 3 ⟨333,8,333,10⟩ .add (.int 1 ⟨333,14,333,15⟩) ⟨333,8,333,15⟩)
  .nil)))
noncomputable def b_braced_element : Sts := (.cons (.assignD 2 ⟨321,4,321,9⟩ 3 ⟨321,11,321,13⟩ ⟨321,4,321,13⟩ (.int 1 ⟨321,17,321,18⟩) (.loc 1 ⟨321,20,321,25⟩) ⟨321,16,321,26⟩ ⟨321,4,321,26⟩)
  (.cons (.while t_braced_element_0 w_braced_element_0 ⟨322,4,333,15⟩)
  (.cons (.raw (Stmt.Raise (some (Expr.Call (Expr.Name "error" ⟨334,10,334,15⟩) [(Expr.Constant (.str "unmatched open brace in list") 0 ⟨334,16,334,46⟩), (Expr.Tuple [(Expr.Constant (.str "TCL") 0 ⟨334,49,334,54⟩), (Expr.Constant (.str "VALUE") 0 ⟨334,56,334,63⟩), (Expr.Constant (.str "LIST") 0 ⟨334,65,334,71⟩), (Expr.Constant (.str "BRACE") 0 ⟨334,73,334,80⟩)] 0 ⟨334,48,334,81⟩)] [] ⟨334,10,334,82⟩)) none ⟨334,4,334,82⟩))
  .nil)))
noncomputable def n_quoted_element : List Str := [Str.ofString "text", Str.ofString "at", Str.ofString "out", Str.ofString "c"]
noncomputable def t_quoted_element_0 : Ex := (.cmp .lt (.loc 1 ⟨337,10,337,12⟩) (.bi .len ⟨337,15,337,18⟩ (.cons (.loc 0 ⟨337,19,337,23⟩) .nil) ⟨337,15,337,24⟩) ⟨337,10,337,24⟩)
noncomputable def w_quoted_element_0 : Sts := (.cons (.assign 3 ⟨338,8,338,9⟩ (.idx (.loc 0 ⟨338,12,338,16⟩) (.loc 1 ⟨338,17,338,19⟩) ⟨338,12,338,20⟩) ⟨338,8,338,20⟩)
  (.cons (.ite (.cmp .eq (.loc 3 ⟨339,11,339,12⟩) (.str "\\" [92] ⟨339,16,339,20⟩) ⟨339,11,339,20⟩) (.cons (.assignT [(3, ⟨340,12,340,13⟩), (1, ⟨340,15,340,17⟩)] ⟨340,12,340,17⟩ (.call .backslash ⟨340,20,340,29⟩ (.cons (.loc 0 ⟨340,30,340,34⟩) (.cons (.loc 1 ⟨340,36,340,38⟩) .nil)) ⟨340,20,340,39⟩) ⟨340,12,340,39⟩)
  .nil) (.cons (.ite (.cmp .eq (.loc 3 ⟨341,13,341,14⟩) (.str "\"" [34] ⟨341,18,341,21⟩) ⟨341,13,341,21⟩) (.cons (.expr (.call .check_behind ⟨342,12,342,24⟩ (.cons (.loc 0 ⟨342,25,342,29⟩) (.cons (.bin .add (.loc 1 ⟨342,31,342,33⟩) (.int 1 ⟨342,36,342,37⟩) ⟨342,31,342,37⟩) (.cons (.str "quotes" [113, 117, 111, 116, 101, 115] ⟨342,39,342,47⟩) .nil))) ⟨342,12,342,48⟩) ⟨342,12,342,48⟩)
  (.cons (.ret (.tup (.cons (.meth (.str "" [] ⟨343,20,343,22⟩) .join ⟨343,20,343,27⟩ (.cons (.loc 2 ⟨343,28,343,31⟩) .nil) ⟨343,20,343,32⟩) (.cons (.bin .add (.loc 1 ⟨343,34,343,36⟩) (.int 1 ⟨343,39,343,40⟩) ⟨343,34,343,40⟩) .nil)) ⟨343,19,343,41⟩) ⟨343,12,343,41⟩)
  .nil)) (.cons (.aug 1 ⟨345,12,345,14⟩ .add (.int 1 ⟨345,18,345,19⟩) ⟨345,12,345,19⟩)
  .nil) ⟨341,8,345,19⟩)
  .nil) ⟨339,8,345,19⟩)
  (.cons (.expr (.meth (.loc 2 ⟨346,8,346,11⟩) .append ⟨346,8,346,18⟩ (.cons (.loc 3 ⟨346,19,346,20⟩) .nil) ⟨346,8,346,21⟩) ⟨346,8,346,21⟩)
  .nil)))
noncomputable def b_quoted_element : Sts := (.cons (.assign 2 ⟨336,4,336,7⟩ (.list .nil ⟨336,10,336,12⟩) ⟨336,4,336,12⟩)
  (.cons (.while t_quoted_element_0 w_quoted_element_0 ⟨337,4,346,21⟩)
  (.cons (.raw (Stmt.Raise (some (Expr.Call (Expr.Name "error" ⟨347,10,347,15⟩) [(Expr.Constant (.str "unmatched open quote in list") 0 ⟨347,16,347,46⟩), (Expr.Tuple [(Expr.Constant (.str "TCL") 0 ⟨347,49,347,54⟩), (Expr.Constant (.str "VALUE") 0 ⟨347,56,347,63⟩), (Expr.Constant (.str "LIST") 0 ⟨347,65,347,71⟩), (Expr.Constant (.str "QUOTE") 0 ⟨347,73,347,80⟩)] 0 ⟨347,48,347,81⟩)] [] ⟨347,10,347,82⟩)) none ⟨347,4,347,82⟩))
  .nil)))
noncomputable def n_bare_element : List Str := [Str.ofString "text", Str.ofString "at", Str.ofString "out", Str.ofString "c"]
noncomputable def t_bare_element_0 : Ex := (.bop true (.cons (.cmp .lt (.loc 1 ⟨350,10,350,12⟩) (.bi .len ⟨350,15,350,18⟩ (.cons (.loc 0 ⟨350,19,350,23⟩) .nil) ⟨350,15,350,24⟩) ⟨350,10,350,24⟩) (.cons (.not (.call .is_blank ⟨350,34,350,42⟩ (.cons (.idx (.loc 0 ⟨350,43,350,47⟩) (.loc 1 ⟨350,48,350,50⟩) ⟨350,43,350,51⟩) .nil) ⟨350,34,350,52⟩) ⟨350,30,350,52⟩) .nil)) ⟨350,10,350,53⟩)
noncomputable def w_bare_element_0 : Sts := (.cons (.assign 3 ⟨351,8,351,9⟩ (.idx (.loc 0 ⟨351,12,351,16⟩) (.loc 1 ⟨351,17,351,19⟩) ⟨351,12,351,20⟩) ⟨351,8,351,20⟩)
  (.cons (.ite (.cmp .eq (.loc 3 ⟨352,11,352,12⟩) (.str "\\" [92] ⟨352,16,352,20⟩) ⟨352,11,352,20⟩) (.cons (.assignT [(3, ⟨353,12,353,13⟩), (1, ⟨353,15,353,17⟩)] ⟨353,12,353,17⟩ (.call .backslash ⟨353,20,353,29⟩ (.cons (.loc 0 ⟨353,30,353,34⟩) (.cons (.loc 1 ⟨353,36,353,38⟩) .nil)) ⟨353,20,353,39⟩) ⟨353,12,353,39⟩)
  .nil) (.cons (.aug 1 ⟨355,12,355,14⟩ .add (.int 1 ⟨355,18,355,19⟩) ⟨355,12,355,19⟩)
  .nil) ⟨352,8,355,19⟩)
  (.cons (.expr (.meth (.loc 2 ⟨356,8,356,11⟩) .append ⟨356,8,356,18⟩ (.cons (.loc 3 ⟨356,19,356,20⟩) .nil) ⟨356,8,356,21⟩) ⟨356,8,356,21⟩)
  .nil)))
noncomputable def b_bare_element : Sts := (.cons (.assign 2 ⟨349,4,349,7⟩ (.list .nil ⟨349,10,349,12⟩) ⟨349,4,349,12⟩)
  (.cons (.while t_bare_element_0 w_bare_element_0 ⟨350,4,356,21⟩)
  (.cons (.ret (.tup (.cons (.meth (.str "" [] ⟨357,12,357,14⟩) .join ⟨357,12,357,19⟩ (.cons (.loc 2 ⟨357,20,357,23⟩) .nil) ⟨357,12,357,24⟩) (.cons (.loc 1 ⟨357,26,357,28⟩) .nil)) ⟨357,11,357,29⟩) ⟨357,4,357,29⟩)
  .nil)))
noncomputable def n_find_element : List Str := [Str.ofString "text", Str.ofString "at"]
noncomputable def t_find_element_0 : Ex := (.bop true (.cons (.cmp .lt (.loc 1 ⟨359,10,359,12⟩) (.bi .len ⟨359,15,359,18⟩ (.cons (.loc 0 ⟨359,19,359,23⟩) .nil) ⟨359,15,359,24⟩) ⟨359,10,359,24⟩) (.cons (.call .is_blank ⟨359,29,359,37⟩ (.cons (.idx (.loc 0 ⟨359,38,359,42⟩) (.loc 1 ⟨359,43,359,45⟩) ⟨359,38,359,46⟩) .nil) ⟨359,29,359,47⟩) .nil)) ⟨359,10,359,47⟩)
noncomputable def w_find_element_0 : Sts := (.cons (.aug 1 ⟨360,8,360,10⟩ .add (.int 1 ⟨360,14,360,15⟩) ⟨360,8,360,15⟩)
  .nil)
noncomputable def b_find_element : Sts := (.cons (.while t_find_element_0 w_find_element_0 ⟨359,4,360,15⟩)
  (.cons (.ite (.cmp .ge (.loc 1 ⟨361,7,361,9⟩) (.bi .len ⟨361,13,361,16⟩ (.cons (.loc 0 ⟨361,17,361,21⟩) .nil) ⟨361,13,361,22⟩) ⟨361,7,361,22⟩) (.cons (.ret (.none ⟨362,15,362,19⟩) ⟨362,8,362,19⟩)
  .nil) .nil ⟨361,4,362,19⟩)
  (.cons (.ite (.cmp .eq (.idx (.loc 0 ⟨363,7,363,11⟩) (.loc 1 ⟨363,12,363,14⟩) ⟨363,7,363,15⟩) (.str "{" [123] ⟨363,19,363,22⟩) ⟨363,7,363,22⟩) (.cons (.ret (.call .braced_element ⟨364,15,364,29⟩ (.cons (.loc 0 ⟨364,30,364,34⟩) (.cons (.bin .add (.loc 1 ⟨364,36,364,38⟩) (.int 1 ⟨364,41,364,42⟩) ⟨364,36,364,42⟩) .nil)) ⟨364,15,364,43⟩) ⟨364,8,364,43⟩)
  .nil) .nil ⟨363,4,364,43⟩)
  (.cons (.ite (.cmp .eq (.idx (.loc 0 ⟨365,7,365,11⟩) (.loc 1 ⟨365,12,365,14⟩) ⟨365,7,365,15⟩) (.str "\"" [34] ⟨365,19,365,22⟩) ⟨365,7,365,22⟩) (.cons (.ret (.call .quoted_element ⟨366,15,366,29⟩ (.cons (.loc 0 ⟨366,30,366,34⟩) (.cons (.bin .add (.loc 1 ⟨366,36,366,38⟩) (.int 1 ⟨366,41,366,42⟩) ⟨366,36,366,42⟩) .nil)) ⟨366,15,366,43⟩) ⟨366,8,366,43⟩)
  .nil) .nil ⟨365,4,366,43⟩)
  (.cons (.ret (.call .bare_element ⟨367,11,367,23⟩ (.cons (.loc 0 ⟨367,24,367,28⟩) (.cons (.loc 1 ⟨367,30,367,32⟩) .nil)) ⟨367,11,367,33⟩) ⟨367,4,367,33⟩)
  .nil)))))
noncomputable def n_split_list : List Str := [Str.ofString "text", Str.ofString "items", Str.ofString "found"]
noncomputable def t_split_list_0 : Ex := (.cmp .isnot (.loc 2 ⟨371,10,371,15⟩) (.none ⟨371,23,371,27⟩) ⟨371,10,371,27⟩)
noncomputable def w_split_list_0 : Sts := (.cons (.expr (.meth (.loc 1 ⟨372,8,372,13⟩) .append ⟨372,8,372,20⟩ (.cons (.idx (.loc 2 ⟨372,21,372,26⟩) (.int 0 ⟨372,27,372,28⟩) ⟨372,21,372,29⟩) .nil) ⟨372,8,372,30⟩) ⟨372,8,372,30⟩)
  (.cons (.assign 2 ⟨373,8,373,13⟩ (.call .find_element ⟨373,16,373,28⟩ (.cons (.loc 0 ⟨373,29,373,33⟩) (.cons (.idx (.loc 2 ⟨373,35,373,40⟩) (.int 1 ⟨373,41,373,42⟩) ⟨373,35,373,43⟩) .nil)) ⟨373,16,373,44⟩) ⟨373,8,373,44⟩)
  .nil))
noncomputable def b_split_list : Sts := (.cons (.assign 1 ⟨369,4,369,9⟩ (.list .nil ⟨369,12,369,14⟩) ⟨369,4,369,14⟩)
  (.cons (.assign 2 ⟨370,4,370,9⟩ (.call .find_element ⟨370,12,370,24⟩ (.cons (.loc 0 ⟨370,25,370,29⟩) (.cons (.int 0 ⟨370,31,370,32⟩) .nil)) ⟨370,12,370,33⟩) ⟨370,4,370,33⟩)
  (.cons (.while t_split_list_0 w_split_list_0 ⟨371,4,373,44⟩)
  (.cons (.ret (.loc 1 ⟨374,11,374,16⟩) ⟨374,4,374,16⟩)
  .nil))))
noncomputable def n_mode_of : List Str := [Str.ofString "element", Str.ofString "is_hash", Str.ofString "begins", Str.ofString "is_bound", Str.ofString "is_hashed", Str.ofString "wants_brace", Str.ofString "wants_escape", Str.ofString "depth", Str.ofString "at", Str.ofString "c"]
noncomputable def t_mode_of_0 : Ex := (.cmp .lt (.loc 8 ⟨384,10,384,12⟩) (.bi .len ⟨384,15,384,18⟩ (.cons (.loc 0 ⟨384,19,384,26⟩) .nil) ⟨384,15,384,27⟩) ⟨384,10,384,27⟩)
noncomputable def w_mode_of_0 : Sts := (.cons (.assign 9 ⟨385,8,385,9⟩ (.idx (.loc 0 ⟨385,12,385,19⟩) (.loc 8 ⟨385,20,385,22⟩) ⟨385,12,385,23⟩) ⟨385,8,385,23⟩)
  (.cons (.aug 8 ⟨386,8,386,10⟩ .add (.int 1 ⟨386,14,386,15⟩) ⟨386,8,386,15⟩)
  (.cons (.ite (.cmp .eq (.loc 9 ⟨387,11,387,12⟩) (.str "{" [123] ⟨387,16,387,19⟩) ⟨387,11,387,19⟩) (.cons (.aug 7 ⟨388,12,388,17⟩ .add (.int 1 ⟨388,21,388,22⟩) ⟨388,12,388,22⟩)
  .nil) (.cons (.ite (.cmp .eq (.loc 9 ⟨389,13,389,14⟩) (.str "}" [125] ⟨389,18,389,21⟩) ⟨389,13,389,21⟩) (.cons (.aug 7 ⟨390,12,390,17⟩ .sub (.int 1 ⟨390,21,390,22⟩) ⟨390,12,390,22⟩)
  (.cons (.ite (.cmp .lt (.loc 7 ⟨391,15,391,20⟩) (.int 0 ⟨391,23,391,24⟩) ⟨391,15,391,24⟩) (.cons (.ret (.str "escape" [101, 115, 99, 97, 112, 101] ⟨392,23,392,31⟩) ⟨392,16,392,31⟩)
  .nil) .nil ⟨391,12,392,31⟩)
  .nil)) (.cons (.ite (.cmp .isin (.loc 9 ⟨393,13,393,14⟩) (.tup (.cons (.str "]" [93] ⟨393,19,393,22⟩) (.cons (.str "\"" [34] ⟨393,24,393,27⟩) .nil)) ⟨393,18,393,28⟩) ⟨393,13,393,28⟩) (.cons (.assign 3 ⟨394,12,394,20⟩ (.bool true ⟨394,23,394,27⟩) ⟨394,12,394,27⟩)
  (.cons (.assign 6 ⟨395,12,395,24⟩ (.bool true ⟨395,27,395,31⟩) ⟨395,12,395,31⟩)
  .nil)) (.cons (.ite (.bop false (.cons (.cmp .isin (.loc 9 ⟨396,13,396,14⟩) (.tup (.cons (.str "[" [91] ⟨396,19,396,22⟩) (.cons (.str "$" [36] ⟨396,24,396,27⟩) (.cons (.str ";" [59] ⟨396,29,396,32⟩) (.cons (.str "\\" [92] ⟨396,34,396,38⟩) .nil)))) ⟨396,18,396,39⟩) ⟨396,13,396,39⟩) (.cons (.call .is_blank ⟨396,43,396,51⟩ (.cons (.loc 9 ⟨396,52,396,53⟩) .nil) ⟨396,43,396,54⟩) .nil)) ⟨396,13,396,54⟩) (.cons (.assign 3 ⟨397,12,397,20⟩ (.bool true ⟨397,23,397,27⟩) ⟨397,12,397,27⟩)
  (.cons (.assign 5 ⟨398,12,398,23⟩ (.bool true ⟨398,26,398,30⟩) ⟨398,12,398,30⟩)
  (.cons (.ite (.cmp .eq (.loc 9 ⟨399,15,399,16⟩) (.str "\\" [92] ⟨399,20,399,24⟩) ⟨399,15,399,24⟩) (.cons (.ite (.bop false (.cons (.cmp .eq (.loc 8 ⟨400,19,400,21⟩) (.bi .len ⟨400,25,400,28⟩ (.cons (.loc 0 ⟨400,29,400,36⟩) .nil) ⟨400,25,400,37⟩) ⟨400,19,400,37⟩) (.cons (.cmp .eq (.idx (.loc 0 ⟨400,41,400,48⟩) (.loc 8 ⟨400,49,400,51⟩) ⟨400,41,400,52⟩) (.str "\n" [10] ⟨400,56,400,60⟩) ⟨400,41,400,60⟩) .nil)) ⟨400,19,400,60⟩) (.cons (.ret (.str "escape" [101, 115, 99, 97, 112, 101] ⟨401,27,401,35⟩) ⟨401,20,401,35⟩)
  .nil) .nil ⟨400,16,401,35⟩)
  (.cons (.ite (.cmp .isin (.idx (.loc 0 ⟨402,19,402,26⟩) (.loc 8 ⟨402,27,402,29⟩) ⟨402,19,402,30⟩) (.tup (.cons (.str "{" [123] ⟨402,35,402,38⟩) (.cons (.str "}" [125] ⟨402,40,402,43⟩) (.cons (.str "\\" [92] ⟨402,45,402,49⟩) .nil))) ⟨402,34,402,50⟩) ⟨402,19,402,50⟩) (.cons (.aug 8 ⟨403,20,403,22⟩ .add (.int 1 ⟨403,26,403,27⟩) ⟨403,20,403,27⟩)
  .nil) .nil ⟨402,16,403,27⟩)
  .nil)) .nil ⟨399,12,403,27⟩)
  .nil))) .nil ⟨396,8,403,27⟩)
  .nil) ⟨393,8,403,27⟩)
  .nil) ⟨389,8,403,27⟩)
  .nil) ⟨387,8,403,27⟩)
  .nil)))
noncomputable def b_mode_of : Sts := (.cons (.ite (.cmp .eq (.loc 0 ⟨376,7,376,14⟩) (.str "" [] ⟨376,18,376,20⟩) ⟨376,7,376,20⟩) (.cons (.ret (.str "brace" [98, 114, 97, 99, 101] ⟨377,15,377,22⟩) ⟨377,8,377,22⟩)
  .nil) .nil ⟨376,4,377,22⟩)
  (.cons (.assign 2 ⟨378,4,378,10⟩ (.idx (.loc 0 ⟨378,13,378,20⟩) (.int 0 ⟨378,21,378,22⟩) ⟨378,13,378,23⟩) ⟨378,4,378,23⟩)
  (.cons (.assign 3 ⟨379,4,379,12⟩ (.cmp .isin (.loc 2 ⟨379,15,379,21⟩) (.tup (.cons (.str "{" [123] ⟨379,26,379,29⟩) (.cons (.str "\"" [34] ⟨379,31,379,34⟩) .nil)) ⟨379,25,379,35⟩) ⟨379,15,379,35⟩) ⟨379,4,379,35⟩)
  (.cons (.assign 4 ⟨380,4,380,13⟩ (.bop true (.cons (.loc 1 ⟨380,16,380,23⟩) (.cons (.cmp .eq (.loc 2 ⟨380,28,380,34⟩) (.str "#" [35] ⟨380,38,380,41⟩) ⟨380,28,380,41⟩) .nil)) ⟨380,16,380,41⟩) ⟨380,4,380,41⟩)
  (.cons (.assign 5 ⟨381,4,381,15⟩ (.bop false (.cons (.loc 3 ⟨381,18,381,26⟩) (.cons (.loc 4 ⟨381,30,381,39⟩) .nil)) ⟨381,18,381,39⟩) ⟨381,4,381,39⟩)
  (.cons (.assign 6 ⟨382,4,382,16⟩ (.bool false ⟨382,19,382,24⟩) ⟨382,4,382,24⟩)
  (.cons (.assignD 7 ⟨383,4,383,9⟩ 8 ⟨383,11,383,13⟩ ⟨383,4,383,13⟩ (.int 0 ⟨383,17,383,18⟩) (.int 0 ⟨383,20,383,21⟩) ⟨383,16,383,22⟩ ⟨383,4,383,22⟩)
  (.cons (.while t_mode_of_0 w_mode_of_0 ⟨384,4,403,27⟩)
  (.cons (.ite (.cmp .gt (.loc 7 ⟨404,7,404,12⟩) (.int 0 ⟨404,15,404,16⟩) ⟨404,7,404,16⟩) (.cons (.ret (.str "escape" [101, 115, 99, 97, 112, 101] ⟨405,15,405,23⟩) ⟨405,8,405,23⟩)
  .nil) .nil ⟨404,4,405,23⟩)
  (.cons (.ite (.loc 3 ⟨406,7,406,15⟩) (.cons (.ret (.ite (.bop true (.cons (.loc 6 ⟨407,25,407,37⟩) (.cons (.not (.loc 5 ⟨407,47,407,58⟩) ⟨407,43,407,58⟩) .nil)) ⟨407,25,407,59⟩) (.str "mask" [109, 97, 115, 107] ⟨407,15,407,21⟩) (.str "brace" [98, 114, 97, 99, 101] ⟨407,65,407,72⟩) ⟨407,15,407,72⟩) ⟨407,8,407,72⟩)
  .nil) .nil ⟨406,4,407,72⟩)
  (.cons (.ret (.ite (.loc 4 ⟨408,22,408,31⟩) (.str "brace" [98, 114, 97, 99, 101] ⟨408,11,408,18⟩) (.str "none" [110, 111, 110, 101] ⟨408,37,408,43⟩) ⟨408,11,408,43⟩) ⟨408,4,408,43⟩)
  .nil)))))))))))
noncomputable def n_escaped : List Str := [Str.ofString "c", Str.ofString "is_deep", Str.ofString "place"]
noncomputable def b_escaped : Sts := (.cons (.assign 2 ⟨410,4,410,9⟩ (.meth (.str "\x0c\n\x0d\t\x0b" [12, 10, 13, 9, 11] ⟨410,12,410,28⟩) .find ⟨410,12,410,33⟩ (.cons (.loc 0 ⟨410,34,410,35⟩) .nil) ⟨410,12,410,36⟩) ⟨410,4,410,36⟩)
  (.cons (.ite (.cmp .ge (.loc 2 ⟨411,7,411,12⟩) (.int 0 ⟨411,16,411,17⟩) ⟨411,7,411,17⟩) (.cons (.ret (.bin .add (.str "\\" [92] ⟨412,15,412,19⟩) (.idx (.str "fnrtv" [102, 110, 114, 116, 118] ⟨412,22,412,29⟩) (.loc 2 ⟨412,30,412,35⟩) ⟨412,22,412,36⟩) ⟨412,15,412,36⟩) ⟨412,8,412,36⟩)
  .nil) .nil ⟨411,4,412,36⟩)
  (.cons (.ite (.bop false (.cons (.cmp .isin (.loc 0 ⟨413,7,413,8⟩) (.tup (.cons (.str "]" [93] ⟨413,13,413,16⟩) (.cons (.str "[" [91] ⟨413,18,413,21⟩) (.cons (.str "$" [36] ⟨413,23,413,26⟩) (.cons (.str ";" [59] ⟨413,28,413,31⟩) (.cons (.str " " [32] ⟨413,33,413,36⟩) (.cons (.str "\\" [92] ⟨413,38,413,42⟩) (.cons (.str "\"" [34] ⟨413,44,413,47⟩) .nil))))))) ⟨413,12,413,48⟩) ⟨413,7,413,48⟩) (.cons (.bop true (.cons (.loc 1 ⟨413,53,413,60⟩) (.cons (.cmp .isin (.loc 0 ⟨413,65,413,66⟩) (.tup (.cons (.str "{" [123] ⟨413,71,413,74⟩) (.cons (.str "}" [125] ⟨413,76,413,79⟩) .nil)) ⟨413,70,413,80⟩) ⟨413,65,413,80⟩) .nil)) ⟨413,53,413,80⟩) .nil)) ⟨413,7,413,81⟩) (.cons (.ret (.bin .add (.str "\\" [92] ⟨414,15,414,19⟩) (.loc 0 ⟨414,22,414,23⟩) ⟨414,15,414,23⟩) ⟨414,8,414,23⟩)
  .nil) .nil ⟨413,4,414,23⟩)
  (.cons (.ret (.loc 0 ⟨415,11,415,12⟩) ⟨415,4,415,12⟩)
  .nil))))
noncomputable def n_quote : List Str := [Str.ofString "element", Str.ofString "is_hash", Str.ofString "mode", Str.ofString "out", Str.ofString "c"]
noncomputable def w_quote_0 : Sts := (.cons (.expr (.meth (.loc 3 ⟨426,8,426,11⟩) .append ⟨426,8,426,18⟩ (.cons (.call .escaped ⟨426,19,426,26⟩ (.cons (.loc 4 ⟨426,27,426,28⟩) (.cons (.cmp .eq (.loc 2 ⟨426,30,426,34⟩) (.str "escape" [101, 115, 99, 97, 112, 101] ⟨426,38,426,46⟩) ⟨426,30,426,46⟩) .nil)) ⟨426,19,426,47⟩) .nil) ⟨426,8,426,48⟩) ⟨426,8,426,48⟩)
  .nil)
noncomputable def b_quote : Sts := (.cons (.assign 2 ⟨417,4,417,8⟩ (.call .mode_of ⟨417,11,417,18⟩ (.cons (.loc 0 ⟨417,19,417,26⟩) (.cons (.loc 1 ⟨417,28,417,35⟩) .nil)) ⟨417,11,417,36⟩) ⟨417,4,417,36⟩)
  (.cons (.ite (.cmp .eq (.loc 2 ⟨418,7,418,11⟩) (.str "none" [110, 111, 110, 101] ⟨418,15,418,21⟩) ⟨418,7,418,21⟩) (.cons (.ret (.loc 0 ⟨419,15,419,22⟩) ⟨419,8,419,22⟩)
  .nil) .nil ⟨418,4,419,22⟩)
  (.cons (.ite (.cmp .eq (.loc 2 ⟨420,7,420,11⟩) (.str "brace" [98, 114, 97, 99, 101] ⟨420,15,420,22⟩) ⟨420,7,420,22⟩) (.cons (.ret (.bin .add (.bin .add (.str "{" [123] ⟨421,15,421,18⟩) (.loc 0 ⟨421,21,421,28⟩) ⟨421,15,421,28⟩) (.str "}" [125] ⟨421,31,421,34⟩) ⟨421,15,421,34⟩) ⟨421,8,421,34⟩)
  .nil) .nil ⟨420,4,421,34⟩)
  (.cons (.assign 3 ⟨422,4,422,7⟩ (.list .nil ⟨422,10,422,12⟩) ⟨422,4,422,12⟩)
  (.cons (.ite (.bop true (.cons (.loc 1 ⟨423,7,423,14⟩) (.cons (.cmp .eq (.idx (.loc 0 ⟨423,19,423,26⟩) (.int 0 ⟨423,27,423,28⟩) ⟨423,19,423,29⟩) (.str "#" [35] ⟨423,33,423,36⟩) ⟨423,19,423,36⟩) .nil)) ⟨423,7,423,36⟩) (.cons (.expr (.meth (.loc 3 ⟨424,8,424,11⟩) .append ⟨424,8,424,18⟩ (.cons (.str "\\" [92] ⟨424,19,424,23⟩) .nil) ⟨424,8,424,24⟩) ⟨424,8,424,24⟩)
  .nil) .nil ⟨423,4,424,24⟩)
  (.cons (.for 4 ⟨425,8,425,9⟩ (.loc 0 ⟨425,13,425,20⟩) w_quote_0 ⟨425,4,426,48⟩)
  (.cons (.ret (.meth (.str "" [] ⟨427,11,427,13⟩) .join ⟨427,11,427,18⟩ (.cons (.loc 3 ⟨427,19,427,22⟩) .nil) ⟨427,11,427,23⟩) ⟨427,4,427,23⟩)
  .nil)))))))
noncomputable def n_join_list : List Str := [Str.ofString "items", Str.ofString "out", Str.ofString "item"]
noncomputable def w_join_list_0 : Sts := (.cons (.expr (.meth (.loc 1 ⟨431,8,431,11⟩) .append ⟨431,8,431,18⟩ (.cons (.call .quote ⟨431,19,431,24⟩ (.cons (.loc 2 ⟨431,25,431,29⟩) (.cons (.cmp .eq (.bi .len ⟨431,31,431,34⟩ (.cons (.loc 1 ⟨431,35,431,38⟩) .nil) ⟨431,31,431,39⟩) (.int 0 ⟨431,43,431,44⟩) ⟨431,31,431,44⟩) .nil)) ⟨431,19,431,45⟩) .nil) ⟨431,8,431,46⟩) ⟨431,8,431,46⟩)
  .nil)
noncomputable def b_join_list : Sts := (.cons (.assign 1 ⟨429,4,429,7⟩ (.list .nil ⟨429,10,429,12⟩) ⟨429,4,429,12⟩)
  (.cons (.for 2 ⟨430,8,430,12⟩ (.loc 0 ⟨430,16,430,21⟩) w_join_list_0 ⟨430,4,431,46⟩)
  (.cons (.ret (.meth (.str " " [32] ⟨432,11,432,14⟩) .join ⟨432,11,432,19⟩ (.cons (.loc 1 ⟨432,20,432,23⟩) .nil) ⟨432,11,432,24⟩) ⟨432,4,432,24⟩)
  .nil)))
noncomputable def n_text_of : List Str := [Str.ofString "host", Str.ofString "parts", Str.ofString "made", Str.ofString "part", Str.ofString "index"]
noncomputable def w_text_of_0 : Sts := (.cons (.ite (.cmp .eq (.idx (.loc 3 ⟨447,11,447,15⟩) (.int 0 ⟨447,16,447,17⟩) ⟨447,11,447,18⟩) (.str "text" [116, 101, 120, 116] ⟨447,22,447,28⟩) ⟨447,11,447,28⟩) (.cons (.expr (.meth (.loc 2 ⟨448,12,448,16⟩) .append ⟨448,12,448,23⟩ (.cons (.idx (.loc 3 ⟨448,24,448,28⟩) (.int 1 ⟨448,29,448,30⟩) ⟨448,24,448,31⟩) .nil) ⟨448,12,448,32⟩) ⟨448,12,448,32⟩)
  .nil) (.cons (.ite (.cmp .eq (.idx (.loc 3 ⟨449,13,449,17⟩) (.int 0 ⟨449,18,449,19⟩) ⟨449,13,449,20⟩) (.str "cmd" [99, 109, 100] ⟨449,24,449,29⟩) ⟨449,13,449,29⟩) (.cons (.raw (Stmt.Expr (Expr.Call (Expr.Attribute (Expr.Name "made" ⟨450,12,450,16⟩) "append" ⟨450,12,450,23⟩) [(Expr.Call (Expr.Attribute (Expr.Name "host" ⟨450,24,450,28⟩) "run" ⟨450,24,450,32⟩) [(Expr.Subscript (Expr.Name "part" ⟨450,33,450,37⟩) (Expr.Constant (.int 1) 0 ⟨450,38,450,39⟩) ⟨450,33,450,40⟩)] [] ⟨450,24,450,41⟩)] [] ⟨450,12,450,42⟩) ⟨450,12,450,42⟩))
  .nil) (.cons (.ite (.cmp .is (.idx (.loc 3 ⟨451,13,451,17⟩) (.int 2 ⟨451,18,451,19⟩) ⟨451,13,451,20⟩) (.none ⟨451,24,451,28⟩) ⟨451,13,451,28⟩) (.cons (.raw (Stmt.Expr (Expr.Call (Expr.Attribute (Expr.Name "made" ⟨452,12,452,16⟩) "append" ⟨452,12,452,23⟩) [(Expr.Call (Expr.Attribute (Expr.Name "host" ⟨452,24,452,28⟩) "read" ⟨452,24,452,33⟩) [(Expr.Subscript (Expr.Name "part" ⟨452,34,452,38⟩) (Expr.Constant (.int 1) 0 ⟨452,39,452,40⟩) ⟨452,34,452,41⟩)] [] ⟨452,24,452,42⟩)] [] ⟨452,12,452,43⟩) ⟨452,12,452,43⟩))
  .nil) (.cons (.assign 4 ⟨454,12,454,17⟩ (.call .text_of ⟨454,20,454,27⟩ (.cons (.loc 0 ⟨454,28,454,32⟩) (.cons (.idx (.loc 3 ⟨454,34,454,38⟩) (.int 2 ⟨454,39,454,40⟩) ⟨454,34,454,41⟩) .nil)) ⟨454,20,454,42⟩) ⟨454,12,454,42⟩)
  (.cons (.raw (Stmt.Expr (Expr.Call (Expr.Attribute (Expr.Name "made" ⟨455,12,455,16⟩) "append" ⟨455,12,455,23⟩) [(Expr.Call (Expr.Attribute (Expr.Name "host" ⟨455,24,455,28⟩) "read" ⟨455,24,455,33⟩) [(Expr.BinOp (Expr.BinOp (Expr.BinOp (Expr.Subscript (Expr.Name "part" ⟨455,34,455,38⟩) (Expr.Constant (.int 1) 0 ⟨455,39,455,40⟩) ⟨455,34,455,41⟩) .Add (Expr.Constant (.str "(") 0 ⟨455,44,455,47⟩) ⟨455,34,455,47⟩) .Add (Expr.Name "index" ⟨455,50,455,55⟩) ⟨455,34,455,55⟩) .Add (Expr.Constant (.str ")") 0 ⟨455,58,455,61⟩) ⟨455,34,455,61⟩)] [] ⟨455,24,455,62⟩)] [] ⟨455,12,455,63⟩) ⟨455,12,455,63⟩))
  .nil)) ⟨451,8,455,63⟩)
  .nil) ⟨449,8,455,63⟩)
  .nil) ⟨447,8,455,63⟩)
  .nil)
noncomputable def b_text_of : Sts := (.cons (.assign 2 ⟨445,4,445,8⟩ (.list .nil ⟨445,11,445,13⟩) ⟨445,4,445,13⟩)
  (.cons (.for 3 ⟨446,8,446,12⟩ (.loc 1 ⟨446,16,446,21⟩) w_text_of_0 ⟨446,4,455,63⟩)
  (.cons (.ret (.meth (.str "" [] ⟨456,11,456,13⟩) .join ⟨456,11,456,18⟩ (.cons (.loc 2 ⟨456,19,456,23⟩) .nil) ⟨456,11,456,24⟩) ⟨456,4,456,24⟩)
  .nil)))
noncomputable def n_words_of : List Str := [Str.ofString "host", Str.ofString "words", Str.ofString "made", Str.ofString "word", Str.ofString "text"]
noncomputable def w_words_of_0 : Sts := (.cons (.assign 4 ⟨460,8,460,12⟩ (.call .text_of ⟨460,15,460,22⟩ (.cons (.loc 0 ⟨460,23,460,27⟩) (.cons (.idx (.loc 3 ⟨460,29,460,33⟩) (.int 1 ⟨460,34,460,35⟩) ⟨460,29,460,36⟩) .nil)) ⟨460,15,460,37⟩) ⟨460,8,460,37⟩)
  (.cons (.ite (.idx (.loc 3 ⟨461,11,461,15⟩) (.int 0 ⟨461,16,461,17⟩) ⟨461,11,461,18⟩) (.cons (.expr (.meth (.loc 2 ⟨462,12,462,16⟩) .extend ⟨462,12,462,23⟩ (.cons (.call .split_list ⟨462,24,462,34⟩ (.cons (.loc 4 ⟨462,35,462,39⟩) .nil) ⟨462,24,462,40⟩) .nil) ⟨462,12,462,41⟩) ⟨462,12,462,41⟩)
  .nil) (.cons (.expr (.meth (.loc 2 ⟨464,12,464,16⟩) .append ⟨464,12,464,23⟩ (.cons (.loc 4 ⟨464,24,464,28⟩) .nil) ⟨464,12,464,29⟩) ⟨464,12,464,29⟩)
  .nil) ⟨461,8,464,29⟩)
  .nil))
noncomputable def b_words_of : Sts := (.cons (.assign 2 ⟨458,4,458,8⟩ (.list .nil ⟨458,11,458,13⟩) ⟨458,4,458,13⟩)
  (.cons (.for 3 ⟨459,8,459,12⟩ (.loc 1 ⟨459,16,459,21⟩) w_words_of_0 ⟨459,4,464,29⟩)
  (.cons (.ret (.loc 2 ⟨465,11,465,15⟩) ⟨465,4,465,15⟩)
  .nil)))
noncomputable def n_run_script : List Str := [Str.ofString "host", Str.ofString "text", Str.ofString "result", Str.ofString "begin", Str.ofString "end", Str.ofString "raised", Str.ofString "command", Str.ofString "words", Str.ofString "behind"]
noncomputable def t_run_script_0 : Ex := (.cmp .isnot (.loc 6 ⟨479,14,479,21⟩) (.none ⟨479,29,479,33⟩) ⟨479,14,479,33⟩)
noncomputable def w_run_script_0 : Sts := (.cons (.assignT [(7, ⟨480,12,480,17⟩), (3, ⟨480,19,480,24⟩), (4, ⟨480,26,480,29⟩), (8, ⟨480,31,480,37⟩)] ⟨480,12,480,37⟩ (.loc 6 ⟨480,40,480,47⟩) ⟨480,12,480,47⟩)
  (.cons (.assign 2 ⟨481,12,481,18⟩ (.meth (.loc 0 ⟨481,21,481,25⟩) .call ⟨481,21,481,30⟩ (.cons (.call .words_of ⟨481,31,481,39⟩ (.cons (.loc 0 ⟨481,40,481,44⟩) (.cons (.loc 7 ⟨481,46,481,51⟩) .nil)) ⟨481,31,481,52⟩) .nil) ⟨481,21,481,53⟩) ⟨481,12,481,53⟩)
  (.cons (.assign 3 ⟨482,12,482,17⟩ (.loc 8 ⟨482,20,482,26⟩) ⟨482,12,482,26⟩)
  (.cons (.assign 4 ⟨483,12,483,15⟩ (.bi .len ⟨483,18,483,21⟩ (.cons (.loc 1 ⟨483,22,483,26⟩) .nil) ⟨483,18,483,27⟩) ⟨483,12,483,27⟩)
  (.cons (.assign 6 ⟨484,12,484,19⟩ (.call .command_at ⟨484,22,484,32⟩ (.cons (.loc 1 ⟨484,33,484,37⟩) (.cons (.loc 8 ⟨484,39,484,45⟩) .nil)) ⟨484,22,484,46⟩) ⟨484,12,484,46⟩)
  .nil)))))
noncomputable def b_run_script : Sts := (.cons (.assign 2 ⟨474,4,474,10⟩ (.str "" [] ⟨474,13,474,15⟩) ⟨474,4,474,15⟩)
  (.cons (.assign 3 ⟨475,4,475,9⟩ (.int 0 ⟨475,12,475,13⟩) ⟨475,4,475,13⟩)
  (.cons (.assign 4 ⟨476,4,476,7⟩ (.bi .len ⟨476,10,476,13⟩ (.cons (.loc 1 ⟨476,14,476,18⟩) .nil) ⟨476,10,476,19⟩) ⟨476,4,476,19⟩)
  (.cons (.tri (.cons (.assign 6 ⟨478,8,478,15⟩ (.call .command_at ⟨478,18,478,28⟩ (.cons (.loc 1 ⟨478,29,478,33⟩) (.cons (.int 0 ⟨478,35,478,36⟩) .nil)) ⟨478,18,478,37⟩) ⟨478,8,478,37⟩)
  (.cons (.while t_run_script_0 w_run_script_0 ⟨479,8,484,46⟩)
  .nil)) [ExceptHandler.ExceptHandler (some (Expr.Name "Raised" ⟨485,11,485,17⟩)) (some "raised") [(Stmt.Expr (Expr.Call (Expr.Name "blame" ⟨486,8,486,13⟩) [(Expr.Name "raised" ⟨486,14,486,20⟩), (Expr.Name "text" ⟨486,22,486,26⟩), (Expr.Name "begin" ⟨486,28,486,33⟩), (Expr.Name "end" ⟨486,35,486,38⟩)] [] ⟨486,8,486,39⟩) ⟨486,8,486,39⟩), (Stmt.Raise (some (Expr.Name "raised" ⟨487,14,487,20⟩)) none ⟨487,8,487,20⟩)] ⟨485,4,487,20⟩] ⟨477,4,487,20⟩)
  (.cons (.ret (.loc 2 ⟨488,11,488,17⟩) ⟨488,4,488,17⟩)
  .nil)))))
noncomputable def n_act : List Str := [Str.ofString "host", Str.ofString "words", Str.ofString "action", Str.ofString "data"]
noncomputable def b_act : Sts := (.cons (.ite (.cmp .is (.loc 3 ⟨577,7,577,11⟩) (.none ⟨577,15,577,19⟩) ⟨577,7,577,19⟩) (.cons (.ret (.callL 2 ⟨578,15,578,21⟩ (.cons (.loc 0 ⟨578,22,578,26⟩) (.cons (.loc 1 ⟨578,28,578,33⟩) .nil)) ⟨578,15,578,34⟩) ⟨578,8,578,34⟩)
  .nil) .nil ⟨577,4,578,34⟩)
  (.cons (.ret (.callL 2 ⟨579,11,579,17⟩ (.cons (.loc 0 ⟨579,18,579,22⟩) (.cons (.loc 1 ⟨579,24,579,29⟩) (.cons (.loc 3 ⟨579,31,579,35⟩) .nil))) ⟨579,11,579,36⟩) ⟨579,4,579,36⟩)
  .nil))
noncomputable def n_hostInit : List Str := [Str.ofString "self", Str.ofString "limit", Str.ofString "fuel"]
noncomputable def b_hostInit : Sts := (.cons (.setAttr (.loc 0 ⟨492,8,492,12⟩) .tools ⟨492,8,492,18⟩ (.dict0 ⟨492,21,492,23⟩) ⟨492,8,492,23⟩)
  (.cons (.setAttr (.loc 0 ⟨493,8,493,12⟩) .inline ⟨493,8,493,19⟩ (.dict0 ⟨493,22,493,24⟩) ⟨493,8,493,24⟩)
  (.cons (.setAttr (.loc 0 ⟨494,8,494,12⟩) .limit ⟨494,8,494,18⟩ (.loc 1 ⟨494,21,494,26⟩) ⟨494,8,494,26⟩)
  (.cons (.setAttr (.loc 0 ⟨495,8,495,12⟩) .fuel ⟨495,8,495,17⟩ (.loc 2 ⟨495,20,495,24⟩) ⟨495,8,495,24⟩)
  (.cons (.setAttr (.loc 0 ⟨496,8,496,12⟩) .depth ⟨496,8,496,18⟩ (.int 0 ⟨496,21,496,22⟩) ⟨496,8,496,22⟩)
  (.cons (.setAttr (.loc 0 ⟨497,8,497,12⟩) .spent ⟨497,8,497,18⟩ (.int 0 ⟨497,21,497,22⟩) ⟨497,8,497,22⟩)
  (.cons (.setAttr (.loc 0 ⟨498,8,498,12⟩) .epoch ⟨498,8,498,18⟩ (.int 0 ⟨498,21,498,22⟩) ⟨498,8,498,22⟩)
  (.cons (.setAttr (.loc 0 ⟨499,8,499,12⟩) .frame ⟨499,8,499,18⟩ (.none ⟨499,21,499,25⟩) ⟨499,8,499,25⟩)
  (.cons (.setAttr (.loc 0 ⟨500,8,500,12⟩) .coroutine ⟨500,8,500,22⟩ (.none ⟨500,25,500,29⟩) ⟨500,8,500,29⟩)
  .nil)))))))))
noncomputable def n_spend : List Str := [Str.ofString "self"]
noncomputable def b_spend : Sts := (.cons (.augAttr 0 ⟨508,8,508,12⟩ .spent ⟨508,8,508,18⟩ .add (.int 1 ⟨508,22,508,23⟩) ⟨508,8,508,23⟩)
  (.cons (.ite (.bop true (.cons (.cmp .isnot (.attr (.loc 0 ⟨509,11,509,15⟩) .fuel ⟨509,11,509,20⟩) (.none ⟨509,28,509,32⟩) ⟨509,11,509,32⟩) (.cons (.cmp .gt (.attr (.loc 0 ⟨509,37,509,41⟩) .spent ⟨509,37,509,47⟩) (.attr (.loc 0 ⟨509,50,509,54⟩) .fuel ⟨509,50,509,59⟩) ⟨509,37,509,59⟩) .nil)) ⟨509,11,509,59⟩) (.cons (.raw (Stmt.Raise (some (Expr.Call (Expr.Name "OutOfFuel" ⟨510,18,510,27⟩) [(Expr.Constant (.str "the script spent all its fuel") 0 ⟨510,28,510,59⟩)] [] ⟨510,18,510,60⟩)) none ⟨510,12,510,60⟩))
  .nil) .nil ⟨509,8,510,60⟩)
  .nil))
noncomputable def n_call : List Str := [Str.ofString "self", Str.ofString "words", Str.ofString "got"]
noncomputable def b_call : Sts := (.cons (.ite (.not (.loc 1 ⟨529,15,529,20⟩) ⟨529,11,529,20⟩) (.cons (.ret (.str "" [] ⟨530,19,530,21⟩) ⟨530,12,530,21⟩)
  .nil) .nil ⟨529,8,530,21⟩)
  (.cons (.assign 2 ⟨531,8,531,11⟩ (.meth (.loc 0 ⟨531,14,531,18⟩) .begin ⟨531,14,531,24⟩ (.cons (.loc 1 ⟨531,25,531,30⟩) .nil) ⟨531,14,531,31⟩) ⟨531,8,531,31⟩)
  (.cons (.ite (.isi 2 .nest ⟨532,11,532,21⟩ ⟨532,22,532,25⟩ ⟨532,27,532,31⟩ ⟨532,11,532,32⟩) (.cons (.raw (Stmt.Return (some (Expr.Call (Expr.Attribute (Expr.Name "self" ⟨533,19,533,23⟩) "finish" ⟨533,19,533,30⟩) [(Expr.Name "got" ⟨533,31,533,34⟩)] [] ⟨533,19,533,35⟩)) ⟨533,12,533,35⟩))
  .nil) .nil ⟨532,8,533,35⟩)
  (.cons (.ite (.isi 2 .pause ⟨534,11,534,21⟩ ⟨534,22,534,25⟩ ⟨534,27,534,32⟩ ⟨534,11,534,33⟩) (.cons (.raw (Stmt.Raise (some (Expr.Call (Expr.Name "error" ⟨535,18,535,23⟩) [(Expr.Constant (.str "cannot yield: C stack busy") 0 ⟨535,24,535,52⟩), (Expr.Tuple [(Expr.Constant (.str "TCL") 0 ⟨535,55,535,60⟩), (Expr.Constant (.str "COROUTINE") 0 ⟨535,62,535,73⟩), (Expr.Constant (.str "CANT_YIELD") 0 ⟨535,75,535,87⟩)] 0 ⟨535,54,535,88⟩)] [] ⟨535,18,535,89⟩)) none ⟨535,12,535,89⟩))
  .nil) .nil ⟨534,8,535,89⟩)
  (.cons (.ret (.loc 2 ⟨536,15,536,18⟩) ⟨536,8,536,18⟩)
  .nil)))))
noncomputable def n_smallInit : List Str := [Str.ofString "self", Str.ofString "limit", Str.ofString "fuel"]
noncomputable def b_smallInit : Sts := (.cons (.expr (.clsInit .host ⟨583,8,583,12⟩ ⟨583,8,583,21⟩ (.cons (.loc 0 ⟨583,22,583,26⟩) (.cons (.loc 1 ⟨583,28,583,33⟩) (.cons (.loc 2 ⟨583,35,583,39⟩) .nil))) ⟨583,8,583,40⟩) ⟨583,8,583,40⟩)
  (.cons (.setAttr (.loc 0 ⟨584,8,584,12⟩) .vars ⟨584,8,584,17⟩ (.dict0 ⟨584,20,584,22⟩) ⟨584,8,584,22⟩)
  (.cons (.setAttr (.loc 0 ⟨585,8,585,12⟩) .commands ⟨585,8,585,21⟩ (.dict0 ⟨585,24,585,26⟩) ⟨585,8,585,26⟩)
  (.cons (.setAttr (.loc 0 ⟨586,8,586,12⟩) .firsts ⟨586,8,586,19⟩ (.dict0 ⟨586,22,586,24⟩) ⟨586,8,586,24⟩)
  .nil))))
noncomputable def n_put : List Str := [Str.ofString "self", Str.ofString "name", Str.ofString "action", Str.ofString "data"]
noncomputable def b_put : Sts := (.cons (.expr (.meth (.loc 0 ⟨619,8,619,12⟩) .remove ⟨619,8,619,19⟩ (.cons (.loc 1 ⟨619,20,619,24⟩) .nil) ⟨619,8,619,25⟩) ⟨619,8,619,25⟩)
  (.cons (.setItem (.attr (.loc 0 ⟨620,8,620,12⟩) .commands ⟨620,8,620,21⟩) (.loc 1 ⟨620,22,620,26⟩) (.tup (.cons (.loc 2 ⟨620,31,620,37⟩) (.cons (.loc 3 ⟨620,39,620,43⟩) .nil)) ⟨620,30,620,44⟩) ⟨620,8,620,27⟩ ⟨620,8,620,44⟩)
  .nil))
noncomputable def n_remove : List Str := [Str.ofString "self", Str.ofString "name"]
noncomputable def b_remove : Sts := (.cons (.expr (.meth (.attr (.loc 0 ⟨623,8,623,12⟩) .commands ⟨623,8,623,21⟩) .pop ⟨623,8,623,25⟩ (.cons (.loc 1 ⟨623,26,623,30⟩) (.cons (.none ⟨623,32,623,36⟩) .nil)) ⟨623,8,623,37⟩) ⟨623,8,623,37⟩)
  (.cons (.expr (.meth (.attr (.loc 0 ⟨624,8,624,12⟩) .firsts ⟨624,8,624,19⟩) .pop ⟨624,8,624,23⟩ (.cons (.loc 1 ⟨624,24,624,28⟩) (.cons (.none ⟨624,30,624,34⟩) .nil)) ⟨624,8,624,35⟩) ⟨624,8,624,35⟩)
  (.cons (.ite (.cmp .isin (.loc 1 ⟨625,11,625,15⟩) (.attr (.loc 0 ⟨625,19,625,23⟩) .inline ⟨625,19,625,30⟩) ⟨625,11,625,30⟩) (.cons (.augAttr 0 ⟨626,12,626,16⟩ .epoch ⟨626,12,626,22⟩ .add (.int 1 ⟨626,26,626,27⟩) ⟨626,12,626,27⟩)
  .nil) .nil ⟨625,8,626,27⟩)
  .nil)))
noncomputable def n_begin : List Str := [Str.ofString "self", Str.ofString "words", Str.ofString "action", Str.ofString "data"]
noncomputable def b_begin : Sts := (.cons (.ite (.cmp .notin (.idx (.loc 1 ⟨638,11,638,16⟩) (.int 0 ⟨638,17,638,18⟩) ⟨638,11,638,19⟩) (.attr (.loc 0 ⟨638,27,638,31⟩) .commands ⟨638,27,638,40⟩) ⟨638,11,638,40⟩) (.cons (.raw (Stmt.Raise (some (Expr.Call (Expr.Name "error" ⟨639,18,639,23⟩) [(Expr.BinOp (Expr.BinOp (Expr.Constant (.str "invalid command name \"") 0 ⟨639,24,639,48⟩) .Add (Expr.Subscript (Expr.Name "words" ⟨639,51,639,56⟩) (Expr.Constant (.int 0) 0 ⟨639,57,639,58⟩) ⟨639,51,639,59⟩) ⟨639,24,639,59⟩) .Add (Expr.Constant (.str "\"") 0 ⟨639,62,639,65⟩) ⟨639,24,639,65⟩), (Expr.Tuple [(Expr.Constant (.str "TCL") 0 ⟨639,68,639,73⟩), (Expr.Constant (.str "LOOKUP") 0 ⟨639,75,639,83⟩), (Expr.Constant (.str "COMMAND") 0 ⟨639,85,639,94⟩), (Expr.Subscript (Expr.Name "words" ⟨639,96,639,101⟩) (Expr.Constant (.int 0) 0 ⟨639,102,639,103⟩) ⟨639,96,639,104⟩)] 0 ⟨639,67,639,105⟩)] [] ⟨639,18,639,106⟩)) none ⟨639,12,639,106⟩))
  .nil) .nil ⟨638,8,639,106⟩)
  (.cons (.expr (.meth (.loc 0 ⟨640,8,640,12⟩) .spend ⟨640,8,640,18⟩ .nil ⟨640,8,640,20⟩) ⟨640,8,640,20⟩)
  (.cons (.assignT [(2, ⟨641,8,641,14⟩), (3, ⟨641,16,641,20⟩)] ⟨641,8,641,20⟩ (.idx (.attr (.loc 0 ⟨641,23,641,27⟩) .commands ⟨641,23,641,36⟩) (.idx (.loc 1 ⟨641,37,641,42⟩) (.int 0 ⟨641,43,641,44⟩) ⟨641,37,641,45⟩) ⟨641,23,641,46⟩) ⟨641,8,641,46⟩)
  (.cons (.ret (.call .act ⟨642,15,642,18⟩ (.cons (.loc 0 ⟨642,19,642,23⟩) (.cons (.loc 1 ⟨642,25,642,30⟩) (.cons (.loc 2 ⟨642,32,642,38⟩) (.cons (.loc 3 ⟨642,40,642,44⟩) .nil)))) ⟨642,15,642,45⟩) ⟨642,8,642,45⟩)
  .nil))))
noncomputable def n_law_next : List Str := [Str.ofString "pen", Str.ofString "at"]
noncomputable def b_law_next : Sts := (.cons (.assign 1 ⟨645,4,645,6⟩ (.idx (.loc 0 ⟨645,9,645,12⟩) (.int 1 ⟨645,13,645,14⟩) ⟨645,9,645,15⟩) ⟨645,4,645,15⟩)
  (.cons (.setItem (.loc 0 ⟨646,4,646,7⟩) (.int 1 ⟨646,8,646,9⟩) (.bin .add (.loc 1 ⟨646,13,646,15⟩) (.int 1 ⟨646,18,646,19⟩) ⟨646,13,646,19⟩) ⟨646,4,646,10⟩ ⟨646,4,646,19⟩)
  (.cons (.ret (.ite (.cmp .lt (.loc 1 ⟨647,25,647,27⟩) (.bi .len ⟨647,30,647,33⟩ (.cons (.idx (.loc 0 ⟨647,34,647,37⟩) (.int 0 ⟨647,38,647,39⟩) ⟨647,34,647,40⟩) .nil) ⟨647,30,647,41⟩) ⟨647,25,647,41⟩) (.idx (.idx (.loc 0 ⟨647,11,647,14⟩) (.int 0 ⟨647,15,647,16⟩) ⟨647,11,647,17⟩) (.loc 1 ⟨647,18,647,20⟩) ⟨647,11,647,21⟩) (.bin .add (.bin .add (.bin .mul (.bin .mul (.int 31 ⟨647,47,647,49⟩) (.loc 1 ⟨647,52,647,54⟩) ⟨647,47,647,54⟩) (.loc 1 ⟨647,57,647,59⟩) ⟨647,47,647,59⟩) (.bin .mul (.int 17 ⟨647,62,647,64⟩) (.loc 1 ⟨647,67,647,69⟩) ⟨647,62,647,69⟩) ⟨647,47,647,69⟩) (.int 9 ⟨647,72,647,73⟩) ⟨647,47,647,73⟩) ⟨647,11,647,73⟩) ⟨647,4,647,73⟩)
  .nil)))
noncomputable def n_law_sign : List Str := [Str.ofString "v", Str.ofString "signs", Str.ofString "place", Str.ofString "point"]
noncomputable def b_law_sign : Sts := (.cons (.assign 1 ⟨649,4,649,9⟩ (.str " \t\n\x0d\x0b\x0c{}[]()\"$;\\#*:-abfnrtvxuU0789F_é" [32, 9, 10, 13, 11, 12, 123, 125, 91, 93, 40, 41, 34, 36, 59, 92, 35, 42, 58, 45, 97, 98, 102, 110, 114, 116, 118, 120, 117, 85, 48, 55, 56, 57, 70, 95, 233] ⟨649,12,649,62⟩) ⟨649,4,649,62⟩)
  (.cons (.assign 2 ⟨650,4,650,9⟩ (.bin .mod (.loc 0 ⟨650,12,650,13⟩) (.int 40 ⟨650,16,650,18⟩) ⟨650,12,650,18⟩) ⟨650,4,650,18⟩)
  (.cons (.ite (.cmp .lt (.loc 2 ⟨651,7,651,12⟩) (.bi .len ⟨651,15,651,18⟩ (.cons (.loc 1 ⟨651,19,651,24⟩) .nil) ⟨651,15,651,25⟩) ⟨651,7,651,25⟩) (.cons (.ret (.idx (.loc 1 ⟨652,15,652,20⟩) (.loc 2 ⟨652,21,652,26⟩) ⟨652,15,652,27⟩) ⟨652,8,652,27⟩)
  .nil) .nil ⟨651,4,652,27⟩)
  (.cons (.assign 3 ⟨653,4,653,9⟩ (.bin .mod (.bin .fdiv (.loc 0 ⟨653,12,653,13⟩) (.int 40 ⟨653,17,653,19⟩) ⟨653,12,653,19⟩) (.int 1112064 ⟨653,22,653,29⟩) ⟨653,12,653,29⟩) ⟨653,4,653,29⟩)
  (.cons (.ret (.bi .chr ⟨654,11,654,14⟩ (.cons (.ite (.cmp .lt (.loc 3 ⟨654,24,654,29⟩) (.int 55296 ⟨654,32,654,37⟩) ⟨654,24,654,37⟩) (.loc 3 ⟨654,15,654,20⟩) (.bin .add (.loc 3 ⟨654,43,654,48⟩) (.int 2048 ⟨654,51,654,55⟩) ⟨654,43,654,55⟩) ⟨654,15,654,55⟩) .nil) ⟨654,11,654,56⟩) ⟨654,4,654,56⟩)
  .nil)))))
noncomputable def n_law_drawn : List Str := [Str.ofString "pen", Str.ofString "words", Str.ofString "turn", Str.ofString "text", Str.ofString "k"]
noncomputable def w_law_drawn_1 : Sts := (.cons (.assign 3 ⟨660,12,660,16⟩ (.bin .add (.loc 3 ⟨660,19,660,23⟩) (.call .law_sign ⟨660,26,660,35⟩ (.cons (.call .law_next ⟨660,36,660,45⟩ (.cons (.loc 0 ⟨660,46,660,49⟩) .nil) ⟨660,36,660,50⟩) .nil) ⟨660,26,660,51⟩) ⟨660,19,660,51⟩) ⟨660,12,660,51⟩)
  .nil)
noncomputable def w_law_drawn_0 : Sts := (.cons (.assign 3 ⟨658,8,658,12⟩ (.str "" [] ⟨658,15,658,17⟩) ⟨658,8,658,17⟩)
  (.cons (.forR 4 ⟨659,12,659,13⟩ ⟨659,17,659,22⟩ (.bin .mod (.call .law_next ⟨659,23,659,32⟩ (.cons (.loc 0 ⟨659,33,659,36⟩) .nil) ⟨659,23,659,37⟩) (.int 6 ⟨659,40,659,41⟩) ⟨659,23,659,41⟩) ⟨659,17,659,42⟩ w_law_drawn_1 ⟨659,8,660,51⟩)
  (.cons (.expr (.meth (.loc 1 ⟨661,8,661,13⟩) .append ⟨661,8,661,20⟩ (.cons (.loc 3 ⟨661,21,661,25⟩) .nil) ⟨661,8,661,26⟩) ⟨661,8,661,26⟩)
  .nil)))
noncomputable def b_law_drawn : Sts := (.cons (.assign 1 ⟨656,4,656,9⟩ (.list .nil ⟨656,12,656,14⟩) ⟨656,4,656,14⟩)
  (.cons (.forR 2 ⟨657,8,657,12⟩ ⟨657,16,657,21⟩ (.bin .mod (.call .law_next ⟨657,22,657,31⟩ (.cons (.loc 0 ⟨657,32,657,35⟩) .nil) ⟨657,22,657,36⟩) (.int 5 ⟨657,39,657,40⟩) ⟨657,22,657,40⟩) ⟨657,16,657,41⟩ w_law_drawn_0 ⟨657,4,661,26⟩)
  (.cons (.ret (.loc 1 ⟨662,11,662,16⟩) ⟨662,4,662,16⟩)
  .nil)))
noncomputable def n_law_fixed : List Str := []
noncomputable def b_law_fixed : Sts := (.cons (.ret (.list (.cons (.str "" [] ⟨664,12,664,14⟩) (.cons (.str "a {b" [97, 32, 123, 98] ⟨664,16,664,22⟩) (.cons (.str "}c" [125, 99] ⟨664,24,664,28⟩) (.cons (.str "d\\" [100, 92] ⟨664,30,664,35⟩) (.cons (.str "e\nf" [101, 10, 102] ⟨664,37,664,43⟩) (.cons (.str "\\\n" [92, 10] ⟨664,45,664,51⟩) (.cons (.str "\"g\" h\"" [34, 103, 34, 32, 104, 34] ⟨664,53,664,61⟩) (.cons (.str "$i[j]" [36, 105, 91, 106, 93] ⟨664,63,664,70⟩) (.cons (.str "*" [42] ⟨664,72,664,75⟩) (.cons (.str "{*}" [123, 42, 125] ⟨664,77,664,82⟩) (.cons (.str "; #" [59, 32, 35] ⟨664,84,664,89⟩) (.cons (.str "{k}\t[l]}{" [123, 107, 125, 9, 91, 108, 93, 125, 123] ⟨664,91,664,103⟩) (.cons (.str "éÿ􏿾" [233, 255, 1114110] ⟨664,105,664,121⟩) (.cons (.str "m\\{n" [109, 92, 123, 110] ⟨664,123,664,130⟩) .nil)))))))))))))) ⟨664,11,664,131⟩) ⟨664,4,664,131⟩)
  .nil)
noncomputable def n_law_hex : List Str := [Str.ofString "n", Str.ofString "wide", Str.ofString "out", Str.ofString "k"]
noncomputable def w_law_hex_0 : Sts := (.cons (.assign 2 ⟨668,8,668,11⟩ (.bin .add (.idx (.str "0123456789abcDEF" [48, 49, 50, 51, 52, 53, 54, 55, 56, 57, 97, 98, 99, 68, 69, 70] ⟨668,14,668,32⟩) (.bin .mod (.loc 0 ⟨668,33,668,34⟩) (.int 16 ⟨668,37,668,39⟩) ⟨668,33,668,39⟩) ⟨668,14,668,40⟩) (.loc 2 ⟨668,43,668,46⟩) ⟨668,14,668,46⟩) ⟨668,8,668,46⟩)
  (.cons (.assign 0 ⟨669,8,669,9⟩ (.bin .fdiv (.loc 0 ⟨669,12,669,13⟩) (.int 16 ⟨669,17,669,19⟩) ⟨669,12,669,19⟩) ⟨669,8,669,19⟩)
  .nil))
noncomputable def b_law_hex : Sts := (.cons (.assign 2 ⟨666,4,666,7⟩ (.str "" [] ⟨666,10,666,12⟩) ⟨666,4,666,12⟩)
  (.cons (.forR 3 ⟨667,8,667,9⟩ ⟨667,13,667,18⟩ (.loc 1 ⟨667,19,667,23⟩) ⟨667,13,667,24⟩ w_law_hex_0 ⟨667,4,669,19⟩)
  (.cons (.ret (.loc 2 ⟨670,11,670,14⟩) ⟨670,4,670,14⟩)
  .nil)))
noncomputable def n_law_coded : List Str := [Str.ofString "c", Str.ofString "way", Str.ofString "n", Str.ofString "place"]
noncomputable def b_law_coded : Sts := (.cons (.assign 2 ⟨672,4,672,5⟩ (.bi .ord ⟨672,8,672,11⟩ (.cons (.loc 0 ⟨672,12,672,13⟩) .nil) ⟨672,8,672,14⟩) ⟨672,4,672,14⟩)
  (.cons (.ite (.bop true (.cons (.cmp .eq (.loc 1 ⟨673,7,673,10⟩) (.int 1 ⟨673,14,673,15⟩) ⟨673,7,673,15⟩) (.cons (.cmp .lt (.loc 2 ⟨673,20,673,21⟩) (.int 256 ⟨673,24,673,27⟩) ⟨673,20,673,27⟩) .nil)) ⟨673,7,673,27⟩) (.cons (.ret (.bin .add (.str "\\x" [92, 120] ⟨674,15,674,20⟩) (.call .law_hex ⟨674,23,674,31⟩ (.cons (.loc 2 ⟨674,32,674,33⟩) (.cons (.int 2 ⟨674,35,674,36⟩) .nil)) ⟨674,23,674,37⟩) ⟨674,15,674,37⟩) ⟨674,8,674,37⟩)
  .nil) .nil ⟨673,4,674,37⟩)
  (.cons (.ite (.bop true (.cons (.cmp .eq (.loc 1 ⟨675,7,675,10⟩) (.int 2 ⟨675,14,675,15⟩) ⟨675,7,675,15⟩) (.cons (.cmp .lt (.loc 2 ⟨675,20,675,21⟩) (.int 65536 ⟨675,24,675,29⟩) ⟨675,20,675,29⟩) .nil)) ⟨675,7,675,29⟩) (.cons (.ret (.bin .add (.str "\\u" [92, 117] ⟨676,15,676,20⟩) (.call .law_hex ⟨676,23,676,31⟩ (.cons (.loc 2 ⟨676,32,676,33⟩) (.cons (.int 4 ⟨676,35,676,36⟩) .nil)) ⟨676,23,676,37⟩) ⟨676,15,676,37⟩) ⟨676,8,676,37⟩)
  .nil) .nil ⟨675,4,676,37⟩)
  (.cons (.ite (.cmp .eq (.loc 1 ⟨677,7,677,10⟩) (.int 3 ⟨677,14,677,15⟩) ⟨677,7,677,15⟩) (.cons (.ret (.bin .add (.str "\\U" [92, 85] ⟨678,15,678,20⟩) (.call .law_hex ⟨678,23,678,31⟩ (.cons (.loc 2 ⟨678,32,678,33⟩) (.cons (.int 8 ⟨678,35,678,36⟩) .nil)) ⟨678,23,678,37⟩) ⟨678,15,678,37⟩) ⟨678,8,678,37⟩)
  .nil) .nil ⟨677,4,678,37⟩)
  (.cons (.ite (.bop true (.cons (.cmp .eq (.loc 1 ⟨679,7,679,10⟩) (.int 4 ⟨679,14,679,15⟩) ⟨679,7,679,15⟩) (.cons (.cmp .lt (.loc 2 ⟨679,20,679,21⟩) (.int 256 ⟨679,24,679,27⟩) ⟨679,20,679,27⟩) .nil)) ⟨679,7,679,27⟩) (.cons (.ret (.bin .add (.bin .add (.bin .add (.str "\\" [92] ⟨680,15,680,19⟩) (.idx (.str "0123" [48, 49, 50, 51] ⟨680,22,680,28⟩) (.bin .fdiv (.loc 2 ⟨680,29,680,30⟩) (.int 64 ⟨680,34,680,36⟩) ⟨680,29,680,36⟩) ⟨680,22,680,37⟩) ⟨680,15,680,37⟩) (.idx (.str "01234567" [48, 49, 50, 51, 52, 53, 54, 55] ⟨680,40,680,50⟩) (.bin .mod (.bin .fdiv (.loc 2 ⟨680,51,680,52⟩) (.int 8 ⟨680,56,680,57⟩) ⟨680,51,680,57⟩) (.int 8 ⟨680,60,680,61⟩) ⟨680,51,680,61⟩) ⟨680,40,680,62⟩) ⟨680,15,680,62⟩) (.idx (.str "01234567" [48, 49, 50, 51, 52, 53, 54, 55] ⟨680,65,680,75⟩) (.bin .mod (.loc 2 ⟨680,76,680,77⟩) (.int 8 ⟨680,80,680,81⟩) ⟨680,76,680,81⟩) ⟨680,65,680,82⟩) ⟨680,15,680,82⟩) ⟨680,8,680,82⟩)
  .nil) .nil ⟨679,4,680,82⟩)
  (.cons (.assign 3 ⟨681,4,681,9⟩ (.meth (.str "\x07\x08\t\n\x0b\x0c\x0d" [7, 8, 9, 10, 11, 12, 13] ⟨681,12,681,36⟩) .find ⟨681,12,681,41⟩ (.cons (.loc 0 ⟨681,42,681,43⟩) .nil) ⟨681,12,681,44⟩) ⟨681,4,681,44⟩)
  (.cons (.ite (.cmp .ge (.loc 3 ⟨682,7,682,12⟩) (.int 0 ⟨682,16,682,17⟩) ⟨682,7,682,17⟩) (.cons (.ret (.bin .add (.str "\\" [92] ⟨683,15,683,19⟩) (.idx (.str "abtnvfr" [97, 98, 116, 110, 118, 102, 114] ⟨683,22,683,31⟩) (.loc 3 ⟨683,32,683,37⟩) ⟨683,22,683,38⟩) ⟨683,15,683,38⟩) ⟨683,8,683,38⟩)
  .nil) .nil ⟨682,4,683,38⟩)
  (.cons (.ite (.cmp .isin (.loc 0 ⟨684,7,684,8⟩) (.str "abcdefghijklmnopqrstuvwxyzABCDEFGHIJKLMNOPQRSTUVWXYZ0123456789" [97, 98, 99, 100, 101, 102, 103, 104, 105, 106, 107, 108, 109, 110, 111, 112, 113, 114, 115, 116, 117, 118, 119, 120, 121, 122, 65, 66, 67, 68, 69, 70, 71, 72, 73, 74, 75, 76, 77, 78, 79, 80, 81, 82, 83, 84, 85, 86, 87, 88, 89, 90, 48, 49, 50, 51, 52, 53, 54, 55, 56, 57] ⟨684,12,684,76⟩) ⟨684,7,684,76⟩) (.cons (.ret (.loc 0 ⟨685,15,685,16⟩) ⟨685,8,685,16⟩)
  .nil) .nil ⟨684,4,685,16⟩)
  (.cons (.ret (.bin .add (.str "\\" [92] ⟨686,11,686,15⟩) (.loc 0 ⟨686,18,686,19⟩) ⟨686,11,686,19⟩) ⟨686,4,686,19⟩)
  .nil)))))))))
noncomputable def n_law_spelled : List Str := [Str.ofString "text", Str.ofString "must", Str.ofString "ahead", Str.ofString "turn", Str.ofString "out", Str.ofString "k", Str.ofString "c"]
noncomputable def w_law_spelled_0 : Sts := (.cons (.assign 6 ⟨690,8,690,9⟩ (.idx (.loc 0 ⟨690,12,690,16⟩) (.loc 5 ⟨690,17,690,18⟩) ⟨690,12,690,19⟩) ⟨690,8,690,19⟩)
  (.cons (.ite (.bop false (.cons (.cmp .isin (.loc 6 ⟨691,11,691,12⟩) (.loc 1 ⟨691,16,691,20⟩) ⟨691,11,691,20⟩) (.cons (.bop true (.cons (.cmp .eq (.loc 5 ⟨691,25,691,26⟩) (.int 0 ⟨691,30,691,31⟩) ⟨691,25,691,31⟩) (.cons (.cmp .isin (.loc 6 ⟨691,36,691,37⟩) (.loc 2 ⟨691,41,691,46⟩) ⟨691,36,691,46⟩) .nil)) ⟨691,25,691,46⟩) (.cons (.cmp .eq (.bin .mod (.bin .add (.loc 3 ⟨691,52,691,56⟩) (.loc 5 ⟨691,59,691,60⟩) ⟨691,52,691,60⟩) (.int 3 ⟨691,64,691,65⟩) ⟨691,51,691,65⟩) (.int 0 ⟨691,69,691,70⟩) ⟨691,51,691,70⟩) .nil))) ⟨691,11,691,70⟩) (.cons (.assign 4 ⟨692,12,692,15⟩ (.bin .add (.loc 4 ⟨692,18,692,21⟩) (.call .law_coded ⟨692,24,692,34⟩ (.cons (.loc 6 ⟨692,35,692,36⟩) (.cons (.bin .mod (.bin .add (.bin .mul (.loc 3 ⟨692,39,692,43⟩) (.int 5 ⟨692,46,692,47⟩) ⟨692,39,692,47⟩) (.loc 5 ⟨692,50,692,51⟩) ⟨692,39,692,51⟩) (.int 6 ⟨692,55,692,56⟩) ⟨692,38,692,56⟩) .nil)) ⟨692,24,692,57⟩) ⟨692,18,692,57⟩) ⟨692,12,692,57⟩)
  .nil) (.cons (.assign 4 ⟨694,12,694,15⟩ (.bin .add (.loc 4 ⟨694,18,694,21⟩) (.loc 6 ⟨694,24,694,25⟩) ⟨694,18,694,25⟩) ⟨694,12,694,25⟩)
  .nil) ⟨691,8,694,25⟩)
  .nil))
noncomputable def b_law_spelled : Sts := (.cons (.assign 4 ⟨688,4,688,7⟩ (.str "" [] ⟨688,10,688,12⟩) ⟨688,4,688,12⟩)
  (.cons (.forR 5 ⟨689,8,689,9⟩ ⟨689,13,689,18⟩ (.bi .len ⟨689,19,689,22⟩ (.cons (.loc 0 ⟨689,23,689,27⟩) .nil) ⟨689,19,689,28⟩) ⟨689,13,689,29⟩ w_law_spelled_0 ⟨689,4,694,25⟩)
  (.cons (.ret (.loc 4 ⟨695,11,695,14⟩) ⟨695,4,695,14⟩)
  .nil)))
noncomputable def n_law_may_brace : List Str := [Str.ofString "text", Str.ofString "depth", Str.ofString "at", Str.ofString "c"]
noncomputable def t_law_may_brace_0 : Ex := (.cmp .lt (.loc 2 ⟨698,10,698,12⟩) (.bi .len ⟨698,15,698,18⟩ (.cons (.loc 0 ⟨698,19,698,23⟩) .nil) ⟨698,15,698,24⟩) ⟨698,10,698,24⟩)
noncomputable def w_law_may_brace_0 : Sts := (.cons (.assign 3 ⟨699,8,699,9⟩ (.idx (.loc 0 ⟨699,12,699,16⟩) (.loc 2 ⟨699,17,699,19⟩) ⟨699,12,699,20⟩) ⟨699,8,699,20⟩)
  (.cons (.ite (.cmp .eq (.loc 3 ⟨700,11,700,12⟩) (.str "\\" [92] ⟨700,16,700,20⟩) ⟨700,11,700,20⟩) (.cons (.ite (.cmp .isin (.slc (.loc 0 ⟨701,15,701,19⟩) (.bin .add (.loc 2 ⟨701,20,701,22⟩) (.int 1 ⟨701,25,701,26⟩) ⟨701,20,701,26⟩) (.bin .add (.loc 2 ⟨701,27,701,29⟩) (.int 2 ⟨701,32,701,33⟩) ⟨701,27,701,33⟩) ⟨701,20,701,33⟩ ⟨701,15,701,34⟩) (.tup (.cons (.str "" [] ⟨701,39,701,41⟩) (.cons (.str "\n" [10] ⟨701,43,701,47⟩) .nil)) ⟨701,38,701,48⟩) ⟨701,15,701,48⟩) (.cons (.ret (.bool false ⟨702,23,702,28⟩) ⟨702,16,702,28⟩)
  .nil) .nil ⟨701,12,702,28⟩)
  (.cons (.aug 2 ⟨703,12,703,14⟩ .add (.int 1 ⟨703,18,703,19⟩) ⟨703,12,703,19⟩)
  .nil)) (.cons (.ite (.cmp .eq (.loc 3 ⟨704,13,704,14⟩) (.str "{" [123] ⟨704,18,704,21⟩) ⟨704,13,704,21⟩) (.cons (.aug 1 ⟨705,12,705,17⟩ .add (.int 1 ⟨705,21,705,22⟩) ⟨705,12,705,22⟩)
  .nil) (.cons (.ite (.cmp .eq (.loc 3 ⟨706,13,706,14⟩) (.str "}" [125] ⟨706,18,706,21⟩) ⟨706,13,706,21⟩) (.cons (.aug 1 ⟨707,12,707,17⟩ .sub (.int 1 ⟨707,21,707,22⟩) ⟨707,12,707,22⟩)
  (.cons (.ite (.cmp .lt (.loc 1 ⟨708,15,708,20⟩) (.int 0 ⟨708,23,708,24⟩) ⟨708,15,708,24⟩) (.cons (.ret (.bool false ⟨709,23,709,28⟩) ⟨709,16,709,28⟩)
  .nil) .nil ⟨708,12,709,28⟩)
  .nil)) .nil ⟨706,8,709,28⟩)
  .nil) ⟨704,8,709,28⟩)
  .nil) ⟨700,8,709,28⟩)
  (.cons (.aug 2 ⟨710,8,710,10⟩ .add (.int 1 ⟨710,14,710,15⟩) ⟨710,8,710,15⟩)
  .nil)))
noncomputable def b_law_may_brace : Sts := (.cons (.assignD 1 ⟨697,4,697,9⟩ 2 ⟨697,11,697,13⟩ ⟨697,4,697,13⟩ (.int 0 ⟨697,17,697,18⟩) (.int 0 ⟨697,20,697,21⟩) ⟨697,16,697,22⟩ ⟨697,4,697,22⟩)
  (.cons (.while t_law_may_brace_0 w_law_may_brace_0 ⟨698,4,710,15⟩)
  (.cons (.ret (.cmp .eq (.loc 1 ⟨711,11,711,16⟩) (.int 0 ⟨711,20,711,21⟩) ⟨711,11,711,21⟩) ⟨711,4,711,21⟩)
  .nil)))
noncomputable def n_law_written : List Str := [Str.ofString "text", Str.ofString "turn", Str.ofString "is_first", Str.ofString "form"]
noncomputable def b_law_written : Sts := (.cons (.assign 3 ⟨713,4,713,8⟩ (.bin .mod (.bin .add (.loc 1 ⟨713,12,713,16⟩) (.bin .fdiv (.loc 1 ⟨713,19,713,23⟩) (.int 4 ⟨713,27,713,28⟩) ⟨713,19,713,28⟩) ⟨713,12,713,28⟩) (.int 4 ⟨713,32,713,33⟩) ⟨713,11,713,33⟩) ⟨713,4,713,33⟩)
  (.cons (.ite (.cmp .eq (.loc 3 ⟨714,7,714,11⟩) (.int 3 ⟨714,15,714,16⟩) ⟨714,7,714,16⟩) (.cons (.ret (.call .quote ⟨715,15,715,20⟩ (.cons (.loc 0 ⟨715,21,715,25⟩) (.cons (.loc 2 ⟨715,27,715,35⟩) .nil)) ⟨715,15,715,36⟩) ⟨715,8,715,36⟩)
  .nil) .nil ⟨714,4,715,36⟩)
  (.cons (.ite (.bop true (.cons (.cmp .eq (.loc 3 ⟨716,7,716,11⟩) (.int 2 ⟨716,15,716,16⟩) ⟨716,7,716,16⟩) (.cons (.call .law_may_brace ⟨716,21,716,35⟩ (.cons (.loc 0 ⟨716,36,716,40⟩) .nil) ⟨716,21,716,41⟩) .nil)) ⟨716,7,716,41⟩) (.cons (.ret (.bin .add (.bin .add (.str "{" [123] ⟨717,15,717,18⟩) (.loc 0 ⟨717,21,717,25⟩) ⟨717,15,717,25⟩) (.str "}" [125] ⟨717,28,717,31⟩) ⟨717,15,717,31⟩) ⟨717,8,717,31⟩)
  .nil) .nil ⟨716,4,717,31⟩)
  (.cons (.ite (.bop true (.cons (.cmp .eq (.loc 3 ⟨718,7,718,11⟩) (.int 0 ⟨718,15,718,16⟩) ⟨718,7,718,16⟩) (.cons (.cmp .ne (.loc 0 ⟨718,21,718,25⟩) (.str "" [] ⟨718,29,718,31⟩) ⟨718,21,718,31⟩) .nil)) ⟨718,7,718,31⟩) (.cons (.ret (.call .law_spelled ⟨719,15,719,27⟩ (.cons (.loc 0 ⟨719,28,719,32⟩) (.cons (.str " \t\n\x0b\x0c\x0d;[$\\" [32, 9, 10, 11, 12, 13, 59, 91, 36, 92] ⟨719,34,719,56⟩) (.cons (.str "\"{#" [34, 123, 35] ⟨719,58,719,63⟩) (.cons (.loc 1 ⟨719,65,719,69⟩) .nil)))) ⟨719,15,719,70⟩) ⟨719,8,719,70⟩)
  .nil) .nil ⟨718,4,719,70⟩)
  (.cons (.ret (.bin .add (.bin .add (.str "\"" [34] ⟨720,11,720,14⟩) (.call .law_spelled ⟨720,17,720,29⟩ (.cons (.loc 0 ⟨720,30,720,34⟩) (.cons (.str "\"\\$[" [34, 92, 36, 91] ⟨720,36,720,43⟩) (.cons (.str "" [] ⟨720,45,720,47⟩) (.cons (.loc 1 ⟨720,49,720,53⟩) .nil)))) ⟨720,17,720,54⟩) ⟨720,11,720,54⟩) (.str "\"" [34] ⟨720,57,720,60⟩) ⟨720,11,720,60⟩) ⟨720,4,720,60⟩)
  .nil)))))
noncomputable def n_law_command : List Str := [Str.ofString "words", Str.ofString "turn", Str.ofString "gaps", Str.ofString "out", Str.ofString "k", Str.ofString "many"]
noncomputable def t_law_command_0 : Ex := (.cmp .lt (.loc 4 ⟨724,10,724,11⟩) (.bi .len ⟨724,14,724,17⟩ (.cons (.loc 0 ⟨724,18,724,23⟩) .nil) ⟨724,14,724,24⟩) ⟨724,10,724,24⟩)
noncomputable def w_law_command_0 : Sts := (.cons (.aug 1 ⟨725,8,725,12⟩ .add (.int 1 ⟨725,16,725,17⟩) ⟨725,8,725,17⟩)
  (.cons (.assign 3 ⟨726,8,726,11⟩ (.bin .add (.loc 3 ⟨726,14,726,17⟩) (.idx (.loc 2 ⟨726,20,726,24⟩) (.bin .mod (.loc 1 ⟨726,25,726,29⟩) (.int 7 ⟨726,32,726,33⟩) ⟨726,25,726,33⟩) ⟨726,20,726,34⟩) ⟨726,14,726,34⟩) ⟨726,8,726,34⟩)
  (.cons (.ite (.cmp .eq (.bin .mod (.loc 1 ⟨727,11,727,15⟩) (.int 4 ⟨727,18,727,19⟩) ⟨727,11,727,19⟩) (.int 3 ⟨727,23,727,24⟩) ⟨727,11,727,24⟩) (.cons (.assign 5 ⟨728,12,728,16⟩ (.bin .mod (.bin .add (.bin .fdiv (.loc 1 ⟨728,20,728,24⟩) (.int 4 ⟨728,28,728,29⟩) ⟨728,20,728,29⟩) (.bin .fdiv (.loc 1 ⟨728,32,728,36⟩) (.int 16 ⟨728,40,728,42⟩) ⟨728,32,728,42⟩) ⟨728,20,728,42⟩) (.int 4 ⟨728,46,728,47⟩) ⟨728,19,728,47⟩) ⟨728,12,728,47⟩)
  (.cons (.assign 3 ⟨729,12,729,15⟩ (.bin .add (.bin .add (.loc 3 ⟨729,18,729,21⟩) (.str "{*}" [123, 42, 125] ⟨729,24,729,29⟩) ⟨729,18,729,29⟩) (.call .law_written ⟨729,32,729,44⟩ (.cons (.call .join_list ⟨729,45,729,54⟩ (.cons (.slc (.loc 0 ⟨729,55,729,60⟩) (.loc 4 ⟨729,61,729,62⟩) (.bin .add (.loc 4 ⟨729,63,729,64⟩) (.loc 5 ⟨729,67,729,71⟩) ⟨729,63,729,71⟩) ⟨729,61,729,71⟩ ⟨729,55,729,72⟩) .nil) ⟨729,45,729,73⟩) (.cons (.loc 1 ⟨729,75,729,79⟩) (.cons (.bool false ⟨729,81,729,86⟩) .nil))) ⟨729,32,729,87⟩) ⟨729,18,729,87⟩) ⟨729,12,729,87⟩)
  (.cons (.aug 4 ⟨730,12,730,13⟩ .add (.loc 5 ⟨730,17,730,21⟩) ⟨730,12,730,21⟩)
  .nil))) (.cons (.assign 3 ⟨732,12,732,15⟩ (.bin .add (.loc 3 ⟨732,18,732,21⟩) (.call .law_written ⟨732,24,732,36⟩ (.cons (.idx (.loc 0 ⟨732,37,732,42⟩) (.loc 4 ⟨732,43,732,44⟩) ⟨732,37,732,45⟩) (.cons (.loc 1 ⟨732,47,732,51⟩) (.cons (.bool false ⟨732,53,732,58⟩) .nil))) ⟨732,24,732,59⟩) ⟨732,18,732,59⟩) ⟨732,12,732,59⟩)
  (.cons (.aug 4 ⟨733,12,733,13⟩ .add (.int 1 ⟨733,17,733,18⟩) ⟨733,12,733,18⟩)
  .nil)) ⟨727,8,733,18⟩)
  .nil)))
noncomputable def b_law_command : Sts := (.cons (.assign 2 ⟨722,4,722,8⟩ (.list (.cons (.str " " [32] ⟨722,12,722,15⟩) (.cons (.str "\t" [9] ⟨722,17,722,21⟩) (.cons (.str "\\\n" [92, 10] ⟨722,23,722,29⟩) (.cons (.str "  " [32, 32] ⟨722,31,722,35⟩) (.cons (.str " \\\n\t" [32, 92, 10, 9] ⟨722,37,722,46⟩) (.cons (.str "\x0b\x0c" [11, 12] ⟨722,48,722,58⟩) (.cons (.str "\x0d" [13] ⟨722,60,722,64⟩) .nil))))))) ⟨722,11,722,65⟩) ⟨722,4,722,65⟩)
  (.cons (.assignD 3 ⟨723,4,723,7⟩ 4 ⟨723,9,723,10⟩ ⟨723,4,723,10⟩ (.call .law_written ⟨723,14,723,26⟩ (.cons (.idx (.loc 0 ⟨723,27,723,32⟩) (.int 0 ⟨723,33,723,34⟩) ⟨723,27,723,35⟩) (.cons (.loc 1 ⟨723,37,723,41⟩) (.cons (.bool true ⟨723,43,723,47⟩) .nil))) ⟨723,14,723,48⟩) (.int 1 ⟨723,50,723,51⟩) ⟨723,13,723,52⟩ ⟨723,4,723,52⟩)
  (.cons (.while t_law_command_0 w_law_command_0 ⟨724,4,733,18⟩)
  (.cons (.ret (.loc 3 ⟨734,11,734,14⟩) ⟨734,4,734,14⟩)
  .nil))))
noncomputable def n_law_record : List Str := [Str.ofString "host", Str.ofString "words", Str.ofString "data"]
noncomputable def b_law_record : Sts := (.cons (.expr (.meth (.loc 2 ⟨736,4,736,8⟩) .append ⟨736,4,736,15⟩ (.cons (.loc 1 ⟨736,16,736,21⟩) .nil) ⟨736,4,736,22⟩) ⟨736,4,736,22⟩)
  (.cons (.ret (.bi .str ⟨737,11,737,14⟩ (.cons (.bi .len ⟨737,15,737,18⟩ (.cons (.loc 2 ⟨737,19,737,23⟩) .nil) ⟨737,15,737,24⟩) .nil) ⟨737,11,737,25⟩) ⟨737,4,737,25⟩)
  .nil))
noncomputable def n_law : List Str := [Str.ofString "script", Str.ofString "pen", Str.ofString "name", Str.ofString "leads", Str.ofString "ends", Str.ofString "tails", Str.ofString "turn", Str.ofString "first", Str.ofString "second", Str.ofString "one", Str.ofString "between", Str.ofString "other", Str.ofString "told", Str.ofString "host", Str.ofString "log"]
noncomputable def b_law : Sts := (.cons (.assign 0 ⟨739,4,739,10⟩ (.slcU (.loc 0 ⟨739,13,739,19⟩) (.int 63 ⟨739,21,739,23⟩) ⟨739,20,739,23⟩ ⟨739,13,739,24⟩) ⟨739,4,739,24⟩)
  (.cons (.assign 1 ⟨740,4,740,7⟩ (.list (.cons (.loc 0 ⟨740,11,740,17⟩) (.cons (.int 0 ⟨740,19,740,20⟩) .nil)) ⟨740,10,740,21⟩) ⟨740,4,740,21⟩)
  (.cons (.assign 2 ⟨741,4,741,8⟩ (.idx (.list (.cons (.str "rec" [114, 101, 99] ⟨741,12,741,17⟩) (.cons (.str "#" [35] ⟨741,19,741,22⟩) (.cons (.str "a b" [97, 32, 98] ⟨741,24,741,29⟩) (.cons (.str "{" [123] ⟨741,31,741,34⟩) (.cons (.str "\\" [92] ⟨741,36,741,40⟩) .nil))))) ⟨741,11,741,41⟩) (.bin .mod (.call .law_next ⟨741,42,741,51⟩ (.cons (.loc 1 ⟨741,52,741,55⟩) .nil) ⟨741,42,741,56⟩) (.int 5 ⟨741,59,741,60⟩) ⟨741,42,741,60⟩) ⟨741,11,741,61⟩) ⟨741,4,741,61⟩)
  (.cons (.assign 3 ⟨742,4,742,9⟩ (.list (.cons (.str "" [] ⟨742,13,742,15⟩) (.cons (.str " " [32] ⟨742,17,742,20⟩) (.cons (.str "\n" [10] ⟨742,22,742,26⟩) (.cons (.str ";" [59] ⟨742,28,742,31⟩) (.cons (.str "\\\n" [92, 10] ⟨742,33,742,39⟩) (.cons (.str "# [ {\n" [35, 32, 91, 32, 123, 10] ⟨742,41,742,50⟩) (.cons (.str ";#\\\n\"\n\t" [59, 35, 92, 10, 34, 10, 9] ⟨742,52,742,65⟩) (.cons (.str "\x0b\x0c;\x0d" [11, 12, 59, 13] ⟨742,67,742,80⟩) .nil)))))))) ⟨742,12,742,81⟩) ⟨742,4,742,81⟩)
  (.cons (.assign 4 ⟨743,4,743,8⟩ (.list (.cons (.str ";" [59] ⟨743,12,743,15⟩) (.cons (.str "\n" [10] ⟨743,17,743,21⟩) (.cons (.str " ;\t" [32, 59, 9] ⟨743,23,743,29⟩) (.cons (.str "\n;;\n" [10, 59, 59, 10] ⟨743,31,743,39⟩) (.cons (.str ";# \" [ {\n" [59, 35, 32, 34, 32, 91, 32, 123, 10] ⟨743,41,743,53⟩) (.cons (.str "\\\n\n" [92, 10, 10] ⟨743,55,743,63⟩) (.cons (.str ";#\\\\\n" [59, 35, 92, 92, 10] ⟨743,65,743,75⟩) (.cons (.str "\t\n#\\\n]\n" [9, 10, 35, 92, 10, 93, 10] ⟨743,77,743,91⟩) .nil)))))))) ⟨743,11,743,92⟩) ⟨743,4,743,92⟩)
  (.cons (.assign 5 ⟨744,4,744,9⟩ (.list (.cons (.str "" [] ⟨744,13,744,15⟩) (.cons (.str " " [32] ⟨744,17,744,20⟩) (.cons (.str "\n" [10] ⟨744,22,744,26⟩) (.cons (.str ";" [59] ⟨744,28,744,31⟩) (.cons (.str "\\\n" [92, 10] ⟨744,33,744,39⟩) (.cons (.str ";#\\" [59, 35, 92] ⟨744,41,744,47⟩) (.cons (.str "\t\\\n ;;" [9, 92, 10, 32, 59, 59] ⟨744,49,744,60⟩) (.cons (.str "\n# \" {" [10, 35, 32, 34, 32, 123] ⟨744,62,744,71⟩) .nil)))))))) ⟨744,12,744,72⟩) ⟨744,4,744,72⟩)
  (.cons (.assign 6 ⟨745,4,745,8⟩ (.bin .mod (.call .law_next ⟨745,11,745,20⟩ (.cons (.loc 1 ⟨745,21,745,24⟩) .nil) ⟨745,11,745,25⟩) (.int 64 ⟨745,28,745,30⟩) ⟨745,11,745,30⟩) ⟨745,4,745,30⟩)
  (.cons (.assign 7 ⟨746,4,746,9⟩ (.bin .add (.list (.cons (.loc 2 ⟨746,13,746,17⟩) .nil) ⟨746,12,746,18⟩) (.call .law_fixed ⟨746,21,746,31⟩ .nil ⟨746,21,746,33⟩) ⟨746,12,746,33⟩) ⟨746,4,746,33⟩)
  (.cons (.assign 8 ⟨747,4,747,10⟩ (.bin .add (.list (.cons (.loc 2 ⟨747,14,747,18⟩) .nil) ⟨747,13,747,19⟩) (.call .law_drawn ⟨747,22,747,32⟩ (.cons (.loc 1 ⟨747,33,747,36⟩) .nil) ⟨747,22,747,37⟩) ⟨747,13,747,37⟩) ⟨747,4,747,37⟩)
  (.cons (.assign 9 ⟨748,4,748,7⟩ (.bin .add (.idx (.loc 3 ⟨748,10,748,15⟩) (.bin .mod (.call .law_next ⟨748,16,748,25⟩ (.cons (.loc 1 ⟨748,26,748,29⟩) .nil) ⟨748,16,748,30⟩) (.int 8 ⟨748,33,748,34⟩) ⟨748,16,748,34⟩) ⟨748,10,748,35⟩) (.call .law_command ⟨748,38,748,50⟩ (.cons (.loc 7 ⟨748,51,748,56⟩) (.cons (.loc 6 ⟨748,58,748,62⟩) .nil)) ⟨748,38,748,63⟩) ⟨748,10,748,63⟩) ⟨748,4,748,63⟩)
  (.cons (.assign 10 ⟨749,4,749,11⟩ (.bin .add (.idx (.loc 4 ⟨749,14,749,18⟩) (.bin .mod (.call .law_next ⟨749,19,749,28⟩ (.cons (.loc 1 ⟨749,29,749,32⟩) .nil) ⟨749,19,749,33⟩) (.int 8 ⟨749,36,749,37⟩) ⟨749,19,749,37⟩) ⟨749,14,749,38⟩) (.idx (.loc 3 ⟨749,41,749,46⟩) (.bin .mod (.call .law_next ⟨749,47,749,56⟩ (.cons (.loc 1 ⟨749,57,749,60⟩) .nil) ⟨749,47,749,61⟩) (.int 8 ⟨749,64,749,65⟩) ⟨749,47,749,65⟩) ⟨749,41,749,66⟩) ⟨749,14,749,66⟩) ⟨749,4,749,66⟩)
  (.cons (.assign 11 ⟨750,4,750,9⟩ (.bin .add (.call .law_command ⟨750,12,750,24⟩ (.cons (.loc 8 ⟨750,25,750,31⟩) (.cons (.bin .mod (.bin .add (.loc 6 ⟨750,34,750,38⟩) (.call .law_next ⟨750,41,750,50⟩ (.cons (.loc 1 ⟨750,51,750,54⟩) .nil) ⟨750,41,750,55⟩) ⟨750,34,750,55⟩) (.int 64 ⟨750,59,750,61⟩) ⟨750,33,750,61⟩) .nil)) ⟨750,12,750,62⟩) (.idx (.loc 5 ⟨750,65,750,70⟩) (.bin .mod (.call .law_next ⟨750,71,750,80⟩ (.cons (.loc 1 ⟨750,81,750,84⟩) .nil) ⟨750,71,750,85⟩) (.int 8 ⟨750,88,750,89⟩) ⟨750,71,750,89⟩) ⟨750,65,750,90⟩) ⟨750,12,750,90⟩) ⟨750,4,750,90⟩)
  (.cons (.assignD 13 ⟨751,4,751,8⟩ 14 ⟨751,10,751,13⟩ ⟨751,4,751,13⟩ (.new ⟨751,17,751,26⟩ ⟨751,17,751,28⟩) (.list .nil ⟨751,30,751,32⟩) ⟨751,16,751,33⟩ ⟨751,4,751,33⟩)
  (.cons (.expr (.meth (.loc 13 ⟨752,4,752,8⟩) .put ⟨752,4,752,12⟩ (.cons (.loc 2 ⟨752,13,752,17⟩) (.cons (.fn .law_record ⟨752,19,752,30⟩) (.cons (.loc 14 ⟨752,32,752,35⟩) .nil))) ⟨752,4,752,36⟩) ⟨752,4,752,36⟩)
  (.cons (.assign 12 ⟨753,4,753,8⟩ (.list (.cons (.call .run_script ⟨753,12,753,22⟩ (.cons (.loc 13 ⟨753,23,753,27⟩) (.cons (.loc 9 ⟨753,29,753,32⟩) .nil)) ⟨753,12,753,33⟩) (.cons (.call .run_script ⟨753,35,753,45⟩ (.cons (.loc 13 ⟨753,46,753,50⟩) (.cons (.bin .add (.bin .add (.loc 9 ⟨753,52,753,55⟩) (.loc 10 ⟨753,58,753,65⟩) ⟨753,52,753,65⟩) (.loc 11 ⟨753,68,753,73⟩) ⟨753,52,753,73⟩) .nil)) ⟨753,35,753,74⟩) .nil)) ⟨753,11,753,75⟩) ⟨753,4,753,75⟩)
  (.cons (.ret (.bop true (.cons (.cmp .eq (.loc 12 ⟨754,11,754,15⟩) (.list (.cons (.str "1" [49] ⟨754,20,754,23⟩) (.cons (.str "3" [51] ⟨754,25,754,28⟩) .nil)) ⟨754,19,754,29⟩) ⟨754,11,754,29⟩) (.cons (.cmp .eq (.loc 14 ⟨754,34,754,37⟩) (.list (.cons (.loc 7 ⟨754,42,754,47⟩) (.cons (.loc 7 ⟨754,49,754,54⟩) (.cons (.loc 8 ⟨754,56,754,62⟩) .nil))) ⟨754,41,754,63⟩) ⟨754,34,754,63⟩) (.cons (.cmp .eq (.attr (.loc 13 ⟨754,69,754,73⟩) .spent ⟨754,69,754,79⟩) (.int 3 ⟨754,83,754,84⟩) ⟨754,69,754,84⟩) .nil))) ⟨754,11,754,85⟩) ⟨754,4,754,85⟩)
  .nil))))))))))))))))
noncomputable def D : Fn → FnD
  | .is_blank => ⟨1, [], n_is_blank, b_is_blank, true⟩
  | .digit => ⟨1, [], n_digit, b_digit, true⟩
  | .hex_sign => ⟨2, [], n_hex_sign, b_hex_sign, true⟩
  | .octal_sign => ⟨2, [], n_octal_sign, b_octal_sign, true⟩
  | .backslash => ⟨2, [], n_backslash, b_backslash, true⟩
  | .is_gap => ⟨1, [], n_is_gap, b_is_gap, true⟩
  | .skip_gaps => ⟨2, [], n_skip_gaps, b_skip_gaps, true⟩
  | .comment_behind => ⟨2, [], n_comment_behind, b_comment_behind, true⟩
  | .skip_to_command => ⟨2, [], n_skip_to_command, b_skip_to_command, true⟩
  | .braces => ⟨2, [], n_braces, b_braces, true⟩
  | .parts_until => ⟨3, [], n_parts_until, b_parts_until, true⟩
  | .bare_stops => ⟨1, [], n_bare_stops, b_bare_stops, true⟩
  | .is_expanded => ⟨2, [], n_is_expanded, b_is_expanded, true⟩
  | .word => ⟨3, [], n_word, b_word, true⟩
  | .command_at => ⟨3, [.bool false], n_command_at, b_command_at, true⟩
  | .check_behind => ⟨3, [], n_check_behind, b_check_behind, true⟩
  | .braced_element => ⟨2, [], n_braced_element, b_braced_element, true⟩
  | .quoted_element => ⟨2, [], n_quoted_element, b_quoted_element, true⟩
  | .bare_element => ⟨2, [], n_bare_element, b_bare_element, true⟩
  | .find_element => ⟨2, [], n_find_element, b_find_element, true⟩
  | .split_list => ⟨1, [], n_split_list, b_split_list, true⟩
  | .mode_of => ⟨2, [], n_mode_of, b_mode_of, true⟩
  | .escaped => ⟨2, [], n_escaped, b_escaped, true⟩
  | .quote => ⟨2, [.bool false], n_quote, b_quote, true⟩
  | .join_list => ⟨1, [], n_join_list, b_join_list, true⟩
  | .text_of => ⟨2, [], n_text_of, b_text_of, true⟩
  | .words_of => ⟨2, [], n_words_of, b_words_of, true⟩
  | .run_script => ⟨2, [], n_run_script, b_run_script, false⟩
  | .act => ⟨4, [], n_act, b_act, false⟩
  | .hostInit => ⟨3, [.int 40, .none], n_hostInit, b_hostInit, false⟩
  | .spend => ⟨1, [], n_spend, b_spend, false⟩
  | .call => ⟨2, [], n_call, b_call, false⟩
  | .smallInit => ⟨3, [.int 40, .none], n_smallInit, b_smallInit, false⟩
  | .put => ⟨4, [.none], n_put, b_put, false⟩
  | .remove => ⟨2, [], n_remove, b_remove, false⟩
  | .begin => ⟨2, [], n_begin, b_begin, false⟩
  | .law_next => ⟨1, [], n_law_next, b_law_next, false⟩
  | .law_sign => ⟨1, [], n_law_sign, b_law_sign, true⟩
  | .law_drawn => ⟨1, [], n_law_drawn, b_law_drawn, false⟩
  | .law_fixed => ⟨0, [], n_law_fixed, b_law_fixed, true⟩
  | .law_hex => ⟨2, [], n_law_hex, b_law_hex, true⟩
  | .law_coded => ⟨2, [], n_law_coded, b_law_coded, true⟩
  | .law_spelled => ⟨4, [], n_law_spelled, b_law_spelled, true⟩
  | .law_may_brace => ⟨1, [], n_law_may_brace, b_law_may_brace, true⟩
  | .law_written => ⟨3, [], n_law_written, b_law_written, true⟩
  | .law_command => ⟨2, [], n_law_command, b_law_command, true⟩
  | .law_record => ⟨3, [], n_law_record, b_law_record, false⟩
  | .law => ⟨1, [], n_law, b_law, false⟩
end

section
/-- what stands fast: the program, the world, the heap at the law's call, the top's names, where functions and classes lie -/
structure MC where
  prog : Program
  w : World
  base : Heap
  mg : Str → Option Value
  mb : Str → Option Value
  fa : Fn → Addr
  ca : Cl → Addr
  D : Fn → FnD
  K : Frag

mutual
inductive RelV (X : MC) (φ : List Addr) (h : Heap) : Value → Vl → Prop
  | none : RelV X φ h .none .none
  | bool (b : Bool) : RelV X φ h (.bool b) (.bool b)
  | int (i : Int) (t : Tok) : RelV X φ h (.int i t) (.int i)
  | str (x : Str) (t : Tok) (l : List Nat) (e : x.cps.toList = l) (hl : l.length ≤ line) : RelV X φ h (.str x t) (.str l)
  | tup (a : Addr) (items : Array Value) (n : Nat) (l : List Vl) (ho : h.get? a = some ⟨.type "tuple", none, .seq items n, #[]⟩) (ha : a ∉ φ) (hl : l.length ≤ line) (hr : RelVs X φ h items.toList l) : RelV X φ h (.ref a) (.tup l)
  | lst (a : Addr) (items : Array Value) (n : Nat) (l : List Vl) (ho : h.get? a = some ⟨.type "list", none, .seq items n, #[]⟩) (ha : a ∉ φ) (hl : l.length ≤ line) (hr : RelVs X φ h items.toList l) : RelV X φ h (.ref a) (.lst l)
  | ref (i : Nat) (a : Addr) (ha : φ[i]? = some a) : RelV X φ h (.ref a) (.ref i)
  | fn (f : Fn) (a : Addr) (e : a = X.fa f) : RelV X φ h (.ref a) (.fn f)
  | cls (c : Cl) (a : Addr) (e : a = X.ca c) : RelV X φ h (.ref a) (.cls c)
inductive RelVs (X : MC) (φ : List Addr) (h : Heap) : List Value → List Vl → Prop
  | nil : RelVs X φ h [] []
  | cons {x : Value} {v : Vl} {xs : List Value} {vs : List Vl} (hx : RelV X φ h x v) (hs : RelVs X φ h xs vs) : RelVs X φ h (x :: xs) (v :: vs)
end
inductive RelAs (X : MC) (φ : List Addr) (h : Heap) : List DictEntry → List (At × Vl) → Prop
  | nil : RelAs X φ h [] []
  | cons {a : At} {t : Tok} {x : Value} {v : Vl} {es : List DictEntry} {l : List (At × Vl)} (hx : RelV X φ h x v) (hs : RelAs X φ h es l) :
      RelAs X φ h (⟨PyData.keyHash X.w.params a.name, .str a.name t, x⟩ :: es) ((a, v) :: l)
inductive RelDs (X : MC) (φ : List Addr) (h : Heap) : List DictEntry → List (List Nat × Vl) → Prop
  | nil : RelDs X φ h [] []
  | cons {k : Str} {kl : List Nat} {t : Tok} {x : Value} {v : Vl} {es : List DictEntry} {l : List (List Nat × Vl)} (hk : k.cps.toList = kl) (hx : RelV X φ h x v) (hs : RelDs X φ h es l) :
      RelDs X φ h (⟨PyData.keyHash X.w.params k, .str k t, x⟩ :: es) ((kl, v) :: l)
noncomputable def RelO (X : MC) (φ : List Addr) (h : Heap) (a : Addr) : Ob → Prop
  | .list l => ∃ items n, h.get? a = some ⟨.type "list", none, .seq items n, #[]⟩ ∧ l.length ≤ line ∧ RelVs X φ h items.toList l
  | .attrs l => ∃ es n, h.get? a = some (dictOf es n) ∧ RelAs X φ h es l
  | .inst d => ∃ dx, φ[d]? = some dx ∧ h.get? a = some (instObj (X.ca .small) dx)
  | .dict l => ∃ es n, h.get? a = some (dictOf es n) ∧ RelDs X φ h es l
structure Inv (X : MC) (φ : List Addr) (σ : Sto) (h : Heap) : Prop where
  keep : ∀ b o, X.base.get? b = some o → h.get? b = some o
  fresh : ∀ a ∈ φ, X.base.get? a = none
  nodup : φ.Nodup
  len : φ.length = σ.length
  objs : ∀ (i : Nat) (o : Ob), σ[i]? = some o → ∃ a, φ[i]? = some a ∧ RelO X φ h a o
  last : ∃ b o, X.base.objs.size ≤ b ∧ h.get? b = some o
/-- how a step may change the heap: the objects of φ, those of Z; all else stands -/
structure Ext (Z : List Addr) (φ φ' : List Addr) (h h' : Heap) : Prop where
  pre : ∀ (i : Nat) (a : Addr), φ[i]? = some a → φ'[i]? = some a
  new : ∀ a ∈ φ', a ∈ φ ∨ h.get? a = none
  keep : ∀ a o, h.get? a = some o → a ∉ φ → a ∉ Z → h'.get? a = some o
  dom : ∀ a o, h.get? a = some o → ∃ o', h'.get? a = some o'

theorem Ext.refl (Z φ : List Addr) (h : Heap) : Ext Z φ φ h h := ⟨fun _ _ e => e, fun a ha => .inl ha, fun _ _ e _ _ => e, fun a o e => ⟨o, e⟩⟩
theorem Ext.trans {Z φ φ' φ'' : List Addr} {h h' h'' : Heap} (x : Ext Z φ φ' h h') (y : Ext Z φ' φ'' h' h'') : Ext Z φ φ'' h h'' where
  pre := fun i a e => y.pre i a (x.pre i a e)
  new := fun a ha => by
    rcases y.new a ha with q | q
    · exact x.new a q
    · right
      cases e : h.get? a with
      | none => rfl
      | some o => obtain ⟨o', e'⟩ := x.dom a o e; rw [e'] at q; cases q
  keep := fun a o e hp hz => y.keep a o (x.keep a o e hp hz) (fun q => by
    rcases x.new a q with q | q
    · exact hp q
    · rw [e] at q; cases q) hz
  dom := fun a o e => let ⟨o', e'⟩ := x.dom a o e; y.dom a o' e'
theorem Ext.mono {Z Z' φ φ' : List Addr} {h h' : Heap} (x : Ext Z φ φ' h h') (hz : ∀ a ∈ Z, a ∈ Z') : Ext Z' φ φ' h h' :=
  ⟨x.pre, x.new, fun a o e hp hq => x.keep a o e hp fun m => hq (hz a m), x.dom⟩
theorem Ext.notin {Z φ φ' : List Addr} {h h' : Heap} (x : Ext Z φ φ' h h') {a : Addr} {o : Obj} (e : h.get? a = some o) (hp : a ∉ φ) : a ∉ φ' := fun q => by
  rcases x.new a q with q | q
  · exact hp q
  · rw [e] at q; cases q
/-- what is new to h may be in Z at no cost -/
theorem Ext.drop {Z φ φ' : List Addr} {h h' : Heap} {b : Addr} (x : Ext (b :: Z) φ φ' h h') (hb : h.get? b = none) : Ext Z φ φ' h h' :=
  ⟨x.pre, x.new, fun a o e hp hq => x.keep a o e hp fun m => by
    rcases List.mem_cons.mp m with q | q
    · rw [q, hb] at e; cases e
    · exact hq q, x.dom⟩
/-- the shape that RelV needs: sequences that are not φ's stand -/
noncomputable def SeqKeep (φ φ' : List Addr) (h h' : Heap) : Prop := (∀ (i : Nat) (a : Addr), φ[i]? = some a → φ'[i]? = some a) ∧ ∀ a c d items n sl, h.get? a = some ⟨c, d, .seq items n, sl⟩ → a ∉ φ → h'.get? a = some ⟨c, d, .seq items n, sl⟩ ∧ a ∉ φ'
mutual
theorem RelV.mono {X : MC} {φ φ' : List Addr} {h h' : Heap} (k : SeqKeep φ φ' h h') {x : Value} {v : Vl} (r : RelV X φ h x v) : RelV X φ' h' x v := by
  cases r with
  | none => exact .none
  | bool b => exact .bool b
  | int i t => exact .int i t
  | str x t l e hl => exact .str x t l e hl
  | tup a items n l ho ha hl hr => exact .tup a items n l (k.2 _ _ _ _ _ _ ho ha).1 (k.2 _ _ _ _ _ _ ho ha).2 hl (RelVs.mono k hr)
  | lst a items n l ho ha hl hr => exact .lst a items n l (k.2 _ _ _ _ _ _ ho ha).1 (k.2 _ _ _ _ _ _ ho ha).2 hl (RelVs.mono k hr)
  | ref i a ha => exact .ref i a (k.1 i a ha)
  | fn f a e => exact .fn f a e
  | cls c a e => exact .cls c a e
theorem RelVs.mono {X : MC} {φ φ' : List Addr} {h h' : Heap} (k : SeqKeep φ φ' h h') {x : List Value} {v : List Vl} (r : RelVs X φ h x v) : RelVs X φ' h' x v := by
  cases r with
  | nil => exact .nil
  | cons hx hs => exact .cons (RelV.mono k hx) (RelVs.mono k hs)
end
theorem RelAs.mono {X : MC} {φ φ' : List Addr} {h h' : Heap} (k : SeqKeep φ φ' h h') {es : List DictEntry} {l : List (At × Vl)} (r : RelAs X φ h es l) : RelAs X φ' h' es l := by
  induction r with
  | nil => exact .nil
  | cons hx _ ih => exact .cons (hx.mono k) ih
theorem RelDs.mono {X : MC} {φ φ' : List Addr} {h h' : Heap} (k : SeqKeep φ φ' h h') {es : List DictEntry} {l : List (List Nat × Vl)} (r : RelDs X φ h es l) : RelDs X φ' h' es l := by
  induction r with
  | nil => exact .nil
  | cons hk hx _ ih => exact .cons hk (hx.mono k) ih
theorem Ext.seq {φ φ' : List Addr} {h h' : Heap} (x : Ext [] φ φ' h h') : SeqKeep φ φ' h h' :=
  ⟨x.pre, fun a c d items n sl e hp => ⟨x.keep a _ e hp (by simp), x.notin e hp⟩⟩
theorem Ext.seqZ {Z φ φ' : List Addr} {h h' : Heap} (x : Ext Z φ φ' h h') (hz : ∀ a ∈ Z, ∀ c d items n sl, h.get? a ≠ some ⟨c, d, .seq items n, sl⟩) : SeqKeep φ φ' h h' :=
  ⟨x.pre, fun a c d items n sl e hp => ⟨x.keep a _ e hp (fun m => hz a m _ _ _ _ _ e), x.notin e hp⟩⟩

section
variable {X : MC} {φ : List Addr} {h : Heap}
theorem RelVs.length : ∀ {vs : List Vl} {xs : List Value}, RelVs X φ h xs vs → xs.length = vs.length
  | [], xs, r => by cases r; rfl
  | v :: vs, xs, r => by
    cases r with | cons hx hs =>
    exact congrArg (· + 1) (RelVs.length hs)
theorem RelVs.get : ∀ {vs : List Vl} {xs : List Value}, RelVs X φ h xs vs → ∀ {i : Nat} {v : Vl}, vs[i]? = some v → ∃ x, xs[i]? = some x ∧ RelV X φ h x v
  | [], xs, r, i, v, e => by rw [List.getElem?_nil] at e; cases e
  | u :: vs, xs, r, i, v, e => by
    cases r with | cons hx hs =>
    cases i with
    | zero => cases e; exact ⟨_, rfl, hx⟩
    | succ i => exact RelVs.get hs e
theorem RelVs.append : ∀ {vs : List Vl} {xs : List Value}, RelVs X φ h xs vs → ∀ {ys : List Value} {us : List Vl}, RelVs X φ h ys us → RelVs X φ h (xs ++ ys) (vs ++ us)
  | [], xs, r, _, _, q => by cases r; exact q
  | u :: vs, xs, r, _, _, q => by
    cases r with | cons hx hs =>
    exact .cons hx (RelVs.append hs q)
theorem RelVs.take : ∀ {vs : List Vl} {xs : List Value}, RelVs X φ h xs vs → ∀ n : Nat, RelVs X φ h (xs.take n) (vs.take n)
  | [], xs, r, n => by cases r; rw [List.take_nil, List.take_nil]; exact .nil
  | u :: vs, xs, r, n => by
    cases r with | cons hx hs =>
    cases n with
    | zero => exact .nil
    | succ n => exact .cons hx (RelVs.take hs n)
theorem RelVs.drop : ∀ {vs : List Vl} {xs : List Value}, RelVs X φ h xs vs → ∀ n : Nat, RelVs X φ h (xs.drop n) (vs.drop n)
  | [], xs, r, n => by cases r; rw [List.drop_nil, List.drop_nil]; exact .nil
  | u :: vs, xs, r, n => by
    cases r with | cons hx hs =>
    cases n with
    | zero => exact .cons hx hs
    | succ n => exact RelVs.drop hs n
theorem RelVs.set : ∀ {vs : List Vl} {xs : List Value}, RelVs X φ h xs vs → ∀ (n : Nat) {y : Value} {u : Vl}, RelV X φ h y u → RelVs X φ h (xs.set n y) (vs.set n u)
  | [], xs, r, n, _, _, q => by cases r; exact .nil
  | u :: vs, xs, r, n, _, _, q => by
    cases r with | cons hx hs =>
    cases n with
    | zero => exact .cons q hs
    | succ n => exact .cons hx (RelVs.set hs n q)
end

/-- the frame of a def of the text -/
structure Fm (X : MC) (φ : List Addr) (ns : List Str) (ρ : Loc) (L : Addr) (h : Heap) : Prop where
  fr : ∃ m, Fr X.base L h m ∧ ∀ i v, locGet ρ i = some v → ∃ x, m (nm ns i) = some x ∧ RelV X φ h x v
  out : L ∉ φ
  len : ρ.length = ns.length
theorem Fm.get {X : MC} {φ : List Addr} {ns : List Str} {ρ : Loc} {L : Addr} {h : Heap} (F : Fm X φ ns ρ L h) : ∃ o, h.get? L = some o ∧ ∀ c d items n sl, o ≠ ⟨c, d, .seq items n, sl⟩ := by
  obtain ⟨m, F, _⟩ := F.fr
  obtain ⟨o, es, ep, ho, hd, _⟩ := F.ns
  exact ⟨o, ho, fun c d items n sl e => by rw [e] at hd; cases hd⟩
/-- an expression does not touch the frame -/
theorem Fm.ext {X : MC} {φ φ' : List Addr} {ns : List Str} {ρ : Loc} {L : Addr} {h h' : Heap} (F : Fm X φ ns ρ L h) (x : Ext [] φ φ' h h') (I : ∀ b o, X.base.get? b = some o → h'.get? b = some o) : Fm X φ' ns ρ L h' := by
  obtain ⟨o, ho, _⟩ := F.get
  obtain ⟨m, Fr0, hm⟩ := F.fr
  refine ⟨⟨m, ⟨?_, I, Fr0.above⟩, fun i v e => ?_⟩, x.notin ho F.out, F.len⟩
  · obtain ⟨o', es, ep, a1, a2, a3⟩ := Fr0.ns
    exact ⟨o', es, ep, x.keep L o' a1 F.out (by simp), a2, a3⟩
  · obtain ⟨y, e1, r⟩ := hm i v e
    exact ⟨y, e1, r.mono x.seq⟩
theorem locGet_lt : ∀ {ρ : Loc} {i : Nat} {v : Vl}, locGet ρ i = some v → i < ρ.length
  | [], _, _, e => by cases e
  | _ :: _, 0, _, _ => by simp
  | _ :: r, n + 1, _, e => by simp; exact locGet_lt (ρ := r) e
theorem locSet_len : ∀ (ρ : Loc) (i : Nat) (v : Vl), (locSet ρ i v).length = ρ.length
  | [], _, _ => rfl
  | _ :: _, 0, _ => rfl
  | _ :: r, n + 1, v => by simp [locSet, locSet_len r n v]
theorem locGet_set : ∀ (ρ : Loc) (i : Nat) (v : Vl) (j : Nat), locGet (locSet ρ i v) j = if j = i ∧ i < ρ.length then some v else locGet ρ j
  | [], i, v, j => by simp [locSet, locGet]
  | x :: r, 0, v, 0 => by simp [locSet, locGet]
  | x :: r, 0, v, j + 1 => by simp [locSet, locGet]
  | x :: r, i + 1, v, 0 => by simp [locSet, locGet]
  | x :: r, i + 1, v, j + 1 => by simp [locSet, locGet, locGet_set r i v j]

/-- what the names of a def must be -/
structure NsOk (ns : List Str) (scope : Scope) : Prop where
  kind : scope.kind = .function
  loc : ∀ i, i < ns.length → scope.names.lookup (nm ns i) = some .local
  dbg : ∀ i, i < ns.length → (nm ns i == ("__debug__" : Str)) = false
  inj : ∀ i j, i < ns.length → j < ns.length → nm ns i = nm ns j → i = j

theorem Inv.mono {X : MC} {φ : List Addr} {σ : Sto} {h h' : Heap} (I : Inv X φ σ h) (hk : ∀ a o, h.get? a = some o → h'.get? a = some o) : Inv X φ σ h' := by
  have hs : SeqKeep φ φ h h' := ⟨fun _ _ e => e, fun a c d items n sl e hp => ⟨hk _ _ e, hp⟩⟩
  refine ⟨fun b o e => hk _ _ (I.keep b o e), I.fresh, I.nodup, I.len, fun i o e => ?_, let ⟨b, o, e, q⟩ := I.last; ⟨b, o, e, hk _ _ q⟩⟩
  obtain ⟨a, ha, r⟩ := I.objs i o e
  refine ⟨a, ha, ?_⟩
  cases o with
  | list l => obtain ⟨items, n, h1, h2, h3⟩ := r; exact ⟨items, n, hk _ _ h1, h2, h3.mono hs⟩
  | attrs l => obtain ⟨es, n, h1, h2⟩ := r; exact ⟨es, n, hk _ _ h1, h2.mono hs⟩
  | inst d => obtain ⟨dx, h1, h2⟩ := r; exact ⟨dx, h1, hk _ _ h2⟩
  | dict l => obtain ⟨es, n, h1, h2⟩ := r; exact ⟨es, n, hk _ _ h1, h2.mono hs⟩
theorem Ext.of_keeps {φ : List Addr} {h h' : Heap} (hk : ∀ a o, h.get? a = some o → h'.get? a = some o) (Z : List Addr) : Ext Z φ φ h h' :=
  ⟨fun _ _ e => e, fun a ha => .inl ha, fun a o e _ _ => hk a o e, fun a o e => ⟨o, hk a o e⟩⟩
theorem Ext.push {φ : List Addr} {h : Heap} (o : Obj) (Z : List Addr) : Ext Z φ φ h (h.push o) := .of_keeps (fun a o' e => Heap.get?_push_of_some o e) Z

theorem RelO.mono {X : MC} {φ φ' : List Addr} {h h' : Heap} (k : SeqKeep φ φ' h h') {a : Addr} {o : Ob} (r : RelO X φ h a o) (e : h'.get? a = h.get? a) : RelO X φ' h' a o := by
  cases o with
  | list l => obtain ⟨items, n, h1, h2, h3⟩ := r; exact ⟨items, n, e.trans h1, h2, h3.mono k⟩
  | attrs l => obtain ⟨es, n, h1, h2⟩ := r; exact ⟨es, n, e.trans h1, h2.mono k⟩
  | inst d => obtain ⟨dx, h1, h2⟩ := r; exact ⟨dx, k.1 _ _ h1, e.trans h2⟩
  | dict l => obtain ⟨es, n, h1, h2⟩ := r; exact ⟨es, n, e.trans h1, h2.mono k⟩
theorem fresh_size (h : Heap) : h.get? h.objs.size = none := by
  cases e : h.get? h.objs.size with
  | none => rfl
  | some o => exact absurd (Heap.lt_size e) (Nat.lt_irrefl _)
theorem Inv.stored {X : MC} {φ : List Addr} {σ : Sto} {h : Heap} (I : Inv X φ σ h) {i : Nat} {a : Addr} (e : φ[i]? = some a) : ∃ o, h.get? a = some o := by
  have hi : i < σ.length := by rw [← I.len]; exact (List.getElem?_eq_some_iff.mp e).1
  obtain ⟨a', ha, r⟩ := I.objs i σ[i] (by simp [hi])
  rw [e] at ha; cases ha
  cases q : σ[i] with
  | list l => rw [q] at r; obtain ⟨items, n, h1, _⟩ := r; exact ⟨_, h1⟩
  | attrs l => rw [q] at r; obtain ⟨es, n, h1, _⟩ := r; exact ⟨_, h1⟩
  | inst d => rw [q] at r; obtain ⟨dx, _, h1⟩ := r; exact ⟨_, h1⟩
  | dict l => rw [q] at r; obtain ⟨es, n, h1, _⟩ := r; exact ⟨_, h1⟩
theorem Inv.mem_stored {X : MC} {φ : List Addr} {σ : Sto} {h : Heap} (I : Inv X φ σ h) {a : Addr} (e : a ∈ φ) : ∃ o, h.get? a = some o := by
  obtain ⟨i, hi, q⟩ := List.getElem_of_mem e
  exact I.stored (i := i) (by simp [hi, q])
/-- a new object of the call's own -/
theorem Inv.alloc {X : MC} {φ : List Addr} {σ : Sto} {h : Heap} (I : Inv X φ σ h) (o : Obj) (hf : o.isFreed = false) (b : Ob)
    (r : h.get? h.objs.size = none → SeqKeep φ (φ ++ [h.objs.size]) h (h.push o) → RelO X (φ ++ [h.objs.size]) (h.push o) h.objs.size b) :
    Inv X (φ ++ [h.objs.size]) (σ ++ [b]) (h.push o) ∧ Ext [] φ (φ ++ [h.objs.size]) h (h.push o) := by
  have hfr := fresh_size h
  have hnot : h.objs.size ∉ φ := fun q => by obtain ⟨o', e⟩ := I.mem_stored q; rw [hfr] at e; cases e
  have hE : Ext [] φ (φ ++ [h.objs.size]) h (h.push o) := by
    refine ⟨fun i a e => ?_, fun a ha => ?_, fun a o' e _ _ => Heap.get?_push_of_some o e, fun a o' e => ⟨o', Heap.get?_push_of_some o e⟩⟩
    · rw [List.getElem?_append_left (List.getElem?_eq_some_iff.mp e).1]; exact e
    · rcases List.mem_append.mp ha with q | q
      · exact .inl q
      · simp at q; subst q; exact .inr hfr
  refine ⟨⟨fun b' o' e => Heap.get?_push_of_some o (I.keep b' o' e), fun a ha => ?_, ?_, by simp [I.len], fun i o' e => ?_, let ⟨b, o1, e, q⟩ := I.last; ⟨b, o1, e, Heap.get?_push_of_some o q⟩⟩, hE⟩
  · rcases List.mem_append.mp ha with q | q
    · exact I.fresh a q
    · simp at q; subst q
      cases e : X.base.get? h.objs.size with
      | none => rfl
      | some o' => rw [I.keep _ _ e] at hfr; cases hfr
  · rw [List.nodup_append]
    refine ⟨I.nodup, by simp, fun a ha b hb => ?_⟩
    simp at hb; subst hb
    intro q; subst q; exact hnot ha
  · by_cases hi : i < σ.length
    · rw [List.getElem?_append_left hi] at e
      obtain ⟨a, ha, r'⟩ := I.objs i o' e
      refine ⟨a, hE.pre i a ha, r'.mono hE.seq ?_⟩
      obtain ⟨o'', e''⟩ := I.stored ha
      rw [e'', Heap.get?_push_of_some o e'']
    · have hi' : i = σ.length := by
        have := (List.getElem?_eq_some_iff.mp e).1
        simp at this; omega
      subst hi'
      simp at e; subst e
      exact ⟨h.objs.size, by rw [← I.len]; simp, r hfr hE.seq⟩
/-- one object of the call's own is changed -/
theorem Inv.change {X : MC} {φ : List Addr} {σ : Sto} {h h' : Heap} (I : Inv X φ σ h) {i : Nat} {a : Addr} (ha : φ[i]? = some a) (hs : Heap.SameBut a h h') (b : Ob)
    (hd : ∃ o, h'.get? a = some o)
    (r : SeqKeep φ φ h h' → RelO X φ h' a b) : Inv X φ (σ.set i b) h' ∧ Ext [] φ φ h h' := by
  have hm : a ∈ φ := List.mem_of_getElem? ha
  have hE : Ext [] φ φ h h' := by
    refine ⟨fun _ _ e => e, fun _ q => .inl q, fun c o e hp _ => (hs.2 c fun q => hp (q ▸ hm)).trans e, fun c o e => ?_⟩
    by_cases q : c = a
    · subst q; exact hd
    · exact ⟨o, (hs.2 c q).trans e⟩
  refine ⟨⟨fun b' o' e => (hs.2 b' fun q => ?_).trans (I.keep b' o' e), I.fresh, I.nodup, by simp [I.len], fun j o' e => ?_, let ⟨b1, o1, e, q⟩ := I.last; let ⟨o2, q2⟩ := hE.dom b1 o1 q; ⟨b1, o2, e, q2⟩⟩, hE⟩
  · have := I.fresh a hm; rw [← q, e] at this; cases this
  · by_cases hj : j = i
    · subst hj
      have hl : j < σ.length := by rw [← I.len]; exact (List.getElem?_eq_some_iff.mp ha).1
      simp [hl] at e; subst e
      exact ⟨a, ha, r hE.seq⟩
    · rw [List.getElem?_set_ne (Ne.symm hj)] at e
      obtain ⟨a', ha', r'⟩ := I.objs j o' e
      refine ⟨a', ha', r'.mono hE.seq (hs.2 a' fun q => ?_)⟩
      subst q
      obtain ⟨l1, e1⟩ := List.getElem?_eq_some_iff.mp ha
      obtain ⟨l2, e2⟩ := List.getElem?_eq_some_iff.mp ha'
      exact hj ((List.getElem_inj I.nodup).mp (e2.trans e1.symm))
end

section
variable {X : MC} {A : Around} {s : Shared} {φ : List Addr} {σ : Sto} {E : Value → Shared → Prop}

noncomputable def Post (X : MC) (φ : List Addr) (s : Shared) (σ' : Sto) (v : Vl) (Q : Value → Shared → Prop) : Prop :=
  ∀ φ' h' tk' x, Inv X φ' σ' h' → Ext [] φ φ' s.heap h' → RelV X φ' h' x v → Q x { s with heap := h', toks := tk' }
theorem Post.same {v : Vl} {Q : Value → Shared → Prop} (P : Post X φ s σ v Q) (I : Inv X φ σ s.heap) (tk : Nat) {x : Value} (r : RelV X φ s.heap x v) : Q x { s with toks := tk } :=
  P φ s.heap tk x I (.refl ..) r
theorem line_is : (line : Nat) = sizeLine := rfl
theorem line_eq : line = 16777216 := rfl

theorem list_at (I : Inv X φ σ s.heap) {i : Nat} {a : Addr} {l : List Vl} (ha : φ[i]? = some a) (e : σ[i]? = some (.list l)) :
    ∃ items n, IsL s.heap a items n ∧ l.length ≤ line ∧ RelVs X φ s.heap items.toList l := by
  obtain ⟨a', ha', r⟩ := I.objs i _ e
  rw [ha] at ha'; cases ha'
  exact r
theorem lstOf_at (I : Inv X φ σ s.heap) {v : Vl} {x : Value} {l : List Vl} (r : RelV X φ s.heap x v) (e : lstOf σ v = some l) :
    ∃ a items n, x = .ref a ∧ IsL s.heap a items n ∧ l.length ≤ line ∧ RelVs X φ s.heap items.toList l := by
  cases r with
  | lst a items n l' ho ha hl hr => cases e; exact ⟨a, items, n, rfl, ho, hl, hr⟩
  | ref i a ha =>
    obtain ⟨items, n, h1, h2, h3⟩ := list_at I ha (lstI_eq e)
    exact ⟨a, items, n, rfl, h1, h2, h3⟩
  | _ => cases e

theorem truthV_ok (I : Inv X φ σ s.heap) {v : Vl} {x : Value} {b : Bool} (r : RelV X φ s.heap x v) (e : truthV σ v = some b) {Q : Bool → Shared → Prop}
    (h : ∀ tk, Q b { s with toks := tk }) : wpAny (model X.prog X.w) A (truthy x) Q E s := by
  have key : ∀ a items n l, IsL s.heap a items n → l.length ≤ line → RelVs X φ s.heap items.toList l → (!l.isEmpty) = b → wpAny (model X.prog X.w) A (truthy (.ref a)) Q E s := by
    rintro a items n l h1 h2 h3 rfl
    have hl : items.size = l.length := by rw [← h3.length]; simp
    refine wpAny_truthy_list h1.isList (by rw [line_eq] at h2; omega) ?_
    have : (!items.isEmpty) = (!l.isEmpty) := by
      cases l with
      | nil => simp at hl; simp [hl]
      | cons y l => have : items.size ≠ 0 := by simp at hl; omega
                    simp [Array.isEmpty, this]
    rw [this]; exact h _
  cases r with
  | bool c => cases e; exact wpAny_truthy_bool (h s.toks)
  | lst a items n l' ho ha hl hr => exact key a items n l' ho hl hr (Option.some.inj e)
  | ref i a ha =>
    refine mapE e fun l e1 e2 => ?_
    obtain ⟨items, n, h1, h2, h3⟩ := list_at I ha (lstI_eq e1)
    exact key a items n l h1 h2 h3 e2
  | _ => cases e

theorem str_len (x : Str) {l : List Nat} (e : x.cps.toList = l) : x.length = l.length := by rw [← e]; simp [Str.length]
theorem cat_cps (x y : Str) : (x ++ y).cps.toList = x.cps.toList ++ y.cps.toList := by
  rw [Str.cps_append]; simp
/-- the sum of two texts -/
theorem addStr_ok (I : Inv X φ σ s.heap) {x y : Str} {t u : Tok} {a b : List Nat} (hx : x.cps.toList = a) (hy : y.cps.toList = b) (hl : a.length + b.length ≤ line) {Q : Value → Shared → Prop}
    (P : Post X φ s σ (.str (a ++ b)) Q) : (if (x.length == 0) = true then Made.val (.str y u) else if (y.length == 0) = true then Made.val (.str x t) else Made.str (x ++ y)).post Q s := by
  have lx := str_len x hx
  have ly := str_len y hy
  split
  · rename_i h0
    have : a = [] := by have := eq_of_beq h0; rw [lx] at this; exact List.eq_nil_of_length_eq_zero this
    subst this
    exact P.same I s.toks (.str y u _ (by simpa using hy) (by simpa using hl))
  · split
    · rename_i h0
      have : b = [] := by have := eq_of_beq h0; rw [ly] at this; exact List.eq_nil_of_length_eq_zero this
      subst this
      exact P.same I s.toks (.str x t _ (by simpa using hx) (by simpa using hl))
    · have hc := cat_cps x y
      rw [hx, hy] at hc
      refine ⟨?_, P.same I _ (.str _ _ _ hc (by simpa using hl))⟩
      rw [str_len _ hc]; simpa [line_is] using hl
theorem intMul {a b : Int} (ha : a.natAbs < big) (hb : b.natAbs < big) : IntMulOk a b := by
  unfold IntMulOk
  have h1 : ∀ {c : Int}, c.natAbs < big → Builtin.Int.intBits c ≤ 64 := fun {c} hc => by
    unfold Builtin.Int.intBits
    split
    · omega
    · rename_i h0
      have h0' : c ≠ 0 := by simpa using h0
      have : c.natAbs.log2 < 40 := by
        rw [Nat.log2_lt (by omega)]
        exact hc
      omega
  have := h1 ha
  have h2 : ¬ (Builtin.Int.intBits a > shortFactorBits) := by unfold shortFactorBits; omega
  simp [h2]
theorem noPylong (a : Int) {b : Int} (h0 : 0 < b) (hb : b < big) : ¬ Builtin.divisionGoesByPylong a b = true := by
  unfold Builtin.divisionGoesByPylong
  have hb' : b.natAbs < 2 ^ 40 := by have : (big : Int) = 2 ^ 40 := by decide
                                     omega
  have h1 : b.natAbs.log2 < 40 := (Nat.log2_lt (by omega)).mpr hb'
  have h2 : ¬ (b == 0) = true := by simp; omega
  simp only [h2, if_false]
  have : ¬ (b.natAbs.log2 / 30 + 1 > 300) := by omega
  simp [this]
theorem newSeq (h : Heap) (o : Obj) (hf : o.isFreed = false) : (h.push o).get? h.objs.size = some o := Heap.get?_push_size h hf
theorem Post.push {v : Vl} {Q : Value → Shared → Prop} (P : Post X φ s σ v Q) (I : Inv X φ σ s.heap) (o : Obj) (tk : Nat) {x : Value}
    (r : s.heap.objs.size ∉ φ → RelV X φ (s.heap.push o) x v) : Q x { s with heap := s.heap.push o, toks := tk } :=
  P φ _ tk x (I.mono fun a o' e => Heap.get?_push_of_some o e) (.push o []) (r fun q => by obtain ⟨o', e⟩ := I.mem_stored q; rw [fresh_size] at e; cases e)
theorem RelVs.push {h : Heap} {xs : List Value} {vs : List Vl} (r : RelVs X φ h xs vs) (o : Obj) : RelVs X φ (h.push o) xs vs :=
  r.mono (Ext.push o []).seq
theorem intsO_ok {f : Int → Int → Option Vl} {v u w : Vl} {x y : Value} (rx : RelV X φ s.heap x v) (ry : RelV X φ s.heap y u) (e : intsO f v u = some w) {P : Prop} (k : ∀ a b t t', x = .int a t → y = .int b t' → f a b = some w → P) : P :=
  bindE e fun a h1 e => bindE e fun b h2 e => by
    rw [vInt_eq h1] at rx; rw [vInt_eq h2] at ry
    cases rx; cases ry; exact k _ _ _ _ rfl rfl e
theorem addV_ok (I : Inv X φ σ s.heap) {v u w : Vl} {x y : Value} (rx : RelV X φ s.heap x v) (ry : RelV X φ s.heap y u) (e : addV σ v u = some w) {Q : Value → Shared → Prop}
    (k : Post X φ s σ w Q) : wpAny (model X.prog X.w) A (binaryOp .Add x y) Q E s := by
  cases rx with
  | int a t =>
    refine mapE e fun b h1 h2 => ?_
    rw [vInt_eq h1] at ry
    subst h2
    cases ry; exact P.add_int (k.same I _ (.int _ _))
  | str x1 t1 l1 e1 h1 =>
    refine bindE e fun b q1 e => ifE e fun hb e => ?_
    rw [vStr_eq q1] at ry
    cases e
    cases ry with | str y1 t2 l2 e2 h2 => exact P.add_str (addStr_ok I e1 e2 hb k)
  | ref i a1 ha =>
    refine bindE e fun l1 q1 e => bindE e fun l2 q2 e => ifE e fun hb e => ?_
    cases e
    obtain ⟨items1, n1, h1, h2, h3⟩ := list_at I ha (lstI_eq q1)
    obtain ⟨a2, items2, n2, rfl, k1, k2, k3⟩ := lstOf_at I ry q2
    have z1 : items1.size = l1.length := by rw [← h3.length]; simp
    have z2 : items2.size = l2.length := by rw [← k3.length]; simp
    refine P.add_list h1 k1 (k.push I _ _ fun hn => ?_) (by rw [z1, z2]; exact hb)
    refine .lst _ (items1 ++ items2) 0 _ (newSeq _ _ rfl) hn (by simpa using hb) ?_
    rw [Array.toList_append]
    exact (h3.push _).append (k3.push _)
  | _ => cases e
theorem binV_ok (I : Inv X φ σ s.heap) {op : Bop} {v u w : Vl} {x y : Value} (rx : RelV X φ s.heap x v) (ry : RelV X φ s.heap y u) (e : binV σ op v u = some w) {Q : Value → Shared → Prop}
    (k : Post X φ s σ w Q) : wpAny (model X.prog X.w) A (binaryOp op.py x y) Q E s := by
  cases op with
  | add => exact addV_ok I rx ry e k
  | sub =>
    refine intsO_ok rx ry e fun a b t t' h1 h2 e => ?_
    subst h1 h2; cases e; exact P.sub_int (k.same I _ (.int _ _))
  | mul =>
    refine intsO_ok rx ry e fun a b t t' h1 h2 e => ifE e fun hb e => ?_
    subst h1 h2; cases e; exact P.mul_int (k.same I _ (.int _ _)) (intMul hb.1 hb.2)
  | fdiv =>
    refine intsO_ok rx ry e fun a b t t' h1 h2 e => ifE e fun hb e => ?_
    subst h1 h2; cases e
    refine AutoIntOps.floordiv_1 (by simp; omega) (noPylong _ hb.1 hb.2) ?_
    rw [Int.fdiv_eq_ediv_of_nonneg _ (by omega)]
    exact k.same I _ (.int _ _)
  | mod =>
    refine intsO_ok rx ry e fun a b t t' h1 h2 e => ifE e fun hb e => ?_
    subst h1 h2; cases e
    refine AutoIntOps.mod_1 (by simp; omega) ?_
    rw [Int.fmod_eq_emod_of_nonneg _ (by omega)]
    exact k.same I _ (.int _ _)
theorem augV_ok (I : Inv X φ σ s.heap) {op : Bop} {v u w : Vl} {x y : Value} (rx : RelV X φ s.heap x v) (ry : RelV X φ s.heap y u) (e : augV op v u = some w) {Q : Value → Shared → Prop}
    (k : Post X φ s σ w Q) : wpAny (model X.prog X.w) A (inplaceOp op.py x y) Q E s := by
  cases op with
  | add =>
    cases rx with
    | int a t =>
      refine mapE e fun b h1 h2 => ?_
      rw [vInt_eq h1] at ry
      subst h2
      cases ry; exact wpAny_iadd_int (k.same I _ (.int _ _))
    | str x1 t1 l1 e1 h1 =>
      refine bindE e fun b q1 e => ifE e fun hb e => ?_
      rw [vStr_eq q1] at ry
      cases e
      cases ry with | str y1 t2 l2 e2 h2 => exact P.iadd_str (addStr_ok I e1 e2 hb k)
    | _ => cases e
  | sub =>
    refine intsO_ok rx ry e fun a b t t' h1 h2 e => ?_
    subst h1 h2; cases e; exact P.isub_int (k.same I _ (.int _ _))
  | _ => cases e

theorem str_beq (a b : Str) : (a == b) = (a.cps.toList == b.cps.toList) := by
  have h : (a = b) ↔ (a.cps.toList = b.cps.toList) := ⟨fun h => by rw [h], fun h => Str.ext' (Array.ext' h)⟩
  by_cases q : a = b
  · subst q; simp
  · have q' : ¬ a.cps.toList = b.cps.toList := fun z => q (h.mpr z)
    rw [beq_eq_false_iff_ne.mpr q, beq_eq_false_iff_ne.mpr q']
theorem str_inj {a b : Str} (h : a.cps.toList = b.cps.toList) : a = b := Str.ext' (Array.ext' h)
noncomputable def isText (x : Str) : Value → Bool
  | .str z _ => z == x
  | _ => false
theorem inStrs_ok {h : Heap} {x : Str} {a : List Nat} (hx : x.cps.toList = a) : ∀ {l : List Vl} {ys : List Value} {b : Bool}, RelVs X φ h ys l → inStrs a l = some b →
    (∀ y ∈ ys, ∃ z u, y = .str z u) ∧ ys.any (isText x) = b
  | [], ys, b, r, e => by cases r; cases e; exact ⟨(fun _ h => nomatch h), rfl⟩
  | v :: l, ys, b, r, e => by
    refine bindE e fun c q e => mapE e fun b' e' e => ?_
    rw [vStr_eq q] at r
    cases r with | cons hy hs =>
    obtain ⟨h1, h2⟩ := inStrs_ok hx hs e'
    cases hy with | str z u lz ez hz =>
    refine ⟨fun y hy => ?_, ?_⟩
    · rcases List.mem_cons.mp hy with rfl | hy
      · exact ⟨z, u, rfl⟩
      · exact h1 y hy
    · rw [← e, List.any_cons, h2]
      simp only [isText, str_beq, ez, hx]
theorem eqAt_text (x : Str) (t : Tok) {y : Value} (h : ∃ z u, y = .str z u) (B : Around) (s' : Shared) : SeqAt.EqAt B s' y (.str x t) (isText x y) := by
  obtain ⟨z, u, rfl⟩ := h
  exact (eqGives_str z x u t).at B s'

theorem relDs_find {h : Heap} {es : List DictEntry} {l : List (List Nat × Vl)} (r : RelDs X φ h es l) (k : Str) :
    (match dictGet k.cps.toList l with
      | some v => ∃ x, ((es.find? fun e => Value.isStrOf k e.key).map (·.val)) = some x ∧ RelV X φ h x v
      | none => ((es.find? fun e => Value.isStrOf k e.key).map (·.val)) = none) := by
  induction r with
  | nil => simp [dictGet]
  | @cons k' kl t x v es l hk hx hs ih =>
    simp only [dictGet]
    by_cases q : kl = k.cps.toList
    · have hk' : k' = k := str_inj (hk.trans q)
      rw [if_pos q]
      refine ⟨x, ?_, hx⟩
      simp [Value.isStrOf, hk']
    · have hk' : (k' == k) = false := beq_eq_false_iff_ne.mpr fun z => q (by rw [← hk, z])
      rw [if_neg q]
      have : (List.find? (fun e => Value.isStrOf k e.key) (⟨PyData.keyHash X.w.params k', .str k' t, x⟩ :: es)) = List.find? (fun e => Value.isStrOf k e.key) es := by
        rw [List.find?_cons]
        simp only [Value.isStrOf, hk']
      rw [this]
      exact ih
theorem relDs_keys {h : Heap} {es : List DictEntry} {l : List (List Nat × Vl)} (r : RelDs X φ h es l) : ∀ e ∈ es, ∃ x t, e.key = .str x t ∧ e.hash = PyData.keyHash X.w.params x := by
  induction r with
  | nil => exact fun _ h => nomatch h
  | @cons k' kl t x v es l hk hx hs ih =>
    intro e he
    rcases List.mem_cons.mp he with rfl | he
    · exact ⟨k', t, rfl, rfl⟩
    · exact ih e he
theorem mapOf_D {h : Heap} {a : Addr} {es : List DictEntry} {n : Nat} {l : List (List Nat × Vl)} (ho : h.get? a = some (dictOf es n)) (r : RelDs X φ h es l) :
    h.MapOf (strKind X.prog X.w) a (fun k => (es.find? fun e => Value.isStrOf k e.key).map (·.val)) := by
  refine ⟨_, es.toArray, n, ho, ⟨rfl, rfl, rfl⟩, rfl, fun e he => ?_, fun k => ?_⟩
  · obtain ⟨x, t, e1, e2⟩ := relDs_keys r e (by simpa using he)
    exact ⟨x, by rw [e1]; exact strKind_is X.prog X.w x t, e2⟩
  · unfold findBy
    rw [List.find?_toArray]
    rfl
theorem dict_at (I : Inv X φ σ s.heap) {i : Nat} {a : Addr} {l : List (List Nat × Vl)} (ha : φ[i]? = some a) (e : σ[i]? = some (.dict l)) :
    ∃ es n, s.heap.get? a = some (dictOf es n) ∧ RelDs X φ s.heap es l := by
  obtain ⟨a', ha', r⟩ := I.objs i _ e
  rw [ha] at ha'; cases ha'
  exact r
theorem notSys (B : X.base.get? sysModules ≠ none) (I : Inv X φ σ s.heap) {i : Nat} {a : Addr} (ha : φ[i]? = some a) : (a == sysModules) = false := by
  refine beq_eq_false_iff_ne.mpr fun q => B ?_
  rw [← q]; exact I.fresh a (List.mem_of_getElem? ha)

/-- two lists of texts -/
noncomputable def EqAs (xs ys : List Value) (r : Bool) : Prop := (xs.length ≠ ys.length ∧ r = false) ∨ (xs.length = ys.length ∧ ∃ e : Nat → Bool, (∀ (B : Around) (s' : Shared) j (x y : Value), xs[j]? = some x → ys[j]? = some y → SeqAt.EqAt B s' x y (e j)) ∧ (List.range xs.length).all e = r)
noncomputable def consB (q : Bool) (e : Nat → Bool) : Nat → Bool
  | 0 => q
  | j + 1 => e j
theorem all_consB (q : Bool) (e : Nat → Bool) (n : Nat) : (List.range (n + 1)).all (consB q e) = (q && (List.range n).all e) := by
  rw [List.range_succ_eq_map, List.all_cons, List.all_map]; rfl
theorem EqAs.cons {xs ys : List Value} {x y : Value} {q r : Bool} (h : ∀ (B : Around) (s' : Shared), SeqAt.EqAt B s' x y q) (t : EqAs xs ys r) : EqAs (x :: xs) (y :: ys) (q && r) := by
  rcases t with ⟨h1, h2⟩ | ⟨h1, e0, h2, h3⟩
  · exact .inl ⟨by simpa using h1, by rw [h2, Bool.and_false]⟩
  · refine .inr ⟨by simpa using h1, consB q e0, fun B s' j a b e1 e2 => ?_, by rw [← h3]; exact all_consB ..⟩
    cases j with
    | zero => cases e1; cases e2; exact h B s'
    | succ j => exact h2 B s' j a b (by simpa using e1) (by simpa using e2)
theorem eqStrs_ok {h : Heap} : ∀ {a b : List Vl} {xs ys : List Value} {r : Bool}, RelVs X φ h xs a → RelVs X φ h ys b → eqStrs a b = some r → EqAs xs ys r
  | [], b, xs, ys, r, hx, hy, e => by
    cases hx
    cases hy with
    | nil => cases e; exact .inr ⟨rfl, fun _ => true, fun B s' j x y e1 _ => by simp at e1, rfl⟩
    | cons => cases e; exact .inl ⟨by simp, rfl⟩
  | v :: a, [], xs, ys, r, hx, hy, e => by
    cases hx; cases hy; cases e; exact .inl ⟨by simp, rfl⟩
  | v :: a, u :: b, xs, ys, r, hx, hy, e => by
    refine bindE e fun p q1 e => bindE e fun c q2 e => mapE e fun r' e' e => ?_
    rw [vStr_eq q1] at hx; rw [vStr_eq q2] at hy
    cases hx with | cons hx hs => cases hy with | cons hy hs' =>
    have ih := eqStrs_ok hs hs' e'
    cases hx with | str x t lx ex zx => cases hy with | str y w ly ey zy =>
    rw [← e, ← ex, ← ey, ← str_beq]
    exact ih.cons fun B s' => (eqGives_str x y t w).at B s'
theorem range_all_congr {n : Nat} {e e' : Nat → Bool} (h : ∀ j, j < n → e j = e' j) : (List.range n).all e = (List.range n).all e' := by
  rw [Bool.eq_iff_iff]
  simp only [List.all_eq_true, List.mem_range]
  exact ⟨fun q j hj => (h j hj) ▸ q j hj, fun q j hj => (h j hj).symm ▸ q j hj⟩
theorem eqLst_at {B : Around} {s' : Shared} {a b : Addr} {xs ys : Array Value} {n m : Nat} {k l : List Vl} {r : Bool} (h1 : IsL s'.heap a xs n) (h2 : IsL s'.heap b ys m)
    (r1 : RelVs X φ s'.heap xs.toList k) (r2 : RelVs X φ s'.heap ys.toList l) (e : eqStrs k l = some r) (hu : B.units < cLine) {prog : Program} {w : World} {E' : Value → Shared → Prop} {Q : Value → Shared → Prop} (h : Q (.bool r) s') :
    wpAny (model prog w) B (compareOp .Eq (.ref a) (.ref b)) Q E' s' := by
  rcases eqStrs_ok r1 r2 e with ⟨z, rfl⟩ | ⟨z, e0, he, hr⟩
  · exact SeqAt.eq_list_lengthsAt h1.isList h2.isList (by simpa using z) hu h
  · refine SeqAt.eq_listAt (e := e0) h1.isList h2.isList (by simpa using z) hu (fun j q1 q2 => he _ _ j _ _ (by simp [q1]) (by simp [q2])) ?_
    have : (List.range xs.size).all e0 = r := by simpa using hr
    rw [this]; exact h
theorem eqStrs_same {h : Heap} : ∀ {a b : List Vl} {xs : List Value} {r : Bool}, RelVs X φ h xs a → RelVs X φ h xs b → eqStrs a b = some r → r = true
  | [], b, xs, r, hx, hy, e => by cases hx; cases hy; cases e; rfl
  | v :: a, [], xs, r, hx, hy, e => by cases hx; cases hy
  | v :: a, u :: b, xs, r, hx, hy, e => by
    refine bindE e fun p q1 e => bindE e fun c q2 e => mapE e fun r' e' e => ?_
    rw [vStr_eq q1] at hx; rw [vStr_eq q2] at hy
    cases hx with | cons hx hs => cases hy with | cons hy hs' =>
    have ih := eqStrs_same hs hs' e'
    cases hx with | str x t lx ex zx => cases hy with | str _ _ ly ey zy =>
    rw [← e, ih, ← ex, ← ey]; simp
theorem eqLists_ok {B : Around} {s' : Shared} (hu : B.units < cLine) : ∀ {a b : List Vl} {xs ys : List Value} {r : Bool}, RelVs X φ s'.heap xs a → RelVs X φ s'.heap ys b → eqLists a b = some r →
    (xs.length = ys.length ∧ ∃ e : Nat → Bool, (∀ j (x y : Value), xs[j]? = some x → ys[j]? = some y → SeqAt.EqAt B s' x y (e j)) ∧ (List.range xs.length).all e = r)
  | [], [], xs, ys, r, hx, hy, e => by
    cases hx; cases hy; cases e
    exact ⟨rfl, fun _ => true, fun j x y e1 _ => by simp at e1, rfl⟩
  | [], _ :: _, xs, ys, r, hx, hy, e => nomatch e
  | _ :: _, [], xs, ys, r, hx, hy, e => nomatch e
  | v :: a, u :: b, xs, ys, r, hx, hy, e => by
    refine bindE e fun p q1 e => bindE e fun c q2 e => bindE e fun r1 e1 e => mapE e fun r2 e2 e => ?_
    rw [vLst_eq q1] at hx; rw [vLst_eq q2] at hy
    cases hx with | cons hx hs => cases hy with | cons hy hs' =>
    obtain ⟨h1, e0, h2, h3⟩ := eqLists_ok hu hs hs' e2
    cases hx with | lst a1 i1 n1 l1 o1 m1 z1 t1 => cases hy with | lst a2 i2 n2 l2 o2 m2 z2 t2 =>
    have hd : SeqAt.EqAt B s' (.ref a1) (.ref a2) r1 := by
      by_cases q : a1 = a2
      · subst q
        rw [o1] at o2; cases o2
        rw [eqStrs_same t1 t2 e1]
        exact SeqAt.EqAt.same _
      · exact SeqAt.EqAt.of_refs q fun prog w E' Q hq => eqLst_at (X := X) (φ := φ) o1 o2 t1 t2 e1 hu hq
    refine ⟨by simpa using h1, consB r1 e0, fun j x y d1 d2 => ?_, by rw [← e, ← h3]; exact all_consB ..⟩
    cases j with
    | zero => cases d1; cases d2; exact hd
    | succ j => exact h2 j x y (by simpa using d1) (by simpa using d2)
theorem eqListsTop {a b : Addr} {xs ys : Array Value} {n m : Nat} {k l : List Vl} {r : Bool} (h1 : IsL s.heap a xs n) (h2 : IsL s.heap b ys m)
    (r1 : RelVs X φ s.heap xs.toList k) (r2 : RelVs X φ s.heap ys.toList l) (e : eqLists k l = some r) (hu : A.in1.units < cLine) {Q : Value → Shared → Prop} (h : Q (.bool r) s) :
    wpAny (model X.prog X.w) A (compareOp .Eq (.ref a) (.ref b)) Q E s := by
  obtain ⟨z, e0, he, hr⟩ := eqLists_ok (B := A.in1) hu r1 r2 e
  refine SeqAt.eq_listAt (e := e0) h1.isList h2.isList (by simpa using z) (by simp only [Around.in1_units] at hu; omega) (fun j q1 q2 => he j _ _ (by simp [q1]) (by simp [q2])) ?_
  have : (List.range xs.size).all e0 = r := by simpa using hr
  rw [this]; exact h

theorem inOne (x y : Str) {b : List Nat} {c : Nat} (hx : x.cps.toList = b) (hy : y.cps.toList = [c]) : (!(Builtin.Str.occurrences x y 0 x.length 1).isEmpty) = b.contains c := by
  have : y = ⟨#[c]⟩ := str_inj (by rw [hy])
  subst this
  rw [StrLaws.found_one, hx]
  rw [Bool.eq_iff_iff]; simp
theorem intsV_ok {f : Int → Int → Bool} {v u : Vl} {b : Bool} {x y : Value} (rx : RelV X φ s.heap x v) (ry : RelV X φ s.heap y u) (e : intsV f v u = some b) {P : Prop} (k : ∀ a c t t', x = .int a t → y = .int c t' → f a c = b → P) : P :=
  bindE e fun a h1 e => mapE e fun c h2 e => by
    rw [vInt_eq h1] at rx; rw [vInt_eq h2] at ry
    cases rx; cases ry; exact k _ _ _ _ rfl rfl e
theorem inW_ok (I : Inv X φ σ s.heap) (B : X.base.get? sysModules ≠ none) {x : Str} {t : Tok} {a : List Nat} {u : Vl} {b : Bool} {y : Value} (hx : x.cps.toList = a) (ry : RelV X φ s.heap y u) (e : inW σ a u = some b) {Q : Value → Shared → Prop}
    {neg : Bool} (k : ∀ tk, Q (.bool (neg != b)) { s with toks := tk }) : wpAny (model X.prog X.w) A (compareOp (match neg with | true => .NotIn | false => .In) (.str x t) y) Q E s := by
  cases ry with
  | tup a it n l ho ha hl hr =>
    obtain ⟨z1, z2⟩ := inStrs_ok hx hr e
    have h2 : it.any (isText x) = b := by rw [← z2]; simp
    have k := k s.toks
    rw [← h2] at k
    cases neg with
    | false => rw [Bool.false_bne] at k; exact SeqAt.in_tupleAt (isText x) ⟨_, ho, rfl, n, rfl⟩ (fun y hy => eqAt_text x t (z1 y (by simpa using hy)) _ _) k
    | true => rw [Bool.true_bne] at k; exact SeqAt.notIn_tupleAt (isText x) ⟨_, ho, rfl, n, rfl⟩ (fun y hy => eqAt_text x t (z1 y (by simpa using hy)) _ _) k
  | str y1 t2 l2 e2 h2 =>
    refine mapE e fun c q e => ?_
    have h1 := inOne y1 x e2 (hx.trans (oneC_eq q))
    rw [e] at h1
    have k := k s.toks
    rw [← h1] at k
    cases neg with
    | false => rw [Bool.false_bne] at k; exact P.in_str k
    | true => rw [Bool.true_bne] at k; exact P.notIn_str k
  | ref i a ha =>
    refine mapE e fun l q e => ?_
    obtain ⟨es, n, ho, hr⟩ := dict_at I ha (dctI_eq q)
    have h1 : ((es.find? fun e => Value.isStrOf x e.key).map (·.val)).isSome = b := by
      have := relDs_find hr x
      rw [hx] at this
      rw [← e]
      cases q' : dictGet _ l with
      | none => rw [q'] at this; rw [this]; rfl
      | some v => rw [q'] at this; obtain ⟨x, h1, _⟩ := this; rw [h1]; rfl
    have k := fun tk => k tk
    rw [← h1] at k
    cases neg with
    | false => simp only [Bool.false_bne] at k; exact wpAny_in_of (strKind_is _ _ x t) (notSys B I ha) (mapOf_D ho hr) (k _)
    | true => simp only [Bool.true_bne] at k; exact wpAny_notIn_of (strKind_is _ _ x t) (notSys B I ha) (mapOf_D ho hr) (k _)
  | _ => cases e
theorem isV_ok {v u : Vl} {b : Bool} {x y : Value} (rx : RelV X φ s.heap x v) (ry : RelV X φ s.heap y u) (e : isV v u = some b) {P : Prop} (k : y = .none → ((x = .none ∧ b = true) ∨ ∃ a, x = .ref a ∧ b = false) → P) : P :=
  bindE e fun _ h1 e => by
    rw [vNone_eq h1] at ry
    cases ry
    refine k rfl ?_
    cases rx <;> cases e <;> first | exact .inl ⟨rfl, rfl⟩ | exact .inr ⟨_, rfl, rfl⟩
theorem cmpV_ok (I : Inv X φ σ s.heap) (B : X.base.get? sysModules ≠ none) (hu : A.in1.units < cLine) {op : Cop} {v u : Vl} {b : Bool} {x y : Value} (rx : RelV X φ s.heap x v) (ry : RelV X φ s.heap y u) (e : cmpV σ op v u = some b) {Q : Value → Shared → Prop}
    (k : ∀ tk, Q (.bool b) { s with toks := tk }) : wpAny (model X.prog X.w) A (compareOp op.py x y) Q E s := by
  cases op with
  | eq =>
    cases rx with
    | int a t =>
      refine mapE e fun c h1 e => ?_
      rw [vInt_eq h1] at ry
      cases ry; subst e; exact P.eq_int (k s.toks)
    | str x1 t1 l1 e1 h1 =>
      refine mapE e fun c q e => ?_
      rw [vStr_eq q] at ry
      subst e
      cases ry with | str y1 t2 l2 e2 h2 => exact P.eq_str (by rw [e1, e2]; exact k s.toks)
    | ref i a ha =>
      refine bindE e fun l1 q1 e => bindE e fun j q e => bindE e fun l2 q2 e => ?_
      rw [vRef_eq q] at ry
      cases ry with | ref j c hc =>
      obtain ⟨it1, n1, o1, _, r1⟩ := list_at I ha (lstI_eq q1)
      obtain ⟨it2, n2, o2, _, r2⟩ := list_at I hc (lstI_eq q2)
      have hu' : A.units < cLine := by simp only [Around.in1_units] at hu; omega
      unfold eqL at e
      cases hh : headLst l1 with
      | true => rw [hh] at e; exact eqListsTop o1 o2 r1 r2 e hu (k s.toks)
      | false => rw [hh] at e; exact eqLst_at (X := X) (φ := φ) o1 o2 r1 r2 e hu' (k s.toks)
    | _ => cases e
  | ne =>
    cases rx with
    | int a t =>
      refine mapE e fun c h1 e => ?_
      rw [vInt_eq h1] at ry
      cases ry; subst e; exact P.ne_int (k s.toks)
    | str x1 t1 l1 e1 h1 =>
      refine mapE e fun c q e => ?_
      rw [vStr_eq q] at ry
      subst e
      cases ry with | str y1 t2 l2 e2 h2 => exact P.ne_str (by rw [e1, e2]; exact k s.toks)
    | _ => cases e
  | lt => refine intsV_ok rx ry e fun a c t t' h1 h2 e => ?_; subst h1 h2 e; exact P.lt_int (k s.toks)
  | le => refine intsV_ok rx ry e fun a c t t' h1 h2 e => ?_; subst h1 h2 e; exact P.le_int (k s.toks)
  | gt => refine intsV_ok rx ry e fun a c t t' h1 h2 e => ?_; subst h1 h2 e; exact P.gt_int (k s.toks)
  | ge => refine intsV_ok rx ry e fun a c t t' h1 h2 e => ?_; subst h1 h2 e; exact P.ge_int (k s.toks)
  | isin =>
    refine bindE e fun a q e => ?_
    rw [vStr_eq q] at rx
    cases rx with | str x1 t1 l1 e1 h1 => exact inW_ok (neg := false) I B e1 ry e (by simpa using k)
  | notin =>
    refine mapE e fun b' e4 e2 => bindE e4 fun a q e5 => ?_
    rw [vStr_eq q] at rx
    subst e2
    cases rx with | str x1 t1 l1 e1 h1 => exact inW_ok (neg := true) I B e1 ry e5 (by simpa using k)
  | is =>
    refine isV_ok rx ry e fun h1 h2 => ?_
    subst h1
    rcases h2 with ⟨h2, h3⟩ | ⟨a, h2, h3⟩ <;> subst h2 h3 <;> exact wpAny_is_plain rfl (k s.toks)
  | isnot =>
    refine mapE e fun b' e e2 => isV_ok rx ry e fun h1 h2 => ?_
    subst h1 e2
    rcases h2 with ⟨h2, h3⟩ | ⟨a, h2, h3⟩ <;> subst h2 h3 <;> exact wpAny_isNot_plain rfl (k s.toks)
end

section
variable {X : MC} {A : Around} {s : Shared} {φ : List Addr} {σ : Sto} {E : Value → Shared → Prop}

theorem big_eq : big = 1099511627776 := rfl
theorem seqIdx {i : Int} {n : Nat} (h0 : 0 ≤ i) (h : i.toNat < n) : seqIndex? i n = some i.toNat := by
  unfold seqIndex?
  have h1 : ¬ i < 0 := by omega
  simp only [h1, if_false]
  have : (decide (0 ≤ i) && decide (i < (n : Int))) = true := by simp; omega
  rw [if_pos this]
theorem idxV_ok (I : Inv X φ σ s.heap) {o i w : Vl} {x y : Value} (rx : RelV X φ s.heap x o) (ry : RelV X φ s.heap y i) (e : idxV σ o i = some w) {value slice : Expr} {Q : Value → Shared → Prop}
    (k : Post X φ s σ w Q) (hs : subscripted slice false x y = operate [x, y] (getItem x y)) : wpAny (model X.prog X.w) A (subscriptTail value slice x y) Q E s := by
  have lst : ∀ {a : Addr} {it : Array Value} {n : Nat} {l : List Vl} {j : Nat}, x = .ref a → IsL s.heap a it n → l.length ≤ line → RelVs X φ s.heap it.toList l → natI i = some j → l[j]? = some w → wpAny (model X.prog X.w) A (subscriptTail value slice x y) Q E s := by
    intro a it n l j hx o1 hl hr q e
    rw [natI_eq q] at ry
    obtain ⟨z, hz, rz⟩ := hr.get e
    have hlt : j < l.length := (List.getElem?_eq_some_iff.mp e).1
    rw [line_eq] at hl
    cases ry with | int _ t =>
    subst hx
    refine tail_any o1.isList.typeIs slot_list_getitem.lookup (wpAny_getItem_list o1.isList (Int.natCast_nonneg j) (by omega) (by simpa using hz) ?_) hs
    exact k.same I s.toks rz
  cases rx with
  | str x1 t1 l1 e1 h1 =>
    refine bindE e fun j q e => mapE e fun c hc e => ?_
    rw [natI_eq q] at ry
    subst e
    cases ry with | int _ t =>
    have hlt : j < l1.length := (List.getElem?_eq_some_iff.mp hc).1
    have hlen := str_len x1 e1
    rw [line_eq] at h1
    refine tail_any (typeIs_str s x1 t1) F.slot_str_getitem.lookup (P.getItem_str (c := c) ?_ ?_ ?_) hs
    · simp; omega
    · rw [hlen, seqIdx (Int.natCast_nonneg j) (by simpa using hlt)]
      show x1.cps[j]? = some c
      rw [← Array.getElem?_toList, e1]; exact hc
    · exact k.same I _ (.str _ _ _ rfl (by simp [line_eq]))
  | tup a it n l ho ha hl hr =>
    refine bindE e fun j q e => ?_
    rw [natI_eq q] at ry
    cases ry with | int _ t =>
    obtain ⟨z, hz, rz⟩ := hr.get e
    have hlt : j < l.length := (List.getElem?_eq_some_iff.mp e).1
    rw [line_eq] at hl
    have hsz : it.size = l.length := by rw [← hr.length]; simp
    refine tail_any (T := "tuple") ⟨_, ho, rfl⟩ F.slot_tuple_getitem.lookup (P.getItem_tuple (n := n) ho (by omega) (by omega) (seqIdx (Int.natCast_nonneg j) (by simpa using (by omega : j < it.size))) (by simpa using hz) ?_) hs
    exact k.same I s.toks rz
  | lst a it n l ho ha hl hr => exact bindE e fun j q e => lst rfl ho hl hr q e
  | ref r a ha =>
    refine bindE e fun b q e => ?_
    cases b with
    | list l =>
      obtain ⟨it, n, o1, hl, hr⟩ := list_at I ha q
      exact bindE e fun j q e => lst rfl o1 hl hr q e
    | dict l =>
      refine bindE e fun kl q2 e => ?_
      rw [vStr_eq q2] at ry
      cases ry with | str x1 t1 l1 e1 h1 =>
      obtain ⟨es, n, ho, hr⟩ := dict_at I ha q
      have := relDs_find hr x1
      rw [e1, e] at this
      obtain ⟨z, hz, rz⟩ := this
      refine tail_any (T := "dict") ⟨_, ho, rfl⟩ slot_dict_getitem.lookup (wpAny_getItem_of (strKind_is _ _ x1 t1) (mapOf_D ho hr) hz ?_) hs
      exact k.same I _ rz
    | _ => cases e
  | _ => cases e

theorem sliceRange_run (a b : Nat) : sliceRange (a : Int) (b : Int) 1 = (List.range (b - a)).map (a + ·) := sliceRange_one a b
theorem clampI {c : Int} (m : Nat) (hc : 0 ≤ c) : max 0 (min (if c < 0 then c + (m : Int) else c) (m : Int)) = ((min c.toNat m : Nat) : Int) := by
  obtain ⟨n, rfl⟩ := Int.eq_ofNat_of_zero_le hc
  rw [if_neg (Int.not_lt.mpr hc), Int.toNat_natCast]
  rcases Nat.le_total n m with h | h
  · rw [Nat.min_eq_left h, Int.min_eq_left (Int.ofNat_le.mpr h), Int.max_eq_right hc]
  · rw [Nat.min_eq_right h, Int.min_eq_right (Int.ofNat_le.mpr h), Int.max_eq_right (Int.natCast_nonneg m)]
theorem takeDrop_min {α : Type} (l : List α) (a b : Nat) : (l.drop (min a l.length)).take (min b l.length - min a l.length) = (l.drop a).take (b - a) := by
  rcases Nat.le_total a l.length with q | q
  · rw [Nat.min_eq_left q]
    rcases Nat.le_total b l.length with q2 | q2
    · rw [Nat.min_eq_left q2]
    · rw [Nat.min_eq_right q2, List.take_of_length_le (by rw [List.length_drop]; exact Nat.le_refl _), List.take_of_length_le (by rw [List.length_drop]; exact Nat.sub_le_sub_right q2 a)]
  · rw [Nat.min_eq_right q, List.drop_length, List.drop_eq_nil_of_le q, List.take_nil, List.take_nil]
theorem slc_sub {α : Type} (l : List α) (a b : Nat) : ((l.drop a).take b).Sublist l := (List.take_sublist _ _).trans (List.drop_sublist _ _)
/-- a text's slice -/
theorem sliceStr_ok (I : Inv X φ σ s.heap) {x : Str} {t : Tok} {l : List Nat} (ex : x.cps.toList = l) (hl : l.length ≤ line) {lo : Option (Int × Tok)} {a b : Int} {u : Tok} (h0 : 0 ≤ a) (h1 : 0 ≤ b)
    (hlo : lo = none ∧ a = 0 ∨ ∃ t', lo = some (a, t')) {Q : Value → Shared → Prop}
    (k : Post X φ s σ (.str ((l.drop a.toNat).take (b.toNat - a.toNat))) Q) : (sliceMade x t lo (some (b, u)) none).post Q s := by
  have hlen := str_len x ex
  have hpick : slicePicked x lo (some (b, u)) none = (List.range (min b.toNat l.length - min a.toNat l.length)).map (min a.toNat l.length + ·) := by
    unfold slicePicked Builtin.Str.strSliceIndices
    rw [hlen]
    have h2 : (1 : Int) > 0 := by decide
    rcases hlo with ⟨rfl, rfl⟩ | ⟨t', rfl⟩
    · simp only [Option.map_none, Option.map_some, Option.getD_none, h2, if_true]
      rw [clampI _ h1]
      have := sliceRange_run (min (0 : Int).toNat l.length) (min b.toNat l.length)
      simpa using this
    · simp only [Option.map_none, Option.map_some, Option.getD_none, h2, if_true]
      rw [clampI _ h1, clampI _ h0]
      exact sliceRange_run _ _
  have hval : ((slicePicked x lo (some (b, u)) none).filterMap (x.cps[·]?)) = (l.drop a.toNat).take (b.toNat - a.toNat) := by
    rw [hpick, pick_run, ex, takeDrop_min]
  have hle := (slc_sub l a.toNat (b.toNat - a.toNat)).length_le
  unfold sliceMade
  split
  · rename_i hc
    have hc' : (slicePicked x lo (some (b, u)) none).length = x.length := by simpa using hc
    have h3 : ((l.drop a.toNat).take (b.toNat - a.toNat)).length = l.length := by
      rw [hpick, List.length_map, List.length_range, hlen] at hc'
      rw [← takeDrop_min, List.length_take, List.length_drop, Nat.min_eq_left (Nat.sub_le_sub_right (Nat.min_le_right ..) _), hc']
    rw [(slc_sub l _ _).eq_of_length h3] at k
    exact k.same I s.toks (.str x t _ ex hl)
  · rw [hval]
    refine ⟨?_, k.same I _ (.str _ _ _ (by simp) (Nat.le_trans hle hl))⟩
    show ((l.drop a.toNat).take (b.toNat - a.toNat)).toArray.size ≤ sizeLine
    rw [← line_is, List.size_toArray]; exact Nat.le_trans hle hl

/-- a list's slice -/
theorem pickList (items : Array Value) {lo : Option Int} {a b : Int} (h0 : 0 ≤ a) (h1 : 0 ≤ b) (hlo : lo = none ∧ a = 0 ∨ lo = some a) :
    (slicePick items lo (some b) none).toList = (items.toList.drop a.toNat).take (b.toNat - a.toNat) := by
  have hb : sliceBounds lo (some b) none items.size = (((min a.toNat items.size : Nat) : Int), ((min b.toNat items.size : Nat) : Int), 1) := by
    unfold sliceBounds
    have h2 : (1 : Int) > 0 := by decide
    rcases hlo with ⟨rfl, rfl⟩ | rfl
    · simp only [Option.getD_none, h2, if_true]
      rw [clampI _ h1]
      simp
    · simp only [Option.getD_none, h2, if_true]
      rw [clampI _ h1, clampI _ h0]
  unfold slicePick
  rw [hb]
  show (List.filterMap (fun x => items[x]?) (sliceRange ((min a.toNat items.size : Nat) : Int) ((min b.toNat items.size : Nat) : Int) 1)).toArray.toList = _
  rw [sliceRange_run, List.toList_toArray, pick_run]
  have hs : items.size = items.toList.length := by simp
  rw [hs, takeDrop_min]
theorem slcV_ok (I : Inv X φ σ s.heap) {o w : Vl} {x : Value} {a b : Int} (rx : RelV X φ s.heap x o) (e : slcV σ o a b = some w) {value slice : Expr} {vl : Value} {u : Tok} {Q : Value → Shared → Prop} {sl : Addr}
    (hsl : s.heap.IsSliceOf sl vl (.int b u) .none) (hvl : vl = .none ∧ a = 0 ∨ ∃ t', vl = .int a t')
    (k : Post X φ s σ w Q) (hs : ∀ o : Value, subscripted slice false o (.ref sl) = operate [.ref sl, o] (getItem o (.ref sl))) : wpAny (model X.prog X.w) A (subscriptTail value slice x (.ref sl)) Q E s := by
  refine ifE e fun hc e => ?_
  cases rx with
  | str x1 t1 l1 e1 hl =>
    cases e
    obtain ⟨lo, hlo1, hlo2⟩ : ∃ lo : Option (Int × Tok), vl = partValue lo ∧ (lo = none ∧ a = 0 ∨ ∃ t', lo = some (a, t')) := by
      rcases hvl with ⟨rfl, rfl⟩ | ⟨t', rfl⟩
      · exact ⟨none, rfl, .inl ⟨rfl, rfl⟩⟩
      · exact ⟨some (a, t'), rfl, .inr ⟨t', rfl⟩⟩
    refine tail_any (typeIs_str s x1 t1) F.slot_str_getitem.lookup ?_ (hs _)
    subst hlo1
    exact wpAny_getItem_str_slice (l := lo) (u := some (b, u)) (st := none) hsl rfl (sliceStr_ok I e1 hl hc.1 hc.2.1 hlo2 k)
  | lst a1 it n l ho ha hl hr =>
    cases e
    have hsz : it.size ≤ sizeLine := by
      have := hr.length
      rw [Array.length_toList] at this
      rw [← line_is, this]; exact hl
    obtain ⟨lo, hlo1, hlo2⟩ : ∃ lo : Option Int, IsPart vl lo ∧ (lo = none ∧ a = 0 ∨ lo = some a) := by
      rcases hvl with ⟨rfl, rfl⟩ | ⟨t', rfl⟩
      · exact ⟨none, .none, .inl ⟨rfl, rfl⟩⟩
      · exact ⟨some a, .int a t', .inr rfl⟩
    have hL : IsL s.heap a1 it n := ho
    refine tail_any hL.isList.typeIs slot_list_getitem.lookup (wpAny_getItem_list_slice (hi := some b) (lo := lo) (st := none) hL.isList hsl hlo1 (.int b u) .none (by simp) ?_ hsz) (hs _)
    refine k.push I _ _ fun hn => .lst _ _ 0 _ (newSeq _ _ rfl) hn (Nat.le_trans (slc_sub ..).length_le hl) ?_
    rw [pickList it hc.1 hc.2.1 hlo2]
    exact ((hr.push _).drop _).take _
  | _ => cases e

theorem digit_text : ∀ k : Fin 10, (Str.ofString (toString (k.val : Int))).cps.toList = [48 + k.val] := by decide +kernel
theorem toTextDigit {n : Int} (h0 : 0 ≤ n) (h1 : n < 10) : (Str.ofString (toString n)).cps.toList = [48 + n.toNat] := by
  obtain ⟨k, rfl⟩ := Int.eq_ofNat_of_zero_le h0
  exact digit_text ⟨k, Int.ofNat_lt.mp h1⟩
noncomputable def Bi.val : Bi → Value
  | .len => .builtin "len" | .ord => .builtin "ord" | .chr => .builtin "chr" | .str => .type "str" | .tuple => .type "tuple" | .isinstance => .builtin "isinstance"
theorem rel_one {h : Heap} {xs : List Value} {v : Vl} (r : RelVs X φ h xs [v]) : ∃ y, xs = [y] ∧ RelV X φ h y v := by
  cases r with | cons hx hs => cases hs; exact ⟨_, rfl, hx⟩
theorem biV_ok (I : Inv X φ σ s.heap) {b : Bi} {vs : List Vl} {w : Vl} {xs : List Value} (rx : RelVs X φ s.heap xs vs) (e : biV σ b vs = some w) {Q : Value → Shared → Prop}
    (k : Post X φ s σ w Q) : wpAny (model X.prog X.w) A (call b.val xs) Q E s := by
  have len : ∀ {a : Addr} {it : Array Value} {n : Nat} {l : List Vl}, IsL s.heap a it n → l.length ≤ line → RelVs X φ s.heap it.toList l → .int l.length = w → wpAny (model X.prog X.w) A (call (.builtin "len") [.ref a]) Q E s := by
    rintro a it n l o1 hl hr rfl
    have hsz : it.size = l.length := by have := hr.length; simpa using this
    rw [line_eq] at hl
    refine len_list o1.isList (by omega) ?_
    rw [hsz]; exact k.same I _ (.int _ _)
  refine bindE e fun v q e => ?_
  rw [arg1_eq q] at rx
  obtain ⟨x, hx, rv⟩ := rel_one rx
  subst hx
  clear rx
  cases b with
  | len =>
    cases rv with
    | str x1 t1 l e1 hl =>
      cases e
      have := str_len x1 e1
      rw [line_eq] at hl
      refine P.len_str (by omega) ?_
      rw [this]; exact k.same I _ (.int _ _)
    | lst a it n l ho ha hl hr => exact len ho hl hr (Option.some.inj e)
    | ref i a ha =>
      refine mapE e fun l q e => ?_
      obtain ⟨it, n, o1, hl, hr⟩ := list_at I ha (lstI_eq q)
      exact len o1 hl hr e
    | _ => cases e
  | ord =>
    refine bindE e fun l q e => mapE e fun c q2 e => ?_
    rw [vStr_eq q, oneC_eq q2] at rv
    subst e
    cases rv with | str x1 t1 _ e1 hl =>
    have : x1 = ⟨#[c]⟩ := str_inj (by rw [e1])
    subst this
    exact P.ord_of_char (k.same I _ (.int _ _))
  | chr =>
    refine bindE e fun n q e => ifE e fun h0 e => ?_
    rw [vInt_eq q] at rv
    cases e
    cases rv with | int n t =>
    refine P.chr_of_int (by simp; omega) (k.same I _ (.str _ _ _ (by simp) (by simp [line_eq])))
  | str =>
    refine bindE e fun n q e => ifE e fun h0 e => ?_
    rw [vInt_eq q] at rv
    cases e
    cases rv with | int n t =>
    refine P.str_of_int ?_ (k.same I _ (.str _ _ _ (toTextDigit h0.1 h0.2) (by simp [line_eq])))
    by_cases q : n.natAbs = 0
    · rw [q]; decide
    · have : n.natAbs.log2 < 4 := (Nat.log2_lt q).mpr (by omega)
      omega
  | tuple =>
    refine mapE e fun l q e => ?_
    subst e
    obtain ⟨a, it, n, rfl, o1, hl, hr⟩ := lstOf_at I rv q
    have hsz : it.size ≤ sizeLine := by
      have := hr.length
      rw [Array.length_toList] at this
      rw [← line_is, this]; exact hl
    refine call_tuple_list o1.isList (fun h' hk => ?_) hsz
    have I' := I.mono hk
    have hE : Ext [] φ φ s.heap (h'.push { cls := Value.type "tuple", data := Data.seq it }) := (Ext.of_keeps hk []).trans (.push _ [])
    refine k φ _ _ _ (I'.mono fun a o' e => Heap.get?_push_of_some _ e) hE (.tup _ it 0 _ (newSeq _ _ rfl) ?_ hl (hr.mono hE.seq))
    intro q'
    obtain ⟨o', e'⟩ := I'.mem_stored q'
    rw [fresh_size] at e'; cases e'
  | isinstance => cases e

theorem idxC_spec (c : Nat) : ∀ (l : List Nat) (n : Nat), (idxC c l n = -1 ∧ ∀ i : Nat, l[i]? ≠ some c) ∨ ∃ j : Nat, idxC c l n = ((n + j : Nat) : Int) ∧ l[j]? = some c ∧ ∀ i : Nat, i < j → l[i]? ≠ some c
  | [], n => .inl ⟨rfl, by simp⟩
  | x :: r, n => by
    simp only [idxC]
    by_cases q : x = c
    · rw [if_pos q]
      exact .inr ⟨0, by simp, by simp [q], fun i h => absurd h (Nat.not_lt_zero _)⟩
    · rw [if_neg q]
      rcases idxC_spec c r (n + 1) with ⟨h1, h2⟩ | ⟨j, h1, h2, h3⟩
      · refine .inl ⟨h1, fun i => ?_⟩
        cases i with
        | zero => simpa using q
        | succ i => simpa using h2 i
      · refine .inr ⟨j + 1, by rw [h1]; congr 1; omega, by simpa using h2, fun i hi => ?_⟩
        cases i with
        | zero => simpa using q
        | succ i => simpa using h3 i (by omega)
theorem find_idxC (x : Str) (c : Nat) : Txt.find x ⟨#[c]⟩ = idxC c x.cps.toList 0 := by
  have key : ∀ i, StrLaws.At x ⟨#[c]⟩ x.length i ↔ x.cps.toList[i]? = some c := fun i => StrLaws.subAt_one x c i
  show (match Builtin.Str.occurrences x ⟨#[c]⟩ 0 x.length 1 with | i :: _ => (i : Int) | [] => -1) = _
  rcases StrLaws.occ_head x ⟨#[c]⟩ 1 (Nat.le_refl _) with ⟨h1, h2⟩ | ⟨i, r, h1, h2, h3⟩
  · rw [h1]
    rcases idxC_spec c x.cps.toList 0 with ⟨q1, _⟩ | ⟨j, _, q2, _⟩
    · exact q1.symm
    · exact absurd ((key j).mpr q2) (h2 j)
  · rw [h1]
    rcases idxC_spec c x.cps.toList 0 with ⟨_, q2⟩ | ⟨j, q1, q2, q3⟩
    · exact absurd ((key i).mp h2) (q2 i)
    · rw [q1]
      show (i : Int) = _
      have : i = j := by
        rcases Nat.lt_trichotomy i j with q | q | q
        · exact absurd ((key i).mp h2) (q3 i q)
        · exact q
        · exact absurd ((key j).mpr q2) (h3 j q)
      rw [this]; simp

theorem strsOf_rel {h : Heap} : ∀ {l : List Vl} {xs : List Value} {ss : List (List Nat)}, RelVs X φ h xs l → strsOf l = some ss → ∃ ys : List Str, StrsAre xs ys ∧ ys.map (fun y => y.cps.toList) = ss
  | [], xs, ss, r, e => by cases r; cases e; exact ⟨[], .nil, rfl⟩
  | v :: l, xs, ss, r, e => by
    refine bindE e fun c q e => mapE e fun t e2 e => ?_
    rw [vStr_eq q] at r
    cases r with | cons hx hs =>
    obtain ⟨ys, h1, h2⟩ := strsOf_rel hs e2
    cases hx with | str x t l e1 hl =>
    exact ⟨x :: ys, .cons x t h1, by rw [← e, List.map_cons, e1, h2]⟩
theorem join_cps (sep : Str) : ∀ ys : List Str, (Txt.join sep ys).cps.toList = joinL sep.cps.toList (ys.map fun y => y.cps.toList) := by
  intro ys
  show (Builtin.Str.glued sep ys).cps.toList = _
  rw [StrLaws.glued_eq_join]
  induction ys with
  | nil => rfl
  | cons y r ih =>
    cases r with
    | nil => rfl
    | cons z r =>
      show (y ++ sep ++ Str.join sep (z :: r)).cps.toList = _
      rw [cat_cps, cat_cps, ih]
      rfl
theorem joinL_len (s : List Nat) : ∀ l : List (List Nat), (joinL s l).length ≤ (l.map List.length).sum + l.length * s.length
  | [] => by simp [joinL]
  | [x] => by simp [joinL]
  | x :: y :: r => by
    have := joinL_len s (y :: r)
    simp only [joinL, List.length_append, List.map_cons, List.sum_cons, List.length_cons] at *
    rw [Nat.add_mul, Nat.one_mul]
    omega
noncomputable def Mt.id : Mt → String
  | .append => "list.append" | .extend => "list.extend" | .find => "str.find" | .join => "str.join" | .pop => "dict.pop"
  | .init => "" | .put => "" | .remove => "" | .begin => "" | .spend => "" | .call => ""
theorem append_call (I : Inv X φ σ s.heap) {i : Nat} {a : Addr} {l : List Vl} {v : Vl} {x : Value} (ha : φ[i]? = some a) (q : σ[i]? = some (.list l)) (hlt : l.length < line) (hx : RelV X φ s.heap x v) {Q : Value → Shared → Prop}
    (k : Post X φ s (σ.set i (.list (l ++ [v]))) .none Q) : wpAny (model X.prog X.w) A (call (.builtin "list.append") [.ref a, x]) Q E s := by
  obtain ⟨it, n, o1, hl, hr⟩ := list_at I ha q
  have hsz : it.size = l.length := by have := hr.length; simp at this; omega
  have o2 := IsL.update o1 (fun y => y.push x)
  refine call_meets F.slot_list_append ⟨_, o1, rfl⟩ F.entry_list_append (F.args_list_append_2 _ _) (list_append a it n x (by rw [hsz, ← line_is]; omega)) ⟨o1, ?_⟩
  obtain ⟨I', hE⟩ := I.change (b := .list (l ++ [v])) ha (Heap.SameBut.update s.heap a (Obj.mapSeq fun y => y.push x)) ⟨_, o2⟩ (fun sk => ⟨_, _, o2, by simp; omega, by
    rw [Array.toList_push]; exact (hr.mono sk).append (.cons (hx.mono sk) .nil)⟩)
  exact k φ _ _ _ I' hE .none
theorem extend_call (I : Inv X φ σ s.heap) {i : Nat} {a : Addr} {l u : List Vl} {v : Vl} {x : Value} (ha : φ[i]? = some a) (q : σ[i]? = some (.list l)) (hv : lstOf σ v = some u) (hlt : l.length + u.length < line) (hx : RelV X φ s.heap x v) {Q : Value → Shared → Prop}
    (k : Post X φ s (σ.set i (.list (l ++ u))) .none Q) : wpAny (model X.prog X.w) A (call (.builtin "list.extend") [.ref a, x]) Q E s := by
  obtain ⟨it, n, o1, hl, hr⟩ := list_at I ha q
  obtain ⟨b, it2, n2, rfl, p1, hl2, hr2⟩ := lstOf_at I hx hv
  have hsz : it.size = l.length := by have := hr.length; simp at this; omega
  have hsz2 : it2.size = u.length := by have := hr2.length; simp at this; omega
  have o2 := IsL.update o1 (fun y => y ++ it2)
  have hsz3 : it.size + it2.size < sizeLine := by rw [hsz, hsz2, ← line_is]; omega
  have hdoor : ¬(!it.isEmpty && Builtin.List.listTooLong (it.size + it2.size)) = true := by
    have : Builtin.List.listTooLong (it.size + it2.size) = false := by
      unfold Builtin.List.listTooLong
      have : sizeLine = 16777216 := by decide
      simp
      omega
    rw [this]; simp
  refine call_meets F.slot_list_extend ⟨_, o1, rfl⟩ F.entry_list_extend (F.args_list_extend_2 _ _) (AutoSeq1.list_extend_list_list_0 a it n b it2 n2 hdoor (by omega) (by omega)) ⟨o1, p1, ?_⟩
  obtain ⟨I', hE⟩ := I.change (b := .list (l ++ u)) ha (Heap.SameBut.update s.heap a (Obj.mapSeq fun y => y ++ it2)) ⟨_, o2⟩ (fun sk => ⟨_, _, o2, by simp; omega, by
    rw [Array.toList_append]; exact (hr.mono sk).append (hr2.mono sk)⟩)
  exact k φ _ _ _ I' hE .none
theorem pop_call (I : Inv X φ σ s.heap) (B : X.base.get? sysModules ≠ none) {i : Nat} {a : Addr} {kl : List Nat} {x : Value} (ha : φ[i]? = some a) (q : σ[i]? = some (.dict [])) (hx : RelV X φ s.heap x (.str kl)) {Q : Value → Shared → Prop}
    (k : Post X φ s σ .none Q) : wpAny (model X.prog X.w) A (call (.builtin "dict.pop") [.ref a, x, .none]) Q E s := by
  obtain ⟨es, n, ho, hr⟩ := dict_at I ha q
  cases hr
  cases hx with | str x1 t1 _ e1 hl =>
  have hD : s.heap.DictOf (strKind X.prog X.w) a [] := ⟨_, #[], n, ho, ⟨rfl, rfl, rfl⟩, rfl, fun e he => by simp at he, .nil, by simp⟩
  exact call_meetsIn F.slot_dict_pop ⟨_, ho, rfl⟩ F.entry_dict_pop (F.args_dict_pop_3 _ _ _) (meets_dict_pop_default (strKind X.prog X.w) a (strKind_is _ _ x1 t1) (notSys B I ha) rfl .none) ⟨[], hD, rfl, k.same I _ .none⟩

theorem find_call (I : Inv X φ σ s.heap) {sl : List Nat} {c : Nat} {x y : Value} (rx : RelV X φ s.heap x (.str sl)) (ry : RelV X φ s.heap y (.str [c])) {Q : Value → Shared → Prop}
    (k : Post X φ s σ (.int (idxC c sl 0)) Q) : wpAny (model X.prog X.w) A (call (.builtin "str.find") [x, y]) Q E s := by
  cases rx with | str x1 t1 _ e1 hl =>
  cases ry with | str y1 t2 _ e2 hl2 =>
  have : y1 = ⟨#[c]⟩ := str_inj (by rw [e2])
  subst this
  refine SC.find ?_
  rw [find_idxC, e1]
  exact k.same I _ (.int _ _)
theorem join_call (I : Inv X φ σ s.heap) {sl : List Nat} {v : Vl} {l : List Vl} {ss : List (List Nat)} {x y : Value} (rx : RelV X φ s.heap x (.str sl)) (ry : RelV X φ s.heap y v) (e1 : lstOf σ v = some l) (e2 : strsOf l = some ss)
    (hl : (ss.map List.length).sum + ss.length * sl.length ≤ line) {Q : Value → Shared → Prop}
    (k : Post X φ s σ (.str (joinL sl ss)) Q) : wpAny (model X.prog X.w) A (call (.builtin "str.join") [x, y]) Q E s := by
  cases rx with | str x1 t1 _ ex hx =>
  obtain ⟨a, it, n, rfl, o1, hl1, hr⟩ := lstOf_at I ry e1
  obtain ⟨ys, h1, h2⟩ := strsOf_rel hr e2
  have hlen : ss.length = ys.length := by rw [← h2]; simp
  have hmap : ys.map (fun y => y.length) = ss.map List.length := by
    rw [← h2, List.map_map]
    exact List.map_congr_left fun y _ => by simp [Str.length]
  have hx1 := str_len x1 ex
  refine join_list o1.isList h1 ?_ fun t' tk => k.same I _ (.str _ _ _ ?_ ?_)
  · rw [show (ys.map (fun y => y.length)) = ss.map List.length from hmap, hx1, ← hlen]
    exact hl
  · rw [join_cps, h2, ex]
  · exact Nat.le_trans (joinL_len _ _) hl
theorem rel_ref {h : Heap} {x : Value} {i : Nat} (r : RelV X φ h x (.ref i)) : ∃ a, x = .ref a ∧ φ[i]? = some a := by
  cases r with | ref _ a ha => exact ⟨a, rfl, ha⟩
theorem methV_call (I : Inv X φ σ s.heap) (B : X.base.get? sysModules ≠ none) {m : Mt} {o : Vl} {vs : List Vl} {w : Vl} {σ' : Sto} {x : Value} {xs : List Value} (rx : RelV X φ s.heap x o) (rs : RelVs X φ s.heap xs vs)
    (e : methV σ m o vs = some (w, σ')) {Q : Value → Shared → Prop} (k : Post X φ s σ' w Q) : wpAny (model X.prog X.w) A (call (.builtin m.id) (x :: xs)) Q E s := by
  cases m with
  | append =>
    refine bindE e fun i q1 e => bindE e fun v q2 e => bindE e fun l q3 e => ifE e fun hlt e => ?_
    rw [vRef_eq q1] at rx; rw [arg1_eq q2] at rs
    cases e
    obtain ⟨a, rfl, ha⟩ := rel_ref rx
    obtain ⟨y, rfl, ry⟩ := rel_one rs
    exact append_call I ha (lstI_eq q3) hlt ry k
  | extend =>
    refine bindE e fun i q1 e => bindE e fun v q2 e => bindE e fun l q3 e => bindE e fun u q4 e => ifE e fun hlt e => ?_
    rw [vRef_eq q1] at rx; rw [arg1_eq q2] at rs
    cases e
    obtain ⟨a, rfl, ha⟩ := rel_ref rx
    obtain ⟨y, rfl, ry⟩ := rel_one rs
    exact extend_call I ha (lstI_eq q3) q4 hlt ry k
  | find =>
    refine bindE e fun i q1 e => bindE e fun v q2 e => bindE e fun l q3 e => mapE e fun c q4 e => ?_
    rw [vStr_eq q1] at rx; rw [arg1_eq q2, vStr_eq q3, oneC_eq q4] at rs
    cases e
    obtain ⟨y, rfl, ry⟩ := rel_one rs
    exact find_call I rx ry k
  | join =>
    refine bindE e fun i q1 e => bindE e fun v q2 e => bindE e fun l q3 e => bindE e fun ss q4 e => ifE e fun hl e => ?_
    rw [vStr_eq q1] at rx; rw [arg1_eq q2] at rs
    cases e
    obtain ⟨y, rfl, ry⟩ := rel_one rs
    exact join_call I rx ry q3 q4 hl k
  | pop =>
    refine bindE e fun i q1 e => bindE e fun kl q2 e => bindE e fun l q3 e => ?_
    rw [vRef_eq q1] at rx
    obtain ⟨a, rfl, ha⟩ := rel_ref rx
    cases vs with
    | nil => cases q2
    | cons u r =>
      refine bindE q2 fun z h1 q2 => mapE q2 fun _ h2 q2 => ?_
      rw [vStr_eq h1, noneOf_eq h2] at rs
      cases rs with | cons hx hs =>
      cases hs with | cons hy hs =>
      cases hs
      cases hy
      cases l with
      | nil => cases e; exact pop_call I B ha (dctI_eq q3) hx k
      | cons => cases e
  | _ => cases e
/-- how a method is found -/
theorem methV_get (I : Inv X φ σ s.heap) {m : Mt} {o : Vl} {x : Value} (rx : RelV X φ s.heap x o) (e : methK σ m o = true) {pl : Sem Bool} {Q : Value × List Value → Shared → Prop}
    (k : Q (.builtin m.id, [x]) s) : wpAny (model X.prog X.w) A (getMethod x m.name pl) Q E s := by
  have lst : ∀ {id : String} {name : Str}, isL σ o = true → Slot "list" name id → typeOf (.builtin id) = pure (.type "method_descriptor") → Q (.builtin id, [x]) s → wpAny (model X.prog X.w) A (getMethod x name pl) Q E s := by
    intro id name q sl ty k
    obtain ⟨l, q⟩ := Option.isSome_iff_exists.mp q
    refine bindE q fun i h1 h2 => ?_
    rw [vRef_eq h1] at rx
    obtain ⟨a, rfl, ha⟩ := rel_ref rx
    obtain ⟨it, n, o1, _, _⟩ := list_at I ha (lstI_eq h2)
    exact getMethod_builtin ⟨_, o1, rfl⟩ F.plainAttrs_list sl ty (fun b e => by cases e; exact ⟨_, o1, rfl⟩) k
  cases m with
  | append => exact lst e F.slot_list_append F.type_list_append k
  | extend => exact lst e F.slot_list_extend F.type_list_extend k
  | pop =>
    obtain ⟨l, q⟩ := Option.isSome_iff_exists.mp e
    refine bindE q fun i h1 h2 => ?_
    rw [vRef_eq h1] at rx
    obtain ⟨a, rfl, ha⟩ := rel_ref rx
    obtain ⟨es, n, ho, hr⟩ := dict_at I ha (dctI_eq h2)
    exact getMethod_builtin ⟨_, ho, rfl⟩ F.plainAttrs_dict F.slot_dict_pop F.type_dict_pop (fun b e => by cases e; exact ⟨_, ho, rfl⟩) k
  | find =>
    obtain ⟨l, q⟩ := Option.isSome_iff_exists.mp e
    rw [vStr_eq q] at rx
    cases rx with | str x1 t1 _ ex hx => exact GM.find k
  | join =>
    obtain ⟨l, q⟩ := Option.isSome_iff_exists.mp e
    rw [vStr_eq q] at rx
    cases rx with | str x1 t1 _ ex hx => exact GM.join k
  | _ => cases e
end

section
/-! ## Well-made terms: names that are the top's, written texts -/
noncomputable def Fn.isGlob : Fn → Bool
  | .is_blank => true
  | .digit => true
  | .hex_sign => true
  | .octal_sign => true
  | .backslash => true
  | .is_gap => true
  | .skip_gaps => true
  | .comment_behind => true
  | .skip_to_command => true
  | .braces => true
  | .parts_until => true
  | .bare_stops => true
  | .is_expanded => true
  | .word => true
  | .command_at => true
  | .check_behind => true
  | .braced_element => true
  | .quoted_element => true
  | .bare_element => true
  | .find_element => true
  | .split_list => true
  | .mode_of => true
  | .escaped => true
  | .quote => true
  | .join_list => true
  | .text_of => true
  | .words_of => true
  | .run_script => true
  | .act => true
  | .hostInit => false
  | .spend => false
  | .call => false
  | .smallInit => false
  | .put => false
  | .remove => false
  | .begin => false
  | .law_next => true
  | .law_sign => true
  | .law_drawn => true
  | .law_fixed => true
  | .law_hex => true
  | .law_coded => true
  | .law_spelled => true
  | .law_may_brace => true
  | .law_written => true
  | .law_command => true
  | .law_record => true
  | .law => true
noncomputable def globIn (sc : Scope) (x : Str) : Bool := sc.names.lookup x == some .globalImplicit && !(x == ("__debug__" : Str))
noncomputable def Ex.kind : Ex → Nat
  | .none _ => 0
  | .bool _ _ => 1
  | .int _ _ => 2
  | .str _ _ _ => 3
  | .loc _ _ => 4
  | .fn _ _ => 5
  | .bin _ _ _ _ => 6
  | .neg _ _ => 7
  | .not _ _ => 8
  | .cmp _ _ _ _ => 9
  | .cmp2 _ _ _ _ _ _ => 10
  | .bop _ _ _ => 11
  | .ite _ _ _ _ => 12
  | .idx _ _ _ => 13
  | .slc _ _ _ _ _ => 14
  | .slcU _ _ _ _ => 15
  | .tup _ _ => 16
  | .list _ _ => 17
  | .call _ _ _ _ => 18
  | .callL _ _ _ _ => 19
  | .bi _ _ _ _ => 20
  | .isi _ _ _ _ _ _ => 21
  | .meth _ _ _ _ _ => 22
  | .clsInit _ _ _ _ _ => 23
  | .attr _ _ _ => 24
  | .new _ _ => 25
  | .dict0 _ => 26
  | .raw _ => 27
noncomputable def baseOk (e : Ex) : Bool := Nat.beq e.kind 4 || (Nat.beq e.kind 3 || Nat.beq e.kind 24)
noncomputable def notRaw (e : Ex) : Bool := !(Nat.beq e.kind 27)
noncomputable def isTupE (e : Ex) : Bool := Nat.beq e.kind 16
noncomputable def Exs.isNil : Exs → Bool
  | .nil => true
  | .cons _ _ => false
noncomputable def Exs.len : Exs → Nat
  | .nil => 0
  | .cons _ es => es.len + 1
mutual
noncomputable def Ex.wf (sc : Scope) : Ex → Bool
  | .str s l _ => decide (s.cps.toList = l) && decide (l.length ≤ 1000)
  | .fn f _ => f.isGlob && globIn sc f.name
  | .bin _ l r _ => l.wf sc && r.wf sc
  | .neg e _ => e.wf sc
  | .not e _ => e.wf sc
  | .cmp _ l r _ => l.wf sc && r.wf sc
  | .cmp2 _ _ a b c _ => a.wf sc && b.wf sc && c.wf sc && notRaw c
  | .bop _ es _ => es.wf sc
  | .ite t b o _ => t.wf sc && b.wf sc && o.wf sc
  | .idx o i _ => o.wf sc && i.wf sc
  | .slc o l u _ _ => o.wf sc && l.wf sc && u.wf sc
  | .slcU o u _ _ => o.wf sc && u.wf sc
  | .tup es _ => es.wf sc
  | .list es _ => es.wf sc
  | .call f _ es _ => f.isGlob && globIn sc f.name && es.wf sc
  | .callL _ _ es _ => es.wf sc
  | .bi b _ es _ => globIn sc b.name && es.wf sc && !es.isNil
  | .isi _ c _ _ _ _ => globIn sc Bi.isinstance.name && globIn sc c.name
  | .meth o m pa es p => baseOk o && o.wf sc && es.wf sc && (pa.endLine == p.line) && decide (es.len < 30)
  | .clsInit c _ pa es p => globIn sc c.name && es.wf sc && (pa.endLine == p.line) && decide (es.len < 30)
  | .attr o _ _ => baseOk o && o.wf sc
  | .new _ _ => globIn sc Cl.small.name
  | .none _ => true | .bool _ _ => true | .int _ _ => true | .loc _ _ => true | .dict0 _ => true | .raw _ => true
noncomputable def Exs.wf (sc : Scope) : Exs → Bool
  | .nil => true
  | .cons e es => e.wf sc && es.wf sc
end
noncomputable def dForm (a b : Ex) : Bool := (Nat.beq a.kind 18 || Nat.beq a.kind 25) || (Nat.beq a.kind 2 && (Nat.beq b.kind 2 || Nat.beq b.kind 4))
mutual
noncomputable def St.wf (sc : Scope) (n : Nat) : St → Bool
  | .assign i _ e _ => decide (i < n) && e.wf sc
  | .assignT is _ e _ => is.all (fun x => decide (x.1 < n)) && e.wf sc && !isTupE e
  | .assignD i pi j pj _ a b _ _ => decide (i < n) && decide (j < n) && (pi.line == pj.line) && a.wf sc && b.wf sc && dForm a b
  | .setItem o i e _ _ => o.wf sc && i.wf sc && e.wf sc
  | .setAttr o _ _ e _ => o.wf sc && e.wf sc
  | .aug i _ _ e _ => decide (i < n) && e.wf sc
  | .augAttr _ _ _ _ _ e _ => e.wf sc
  | .ite t a b _ => t.wf sc && a.wf sc n && b.wf sc n
  | .while t b _ => t.wf sc && b.wf sc n
  | .for i _ e b _ => decide (i < n) && e.wf sc && b.wf sc n
  | .forR i _ _ e _ b _ => decide (i < n) && globIn sc "range" && e.wf sc && b.wf sc n
  | .ret e _ => e.wf sc
  | .expr e _ => e.wf sc
  | .tri b _ _ => b.wf sc n
  | .ret0 _ => true | .brk _ => true | .raw _ => true
noncomputable def Sts.wf (sc : Scope) (n : Nat) : Sts → Bool
  | .nil => true
  | .cons s ss => s.wf sc n && ss.wf sc n
end

theorem wE_str {sc : Scope} {s : Str} {l : List Nat} {u1 : Pos} : Ex.wf sc (.str s l u1) = (decide (s.cps.toList = l) && decide (l.length ≤ 1000)) := rfl
theorem wE_fn {sc : Scope} {f : Fn} {u1 : Pos} : Ex.wf sc (.fn f u1) = (f.isGlob && globIn sc f.name) := rfl
theorem wE_bin {sc : Scope} {u1 : Bop} {l : Ex} {r : Ex} {u2 : Pos} : Ex.wf sc (.bin u1 l r u2) = (l.wf sc && r.wf sc) := rfl
theorem wE_neg {sc : Scope} {e : Ex} {u1 : Pos} : Ex.wf sc (.neg e u1) = (e.wf sc) := rfl
theorem wE_not {sc : Scope} {e : Ex} {u1 : Pos} : Ex.wf sc (.not e u1) = (e.wf sc) := rfl
theorem wE_cmp {sc : Scope} {u1 : Cop} {l : Ex} {r : Ex} {u2 : Pos} : Ex.wf sc (.cmp u1 l r u2) = (l.wf sc && r.wf sc) := rfl
theorem wE_cmp2 {sc : Scope} {u1 : Cop} {u2 : Cop} {a : Ex} {b : Ex} {c : Ex} {u3 : Pos} : Ex.wf sc (.cmp2 u1 u2 a b c u3) = (a.wf sc && b.wf sc && c.wf sc && notRaw c) := rfl
theorem wE_bop {sc : Scope} {u1 : Bool} {es : Exs} {u2 : Pos} : Ex.wf sc (.bop u1 es u2) = (es.wf sc) := rfl
theorem wE_ite {sc : Scope} {t : Ex} {b : Ex} {o : Ex} {u1 : Pos} : Ex.wf sc (.ite t b o u1) = (t.wf sc && b.wf sc && o.wf sc) := rfl
theorem wE_idx {sc : Scope} {o : Ex} {i : Ex} {u1 : Pos} : Ex.wf sc (.idx o i u1) = (o.wf sc && i.wf sc) := rfl
theorem wE_slc {sc : Scope} {o : Ex} {l : Ex} {u : Ex} {u1 : Pos} {u2 : Pos} : Ex.wf sc (.slc o l u u1 u2) = (o.wf sc && l.wf sc && u.wf sc) := rfl
theorem wE_slcU {sc : Scope} {o : Ex} {u : Ex} {u1 : Pos} {u2 : Pos} : Ex.wf sc (.slcU o u u1 u2) = (o.wf sc && u.wf sc) := rfl
theorem wE_tup {sc : Scope} {es : Exs} {u1 : Pos} : Ex.wf sc (.tup es u1) = (es.wf sc) := rfl
theorem wE_list {sc : Scope} {es : Exs} {u1 : Pos} : Ex.wf sc (.list es u1) = (es.wf sc) := rfl
theorem wE_call {sc : Scope} {f : Fn} {u1 : Pos} {es : Exs} {u2 : Pos} : Ex.wf sc (.call f u1 es u2) = (f.isGlob && globIn sc f.name && es.wf sc) := rfl
theorem wE_callL {sc : Scope} {u1 : Nat} {u2 : Pos} {es : Exs} {u3 : Pos} : Ex.wf sc (.callL u1 u2 es u3) = (es.wf sc) := rfl
theorem wE_bi {sc : Scope} {b : Bi} {u1 : Pos} {es : Exs} {u2 : Pos} : Ex.wf sc (.bi b u1 es u2) = (globIn sc b.name && es.wf sc && !es.isNil) := rfl
theorem wE_isi {sc : Scope} {u1 : Nat} {c : Cl} {u2 : Pos} {u3 : Pos} {u4 : Pos} {u5 : Pos} : Ex.wf sc (.isi u1 c u2 u3 u4 u5) = (globIn sc Bi.isinstance.name && globIn sc c.name) := rfl
theorem wE_meth {sc : Scope} {o : Ex} {m : Mt} {pa : Pos} {es : Exs} {p : Pos} : Ex.wf sc (.meth o m pa es p) = (baseOk o && o.wf sc && es.wf sc && (pa.endLine == p.line) && decide (es.len < 30)) := rfl
theorem wE_clsInit {sc : Scope} {c : Cl} {u1 : Pos} {pa : Pos} {es : Exs} {p : Pos} : Ex.wf sc (.clsInit c u1 pa es p) = (globIn sc c.name && es.wf sc && (pa.endLine == p.line) && decide (es.len < 30)) := rfl
theorem wE_attr {sc : Scope} {o : Ex} {u1 : At} {u2 : Pos} : Ex.wf sc (.attr o u1 u2) = (baseOk o && o.wf sc) := rfl
theorem wE_new {sc : Scope} {u1 : Pos} {u2 : Pos} : Ex.wf sc (.new u1 u2) = (globIn sc Cl.small.name) := rfl
theorem wEs_cons {sc : Scope} {e : Ex} {es : Exs} : Exs.wf sc (.cons e es) = (e.wf sc && es.wf sc) := rfl
theorem wS_assign {sc : Scope} {n : Nat} {i : Nat} {u1 : Pos} {e : Ex} {u2 : Pos} : St.wf sc n (.assign i u1 e u2) = (decide (i < n) && e.wf sc) := rfl
theorem wS_assignT {sc : Scope} {n : Nat} {is : List (Nat × Pos)} {u1 : Pos} {e : Ex} {u2 : Pos} : St.wf sc n (.assignT is u1 e u2) = (is.all (fun x => decide (x.1 < n)) && e.wf sc && !isTupE e) := rfl
theorem wS_assignD {sc : Scope} {n : Nat} {i : Nat} {pi : Pos} {j : Nat} {pj : Pos} {u1 : Pos} {a : Ex} {b : Ex} {u2 : Pos} {u3 : Pos} : St.wf sc n (.assignD i pi j pj u1 a b u2 u3) = (decide (i < n) && decide (j < n) && (pi.line == pj.line) && a.wf sc && b.wf sc && dForm a b) := rfl
theorem wS_setItem {sc : Scope} {n : Nat} {o : Ex} {i : Ex} {e : Ex} {u1 : Pos} {u2 : Pos} : St.wf sc n (.setItem o i e u1 u2) = (o.wf sc && i.wf sc && e.wf sc) := rfl
theorem wS_setAttr {sc : Scope} {n : Nat} {o : Ex} {u1 : At} {u2 : Pos} {e : Ex} {u3 : Pos} : St.wf sc n (.setAttr o u1 u2 e u3) = (o.wf sc && e.wf sc) := rfl
theorem wS_aug {sc : Scope} {n : Nat} {i : Nat} {u1 : Pos} {u2 : Bop} {e : Ex} {u3 : Pos} : St.wf sc n (.aug i u1 u2 e u3) = (decide (i < n) && e.wf sc) := rfl
theorem wS_augAttr {sc : Scope} {n : Nat} {u1 : Nat} {u2 : Pos} {u3 : At} {u4 : Pos} {u5 : Bop} {e : Ex} {u6 : Pos} : St.wf sc n (.augAttr u1 u2 u3 u4 u5 e u6) = (e.wf sc) := rfl
theorem wS_ite {sc : Scope} {n : Nat} {t : Ex} {a : Sts} {b : Sts} {u1 : Pos} : St.wf sc n (.ite t a b u1) = (t.wf sc && a.wf sc n && b.wf sc n) := rfl
theorem wS_while {sc : Scope} {n : Nat} {t : Ex} {b : Sts} {u1 : Pos} : St.wf sc n (.while t b u1) = (t.wf sc && b.wf sc n) := rfl
theorem wS_for {sc : Scope} {n : Nat} {i : Nat} {u1 : Pos} {e : Ex} {b : Sts} {u2 : Pos} : St.wf sc n (.for i u1 e b u2) = (decide (i < n) && e.wf sc && b.wf sc n) := rfl
theorem wS_forR {sc : Scope} {n : Nat} {i : Nat} {u1 : Pos} {u2 : Pos} {e : Ex} {u3 : Pos} {b : Sts} {u4 : Pos} : St.wf sc n (.forR i u1 u2 e u3 b u4) = (decide (i < n) && globIn sc "range" && e.wf sc && b.wf sc n) := rfl
theorem wS_ret {sc : Scope} {n : Nat} {e : Ex} {u1 : Pos} : St.wf sc n (.ret e u1) = (e.wf sc) := rfl
theorem wS_expr {sc : Scope} {n : Nat} {e : Ex} {u1 : Pos} : St.wf sc n (.expr e u1) = (e.wf sc) := rfl
theorem wS_tri {sc : Scope} {n : Nat} {b : Sts} {u1 : List ExceptHandler} {u2 : Pos} : St.wf sc n (.tri b u1 u2) = (b.wf sc n) := rfl
theorem wSs_cons {sc : Scope} {n : Nat} {s : St} {ss : Sts} : Sts.wf sc n (.cons s ss) = (s.wf sc n && ss.wf sc n) := rfl

/-- what is known of a def of the text -/
inductive FnFact (X : MC) (f : Fn) : Prop
  | mk (oc : Value) (od : Option Addr) (osl : Array (Option Value)) (name qual : Str) (params : Arguments) (scope : Scope) (dV kV doc pm : Value) (an : Option Addr) (cdv ct : Value)
    (hf : X.base.get? (X.fa f) = some ⟨oc, od, .func (fnOf name qual params ((X.D f).body.py (X.D f).names) scope dV kV doc pm an cdv ct), osl⟩)
    (hcode : X.base.CodeRec cdv qual) (hN : NsOk (X.D f).names scope) (wf : (X.D f).body.wf scope (X.D f).names.length = true) (hco : scope.isCoroutine = false) (hgen : scope.isGenerator = false)
    (hcell : ∀ x ∈ scope.names, x.2 ≠ .cell) (hnp : (X.D f).np ≤ (X.D f).names.length)
    (hbind : ∀ (s : Shared) (φ : List Addr) xs vs us, (∀ b o, X.base.get? b = some o → s.heap.get? b = some o) → RelVs X φ s.heap xs vs → bindA (X.D f).np (X.D f).defs vs = some us →
      ∃ ys, BindsTo s (fnOf name qual params ((X.D f).body.py (X.D f).names) scope dV kV doc pm an cdv ct) ⟨xs, []⟩ (((X.D f).names.take (X.D f).np).zip ys) ∧ RelVs X φ s.heap ys us) : FnFact X f
structure MC.Ok (X : MC) : Prop where
  g : X.base.Ns mainGlobals X.mg
  b : X.base.Ns builtinsNs X.mb
  nolimit : X.base.NoLimit
  sys : X.base.get? sysModules ≠ none
  gfn : ∀ f, f.isGlob = true → X.mg f.name = some (.ref (X.fa f))
  gcl : ∀ c, X.mg c.name = some (.ref (X.ca c))
  gbi : ∀ b : Bi, X.mg b.name = none ∧ X.mb b.name = some b.val
  grange : X.mg "range" = none ∧ X.mb "range" = some (.type "range")
  fn : ∀ f, FnFact X f
  kin : X.K.In X.base
  hasD : hasDictIn X.K (X.ca .small) = true
  plain : ∀ n, plainGet X.K (X.ca .small) n = true
  noAttr : ∀ a : At, findIn X.K (.ref (X.ca .small)) a.name = some none
  meths : ∀ m f, methF m = some f → findIn X.K (.ref (X.ca .small)) m.name = some (some (.ref (X.fa f))) ∧ isFn X.K (.ref (X.fa f)) = true
  hostG : specialIn X.K (.ref (X.ca .host)) "__getattribute__" = some (some (.builtin "type.__getattribute__"))
  hostI : ∃ mc, typeIn X.K (.ref (X.ca .host)) = some mc ∧ readsIn X.K (X.ca .host) mc = true ∧ findCls X.K (.ref (X.ca .host)) mc "__init__" = some (.val (.ref (X.fa .hostInit)))
  keep : keepIn X.K (.ref (X.ca .small)) = true
  makes : makesIn X.K (X.ca .small) = true
  init : findIn X.K (.ref (X.ca .small)) "__init__" = some (some (.ref (X.fa .smallInit)))
  initF : isFn X.K (.ref (X.fa .smallInit)) = true
  notStr : ∀ c : Cl, (clsIn X.K (X.ca c)).isSome = true ∧ typeIn X.K (.ref (X.ca c)) = some (.type "type") ∧ subIn X.K (.type "str") (.ref (X.ca c)) = some false
  setS : findIn X.K (.ref (X.ca .small)) "__setattr__" = some (some (.builtin "object.__setattr__"))
  over : plainOver X.K (X.ca .small) = true
  taker : ∀ a : At, takerIn X.K (X.ca .small) a.name = some none

/-- room for a def's body, for a call -/
noncomputable def Room (A : Around) (d : Nat) : Prop := A.depth + 2 * d + 1 < recursionLimit ∧ A.units + 20 * d + 210 < cLine ∧ A.handled = none
noncomputable def RoomC (A : Around) (d : Nat) : Prop := A.depth + 2 * d < recursionLimit ∧ A.units + 20 * d + 200 < cLine ∧ A.handled = none
theorem Room.c {A : Around} {d : Nat} (R : Room A d) : RoomC A d := ⟨by have := R.1; omega, by have := R.2.1; omega, R.2.2⟩
noncomputable def CallOk (X : MC) (C : CallT) (d : Nat) : Prop := ∀ f vs σ v σ', C f vs σ = some (v, σ') →
  ∀ (A : Around) (s : Shared) (φ : List Addr) (xs : List Value) (R : Result → Shared → Prop), Inv X φ σ s.heap → RelVs X φ s.heap xs vs → RoomC A d → Post X φ s σ' v (fun x s' => R (.ok (.ret x)) s') →
    codeAny (model X.prog X.w) A (.call (.ref (X.fa f)) ⟨xs, []⟩) R s

section
variable {X : MC} {C : CallT} {d : Nat} {A : Around} {s : Shared} {φ : List Addr} {σ : Sto} {E : Value → Shared → Prop} {ns : List Str} {scope : Scope} {ρ : Loc} {L a : Addr} {qual : Str} {cd : Value}

theorem py_star {e : Ex} (he : ∀ x, e ≠ .raw x) (ns : List Str) (rest : List Expr) (env : Env) : starEach (e.py ns :: rest) env = (false, eval (e.py ns) env) :: starEach rest env := by
  cases e <;> first | rfl | exact absurd rfl (he _)
theorem py_sub {e : Ex} (he : ∀ x, e ≠ .raw x) (ns : List Str) (o i : Value) : subscripted (e.py ns) false o i = operate [o, i] (getItem o i) := by
  cases e <;> first | rfl | exact absurd rfl (he _)
theorem py_marks {e : Ex} (he : ∀ x, e ≠ .raw x) (ns : List Str) (op : CmpOp) : behindInMarks op (e.py ns) = false := by
  cases e <;> first | rfl | exact absurd rfl (he _)
theorem ev_raw {e : Ex} {v : Vl} {σ' : Sto} (h : evE C e ρ σ = some (v, σ')) : ∀ x, e ≠ .raw x := fun x q => by subst q; cases h

/-- a local name -/
theorem loc_ok (F : Fm X φ ns ρ L s.heap) (N : NsOk ns scope) {i : Nat} {v : Vl} (e : locGet ρ i = some v) {p : Pos} {Q : Value → Shared → Prop} (k : ∀ x, RelV X φ s.heap x v → Q x s) (M : Model) :
    wpAny M A (eval (.Name (nm ns i) p) (envOf qual scope L a cd)) Q E s := by
  obtain ⟨m, F0, hm⟩ := F.fr
  obtain ⟨x, h1, r⟩ := hm i v e
  have hi : i < ns.length := by rw [← F.len]; exact locGet_lt e
  exact wpAny_Name (wpAny_loadName_local N.kind (N.loc i hi) F0.ns h1 (k x r)) (N.dbg i hi)
theorem globIn_of {x : Str} (h : globIn scope x = true) : scope.names.lookup x = some .globalImplicit ∧ (x == ("__debug__" : Str)) = false := by
  unfold globIn at h
  simpa using h
theorem glob_ok (O : X.Ok) (F : Fm X φ ns ρ L s.heap) (N : NsOk ns scope) {x : Str} (hg : globIn scope x = true) {v : Value} (e : X.mg x = some v) {p : Pos} {Q : Value → Shared → Prop} (k : Q v s) (M : Model) :
    wpAny M A (eval (.Name x p) (envOf qual scope L a cd)) Q E s := by
  obtain ⟨m, F0, _⟩ := F.fr
  exact ld_global_at F0 O.g e k N.kind (globIn_of hg).1 (globIn_of hg).2
theorem bi_ok (O : X.Ok) (F : Fm X φ ns ρ L s.heap) (N : NsOk ns scope) {x : Str} (hg : globIn scope x = true) {v : Value} (e : X.mg x = none) (e' : X.mb x = some v) {p : Pos} {Q : Value → Shared → Prop} (k : Q v s) (M : Model) :
    wpAny M A (eval (.Name x p) (envOf qual scope L a cd)) Q E s := by
  obtain ⟨m, F0, _⟩ := F.fr
  exact ld_builtin_at F0 O.g e O.b e' k N.kind (globIn_of hg).1 (globIn_of hg).2

theorem spliced_args {M : Model} {f : Value} {args : List (Bool × Sem Value)} (hp : args.any (·.1) = false) {Q : Args → Shared → Prop} (h : wpAny M A (spliced args) (fun vs s' => Q { pos := vs } s') E s) : wpAny M A (evalArgs f true args []) Q E s := by
  cases args with
  | nil =>
    unfold evalArgs
    show wpAny M A (spliced [] >>= _) Q E s
    refine wpAny_bind (wpAny_mono h (fun vs s₁ h₁ => ?_) fun _ _ x => x)
    refine wpAny_holding ?_
    simp only [List.all_nil, if_true]
    exact wpAny_bind (wpAny_evalAll_nil (wpAny_bind (wpAny_pure (wpAny_pure h₁))))
  | cons x r =>
    obtain ⟨b, t⟩ := x
    cases b with
    | true => simp at hp
    | false => exact Calls.evalArgs_plain h
end
end

section
variable {X : MC} {A : Around} {s : Shared} {φ : List Addr} {σ : Sto} {E : Value → Shared → Prop} {ns : List Str} {scope : Scope} {ρ : Loc} {L a : Addr}

noncomputable def allAt : List At := [.tools, .inline, .limit, .fuel, .depth, .spent, .epoch, .frame, .coroutine, .vars, .commands, .firsts]
noncomputable def allMt : List Mt := [.append, .extend, .find, .join, .pop, .init, .put, .remove, .begin, .spend, .call]
theorem mem_at (a : At) : a ∈ allAt := List.mem_of_getElem? (i := a.ctorIdx) (by cases a <;> rfl)
theorem mem_mt (a : Mt) : a ∈ allMt := List.mem_of_getElem? (i := a.ctorIdx) (by cases a <;> rfl)
theorem at_injB : (allAt.all fun a => allAt.all fun b => (a.name == b.name) == decide (a = b)) = true := by kernel_rfl
theorem at_methB : (allAt.all fun a => allMt.all fun m => !(a.name == m.name)) = true := by kernel_rfl
theorem at_inj (a b : At) : (a.name == b.name) = decide (a = b) := beq_iff_eq.mp (List.all_eq_true.mp (List.all_eq_true.mp at_injB a (mem_at a)) b (mem_at b))
theorem at_meth (a : At) (m : Mt) : (a.name == m.name) = false := by simpa using List.all_eq_true.mp (List.all_eq_true.mp at_methB a (mem_at a)) m (mem_mt m)
theorem instI_at (I : Inv X φ σ s.heap) {i : Nat} {y : Addr} {p : Nat × List (At × Vl)} (ha : φ[i]? = some y) (e : instI σ i = some p) :
    ∃ dx es n, φ[p.1]? = some dx ∧ InstAt s.heap y (instObj (X.ca .small) dx) (X.ca .small) (some (dictOf es n)) ∧ RelAs X φ s.heap es p.2 := by
  obtain ⟨q, q2⟩ := instI_eq e
  obtain ⟨y', hy', dx, h1, h2⟩ := I.objs _ _ q
  rw [ha] at hy'; cases hy'
  obtain ⟨dx', hd', es, n, h3, h4⟩ := I.objs _ _ q2
  rw [h1] at hd'; cases hd'
  exact ⟨dx, es, n, h1, ⟨h2, rfl, rfl, h3⟩, h4⟩
theorem inst_at (I : Inv X φ σ s.heap) {v : Vl} {x : Value} {l : List (At × Vl)} (rx : RelV X φ s.heap x v) (e : instOf σ v = some l) :
    ∃ y d dx es n, x = .ref y ∧ v = .ref d ∧ InstAt s.heap y (instObj (X.ca .small) dx) (X.ca .small) (some (dictOf es n)) ∧ RelAs X φ s.heap es l :=
  bindE e fun i q e => mapE e fun p q2 e => by
    subst e
    have hv := vRef_eq q
    rw [hv] at rx
    obtain ⟨y, rfl, ha⟩ := rel_ref rx
    obtain ⟨dx, es, n, _, h2, h3⟩ := instI_at I ha q2
    exact ⟨y, i, dx, es, n, rfl, hv, h2, h3⟩
theorem relAs_get {h : Heap} {es : List DictEntry} {l : List (At × Vl)} (r : RelAs X φ h es l) {b : At} {v : Vl} (e : attrGet b l = some v) : ∃ x, getL b.name es = some (some x) ∧ RelV X φ h x v := by
  induction r with
  | nil => simp [attrGet] at e
  | @cons c t x w es l hx hs ih =>
    simp only [attrGet] at e
    by_cases q : c = b
    · rw [if_pos q] at e; cases e
      refine ⟨x, ?_, hx⟩
      subst q
      simp [getL, Value.isStr]
    · rw [if_neg q] at e
      obtain ⟨z, h1, h2⟩ := ih e
      refine ⟨z, ?_, h2⟩
      have hk : (c.name == b.name) = false := by rw [at_inj]; exact decide_eq_false q
      unfold getL at h1 ⊢
      have : List.find? (fun e => e.key.isStr b.name) (⟨PyData.keyHash X.w.params c.name, .str c.name t, x⟩ :: es) = List.find? (fun e => e.key.isStr b.name) es := by
        rw [List.find?_cons]
        simp only [Value.isStr, hk]
      rw [this]
      split at h1
      · exact h1
      · split at h1 <;> cases h1
theorem relAs_ref {h : Heap} {es : List DictEntry} {l : List (At × Vl)} (r : RelAs X φ h es l) : es.any (·.refKey) = false := by
  induction r with
  | nil => rfl
  | cons hx hs ih => rw [List.any_cons, ih]; rfl
theorem relAs_none {h : Heap} {es : List DictEntry} {l : List (At × Vl)} (r : RelAs X φ h es l) {n : Str} (hn : ∀ b : At, (b.name == n) = false) : getL n es = some none := by
  have h1 : es.find? (fun e => e.key.isStr n) = none := by
    induction r with
    | nil => rfl
    | @cons c t x w es l hx hs ih =>
      rw [List.find?_cons]
      simp only [Value.isStr, hn c]
      exact ih
  unfold getL
  rw [h1]
  show (if es.any (·.refKey) = true then none else some none) = _
  rw [relAs_ref r]; rfl
theorem handedIn_rel {x : Value} {v : Vl} {h : Heap} (r : RelV X φ h x v) : handedIn x = true := by
  cases r <;> rfl
theorem attr_ok (O : X.Ok) (F : Fm X φ ns ρ L s.heap) (I : Inv X φ σ s.heap) {v w : Vl} {x : Value} {l : List (At × Vl)} {b : At} (rx : RelV X φ s.heap x v) (e : instOf σ v = some l) (eb : attrGet b l = some w) {Q : Value → Shared → Prop}
    (k : Post X φ s σ w Q) (ex : Bool) : wpAny (model X.prog X.w) A (getAttr x b.name ex) Q E s := by
  obtain ⟨y, d, dx, es, n, rfl, rfl, Ia, r⟩ := inst_at I rx e
  obtain ⟨z, h1, h2⟩ := relAs_get r eb
  obtain ⟨m, F0, _⟩ := F.fr
  exact get_own F0 O.kin Ia (O.plain _) O.hasD (O.noAttr b) rfl h1 (handedIn_rel h2) (k.same I _ h2)
theorem methI_ok (O : X.Ok) (F : Fm X φ ns ρ L s.heap) (I : Inv X φ σ s.heap) {v : Vl} {x : Value} {l : List (At × Vl)} {m : Mt} {f : Fn} (rx : RelV X φ s.heap x v) (e : instOf σ v = some l) (em : methF m = some f) {Q : Value × List Value → Shared → Prop}
    (k : Q (.ref (X.fa f), [x]) s) (pl : Sem Bool) : wpAny (model X.prog X.w) A (getMethod x m.name pl) Q E s := by
  obtain ⟨y, d, dx, es, n, rfl, rfl, Ia, r⟩ := inst_at I rx e
  obtain ⟨mm, F0, _⟩ := F.fr
  exact method_inst F0 O.kin Ia (O.plain _) (O.meths m f em).1 (O.meths m f em).2 (relAs_none r fun b => at_meth b m) k
theorem hostI_ok (O : X.Ok) (F : Fm X φ ns ρ L s.heap) (I : Inv X φ σ s.heap) {Q : Value × List Value → Shared → Prop}
    (k : ∀ tk, Q (.ref (X.fa .hostInit), []) { s with toks := tk }) (pl : Sem Bool) : wpAny (model X.prog X.w) A (getMethod (.ref (X.ca .host)) "__init__" pl) Q E s := by
  obtain ⟨mm, F0, _⟩ := F.fr
  obtain ⟨mc, h1, h2, h3⟩ := O.hostI
  exact method_of_cls F0 O.kin O.hostG (cls_val F0 O.kin h1 h2 h3 rfl (k _))
theorem newDict_ok (I : Inv X φ σ s.heap) {Q : Value → Shared → Prop} (k : Post X φ s (σ ++ [.dict []]) (.ref σ.length) Q) : wpAny (model X.prog X.w) A newDict Q E s := by
  obtain ⟨I2, E2⟩ := I.alloc { cls := .type "dict", data := .dict #[] } rfl (.dict []) fun _ sk => ⟨[], 0, newSeq _ _ rfl, .nil⟩
  refine wpAny_newObj_type (k _ _ _ _ I2 E2 (.ref _ _ ?_))
  rw [← I.len]; simp
theorem isStr_not (O : X.Ok) (I : Inv X φ σ s.heap) {c : Cl} {x : Value} {l : List Nat} (rx : RelV X φ s.heap x (.str l)) {Q : Value → Shared → Prop} (k : ∀ tk, Q (.bool false) { s with toks := tk }) :
    wpAny (model X.prog X.w) A (call (.builtin "isinstance") [x, .ref (X.ca c)]) Q E s := by
  cases rx with | str x1 t1 _ e1 hl =>
  obtain ⟨h1, h2, h3⟩ := O.notStr c
  have X' : X.K.In s.heap := fun a o e => I.keep a o (O.kin a o e)
  refine call_isinstance (S := fun _ R s => X.K.In s.heap ∧ R (.ok (.ret (.bool false))) { s with toks := s.toks + 1 }) (fun prog w A R s hs => isinstance_outer ?_ (by intro q; cases q)) ⟨X', k _⟩
  obtain ⟨Y, hq⟩ := hs
  obtain ⟨h0, g, d, tt, os⟩ := s
  have Lt : Looks (model prog w) h0 (typeOf (.ref (X.ca c))) (.type "type") := looks_typeIn Y h2
  have Ls : Looks (model prog w) h0 (isSubtype (.type "str") (.ref (X.ca c))) false := looks_subIn Y h3
  have Li : Looks (model prog w) h0 (isType (.ref (X.ca c))) true := by
    unfold clsIn at h1
    split at h1
    · rename_i c' d' cd' sl' ho
      intro A' Q' E' s' k q
      unfold isType loadHead
      exact wpAny_bind (wpAny_loadPart (k _ _ (Y _ _ ho)) (wpAny_pure q))
    · cases h1
  have L0 : Looks (model prog w) h0 (typeOf (.str x1 t1)) (.type "str") := .of_pure rfl
  have LI : Looks (model prog w) h0 (isInstance (.str x1 t1) (.ref (X.ca c))) false := L0.andThen Ls
  have LD : Looks (model prog w) h0 (isType (.type "str")) true := .of_pure rfl
  unfold Builtin.«isinstance.nested»
  refine wpAny_bind (L0.at ?_)
  rw [if_neg (fun q => by simp at q)]
  refine wpAny_bind (Lt.at ?_)
  rw [if_pos (by decide)]
  k_delta "plainIsInstance"
  refine wpAny_bind (wpAny_bind (Li.at ?_))
  simp only [Bool.not_true, Bool.false_eq_true, if_false]
  refine wpAny_bind (LI.at ?_)
  simp only [Bool.false_eq_true, if_false]
  refine wpAny_bind (class_attr_str ?_)
  refine wpAny_bind (LD.at ?_)
  simp only [Bool.not_true, Bool.false_eq_true, if_false]
  refine wpAny_bind (wpAny_rule ?_)
  refine Ls.at ?_
  first | exact wpAny_pure hq | exact wpAny_pure (wpAny_pure hq)
end

section
theorem Post.trans {X : MC} {φ φ' : List Addr} {s : Shared} {h' : Heap} {tk : Nat} {σ' : Sto} {v : Vl} {Q : Value → Shared → Prop} (k : Post X φ s σ' v Q) (x : Ext [] φ φ' s.heap h') : Post X φ' { s with heap := h', toks := tk } σ' v Q :=
  fun φ'' h'' tk'' y I E r => k φ'' h'' tk'' y I (x.trans E) r
noncomputable def PostT (X : MC) (φ : List Addr) (s : Shared) (σ' : Sto) (b : Bool) (Q : Bool → Shared → Prop) : Prop :=
  ∀ φ' h' tk', Inv X φ' σ' h' → Ext [] φ φ' s.heap h' → Q b { s with heap := h', toks := tk' }
theorem PostT.trans {X : MC} {φ φ' : List Addr} {s : Shared} {h' : Heap} {tk : Nat} {σ' : Sto} {v : Bool} {Q : Bool → Shared → Prop} (k : PostT X φ s σ' v Q) (x : Ext [] φ φ' s.heap h') : PostT X φ' { s with heap := h', toks := tk } σ' v Q :=
  fun φ'' h'' tk'' I E => k φ'' h'' tk'' I (x.trans E)
noncomputable def PostS (X : MC) (φ : List Addr) (s : Shared) (σ' : Sto) (vs : List Vl) (Q : List Value → Shared → Prop) : Prop :=
  ∀ φ' h' tk' xs, Inv X φ' σ' h' → Ext [] φ φ' s.heap h' → RelVs X φ' h' xs vs → Q xs { s with heap := h', toks := tk' }

noncomputable def OkE (X : MC) (C : CallT) (d : Nat) (ns : List Str) (scope : Scope) (e : Ex) : Prop := ∀ ρ σ v σ', evE C e ρ σ = some (v, σ') → e.wf scope = true →
  ∀ (A : Around) (s : Shared) (φ : List Addr) (L a : Addr) (qual : Str) (cd : Value) (Q E : Value → Shared → Prop), Room A d → Inv X φ σ s.heap → Fm X φ ns ρ L s.heap → Post X φ s σ' v Q →
    wpAny (model X.prog X.w) A (eval (e.py ns) (envOf qual scope L a cd)) Q E s
noncomputable def OkT (X : MC) (C : CallT) (d : Nat) (ns : List Str) (scope : Scope) (e : Ex) : Prop := ∀ ρ σ v σ' b, evE C e ρ σ = some (v, σ') → truthV σ' v = some b → e.wf scope = true →
  ∀ (A : Around) (s : Shared) (φ : List Addr) (L a : Addr) (qual : Str) (cd : Value) (Q : Bool → Shared → Prop) (E : Value → Shared → Prop), Room A d → Inv X φ σ s.heap → Fm X φ ns ρ L s.heap → PostT X φ s σ' b Q →
    wpAny (model X.prog X.w) A (isTrue (e.py ns) (envOf qual scope L a cd) (eval (e.py ns) (envOf qual scope L a cd))) Q E s
noncomputable def OkS (X : MC) (C : CallT) (d : Nat) (ns : List Str) (scope : Scope) (es : Exs) : Prop := ∀ ρ σ vs σ', evEs C es ρ σ = some (vs, σ') → es.wf scope = true →
  ∀ (A : Around) (s : Shared) (φ : List Addr) (L a : Addr) (qual : Str) (cd : Value) (pos : Pos) (Q : List Value → Shared → Prop) (E : Value → Shared → Prop), Room A d → Inv X φ σ s.heap → Fm X φ ns ρ L s.heap → PostS X φ s σ' vs Q →
    wpAny (model X.prog X.w) A (spliced (backTo pos (starEach (es.py ns) (envOf qual scope L a cd)))) Q E s
noncomputable def pyOp (isAnd : Bool) : BoolOp := match isAnd with | true => .And | false => .Or
noncomputable def OkB (X : MC) (C : CallT) (d : Nat) (ns : List Str) (scope : Scope) (es : Exs) : Prop := ∀ isAnd ρ σ v σ', evB C isAnd es ρ σ = some (v, σ') → es.wf scope = true →
  ∀ (A : Around) (s : Shared) (φ : List Addr) (L a : Addr) (qual : Str) (cd : Value) (pos : Pos) (Q E : Value → Shared → Prop), Room A d → Inv X φ σ s.heap → Fm X φ ns ρ L s.heap → Post X φ s σ' v Q →
    wpAny (model X.prog X.w) A (eval (.BoolOp (pyOp isAnd) (es.py ns) pos) (envOf qual scope L a cd)) Q E s
noncomputable def OkA (X : MC) (C : CallT) (d : Nat) (ns : List Str) (scope : Scope) (es : Exs) : Prop := ∀ isAnd ρ σ v σ' b, evB C isAnd es ρ σ = some (v, σ') → truthV σ' v = some b → es.wf scope = true →
  ∀ (A : Around) (s : Shared) (φ : List Addr) (L a : Addr) (qual : Str) (cd : Value) (Q : Bool → Shared → Prop) (E : Value → Shared → Prop), Room A d → Inv X φ σ s.heap → Fm X φ ns ρ L s.heap → PostT X φ s σ' b Q →
    wpAny (model X.prog X.w) A (allTrue (pyOp isAnd) (es.py ns) (envOf qual scope L a cd)) Q E s

theorem es_plain {C : CallT} {ρ : Loc} (pos : Pos) (ns : List Str) (env : Env) : ∀ {es : Exs} {σ : Sto} {r}, evEs C es ρ σ = some r → (backTo pos (starEach (es.py ns) env)).any (·.1) = false
  | .nil, _, _, _ => rfl
  | .cons e es, σ, r, h => thenVE h fun v σ1 h1 h => thenLE h fun vs σ2 h2 h => by
    show (backTo pos (starEach (e.py ns :: es.py ns) env)).any (·.1) = false
    rw [py_star (ev_raw h1)]
    exact es_plain pos ns env h2
theorem es_len (ns : List Str) : ∀ es : Exs, (es.py ns).length = es.len
  | .nil => rfl
  | .cons e es => by
    show (e.py ns :: es.py ns).length = _
    rw [List.length_cons, es_len ns es]; rfl

/-- a method's call -/
theorem meth_rule {M : Model} {A : Around} {s : Shared} {E : Value → Shared → Prop} {env : Env} {o : Expr} {name : Str} {apos pos : Pos} {args : List Expr} {Q : Value → Shared → Prop} (hb : attributeBase o name env (eval o env) = eval o env)
    (hp : (backTo pos (starEach args env)).any (·.1) = false) (hn : args.length < 30) (hl : (apos.endLine == pos.line) = true)
    (h : wpAny M A (eval o env) (fun ov s₁ => ∀ pl, wpAny M A (getMethod ov name pl) (fun fx s₂ => wpAny M A (callWith pos fx.1 fx.2 (backTo pos (starEach args env)) []) Q E s₂) E s₁) E s) :
    wpAny M A (eval (.Call (.Attribute o name apos) args [] pos) env) Q E s := by
  have few : methodCallForm (args.length + ([] : List Keyword).length) (backTo pos (starEach args env)) (backToKw pos (keywordEach [] env)) = true := by
    unfold methodCallForm
    have h1 : (backTo pos (starEach args env)).all (fun x => !x.1) = true := by
      rw [List.all_eq_not_any_not]; simpa using hp
    rw [h1]
    show (true && true && decide (args.length + 0 + 0 < 30)) = true
    simpa using hn
  rw [arm_eval_Call, hb]
  refine wpAny_bind (wpAny_mono h (fun ov s₁ h₁ => wpAny_bind (wpAny_standAt ?_)) fun _ _ x => x)
  unfold methodCall
  rw [few]
  refine wpAny_bind (wpAny_holding (wpAny_mono (h₁ _) (fun fx s₂ h₂ => ?_) fun _ _ x => x))
  unfold methodCallPos
  rw [hl]
  exact wpAny_bind (wpAny_pure h₂)
theorem bi_callWith {M : Model} {A : Around} {s : Shared} {E : Value → Shared → Prop} {b : Bi} {pos : Pos} {args : List (Bool × Sem Value)} {Q : Value → Shared → Prop} (hp : args.any (·.1) = false)
    (key : wpAny M A (evalArgs b.val true args []) (fun x s' => wpAny M A (call b.val ([] ++ x.pos) x.kw) Q E s') E s) : wpAny M A (callWith pos b.val [] args []) Q E s := by
  cases b with
  | len => exact Calls.callWith_builtin hp key
  | ord => exact Calls.callWith_builtin hp key
  | chr => exact Calls.callWith_builtin hp key
  | isinstance => exact Calls.callWith_builtin hp key
  | str => exact PySem.callWith_type hp key
  | tuple => exact PySem.callWith_type hp key
theorem base_py {o : Ex} (h : baseOk o = true) (ns : List Str) (name : Str) (env : Env) : attributeBase (o.py ns) name env (eval (o.py ns) env) = eval (o.py ns) env := by
  cases o <;> first | rfl | cases h

section
variable {X : MC} {C : CallT} {d : Nat} {ns : List Str} {scope : Scope}
theorem okT_of {e : Ex} (h : OkE X C d ns scope e) (hd : ∀ env t, isTrue (e.py ns) env t = (do let v ← t; standAt (e.py ns).pos; holding [v] (truthy v))) : OkT X C d ns scope e := by
  intro ρ σ v σ' b e1 e2 wf A s φ L a qual cd Q E R I F k
  rw [hd]
  refine wpAny_bind (h ρ σ v σ' e1 wf A s φ L a qual cd _ E R I F fun φ' h' tk' x I' E' r => ?_)
  exact wpAny_bind (wpAny_standAt (wpAny_holding (truthV_ok (s := { s with heap := h', toks := tk' }) I' r e2 fun tk => k φ' h' tk I' E')))
/-- a call of a def of the text, its arguments to be reckoned -/
theorem callFn_ok (O : X.Ok) (hC : CallOk X C d) {es : Exs} (hS : OkS X C d ns scope es) {ρ : Loc} {σ σ₁ σ' : Sto} {vs : List Vl} {v : Vl} {f : Fn} (e1 : evEs C es ρ σ = some (vs, σ₁)) {ws : List Vl} (e2 : C f (ws ++ vs) σ₁ = some (v, σ')) (wf : es.wf scope = true)
    {A : Around} {s : Shared} {φ : List Addr} {L a : Addr} {qual : Str} {cd : Value} {Q E : Value → Shared → Prop} (R : Room A d) (I : Inv X φ σ s.heap) (F : Fm X φ ns ρ L s.heap) {first : List Value} (rf : RelVs X φ s.heap first ws) (k : Post X φ s σ' v Q) (pos : Pos) :
    wpAny (model X.prog X.w) A (callWith pos (.ref (X.fa f)) first (backTo pos (starEach (es.py ns) (envOf qual scope L a cd))) []) Q E s := by
  cases O.fn f with | mk oc od osl name qual' params scope' dV kV doc pm an cdv ct hf =>
  refine Calls.callWith_function (o := ⟨oc, od, .func (fnOf name qual' params ((X.D f).body.py (X.D f).names) scope' dV kV doc pm an cdv ct), osl⟩) (fd := fnOf name qual' params ((X.D f).body.py (X.D f).names) scope' dV kV doc pm an cdv ct) ?_
  refine spliced_args (es_plain pos ns _ e1) (hS ρ σ vs σ₁ e1 wf A s φ L a qual cd pos _ E R I F fun φ' h' tk' xs I' E' r => ⟨⟨I'.keep _ _ hf, rfl⟩, ?_⟩)
  exact wpAny_call (hC f _ _ _ _ e2 A { s with heap := h', toks := tk' } φ' _ _ I' ((rf.mono E'.seq).append r) R.c (k.trans E'))
end

theorem under_new (A : Around) (C : Addr) : (A.under (.builtin "type.__call__" ⟨[.ref C], []⟩)).depth = A.depth + 1 ∧ (A.under (.builtin "type.__call__" ⟨[.ref C], []⟩)).units ≤ A.units + 5 ∧ (A.under (.builtin "type.__call__" ⟨[.ref C], []⟩)).handled = A.handled := by
  refine ⟨rfl, ?_, rfl⟩
  show A.units + (Code.builtin "type.__call__" ⟨[.ref C], []⟩).cUnits ≤ A.units + 5
  have : (Code.builtin "type.__call__" ⟨[.ref C], []⟩).cUnits ≤ 5 := Nat.le_of_ble_eq_true rfl
  omega
theorem new_ok {X : MC} {C : CallT} {d : Nat} (O : X.Ok) (hC : CallOk X C d) {A : Around} {s : Shared} {φ : List Addr} {σ σ' : Sto} (I : Inv X φ σ s.heap) (R : Room A d) (e : C .smallInit [.ref (σ.length + 1)] (σ ++ [.attrs [], .inst σ.length]) = some (.none, σ'))
    {Q E : Value → Shared → Prop} (k : Post X φ s σ' (.ref (σ.length + 1)) Q) : wpAny (model X.prog X.w) A (call (.ref (X.ca .small)) []) Q E s := by
  refine wpAny_call ?_
  obtain ⟨hh, g, dd, t, os⟩ := s
  have X' : X.K.In hh := fun a o e => I.keep a o (O.kin a o e)
  have hf : typeIn X.K (.ref (X.fa .smallInit)) = some (.type "function") := beq_iff_eq.mp O.initF
  refine make_core (makes_of X' O.makes) (looks_findIn X' O.init) (fun self => bind_fn X' self hf) (.inl rfl) ?_
  obtain ⟨I1, E1⟩ := I.alloc emptyDict rfl (.attrs []) fun _ sk => ⟨[], 0, newSeq _ _ rfl, .nil⟩
  have hidx : (φ ++ [hh.objs.size])[σ.length]? = some hh.objs.size := by
    have := I.len; rw [← this]; simp
  obtain ⟨I2, E2⟩ := I1.alloc (instObj (X.ca .small) hh.objs.size) rfl (.inst σ.length) fun _ sk => ⟨hh.objs.size, sk.1 _ _ hidx, newSeq _ _ rfl⟩
  dsimp only at I2 E2
  rw [Heap.size_push] at I2 E2
  have hst : σ ++ [Ob.attrs []] ++ [Ob.inst σ.length] = σ ++ [.attrs [], .inst σ.length] := by simp
  rw [hst] at I2
  have hidx2 : (φ ++ [hh.objs.size] ++ [hh.objs.size + 1])[σ.length + 1]? = some (hh.objs.size + 1) := by
    have := I.len; rw [← this]; simp
  obtain ⟨u1, u2, u3⟩ := under_new A (X.ca .small)
  refine hC .smallInit [.ref (σ.length + 1)] _ .none σ' e _ _ _ _ _ I2 (.cons (.ref _ _ hidx2) .nil) ⟨by rw [u1]; have := R.1; omega, by have := R.2.1; omega, u3.trans R.2.2⟩ ?_
  intro φ' h' tk' x I' E' r
  cases r
  exact ⟨rfl, k φ' h' tk' _ I' ((E1.trans E2).trans E') (.ref _ _ (E'.pre _ _ hidx2))⟩

set_option maxHeartbeats 2000000 in
mutual
theorem evE_ok {X : MC} {C : CallT} {d : Nat} {ns : List Str} {scope : Scope} (O : X.Ok) (hC : CallOk X C d) (hN : NsOk ns scope) : ∀ e : Ex, OkE X C d ns scope e ∧ OkT X C d ns scope e
  | .none p => by
    have h : OkE X C d ns scope (.none p) := fun ρ σ v σ' e wf A s φ L a qual cd Q E R I F k => by
      cases e; exact wpAny_pure (k.same I s.toks .none)
    exact ⟨h, okT_of h fun _ _ => rfl⟩
  | .bool b p => by
    have h : OkE X C d ns scope (.bool b p) := fun ρ σ v σ' e wf A s φ L a qual cd Q E R I F k => by
      cases e; exact wpAny_pure (k.same I s.toks (.bool b))
    exact ⟨h, okT_of h fun _ _ => rfl⟩
  | .int i p => by
    have h : OkE X C d ns scope (.int i p) := fun ρ σ v σ' e wf A s φ L a qual cd Q E R I F k => by
      cases e; exact wpAny_Constant_int (k.same I _ (.int i _))
    exact ⟨h, okT_of h fun _ _ => rfl⟩
  | .str st l p => by
    have h : OkE X C d ns scope (.str st l p) := fun ρ σ v σ' e wf A s φ L a qual cd Q E R I F k => by
      cases e
      simp only [wE_str, Bool.and_eq_true, decide_eq_true_eq] at wf
      exact wpAny_mkText (k.same I _ (.str st _ l wf.1 (by rw [line_eq]; omega)))
    exact ⟨h, okT_of h fun _ _ => rfl⟩
  | .loc i p => by
    have h : OkE X C d ns scope (.loc i p) := fun ρ σ v σ' e wf A s φ L a qual cd Q E R I F k => by
      refine mapE e fun v' q e => ?_
      cases e
      exact loc_ok F hN q (fun x r => k.same I s.toks r) _
    exact ⟨h, okT_of h fun _ _ => rfl⟩
  | .fn f p => by
    have h : OkE X C d ns scope (.fn f p) := fun ρ σ v σ' e wf A s φ L a qual cd Q E R I F k => by
      cases e
      simp only [wE_fn, Bool.and_eq_true] at wf
      exact glob_ok O F hN wf.2 (O.gfn f wf.1) (k.same I s.toks (.fn f _ rfl)) _
    exact ⟨h, okT_of h fun _ _ => rfl⟩
  | .bin op l r p => by
    have h : OkE X C d ns scope (.bin op l r p) := fun ρ σ v σ' e wf A s φ L a qual cd Q E R I F k => by
      simp only [wE_bin, Bool.and_eq_true] at wf
      refine thenVE e fun x σ1 e1 e => ?_
      refine thenVE e fun y σ2 e2 e => ?_
      refine mapE e fun w e3 e => ?_
      cases e
      refine wpAny_BinOp ((evE_ok O hC hN l).1 ρ σ x σ1 e1 wf.1 A s φ L a qual cd _ E R I F fun φ1 h1 tk1 x1 I1 E1 r1 => ?_)
      refine (evE_ok O hC hN r).1 ρ σ1 y _ e2 wf.2 A _ φ1 L a qual cd _ E R I1 (F.ext E1 I1.keep) fun φ2 h2 tk2 x2 I2 E2 r2 => ?_
      exact binV_ok (s := { s with heap := h2, toks := tk2 }) I2 (r1.mono E2.seq) r2 e3 (k.trans (E1.trans E2))
    exact ⟨h, okT_of h fun _ _ => rfl⟩
  | .neg e0 p => by
    have h : OkE X C d ns scope (.neg e0 p) := fun ρ σ v σ' e wf A s φ L a qual cd Q E R I F k => by
      refine thenVE e fun i σ1 e1 e => mapE e fun n q e => ?_
      rw [vInt_eq q] at e1
      cases e
      refine wpAny_UnaryOp ((evE_ok O hC hN e0).1 ρ σ _ _ e1 wf A s φ L a qual cd _ E R I F fun φ1 h1 tk1 x1 I1 E1 r1 => ?_)
      cases r1 with | int _ t => exact P.neg_int (k φ1 h1 _ _ I1 E1 (.int _ _))
    exact ⟨h, okT_of h fun _ _ => rfl⟩
  | .not e0 p => by
    have h : OkE X C d ns scope (.not e0 p) := fun ρ σ v σ' e wf A s φ L a qual cd Q E R I F k => by
      refine thenVE e fun x σ1 e1 e => ?_
      refine mapE e fun b e2 e => ?_
      cases e
      refine wpAny_UnaryOp ((evE_ok O hC hN e0).1 ρ σ _ _ e1 wf A s φ L a qual cd _ E R I F fun φ1 h1 tk1 x1 I1 E1 r1 => ?_)
      exact not_of (truthV_ok (s := { s with heap := h1, toks := tk1 }) I1 r1 e2 fun tk => k φ1 h1 tk _ I1 E1 (.bool _))
    refine ⟨h, fun ρ σ v σ' b e e2 wf A s φ L a qual cd Q E R I F k => ?_⟩
    refine thenVE e fun x σ1 e1 e => ?_
    refine mapE e fun b' e3 e => ?_
    cases e
    cases e2
    show wpAny _ _ (do return !(← isTrue (e0.py ns) _ (eval (e0.py ns) _))) _ _ _
    exact wpAny_bind ((evE_ok O hC hN e0).2 ρ σ x _ b' e1 e3 wf A s φ L a qual cd _ E R I F fun φ1 h1 tk1 I1 E1 => wpAny_pure (k φ1 h1 tk1 I1 E1))
  | .cmp op l r p => by
    have h : OkE X C d ns scope (.cmp op l r p) := fun ρ σ v σ' e wf A s φ L a qual cd Q E R I F k => by
      simp only [wE_cmp, Bool.and_eq_true] at wf
      refine thenVE e fun x σ1 e1 e => ?_
      refine thenVE e fun y σ2 e2 e => ?_
      refine mapE e fun w e3 e => ?_
      cases e
      refine wpAny_Compare1 ((evE_ok O hC hN l).1 ρ σ x σ1 e1 wf.1 A s φ L a qual cd _ E R I F fun φ1 h1 tk1 x1 I1 E1 r1 => ?_) (py_marks (ev_raw e2) ns _)
      refine (evE_ok O hC hN r).1 ρ σ1 y _ e2 wf.2 A _ φ1 L a qual cd _ E R I1 (F.ext E1 I1.keep) fun φ2 h2 tk2 x2 I2 E2 r2 => ?_
      exact cmpV_ok (s := { s with heap := h2, toks := tk2 }) I2 O.sys (by have := R.2.1; simp only [Around.in1_units]; omega) (r1.mono E2.seq) r2 e3 fun tk => k φ2 h2 tk _ I2 (E1.trans E2) (.bool _)
    refine ⟨h, fun ρ σ v σ' b e eb wf A s φ L a qual cd Q E R I F k => ?_⟩
    simp only [wE_cmp, Bool.and_eq_true] at wf
    refine thenVE e fun x σ1 e1 e => ?_
    refine thenVE e fun y σ2 e2 e => ?_
    refine mapE e fun w e3 e => ?_
    cases e
    cases eb
    refine wpAny_isTrue_Compare1 ((evE_ok O hC hN l).1 ρ σ x σ1 e1 wf.1 A s φ L a qual cd _ E R I F fun φ1 h1 tk1 x1 I1 E1 r1 => ?_) (py_marks (ev_raw e2) ns _)
    refine (evE_ok O hC hN r).1 ρ σ1 y _ e2 wf.2 A _ φ1 L a qual cd _ E R I1 (F.ext E1 I1.keep) fun φ2 h2 tk2 x2 I2 E2 r2 => ?_
    exact cmpV_ok (s := { s with heap := h2, toks := tk2 }) I2 O.sys (by have := R.2.1; simp only [Around.in1_units]; omega) (r1.mono E2.seq) r2 e3 fun tk => wpAny_truthy_bool (k φ2 h2 tk I2 (E1.trans E2))
  | .cmp2 o1 o2 l r c p => by
    have hm : Ex.wf scope (.cmp2 o1 o2 l r c p) = true → lastMarks (o1.py :: o2.py :: []) (r.py ns :: c.py ns :: []) = false := fun wf => by
      simp only [wE_cmp2, Bool.and_eq_true] at wf
      exact py_marks (fun x q => by rw [q] at wf; exact Bool.noConfusion wf.2) ns _
    have h : OkE X C d ns scope (.cmp2 o1 o2 l r c p) := fun ρ σ v σ' e wf A s φ L a qual cd Q E R I F k => by
      have hm := hm wf
      simp only [wE_cmp2, Bool.and_eq_true] at wf
      have hu : A.in1.units < cLine := by have := R.2.1; simp only [Around.in1_units]; omega
      refine thenVE e fun x σ1 e1 e => ?_
      refine thenVE e fun y σ2 e2 e => ?_
      refine Compare_chain ((evE_ok O hC hN l).1 ρ σ x σ1 e1 wf.1.1.1 A s φ L a qual cd _ E R I F fun φ1 h1 tk1 x1 I1 E1 r1 => ?_) hm
      refine chain_link ((evE_ok O hC hN r).1 ρ σ1 y σ2 e2 wf.1.1.2 A _ φ1 L a qual cd _ E R I1 (F.ext E1 I1.keep) fun φ2 h2 tk2 x2 I2 E2 r2 => ?_)
      refine bindE e fun u e3 e => ?_
      cases u with
      | true =>
        refine cmpV_ok (s := { s with heap := h2, toks := tk2 }) I2 O.sys hu (r1.mono E2.seq) r2 e3 fun tk => wpAny_truthy_bool ?_
        simp only [if_true]
        rw [pick_t] at e
        refine thenVE e fun z σ3 e4 e => ?_
        refine mapE e fun w e5 e => ?_
        cases e
        refine chain_last ((evE_ok O hC hN c).1 ρ σ2 z _ e4 wf.1.2 A { s with heap := h2, toks := tk } φ2 L a qual cd _ E R I2 ((F.ext E1 I1.keep).ext E2 I2.keep) fun φ3 h3 tk3 x3 I3 E3 r3 => ?_)
        exact cmpV_ok (s := { s with heap := h3, toks := tk3 }) I3 O.sys hu (r2.mono E3.seq) r3 e5 fun tk => k φ3 h3 tk _ I3 ((E1.trans E2).trans E3) (.bool _)
      | false =>
        cases e
        refine cmpV_ok (s := { s with heap := h2, toks := tk2 }) I2 O.sys hu (r1.mono E2.seq) r2 e3 fun tk => wpAny_truthy_bool ?_
        simp only [Bool.false_eq_true, if_false]
        exact k φ2 h2 tk _ I2 (E1.trans E2) (.bool _)
    refine ⟨h, fun ρ σ v σ' b e eb wf A s φ L a qual cd Q E R I F k => ?_⟩
    have hm := hm wf
    simp only [wE_cmp2, Bool.and_eq_true] at wf
    have hu : A.in1.units < cLine := by have := R.2.1; simp only [Around.in1_units]; omega
    refine thenVE e fun x σ1 e1 e => ?_
    refine thenVE e fun y σ2 e2 e => ?_
    refine isTrue_chain ((evE_ok O hC hN l).1 ρ σ x σ1 e1 wf.1.1.1 A s φ L a qual cd _ E R I F fun φ1 h1 tk1 x1 I1 E1 r1 => ?_) hm
    refine test_link ((evE_ok O hC hN r).1 ρ σ1 y σ2 e2 wf.1.1.2 A _ φ1 L a qual cd _ E R I1 (F.ext E1 I1.keep) fun φ2 h2 tk2 x2 I2 E2 r2 => ?_)
    refine bindE e fun u e3 e => ?_
    cases u with
    | true =>
      refine cmpV_ok (s := { s with heap := h2, toks := tk2 }) I2 O.sys hu (r1.mono E2.seq) r2 e3 fun tk => wpAny_truthy_bool ?_
      simp only [if_true]
      rw [pick_t] at e
      refine thenVE e fun z σ3 e4 e => ?_
      refine mapE e fun w e5 e => ?_
      cases e
      cases eb
      refine test_last ((evE_ok O hC hN c).1 ρ σ2 z _ e4 wf.1.2 A { s with heap := h2, toks := tk } φ2 L a qual cd _ E R I2 ((F.ext E1 I1.keep).ext E2 I2.keep) fun φ3 h3 tk3 x3 I3 E3 r3 => ?_)
      exact cmpV_ok (s := { s with heap := h3, toks := tk3 }) I3 O.sys hu (r2.mono E3.seq) r3 e5 fun tk => wpAny_truthy_bool (k φ3 h3 tk I3 ((E1.trans E2).trans E3))
    | false =>
      cases e
      cases eb
      refine cmpV_ok (s := { s with heap := h2, toks := tk2 }) I2 O.sys hu (r1.mono E2.seq) r2 e3 fun tk => wpAny_truthy_bool ?_
      simp only [Bool.false_eq_true, if_false]
      exact k φ2 h2 tk I2 (E1.trans E2)
  | .bop isAnd es p => by
    have h : OkE X C d ns scope (.bop isAnd es p) := fun ρ σ v σ' e wf A s φ L a qual cd Q E R I F k => by
      have := (evEs_ok O hC hN es).2.1 isAnd ρ σ v σ' e wf A s φ L a qual cd p Q E R I F k
      cases isAnd <;> exact this
    refine ⟨h, fun ρ σ v σ' b e eb wf A s φ L a qual cd Q E R I F k => ?_⟩
    have := (evEs_ok O hC hN es).2.2 isAnd ρ σ v σ' b e eb wf A s φ L a qual cd Q E R I F k
    cases isAnd <;> exact this
  | .ite t b o p => by
    have h : OkE X C d ns scope (.ite t b o p) := fun ρ σ v σ' e wf A s φ L a qual cd Q E R I F k => by
      simp only [wE_ite, Bool.and_eq_true] at wf
      refine thenVE e fun x σ1 e1 e => ?_
      refine bindE e fun u e2 e => ?_
      cases u with
      | true =>
        refine wpAny_IfExp ((evE_ok O hC hN t).2 ρ σ x σ1 true e1 e2 wf.1.1 A s φ L a qual cd _ E R I F fun φ1 h1 tk1 I1 E1 => ?_)
        simp only [if_true]
        exact (evE_ok O hC hN b).1 ρ σ1 v σ' e wf.1.2 A _ φ1 L a qual cd _ E R I1 (F.ext E1 I1.keep) (k.trans E1)
      | false =>
        refine wpAny_IfExp ((evE_ok O hC hN t).2 ρ σ x σ1 false e1 e2 wf.1.1 A s φ L a qual cd _ E R I F fun φ1 h1 tk1 I1 E1 => ?_)
        simp only [Bool.false_eq_true, if_false]
        exact (evE_ok O hC hN o).1 ρ σ1 v σ' e wf.2 A _ φ1 L a qual cd _ E R I1 (F.ext E1 I1.keep) (k.trans E1)
    refine ⟨h, fun ρ σ v σ' b' e eb wf A s φ L a qual cd Q E R I F k => ?_⟩
    simp only [wE_ite, Bool.and_eq_true] at wf
    refine thenVE e fun x σ1 e1 e => ?_
    refine bindE e fun u e2 e => ?_
    cases u with
    | true =>
      refine isTrue_IfExp ((evE_ok O hC hN t).2 ρ σ x σ1 true e1 e2 wf.1.1 A s φ L a qual cd _ E R I F fun φ1 h1 tk1 I1 E1 => ?_)
      simp only [if_true]
      exact (evE_ok O hC hN b).2 ρ σ1 v σ' b' e eb wf.1.2 A _ φ1 L a qual cd _ E R I1 (F.ext E1 I1.keep) (k.trans E1)
    | false =>
      refine isTrue_IfExp ((evE_ok O hC hN t).2 ρ σ x σ1 false e1 e2 wf.1.1 A s φ L a qual cd _ E R I F fun φ1 h1 tk1 I1 E1 => ?_)
      simp only [Bool.false_eq_true, if_false]
      exact (evE_ok O hC hN o).2 ρ σ1 v σ' b' e eb wf.2 A _ φ1 L a qual cd _ E R I1 (F.ext E1 I1.keep) (k.trans E1)
  | .idx o i p => by
    have h : OkE X C d ns scope (.idx o i p) := fun ρ σ v σ' e wf A s φ L a qual cd Q E R I F k => by
      simp only [wE_idx, Bool.and_eq_true] at wf
      refine thenVE e fun x σ1 e1 e => ?_
      refine thenVE e fun y σ2 e2 e => ?_
      refine mapE e fun w e3 e => ?_
      cases e
      refine Subscript_ ((evE_ok O hC hN o).1 ρ σ x σ1 e1 wf.1 A s φ L a qual cd _ E R I F fun φ1 h1 tk1 x1 I1 E1 r1 => ?_)
      refine (evE_ok O hC hN i).1 ρ σ1 y _ e2 wf.2 A _ φ1 L a qual cd _ E R I1 (F.ext E1 I1.keep) fun φ2 h2 tk2 x2 I2 E2 r2 => ?_
      exact idxV_ok (s := { s with heap := h2, toks := tk2 }) I2 (r1.mono E2.seq) r2 e3 (k.trans (E1.trans E2)) (py_sub (ev_raw e2) ns _ _)
    exact ⟨h, okT_of h fun _ _ => rfl⟩
  | .slc o l u ps p => by
    have h : OkE X C d ns scope (.slc o l u ps p) := fun ρ σ v σ' e wf A s φ L a qual cd Q E R I F k => by
      simp only [wE_slc, Bool.and_eq_true] at wf
      refine thenVE e fun x σ1 e1 e => ?_
      refine thenVE e fun i' σ2 e2 e => bindE e fun i q1 e => thenVE e fun j' σ3 e3 e => bindE e fun j q2 e => mapE e fun w e4 e => ?_
      rw [vInt_eq q1] at e2; rw [vInt_eq q2] at e3
      cases e
      refine Subscript_ ((evE_ok O hC hN o).1 ρ σ x σ1 e1 wf.1.1 A s φ L a qual cd _ E R I F fun φ1 h1 tk1 x1 I1 E1 r1 => ?_)
      have F1 := F.ext E1 I1.keep
      refine wpAny_Slice ((evE_ok O hC hN l).1 ρ σ1 _ σ2 e2 wf.1.2 A _ φ1 L a qual cd _ E R I1 F1 fun φ2 h2 tk2 x2 I2 E2 r2 => ?_)
      refine (evE_ok O hC hN u).1 ρ σ2 _ _ e3 wf.2 A _ φ2 L a qual cd _ E R I2 (F1.ext E2 I2.keep) fun φ3 h3 tk3 x3 I3 E3 r3 => ?_
      refine wpAny_pure ?_
      cases r2 with | int _ t2 =>
      cases r3 with | int _ t3 =>
      have E4 : Ext [] φ3 φ3 h3 (h3.push { cls := .type "slice", data := .fields #[.int i t2, .int j t3, .none] }) := .push _ []
      exact slcV_ok (s := { s with heap := h3.push { cls := .type "slice", data := .fields #[.int i t2, .int j t3, .none] }, toks := tk3 }) (I3.mono fun a o e => Heap.get?_push_of_some _ e) (((r1.mono E2.seq).mono E3.seq).mono E4.seq) e4 (.new _ _ _ _) (.inr ⟨t2, rfl⟩) (k.trans (((E1.trans E2).trans E3).trans E4)) fun _ => rfl
    exact ⟨h, okT_of h fun _ _ => rfl⟩
  | .slcU o u ps p => by
    have h : OkE X C d ns scope (.slcU o u ps p) := fun ρ σ v σ' e wf A s φ L a qual cd Q E R I F k => by
      simp only [wE_slcU, Bool.and_eq_true] at wf
      refine thenVE e fun x σ1 e1 e => ?_
      refine thenVE e fun j' σ3 e3 e => bindE e fun j q2 e => mapE e fun w e4 e => ?_
      rw [vInt_eq q2] at e3
      cases e
      refine Subscript_ ((evE_ok O hC hN o).1 ρ σ x σ1 e1 wf.1 A s φ L a qual cd _ E R I F fun φ1 h1 tk1 x1 I1 E1 r1 => ?_)
      have F1 := F.ext E1 I1.keep
      refine wpAny_Slice (wpAny_pure ?_)
      refine (evE_ok O hC hN u).1 ρ σ1 _ _ e3 wf.2 A _ φ1 L a qual cd _ E R I1 F1 fun φ3 h3 tk3 x3 I3 E3 r3 => ?_
      refine wpAny_pure ?_
      cases r3 with | int _ t3 =>
      have E4 : Ext [] φ3 φ3 h3 (h3.push { cls := .type "slice", data := .fields #[.none, .int j t3, .none] }) := .push _ []
      exact slcV_ok (s := { s with heap := h3.push { cls := .type "slice", data := .fields #[.none, .int j t3, .none] }, toks := tk3 }) (I3.mono fun a o e => Heap.get?_push_of_some _ e) ((r1.mono E3.seq).mono E4.seq) e4 (.new _ _ _ _) (.inl ⟨rfl, rfl⟩) (k.trans ((E1.trans E3).trans E4)) fun _ => rfl
    exact ⟨h, okT_of h fun _ _ => rfl⟩
  | .tup es p => by
    have h : OkE X C d ns scope (.tup es p) := fun ρ σ v σ' e wf A s φ L a qual cd Q E R I F k => by
      refine thenLE e fun vs σ1 e1 e => ?_
      refine ifE e fun hl e => ?_
      cases e
      refine Tuple_ ((evEs_ok O hC hN es).1 ρ σ vs _ e1 wf A s φ L a qual cd p _ E R I F fun φ1 h1 tk1 xs I1 E1 r1 => ?_)
      have hlen := r1.length
      refine wpAny_newObj_type (Post.push (s := { s with heap := h1, toks := tk1 }) (k.trans E1) I1 _ _ fun hn => .tup _ xs.toArray 0 _ (newSeq _ _ rfl) hn (by rw [line_eq]; omega) ?_) (by show xs.toArray.size ≤ sizeLine; rw [← line_is, line_eq, List.size_toArray]; omega)
      exact r1.push _
    exact ⟨h, okT_of h fun _ _ => rfl⟩
  | .list es p => by
    have h : OkE X C d ns scope (.list es p) := fun ρ σ v σ' e wf A s φ L a qual cd Q E R I F k => by
      refine thenLE e fun vs σ1 e1 e => ?_
      refine ifE e fun hl e => ?_
      cases e
      refine List_ ((evEs_ok O hC hN es).1 ρ σ vs _ e1 wf A s φ L a qual cd p _ E R I F fun φ1 h1 tk1 xs I1 E1 r1 => ?_)
      have hlen := r1.length
      obtain ⟨I2, E2⟩ := I1.alloc { cls := .type "list", data := .seq xs.toArray } rfl (.list vs) fun _ sk => ⟨xs.toArray, 0, newSeq _ _ rfl, by rw [line_eq]; omega, r1.mono sk⟩
      refine wpAny_newObj_type (k _ _ _ _ I2 (E1.trans E2) (.ref _ _ ?_)) (by show xs.toArray.size ≤ sizeLine; rw [← line_is, line_eq, List.size_toArray]; omega)
      rw [← I1.len]; simp
    exact ⟨h, okT_of h fun _ _ => rfl⟩
  | .call f pf es p => by
    have h : OkE X C d ns scope (.call f pf es p) := fun ρ σ v σ' e wf A s φ L a qual cd Q E R I F k => by
      simp only [wE_call, Bool.and_eq_true] at wf
      refine thenLE e fun vs σ1 e1 e => ?_
      refine wpAny_Call_NameR (glob_ok O F hN wf.1.2 (O.gfn f wf.1.1) ?_ _)
      exact callFn_ok O hC (evEs_ok O hC hN es).1 e1 (ws := []) e wf.2 R I F .nil k p
    exact ⟨h, okT_of h fun _ _ => rfl⟩
  | .callL i pf es p => by
    have h : OkE X C d ns scope (.callL i pf es p) := fun ρ σ v σ' e wf A s φ L a qual cd Q E R I F k => by
      refine bindE e fun g q e => bindE e fun f q2 e => thenLE e fun vs σ1 e1 e => ?_
      rw [vFn_eq q2] at q
      refine wpAny_Call_NameR (loc_ok F hN q (fun x r => ?_) _)
      cases r with | fn _ a' ea =>
      subst ea
      exact callFn_ok O hC (evEs_ok O hC hN es).1 e1 (ws := []) e wf R I F .nil k p
    exact ⟨h, okT_of h fun _ _ => rfl⟩
  | .bi b pf es p => by
    have h : OkE X C d ns scope (.bi b pf es p) := fun ρ σ v σ' e wf A s φ L a qual cd Q E R I F k => by
      simp only [wE_bi, Bool.and_eq_true] at wf
      refine thenLE e fun vs σ1 e1 e => ?_
      refine mapE e fun w e2 e => ?_
      cases e
      refine wpAny_Call_NameR (bi_ok O F hN wf.1.1 (O.gbi b).1 (O.gbi b).2 ?_ _)
      have hp := es_plain p ns (envOf qual scope L a cd) e1
      have key : wpAny (model X.prog X.w) A (evalArgs b.val true (backTo p (starEach (es.py ns) (envOf qual scope L a cd))) []) (fun x s' => wpAny (model X.prog X.w) A (call b.val ([] ++ x.pos) x.kw) Q E s') E s :=
        spliced_args hp ((evEs_ok O hC hN es).1 ρ σ vs _ e1 wf.1.2 A s φ L a qual cd p _ E R I F fun φ1 h1 tk1 xs I1 E1 r1 => biV_ok (s := { s with heap := h1, toks := tk1 }) I1 r1 e2 (k.trans E1))
      exact bi_callWith hp key
    exact ⟨h, okT_of h fun _ _ => rfl⟩
  | .isi i c pf pi pc p => by
    have h : OkE X C d ns scope (.isi i c pf pi pc p) := fun ρ σ v σ' e wf A s φ L a qual cd Q E R I F k => by
      simp only [wE_isi, Bool.and_eq_true] at wf
      refine bindE e fun x q e => mapE e fun l q2 e => ?_
      rw [vStr_eq q2] at q
      cases e
      refine wpAny_Call_NameR (bi_ok O F hN wf.1 (O.gbi .isinstance).1 (O.gbi .isinstance).2 ?_ _)
      refine Calls.callWith_builtin (args := [(false, eval (.Name (nm ns i) pi) (envOf qual scope L a cd)), (false, eval (.Name c.name pc) (envOf qual scope L a cd))]) rfl ?_
      refine Calls.evalArgs_plain (Calls.spliced_cons (loc_ok F hN q (fun x r => ?_) _))
      refine Calls.spliced_cons (glob_ok O F hN wf.2 (O.gcl c) (Calls.spliced_nil ?_) _)
      exact isStr_not O I r fun tk => k.same I tk (.bool false)
    exact ⟨h, okT_of h fun _ _ => rfl⟩
  | .meth o m pa es p => by
    have h : OkE X C d ns scope (.meth o m pa es p) := fun ρ σ v σ' e wf A s φ L a qual cd Q E R I F k => by
      simp only [wE_meth, Bool.and_eq_true, decide_eq_true_eq] at wf
      obtain ⟨⟨⟨⟨w1, w2⟩, w3⟩, w4⟩, w5⟩ := wf
      refine thenVE e fun x σ1 e1 e => ?_
      cases em : methF m with
      | some f =>
        rw [em] at e
        refine bindE e fun l el e => thenLE e fun vs σ2 e2 e => ?_
        refine meth_rule (base_py w1 ns _ _) (es_plain p ns _ e2) (by rw [es_len]; exact w5) w4 ((evE_ok O hC hN o).1 ρ σ x σ1 e1 w2 A s φ L a qual cd _ E R I F fun φ1 h1 tk1 x1 I1 E1 r1 pl => ?_)
        have F1 := F.ext E1 I1.keep
        refine methI_ok (s := { s with heap := h1, toks := tk1 }) O F1 I1 r1 el em ?_ pl
        exact callFn_ok O hC (evEs_ok O hC hN es).1 e2 (ws := [x]) e w3 R I1 F1 (.cons r1 .nil) (k.trans E1) p
      | none =>
        rw [em] at e
        refine pickE e (fun ek e => ?_) fun _ e => nomatch e
        refine thenLE e fun vs σ2 e2 e => ?_
        refine meth_rule (base_py w1 ns _ _) (es_plain p ns _ e2) (by rw [es_len]; exact w5) w4 ((evE_ok O hC hN o).1 ρ σ x σ1 e1 w2 A s φ L a qual cd _ E R I F fun φ1 h1 tk1 x1 I1 E1 r1 pl => ?_)
        have F1 := F.ext E1 I1.keep
        refine methV_get (s := { s with heap := h1, toks := tk1 }) I1 r1 ek ?_
        have hp := es_plain p ns (envOf qual scope L a cd) e2
        refine Calls.callWith_builtin hp (spliced_args hp ((evEs_ok O hC hN es).1 ρ σ1 vs _ e2 w3 A { s with heap := h1, toks := tk1 } φ1 L a qual cd p _ E R I1 F1 fun φ2 h2 tk2 xs I2 E2 r2 => ?_))
        exact methV_call (s := { s with heap := h2, toks := tk2 }) I2 O.sys (r1.mono E2.seq) r2 e (k.trans (E1.trans E2))
    exact ⟨h, okT_of h fun _ _ => rfl⟩
  | .clsInit c pc pa es p => by
    have h : OkE X C d ns scope (.clsInit c pc pa es p) := fun ρ σ v σ' e wf A s φ L a qual cd Q E R I F k => by
      simp only [wE_clsInit, Bool.and_eq_true, decide_eq_true_eq] at wf
      obtain ⟨⟨⟨w1, w2⟩, w3⟩, w4⟩ := wf
      cases c with
      | host =>
        refine thenLE e fun vs σ2 e2 e => ?_
        refine meth_rule rfl (es_plain p ns _ e2) (by rw [es_len]; exact w4) w3 (glob_ok O F hN w1 (O.gcl .host) (fun pl => ?_) _)
        refine hostI_ok O F I (fun tk => ?_) pl
        exact callFn_ok (s := { s with toks := tk }) O hC (evEs_ok O hC hN es).1 e2 (ws := []) e w2 R I F .nil k p
      | _ => cases e
    exact ⟨h, okT_of h fun _ _ => rfl⟩
  | .attr o b p => by
    have h : OkE X C d ns scope (.attr o b p) := fun ρ σ v σ' e wf A s φ L a qual cd Q E R I F k => by
      simp only [wE_attr, Bool.and_eq_true] at wf
      refine thenVE e fun x σ1 e1 e => ?_
      refine bindE e fun l el e => ?_
      refine mapE e fun w ew e => ?_
      cases e
      show wpAny _ _ (eval (.Attribute (o.py ns) b.name p) _) _ _ _
      rw [arm_eval_Attribute, base_py wf.1]
      refine wpAny_bind ((evE_ok O hC hN o).1 ρ σ x _ e1 wf.2 A s φ L a qual cd _ E R I F fun φ1 h1 tk1 x1 I1 E1 r1 => ?_)
      refine wpAny_bind (wpAny_standAt (wpAny_bind (wpAny_holding ?_)))
      refine attr_ok (s := { s with heap := h1, toks := tk1 }) O (F.ext E1 I1.keep) I1 r1 el ew (fun φ2 h2 tk2 x2 I2 E2 r2 => ?_) true
      exact wpAny_bind (wpAny_letTemporaryGo (wpAny_pure (k φ2 h2 tk2 x2 I2 (E1.trans E2) r2)))
    exact ⟨h, okT_of h fun _ _ => rfl⟩
  | .new pf p => by
    have h : OkE X C d ns scope (.new pf p) := fun ρ σ v σ' e wf A s φ L a qual cd Q E R I F k => by
      refine thenVE e fun x σ1 e1 e => mapE e fun _ q e => ?_
      rw [vNone_eq q] at e1
      cases e
      refine wpAny_Call_NameR (glob_ok O F hN wf (O.gcl .small) ?_ _)
      exact callWith_K0 (K := X.K) (fun a o e => I.keep a o (O.kin a o e)) O.keep (new_ok O hC I R e1 k)
    exact ⟨h, okT_of h fun _ _ => rfl⟩
  | .dict0 p => by
    have h : OkE X C d ns scope (.dict0 p) := fun ρ σ v σ' e wf A s φ L a qual cd Q E R I F k => by
      cases e
      show wpAny _ _ (do standAt p; newDict) _ _ _
      exact wpAny_bind (wpAny_standAt (newDict_ok I k))
    exact ⟨h, okT_of h fun _ _ => rfl⟩
  | .raw e0 => ⟨fun ρ σ v σ' e => (nomatch e), fun ρ σ v σ' b e => (nomatch e)⟩
theorem evEs_ok {X : MC} {C : CallT} {d : Nat} {ns : List Str} {scope : Scope} (O : X.Ok) (hC : CallOk X C d) (hN : NsOk ns scope) : ∀ es : Exs, OkS X C d ns scope es ∧ OkB X C d ns scope es ∧ OkA X C d ns scope es
  | .nil => ⟨fun ρ σ vs σ' e wf A s φ L a qual cd pos Q E R I F k => by cases e; exact Calls.spliced_nil (k φ s.heap s.toks [] I (.refl ..) .nil),
      fun isAnd ρ σ v σ' e => (nomatch e), fun isAnd ρ σ v σ' b e => (nomatch e)⟩
  | .cons e es => by
    refine ⟨fun ρ σ vs σ' h wf A s φ L a qual cd pos Q E R I F k => ?_, fun isAnd ρ σ v σ' h wf A s φ L a qual cd pos Q E R I F k => ?_, fun isAnd ρ σ v σ' b h eb wf A s φ L a qual cd Q E R I F k => ?_⟩
    · simp only [wEs_cons, Bool.and_eq_true] at wf
      refine thenVE h fun x σ1 e1 h => ?_
      refine thenLE h fun ys σ2 e2 h => ?_
      cases h
      show wpAny _ _ (spliced (backTo pos (starEach (e.py ns :: es.py ns) _))) _ _ _
      rw [py_star (ev_raw e1)]
      refine Calls.spliced_cons ((evE_ok O hC hN e).1 ρ σ x σ1 e1 wf.1 A s φ L a qual cd _ E R I F fun φ1 h1 tk1 x1 I1 E1 r1 => ?_)
      exact (evEs_ok O hC hN es).1 ρ σ1 ys _ e2 wf.2 A _ φ1 L a qual cd pos _ E R I1 (F.ext E1 I1.keep) fun φ2 h2 tk2 xs I2 E2 r2 => k φ2 h2 tk2 _ I2 (E1.trans E2) (.cons (r1.mono E2.seq) r2)
    · simp only [wEs_cons, Bool.and_eq_true] at wf
      refine thenVE h fun x σ1 e1 h => ?_
      cases es with
      | nil =>
        cases h
        show wpAny _ _ (eval (.BoolOp (pyOp isAnd) [e.py ns] pos) _) _ _ _
        exact BoolOp_one ((evE_ok O hC hN e).1 ρ σ _ _ e1 wf.1 A s φ L a qual cd _ E R I F k)
      | cons e' es' =>
        refine bindE h fun b eb h => ?_
        cases isAnd with
        | true =>
          show wpAny _ _ (eval (.BoolOp .And (e.py ns :: e'.py ns :: es'.py ns) pos) _) _ _ _
          refine BoolOp_and ((evE_ok O hC hN e).1 ρ σ _ _ e1 wf.1 A s φ L a qual cd _ E R I F fun φ1 h1 tk1 x1 I1 E1 r1 => ?_)
          refine truthV_ok (s := { s with heap := h1, toks := tk1 }) I1 r1 eb fun tk => ?_
          cases b with
          | true =>
            simp only [if_true] at h ⊢
            exact (evEs_ok O hC hN (.cons e' es')).2.1 true ρ σ1 v σ' h wf.2 A { s with heap := h1, toks := tk } φ1 L a qual cd pos _ E R I1 (F.ext E1 I1.keep) (k.trans E1)
          | false =>
            simp only [Bool.false_eq_true, if_false] at h ⊢
            cases h
            exact k φ1 h1 tk _ I1 E1 r1
        | false =>
          show wpAny _ _ (eval (.BoolOp .Or (e.py ns :: e'.py ns :: es'.py ns) pos) _) _ _ _
          refine BoolOp_or ((evE_ok O hC hN e).1 ρ σ _ _ e1 wf.1 A s φ L a qual cd _ E R I F fun φ1 h1 tk1 x1 I1 E1 r1 => ?_)
          refine truthV_ok (s := { s with heap := h1, toks := tk1 }) I1 r1 eb fun tk => ?_
          cases b with
          | false =>
            simp only [Bool.false_eq_true, if_false, if_true] at h ⊢
            exact (evEs_ok O hC hN (.cons e' es')).2.1 false ρ σ1 v σ' h wf.2 A { s with heap := h1, toks := tk } φ1 L a qual cd pos _ E R I1 (F.ext E1 I1.keep) (k.trans E1)
          | true =>
            simp only [Bool.true_eq_false, if_false, if_true] at h ⊢
            cases h
            exact k φ1 h1 tk _ I1 E1 r1
    · simp only [wEs_cons, Bool.and_eq_true] at wf
      refine thenVE h fun x σ1 e1 h => ?_
      cases es with
      | nil =>
        cases h
        cases isAnd with
        | true =>
          refine wpAny_allTrue_And_cons ((evE_ok O hC hN e).2 ρ σ _ _ b e1 eb wf.1 A s φ L a qual cd _ E R I F fun φ1 h1 tk1 I1 E1 => ?_)
          cases b with
          | true => exact wpAny_allTrue_And_nil (k φ1 h1 tk1 I1 E1)
          | false => exact k φ1 h1 tk1 I1 E1
        | false =>
          refine wpAny_allTrue_Or_cons ((evE_ok O hC hN e).2 ρ σ _ _ b e1 eb wf.1 A s φ L a qual cd _ E R I F fun φ1 h1 tk1 I1 E1 => ?_)
          cases b with
          | false => exact wpAny_allTrue_Or_nil (k φ1 h1 tk1 I1 E1)
          | true => exact k φ1 h1 tk1 I1 E1
      | cons e' es' =>
        refine bindE h fun b' eb' h => ?_
        cases isAnd with
        | true =>
          refine wpAny_allTrue_And_cons ((evE_ok O hC hN e).2 ρ σ _ _ b' e1 eb' wf.1 A s φ L a qual cd _ E R I F fun φ1 h1 tk1 I1 E1 => ?_)
          cases b' with
          | true =>
            simp only [if_true] at h ⊢
            exact (evEs_ok O hC hN (.cons e' es')).2.2 true ρ σ1 v σ' b h eb wf.2 A { s with heap := h1, toks := tk1 } φ1 L a qual cd _ E R I1 (F.ext E1 I1.keep) (k.trans E1)
          | false =>
            simp only [Bool.false_eq_true, if_false] at h ⊢
            cases h
            rw [eb'] at eb; cases eb
            exact k φ1 h1 tk1 I1 E1
        | false =>
          refine wpAny_allTrue_Or_cons ((evE_ok O hC hN e).2 ρ σ _ _ b' e1 eb' wf.1 A s φ L a qual cd _ E R I F fun φ1 h1 tk1 I1 E1 => ?_)
          cases b' with
          | false =>
            simp only [Bool.false_eq_true, if_false, if_true] at h ⊢
            exact (evEs_ok O hC hN (.cons e' es')).2.2 false ρ σ1 v σ' b h eb wf.2 A { s with heap := h1, toks := tk1 } φ1 L a qual cd _ E R I1 (F.ext E1 I1.keep) (k.trans E1)
          | true =>
            simp only [Bool.true_eq_false, if_false, if_true] at h ⊢
            cases h
            rw [eb'] at eb; cases eb
            exact k φ1 h1 tk1 I1 E1
end
end

section
inductive RelF (X : MC) (φ : List Addr) (h : Heap) : Flow → Fl → Prop
  | next : RelF X φ h .next .next
  | brk : RelF X φ h .brk .brk
  | ret {x : Value} {v : Vl} (r : RelV X φ h x v) : RelF X φ h (.ret x) (.ret v)
noncomputable def PostF (X : MC) (φ : List Addr) (ns : List Str) (L : Addr) (s : Shared) (ρ' : Loc) (σ' : Sto) (fl : Fl) (Q : Flow → Shared → Prop) : Prop :=
  ∀ φ' h' tk' f, Inv X φ' σ' h' → Ext [L] φ φ' s.heap h' → Fm X φ' ns ρ' L h' → RelF X φ' h' f fl → Q f { s with heap := h', toks := tk' }
theorem PostF.trans {X : MC} {φ φ' : List Addr} {ns : List Str} {L : Addr} {s : Shared} {h' : Heap} {tk : Nat} {ρ' : Loc} {σ' : Sto} {fl : Fl} {Q : Flow → Shared → Prop}
    (k : PostF X φ ns L s ρ' σ' fl Q) (x : Ext [L] φ φ' s.heap h') : PostF X φ' ns L { s with heap := h', toks := tk } ρ' σ' fl Q :=
  fun φ'' h'' tk'' f I E F r => k φ'' h'' tk'' f I (x.trans E) F r
theorem Ext.to {Z φ φ' : List Addr} {h h' : Heap} (x : Ext [] φ φ' h h') : Ext Z φ φ' h h' := x.mono (by simp)

section
variable {X : MC} {A : Around} {s : Shared} {φ : List Addr} {σ : Sto} {E : Value → Shared → Prop} {ns : List Str} {scope : Scope} {ρ : Loc} {L a : Addr} {qual : Str} {cd : Value}

/-- a step that changes the frame's object alone -/
theorem Inv.setL {h h' : Heap} (I : Inv X φ σ h) (F : Fm X φ ns ρ L h) (hs : Heap.SameBut L h h') (hd : ∃ o, h'.get? L = some o) : Inv X φ σ h' ∧ Ext [L] φ φ h h' := by
  obtain ⟨o, ho, hq⟩ := F.get
  have hE : Ext [L] φ φ h h' := by
    refine ⟨fun _ _ e => e, fun _ q => .inl q, fun c o e _ hz => (hs.2 c fun q => hz (by simp [q])).trans e, fun c o e => ?_⟩
    by_cases q : c = L
    · subst q; exact hd
    · exact ⟨o, (hs.2 c q).trans e⟩
  have sk : SeqKeep φ φ h h' := hE.seqZ fun c hc cc d items n sl e => by
    simp at hc; subst hc
    rw [ho] at e; cases e; exact hq _ _ _ _ _ rfl
  obtain ⟨m, F0, _⟩ := F.fr
  refine ⟨⟨fun b o e => (hs.2 b (Nat.ne_of_lt (Nat.lt_of_lt_of_le (Heap.lt_size e) F0.above))).trans (I.keep b o e), I.fresh, I.nodup, I.len, fun i o e => ?_, ?_⟩, hE⟩
  · obtain ⟨c, hc, r⟩ := I.objs i o e
    exact ⟨c, hc, r.mono sk (hs.2 c fun q => F.out (q ▸ List.mem_of_getElem? hc))⟩
  · obtain ⟨b, o, e, q⟩ := I.last
    obtain ⟨o', q'⟩ := hE.dom b o q
    exact ⟨b, o', e, q'⟩
theorem store_ok (F : Fm X φ ns ρ L s.heap) (I : Inv X φ σ s.heap) (N : NsOk ns scope) {i : Nat} (hi : i < ns.length) {x : Value} {v : Vl} (r : RelV X φ s.heap x v) {Q : Unit → Shared → Prop}
    (k : ∀ h' tk, Inv X φ σ h' → Ext [L] φ φ s.heap h' → Fm X φ ns (locSet ρ i v) L h' → Q () { s with heap := h', toks := tk }) {M : Model} :
    wpAny M A (storeName (envOf qual scope L a cd) (nm ns i) x) Q E s := by
  obtain ⟨m, F0, hm⟩ := F.fr
  have hk : (envOf qual scope L a cd).scope.kind = .function := N.kind
  refine wpAny_storeName_local (N.loc i hi) F0.ns (fun h' hn hs => ?_) (by rw [hk]; rfl)
  have hd : ∃ o, h'.get? L = some o := by obtain ⟨o, es, ep, e, _⟩ := hn; exact ⟨o, e⟩
  obtain ⟨I', E'⟩ := I.setL F hs hd
  obtain ⟨o0, ho, hq⟩ := F.get
  have sk : SeqKeep φ φ s.heap h' := E'.seqZ fun c hc cc d items n sl e => by
    simp at hc; subst hc
    rw [ho] at e; cases e; exact hq _ _ _ _ _ rfl
  refine k h' _ I' E' ⟨⟨_, F0.set hn hs, fun j u e => ?_⟩, F.out, by rw [locSet_len]; exact F.len⟩
  rw [locGet_set] at e
  split at e
  · rename_i q; cases e; rw [q.1]
    exact ⟨x, by simp, r.mono sk⟩
  · rename_i q
    have hj := locGet_lt e
    have hji : j ≠ i := fun z => q ⟨z, by rw [F.len]; exact hi⟩
    obtain ⟨y, e1, e2⟩ := hm j u e
    refine ⟨y, ?_, e2.mono sk⟩
    have : nm ns j ≠ nm ns i := fun z => hji (N.inj j i (by rw [← F.len]; exact hj) hi z)
    simp only [if_neg this]
    exact e1

/-! ## Loops over what is walked -/
theorem Inv.but {h h' : Heap} (I : Inv X φ σ h) (F : Fm X φ ns ρ L h) {J : Addr} (hk : ∀ b o, b ∉ [J] → h.get? b = some o → h'.get? b = some o) (hJ : J ∉ φ) (hB : X.base.get? J = none) (hL : J ≠ L)
    (hq : ∀ c d items n sl, h.get? J ≠ some ⟨c, d, .seq items n, sl⟩) : Inv X φ σ h' ∧ Fm X φ ns ρ L h' := by
  have sk : SeqKeep φ φ h h' := ⟨fun _ _ e => e, fun b c d items n sl e hp => ⟨hk b _ (fun q => by simp at q; subst q; exact hq _ _ _ _ _ e) e, hp⟩⟩
  have kb : ∀ b o, X.base.get? b = some o → h'.get? b = some o := fun b o e => hk b o (fun q => by simp at q; subst q; rw [hB] at e; cases e) (I.keep b o e)
  obtain ⟨m, F0, hm⟩ := F.fr
  obtain ⟨oL, hoL, _⟩ := F.get
  refine ⟨⟨kb, I.fresh, I.nodup, I.len, fun i o e => ?_, ⟨L, oL, F0.above, hk L oL (by simp; exact fun q => hL q.symm) hoL⟩⟩, ⟨⟨m, ⟨?_, kb, F0.above⟩, fun i v e => ?_⟩, F.out, F.len⟩⟩
  · obtain ⟨c, hc, r⟩ := I.objs i o e
    obtain ⟨o', e'⟩ := I.stored hc
    refine ⟨c, hc, r.mono sk ?_⟩
    rw [e']
    exact hk c o' (fun q => by simp at q; subst q; exact hJ (List.mem_of_getElem? hc)) e'
  · obtain ⟨o', es, ep, a1, a2, a3⟩ := F0.ns
    exact ⟨o', es, ep, hk L o' (by simp; exact fun q => hL q.symm) a1, a2, a3⟩
  · obtain ⟨y, e1, e2⟩ := hm i v e
    exact ⟨y, e1, e2.mono sk⟩
theorem Ext.butNew {Z φ φ' : List Addr} {h0 h h' : Heap} (x : Ext Z φ φ' h0 h) {J : Addr} (hk : ∀ b o, b ∉ [J] → h.get? b = some o → h'.get? b = some o) (hJ : h0.get? J = none) : Ext Z φ φ' h0 h' where
  pre := x.pre
  new := x.new
  keep := fun b o e hp hz => hk b o (fun q => by simp at q; subst q; rw [hJ] at e; cases e) (x.keep b o e hp hz)
  dom := fun b o e => by
    obtain ⟨o', e'⟩ := x.dom b o e
    exact ⟨o', hk b o' (fun q => by simp at q; subst q; rw [hJ] at e; cases e) e'⟩
end

noncomputable def OkSt (X : MC) (C : CallT) (d N : Nat) (ns : List Str) (scope : Scope) (st : St) : Prop := ∀ ρ σ fl ρ' σ', exS C N st ρ σ = some (fl, ρ', σ') → st.wf scope ns.length = true →
  ∀ (A : Around) (s : Shared) (φ : List Addr) (L a : Addr) (qual : Str) (cd : Value) (Q : Flow → Shared → Prop) (E : Value → Shared → Prop), Room A d → Inv X φ σ s.heap → Fm X φ ns ρ L s.heap → PostF X φ ns L s ρ' σ' fl Q →
    wpAny (model X.prog X.w) A (exec (st.py ns) (envOf qual scope L a cd)) Q E s
noncomputable def OkSts (X : MC) (C : CallT) (d N : Nat) (ns : List Str) (scope : Scope) (ss : Sts) : Prop := ∀ ρ σ fl ρ' σ', exSs C N ss ρ σ = some (fl, ρ', σ') → ss.wf scope ns.length = true →
  ∀ (A : Around) (s : Shared) (φ : List Addr) (L a : Addr) (qual : Str) (cd : Value) (Q : Flow → Shared → Prop) (E : Value → Shared → Prop), Room A d → Inv X φ σ s.heap → Fm X φ ns ρ L s.heap → PostF X φ ns L s ρ' σ' fl Q →
    wpAny (model X.prog X.w) A (execs (ss.py ns) (envOf qual scope L a cd)) Q E s

section
variable {X : MC} {C : CallT} {d N : Nat} {ns : List Str} {scope : Scope}

inductive ForInv (X : MC) (φ : List Addr) (ns : List Str) (L : Addr) (s : Shared) (hb0 : Heap) (fp : List Addr) (St : Nat → Heap → Prop) (n : Nat) (g : Nat → Loc → Sto → Option (Fl × Loc × Sto)) (r : Fl × Loc × Sto) (kk : Nat) (s' : Shared) : Prop
  | mk (j : Nat) (h : Heap) (tk : Nat) (φ1 : List Addr) (ρ1 : Loc) (σ1 : Sto) (hs' : s' = { s with heap := h, toks := tk }) (hs : St j h) (I1 : Inv X φ1 σ1 h) (F1 : Fm X φ1 ns ρ1 L h) (E1 : Ext [L] φ φ1 hb0 h) (hf1 : ∀ c ∈ fp, c ∉ φ1) (hj : j ≤ n) (hkk : kk = n + 1 - j) (e1 : g j ρ1 σ1 = some r) : ForInv X φ ns L s hb0 fp St n g r kk s'
inductive WhileInv (X : MC) (φ : List Addr) (ns : List Str) (L : Addr) (s : Shared) (g : Nat → Loc → Sto → Option (Fl × Loc × Sto)) (r : Fl × Loc × Sto) (kk : Nat) (s' : Shared) : Prop
  | mk (h : Heap) (tk : Nat) (φ1 : List Addr) (ρ1 : Loc) (σ1 : Sto) (hs' : s' = { s with heap := h, toks := tk }) (I1 : Inv X φ1 σ1 h) (F1 : Fm X φ1 ns ρ1 L h) (E1 : Ext [L] φ φ1 s.heap h) (e1 : g kk ρ1 σ1 = some r) : WhileInv X φ ns L s g r kk s'
theorem forL_ok {b : Sts} (hb : OkSts X C d N ns scope b) (hN : NsOk ns scope) {i : Nat} (hi : i < ns.length) {px : Pos} {A : Around} {s : Shared} {hb0 : Heap} {φ : List Addr} {σ σ' : Sto} {ρ ρ' : Loc} {fl : Fl} {L a : Addr} {qual : Str} {cd : Value}
    {I : Addr} {fp : List Addr} {n : Nat} {P : Nat → Value → Prop} {St : Nat → Heap → Prop} {vs : List Vl} {R : Result → Shared → Prop}
    (W : Walks X.prog X.w A I fp [I] n P St) (hn : n = vs.length)
    (hP : ∀ (j : Nat) v u φ' h', Ext [L] φ φ' hb0 h' → P j v → vs[j]? = some u → RelV X φ' h' v u)
    (hfL : ∀ c ∈ fp, c ≠ L) (hfp : ∀ c ∈ fp, c ∉ φ)
    (hst : ∀ (j : Nat) h, St j h → ∀ c ∈ fp, ∃ o, h.get? c = some o)
    (hIs : ∀ (j : Nat) h, St j h → ∀ c d items n sl, h.get? I ≠ some ⟨c, d, .seq items n, sl⟩)
    (hI0 : hb0.get? I = none) (hIB : X.base.get? I = none)
    (hE : Ext [L] φ φ hb0 s.heap) (st0 : St 0 s.heap) (wf : b.wf scope ns.length = true) (RA : Room A d) (I0 : Inv X φ σ s.heap) (F0 : Fm X φ ns ρ L s.heap)
    (e : forL (exSs C N b) i vs ρ σ = some (fl, ρ', σ'))
    (k : ∀ φ' h' tk' f, Inv X φ' σ' h' → Ext [L] φ φ' hb0 h' → Fm X φ' ns ρ' L h' → RelF X φ' h' f fl → R (.ok f) { s with heap := h', toks := tk' }) :
    codeAny (model X.prog X.w) A (.forLoop (.Name (nm ns i) px) (.ref I) (b.py ns) [] (envOf qual scope L a cd)) R s := by
  have hIfp : I ∈ fp := W.sub I (by simp)
  refine codeAny_forLoop (ForInv X φ ns L s hb0 fp St n (fun j => forL (exSs C N b) i (vs.drop j)) (fl, ρ', σ')) ?_ (n + 1)
    ⟨0, s.heap, s.toks, φ, ρ, σ, rfl, st0, I0, F0, hE, hfp, Nat.zero_le _, rfl, e⟩
  rintro kk s' ⟨j, h, tk, φ1, ρ1, σ1, rfl, hs, I1, F1, E1, hf1, hj, rfl, e1⟩
  by_cases hlt : j < n
  · refine W.item j _ _ _ hlt hs fun v h1 tk1 hPv hs1 hk1 => ?_
    have hu : vs[j]? = some vs[j] := by simp [hn ▸ hlt]
    have hd : vs.drop j = vs[j] :: vs.drop (j + 1) := List.drop_eq_getElem_cons (hn ▸ hlt)
    rw [hd] at e1
    refine thenFE e1 fun f2 ρ2 σ2 e2 e1 => ?_
    obtain ⟨I2, F2⟩ := I1.but F1 hk1 (hf1 I hIfp) hIB (hfL I hIfp) (hIs j h hs)
    have E2 : Ext [L] φ φ1 hb0 h1 := E1.butNew hk1 hI0
    refine wpAny_assign_Name (store_ok (s := { s with heap := h1, toks := tk1 }) F2 I2 hN hi (hP j v _ φ1 h1 E2 hPv hu) fun h2 tk2 I3 E3 F3 => ?_)
    have next : ∀ φ' h', Ext [L] φ1 φ' h2 h' → St (j + 1) h' ∧ ∀ c ∈ fp, c ∉ φ' := fun φ' h' E4 => by
      have E5 := E3.trans E4
      refine ⟨W.frame _ _ _ hs1 fun c hc o ho => E5.keep c o ho (hf1 c hc) (by simp; exact hfL c hc), fun c hc => ?_⟩
      obtain ⟨o, ho⟩ := hst _ _ hs1 c hc
      exact E5.notin ho (hf1 c hc)
    refine hb _ _ _ _ _ e2 wf A { s with heap := h2, toks := tk2 } φ1 L a qual cd _ _ RA I3 F3 fun φ' h' tk' f I4 E4 F4 r4 => ?_
    cases r4 with
    | next =>
      obtain ⟨z1, z2⟩ := next φ' h' E4
      exact ⟨n + 1 - (j + 1), by omega, j + 1, h', tk', φ', ρ2, σ2, rfl, z1, I4, F4, (E2.trans E3).trans E4, z2, hlt, rfl, e1⟩
    | brk =>
      cases e1
      exact k φ' h' tk' _ I4 ((E2.trans E3).trans E4) F4 .next
    | ret r =>
      cases e1
      exact k φ' h' tk' _ I4 ((E2.trans E3).trans E4) F4 (.ret r)
  · have hin : j = n := by omega
    subst hin
    rw [List.drop_eq_nil_of_le (by omega)] at e1
    cases e1
    refine W.done _ _ _ hs fun h1 tk1 hk1 => wpAny_execs_nil ?_
    obtain ⟨I2, F2⟩ := I1.but F1 hk1 (hf1 I hIfp) hIB (hfL I hIfp) (hIs _ h hs)
    exact k φ1 h1 tk1 .next I2 (E1.butNew hk1 hI0) F2 .next

theorem whileN_ok {t : Ex} {b : Sts} (hT : OkT X C d ns scope t) (hb : OkSts X C d N ns scope b) {A : Around} {s : Shared} {φ : List Addr} {σ σ' : Sto} {ρ ρ' : Loc} {fl : Fl} {L a : Addr} {qual : Str} {cd : Value}
    {n : Nat} {R : Result → Shared → Prop} (wt : t.wf scope = true) (wf : b.wf scope ns.length = true) (RA : Room A d) (I0 : Inv X φ σ s.heap) (F0 : Fm X φ ns ρ L s.heap)
    (e : whileN (test C t) (exSs C N b) n ρ σ = some (fl, ρ', σ'))
    (k : ∀ φ' h' tk' f, Inv X φ' σ' h' → Ext [L] φ φ' s.heap h' → Fm X φ' ns ρ' L h' → RelF X φ' h' f fl → R (.ok f) { s with heap := h', toks := tk' }) :
    codeAny (model X.prog X.w) A (.whileLoop (t.py ns) (b.py ns) [] (envOf qual scope L a cd)) R s := by
  refine codeAny_whileLoop (WhileInv X φ ns L s (whileN (test C t) (exSs C N b)) (fl, ρ', σ')) ?_ n
    ⟨s.heap, s.toks, φ, ρ, σ, rfl, I0, F0, .refl .., e⟩
  rintro kk s' ⟨h, tk, φ1, ρ1, σ1, rfl, I1, F1, E1, e1⟩
  cases kk with
  | zero => cases e1
  | succ m =>
    refine bindE e1 fun p e2 e1 => thenVE e2 fun x σ3 e3 e2 => mapE e2 fun bb e4 e2 => ?_
    subst e2
    refine hT _ _ _ _ _ e3 e4 wt A { s with heap := h, toks := tk } φ1 L a qual cd _ _ RA I1 F1 fun φ2 h2 tk2 I2 E2 => ?_
    have F2 := F1.ext E2 I2.keep
    have E12 : Ext [L] φ φ2 s.heap h2 := E1.trans E2.to
    cases bb with
    | true =>
      rw [if_pos rfl]
      rw [pick_t] at e1
      refine thenFE e1 fun f2 ρ2 σ4 e5 e1 => ?_
      refine hb _ _ _ _ _ e5 wf A { s with heap := h2, toks := tk2 } φ2 L a qual cd _ _ RA I2 F2 fun φ' h' tk' f I4 E4 F4 r4 => ?_
      cases r4 with
      | next => exact ⟨m, Nat.lt_succ_self _, h', tk', φ', ρ2, σ4, rfl, I4, F4, E12.trans E4, e1⟩
      | brk =>
        cases e1
        exact k φ' h' tk' _ I4 (E12.trans E4) F4 .next
      | ret r =>
        cases e1
        exact k φ' h' tk' _ I4 (E12.trans E4) F4 (.ret r)
    | false =>
      cases e1
      simp only [Bool.false_eq_true, if_false]
      exact wpAny_execs_nil (k φ2 h2 tk2 .next I2 E12 F2 .next)
end
end

section
section
variable {X : MC} {A : Around} {s : Shared} {φ : List Addr} {σ : Sto} {E : Value → Shared → Prop} {ns : List Str} {scope : Scope} {ρ : Loc} {L a : Addr} {qual : Str} {cd : Value}

/-! ## An attribute is set -/
theorem Inv.change2 {h h' : Heap} (I : Inv X φ σ h) (F : Fm X φ ns ρ L h) {d : Nat} {dx : Addr} (ha : φ[d]? = some dx) (hk : ∀ c o, h.get? c = some o → c ≠ dx → c ≠ L → h'.get? c = some o)
    (hd : ∃ o, h'.get? dx = some o) (hL : ∃ o, h'.get? L = some o) (b : Ob) (r : SeqKeep φ φ h h' → RelO X φ h' dx b) : Inv X φ (σ.set d b) h' ∧ Ext [L] φ φ h h' ∧ SeqKeep φ φ h h' := by
  have hm : dx ∈ φ := List.mem_of_getElem? ha
  have hE : Ext [L] φ φ h h' := by
    refine ⟨fun _ _ e => e, fun _ q => .inl q, fun c o e hp hz => hk c o e (fun q => hp (q ▸ hm)) (fun q => hz (by simp [q])), fun c o e => ?_⟩
    by_cases q : c = dx
    · subst q; exact hd
    · by_cases q2 : c = L
      · subst q2; exact hL
      · exact ⟨o, hk c o e q q2⟩
  obtain ⟨o0, ho, hq⟩ := F.get
  have sk : SeqKeep φ φ h h' := hE.seqZ fun c hc cc d items n sl e => by
    simp at hc; subst hc
    rw [ho] at e; cases e; exact hq _ _ _ _ _ rfl
  obtain ⟨m, F0, _⟩ := F.fr
  refine ⟨⟨fun b' o' e => hk b' o' (I.keep b' o' e) (fun q => ?_) (Nat.ne_of_lt (Nat.lt_of_lt_of_le (Heap.lt_size e) F0.above)), I.fresh, I.nodup, by simp [I.len], fun j o' e => ?_, ?_⟩, hE, sk⟩
  · have := I.fresh dx hm; rw [← q, e] at this; cases this
  · by_cases hj : j = d
    · subst hj
      have hl : j < σ.length := by rw [← I.len]; exact (List.getElem?_eq_some_iff.mp ha).1
      simp [hl] at e; subst e
      exact ⟨dx, ha, r sk⟩
    · rw [List.getElem?_set_ne (Ne.symm hj)] at e
      obtain ⟨a', ha', r'⟩ := I.objs j o' e
      obtain ⟨o'', e''⟩ := I.stored ha'
      refine ⟨a', ha', r'.mono sk ?_⟩
      rw [e'']
      refine hk a' o'' e'' (fun q => ?_) (fun q => F.out (q ▸ List.mem_of_getElem? ha'))
      subst q
      obtain ⟨l1, e1⟩ := List.getElem?_eq_some_iff.mp ha
      obtain ⟨l2, e2⟩ := List.getElem?_eq_some_iff.mp ha'
      exact hj ((List.getElem_inj I.nodup).mp (e2.trans e1.symm))
  · obtain ⟨b, o, e, q⟩ := I.last
    obtain ⟨o', q'⟩ := hE.dom b o q
    exact ⟨b, o', e, q'⟩
theorem relAs_len {h : Heap} {es : List DictEntry} {l : List (At × Vl)} (r : RelAs X φ h es l) : es.length = l.length := by
  induction r with
  | nil => rfl
  | cons _ _ ih => simp [ih]
theorem putL_len (name : Str) (hsh : Int) (key v : Value) : ∀ es : List DictEntry, (putL name hsh key v es).length ≤ es.length + 1
  | [] => by simp [putL]
  | e :: r => by
    simp only [putL]
    split
    · simp
    · have := putL_len name hsh key v r; simp; omega
theorem relAs_put {h : Heap} {es : List DictEntry} {l : List (At × Vl)} (r : RelAs X φ h es l) (b : At) {x : Value} {v : Vl} (rx : RelV X φ h x v) (t : Tok) :
    RelAs X φ h (putL b.name (PyData.keyHash X.w.params b.name) (.str b.name t) x es) (attrPut b v l) := by
  induction r with
  | nil => exact .cons rx .nil
  | @cons c t' y w es l hy hs ih =>
    simp only [putL, attrPut]
    by_cases q : c = b
    · subst q
      rw [if_pos (by simp [Value.isStr]), if_pos rfl]
      exact .cons rx hs
    · have hk : (c.name == b.name) = false := by rw [at_inj]; exact decide_eq_false q
      rw [if_neg (by simp only [Value.isStr, hk]; simp), if_neg q]
      exact .cons hy ih
theorem relAs_some {h : Heap} {es : List DictEntry} {l : List (At × Vl)} (r : RelAs X φ h es l) (n : Str) : (getL n es).isSome = true := by
  unfold getL
  split
  · rfl
  · rw [relAs_ref r]; rfl
noncomputable def others (base h : Heap) (L dx : Addr) : List (Addr × Obj) :=
  (List.range h.objs.size).filterMap fun c => if c = L ∨ c = dx ∨ (base.get? c).isSome = true then none else (h.get? c).map fun o => (c, o)
theorem mem_others {base h : Heap} {L dx : Addr} {p : Addr × Obj} : p ∈ others base h L dx ↔ h.get? p.1 = some p.2 ∧ p.1 ≠ L ∧ p.1 ≠ dx ∧ base.get? p.1 = none := by
  obtain ⟨c, o⟩ := p
  unfold others
  simp only [List.mem_filterMap, List.mem_range]
  constructor
  · rintro ⟨c', hc, e⟩
    split at e
    · cases e
    · rename_i q
      simp only [not_or] at q
      cases e2 : h.get? c' with
      | none => rw [e2] at e; cases e
      | some o' =>
        rw [e2] at e; cases e
        exact ⟨e2, q.1, q.2.1, by simpa using q.2.2⟩
  · rintro ⟨e, h1, h2, h3⟩
    exact ⟨c, Heap.lt_size e, by rw [if_neg (by simp [h1, h2, h3]), e]; rfl⟩
theorem setAttr_ok (O : X.Ok) (F : Fm X φ ns ρ L s.heap) (I : Inv X φ σ s.heap) {r d : Nat} {y : Addr} {l : List (At × Vl)} (hy : φ[r]? = some y) (q1 : σ[r]? = some (.inst d)) (q2 : σ[d]? = some (.attrs l)) (hlt : l.length < 100)
    {b : At} {x : Value} {v : Vl} (rx : RelV X φ s.heap x v) {Q : Unit → Shared → Prop}
    (k : ∀ h' tk, Inv X φ (σ.set d (.attrs (attrPut b v l))) h' → Ext [L] φ φ s.heap h' → Fm X φ ns ρ L h' → Q () { s with heap := h', toks := tk }) :
    wpAny (model X.prog X.w) A (setAttr (.ref y) b.name x) Q E s := by
  obtain ⟨y', hy', dx, hdx, ho⟩ := I.objs _ _ q1
  rw [hy] at hy'; cases hy'
  obtain ⟨dx', hdx', es, n, h3, h4⟩ := I.objs _ _ q2
  rw [hdx] at hdx'; cases hdx'
  obtain ⟨m, F0, hm⟩ := F.fr
  have hdφ : dx ∈ φ := List.mem_of_getElem? hdx
  have hdL : dx ≠ L := fun q => F.out (q ▸ hdφ)
  have N : News X.base L s.heap ((dx, dictOf es n) :: others X.base s.heap L dx) := fun p hp => by
    rcases List.mem_cons.mp hp with rfl | hp
    · exact ⟨h3, hdL, I.fresh dx hdφ⟩
    · obtain ⟨a1, a2, a3, a4⟩ := mem_others.mp hp
      exact ⟨a1, a2, a4⟩
  refine set_dict (K := X.K) F0 O.kin N ⟨ho, rfl, rfl, h3⟩ rfl O.setS O.over (O.taker b) O.hasD (relAs_some h4 _) rfl (.head fun p hp => (mem_others.mp hp).2.2.1)
    (by have h1 := putL_len b.name (PyData.keyHash X.w.params b.name) (.str b.name (s.toks + 1)) x es; have h2 := relAs_len h4; omega) fun h' F' N' => ?_
  have hk : ∀ c o, s.heap.get? c = some o → c ≠ dx → c ≠ L → h'.get? c = some o := fun c o e z1 z2 => by
    cases eb : X.base.get? c with
    | some o' => have h1 := I.keep c o' eb; rw [e] at h1; cases h1; exact F'.keep c o eb
    | none => exact (N' (c, o) (List.mem_cons_of_mem _ (mem_others.mpr ⟨e, z2, z1, eb⟩))).1
  have hd' := (N' _ (List.mem_cons_self ..)).1
  have hL' : ∃ o, h'.get? L = some o := by obtain ⟨o, es, ep, e, _⟩ := F'.ns; exact ⟨o, e⟩
  obtain ⟨I', E', sk⟩ := I.change2 F hdx hk ⟨_, hd'⟩ hL' (.attrs (attrPut b v l)) fun sk => ⟨_, _, hd', relAs_put (h4.mono sk) b (rx.mono sk) _⟩
  refine k h' _ I' E' ⟨⟨m, F', fun i u e => ?_⟩, F.out, F.len⟩
  obtain ⟨z, e1, e2⟩ := hm i u e
  exact ⟨z, e1, e2.mono sk⟩

/-! ## An item is set -/
theorem setList_ok (I : Inv X φ σ s.heap) {r : Nat} {y : Addr} {l : List Vl} (hy : φ[r]? = some y) (q : σ[r]? = some (.list l)) {k : Int} {t : Tok} (h0 : 0 ≤ k) (hlt : k.toNat < l.length) {x : Value} {v : Vl} (rx : RelV X φ s.heap x v) {Q : Unit → Shared → Prop}
    (kk : ∀ h' tk, Inv X φ (σ.set r (.list (l.set k.toNat v))) h' → Ext [] φ φ s.heap h' → Q () { s with heap := h', toks := tk }) :
    wpAny (model X.prog X.w) A (setItem (.ref y) (.int k t) x) Q E s := by
  obtain ⟨it, n, o1, hl, hr⟩ := list_at I hy q
  have hsz : it.size = l.length := by have := hr.length; simp at this; omega
  have o2 := IsL.update o1 (fun y => y.setIfInBounds k.toNat x)
  have hline : line = 16777216 := line_eq
  refine ki_setAt o1 h0 (by omega) (by omega) ?_
  obtain ⟨I', hE⟩ := I.change (b := .list (l.set k.toNat v)) hy (Heap.SameBut.update s.heap y (Obj.mapSeq fun z => z.setIfInBounds k.toNat x)) ⟨_, o2⟩ (fun sk => ⟨_, _, o2, by simp; omega, by
    rw [Array.toList_setIfInBounds]; exact (hr.mono sk).set _ (rx.mono sk)⟩)
  exact kk _ _ I' hE
theorem setDict_ok (I : Inv X φ σ s.heap) {r : Nat} {y : Addr} (hy : φ[r]? = some y) (q : σ[r]? = some (.dict [])) {kx x : Value} {kl : List Nat} {v : Vl} (rk : RelV X φ s.heap kx (.str kl)) (rx : RelV X φ s.heap x v) {Q : Unit → Shared → Prop}
    (kk : ∀ h' tk, Inv X φ (σ.set r (.dict [(kl, v)])) h' → Ext [] φ φ s.heap h' → Q () { s with heap := h', toks := tk }) :
    wpAny (model X.prog X.w) A (setItem (.ref y) kx x) Q E s := by
  obtain ⟨es, n, ho, hr⟩ := dict_at I hy q
  cases hr
  cases rk with | str k1 t1 _ ek hkl =>
  refine wpAny_setItem_pairs (knd := strKind X.prog X.w) (k := k1) (kvs := []) (strKind_is _ _ k1 t1) ⟨_, _, n, ho, ⟨rfl, rfl, rfl⟩, rfl, (by intro e he; simp at he), .nil, .nil⟩ (fun h' hd hs => ?_) (Nat.zero_le _)
  obtain ⟨⟨oc, od, oda, osl⟩, es, ep, h1, ⟨c1, c2, c3⟩, h2, h3, h4, _⟩ := hd
  dsimp only at c1 c2 c3 h2
  subst c1 c2 c3 h2
  have h4' : Pairs (strKind X.prog X.w) es.toList [(k1, x)] := h4
  obtain ⟨esl⟩ := es
  dsimp only at h4'
  cases h4' with | @cons e _ es' _ g1 g2 g3 =>
  cases g3
  obtain ⟨k2, g4, g5⟩ := h3 e (by simp)
  have hk2 := (strKind X.prog X.w).inj _ _ _ g4 g1
  dsimp only at hk2 g1
  obtain ⟨t2, g6⟩ := Value.isStrOf_shape g1
  obtain ⟨eh, ek', ev⟩ := e
  dsimp only at g2 g5 g6
  subst g2 g6 hk2
  have g5' : eh = PyData.keyHash X.w.params k2 := g5
  subst g5'
  obtain ⟨I', hE⟩ := I.change (b := .dict [(kl, v)]) hy hs ⟨_, h1⟩ (fun sk => ⟨_, _, h1, .cons ek (rx.mono sk) .nil⟩)
  exact kk _ _ I' hE
end
end

section
section
variable {X : MC} {A : Around} {s : Shared} {φ : List Addr} {σ : Sto} {E : Value → Shared → Prop} {ns : List Str} {scope : Scope} {ρ : Loc} {L a : Addr} {qual : Str} {cd : Value}

theorem py_swaps {e : Ex} (he : ∀ x, e ≠ .raw x) (ns : List Str) (t : Option Expr) (n : Nat) (env : Env) : swapsWith (e.py ns) t n env = pure false := by
  cases e <;> first | rfl | exact absurd rfl (he _)
theorem py_sole {e : Ex} (he : ∀ x, e ≠ .raw x) (ns : List Str) (t : Expr) (n : Nat) (env : Env) : swapsWithSole [t] (e.py ns) n env = pure false := by
  cases e <;> first | rfl | exact absurd rfl (he _)
theorem py_swapped {e : Ex} (ht : (!isTupE e) = true) (he : ∀ x, e ≠ .raw x) (ns : List Str) (t : List Expr) (env : Env) (k : Nat) (p : Pos) : swappedStores [.Tuple t k p] (e.py ns) env = pure none := by
  cases e <;> first | rfl | exact absurd rfl (he _) | (cases ht)
theorem py_folded {e : Ex} (he : ∀ x, e ≠ .raw x) (ns : List Str) (env : Env) (x : Value) : foldedSetIterable (e.py ns) env x = pure x := by
  cases e <;> first | rfl | exact absurd rfl (he _)
theorem py_notStar {e : Ex} (he : ∀ x, e ≠ .raw x) (ns : List Str) : (match e.py ns with | .Starred .. => true | _ => false) = false := by
  cases e <;> first | rfl | exact absurd rfl (he _)
theorem each_names (ns : List Str) (env : Env) : ∀ is : List (Nat × Pos), assignEach (is.map fun x => Expr.Name (nm ns x.1) x.2) env = is.map fun x => (false, assign (.Name (nm ns x.1) x.2) env)
  | [] => rfl
  | x :: r => by
    show (false, _) :: assignEach (r.map _) env = _
    rw [each_names ns env r]; rfl
theorem each_star (ns : List Str) (env : Env) : ∀ is : List (Nat × Pos), (is.map fun x => (false, assign (.Name (nm ns x.1) x.2) env)).findIdx? (·.1) = none
  | [] => rfl
  | x :: r => by
    rw [List.map_cons, List.findIdx?_cons, each_star ns env r]; rfl
/-- `a, b = ...`: the names one behind the other -/
theorem stores_ok (hN : NsOk ns scope) {M : Model} : ∀ (is : List (Nat × Pos)) (xs : List Value) (vs : List Vl) {s : Shared} {ρ : Loc} {Q : Unit → Shared → Prop}, is.length = vs.length → is.all (fun x => decide (x.1 < ns.length)) = true → RelVs X φ s.heap xs vs → Fm X φ ns ρ L s.heap → Inv X φ σ s.heap →
    (∀ h' tk, Inv X φ σ h' → Ext [L] φ φ s.heap h' → Fm X φ ns (locSets is vs ρ) L h' → Q () { s with heap := h', toks := tk }) →
    wpAny M A (assignInOrder ((is.map fun x => (false, assign (.Name (nm ns x.1) x.2) (envOf qual scope L a cd))).map (·.2)) xs) Q E s
  | [], xs, vs, s, ρ, Q, hl, _, r, F, I, k => by
    have : vs = [] := by cases vs with | nil => rfl | cons _ _ => simp at hl
    subst this
    cases r
    exact wpAny_pure (k s.heap s.toks I (.refl ..) F)
  | (i, p) :: is, xs, vs, s, ρ, Q, hl, hi, r, F, I, k => by
    cases vs with
    | nil => simp at hl
    | cons v vs =>
      cases r with | cons hx hs =>
      rw [List.all_cons, Bool.and_eq_true, decide_eq_true_eq] at hi
      show wpAny M A (do holding _ (assign (.Name (nm ns i) p) _ _); assignInOrder _ _) Q E s
      refine wpAny_bind (wpAny_holding (wpAny_assign_Name (store_ok F I hN hi.1 hx fun h1 tk1 I1 E1 F1 => ?_)))
      obtain ⟨o0, ho, hq⟩ := F.get
      have sk : SeqKeep φ φ s.heap h1 := E1.seqZ fun c hc cc d items n sl e => by
        simp at hc; subst hc
        rw [ho] at e; cases e; exact hq _ _ _ _ _ rfl
      exact stores_ok hN is _ vs (s := { s with heap := h1, toks := tk1 }) (by simpa using hl) hi.2 (hs.mono sk) F1 I1 fun h2 tk2 I2 E2 F2 => k h2 tk2 I2 (E1.trans E2) F2

noncomputable def swapF (b1 b2 : Bool) (names : List Str) (n : Nat) (c1 c2 : Bool) : Sem (Option (List Str)) := do
  if b1 then return none
  if b2 then return none
  if names.length != n || names.eraseDups.length != names.length then return none
  if c1 then return none
  if c2 then unsupported "assign.tuple-of-constant-expressions:order-of-the-stores"
  return some names
theorem swap_eq {x y : Str} {pi pj pt pe : Pos} {a b : Expr} {env : Env} : swappedStores [.Tuple [.Name x pi, .Name y pj] 0 pt] (.Tuple [a, b] 0 pe) env =
    swapF (!(2 == 2 || 2 == 3) || 2 != 2 || env.blockKind != .function) (List.any [a, b] fun | .Starred .. => true | _ => false)
      (List.filterMap (fun (z : Expr) => match z with | .Name id pos => if env.kindOf id == some .local && pos.line == pi.line then some id else none | _ => none) [Expr.Name x pi, Expr.Name y pj]) 2 (List.all [a, b] (foldedForSure 8)) (List.all [a, b] (constantsAlone 8)) := rfl
theorem swap_of {names : List Str} {c1 c2 : Bool} (h1 : names.length = 2) (h2 : names.eraseDups.length = 2) (hc : c1 = true ∨ c2 = false) : swapF false false names 2 c1 c2 = pure (some names) ∨ swapF false false names 2 c1 c2 = pure none := by
  unfold swapF
  rw [h1, h2]
  rcases hc with rfl | rfl
  · right; rfl
  · cases c1
    · left; rfl
    · right; rfl
theorem swapped_two {x y : Str} {pi pj pt pe : Pos} {a b : Ex} {n : Nat} (hk : scope.kind = .function) (hx : scope.names.lookup x = some .local) (hy : scope.names.lookup y = some .local) (hxy : x ≠ y) (hp : (pi.line == pj.line) = true)
    (hd : dForm a b = true) (hb : ∀ z, b ≠ .raw z) (hdb : ∀ i p, b = .loc i p → (nm ns i == ("__debug__" : Str)) = false) :
    swappedStores [.Tuple [.Name x pi, .Name y pj] 0 pt] (.Tuple [a.py ns, b.py ns] 0 pe) (envOf qual scope L n cd) = pure (some [x, y]) ∨
    swappedStores [.Tuple [.Name x pi, .Name y pj] 0 pt] (.Tuple [a.py ns, b.py ns] 0 pe) (envOf qual scope L n cd) = pure none := by
  have hkx : (envOf qual scope L n cd).kindOf x = some .local := hx
  have hky : (envOf qual scope L n cd).kindOf y = some .local := hy
  have hl : (pj.line == pi.line) = true := by rw [beq_iff_eq] at hp ⊢; exact hp.symm
  have hl2 : (pi.line == pi.line) = true := beq_self_eq_true _
  have hbk : (!(2 == 2 || 2 == 3) || 2 != 2 || (envOf qual scope L n cd).blockKind != .function) = false := by
    have : (envOf qual scope L n cd).blockKind = .function := by simp [Env.blockKind, envOf, hk]
    rw [this]; rfl
  have hed : ([x, y].eraseDups).length = 2 := by
    simp [List.eraseDups_cons, Ne.symm hxy]
  have names : List.filterMap (fun (z : Expr) => match z with
      | .Name id pos => if ((envOf qual scope L n cd).kindOf id == some .local && pos.line == pi.line) = true then some id else none
      | _ => none) [.Name x pi, .Name y pj] = [x, y] := by
    simp [hkx, hky, hl, List.filterMap]
  have ha : (match a.py ns with | .Starred .. => true | _ => false) = false := by
    cases a <;> first | rfl | cases hd
  have hany : (List.any [a.py ns, b.py ns] fun (q : Expr) => match q with | .Starred .. => true | _ => false) = false := by
    show ((match a.py ns with | .Starred .. => true | _ => false) || ((match b.py ns with | .Starred .. => true | _ => false) || false)) = false
    rw [ha, py_notStar hb ns]; rfl
  have hc : List.all [a.py ns, b.py ns] (foldedForSure 8) = true ∨ List.all [a.py ns, b.py ns] (constantsAlone 8) = false := by
    cases a with
    | call f pf es p => exact .inr rfl
    | new pf p => exact .inr rfl
    | int i p => cases b with
      | int j q => exact .inl rfl
      | loc j q =>
        right
        show (constantsAlone 8 _ && (constantsAlone 8 _ && true)) = false
        have : constantsAlone 8 (.Name (nm ns j) q) = false := hdb j q rfl
        rw [show constantsAlone 8 (Ex.py ns (.loc j q)) = false from this]; simp
      | _ => cases hd
    | _ => cases hd
  rw [swap_eq, hbk, hany]
  erw [names]
  exact swap_of rfl hed hc
end
end

section
section
variable {X : MC} {C : CallT} {d N : Nat} {A : Around} {s : Shared} {φ : List Addr} {σ : Sto} {E : Value → Shared → Prop} {ns : List Str} {scope : Scope} {ρ : Loc} {L a : Addr} {qual : Str} {cd : Value}

theorem Fm.seqL (F : Fm X φ ns ρ L s.heap) {φ' : List Addr} {h' : Heap} (E' : Ext [L] φ φ' s.heap h') : SeqKeep φ φ' s.heap h' := by
  obtain ⟨o0, ho, hq⟩ := F.get
  exact E'.seqZ fun c hc cc d items n sl e => by
    simp at hc; subst hc
    rw [ho] at e; cases e; exact hq _ _ _ _ _ rfl
theorem push_ne {h : Heap} {b : Addr} {o : Obj} (e : h.get? b = some o) : h.objs.size ≠ b := fun q => absurd (Heap.lt_size e) (by rw [q]; exact Nat.lt_irrefl _)
theorem locSet_comm : ∀ (ρ : Loc) (i j : Nat) (x y : Vl), i ≠ j → locSet (locSet ρ i x) j y = locSet (locSet ρ j y) i x
  | [], _, _, _, _, _ => rfl
  | _ :: _, 0, 0, _, _, h => absurd rfl h
  | _ :: _, 0, _ + 1, _, _, _ => rfl
  | _ :: _, _ + 1, 0, _, _, _ => rfl
  | _ :: r, i + 1, j + 1, x, y, h => by simp only [locSet]; rw [locSet_comm r i j x y (fun q => h (by rw [q]))]
/-- a walk over what stands in the heap as a list or tuple -/
theorem forSeq_ok {b : Sts} (hb : OkSts X C d N ns scope b) (hN : NsOk ns scope) {i : Nat} (hi : i < ns.length) {px : Pos} {σ' : Sto} {ρ' : Loc} {fl : Fl} {vs : List Vl} {ax : Addr} {items : Array Value} {n : Nat} {T : String} {o : Obj}
    {St : Nat → Heap → Prop} {Q : Flow → Shared → Prop}
    (W : Walks X.prog X.w A s.heap.objs.size [s.heap.objs.size, ax] [s.heap.objs.size] items.size (fun i v => items[i]? = some v) St)
    (ha : ax ∉ φ) (hax : s.heap.get? ax = some ⟨.type T, none, .seq items n, #[]⟩) (r : RelVs X φ s.heap items.toList vs)
    (hst : ∀ (j : Nat) h, St j h → (∃ o, h.get? s.heap.objs.size = some o ∧ ∃ fs, o.data = .fields fs) ∧ ∃ o, h.get? ax = some o)
    (st0 : St 0 (s.heap.push o)) (ho : o.isFreed = false) (wf : b.wf scope ns.length = true) (RA : Room A d) (I0 : Inv X φ σ s.heap) (F0 : Fm X φ ns ρ L s.heap)
    (e : forL (exSs C N b) i vs ρ σ = some (fl, ρ', σ')) (k : PostF X φ ns L s ρ' σ' fl Q) :
    codeAny (model X.prog X.w) A (.forLoop (.Name (nm ns i) px) (.ref s.heap.objs.size) (b.py ns) [] (envOf qual scope L a cd)) (fun r s' => match r with | .ok f => Q f s' | .error e => cameBackBy (model X.prog X.w) A (envOf qual scope L a cd) E e s') { s with heap := s.heap.push o } := by
  obtain ⟨oL, hoL, hqL⟩ := F0.get
  have hk : ∀ a o', s.heap.get? a = some o' → (s.heap.push o).get? a = some o' := fun a o' e => Heap.get?_push_of_some o e
  have hlen : items.size = vs.length := by have := r.length; simpa using this
  refine forL_ok hb hN hi (s := { s with heap := s.heap.push o }) (hb0 := s.heap) W hlen (fun j v u φ' h' E' hv hu => ?_) (fun c hc => ?_) (fun c hc => ?_) (fun j h hs c hc => ?_) (fun j h hs c d items n sl q => ?_) (fresh_size _) ?_ (.of_keeps hk _) st0 wf RA (I0.mono hk) (F0.ext (.of_keeps hk _) (I0.mono hk).keep) e fun φ' h' tk' f I' E' F' r' => k φ' h' tk' f I' E' F' r'
  · obtain ⟨x, h1, h2⟩ := r.get hu
    have : v = x := by
      rw [Array.getElem?_toList, hv] at h1; cases h1; rfl
    subst this
    exact h2.mono (F0.seqL E')
  · simp only [List.mem_cons, List.not_mem_nil, or_false] at hc
    rcases hc with rfl | rfl
    · exact push_ne hoL
    · intro q; subst q; rw [hoL] at hax; cases hax; exact hqL _ _ _ _ _ rfl
  · simp only [List.mem_cons, List.not_mem_nil, or_false] at hc
    rcases hc with rfl | rfl
    · intro q; obtain ⟨o', e'⟩ := I0.mem_stored q; rw [fresh_size] at e'; cases e'
    · exact ha
  · simp only [List.mem_cons, List.not_mem_nil, or_false] at hc
    rcases hc with rfl | rfl
    · obtain ⟨⟨o, e1, _⟩, _⟩ := hst j h hs; exact ⟨o, e1⟩
    · exact (hst j h hs).2
  · obtain ⟨⟨o, e1, fs, e2⟩, _⟩ := hst j h hs
    rw [e1] at q; cases q; cases e2
  · cases e' : X.base.get? s.heap.objs.size with
    | none => rfl
    | some o' => have := I0.keep _ _ e'; rw [fresh_size] at this; cases this
theorem forOwn_ok {b : Sts} (hb : OkSts X C d N ns scope b) (hN : NsOk ns scope) {i : Nat} (hi : i < ns.length) {px : Pos} {σ' : Sto} {ρ' : Loc} {fl : Fl} {vs : List Vl} {J : Addr} {h1 : Heap} {tk1 : Nat} {P : Nat → Value → Prop}
    {St : Nat → Heap → Prop} {Q : Flow → Shared → Prop}
    (W : Walks X.prog X.w A J [J] [J] vs.length P St) (hJ : s.heap.get? J = none) (hk : ∀ a o', s.heap.get? a = some o' → h1.get? a = some o')
    (hP : ∀ (j : Nat) v u φ' h', P j v → vs[j]? = some u → RelV X φ' h' v u)
    (hst : ∀ (j : Nat) h, St j h → (∃ o, h.get? J = some o ∧ ∃ fs, o.data = .fields fs))
    (st0 : St 0 h1) (wf : b.wf scope ns.length = true) (RA : Room A d) (I0 : Inv X φ σ s.heap) (F0 : Fm X φ ns ρ L s.heap)
    (e : forL (exSs C N b) i vs ρ σ = some (fl, ρ', σ')) (k : PostF X φ ns L s ρ' σ' fl Q) :
    codeAny (model X.prog X.w) A (.forLoop (.Name (nm ns i) px) (.ref J) (b.py ns) [] (envOf qual scope L a cd)) (fun r s' => match r with | .ok f => Q f s' | .error e => cameBackBy (model X.prog X.w) A (envOf qual scope L a cd) E e s') { s with heap := h1, toks := tk1 } := by
  obtain ⟨oL, hoL, hqL⟩ := F0.get
  refine forL_ok hb hN hi (s := { s with heap := h1, toks := tk1 }) (hb0 := s.heap) W rfl (fun j v u φ' h' E' hv hu => hP j v u φ' h' hv hu) (fun c hc => ?_) (fun c hc => ?_) (fun j h hs c hc => ?_) (fun j h hs c d items n sl q => ?_) hJ ?_ (.of_keeps hk _) st0 wf RA (I0.mono hk) (F0.ext (.of_keeps hk _) (I0.mono hk).keep) e fun φ' h' tk' f I' E' F' r' => k φ' h' tk' f I' E' F' r'
  · simp only [List.mem_cons, List.not_mem_nil, or_false] at hc
    subst hc
    intro q; subst q; rw [hoL] at hJ; cases hJ
  · simp only [List.mem_cons, List.not_mem_nil, or_false] at hc
    subst hc
    intro q; obtain ⟨o', e'⟩ := I0.mem_stored q; rw [hJ] at e'; cases e'
  · simp only [List.mem_cons, List.not_mem_nil, or_false] at hc
    subst hc
    obtain ⟨o, e1, _⟩ := hst j h hs; exact ⟨o, e1⟩
  · obtain ⟨o, e1, fs, e2⟩ := hst j h hs
    rw [e1] at q; cases q; cases e2
  · cases e' : X.base.get? J with
    | none => rfl
    | some o' => have := I0.keep _ _ e'; rw [hJ] at this; cases this
theorem iter_ok {b : Sts} (hb : OkSts X C d N ns scope b) (hN : NsOk ns scope) {i : Nat} (hi : i < ns.length) {px : Pos} {σ' : Sto} {ρ' : Loc} {fl : Fl} {v : Vl} {x : Value} {vs : List Vl} {Q : Flow → Shared → Prop}
    (r : RelV X φ s.heap x v) (ei : iterOf v = some vs) (wf : b.wf scope ns.length = true) (RA : Room A d) (I0 : Inv X φ σ s.heap) (F0 : Fm X φ ns ρ L s.heap)
    (e : forL (exSs C N b) i vs ρ σ = some (fl, ρ', σ')) (k : PostF X φ ns L s ρ' σ' fl Q) :
    wpAny (model X.prog X.w) A (pyIter x) (fun it s₂ => codeAny (model X.prog X.w) A (.forLoop (.Name (nm ns i) px) it (b.py ns) [] (envOf qual scope L a cd)) (fun r s' => match r with | .ok f => Q f s' | .error e => cameBackBy (model X.prog X.w) A (envOf qual scope L a cd) E e s') s₂) E s := by
  cases r with
  | tup ax items n l ho ha hl hr =>
    cases ei
    refine wpAny_pyIter_tuple ⟨_, ho, rfl, n, rfl⟩ ?_
    refine forSeq_ok hb hN hi (Walks.tuple RA.2.2 _ ax (fun q => push_ne ho q.symm) items) ha ho hr (fun j h hs => ?_) ⟨⟨_, newSeq _ _ rfl, rfl, rfl⟩, ⟨_, Heap.get?_push_of_some _ ho, rfl, n, rfl⟩⟩ rfl wf RA I0 F0 e k
    obtain ⟨⟨o, e1, _, e2⟩, ⟨o', e3, _⟩⟩ := hs
    exact ⟨⟨o, e1, _, e2⟩, ⟨o', e3⟩⟩
  | lst ax items n l ho ha hl hr =>
    cases ei
    refine wpAny_pyIter_list ⟨_, ho, rfl, n, rfl⟩ ?_
    refine forSeq_ok hb hN hi (Walks.list RA.2.2 _ ax (fun q => push_ne ho q.symm) items) ha ho hr (fun j h hs => ?_) ⟨⟨_, newSeq _ _ rfl, rfl, rfl⟩, ⟨_, Heap.get?_push_of_some _ ho, rfl, n, rfl⟩⟩ rfl wf RA I0 F0 e k
    obtain ⟨⟨o, e1, _, e2⟩, ⟨o', e3, _⟩⟩ := hs
    exact ⟨⟨o, e1, _, e2⟩, ⟨o', e3⟩⟩
  | str x t l ex hl =>
    cases ei
    have hsz : x.cps.size = (l.map fun c => Vl.str [c]).length := by rw [List.length_map, ← ex]; simp
    have hP : ∀ (j : Nat) v u φ' h', SignAt x j v → (l.map fun c => Vl.str [c])[j]? = some u → RelV X φ' h' v u := fun j v u φ' h' hs hu => by
      obtain ⟨c, t', h1, rfl⟩ := hs
      rw [List.getElem?_map, ← ex, Array.getElem?_toList, h1] at hu
      cases hu
      exact .str _ _ _ rfl (by rw [line_eq]; simp)
    cases hx : x.cps.all (· < 128) with
    | true =>
      refine wpAny_pyIter_ascii hx ?_
      refine forOwn_ok hb hN hi (hsz ▸ Walks.strAscii RA.2.2 _ x t) (fresh_size _) (fun a o' e => Heap.get?_push_of_some _ e) hP (fun j h hs => ?_) ⟨_, newSeq _ _ rfl, rfl, rfl⟩ wf RA I0 F0 e k
      obtain ⟨o, e1, _, e2⟩ := hs
      exact ⟨o, e1, _, e2⟩
    | false =>
      refine wpAny_pyIter_wide hx ?_
      refine forOwn_ok hb hN hi (hsz ▸ Walks.strWide RA.2.2 _ x t) (fresh_size _) (fun a o' e => Heap.get?_push_of_some _ e) hP (fun j h hs => ?_) ⟨_, newSeq _ _ rfl, rfl, rfl⟩ wf RA I0 F0 e k
      obtain ⟨o, e1, _, e2⟩ := hs
      exact ⟨o, e1, _, e2⟩
  | _ => cases ei
theorem range_ok {b : Sts} (hb : OkSts X C d N ns scope b) (hN : NsOk ns scope) {i : Nat} (hi : i < ns.length) {px : Pos} {σ' : Sto} {ρ' : Loc} {fl : Fl} {n : Int} {t : Tok} (h0 : 0 ≤ n) (hn : n < big) {Q : Flow → Shared → Prop}
    (wf : b.wf scope ns.length = true) (RA : Room A d) (I0 : Inv X φ σ s.heap) (F0 : Fm X φ ns ρ L s.heap)
    (e : forL (exSs C N b) i (rangeVs n.toNat) ρ σ = some (fl, ρ', σ')) (k : PostF X φ ns L s ρ' σ' fl Q) :
    wpAny (model X.prog X.w) A (call (.type "range") [.int n t]) (fun x s₁ => wpAny (model X.prog X.w) A (pyIter x) (fun it s₂ => codeAny (model X.prog X.w) A (.forLoop (.Name (nm ns i) px) it (b.py ns) [] (envOf qual scope L a cd)) (fun r s' => match r with | .ok f => Q f s' | .error e => cameBackBy (model X.prog X.w) A (envOf qual scope L a cd) E e s') s₂) E s₁) E s := by
  obtain ⟨N, rfl⟩ := Int.eq_ofNat_of_zero_le h0
  have hbig : big = 1099511627776 := rfl
  refine call_range_1 ?_
  refine wpAny_pyIter_range (IsRange.new ..) (small_one (by decide) (by decide) (by omega) (by omega)) ?_
  have hsz : Builtin.Range.rangeSize 0 (N : Int) 1 = (N : Int) := by rw [rangeSize_one]; split <;> omega
  rw [hsz]
  have hlen : (rangeVs N).length = N := by simp [rangeVs]
  simp only [Int.toNat_natCast] at e
  refine forOwn_ok (s := s) hb hN hi (hlen.symm ▸ Walks.range RA.2.2 _ 0 1 N) ?_ (fun a o' e => Heap.get?_push_of_some _ (Heap.get?_push_of_some _ e)) (fun j v u φ' h' hv hu => ?_) (fun j h hs => ?_) ?_ wf RA I0 F0 e k
  · cases q : s.heap.get? (s.heap.push { cls := .type "range", data := .fields #[.int 0 s.toks, .int N t, .int 1 (s.toks + 1)] }).objs.size with
    | none => rfl
    | some o => exact absurd (Heap.lt_size q) (Nat.not_lt.mpr (by rw [Heap.size_push]; exact Nat.le_succ _))
  · obtain ⟨t', rfl⟩ := hv
    rw [rangeVs, List.getElem?_map] at hu
    cases q : (List.range N)[j]? with
    | none => rw [q] at hu; cases hu
    | some m =>
      obtain ⟨l, e⟩ := List.getElem?_eq_some_iff.mp q
      rw [List.getElem_range] at e
      subst e
      rw [q] at hu; cases hu
      simpa using RelV.int (X := X) (φ := φ') (h := h') (j : Int) t'
  · exact ⟨_, hs, _, rfl⟩
  · have := newSeq (s.heap.push { cls := .type "range", data := .fields #[.int 0 s.toks, .int N t, .int 1 (s.toks + 1)] }) { cls := .type "range_iterator", data := .fields #[rawInt 0, rawInt (N : Int), rawInt 1] } rfl
    simpa [IsRangeIter, hlen] using this
end
end

section
theorem es_two {C : CallT} {a b : Ex} {ρ : Loc} {σ σ1 σ2 : Sto} {x y : Vl} {p : Pos} (e1 : evE C a ρ σ = some (x, σ1)) (e2 : evE C b ρ σ1 = some (y, σ2)) : evE C (.tup (.cons a (.cons b .nil)) p) ρ σ = some (.tup [x, y], σ2) := by
  have h2 : evEs C (.cons b .nil) ρ σ1 = some ([y], σ2) := by
    show thenV (evE C b ρ σ1) _ = _
    rw [e2]; rfl
  have h1 : evEs C (.cons a (.cons b .nil)) ρ σ = some ([x, y], σ2) := by
    show thenV (evE C a ρ σ) (fun v σ => thenL (evEs C (.cons b .nil) ρ σ) fun vs σ => some (v :: vs, σ)) = _
    rw [e1]
    show thenL (evEs C (.cons b .nil) ρ σ1) (fun vs σ => some (x :: vs, σ)) = _
    rw [h2]; rfl
  show thenL (evEs C (.cons a (.cons b .nil)) ρ σ) _ = _
  rw [h1]; rfl
set_option maxHeartbeats 2000000 in
mutual
theorem exS_ok {X : MC} {C : CallT} {d N : Nat} {ns : List Str} {scope : Scope} (O : X.Ok) (hC : CallOk X C d) (hN : NsOk ns scope) : ∀ st : St, OkSt X C d N ns scope st
  | .assign i pi e p => fun ρ σ fl ρ' σ' h wf A s φ L a qual cd Q E R I F k => by
    simp only [wS_assign, Bool.and_eq_true, decide_eq_true_eq] at wf
    refine thenVE (tr h xS_assign) fun v σ1 e1 h => ?_
    cases h
    refine wpAny_Assign_Name ((evE_ok O hC hN e).1 ρ σ v _ e1 wf.2 A s φ L a qual cd _ E R I F fun φ1 h1 tk1 x I1 E1 r1 => ?_) (py_swaps (ev_raw e1) _ _ _ _)
    exact store_ok (s := { s with heap := h1, toks := tk1 }) (F.ext E1 I1.keep) I1 hN wf.1 r1 fun h2 tk2 I2 E2 F2 => k φ1 h2 tk2 _ I2 (E1.to.trans E2) F2 .next
  | .assignT is pt e p => fun ρ σ fl ρ' σ' h wf A s φ L a qual cd Q E R I F k => by
    simp only [wS_assignT, Bool.and_eq_true, decide_eq_true_eq] at wf
    refine thenVE (tr h xS_assignT) fun x σ1 e1 h => bindE h fun vs q h => ifE h fun hl h => ?_
    rw [vTup_eq q] at e1
    cases h
    refine Assign_Tuple ((evE_ok O hC hN e).1 ρ σ _ _ e1 wf.1.2 A s φ L a qual cd _ E R I F fun φ1 h1 tk1 x I1 E1 r1 => ?_) (py_sole (ev_raw e1) _ _ _ _) (py_swapped wf.2 (ev_raw e1) _ _ _ _ _)
    cases r1 with | tup t items n _ ho ha hline hr =>
    have hsz : items.size = vs.length := by have := hr.length; simpa using this
    have hb : ∀ (b : Addr) o, h1.get? b = some o → b ≠ h1.objs.size := fun b o e => (push_ne e).symm
    refine wpAny_assign_Tuple (s := { s with heap := h1, toks := tk1 }) R.2.2 ⟨_, ho, rfl, n, rfl⟩ ?_ ?_ fun h2 hx => ?_
    · rw [each_names, List.length_map, hsz, hl]
    · rw [each_names, each_star]
    · have hk : ∀ b o, h1.get? b = some o → h2.get? b = some o := fun b o e => hx b o (hb b o e) e
      have I2 := I1.mono hk
      have E2 : Ext [] φ1 φ1 h1 h2 := .of_keeps hk _
      rw [each_names]
      refine stores_ok (s := { s with heap := h2, toks := tk1 }) hN is _ vs hl.symm wf.1.1 (hr.mono E2.seq) (F.ext (E1.trans E2) I2.keep) I2 fun h3 tk3 I3 E3 F3 => ?_
      exact k φ1 h3 tk3 _ I3 ((E1.trans E2).to.trans E3) F3 .next
  | .assignD i pi j pj pt ea eb pe p => fun ρ σ fl ρ' σ' h wf A s φ L a qual cd Q E R I F k => by
    simp only [wS_assignD, Bool.and_eq_true, decide_eq_true_eq] at wf
    obtain ⟨⟨⟨⟨⟨w1, w2⟩, w3⟩, w4⟩, w5⟩, w6⟩ := wf
    refine thenVE (tr h xS_assignD) fun x σ1 e1 h => thenVE h fun y σ2 e2 h => ifE h fun hij h => ?_
    cases h
    have hT : evE C (.tup (.cons ea (.cons eb .nil)) pe) ρ σ = some (.tup [x, y], σ') := es_two e1 e2
    have hw : (Ex.tup (.cons ea (.cons eb .nil)) pe).wf scope = true := by
      show ((ea.wf scope) && ((eb.wf scope) && true)) = true
      rw [w4, w5]; rfl
    have hnm : nm ns i ≠ nm ns j := fun q => hij (hN.inj i j w1 w2 q)
    have hdb : ∀ i p, eb = .loc i p → (nm ns i == ("__debug__" : Str)) = false := fun i' p' q => by
      subst q
      exact mapE e2 fun v q _ => hN.dbg i' (by rw [← F.len]; exact locGet_lt q)
    have hs1 : swapsWithSole [.Tuple [.Name (nm ns i) pi, .Name (nm ns j) pj] 0 pt] (.Tuple [ea.py ns, eb.py ns] 0 pe) p.line (envOf qual scope L a cd) = pure false := rfl
    rcases swapped_two (L := L) (qual := qual) (cd := cd) (pt := pt) (pe := pe) (n := a) hN.kind (hN.loc i w1) (hN.loc j w2) hnm w3 w6 (ev_raw e2) hdb with hw2 | hw2
    · refine Assign_Tuple_swapped ((evE_ok O hC hN (.tup (.cons ea (.cons eb .nil)) pe)).1 ρ σ _ _ hT hw A s φ L a qual cd _ E R I F fun φ1 h1 tk1 v I1 E1 r1 => ?_) hs1 hw2
      cases r1 with | tup t items n _ ho ha hline hr =>
      have hsz : items.size = 2 := by have := hr.length; simpa using this
      have hh : [nm ns i, nm ns j].length = items.size := hsz.symm
      rw [hh]
      refine wpAny_unpackItems_tuple (s := { s with heap := h1, toks := tk1 }) R.2.2 ⟨_, ho, rfl, n, rfl⟩ fun h2 hx => ?_
      have hk : ∀ b o, h1.get? b = some o → h2.get? b = some o := fun b o e => hx b o (push_ne e).symm e
      have I2 := I1.mono hk
      have E2 : Ext [] φ1 φ1 h1 h2 := .of_keeps hk _
      have F2 := F.ext (E1.trans E2) I2.keep
      generalize items.toList = il at hr
      cases hr with | cons hx hs =>
      cases hs with | cons hy hs =>
      cases hs
      show wpAny _ _ (do holding _ (bindName _ (nm ns j) _); holding _ (bindName _ (nm ns i) _); pure ()) _ _ _
      refine wpAny_bind (wpAny_holding (wpAny_bindName (store_ok (s := { s with heap := h2, toks := tk1 }) F2 I2 hN w2 (hy.mono E2.seq) fun h3 tk3 I3 E3 F3 => ?_)))
      refine wpAny_bind (wpAny_holding (wpAny_bindName (store_ok (s := { s with heap := h3, toks := tk3 }) F3 I3 hN w1 ((hx.mono E2.seq).mono (Fm.seqL (s := { s with heap := h2, toks := tk1 }) F2 E3)) fun h4 tk4 I4 E4 F4 => ?_)))
      refine wpAny_pure (k φ1 h4 tk4 _ I4 (((E1.trans E2).to.trans E3).trans E4) ?_ .next)
      have : locSet (locSet ρ i x) j y = locSet (locSet ρ j y) i x := locSet_comm ρ i j x y hij
      rw [this]; exact F4
    · refine Assign_Tuple ((evE_ok O hC hN (.tup (.cons ea (.cons eb .nil)) pe)).1 ρ σ _ _ hT hw A s φ L a qual cd _ E R I F fun φ1 h1 tk1 v I1 E1 r1 => ?_) hs1 hw2
      cases r1 with | tup t items n _ ho ha hline hr =>
      have hsz : items.size = 2 := by have := hr.length; simpa using this
      refine wpAny_assign_Tuple (s := { s with heap := h1, toks := tk1 }) R.2.2 ⟨_, ho, rfl, n, rfl⟩ hsz.symm rfl fun h2 hx => ?_
      have hk : ∀ b o, h1.get? b = some o → h2.get? b = some o := fun b o e => hx b o (push_ne e).symm e
      have I2 := I1.mono hk
      have E2 : Ext [] φ1 φ1 h1 h2 := .of_keeps hk _
      have F2 := F.ext (E1.trans E2) I2.keep
      refine stores_ok (s := { s with heap := h2, toks := tk1 }) hN [(i, pi), (j, pj)] _ [x, y] rfl (by simp [w1, w2]) (hr.mono E2.seq) F2 I2 fun h3 tk3 I3 E3 F3 => ?_
      exact k φ1 h3 tk3 _ I3 ((E1.trans E2).to.trans E3) F3 .next
  | .setItem o i e ps p => fun ρ σ fl ρ' σ' h wf A s φ L a qual cd Q E R I F k => by
    simp only [wS_setItem, Bool.and_eq_true] at wf
    refine thenVE (tr h xS_setItem) fun v σ1 e1 h => thenVE h fun xv σ2 e2 h => bindE h fun r q0 h => thenVE h fun kv σ3 e3 h => bindE h fun ob q h => mapE h fun ob' q2 h => ?_
    rw [vRef_eq q0] at e2
    cases h
    show wpAny _ _ (exec (.Assign [.Subscript (o.py ns) (i.py ns) ps] (e.py ns) p) _) _ _ _
    rw [exec_Assign_Subscript _ _ _ _ _ (py_swaps (ev_raw e1) _ _ _ _)]
    refine wpAny_bind (wpAny_standAt (wpAny_bind ((evE_ok O hC hN e).1 ρ σ v _ e1 wf.2 A s φ L a qual cd _ E R I F fun φ1 h1 tk1 x1 I1 E1 r1 => ?_)))
    have F1 := F.ext E1 I1.keep
    rw [assign_Subscript]
    refine wpAny_bind (wpAny_bind (wpAny_holding ((evE_ok O hC hN o).1 ρ σ1 _ _ e2 wf.1.1 A { s with heap := h1, toks := tk1 } φ1 L a qual cd _ E R I1 F1 fun φ2 h2 tk2 x2 I2 E2 r2 => ?_)))
    have F2 := F1.ext E2 I2.keep
    refine wpAny_bind (wpAny_holding ((evE_ok O hC hN i).1 ρ σ2 _ _ e3 wf.1.2 A { s with heap := h2, toks := tk2 } φ2 L a qual cd _ E R I2 F2 fun φ3 h3 tk3 x3 I3 E3 r3 => ?_))
    have F3 := F2.ext E3 I3.keep
    have r1' := (r1.mono E2.seq).mono E3.seq
    obtain ⟨y, rfl, hy⟩ := rel_ref (r2.mono E3.seq)
    refine wpAny_bind (wpAny_standAt (wpAny_bind (wpAny_holding ?_)))
    have fin : ∀ h4 tk4, Inv X φ3 (σ3.set r ob') h4 → Ext [] φ3 φ3 h3 h4 → Q .next { s with heap := h4, toks := tk4 } := fun h4 tk4 I4 E4 =>
      k φ3 h4 tk4 _ I4 (((E1.trans E2).trans E3).trans E4).to (F3.ext E4 I4.keep) .next
    cases ob with
    | list l =>
      refine bindE q2 fun n q3 q2 => ifE q2 fun hlt q2 => ?_
      rw [natI_eq q3] at r3
      cases q2
      cases r3 with | int _ t =>
      exact setList_ok (s := { s with heap := h3, toks := tk3 }) I3 hy q (Int.natCast_nonneg n) (by simpa using hlt) r1' fun h4 tk4 I4 E4 => wpAny_release (wpAny_pure (fin h4 tk4 (by simpa using I4) E4))
    | dict l =>
      refine bindE q2 fun n q3 q2 => ?_
      rw [vStr_eq q3] at r3
      cases l with
      | nil =>
        cases q2
        exact setDict_ok (s := { s with heap := h3, toks := tk3 }) I3 hy q r3 r1' fun h4 tk4 I4 E4 => wpAny_release (wpAny_pure (fin h4 tk4 I4 E4))
      | cons => cases q2
    | _ => cases q2
  | .setAttr o b pa e p => fun ρ σ fl ρ' σ' h wf A s φ L a qual cd Q E R I F k => by
    simp only [wS_setAttr, Bool.and_eq_true] at wf
    refine thenVE (tr h xS_setAttr) fun v σ1 e1 h => thenVE h fun xv σ2 e2 h => bindE h fun r q0 h => bindE h fun pr q h => ifE h fun hlt h => ?_
    rw [vRef_eq q0] at e2
    cases h
    refine plainObj_wpAny_Assign_Attribute ((evE_ok O hC hN e).1 ρ σ v _ e1 wf.2 A s φ L a qual cd _ E R I F fun φ1 h1 tk1 x1 I1 E1 r1 => ?_) (py_swaps (ev_raw e1) _ _ _ _)
    have F1 := F.ext E1 I1.keep
    refine (evE_ok O hC hN o).1 ρ σ1 _ _ e2 wf.1 A { s with heap := h1, toks := tk1 } φ1 L a qual cd _ E R I1 F1 fun φ2 h2 tk2 x2 I2 E2 r2 => ?_
    have F2 := F1.ext E2 I2.keep
    cases r2 with | ref _ y hy =>
    refine setAttr_ok (s := { s with heap := h2, toks := tk2 }) O F2 I2 hy (instI_eq q).1 (instI_eq q).2 hlt (r1.mono E2.seq) fun h3 tk3 I3 E3 F3 => ?_
    exact k φ2 h3 tk3 _ I3 ((E1.trans E2).to.trans E3) F3 .next
  | .aug i pi op e p => fun ρ σ fl ρ' σ' h wf A s φ L a qual cd Q E R I F k => by
    simp only [wS_aug, Bool.and_eq_true, decide_eq_true_eq] at wf
    refine bindE (tr h xS_aug) fun x q h => thenVE h fun y σ1 e1 h => mapE h fun w ew h => ?_
    cases h
    obtain ⟨m, F0, hm⟩ := F.fr
    obtain ⟨xv, g1, g2⟩ := hm i x q
    refine wpAny_AugAssign_Name (wpAny_loadName_local hN.kind (hN.loc i wf.1) F0.ns g1 ?_)
    refine (evE_ok O hC hN e).1 ρ σ y _ e1 wf.2 A s φ L a qual cd _ E R I F fun φ1 h1 tk1 x1 I1 E1 r1 => ?_
    have F1 := F.ext E1 I1.keep
    refine augV_ok (s := { s with heap := h1, toks := tk1 }) I1 (g2.mono E1.seq) r1 ew fun φ2 h2 tk2 x2 I2 E2 r2 => ?_
    exact store_ok (s := { s with heap := h2, toks := tk2 }) (F1.ext E2 I2.keep) I2 hN wf.1 r2 fun h3 tk3 I3 E3 F3 => k φ2 h3 tk3 _ I3 ((E1.trans E2).to.trans E3) F3 .next
  | .augAttr i pi b pa op e p => fun ρ σ fl ρ' σ' h wf A s φ L a qual cd Q E R I F k => by
    rw [wS_augAttr] at wf
    refine bindE (tr h xS_augAttr) fun zv q h => bindE h fun r q0 h => bindE h fun pr q1 h => bindE h fun wv qa h => bindE h fun x qx h => thenVE h fun y σ1 e1 h => bindE h fun w ew h => bindE h fun pr' q3 h => ifE h fun hc h => ifE h fun hlt h => ?_
    rw [vRef_eq q0] at q
    rw [vInt_eq qx] at qa
    cases h
    refine wpAny_AugAssign_AttributeAny (loc_ok F hN q (fun xv rx => ?_) _)
    have ei : instOf σ (.ref r) = some pr.2 := by show Option.map _ (instI σ r) = _; rw [q1]; rfl
    refine attr_ok O F I rx ei qa (fun φ1 h1 tk1 x1 I1 E1 r1 => ?_) true
    have F1 := F.ext E1 I1.keep
    refine (evE_ok O hC hN e).1 ρ σ y _ e1 wf A { s with heap := h1, toks := tk1 } φ1 L a qual cd _ E R I1 F1 fun φ2 h2 tk2 x2 I2 E2 r2 => ?_
    have F2 := F1.ext E2 I2.keep
    refine augV_ok (s := { s with heap := h2, toks := tk2 }) I2 (r1.mono E2.seq) r2 ew fun φ3 h3 tk3 x3 I3 E3 r3 => ?_
    have F3 := F2.ext E3 I3.keep
    cases rx with | ref _ yv hy =>
    have hy3 := E3.pre _ _ (E2.pre _ _ (E1.pre _ _ hy))
    refine setAttr_ok (s := { s with heap := h3, toks := tk3 }) O F3 I3 hy3 (instI_eq q3).1 (instI_eq q3).2 hlt r3 fun h4 tk4 I4 E4 F4 => ?_
    exact k φ3 h4 tk4 _ I4 (((E1.trans E2).trans E3).to.trans E4) F4 .next
  | .ite t x y p => fun ρ σ fl ρ' σ' h wf A s φ L a qual cd Q E R I F k => by
    simp only [wS_ite, Bool.and_eq_true] at wf
    refine thenVE (tr h xS_ite) fun v σ1 e1 h => bindE h fun u e2 h => ?_
    refine wpAny_If ((evE_ok O hC hN t).2 ρ σ v _ _ e1 e2 wf.1.1 A s φ L a qual cd _ E R I F fun φ1 h1 tk1 I1 E1 => ?_)
    cases u with
    | true =>
      rw [if_pos rfl]
      exact exSs_ok O hC hN x _ _ _ _ _ h wf.1.2 A _ φ1 L a qual cd _ E R I1 (F.ext E1 I1.keep) (k.trans E1.to)
    | false =>
      simp only [Bool.false_eq_true, if_false]
      exact exSs_ok O hC hN y _ _ _ _ _ h wf.2 A _ φ1 L a qual cd _ E R I1 (F.ext E1 I1.keep) (k.trans E1.to)
  | .while t b p => fun ρ σ fl ρ' σ' h wf A s φ L a qual cd Q E R I F k => by
    simp only [wS_while, Bool.and_eq_true] at wf
    exact wpAny_While (whileN_ok (evE_ok O hC hN t).2 (exSs_ok O hC hN b) wf.1 wf.2 R I F h fun φ' h' tk' f I' E' F' r' => k φ' h' tk' f I' E' F' r')
  | .for i pi e b p => fun ρ σ fl ρ' σ' h wf A s φ L a qual cd Q E R I F k => by
    simp only [wS_for, Bool.and_eq_true, decide_eq_true_eq] at wf
    refine thenVE (tr h xS_for) fun v σ1 e1 h => bindE h fun vs ei h => ?_
    refine wpAny_For ((evE_ok O hC hN e).1 ρ σ v _ e1 wf.1.2 A s φ L a qual cd _ E R I F fun φ1 h1 tk1 x1 I1 E1 r1 => ?_) (py_folded (ev_raw e1) _ _)
    exact iter_ok (s := { s with heap := h1, toks := tk1 }) (exSs_ok O hC hN b) hN wf.1.1 r1 ei wf.2 R I1 (F.ext E1 I1.keep) h (k.trans E1.to)
  | .forR i pi pf e pc b p => fun ρ σ fl ρ' σ' h wf A s φ L a qual cd Q E R I F k => by
    simp only [wS_forR, Bool.and_eq_true, decide_eq_true_eq] at wf
    obtain ⟨⟨⟨w1, w2⟩, w3⟩, w4⟩ := wf
    refine thenVE (tr h xS_forR) fun v σ1 e1 h => bindE h fun n q h => ifE h fun hn h => ?_
    rw [vInt_eq q] at e1
    refine wpAny_For (wpAny_Call_NameR (bi_ok O F hN w2 O.grange.1 O.grange.2 ?_ _))
    have hst : backTo pc (starEach [e.py ns] (envOf qual scope L a cd)) = [(false, eval (e.py ns) (envOf qual scope L a cd))] := by
      rw [py_star (ev_raw e1)]; rfl
    rw [hst]
    refine PySem.callWith_type rfl (Calls.evalArgs_plain (Calls.spliced_cons ((evE_ok O hC hN e).1 ρ σ _ _ e1 w3 A s φ L a qual cd _ E R I F fun φ1 h1 tk1 x1 I1 E1 r1 => Calls.spliced_nil ?_)))
    cases r1 with | int _ t =>
    exact range_ok (s := { s with heap := h1, toks := tk1 }) (exSs_ok O hC hN b) hN w1 hn.1 hn.2 w4 R I1 (F.ext E1 I1.keep) h (k.trans E1.to)
  | .ret e p => fun ρ σ fl ρ' σ' h wf A s φ L a qual cd Q E R I F k => by
    refine thenVE (tr h xS_ret) fun v σ1 e1 h => ?_
    cases h
    exact wpAny_Return_some ((evE_ok O hC hN e).1 ρ σ v _ e1 wf A s φ L a qual cd _ E R I F fun φ1 h1 tk1 x1 I1 E1 r1 => k φ1 h1 tk1 _ I1 E1.to (F.ext E1 I1.keep) (.ret r1))
  | .ret0 p => fun ρ σ fl ρ' σ' h wf A s φ L a qual cd Q E R I F k => by
    cases h
    exact wpAny_Return_none (k φ s.heap s.toks _ I (.refl ..) F (.ret .none))
  | .expr e p => fun ρ σ fl ρ' σ' h wf A s φ L a qual cd Q E R I F k => by
    refine thenVE (tr h xS_expr) fun v σ1 e1 h => mapE h fun _ q h => ?_
    rw [vNone_eq q] at e1
    cases h
    refine wpAny_Expr ((evE_ok O hC hN e).1 ρ σ _ _ e1 wf A s φ L a qual cd _ E R I F fun φ1 h1 tk1 x1 I1 E1 r1 => ?_) ?_ (py_swaps (ev_raw e1) _ _ _ _)
    · cases r1
      exact k φ1 h1 tk1 _ I1 E1.to (F.ext E1 I1.keep) .next
    · simp [interactive, envOf, hN.kind]
  | .brk p => fun ρ σ fl ρ' σ' h wf A s φ L a qual cd Q E R I F k => by
    cases h
    show wpAny _ _ (exec (.Break p) _) _ _ _
    rw [arm_exec_Break]
    exact wpAny_bind (wpAny_standAt (wpAny_pure (k φ s.heap s.toks _ I (.refl ..) F .brk)))
  | .tri b hs p => fun ρ σ fl ρ' σ' h wf A s φ L a qual cd Q E R I F k => by
    show wpAny _ _ (exec (.Try (b.py ns) hs [] [] p) _) _ _ _
    rw [arm_exec_Try]
    refine wpAny_bind (wpAny_standAt ?_)
    unfold tryStmt
    show wpAny _ _ (do return ← _) _ _ _
    refine wpAny_bind (wpAny_attempt ?_)
    refine exSs_ok O hC hN b _ _ _ _ _ h wf A s φ L a qual cd _ _ R I F fun φ' h' tk' f I' E' F' r' => ?_
    have := k φ' h' tk' f I' E' F' r'
    cases r' with
    | next => exact wpAny_execs_nil this
    | brk => exact wpAny_pure this
    | ret r => exact wpAny_pure this
  | .raw st => fun ρ σ fl ρ' σ' h => nomatch h
theorem exSs_ok {X : MC} {C : CallT} {d N : Nat} {ns : List Str} {scope : Scope} (O : X.Ok) (hC : CallOk X C d) (hN : NsOk ns scope) : ∀ ss : Sts, OkSts X C d N ns scope ss
  | .nil => fun ρ σ fl ρ' σ' h wf A s φ L a qual cd Q E R I F k => by
    cases h
    exact wpAny_execs_nil (k φ s.heap s.toks _ I (.refl ..) F .next)
  | .cons st ss => fun ρ σ fl ρ' σ' h wf A s φ L a qual cd Q E R I F k => by
    simp only [wSs_cons, Bool.and_eq_true] at wf
    refine wpAny_execs_cons ?_
    refine thenFE (tr h xSs_cons) fun f2 ρ1 σ1 e1 h => ?_
    refine exS_ok O hC hN st _ _ _ _ _ e1 wf.1 A s φ L a qual cd _ E R I F fun φ' h' tk' f I' E' F' r' => ?_
    cases r' with
    | next => exact exSs_ok O hC hN ss _ _ _ _ _ h wf.2 A _ φ' L a qual cd _ E R I' F' (k.trans E')
    | brk => cases h; exact k φ' h' tk' _ I' E' F' .brk
    | ret r => cases h; exact k φ' h' tk' _ I' E' F' (.ret r)
end
end

section
mutual
theorem RelV.noref {X : MC} {φ : List Addr} {h : Heap} {x : Value} {v : Vl} (r : RelV X φ h x v) : noref φ.length v = true := by
  cases r with
  | tup a items n l ho ha hl hr => exact RelVs.noref hr
  | lst a items n l ho ha hl hr => exact RelVs.noref hr
  | ref i a ha => exact decide_eq_true (List.getElem?_eq_some_iff.mp ha).1
  | _ => rfl
theorem RelVs.noref {X : MC} {φ : List Addr} {h : Heap} {xs : List Value} {vs : List Vl} (r : RelVs X φ h xs vs) : norefs φ.length vs = true := by
  cases r with
  | nil => rfl
  | cons hx hs => exact Bool.and_eq_true_iff.mpr ⟨RelV.noref hx, RelVs.noref hs⟩
end
theorem pre_in {φ φ' : List Addr} (pre : ∀ (i : Nat) (a : Addr), φ[i]? = some a → φ'[i]? = some a) {a : Addr} (m : a ∈ φ) : a ∈ φ' := by
  obtain ⟨i, hi, e⟩ := List.getElem_of_mem m
  exact List.mem_of_getElem? (pre i a (by simp [hi, e]))
mutual
theorem RelV.down {X : MC} {φ φ' : List Addr} {h : Heap} (pre : ∀ (i : Nat) (a : Addr), φ[i]? = some a → φ'[i]? = some a) {x : Value} {v : Vl} (r : RelV X φ' h x v) (q : noref φ.length v = true) : RelV X φ h x v := by
  cases r with
  | none => exact .none
  | bool b => exact .bool b
  | int i t => exact .int i t
  | str x t l e hl => exact .str x t l e hl
  | tup a items n l ho ha hl hr => exact .tup a items n l ho (fun m => ha (pre_in pre m)) hl (RelVs.down pre hr q)
  | lst a items n l ho ha hl hr => exact .lst a items n l ho (fun m => ha (pre_in pre m)) hl (RelVs.down pre hr q)
  | ref i a ha =>
    have hi : i < φ.length := of_decide_eq_true q
    have h1 := pre i φ[i] (List.getElem?_eq_getElem hi)
    rw [ha] at h1
    exact .ref i a (by rw [List.getElem?_eq_getElem hi, ← h1])
  | fn f a e => exact .fn f a e
  | cls c a e => exact .cls c a e
theorem RelVs.down {X : MC} {φ φ' : List Addr} {h : Heap} (pre : ∀ (i : Nat) (a : Addr), φ[i]? = some a → φ'[i]? = some a) {xs : List Value} {vs : List Vl} (r : RelVs X φ' h xs vs) (q : norefs φ.length vs = true) : RelVs X φ h xs vs := by
  cases r with
  | nil => exact .nil
  | cons hx hs => exact .cons (RelV.down pre hx (Bool.and_eq_true_iff.mp q).1) (RelVs.down pre hs (Bool.and_eq_true_iff.mp q).2)
end
section
variable {X : MC} {φ φ' : List Addr} {σ σ' : Sto} {h h0 h' : Heap}
theorem relAs_noref {es : List DictEntry} {l : List (At × Vl)} (r : RelAs X φ h es l) : ∀ p ∈ l, noref φ.length p.2 = true := by
  induction r with
  | nil => intro p hp; cases hp
  | cons hx _ ih => intro p hp; rcases List.mem_cons.mp hp with rfl | hp; exact hx.noref; exact ih p hp
theorem relDs_noref {es : List DictEntry} {l : List (List Nat × Vl)} (r : RelDs X φ h es l) : ∀ p ∈ l, noref φ.length p.2 = true := by
  induction r with
  | nil => intro p hp; cases hp
  | cons _ hx _ ih => intro p hp; rcases List.mem_cons.mp hp with rfl | hp; exact hx.noref; exact ih p hp
theorem relAs_down (pre : ∀ (i : Nat) (a : Addr), φ[i]? = some a → φ'[i]? = some a) {es : List DictEntry} {l : List (At × Vl)} (r : RelAs X φ' h es l) (q : ∀ p ∈ l, noref φ.length p.2 = true) : RelAs X φ h es l := by
  induction r with
  | nil => exact .nil
  | cons hx _ ih => exact .cons (hx.down pre (q _ (List.mem_cons_self ..))) (ih fun p hp => q p (List.mem_cons_of_mem _ hp))
theorem relDs_down (pre : ∀ (i : Nat) (a : Addr), φ[i]? = some a → φ'[i]? = some a) {es : List DictEntry} {l : List (List Nat × Vl)} (r : RelDs X φ' h es l) (q : ∀ p ∈ l, noref φ.length p.2 = true) : RelDs X φ h es l := by
  induction r with
  | nil => exact .nil
  | cons hk hx _ ih => exact .cons hk (hx.down pre (q _ (List.mem_cons_self ..))) (ih fun p hp => q p (List.mem_cons_of_mem _ hp))
/-- what a call has made is dropped -/
theorem Inv.down (I : Inv X φ σ h0) (I' : Inv X φ' σ' h') (pre : ∀ (i : Nat) (a : Addr), φ[i]? = some a → φ'[i]? = some a) (ht : σ'.take σ.length = σ) : Inv X φ σ h' := by
  refine ⟨I'.keep, I.fresh, I.nodup, I.len, fun i o e => ?_, I'.last⟩
  have hi : i < σ.length := (List.getElem?_eq_some_iff.mp e).1
  have e' : σ'[i]? = some o := by rw [← ht, List.getElem?_take_of_lt hi] at e; exact e
  obtain ⟨a, ha, r⟩ := I.objs i o e
  obtain ⟨a', ha', r'⟩ := I'.objs i o e'
  have := pre i a ha
  rw [ha'] at this; cases this
  refine ⟨_, ha, ?_⟩
  cases o with
  | list l => obtain ⟨items, n, h1, h2, h3⟩ := r'; obtain ⟨_, _, _, _, q⟩ := r; exact ⟨items, n, h1, h2, h3.down pre q.noref⟩
  | attrs l => obtain ⟨es, n, h1, h2⟩ := r'; obtain ⟨_, _, _, q⟩ := r; exact ⟨es, n, h1, relAs_down pre h2 (relAs_noref q)⟩
  | inst d =>
    obtain ⟨dx, h1, h2⟩ := r'; obtain ⟨dy, q, _⟩ := r
    have := pre d dy q
    rw [h1] at this; cases this
    exact ⟨_, q, h2⟩
  | dict l => obtain ⟨es, n, h1, h2⟩ := r'; obtain ⟨_, _, _, q⟩ := r; exact ⟨es, n, h1, relDs_down pre h2 (relDs_noref q)⟩
theorem freeze_ok (I : Inv X φ σ h0) (I' : Inv X φ' σ' h') (pre : ∀ (i : Nat) (a : Addr), φ[i]? = some a → φ'[i]? = some a) {x : Value} {v w : Vl} (r : RelV X φ' h' x v) (e : freeze σ.length σ' v = some w) : RelV X φ h' x w := by
  unfold freeze at e
  rw [← I.len] at e
  cases hv : vRef v with
  | none =>
    rw [hv] at e
    exact ifE e fun hn e => by cases e; exact r.down pre hn
  | some i =>
    rw [hv] at e
    rw [vRef_eq hv] at r
    cases r with | ref _ a ha =>
    dsimp only at e
    split at e
    · rename_i hi; cases e
      have := pre i φ[i] (by simp [hi])
      rw [ha] at this; cases this
      exact .ref _ _ (by simp [hi])
    · rename_i hi
      refine bindE e fun l q e => ifE e fun hn e => ?_
      cases e
      obtain ⟨a', ha', items, n, h1, h2, h3⟩ := I'.objs i _ (lstI_eq q)
      rw [ha] at ha'; cases ha'
      refine .lst a items n l h1 (fun m => ?_) h2 (h3.down pre hn)
      obtain ⟨j, hj, ej⟩ := List.getElem_of_mem m
      have h4 := pre j a (by simp [hj, ej])
      obtain ⟨l1, e1⟩ := List.getElem?_eq_some_iff.mp ha
      obtain ⟨l2, e2⟩ := List.getElem?_eq_some_iff.mp h4
      have := (List.getElem_inj I'.nodup).mp (e1.trans e2.symm)
      omega
end
theorem lookup_nodup {β : Type} : ∀ {l : List (Str × β)} {k : Str} {v : β}, (l.map (·.1)).Nodup → (k, v) ∈ l → l.lookup k = some v
  | [], _, _, _, h => by cases h
  | (k', v') :: r, k, v, hn, h => by
    rw [List.map_cons, List.nodup_cons] at hn
    rcases List.mem_cons.mp h with h2 | h2
    · cases h2; simp
    · have : (k == k') = false := by
        rw [beq_eq_false_iff_ne]; intro q
        exact hn.1 (List.mem_map.mpr ⟨_, h2, q⟩)
      rw [List.lookup_cons, this]
      exact lookup_nodup hn.2 h2
theorem nm_get : ∀ (ns : List Str) (i : Nat) (h : i < ns.length), nm ns i = ns[i]
  | _ :: _, 0, _ => rfl
  | _ :: xs, i + 1, h => nm_get xs i (by simpa using h)
theorem locGet_pad : ∀ (us : List Vl) (k i : Nat) {v : Vl}, locGet (us.map some ++ padN k) i = some v → us[i]? = some v
  | [], 0, i, v, h => by cases h
  | [], k + 1, 0, v, h => by cases h
  | [], k + 1, i + 1, v, h => by have := locGet_pad [] k i (v := v) h; simp at this
  | u :: us, k, 0, v, h => by simpa [locGet] using h
  | u :: us, k, i + 1, v, h => by simpa using locGet_pad us k i (v := v) (by simpa [locGet] using h)
theorem pad_len : ∀ k, (padN k).length = k
  | 0 => rfl
  | k + 1 => by simp [padN, pad_len k]
theorem nat4 {a b n : Nat} (h1 : a ≤ n) (h2 : n ≤ a + b) : a + (b - (a + b - n)) = n := by omega
theorem bindA_len {np : Nat} {defs vs us : List Vl} (e : bindA np defs vs = some us) : us.length = np :=
  ifE e fun h e => by
    cases e
    rw [List.length_append, List.length_drop]
    exact nat4 h.1 h.2

/-- a def's body, from its call on -/
theorem body_ok {X : MC} (O : X.Ok) {N d : Nat} (hC : CallOk X (callN X.D N d) d) {f : Fn} {vs : List Vl} {v : Vl} {σ σ' : Sto} (e : callN X.D N (d + 1) f vs σ = some (v, σ')) {A : Around} {s : Shared} {φ : List Addr} {xs : List Value} {R : Result → Shared → Prop}
    (hkeep : ∀ b o, X.base.get? b = some o → s.heap.get? b = some o) (habove : X.base.objs.size ≤ s.heap.objs.size) (hout : s.heap.objs.size ∉ φ)
    (hI : ∀ h₀, (∀ b o, s.heap.get? b = some o → h₀.get? b = some o) → (∃ o, h₀.get? s.heap.objs.size = some o) → Inv X φ σ h₀) (r : RelVs X φ s.heap xs vs) (room : RoomC A (d + 1))
    (fin : ∀ (v0 : Vl) (σ1 : Sto), finish (X.D f).pur σ v0 σ1 = some (v, σ') → ∀ h₀, Inv X φ σ h₀ → ∀ φ' h' (tk' : Nat) (x : Value), Inv X φ' σ1 h' → Ext [] φ φ' s.heap h' → RelV X φ' h' x v0 → R (.ok (.ret x)) { s with heap := h', toks := tk' }) :
    codeAny (model X.prog X.w) A (.call (.ref (X.fa f)) ⟨xs, []⟩) R s := by
  cases O.fn f with | mk oc od osl name qual params scope dV kV doc pm an cdv ct hf hcode hN wf hco hgen hcell hnp hbind =>
  refine bindE (callN_eq.symm.trans e) fun us eb e => thenFE e fun fl ρ1 σ1 e1 e => bindE e fun v0 ev e => ?_
  obtain ⟨ys, hb, rys⟩ := hbind s φ xs vs us hkeep r eb
  have hus := bindA_len eb
  have hys : ys.length = (X.D f).np := by rw [rys.length, hus]
  have hLn : s.heap.get? s.heap.objs.size = none := fresh_size _
  refine codeAny_call_def (by have := room.1; omega) (hkeep _ _ hf) rfl (O.nolimit.keeps hkeep) (hcode.keeps hkeep) rfl hb hcell (fun x hx => ?_) (fun h₀ hns hk => ?_) hco hgen hN.kind
  · obtain ⟨i, hi, e1⟩ := List.getElem_of_mem (List.of_mem_zip hx).1
    rw [List.length_take] at hi
    have hi' : i < (X.D f).names.length := Nat.lt_of_lt_of_le hi (Nat.min_le_right ..)
    rw [List.getElem_take] at e1
    rw [← e1, ← nm_get _ i hi']
    exact hN.loc i hi'
  · have hL : ∃ o, h₀.get? s.heap.objs.size = some o := by obtain ⟨o, es, ep, ho, _⟩ := hns; exact ⟨o, ho⟩
    have I1 := hI h₀ hk hL
    have E1 : Ext [] φ φ s.heap h₀ := .of_keeps hk _
    have F : Fm X φ (X.D f).names (us.map some ++ padN ((X.D f).names.length - (X.D f).np)) s.heap.objs.size h₀ := by
      refine ⟨⟨_, ⟨hns, I1.keep, habove⟩, fun i v' ev => ?_⟩, hout, by rw [List.length_append, List.length_map, pad_len, hus, Nat.add_sub_cancel' hnp]⟩
      have eu := locGet_pad us _ i ev
      obtain ⟨x, ex, rx⟩ := (rys.mono E1.seq).get eu
      refine ⟨x, ?_, rx⟩
      have hi : i < us.length := (List.getElem?_eq_some_iff.mp eu).1
      have hin : i < (X.D f).names.length := Nat.lt_of_lt_of_le hi (hus ▸ hnp)
      have hiy : i < ys.length := by rw [hys, ← hus]; exact hi
      rw [nm_get _ i hin]
      have hyx : ys[i] = x := (List.getElem?_eq_some_iff.mp ex).2
      have hz : ((X.D f).names.take (X.D f).np).length = ys.length := by rw [List.length_take, hys, Nat.min_eq_left hnp]
      refine lookup_nodup ?_ (List.mem_reverse.mpr ?_)
      · rw [List.map_reverse, (List.reverse_perm _).nodup_iff]
        rw [← List.unzip_fst, List.unzip_zip hz]
        refine List.Nodup.sublist (List.take_sublist _ _) ?_
        unfold List.Nodup
        rw [List.pairwise_iff_getElem]
        intro i j hi' hj hij q
        have := hN.inj i j hi' hj (by rw [nm_get _ i hi', nm_get _ j hj]; exact q)
        rw [this] at hij
        exact Nat.lt_irrefl _ hij
      · refine List.mem_iff_getElem.mpr ⟨i, by rw [List.length_zip, hz, Nat.min_self]; exact hiy, ?_⟩
        rw [List.getElem_zip, List.getElem_take, hyx]
    have room' : Room (A.deeper (envOf qual scope s.heap.objs.size (X.fa f) cdv)) d := ⟨by have := room.1; show A.depth + 1 + 2 * d + 1 < recursionLimit; omega, by have := room.2.1; show A.units + 3 + 20 * d + 210 < cLine; omega, room.2.2⟩
    refine exSs_ok O hC hN _ _ _ _ _ _ e1 wf _ { s with heap := h₀, toks := _ } φ s.heap.objs.size (X.fa f) qual cdv _ _ room' I1 F fun φ' h' tk' fl' I' E' F' r' => ?_
    have E2 : Ext [] φ φ' s.heap h' := (E1.to.trans E').drop hLn
    cases r' with
    | ret r' => cases ev; exact fin _ σ1 e h₀ I1 φ' h' tk' _ I' E2 r'
    | next => cases ev; exact fin _ σ1 e h₀ I1 φ' h' tk' _ I' E2 .none
    | brk => cases ev
theorem callN_ok {X : MC} (O : X.Ok) (N : Nat) : ∀ d, CallOk X (callN X.D N d) d
  | 0 => fun f vs σ v σ' e => nomatch e
  | d + 1 => fun f vs σ v σ' e A s φ xs R I r room k => by
    have hfr := fresh_size s.heap
    refine body_ok O (callN_ok O N d) e I.keep ?_ (fun q => by obtain ⟨o', e'⟩ := I.mem_stored q; rw [hfr] at e'; cases e') (fun h₀ hk _ => I.mono hk) r room fun v0 σ1 ef h₀ I1 φ' h' tk' x I' E2 r' => ?_
    · obtain ⟨b, o, e1, e2⟩ := I.last
      exact Nat.le_of_lt (Nat.lt_of_le_of_lt e1 (Heap.lt_size e2))
    · cases hp : (X.D f).pur with
      | true =>
        rw [hp] at ef
        refine ifE ef fun ht ef => mapE ef fun w ew ef => ?_
        cases ef
        exact k φ h' tk' x (I.down I' E2.pre ht) ⟨fun _ _ e => e, fun _ q => .inl q, fun a o e hp hz => E2.keep a o e hp hz, E2.dom⟩ (freeze_ok I I' E2.pre r' ew)
      | false =>
        rw [hp] at ef
        cases ef
        exact k φ' h' tk' x I' E2 r'
/-- the law's own call, from the state behind the top -/
theorem law_entry {X : MC} (O : X.Ok) (N d : Nat) {f : Fn} (hp : (X.D f).pur = false) {vs : List Vl} {v : Vl} {σ' : Sto} (e : callN X.D N (d + 1) f vs [] = some (v, σ')) {A : Around} {s : Shared} {xs : List Value} {R : Result → Shared → Prop} (hs : s.heap = X.base)
    (r : RelVs X [] s.heap xs vs) (room : RoomC A (d + 1)) (k : ∀ φ' h' tk' x, Ext [] [] φ' s.heap h' → RelV X φ' h' x v → R (.ok (.ret x)) { s with heap := h', toks := tk' }) : codeAny (model X.prog X.w) A (.call (.ref (X.fa f)) ⟨xs, []⟩) R s := by
  have hkeep : ∀ b o, X.base.get? b = some o → s.heap.get? b = some o := fun b o e => by rw [hs]; exact e
  refine body_ok O (callN_ok O N d) e hkeep (by rw [hs]; exact Nat.le_refl _) (by simp) (fun h₀ hk hL => ?_) r room fun v0 σ1 ef h₀ I1 φ' h' tk' x I' E2 r' => ?_
  · obtain ⟨o, ho⟩ := hL
    exact ⟨fun b o e => hk _ _ (hkeep b o e), fun a ha => (by cases ha), .nil, rfl, fun i o e => by simp at e, _, o, by rw [hs]; exact Nat.le_refl _, ho⟩
  · rw [hp] at ef
    cases ef
    exact k φ' h' tk' x E2 r'
end

section
/-! ## Steps of the small interpreter -/
section
variable {C : CallT} {N : Nat} {ρ ρ1 ρ2 : Loc} {σ σ1 σ2 σ3 : Sto} {p pf pa ps pi px : Pos} {e l r t a b o i c : Ex} {es : Exs} {v w x y z : Vl} {fl : Fl} {ss : Sts} {n : Nat} {q : Option (Vl × Sto)} {Q : Option (Fl × Loc × Sto)}
theorem tv {α : Type} {o : Option (Vl × Sto)} {f : Vl → Sto → Option α} {r : Option α} (h : o = some (x, σ)) (k : f x σ = r) : thenV o f = r := by subst h; exact k
theorem tl {α : Type} {o : Option (List Vl × Sto)} {f : List Vl → Sto → Option α} {r : Option α} {xs : List Vl} (h : o = some (xs, σ)) (k : f xs σ = r) : thenL o f = r := by subst h; exact k
theorem tf {α : Type} {o : Option (Fl × Loc × Sto)} {f : Fl → Loc → Sto → Option α} {r : Option α} (h : o = some (fl, ρ, σ)) (k : f fl ρ σ = r) : thenF o f = r := by subst h; exact k
theorem bs {α β : Type} {o : Option α} {f : α → Option β} {r : Option β} {a : α} (h : o = some a) (k : f a = r) : o.bind f = r := by subst h; exact k
theorem mp {α β : Type} {o : Option α} {f : α → β} {a : α} (h : o = some a) : o.map f = some (f a) := by subst h; rfl
theorem ev_none : evE C (.none p) ρ σ = some (.none, σ) := rfl
theorem ev_bool {b : Bool} : evE C (.bool b p) ρ σ = some (.bool b, σ) := rfl
theorem ev_int {i : Int} : evE C (.int i p) ρ σ = some (.int i, σ) := rfl
theorem ev_str {s : Str} {l : List Nat} : evE C (.str s l p) ρ σ = some (.str l, σ) := rfl
theorem ev_fn {f : Fn} : evE C (.fn f p) ρ σ = some (.fn f, σ) := rfl
theorem ev_loc {i : Nat} (h : locGet ρ i = some v) : evE C (.loc i p) ρ σ = some (v, σ) := mp (f := fun v => (v, σ)) h
theorem ev_bin {op : Bop} (h1 : evE C l ρ σ = some (x, σ1)) (h2 : evE C r ρ σ1 = some (y, σ2)) (h3 : binV σ2 op x y = some v) : evE C (.bin op l r p) ρ σ = some (v, σ2) := tv h1 (tv h2 (mp h3))
theorem ev_neg {i : Int} (h1 : evE C e ρ σ = some (.int i, σ1)) : evE C (.neg e p) ρ σ = some (.int (-i), σ1) := tv h1 rfl
theorem ev_not {b : Bool} (h1 : evE C e ρ σ = some (x, σ1)) (h2 : truthV σ1 x = some b) : evE C (.not e p) ρ σ = some (.bool (!b), σ1) := tv h1 (mp h2)
theorem ev_cmp {op : Cop} {b : Bool} (h1 : evE C l ρ σ = some (x, σ1)) (h2 : evE C r ρ σ1 = some (y, σ2)) (h3 : cmpV σ2 op x y = some b) : evE C (.cmp op l r p) ρ σ = some (.bool b, σ2) := tv h1 (tv h2 (mp h3))
theorem ev_cmp2 {o1 o2 : Cop} {u u' : Bool} (h1 : evE C a ρ σ = some (x, σ)) (h2 : evE C b ρ σ = some (y, σ)) (h3 : cmpV σ o1 x y = some u) (h4 : evE C c ρ σ = some (z, σ)) (h5 : cmpV σ o2 y z = some u') :
    evE C (.cmp2 o1 o2 a b c p) ρ σ = some (.bool (u && u'), σ) := tv h1 (tv h2 (bs h3 (by
  cases u with
  | true => exact pick_t.trans (tv h4 (mp h5))
  | false => rfl)))
theorem ev_bop {isAnd : Bool} (h : evB C isAnd es ρ σ = q) : evE C (.bop isAnd es p) ρ σ = q := h
theorem bo_one {isAnd : Bool} (h : evE C e ρ σ = some (v, σ1)) : evB C isAnd (.cons e .nil) ρ σ = some (v, σ1) := tv h rfl
theorem bo_and {u : Bool} (h1 : evE C e ρ σ = some (v, σ1)) (h2 : truthV σ1 v = some u) (h3 : cond u (evB C true (.cons o es) ρ σ1) (some (v, σ1)) = q) : evB C true (.cons e (.cons o es)) ρ σ = q := tv h1 (bs h2 (by
  subst h3; cases u <;> rfl))
theorem bo_or {u : Bool} (h1 : evE C e ρ σ = some (v, σ1)) (h2 : truthV σ1 v = some u) (h3 : cond u (some (v, σ1)) (evB C false (.cons o es) ρ σ1) = q) : evB C false (.cons e (.cons o es)) ρ σ = q := tv h1 (bs h2 (by
  subst h3; cases u <;> rfl))
theorem ct {α : Type} {u : Bool} {X Y R : α} (hb : u = true) (h : X = R) : cond u X Y = R := by subst hb; exact h
theorem cf {α : Type} {u : Bool} {X Y R : α} (hb : u = false) (h : Y = R) : cond u X Y = R := by subst hb; exact h
theorem ca_strict {u u' : Bool} {X : Option (Vl × Sto)} (h : X = some (.bool u', σ)) : cond u X (some (.bool u, σ)) = some (.bool (u && u'), σ) := by subst h; cases u <;> rfl
theorem co_strict {u u' : Bool} {X : Option (Vl × Sto)} (h : X = some (.bool u', σ)) : cond u (some (.bool u, σ)) X = some (.bool (u || u'), σ) := by subst h; cases u <;> rfl
theorem ev_ite {u : Bool} (h1 : evE C t ρ σ = some (x, σ1)) (h2 : truthV σ1 x = some u) (h3 : cond u (evE C b ρ σ1) (evE C o ρ σ1) = q) : evE C (.ite t b o p) ρ σ = q := tv h1 (bs h2 (by
  subst h3; cases u <;> rfl))
theorem ev_idx (h1 : evE C o ρ σ = some (x, σ1)) (h2 : evE C i ρ σ1 = some (y, σ2)) (h3 : idxV σ2 x y = some v) : evE C (.idx o i p) ρ σ = some (v, σ2) := tv h1 (tv h2 (mp h3))
theorem ev_slc {A B : Int} (h1 : evE C o ρ σ = some (x, σ1)) (h2 : evE C l ρ σ1 = some (.int A, σ2)) (h3 : evE C r ρ σ2 = some (.int B, σ3)) (h4 : slcV σ3 x A B = some v) : evE C (.slc o l r ps p) ρ σ = some (v, σ3) := tv h1 (tv h2 (bs rfl (tv h3 (bs rfl (mp h4)))))
theorem ev_slcU {B : Int} (h1 : evE C o ρ σ = some (x, σ1)) (h3 : evE C r ρ σ1 = some (.int B, σ2)) (h4 : slcV σ2 x 0 B = some v) : evE C (.slcU o r ps p) ρ σ = some (v, σ2) := tv h1 (tv h3 (mp h4))
theorem es_nil : evEs C .nil ρ σ = some ([], σ) := rfl
theorem es_cons {vs : List Vl} (h1 : evE C e ρ σ = some (v, σ1)) (h2 : evEs C es ρ σ1 = some (vs, σ2)) : evEs C (.cons e es) ρ σ = some (v :: vs, σ2) := tv h1 (tl h2 rfl)
theorem ev_tup {vs : List Vl} (h : evEs C es ρ σ = some (vs, σ1)) (hn : vs.length ≤ 100) : evE C (.tup es p) ρ σ = some (.tup vs, σ1) := tl h (if_pos hn)
theorem ev_list {vs : List Vl} (h : evEs C es ρ σ = some (vs, σ1)) (hn : vs.length ≤ 100) : evE C (.list es p) ρ σ = some (.ref σ1.length, σ1 ++ [.list vs]) := tl h (if_pos hn)
theorem ev_call {f : Fn} {vs : List Vl} (h : evEs C es ρ σ = some (vs, σ1)) (hc : C f vs σ1 = q) : evE C (.call f pf es p) ρ σ = q := tl h hc
theorem ev_bi {b : Bi} {vs : List Vl} (h : evEs C es ρ σ = some (vs, σ1)) (hv : biV σ1 b vs = some v) : evE C (.bi b pf es p) ρ σ = some (v, σ1) := tl h (mp hv)
theorem ev_methV {m : Mt} {vs : List Vl} (h : evE C o ρ σ = some (x, σ1)) (hf : methF m = none) (hk : methK σ1 m x = true) (h2 : evEs C es ρ σ1 = some (vs, σ2)) (hv : methV σ2 m x vs = q) : evE C (.meth o m pa es p) ρ σ = q := tv h (by
  rw [hf, hk]; exact pick_t.trans (tl h2 hv))
theorem st_assign {i : Nat} (h : evE C e ρ σ = some (v, σ1)) : exS C N (.assign i pi e p) ρ σ = some (.next, locSet ρ i v, σ1) := xS_assign.trans (tv h rfl)
theorem st_assignT {is : List (Nat × Pos)} {vs : List Vl} (h : evE C e ρ σ = some (.tup vs, σ1)) (hl : vs.length = is.length) : exS C N (.assignT is pi e p) ρ σ = some (.next, locSets is vs ρ, σ1) := xS_assignT.trans (tv h (if_pos hl))
theorem st_assignD {i j : Nat} {pj pt pe : Pos} (h1 : evE C a ρ σ = some (x, σ1)) (h2 : evE C b ρ σ1 = some (y, σ2)) (hn : i ≠ j) : exS C N (.assignD i pi j pj pt a b pe p) ρ σ = some (.next, locSet (locSet ρ i x) j y, σ2) := xS_assignD.trans (tv h1 (tv h2 (if_pos hn)))
theorem st_aug {i : Nat} {op : Bop} (hl : locGet ρ i = some x) (h : evE C e ρ σ = some (y, σ1)) (hv : augV op x y = some v) : exS C N (.aug i pi op e p) ρ σ = some (.next, locSet ρ i v, σ1) := xS_aug.trans (bs hl (tv h (mp hv)))
theorem st_ite {u : Bool} {A B : Sts} (h1 : evE C t ρ σ = some (x, σ1)) (h2 : truthV σ1 x = some u) (h3 : cond u (exSs C N A ρ σ1) (exSs C N B ρ σ1) = Q) : exS C N (.ite t A B p) ρ σ = Q := xS_ite.trans (tv h1 (bs h2 (by
  subst h3; cases u <;> rfl)))
theorem st_while {B : Sts} (h : whileN (test C t) (exSs C N B) N ρ σ = Q) : exS C N (.while t B p) ρ σ = Q := h
theorem st_for {i : Nat} {B : Sts} {vs : List Vl} (h : evE C e ρ σ = some (v, σ1)) (hi : iterOf v = some vs) (k : forL (exSs C N B) i vs ρ σ1 = Q) : exS C N (.for i pi e B p) ρ σ = Q := xS_for.trans (tv h (bs hi k))
theorem st_forR {i : Nat} {B : Sts} {k : Int} {pc : Pos} (h : evE C e ρ σ = some (.int k, σ1)) (hk : 0 ≤ k ∧ k < big) (g : forL (exSs C N B) i (rangeVs k.toNat) ρ σ1 = Q) : exS C N (.forR i pi pf e pc B p) ρ σ = Q := xS_forR.trans (tv h ((if_pos hk).trans g))
theorem st_ret (h : evE C e ρ σ = some (v, σ1)) : exS C N (.ret e p) ρ σ = some (.ret v, ρ, σ1) := xS_ret.trans (tv h rfl)
theorem st_ret0 : exS C N (.ret0 p) ρ σ = some (.ret .none, ρ, σ) := rfl
theorem st_expr (h : evE C e ρ σ = some (.none, σ1)) : exS C N (.expr e p) ρ σ = some (.next, ρ, σ1) := xS_expr.trans (tv h rfl)
theorem st_brk : exS C N (.brk p) ρ σ = some (.brk, ρ, σ) := rfl
theorem ss_nil : exSs C N .nil ρ σ = some (.next, ρ, σ) := rfl
theorem ss_cons {s : St} (h : exS C N s ρ σ = some (fl, ρ1, σ1)) (k : seqF fl (exSs C N ss ρ1 σ1) ρ1 σ1 = Q) : exSs C N (.cons s ss) ρ σ = Q := xSs_cons.trans (tf h k)
theorem sq_next {X : Option (Fl × Loc × Sto)} (k : X = Q) : seqF .next X ρ σ = Q := k
theorem sq_ret {X : Option (Fl × Loc × Sto)} : seqF (.ret v) X ρ σ = some (.ret v, ρ, σ) := rfl
theorem sq_retB {X : Option (Fl × Loc × Sto)} {u u' : Bool} (h : u = u') : seqF (.ret (.bool u)) X ρ σ = some (.ret (.bool u'), ρ, σ) := by rw [h]; rfl
theorem sq_brk {X : Option (Fl × Loc × Sto)} : seqF .brk X ρ σ = some (.brk, ρ, σ) := rfl
theorem test_of {u : Bool} (h : evE C t ρ σ = some (x, σ1)) (hv : truthV σ1 x = some u) : test C t ρ σ = some (u, σ1) := tv h (mp hv)
theorem natI_nat (n : Nat) : natI (.int (n : Int)) = some n := by
  show (if (0 : Int) ≤ (n : Int) then some (n : Int).toNat else none) = _
  rw [if_pos (Int.natCast_nonneg n), Int.toNat_natCast]
theorem idxS {s : List Nat} {n c : Nat} (h : s[n]? = some c) : idxV σ (.str s) (.int (n : Int)) = some (.str [c]) := by
  show (natI (.int (n : Int))).bind (fun m => (s[m]?).map fun c => Vl.str [c]) = _
  rw [natI_nat]; exact mp h
theorem idxL {s : List Vl} {n : Nat} (h : s[n]? = some v) : idxV σ (.lst s) (.int (n : Int)) = some v := by
  show (natI (.int (n : Int))).bind (fun m => s[m]?) = _
  rw [natI_nat]; exact h
theorem idxR {s : List Vl} {r n : Nat} (hr : σ[r]? = some (.list s)) (h : s[n]? = some v) : idxV σ (.ref r) (.int (n : Int)) = some v := by
  show (σ[r]?).bind _ = _
  rw [hr]
  exact idxL (σ := σ) h
theorem sto_at {σ : Sto} {o : Ob} : (σ ++ [o])[σ.length]? = some o := by simp
theorem sto_set {σ : Sto} {o o' : Ob} : (σ ++ [o]).set σ.length o' = σ ++ [o'] := by simp
theorem lstI_end {σ : Sto} {l : List Vl} : lstI (σ ++ [.list l]) σ.length = some l := bs sto_at rfl
theorem mt_append {i : Nat} {l : List Vl} (hl : lstI σ i = some l) (h : l.length < line) : methV σ .append (.ref i) [v] = some (.none, σ.set i (.list (l ++ [v]))) := by
  show (lstI σ i).bind (fun l => if l.length < line then some (Vl.none, σ.set i (.list (l ++ [v]))) else none) = _
  rw [hl]; exact if_pos h
theorem mt_extend {i : Nat} {l k : List Vl} (hl : lstI σ i = some l) (hk : lstOf σ v = some k) (h : l.length + k.length < line) : methV σ .extend (.ref i) [v] = some (.none, σ.set i (.list (l ++ k))) := by
  show (lstI σ i).bind (fun l => (lstOf σ v).bind fun k => if l.length + k.length < line then some (Vl.none, σ.set i (.list (l ++ k))) else none) = _
  rw [hl, hk]; exact if_pos h
theorem mt_join {s : List Nat} {l : List Vl} {ss : List (List Nat)} (hl : lstOf σ v = some l) (hk : strsOf l = some ss) (h : (ss.map List.length).sum + ss.length * s.length ≤ line) : methV σ .join (.str s) [v] = some (.str (joinL s ss), σ) := by
  show (lstOf σ v).bind (fun l => (strsOf l).bind fun ss => if (ss.map List.length).sum + ss.length * s.length ≤ line then some (Vl.str (joinL s ss), σ) else none) = _
  rw [hl]
  show (strsOf l).bind _ = _
  rw [hk]; exact if_pos h
theorem tr_bool {u : Bool} : truthV σ (.bool u) = some u := rfl
theorem tr_is {u u' : Bool} (h : u = u') : truthV σ (.bool u) = some u' := by rw [h]; rfl
theorem tr_lst {l : List Vl} : truthV σ (.lst l) = some (!l.isEmpty) := rfl
theorem b_addI {A B : Int} : binV σ .add (.int A) (.int B) = some (.int (A + B)) := rfl
theorem b_subI {A B : Int} : binV σ .sub (.int A) (.int B) = some (.int (A - B)) := rfl
theorem b_addS {A B : List Nat} (h : A.length + B.length ≤ line) : binV σ .add (.str A) (.str B) = some (.str (A ++ B)) := if_pos h
theorem b_mod {A B : Int} (h : 0 < B ∧ B < big) : binV σ .mod (.int A) (.int B) = some (.int (A % B)) := if_pos h
theorem b_fdiv {A B : Int} (h : 0 < B ∧ B < big) : binV σ .fdiv (.int A) (.int B) = some (.int (A / B)) := if_pos h
theorem b_mul {A B : Int} (h : A.natAbs < big ∧ B.natAbs < big) : binV σ .mul (.int A) (.int B) = some (.int (A * B)) := if_pos h
theorem c_eqI {A B : Int} : cmpV σ .eq (.int A) (.int B) = some (A == B) := rfl
theorem c_neI {A B : Int} : cmpV σ .ne (.int A) (.int B) = some (A != B) := rfl
theorem c_ltI {A B : Int} : cmpV σ .lt (.int A) (.int B) = some (decide (A < B)) := rfl
theorem c_leI {A B : Int} : cmpV σ .le (.int A) (.int B) = some (decide (A ≤ B)) := rfl
theorem c_gtI {A B : Int} : cmpV σ .gt (.int A) (.int B) = some (decide (B < A)) := rfl
theorem c_geI {A B : Int} : cmpV σ .ge (.int A) (.int B) = some (decide (B ≤ A)) := rfl
theorem c_eqS {A B : List Nat} : cmpV σ .eq (.str A) (.str B) = some (A == B) := rfl
theorem c_neS {A B : List Nat} : cmpV σ .ne (.str A) (.str B) = some (A != B) := rfl
theorem c_inT {A : List Nat} {l : List Vl} {u : Bool} (h : inStrs A l = some u) : cmpV σ .isin (.str A) (.tup l) = some u := h
theorem c_niT {A : List Nat} {l : List Vl} {u : Bool} (h : inStrs A l = some u) : cmpV σ .notin (.str A) (.tup l) = some (!u) := by show (inStrs A l).map _ = _; rw [h]; rfl
theorem c_inS {c : Nat} {l : List Nat} : cmpV σ .isin (.str [c]) (.str l) = some (l.contains c) := rfl
theorem c_niS {c : Nat} {l : List Nat} : cmpV σ .notin (.str [c]) (.str l) = some (!l.contains c) := rfl
theorem a_addI {A B : Int} : augV .add (.int A) (.int B) = some (.int (A + B)) := rfl
theorem a_subI {A B : Int} : augV .sub (.int A) (.int B) = some (.int (A - B)) := rfl
theorem a_addS {A B : List Nat} (h : A.length + B.length ≤ line) : augV .add (.str A) (.str B) = some (.str (A ++ B)) := if_pos h
theorem bi_lenS {s : List Nat} : biV σ .len [.str s] = some (.int s.length) := rfl
theorem bi_lenL {s : List Vl} : biV σ .len [.lst s] = some (.int s.length) := rfl
theorem bi_ord {c : Nat} : biV σ .ord [.str [c]] = some (.int c) := rfl
theorem bi_chr {A : Int} (h : 0 ≤ A ∧ A < 1114112) : biV σ .chr [.int A] = some (.str [A.toNat]) := if_pos h
theorem bi_tup {l : List Vl} (h : lstOf σ v = some l) : biV σ .tuple [v] = some (.tup l) := mp h
theorem one_beq {a c : Nat} : (([a] : List Nat) == [c]) = (c == a) := by
  rw [Bool.eq_iff_iff, beq_iff_eq, beq_iff_eq]
  exact ⟨fun h => (List.cons.inj h).1.symm, fun h => by rw [h]⟩
theorem inStrs_map (c : Nat) : ∀ l : List Nat, inStrs [c] (l.map fun x => Vl.str [x]) = some (l.contains c)
  | [] => rfl
  | a :: l => by
    show (inStrs [c] (l.map fun x => Vl.str [x])).map (fun x => ([a] == [c]) || x) = _
    rw [inStrs_map c l, List.contains_cons, ← one_beq]; rfl
theorem inStrs_nil : ∀ l : List Nat, inStrs [] (l.map fun x => Vl.str [x]) = some false
  | [] => rfl
  | a :: l => by
    show (inStrs [] (l.map fun x => Vl.str [x])).map (fun x => ([a] == []) || x) = _
    rw [inStrs_nil l]; rfl
theorem beq1_ne {a b : Nat} (h : a ≠ b) : (([a] : List Nat) == [b]) = false := by simp [h]
theorem beq1_ne' {a b : Nat} (h : b ≠ a) : (([a] : List Nat) == [b]) = false := by simp [Ne.symm h]
theorem not_t {u : Bool} (h : u = false) : (!u) = true := by rw [h]; rfl
theorem not_f {u : Bool} (h : u = true) : (!u) = false := by rw [h]; rfl
/-- a while's turn -/
theorem wh_turn {T : Loc → Sto → Option (Bool × Sto)} {B : Loc → Sto → Option (Fl × Loc × Sto)} (h1 : T ρ σ = some (true, σ1)) (h2 : B ρ σ1 = some (fl, ρ2, σ2)) (h3 : aftF fl (whileN T B n ρ2 σ2) ρ2 σ2 = Q) : whileN T B (n + 1) ρ σ = Q := bs h1 (pick_t.trans (tf h2 h3))
theorem wh_end {T : Loc → Sto → Option (Bool × Sto)} {B : Loc → Sto → Option (Fl × Loc × Sto)} (h1 : T ρ σ = some (false, σ1)) : whileN T B (n + 1) ρ σ = some (.next, ρ, σ1) := bs h1 rfl
theorem fo_turn {B : Loc → Sto → Option (Fl × Loc × Sto)} {i : Nat} {vs : List Vl} (h2 : B (locSet ρ i v) σ = some (fl, ρ2, σ2)) (h3 : aftF fl (forL B i vs ρ2 σ2) ρ2 σ2 = Q) : forL B i (v :: vs) ρ σ = Q := tf h2 h3
end

/-! ## Calls -/
/-- a call that gives v and leaves the store as it was -/
noncomputable def Yields (N k : Nat) (f : Fn) (vs : List Vl) (v : Vl) : Prop := ∀ d, k ≤ d → ∀ σ, callN D N d f vs σ = some (v, σ)
theorem Yields.at {N k : Nat} {f : Fn} {vs : List Vl} {v : Vl} (h : Yields N k f vs v) {d : Nat} (hd : k ≤ d) (σ : Sto) : callN D N d f vs σ = some (v, σ) := h d hd σ
noncomputable def outR (X : Option (Fl × Loc × Sto)) : Option (Vl × Sto) := thenF X fun fl _ σ => (outV fl).map fun v => (v, σ)
theorem out_ret {X : Option (Fl × Loc × Sto)} {v : Vl} {ρ : Loc} {σ : Sto} (h : X = some (.ret v, ρ, σ)) : outR X = some (v, σ) := by subst h; rfl
theorem out_next {X : Option (Fl × Loc × Sto)} {ρ : Loc} {σ : Sto} (h : X = some (.next, ρ, σ)) : outR X = some (.none, σ) := by subst h; rfl
noncomputable def startL (f : Fn) (us : List Vl) : Loc := us.map some ++ padN ((D f).names.length - (D f).np)
theorem callN_succ {N d : Nat} {f : Fn} {vs us : List Vl} {σ σ' : Sto} {v : Vl} (hb : bindA (D f).np (D f).defs vs = some us)
    (h : outR (exSs (callN D N d) N (D f).body (startL f us) σ) = some (v, σ')) : callN D N (d + 1) f vs σ = finish (D f).pur σ v σ' :=
  callN_eq.trans (bs hb (thenFE h fun fl ρ σ1 e h => mapE h fun v' e2 h => by
    cases h
    exact tf e (bs e2 rfl)))
mutual
theorem noref_mono {n : Nat} : ∀ {v : Vl}, noref 0 v = true → noref n v = true
  | .tup l, h => by simp only [noref] at *; exact norefs_mono h
  | .lst l, h => by simp only [noref] at *; exact norefs_mono h
  | .ref i, h => by simp [noref] at h
  | .none, _ => rfl
  | .bool _, _ => rfl
  | .int _, _ => rfl
  | .str _, _ => rfl
  | .fn _, _ => rfl
  | .cls _, _ => rfl
theorem norefs_mono {n : Nat} : ∀ {v : List Vl}, norefs 0 v = true → norefs n v = true
  | [], _ => rfl
  | v :: r, h => by simp only [norefs, Bool.and_eq_true] at *; exact ⟨noref_mono h.1, norefs_mono h.2⟩
end
theorem freeze_none {n : Nat} {σ : Sto} {v : Vl} (hv : vRef v = none) : freeze n σ v = if noref n v = true then some v else none := by
  unfold freeze; rw [hv]
theorem freeze_plain {n : Nat} {σ : Sto} {v : Vl} (h : noref 0 v = true) : freeze n σ v = some v := by
  cases v <;> first | (simp [noref] at h; done) | exact (freeze_none rfl).trans (if_pos (noref_mono h))
theorem freeze_list {σ T : Sto} {l : List Vl} (h : norefs 0 l = true) : freeze σ.length (σ ++ .list l :: T) (.ref σ.length) = some (.lst l) := by
  have h2 : lstI (σ ++ .list l :: T) σ.length = some l := by simp [lstI, obL]
  exact (if_neg (Nat.lt_irrefl _)).trans (bs h2 (if_pos (norefs_mono h)))
theorem fin_pur {σ T : Sto} {v w : Vl} {f : Fn} (hp : (D f).pur = true) (h : freeze σ.length (σ ++ T) v = some w) : finish (D f).pur σ v (σ ++ T) = some (w, σ) := by
  rw [hp]
  exact (if_pos List.take_left).trans (mp (f := fun v => (v, σ)) h)
theorem yields_pureT {N k : Nat} {f : Fn} {vs us : List Vl} {v : Vl} (T : Sto) (hb : bindA (D f).np (D f).defs vs = some us) (hp : (D f).pur = true) (hf : noref 0 v = true)
    (h : ∀ d σ, k ≤ d → outR (exSs (callN D N d) N (D f).body (startL f us) σ) = some (v, σ ++ T)) : Yields N (k + 1) f vs v := by
  intro d hd σ
  obtain ⟨d, rfl⟩ : ∃ e, d = e + 1 := ⟨d - 1, by omega⟩
  exact (callN_succ hb (h d σ (by omega))).trans (fin_pur hp (freeze_plain hf))
theorem yields_pure {N k : Nat} {f : Fn} {vs us : List Vl} {v : Vl} (hb : bindA (D f).np (D f).defs vs = some us) (hp : (D f).pur = true) (hf : noref 0 v = true)
    (h : ∀ d σ, k ≤ d → outR (exSs (callN D N d) N (D f).body (startL f us) σ) = some (v, σ)) : Yields N (k + 1) f vs v :=
  yields_pureT [] hb hp hf fun d σ hd => by rw [List.append_nil]; exact h d σ hd
theorem yields_list {N k : Nat} {f : Fn} {vs us : List Vl} {l : List Vl} (T : Sto) (hb : bindA (D f).np (D f).defs vs = some us) (hp : (D f).pur = true) (hf : norefs 0 l = true)
    (h : ∀ d σ, k ≤ d → outR (exSs (callN D N d) N (D f).body (startL f us) σ) = some (.ref σ.length, σ ++ .list l :: T)) : Yields N (k + 1) f vs (.lst l) := by
  intro d hd σ
  obtain ⟨d, rfl⟩ : ∃ e, d = e + 1 := ⟨d - 1, by omega⟩
  exact (callN_succ hb (h d σ (by omega))).trans (fin_pur hp (freeze_list hf))

noncomputable abbrev LP (N d : Nat) (t : Ex) (w : Sts) (n : Nat) (ρ : Loc) (σ : Sto) := whileN (test (callN D N d) t) (exSs (callN D N d) N w) n ρ σ
noncomputable abbrev FL (N d : Nat) (w : Sts) (i : Nat) (vs : List Vl) (ρ : Loc) (σ : Sto) := forL (exSs (callN D N d) N w) i vs ρ σ
/-! ## Places in a text -/
/-- at the place a the text goes on with s -/
noncomputable def Suf (t : List Nat) (a : Nat) (s : List Nat) : Prop := t.drop a = s ∧ a ≤ t.length ∧ t.length ≤ line
section
variable {t s r : List Nat} {a c : Nat} {σ : Sto}
theorem Suf.len (h : Suf t a s) : a + s.length = t.length := by rw [← h.1, List.length_drop]; have := h.2.1; omega
theorem Suf.step (h : Suf t a (c :: r)) : Suf t (a + 1) r := by
  refine ⟨?_, ?_, h.2.2⟩
  · rw [← List.drop_drop, h.1]; rfl
  · have := h.len; simp at this; omega
theorem Suf.skip {w : List Nat} (h : Suf t a (w ++ r)) : Suf t (a + w.length) r := by
  refine ⟨?_, ?_, h.2.2⟩
  · rw [← List.drop_drop, h.1, List.drop_left]
  · have := h.len; simp at this; omega
theorem Suf.lt (h : Suf t a (c :: r)) : decide ((a : Int) < (t.length : Int)) = true := by
  have := h.len; simp at this; exact decide_eq_true (by omega)
theorem Suf.end (h : Suf t a []) : decide ((a : Int) < (t.length : Int)) = false := by
  have := h.len; simp at this; exact decide_eq_false (by omega)
theorem Suf.ge (h : Suf t a (c :: r)) : decide ((t.length : Int) ≤ (a : Int)) = false := by
  have := h.len; simp at this; exact decide_eq_false (by omega)
theorem Suf.ged (h : Suf t a []) : decide ((t.length : Int) ≤ (a : Int)) = true := by
  have := h.len; simp at this; exact decide_eq_true (by omega)
theorem Suf.idx (h : Suf t a (c :: r)) : idxV σ (.str t) (.int (a : Int)) = some (.str [c]) := by
  have e : t[a]? = some c := by
    have := congrArg (fun l => l[0]?) h.1
    simpa using this
  exact idxS e
theorem Suf.cut (h : Suf t a s) (k : Nat) (hk : k ≤ 100) : slcV σ (.str t) (a : Int) ((a : Int) + (k : Int)) = some (.str (s.take k)) := by
  have h1 := h.2.1; have h2 := h.2.2
  have hl : line = 16777216 := rfl
  have hb : big = 1099511627776 := rfl
  have e : ((a : Int) + (k : Int)).toNat - a = k := by omega
  unfold slcV
  rw [if_pos (by omega)]
  simp only [slcW, Int.toNat_natCast, e, h.1]
theorem Suf.cut1 (h : Suf t a s) : slcV σ (.str t) (a : Int) ((a : Int) + 1) = some (.str (s.take 1)) := h.cut 1 (by omega)
theorem Suf.cut2 (h : Suf t a s) : slcV σ (.str t) (a : Int) ((a : Int) + 2) = some (.str (s.take 2)) := h.cut 2 (by omega)
theorem Suf.cut3 (h : Suf t a s) : slcV σ (.str t) (a : Int) ((a : Int) + 3) = some (.str (s.take 3)) := h.cut 3 (by omega)
theorem Suf.c1 (h : Suf t a (c :: r)) : slcV σ (.str t) (a : Int) ((a : Int) + 1) = some (.str [c]) := h.cut 1 (by omega)
theorem Suf.c1n (h : Suf t a []) : slcV σ (.str t) (a : Int) ((a : Int) + 1) = some (.str []) := h.cut 1 (by omega)
theorem Suf.le (h : Suf t a s) : s.length ≤ line := by have h1 := h.len; have h2 := h.2.2; omega
theorem Suf.cutTo {w : List Nat} (h : Suf t a (w ++ r)) : slcV σ (.str t) (a : Int) ((a + w.length : Nat) : Int) = some (.str w) := by
  have h1 := h.len; have h2 := h.2.2; have h3 := h.1
  have hl : line = 16777216 := rfl
  have hb : big = 1099511627776 := rfl
  simp at h1
  unfold slcV
  rw [if_pos (by omega)]
  have e : a + w.length - a = w.length := by omega
  simp only [slcW, Int.toNat_natCast, e, h3, List.take_left]
end
end

local macro_rules | `(tactic| walk_at "dec2") => `(tactic| first | exact beq1_ne (by with_reducible assumption) | exact beq1_ne' (by with_reducible assumption) | exact not_t (by with_reducible assumption) | exact not_f (by with_reducible assumption))
local macro_rules | `(tactic| walk_at "dec") => `(tactic| first | with_reducible assumption | decide | walk_at "dec2" | assumption | exact rfl)
local macro_rules | `(tactic| walk_at "mini") => `(tactic| first
  | ((with_reducible show evE _ _ _ _ = _); first | with_reducible exact ev_loc rfl | with_reducible exact ev_int | with_reducible exact ev_str | with_reducible apply ev_idx | with_reducible apply ev_bin | with_reducible apply ev_cmp | with_reducible apply ev_slc | with_reducible apply ev_call | with_reducible apply ev_bi | with_reducible apply ev_tup | with_reducible apply ev_bop | with_reducible apply ev_methV | with_reducible exact ev_bool | with_reducible exact ev_none | with_reducible exact ev_fn | with_reducible apply ev_list | with_reducible apply ev_not | with_reducible apply ev_neg | with_reducible apply ev_cmp2 | with_reducible apply ev_ite | with_reducible apply ev_slcU)
  | ((with_reducible show evEs _ _ _ _ = _); first | with_reducible exact es_nil | with_reducible apply es_cons)
  | ((with_reducible show evB _ _ _ _ _ = _); first | with_reducible apply bo_one | with_reducible apply bo_and | with_reducible apply bo_or)
  | ((with_reducible show exSs _ _ _ _ _ = _); first | with_reducible apply ss_cons | with_reducible exact ss_nil)
  | ((with_reducible show exS _ _ _ _ _ = _); first | with_reducible apply st_ite | with_reducible apply st_assign | with_reducible apply st_ret | with_reducible apply st_aug (hl := rfl) | with_reducible apply st_expr | with_reducible apply st_while | with_reducible apply st_assignT | with_reducible apply st_assignD (hn := by decide) | with_reducible apply st_for | with_reducible apply st_forR | with_reducible exact st_ret0 | with_reducible exact st_brk)
  | ((with_reducible show seqF _ _ _ _ = _); first | with_reducible apply sq_next | with_reducible exact sq_ret | with_reducible exact sq_brk | ((with_reducible apply sq_retB); walk_at "dec") | exact sq_ret)
  | ((with_reducible show truthV _ _ = _); first | with_reducible exact tr_bool | with_reducible exact tr_lst | ((with_reducible apply tr_is); walk_at "dec"))
  | ((with_reducible show cond _ _ _ = _); first | ((with_reducible apply ct); (next => with_reducible assumption)) | ((with_reducible apply cf); (next => with_reducible assumption)) | ((with_reducible apply ct); (next => decide)) | ((with_reducible apply cf); (next => decide)) | ((with_reducible apply ct); (next => walk_at "dec2")) | ((with_reducible apply cf); (next => walk_at "dec2")) | ((with_reducible apply ct); (next => assumption)) | ((with_reducible apply cf); (next => assumption)) | ((with_reducible apply ct); (next => exact rfl)) | ((with_reducible apply cf); (next => exact rfl)) | with_reducible apply ca_strict | with_reducible apply co_strict)
  | ((with_reducible show binV _ _ _ _ = _); first | with_reducible exact b_addI | with_reducible exact b_subI)
  | ((with_reducible show cmpV _ _ _ _ = _); first | with_reducible exact c_eqS | with_reducible exact c_eqI | with_reducible exact c_ltI | with_reducible exact c_gtI | with_reducible exact c_neS | with_reducible exact c_neI | with_reducible exact c_leI | with_reducible exact c_geI)
  | ((with_reducible show augV _ _ _ = _); first | with_reducible exact a_addI | with_reducible exact a_subI)
  | ((with_reducible show biV _ _ _ = _); first | with_reducible exact bi_lenS | with_reducible exact bi_ord)
  | ((with_reducible show outR _ = _); first | with_reducible apply out_ret)
  | ((with_reducible show test _ _ _ _ = _); first | with_reducible apply test_of)
  | ((with_reducible show List.length _ ≤ 100); first | exact Nat.le_of_ble_eq_true rfl)
  | ((with_reducible show List.length _ = List.length _); first | exact rfl)
  | ((with_reducible show methF _ = none); first | exact rfl)
  | ((with_reducible show methK _ _ (Vl.str _) = true); first | exact rfl)
  | ((with_reducible show iterOf _ = some _); first | exact rfl)
  | ((with_reducible show aftF _ _ _ _ = _); first | exact rfl)
  | ((with_reducible show some _ = some _); first | exact rfl)
  | ((with_reducible show whileN _ _ (_ + 1) _ _ = _); first | with_reducible apply wh_turn))

section
section
variable {N : Nat}
noncomputable def isGapB (c : Nat) : Bool := [32, 9, 11, 12, 13].contains c
theorem y_is_gap (c : Nat) : Yields N 1 .is_gap [.str [c]] (.bool (isGapB c)) := by
  refine yields_pure (us := [.str [c]]) rfl rfl rfl fun d σ hd => ?_
  show outR (exSs _ N b_is_gap [some (.str [c])] σ) = _
  delta b_is_gap
  (repeat' (first | walk_at "mini" | ((with_reducible show cmpV _ _ _ _ = _); exact c_inT (inStrs_map c [32, 9, 11, 12, 13]))))
noncomputable def digitV (c : Nat) : Int := bif decide ((48:Int) ≤ c) && decide ((c:Int) ≤ 57) then (c : Int) - 48 else bif decide ((97:Int) ≤ c) && decide ((c:Int) ≤ 122) then (c : Int) - 87 else bif decide ((65:Int) ≤ c) && decide ((c:Int) ≤ 90) then (c : Int) - 55 else -1
theorem y_digit (c : Nat) : Yields N 1 .digit [.str [c]] (.int (digitV c)) := by
  refine yields_pure (us := [.str [c]]) rfl rfl rfl fun d σ hd => ?_
  show outR (exSs _ N b_digit [some (.str [c]), none] σ) = _
  delta b_digit
  unfold digitV
  cases h1 : (decide ((48:Int) ≤ c) && decide ((c:Int) ≤ 57))
  · cases h2 : (decide ((97:Int) ≤ c) && decide ((c:Int) ≤ 122))
    · cases h3 : (decide ((65:Int) ≤ c) && decide ((c:Int) ≤ 90)) <;> (repeat' (first | walk_at "mini"))
    · (repeat' (first | walk_at "mini"))
  · (repeat' (first | walk_at "mini"))
theorem y_is_blank (c : Nat) : Yields N 1 .is_blank [.str [c]] (.bool ([32, 9, 10, 11, 12, 13].contains c)) := by
  refine yields_pure (us := [.str [c]]) rfl rfl rfl fun d σ hd => ?_
  show outR (exSs _ N b_is_blank [some (.str [c])] σ) = _
  delta b_is_blank
  (repeat' (first | walk_at "mini" | ((with_reducible show cmpV _ _ _ _ = _); exact c_inT (inStrs_map c [32, 9, 10, 11, 12, 13]))))
noncomputable def skipG : List Nat → List Nat
  | [] => []
  | 92 :: 10 :: r => skipG r
  | c :: r => bif isGapB c then skipG r else c :: r
section
variable {t s r : List Nat} {a c n d : Nat} {σ : Sto}
theorem sg1 (hd : 1 ≤ d) (h : Suf t a (c :: r)) (g : isGapB c = true) : LP N d t_skip_gaps_0 w_skip_gaps_0 (n + 1) [some (.str t), some (.int a)] σ = LP N d t_skip_gaps_0 w_skip_gaps_0 n [some (.str t), some (.int ((a + 1 : Nat) : Int))] σ := by
  have hl := h.lt
  delta t_skip_gaps_0 w_skip_gaps_0
  (repeat' (first | walk_at "mini" | ((with_reducible show idxV _ _ _ = _); exact h.idx) | ((with_reducible show callN _ _ _ _ _ _ = _); exact (y_is_gap c).at hd _)))
theorem sg2 (hd : 1 ≤ d) (h : Suf t a (92 :: 10 :: r)) : LP N d t_skip_gaps_0 w_skip_gaps_0 (n + 1) [some (.str t), some (.int a)] σ = LP N d t_skip_gaps_0 w_skip_gaps_0 n [some (.str t), some (.int ((a + 2 : Nat) : Int))] σ := by
  have hl := h.lt
  delta t_skip_gaps_0 w_skip_gaps_0
  (repeat' (first | walk_at "mini" | ((with_reducible show idxV _ _ _ = _); exact h.idx) | ((with_reducible show slcV _ _ _ _ = _); exact h.cut2) | ((with_reducible show callN _ _ _ _ _ _ = _); exact (y_is_gap _).at hd _)))
theorem sg3 (hd : 1 ≤ d) (h : Suf t a (c :: r)) (g : isGapB c = false) (g2 : ((c :: r).take 2 == [92, 10]) = false) : LP N d t_skip_gaps_0 w_skip_gaps_0 (n + 1) [some (.str t), some (.int a)] σ = some (.ret (.int a), [some (.str t), some (.int a)], σ) := by
  have hl := h.lt
  delta t_skip_gaps_0 w_skip_gaps_0
  (repeat' (first | walk_at "mini" | ((with_reducible show idxV _ _ _ = _); exact h.idx) | ((with_reducible show slcV _ _ _ _ = _); exact h.cut2) | ((with_reducible show callN _ _ _ _ _ _ = _); exact (y_is_gap c).at hd _)))
theorem sg4 (h : Suf t a []) : LP N d t_skip_gaps_0 w_skip_gaps_0 (n + 1) [some (.str t), some (.int a)] σ = some (.next, [some (.str t), some (.int a)], σ) := by
  have hl := h.end
  delta t_skip_gaps_0 w_skip_gaps_0
  refine wh_end ?_
  (repeat' (first | walk_at "mini"))
end
theorem skipG_gap {c : Nat} {r : List Nat} (g : isGapB c = true) : skipG (c :: r) = skipG r := by
  rw [skipG.eq_3 _ _ (fun r' e _ => by subst e; cases g), g]; rfl
theorem skipG_no {c : Nat} {r : List Nat} (g : isGapB c = false) (g2 : ((c :: r).take 2 == [92, 10]) = false) : skipG (c :: r) = c :: r := by
  rw [skipG.eq_3 _ _ (fun r' e e2 => by subst e e2; cases g2), g]; rfl
theorem sg_loop {t : List Nat} : ∀ (n : Nat) (s : List Nat) (a : Nat), s.length < n → Suf t a s → ∃ a', Suf t a' (skipG s) ∧ ∀ d σ, 1 ≤ d →
    (LP N d t_skip_gaps_0 w_skip_gaps_0 n [some (.str t), some (.int a)] σ = some (.ret (.int a'), [some (.str t), some (.int a')], σ) ∨ LP N d t_skip_gaps_0 w_skip_gaps_0 n [some (.str t), some (.int a)] σ = some (.next, [some (.str t), some (.int a')], σ))
  | 0, s, a, hn, h => absurd hn (Nat.not_lt_zero _)
  | n + 1, [], a, hn, h => ⟨a, h, fun d σ hd => .inr (sg4 h)⟩
  | n + 1, c :: r, a, hn, h => by
    have hn' : r.length < n := Nat.lt_of_succ_lt_succ hn
    cases g : isGapB c with
    | true =>
      obtain ⟨a', h1, h2⟩ := sg_loop n r (a + 1) hn' h.step
      refine ⟨a', by rw [skipG_gap g]; exact h1, fun d σ hd => ?_⟩
      rw [sg1 hd h g]; exact h2 d σ hd
    | false =>
      cases g2 : ((c :: r).take 2 == [92, 10]) with
      | false => exact ⟨a, by rw [skipG_no g g2]; exact h, fun d σ hd => .inl (sg3 hd h g g2)⟩
      | true =>
        cases r with
        | nil => simp at g2
        | cons c2 r =>
          simp at g2
          obtain ⟨rfl, rfl⟩ := g2
          obtain ⟨a', h1, h2⟩ := sg_loop n r (a + 2) (Nat.lt_of_succ_lt hn') h.step.step
          refine ⟨a', h1, fun d σ hd => ?_⟩
          rw [sg2 hd h]; exact h2 d σ hd
theorem y_skip_gaps (hN : line < N) {t s : List Nat} {a : Nat} (h : Suf t a s) : ∃ a', Suf t a' (skipG s) ∧ Yields N 2 .skip_gaps [.str t, .int a] (.int a') := by
  obtain ⟨a', h1, h2⟩ := sg_loop (N := N) N s a (Nat.lt_of_le_of_lt h.le hN) h
  refine ⟨a', h1, yields_pure (us := [.str t, .int a]) rfl rfl rfl fun d σ hd => ?_⟩
  show outR (exSs _ N b_skip_gaps [some (.str t), some (.int a)] σ) = _
  delta b_skip_gaps
  rcases h2 d σ hd with e | e
  · (repeat' (first | walk_at "mini" | ((with_reducible show whileN _ _ _ _ _ = _); exact e)))
  · (repeat' (first | walk_at "mini" | ((with_reducible show whileN _ _ _ _ _ = _); exact e)))

/-! ## Comments -/
noncomputable def comS : List Nat → List Nat
  | [] => []
  | [92] => []
  | 92 :: _ :: r => comS r
  | c :: r => bif c == 10 then r else comS r
section
variable {t s r : List Nat} {a c n d : Nat} {σ : Sto} {z : Int}
theorem cm1 (h : Suf t a (92 :: r)) : LP N d t_comment_behind_0 w_comment_behind_0 (n + 1) [some (.str t), some (.int a), some (.int t.length)] σ = LP N d t_comment_behind_0 w_comment_behind_0 n [some (.str t), some (.int ((a + 2 : Nat) : Int)), some (.int t.length)] σ := by
  have hl := h.lt
  delta t_comment_behind_0 w_comment_behind_0
  (repeat' (first | walk_at "mini" | ((with_reducible show idxV _ _ _ = _); exact h.idx)))
theorem cm2 (h : Suf t a (10 :: r)) : LP N d t_comment_behind_0 w_comment_behind_0 (n + 1) [some (.str t), some (.int a), some (.int t.length)] σ = some (.ret (.int ((a + 1 : Nat) : Int)), [some (.str t), some (.int a), some (.int t.length)], σ) := by
  have hl := h.lt
  delta t_comment_behind_0 w_comment_behind_0
  (repeat' (first | walk_at "mini" | ((with_reducible show idxV _ _ _ = _); exact h.idx) | exact sq_ret))
theorem cm3 (h : Suf t a (c :: r)) (h1 : c ≠ 92) (h2 : c ≠ 10) : LP N d t_comment_behind_0 w_comment_behind_0 (n + 1) [some (.str t), some (.int a), some (.int t.length)] σ = LP N d t_comment_behind_0 w_comment_behind_0 n [some (.str t), some (.int ((a + 1 : Nat) : Int)), some (.int t.length)] σ := by
  have hl := h.lt
  delta t_comment_behind_0 w_comment_behind_0
  (repeat' (first | walk_at "mini" | ((with_reducible show idxV _ _ _ = _); exact h.idx)))
theorem cm4 (hl : decide (z < (t.length : Int)) = false) : LP N d t_comment_behind_0 w_comment_behind_0 (n + 1) [some (.str t), some (.int z), some (.int t.length)] σ = some (.next, [some (.str t), some (.int z), some (.int t.length)], σ) := by
  delta t_comment_behind_0 w_comment_behind_0
  refine wh_end ?_
  (repeat' (first | walk_at "mini"))
end
theorem Suf.fin {t s : List Nat} {a : Nat} (h : Suf t a s) : Suf t t.length [] := ⟨List.drop_length, Nat.le_refl _, h.2.2⟩
theorem cm_loop {t : List Nat} : ∀ (n : Nat) (s : List Nat) (a : Nat), s.length < n → Suf t a s → ∃ a', Suf t a' (comS s) ∧ ∀ d σ,
    ((∃ x, LP N d t_comment_behind_0 w_comment_behind_0 n [some (.str t), some (.int a), some (.int t.length)] σ = some (.ret (.int a'), [some (.str t), x, some (.int t.length)], σ)) ∨
      (∃ x, LP N d t_comment_behind_0 w_comment_behind_0 n [some (.str t), some (.int a), some (.int t.length)] σ = some (.next, [some (.str t), x, some (.int t.length)], σ)) ∧ a' = t.length)
  | 0, s, a, hn, h => absurd hn (Nat.not_lt_zero _)
  | n + 1, [], a, hn, h => ⟨t.length, h.fin, fun d σ => .inr ⟨⟨_, cm4 h.end⟩, rfl⟩⟩
  | n + 1, c :: r, a, hn, h => by
    have hn' : r.length < n := Nat.lt_of_succ_lt_succ hn
    by_cases g : c = 92
    · subst g
      cases r with
      | nil =>
        refine ⟨t.length, h.fin, fun d σ => .inr ⟨⟨some (.int ((a + 2 : Nat) : Int)), ?_⟩, rfl⟩⟩
        rw [cm1 h]
        have := h.len
        simp at this
        obtain ⟨m, rfl⟩ : ∃ m, n = m + 1 := ⟨n - 1, by simp at hn'; omega⟩
        exact cm4 (decide_eq_false (by omega))
      | cons c2 r =>
        obtain ⟨a', h1, h2⟩ := cm_loop n r (a + 2) (Nat.lt_of_succ_lt hn') h.step.step
        refine ⟨a', h1, fun d σ => ?_⟩
        rw [cm1 h]; exact h2 d σ
    · by_cases g2 : c = 10
      · subst g2
        exact ⟨a + 1, h.step, fun d σ => .inl ⟨_, cm2 h⟩⟩
      · obtain ⟨a', h1, h2⟩ := cm_loop n r (a + 1) hn' h.step
        refine ⟨a', ?_, fun d σ => ?_⟩
        · have : comS (c :: r) = comS r := by
            rw [comS.eq_4 _ _ (fun e _ => g e) (fun _ _ e _ => g e), beq_eq_false_iff_ne.mpr g2]; rfl
          rw [this]; exact h1
        · rw [cm3 h g g2]; exact h2 d σ
theorem y_comment_behind (hN : line < N) {t s : List Nat} {a : Nat} (h : Suf t a s) : ∃ a', Suf t a' (comS s) ∧ Yields N 1 .comment_behind [.str t, .int a] (.int a') := by
  obtain ⟨a', h1, h2⟩ := cm_loop (N := N) N s a (Nat.lt_of_le_of_lt h.le hN) h
  refine ⟨a', h1, yields_pure (us := [.str t, .int a]) rfl rfl rfl fun d σ hd => ?_⟩
  show outR (exSs _ N b_comment_behind [some (.str t), some (.int a), none] σ) = _
  delta b_comment_behind
  rcases h2 d σ with ⟨x, e⟩ | ⟨⟨x, e⟩, rfl⟩
  · (repeat' (first | walk_at "mini" | ((with_reducible show whileN _ _ _ _ _ = _); exact e)))
  · (repeat' (first | walk_at "mini" | ((with_reducible show whileN _ _ _ _ _ = _); exact e)))
end
end

section
section
variable {N : Nat}
/-! ## To a command's first sign -/
inductive Skips : Nat → List Nat → List Nat → Prop
  | stop {s s' : List Nat} (h : skipG s = s') (hs : ∀ c r, s' = c :: r → [10, 59, 35].contains c = false) : Skips 0 s s'
  | nl {k : Nat} {s r s' : List Nat} {c : Nat} (h : skipG s = c :: r) (hc : c = 10 ∨ c = 59) (hs : Skips k r s') : Skips (k + 1) s s'
  | com {k : Nat} {s r s' : List Nat} (h : skipG s = 35 :: r) (hs : Skips k (comS (35 :: r)) s') : Skips (k + 1) s s'
section
variable {t s r : List Nat} {a a' b c n d : Nat} {σ : Sto}
theorem sk1 (hd : 2 ≤ d) (h : Suf t a (c :: r)) (hc : c = 10 ∨ c = 59) (y : Yields N 2 .skip_gaps [.str t, .int ((a + 1 : Nat) : Int)] (.int a')) : LP N d t_skip_to_command_0 w_skip_to_command_0 (n + 1) [some (.str t), some (.int a)] σ = LP N d t_skip_to_command_0 w_skip_to_command_0 n [some (.str t), some (.int a')] σ := by
  have hne : c ≠ 35 := by rcases hc with rfl | rfl <;> decide
  have h1 : [10, 59, 35].contains c = true := by rcases hc with rfl | rfl <;> decide
  delta t_skip_to_command_0 w_skip_to_command_0
  (repeat' (first | walk_at "mini" | ((with_reducible show idxV _ _ _ = _); exact h.idx) | ((with_reducible show slcV _ _ _ _ = _); exact h.c1) | ((with_reducible show cmpV _ _ _ _ = _); exact c_inT (inStrs_map c [10, 59, 35])) | ((with_reducible show callN _ _ _ _ _ _ = _); exact y.at hd _)))
theorem sk2 (hd : 2 ≤ d) (h : Suf t a (35 :: r)) (yc : Yields N 1 .comment_behind [.str t, .int a] (.int b)) (y : Yields N 2 .skip_gaps [.str t, .int b] (.int a')) : LP N d t_skip_to_command_0 w_skip_to_command_0 (n + 1) [some (.str t), some (.int a)] σ = LP N d t_skip_to_command_0 w_skip_to_command_0 n [some (.str t), some (.int a')] σ := by
  have hd' : 1 ≤ d := by omega
  delta t_skip_to_command_0 w_skip_to_command_0
  (repeat' (first | walk_at "mini" | ((with_reducible show idxV _ _ _ = _); exact h.idx) | ((with_reducible show slcV _ _ _ _ = _); exact h.c1) | ((with_reducible show cmpV _ _ _ _ = _); exact c_inT (inStrs_map 35 [10, 59, 35])) | ((with_reducible show callN _ _ _ _ _ _ = _); exact yc.at hd' _) | ((with_reducible show callN _ _ _ _ _ _ = _); exact y.at hd _)))
theorem sk3 (h : Suf t a s) (hs : ∀ c r, s = c :: r → [10, 59, 35].contains c = false) : LP N d t_skip_to_command_0 w_skip_to_command_0 (n + 1) [some (.str t), some (.int a)] σ = some (.next, [some (.str t), some (.int a)], σ) := by
  cases s with
  | nil =>
    delta t_skip_to_command_0 w_skip_to_command_0
    refine wh_end ?_
    (repeat' (first | walk_at "mini" | ((with_reducible show slcV _ _ _ _ = _); exact h.c1n) | ((with_reducible show cmpV _ _ _ _ = _); exact c_inT (inStrs_nil [10, 59, 35]))))
  | cons c r =>
    have h1 := hs c r rfl
    delta t_skip_to_command_0 w_skip_to_command_0
    refine wh_end ?_
    (repeat' (first | walk_at "mini" | ((with_reducible show slcV _ _ _ _ = _); exact h.c1) | ((with_reducible show cmpV _ _ _ _ = _); exact c_inT (inStrs_map c [10, 59, 35]))))
end
theorem sk_loop (hN : line < N) {t : List Nat} {k : Nat} {s s' : List Nat} (S : Skips k s s') : ∀ a, Suf t a (skipG s) → ∃ a', Suf t a' s' ∧ ∀ n d σ, k < n → 2 ≤ d →
    LP N d t_skip_to_command_0 w_skip_to_command_0 n [some (.str t), some (.int a)] σ = some (.next, [some (.str t), some (.int a')], σ) := by
  induction S with
  | stop h hs =>
    intro a hs'
    rw [h] at hs'
    refine ⟨a, hs', fun n d σ hn hd => ?_⟩
    obtain ⟨m, rfl⟩ : ∃ m, n = m + 1 := ⟨n - 1, by omega⟩
    exact sk3 hs' hs
  | nl h hc hs ih =>
    intro a hs'
    rw [h] at hs'
    obtain ⟨b, hb, yb⟩ := y_skip_gaps hN hs'.step
    obtain ⟨a', h1, h2⟩ := ih b hb
    refine ⟨a', h1, fun n d σ hn hd => ?_⟩
    obtain ⟨m, rfl⟩ : ∃ m, n = m + 1 := ⟨n - 1, by omega⟩
    rw [sk1 hd hs' hc yb]
    exact h2 m d σ (by omega) hd
  | com h hs ih =>
    intro a hs'
    rw [h] at hs'
    obtain ⟨b1, hb1, yb1⟩ := y_comment_behind hN hs'
    obtain ⟨b, hb, yb⟩ := y_skip_gaps hN hb1
    obtain ⟨a', h1, h2⟩ := ih b hb
    refine ⟨a', h1, fun n d σ hn hd => ?_⟩
    obtain ⟨m, rfl⟩ : ∃ m, n = m + 1 := ⟨n - 1, by omega⟩
    rw [sk2 hd hs' yb1 yb]
    exact h2 m d σ (by omega) hd
theorem y_skip_to_command (hN : line < N) {t s s' : List Nat} {a k : Nat} (h : Suf t a s) (S : Skips k s s') (hk : k < N) : ∃ a', Suf t a' s' ∧ Yields N 3 .skip_to_command [.str t, .int a] (.int a') := by
  obtain ⟨b, hb, yb⟩ := y_skip_gaps hN h
  obtain ⟨a', h1, h2⟩ := sk_loop hN S b hb
  refine ⟨a', h1, yields_pure (us := [.str t, .int a]) rfl rfl rfl fun d σ hd => ?_⟩
  show outR (exSs _ N b_skip_to_command [some (.str t), some (.int a)] σ) = _
  delta b_skip_to_command
  have e := h2 N d σ hk hd
  (repeat' (first | walk_at "mini" | ((with_reducible show whileN _ _ _ _ _ = _); exact e) | ((with_reducible show callN _ _ _ _ _ _ = _); exact yb.at hd _)))

/-! ## Backslashes -/
noncomputable def hexD (c : Nat) : Nat := (digitV c).toNat
noncomputable def isHex (c : Nat) : Prop := digitV c = (hexD c : Int) ∧ hexD c ≤ 15
noncomputable def hv (v : Nat) : List Nat → Nat
  | [] => v
  | c :: r => hv (v * 16 + hexD c) r
theorem hv_ge : ∀ (l : List Nat) (v : Nat), v ≤ hv v l
  | [], v => Nat.le_refl _
  | c :: r, v => Nat.le_trans (by omega) (hv_ge r (v * 16 + hexD c))
section
variable {t s r : List Nat} {a b c n d v m : Nat} {σ : Sto} {z : Int} {x5 : Option Vl}
theorem hx1 (hd : 1 ≤ d) (h : Suf t a (c :: r)) (hc : isHex c) (hv' : v ≤ 69631) (hm : a < m) : LP N d t_hex_sign_0 w_hex_sign_0 (n + 1) [some (.str t), some (.int z), some (.int (m : Int)), some (.int a), some (.int (v : Int)), x5] σ =
    LP N d t_hex_sign_0 w_hex_sign_0 n [some (.str t), some (.int z), some (.int (m : Int)), some (.int ((a + 1 : Nat) : Int)), some (.int ((v * 16 + hexD c : Nat) : Int)), some (.int (hexD c))] σ := by
  have hl := h.lt
  have hm' : decide ((a : Int) < (m : Int)) = true := decide_eq_true (by omega)
  have h1 : decide ((v : Int) ≤ 69631) = true := decide_eq_true (by omega)
  have h2 : decide (((hexD c : Nat) : Int) < 0) = false := decide_eq_false (by omega)
  have h3 : decide ((15 : Int) < ((hexD c : Nat) : Int)) = false := decide_eq_false (by have := hc.2; omega)
  have y : Yields N 1 .digit [.str [c]] (.int (hexD c)) := hc.1 ▸ y_digit c
  have hb : ((v : Int)).natAbs < big ∧ (16 : Int).natAbs < big := ⟨by have : big = 1099511627776 := rfl; omega, by decide⟩
  delta t_hex_sign_0 w_hex_sign_0
  (repeat' (first | walk_at "mini" | ((with_reducible show idxV _ _ _ = _); exact h.idx) | ((with_reducible show binV _ _ _ _ = _); exact b_mul hb) | ((with_reducible show callN _ _ _ _ _ _ = _); exact y.at hd _)))
theorem hx2 : LP N d t_hex_sign_0 w_hex_sign_0 (n + 1) [some (.str t), some (.int z), some (.int (m : Int)), some (.int (m : Int)), some (.int (v : Int)), x5] σ =
    some (.next, [some (.str t), some (.int z), some (.int (m : Int)), some (.int (m : Int)), some (.int (v : Int)), x5], σ) := by
  have hm' : decide ((m : Int) < (m : Int)) = false := decide_eq_false (by omega)
  delta t_hex_sign_0 w_hex_sign_0
  refine wh_end ?_
  (repeat' (first | walk_at "mini"))
end
theorem hx_loop {t r : List Nat} {z : Int} : ∀ (ds : List Nat) (n a v : Nat) (x5 : Option Vl), ds.length < n → Suf t a (ds ++ r) → (∀ c ∈ ds, isHex c) → hv v ds ≤ 1114111 → ∃ x5', ∀ d σ, 1 ≤ d →
    LP N d t_hex_sign_0 w_hex_sign_0 n [some (.str t), some (.int z), some (.int ((a + ds.length : Nat) : Int)), some (.int a), some (.int (v : Int)), x5] σ =
      some (.next, [some (.str t), some (.int z), some (.int ((a + ds.length : Nat) : Int)), some (.int ((a + ds.length : Nat) : Int)), some (.int (hv v ds : Nat)), x5'], σ)
  | _, 0, _, _, _, hn, _, _, _ => absurd hn (Nat.not_lt_zero _)
  | [], n + 1, a, v, x5, hn, h, hh, hl => ⟨x5, fun d σ hd => hx2⟩
  | c :: ds, n + 1, a, v, x5, hn, h, hh, hl => by
    have hc := hh c (List.mem_cons_self ..)
    obtain ⟨x5', e⟩ := hx_loop ds n (a + 1) (v * 16 + hexD c) (some (.int (hexD c))) (by simp at hn; exact hn) h.step (fun c hc => hh c (List.mem_cons_of_mem _ hc)) hl
    refine ⟨x5', fun d σ hd => ?_⟩
    have hv1 := hv_ge ds (v * 16 + hexD c)
    have hl' : hv (v * 16 + hexD c) ds ≤ 1114111 := hl
    rw [hx1 hd h hc (by omega) (by simp)]
    have e1 : a + (c :: ds).length = a + 1 + ds.length := by simp; omega
    rw [e1]
    exact e d σ hd
noncomputable def hexLen (s : Nat) : Nat := if s = 117 then 4 else if s = 85 then 8 else 2
theorem y_hex_sign (hN : line < N) {t r ds : List Nat} {a s : Nat} (h : Suf t a (s :: (ds ++ r))) (hs : s = 120 ∨ s = 117 ∨ s = 85) (hl : ds.length = hexLen s) (hh : ∀ c ∈ ds, isHex c) (hx : hv 0 ds ≤ 1114111) :
    Yields N 2 .hex_sign [.str t, .int a] (.tup [.str [hv 0 ds], .int ((a + 1 + ds.length : Nat) : Int)]) := by
  have hlen : ds.length < N := by have := h.step.le; simp at this; omega
  obtain ⟨x5, e⟩ := hx_loop (N := N) (z := (a : Int)) ds N (a + 1) 0 none hlen h.step hh hx
  have hch : (0 : Int) ≤ ((hv 0 ds : Nat) : Int) ∧ ((hv 0 ds : Nat) : Int) < 1114112 := by omega
  refine yields_pure (us := [.str t, .int a]) rfl rfl rfl fun d σ hd => ?_
  show outR (exSs _ N b_hex_sign [some (.str t), some (.int a), none, none, none, none] σ) = _
  delta b_hex_sign
  have e := e d σ hd
  have hne : ((((a + 1 + ds.length : Nat) : Int)) == (a : Int) + 1) = false := by
    rw [beq_eq_false_iff_ne]
    have : 0 < ds.length := by rw [hl]; rcases hs with rfl | rfl | rfl <;> decide
    omega
  rcases hs with rfl | rfl | rfl
  · rw [show ds.length = 2 from hl] at e hne ⊢
    (repeat' (first | walk_at "mini" | ((with_reducible show whileN _ _ _ _ _ = _); exact e) | ((with_reducible show idxV _ _ _ = _); exact h.idx) | ((with_reducible show biV _ _ _ = _); exact bi_chr hch)))
  · rw [show ds.length = 4 from hl] at e hne ⊢
    (repeat' (first | walk_at "mini" | ((with_reducible show whileN _ _ _ _ _ = _); exact e) | ((with_reducible show idxV _ _ _ = _); exact h.idx) | ((with_reducible show biV _ _ _ = _); exact bi_chr hch)))
  · rw [show ds.length = 8 from hl] at e hne ⊢
    (repeat' (first | walk_at "mini" | ((with_reducible show whileN _ _ _ _ _ = _); exact e) | ((with_reducible show idxV _ _ _ = _); exact h.idx) | ((with_reducible show biV _ _ _ = _); exact bi_chr hch)))
section
variable {t s r : List Nat} {a b c n d v m : Nat} {σ : Sto} {z : Int} {x5 : Option Vl}
theorem oc1 (hd : 1 ≤ d) (h : Suf t b (c :: r)) (hc : digitV c = (m : Int)) (hm : m ≤ 7) (hv' : v < 32) (hb : b < a + 3) : LP N d t_octal_sign_0 w_octal_sign_0 (n + 1) [some (.str t), some (.int a), some (.int b), some (.int (v : Int)), x5] σ =
    LP N d t_octal_sign_0 w_octal_sign_0 n [some (.str t), some (.int a), some (.int ((b + 1 : Nat) : Int)), some (.int ((v * 8 + m : Nat) : Int)), some (.int m)] σ := by
  have hl := h.lt
  have hm' : decide ((b : Int) < (a : Int) + 3) = true := decide_eq_true (by omega)
  have h1 : decide ((v : Int) < 32) = true := decide_eq_true (by omega)
  have h2 : decide ((m : Int) < 0) = false := decide_eq_false (by omega)
  have h3 : decide ((7 : Int) < (m : Int)) = false := decide_eq_false (by omega)
  have y : Yields N 1 .digit [.str [c]] (.int m) := hc ▸ y_digit c
  have hb : ((v : Int)).natAbs < big ∧ (8 : Int).natAbs < big := ⟨by have : big = 1099511627776 := rfl; omega, by decide⟩
  delta t_octal_sign_0 w_octal_sign_0
  (repeat' (first | walk_at "mini" | ((with_reducible show idxV _ _ _ = _); exact h.idx) | ((with_reducible show binV _ _ _ _ = _); exact b_mul hb) | ((with_reducible show callN _ _ _ _ _ _ = _); exact y.at hd _)))
theorem oc2 : LP N d t_octal_sign_0 w_octal_sign_0 (n + 1) [some (.str t), some (.int a), some (.int ((a + 3 : Nat) : Int)), some (.int (v : Int)), x5] σ =
    some (.next, [some (.str t), some (.int a), some (.int ((a + 3 : Nat) : Int)), some (.int (v : Int)), x5], σ) := by
  have hm' : decide (((a + 3 : Nat) : Int) < (a : Int) + 3) = false := decide_eq_false (by omega)
  delta t_octal_sign_0 w_octal_sign_0
  refine wh_end ?_
  (repeat' (first | walk_at "mini"))
end
theorem oc3 {t r : List Nat} {a c1 c2 c3 m1 m2 m3 n d : Nat} {σ : Sto} {x5 : Option Vl} (hd : 1 ≤ d) (h : Suf t a (c1 :: c2 :: c3 :: r)) (e1 : digitV c1 = (m1 : Int)) (e2 : digitV c2 = (m2 : Int)) (e3 : digitV c3 = (m3 : Int)) (l1 : m1 ≤ 3) (l2 : m2 ≤ 7) (l3 : m3 ≤ 7) :
    LP N d t_octal_sign_0 w_octal_sign_0 (n + 1 + 1 + 1 + 1) [some (.str t), some (.int a), some (.int a), some (.int ((0 : Nat) : Int)), x5] σ =
      some (.next, [some (.str t), some (.int a), some (.int ((a + 3 : Nat) : Int)), some (.int ((((0 * 8 + m1) * 8 + m2) * 8 + m3 : Nat) : Int)), some (.int m3)], σ) := by
  rw [oc1 hd h e1 (by omega) (by omega) (by omega), oc1 hd h.step e2 l2 (by omega) (by omega), oc1 hd h.step.step e3 l3 (by omega) (by omega)]
  exact oc2
theorem y_octal_sign (hN : line < N) {t r : List Nat} {a c1 c2 c3 m1 m2 m3 : Nat} (h : Suf t a (c1 :: c2 :: c3 :: r)) (e1 : digitV c1 = (m1 : Int)) (e2 : digitV c2 = (m2 : Int)) (e3 : digitV c3 = (m3 : Int)) (l1 : m1 ≤ 3) (l2 : m2 ≤ 7) (l3 : m3 ≤ 7) :
    Yields N 2 .octal_sign [.str t, .int a] (.tup [.str [((0 * 8 + m1) * 8 + m2) * 8 + m3], .int ((a + 3 : Nat) : Int)]) := by
  have hch : (0 : Int) ≤ ((((0 * 8 + m1) * 8 + m2) * 8 + m3 : Nat) : Int) ∧ ((((0 * 8 + m1) * 8 + m2) * 8 + m3 : Nat) : Int) < 1114112 := by omega
  refine yields_pure (us := [.str t, .int a]) rfl rfl rfl fun d σ hd => ?_
  show outR (exSs _ N b_octal_sign [some (.str t), some (.int a), none, none, none] σ) = _
  have hl : 4 < N := by have : line = 16777216 := rfl; omega
  have e := oc3 (N := N) (n := N - 4) (x5 := none) (σ := σ) hd h e1 e2 e3 l1 l2 l3
  rw [show N - 4 + 1 + 1 + 1 + 1 = N by omega] at e
  delta b_octal_sign
  (repeat' (first | walk_at "mini" | ((with_reducible show whileN _ _ _ _ _ = _); exact e) | ((with_reducible show biV _ _ _ = _); exact bi_chr hch)))
inductive BsOf : List Nat → Nat → Prop
  | known {c x : Nat} (h : (c, x) ∈ [(97, 7), (98, 8), (102, 12), (110, 10), (114, 13), (116, 9), (118, 11)]) : BsOf [92, c] x
  | other {c : Nat} (h1 : [97, 98, 102, 110, 114, 116, 118].contains c = false) (h2 : c ≠ 10) (h3 : [120, 117, 85].contains c = false) (h4 : [48, 49, 50, 51, 52, 53, 54, 55].contains c = false) : BsOf [92, c] c
  | hex {s x : Nat} {ds : List Nat} (hs : s = 120 ∨ s = 117 ∨ s = 85) (hl : ds.length = hexLen s) (hh : ∀ c ∈ ds, isHex c) (hx : hv 0 ds = x) (hx' : x ≤ 1114111) : BsOf (92 :: s :: ds) x
  | oct {c1 c2 c3 m1 m2 m3 x : Nat} (e1 : digitV c1 = (m1 : Int)) (e2 : digitV c2 = (m2 : Int)) (e3 : digitV c3 = (m3 : Int)) (l1 : m1 ≤ 3) (l2 : m2 ≤ 7) (l3 : m3 ≤ 7) (h4 : [48, 49, 50, 51, 52, 53, 54, 55].contains c1 = true) (hx : ((0 * 8 + m1) * 8 + m2) * 8 + m3 = x) : BsOf [92, c1, c2, c3] x
theorem idxC_no (c : Nat) : ∀ (l : List Nat) (i : Nat), l.contains c = false → idxC c l i = -1
  | [], _, _ => rfl
  | x :: l, i, h => by
    simp only [List.contains_cons, Bool.or_eq_false_iff, beq_eq_false_iff_ne] at h
    unfold idxC
    rw [if_neg (fun q => h.1 q.symm)]
    exact idxC_no c l (i + 1) h.2
theorem y_backslash (hN : line < N) {t r e : List Nat} {a x : Nat} (B : BsOf e x) (h : Suf t a (e ++ r)) : Yields N 3 .backslash [.str t, .int a] (.tup [.str [x], .int ((a + e.length : Nat) : Int)]) := by
  refine yields_pure (us := [.str t, .int a]) rfl rfl rfl fun d σ hd => ?_
  show outR (exSs _ N b_backslash [some (.str t), some (.int a), none, none, none] σ) = _
  cases B with
  | @known c _ hm =>
    have h1 := h.step
    obtain ⟨k, hk1, hk2⟩ : ∃ k : Nat, idxC c [97, 98, 102, 110, 114, 116, 118] 0 = (k : Int) ∧ [7, 8, 12, 10, 13, 9, 11][k]? = some x := by
      simp only [List.mem_cons, Prod.mk.injEq, List.not_mem_nil, or_false] at hm
      rcases hm with ⟨rfl, rfl⟩ | ⟨rfl, rfl⟩ | ⟨rfl, rfl⟩ | ⟨rfl, rfl⟩ | ⟨rfl, rfl⟩ | ⟨rfl, rfl⟩ | ⟨rfl, rfl⟩
      · exact ⟨0, rfl, rfl⟩
      · exact ⟨1, rfl, rfl⟩
      · exact ⟨2, rfl, rfl⟩
      · exact ⟨3, rfl, rfl⟩
      · exact ⟨4, rfl, rfl⟩
      · exact ⟨5, rfl, rfl⟩
      · exact ⟨6, rfl, rfl⟩
    have m1 : ∀ σ, methV σ .find (.str [97, 98, 102, 110, 114, 116, 118]) [.str [c]] = some (.int (k : Int), σ) := fun _ => by rw [← hk1]; rfl
    have i1 : ∀ σ, idxV σ (.str [7, 8, 12, 10, 13, 9, 11]) (.int (k : Int)) = some (.str [x]) := fun _ => idxS hk2
    have k0 : decide ((0 : Int) ≤ (k : Int)) = true := decide_eq_true (Int.natCast_nonneg k)
    delta b_backslash
    (repeat' (first | walk_at "mini" | ((with_reducible show slcV _ _ _ _ = _); exact h1.c1) | with_reducible exact m1 _ | with_reducible exact i1 _))
  | other k1 k2 k3 k4 =>
    have h1 := h.step
    have k0 : decide ((0 : Int) ≤ idxC x [97, 98, 102, 110, 114, 116, 118] 0) = false := by rw [idxC_no _ _ _ k1]; rfl
    delta b_backslash
    (repeat' (first | walk_at "mini" | ((with_reducible show slcV _ _ _ _ = _); exact h1.c1) | ((with_reducible show methV _ _ _ _ = _); exact rfl) | ((with_reducible show cmpV _ _ _ _ = _); exact c_inT (inStrs_map x [120, 117, 85])) | ((with_reducible show cmpV _ _ _ _ = _); exact c_inT (inStrs_map x [48, 49, 50, 51, 52, 53, 54, 55]))))
  | @hex s _ ds hs hl hh hx hx' =>
    have h1 := h.step
    subst hx
    have y := (y_hex_sign hN h1 hs hl hh hx').at (by omega : 2 ≤ d) σ
    have k0 : decide ((0 : Int) ≤ idxC s [97, 98, 102, 110, 114, 116, 118] 0) = false := by rcases hs with rfl | rfl | rfl <;> rfl
    have k1 : s ≠ 10 := by rcases hs with rfl | rfl | rfl <;> decide
    have k2 : [120, 117, 85].contains s = true := by rcases hs with rfl | rfl | rfl <;> rfl
    have e3 : a + (92 :: s :: ds).length = a + 1 + 1 + ds.length := by simp; omega
    rw [e3]
    delta b_backslash
    (repeat' (first | walk_at "mini" | ((with_reducible show slcV _ _ _ _ = _); exact h1.c1) | ((with_reducible show methV _ _ _ _ = _); exact rfl) | ((with_reducible show cmpV _ _ _ _ = _); exact c_inT (inStrs_map s [120, 117, 85])) | ((with_reducible show callN _ _ _ _ _ _ = _); exact y)))
  | @oct c1 c2 c3 m1 m2 m3 _ e1 e2 e3 l1 l2 l3 h4 hx =>
    have h1 := h.step
    subst hx
    have y := (y_octal_sign hN h1 e1 e2 e3 l1 l2 l3).at (by omega : 2 ≤ d) σ
    have k9 : c1 ∈ [48, 49, 50, 51, 52, 53, 54, 55] := by simpa using h4
    have k0 : decide ((0 : Int) ≤ idxC c1 [97, 98, 102, 110, 114, 116, 118] 0) = false := by
      simp only [List.mem_cons, List.not_mem_nil, or_false] at k9
      rcases k9 with rfl | rfl | rfl | rfl | rfl | rfl | rfl | rfl <;> rfl
    have k1 : c1 ≠ 10 := by rintro rfl; simp at k9
    have k2 : [120, 117, 85].contains c1 = false := by
      simp only [List.mem_cons, List.not_mem_nil, or_false] at k9
      rcases k9 with rfl | rfl | rfl | rfl | rfl | rfl | rfl | rfl <;> rfl
    delta b_backslash
    (repeat' (first | walk_at "mini" | ((with_reducible show slcV _ _ _ _ = _); exact h1.c1) | ((with_reducible show methV _ _ _ _ = _); exact rfl) | ((with_reducible show cmpV _ _ _ _ = _); exact c_inT (inStrs_map c1 [120, 117, 85])) | ((with_reducible show cmpV _ _ _ _ = _); exact c_inT (inStrs_map c1 [48, 49, 50, 51, 52, 53, 54, 55])) | ((with_reducible show callN _ _ _ _ _ _ = _); exact y)))
end
end

section
section
variable {N : Nat}
/-! ## Braces -/
inductive Br : Nat → List Nat → Prop
  | nil : Br 0 []
  | op {n : Nat} {u : List Nat} (h : Br (n + 1) u) : Br n (123 :: u)
  | cl {n : Nat} {u : List Nat} (h : Br n u) : Br (n + 1) (125 :: u)
  | esc {n c : Nat} {u : List Nat} (hc : c ≠ 10) (h : Br n u) : Br n (92 :: c :: u)
  | lit {n c : Nat} {u : List Nat} (hc : [123, 125, 92].contains c = false) (h : Br n u) : Br n (c :: u)
theorem Br.run {n : Nat} {u : List Nat} (h : Br n u) : ∃ v w, u = v ++ w ∧ (∀ c ∈ v, [123, 125, 92].contains c = false) ∧ Br n w ∧ ∃ x y, w ++ [125] = x :: y ∧ [123, 125, 92].contains x = true := by
  induction h with
  | nil => exact ⟨[], [], rfl, fun c hc => by simp at hc, .nil, _, _, rfl, rfl⟩
  | op h ih => exact ⟨[], _, rfl, fun c hc => by simp at hc, .op h, _, _, rfl, rfl⟩
  | cl h ih => exact ⟨[], _, rfl, fun c hc => by simp at hc, .cl h, _, _, rfl, rfl⟩
  | esc hc h ih => exact ⟨[], _, rfl, fun c hc => by simp at hc, .esc hc h, _, _, rfl, rfl⟩
  | lit hc h ih =>
    obtain ⟨v, w, rfl, h1, h2, h3⟩ := ih
    exact ⟨_ :: v, w, rfl, fun c' hc' => by rcases List.mem_cons.mp hc' with rfl | q; exact hc; exact h1 _ q, h2, h3⟩
section
variable {t s r u : List Nat} {a b g c n d x : Nat} {σ : Sto} {z : Int}
noncomputable abbrev brL (t : List Nat) (a g b : Nat) (z : Int) : Loc := [some (.str t), some (.int (a : Int)), some (.int (t.length : Int)), some (.int (g : Int)), some (.int (b : Int)), some (.str []), some (.int z), none, none]
theorem br_in1 (h : Suf t b (c :: r)) (hc : [123, 125, 92].contains c = false) : LP N d t_braces_1 w_braces_1 (n + 1) (brL t a g b z) σ = LP N d t_braces_1 w_braces_1 n (brL t a g (b + 1) z) σ := by
  have hl := h.lt
  delta t_braces_1 w_braces_1
  (repeat' (first | walk_at "mini" | ((with_reducible show idxV _ _ _ = _); exact h.idx) | ((with_reducible show cmpV _ _ _ _ = _); exact c_niS)))
theorem br_in2 (h : Suf t b (x :: r)) (hc : [123, 125, 92].contains x = true) : LP N d t_braces_1 w_braces_1 (n + 1) (brL t a g b z) σ = some (.next, brL t a g b z, σ) := by
  have hl := h.lt
  delta t_braces_1 w_braces_1
  refine wh_end ?_
  (repeat' (first | walk_at "mini" | ((with_reducible show idxV _ _ _ = _); exact h.idx) | ((with_reducible show cmpV _ _ _ _ = _); exact c_niS)))
theorem br_inner {t r : List Nat} {x : Nat} (hx : [123, 125, 92].contains x = true) {d a g : Nat} {σ : Sto} {z : Int} : ∀ (v : List Nat) (n b : Nat), v.length < n → (∀ c ∈ v, [123, 125, 92].contains c = false) → Suf t b (v ++ x :: r) →
    LP N d t_braces_1 w_braces_1 n (brL t a g b z) σ = some (.next, brL t a g (b + v.length) z, σ)
  | _, 0, _, hn, _, _ => absurd hn (Nat.not_lt_zero _)
  | [], n + 1, b, hn, hv, h => br_in2 h hx
  | c :: v, n + 1, b, hn, hv, h => by
    rw [br_in1 h (hv c (List.mem_cons_self ..)), br_inner hx v n (b + 1) (Nat.lt_of_succ_lt_succ hn) (fun c hc => hv c (List.mem_cons_of_mem _ hc)) h.step]
    have e : b + 1 + v.length = b + (c :: v).length := by simp; omega
    rw [e]
theorem br1 (h : Suf t b (123 :: r)) : LP N d t_braces_0 w_braces_0 (n + 1) (brL t a g b z) σ = LP N d t_braces_0 w_braces_0 n (brL t a g (b + 1) (z + 1)) σ := by
  have hl := h.lt
  delta t_braces_0 w_braces_0
  (repeat' (first | walk_at "mini" | ((with_reducible show idxV _ _ _ = _); exact h.idx)))
theorem br2 (h : Suf t b (125 :: r)) (hz : (z - 1 == 0) = false) : LP N d t_braces_0 w_braces_0 (n + 1) (brL t a g b z) σ = LP N d t_braces_0 w_braces_0 n (brL t a g (b + 1) (z - 1)) σ := by
  have hl := h.lt
  delta t_braces_0 w_braces_0
  (repeat' (first | walk_at "mini" | ((with_reducible show idxV _ _ _ = _); exact h.idx)))
theorem br3 (h : Suf t b (125 :: r)) (hz : (z - 1 == 0) = true) {w : List Nat} (hw : ∀ σ, slcV σ (.str t) (g : Int) ((b : Int) + 1 - 1) = some (.str w)) (hlw : ([] : List Nat).length + w.length ≤ line) : ∃ ρ, LP N d t_braces_0 w_braces_0 (n + 1) (brL t a g b z) σ = some (.ret (.tup [.str w, .int ((b + 1 : Nat) : Int)]), ρ, σ) := by
  have hl := h.lt
  apply Exists.intro
  delta t_braces_0 w_braces_0
  (repeat' (first | walk_at "mini" | ((with_reducible show idxV _ _ _ = _); exact h.idx) | ((with_reducible show slcV _ _ _ _ = _); exact hw _) | ((with_reducible show binV _ _ _ _ = _); exact b_addS hlw)))
theorem br4 (h : Suf t b (92 :: c :: r)) (hc : c ≠ 10) : LP N d t_braces_0 w_braces_0 (n + 1) (brL t a g b z) σ = LP N d t_braces_0 w_braces_0 n (brL t a g (b + 2) z) σ := by
  have hl := h.lt
  have h2 : ((92 :: c :: r).take 2 == [92, 10]) = false := by simp [hc]
  delta t_braces_0 w_braces_0
  (repeat' (first | walk_at "mini" | ((with_reducible show idxV _ _ _ = _); exact h.idx) | ((with_reducible show slcV _ _ _ _ = _); exact h.cut2)))
theorem br5 {v : List Nat} (hN : line < N) (h : Suf t b (c :: (v ++ x :: r))) (hc : [123, 125, 92].contains c = false) (hv : ∀ c ∈ v, [123, 125, 92].contains c = false) (hx : [123, 125, 92].contains x = true) : LP N d t_braces_0 w_braces_0 (n + 1) (brL t a g b z) σ = LP N d t_braces_0 w_braces_0 n (brL t a g (b + (v.length + 1)) z) σ := by
  have hl := h.lt
  have hc' : c ≠ 123 ∧ c ≠ 125 ∧ c ≠ 92 := by simpa using hc
  obtain ⟨h1, h2, h3⟩ := hc'
  have h4 : ((c :: (v ++ x :: r)).take 2 == [92, 10]) = false := by cases v <;> simp [h3]
  have e := br_inner (N := N) (d := d) (a := a) (g := g) (σ := σ) (z := z) hx (c :: v) N b (by have := h.le; simp at this ⊢; omega) (fun c' hc' => by rcases List.mem_cons.mp hc' with rfl | q; exact hc; exact hv _ q) h
  delta t_braces_0 w_braces_0
  (repeat' (first | walk_at "mini" | ((with_reducible show idxV _ _ _ = _); exact h.idx) | ((with_reducible show slcV _ _ _ _ = _); exact h.cut2) | ((with_reducible show whileN _ _ _ _ _ = _); exact e)))
end
theorem br_loop (hN : line < N) {t w r : List Nat} {a g d : Nat} {σ : Sto} (hw : Suf t g (w ++ 125 :: r)) : ∀ (k : Nat) (u : List Nat) (m n b : Nat) (z : Int), u.length < k → k ≤ n → Br m u → z = (m : Int) + 1 → Suf t b (u ++ 125 :: r) → b + u.length = g + w.length →
    ∃ ρ, LP N d t_braces_0 w_braces_0 n (brL t a g b z) σ = some (.ret (.tup [.str w, .int ((g + w.length + 1 : Nat) : Int)]), ρ, σ)
  | 0, _, _, _, _, _, hk, _, _, _, _, _ => absurd hk (Nat.not_lt_zero _)
  | k + 1, u, m, n, b, z, hk, hn, B, hz, h, hg => by
    obtain ⟨n, rfl⟩ : ∃ n', n = n' + 1 := ⟨n - 1, by omega⟩
    cases B with
    | nil =>
      have hb : b = g + w.length := by simpa using hg
      subst hb
      refine br3 h (by subst hz; rfl) (fun σ => ?_) (by have := hw.le; simp at this ⊢; omega)
      rw [show (((g + w.length : Nat) : Int) + 1 - 1) = ((g + w.length : Nat) : Int) by omega]
      exact hw.cutTo
    | op B =>
      rw [br1 h]
      exact br_loop hN hw k _ (m + 1) n (b + 1) (z + 1) (Nat.lt_of_succ_lt_succ hk) (by omega) B (by omega) h.step (by simp at hg; omega)
    | @cl m u B =>
      rw [br2 h (by rw [beq_eq_false_iff_ne]; omega)]
      exact br_loop hN hw k _ m n (b + 1) (z - 1) (Nat.lt_of_succ_lt_succ hk) (by omega) B (by omega) h.step (by simp at hg; omega)
    | esc hc B =>
      rw [br4 h hc]
      exact br_loop hN hw k _ m n (b + 2) z (by simp at hk; omega) (by omega) B hz h.step.step (by simp at hg; omega)
    | lit hc B =>
      obtain ⟨v, u', rfl, hv, B', x, y, hx, hx'⟩ := B.run
      have hx2 : u' ++ 125 :: r = x :: (y ++ r) := by
        have := congrArg (· ++ r) hx
        simpa using this
      have h' := h
      simp only [List.cons_append, List.append_assoc, hx2] at h'
      rw [br5 hN h' hc hv hx']
      have h3 : Suf t (b + (v.length + 1)) (u' ++ 125 :: r) := by
        have := h'.step.skip
        rw [hx2, show b + (v.length + 1) = b + 1 + v.length by omega]
        exact this
      exact br_loop hN hw k u' m n _ z (by simp at hk; omega) (by omega) B' hz h3 (by simp at hg; omega)
theorem y_braces (hN : line < N) {t u r : List Nat} {a : Nat} (B : Br 0 u) (h : Suf t a (123 :: (u ++ 125 :: r))) : Yields N 1 .braces [.str t, .int a] (.tup [.str u, .int ((a + 1 + u.length + 1 : Nat) : Int)]) := by
  refine yields_pure (us := [.str t, .int a]) rfl rfl rfl fun d σ hd => ?_
  show outR (exSs _ N b_braces [some (.str t), some (.int a), none, none, none, none, none, none, none] σ) = _
  obtain ⟨ρ, e⟩ := br_loop (N := N) (a := a) (d := d) (σ := σ) hN h.step N u 0 N (a + 1) 1 (by have := h.le; simp at this; omega) (Nat.le_refl _) B rfl h.step rfl
  delta b_braces
  (repeat' (first | walk_at "mini" | ((with_reducible show whileN _ _ _ _ _ = _); exact e)))
end
end

section
section
variable {N : Nat}
/-! ## Runs of signs -/
inductive Dec (S : List Nat) : List Nat → List Nat → Prop
  | nil : Dec S [] []
  | lit {c : Nat} {w x : List Nat} (h1 : [36, 91, 92].contains c = false) (h2 : S.contains c = false) (h : Dec S w x) : Dec S (c :: w) (c :: x)
  | esc {e w x : List Nat} {y : Nat} (h1 : BsOf e y) (h : Dec S w x) : Dec S (e ++ w) (y :: x)
noncomputable def Halt (S r : List Nat) : Prop := r = [] ∨ ∃ c r', r = c :: r' ∧ ([36, 91, 92].contains c = true ∨ [36, 91, 92].contains c = false ∧ S.contains c = true)
/-- where a run of signs ends -/
noncomputable def EndAt (S r : List Nat) : Prop := r = [] ∨ (∃ c r', r = c :: r' ∧ S.contains c = true) ∨ (S.contains 32 = true ∧ ∃ r', r = 92 :: 10 :: r')
theorem BsOf.head {e : List Nat} {x : Nat} (B : BsOf e x) : ∃ c e', e = 92 :: c :: e' ∧ c ≠ 10 := by
  cases B with
  | known h =>
    refine ⟨_, _, rfl, ?_⟩
    rintro rfl; simp at h
  | other h1 h2 => exact ⟨_, _, rfl, h2⟩
  | hex hs => exact ⟨_, _, rfl, by rcases hs with rfl | rfl | rfl <;> decide⟩
  | oct e1 e2 e3 l1 l2 l3 h4 hx => exact ⟨_, _, rfl, by rintro rfl; simp at h4⟩
theorem Dec.run {S w x : List Nat} (D : Dec S w x) : ∃ v w' x', w = v ++ w' ∧ x = v ++ x' ∧ (∀ c ∈ v, [36, 91, 92].contains c = false ∧ S.contains c = false) ∧ Dec S w' x' ∧ (w' = [] ∨ ∃ w'', w' = 92 :: w'') := by
  induction D with
  | nil => exact ⟨[], [], [], rfl, rfl, fun c hc => by simp at hc, .nil, .inl rfl⟩
  | lit h1 h2 h ih =>
    obtain ⟨v, w', x', rfl, rfl, h3, h4, h5⟩ := ih
    exact ⟨_ :: v, w', x', rfl, rfl, fun c' hc' => by rcases List.mem_cons.mp hc' with rfl | q; exact ⟨h1, h2⟩; exact h3 _ q, h4, h5⟩
  | esc h1 h ih =>
    obtain ⟨c, e', rfl, hc⟩ := h1.head
    exact ⟨[], _, _, rfl, rfl, fun c hc => by simp at hc, .esc h1 h, .inr ⟨_, rfl⟩⟩
noncomputable abbrev txt : List Nat := [116, 101, 120, 116]
noncomputable abbrev signs (S : List Nat) : List Vl := S.map fun x => .str [x]
noncomputable abbrev puL (t : List Nat) (a : Nat) (S : List Nat) (pr : Vl) (R : List Nat) (p6 p7 p8 p9 : Option Vl) : Loc := [some (.str t), some (.int (a : Int)), some (.tup (signs S)), some pr, some (.str R), some (.int (t.length : Int)), p6, p7, p8, p9]
section
variable {t s r v e S R : List Nat} {a b c n d x : Nat} {σ : Sto} {p6 p7 p8 p9 : Option Vl} {pr : Vl}
theorem pu_in1 (h : Suf t a (c :: r)) (h1 : [36, 91, 92].contains c = false) (h2 : S.contains c = false) : LP N d t_parts_until_1 w_parts_until_1 (n + 1) (puL t a S pr R p6 p7 p8 p9) σ = LP N d t_parts_until_1 w_parts_until_1 n (puL t (a + 1) S pr R p6 p7 p8 p9) σ := by
  have hl := h.lt
  delta t_parts_until_1 w_parts_until_1
  (repeat' (first | walk_at "mini" | ((with_reducible show idxV _ _ _ = _); exact h.idx) | ((with_reducible show cmpV _ _ _ _ = _); exact c_niS) | ((with_reducible show cmpV _ _ _ _ = _); exact c_niT (inStrs_map c S))))
theorem pu_in2 (h : Suf t a r) (hh : Halt S r) : LP N d t_parts_until_1 w_parts_until_1 (n + 1) (puL t a S pr R p6 p7 p8 p9) σ = some (.next, puL t a S pr R p6 p7 p8 p9, σ) := by
  rcases hh with rfl | ⟨c, r', rfl, h1 | ⟨h1, h2⟩⟩
  · have hl := h.end
    delta t_parts_until_1 w_parts_until_1
    refine wh_end ?_
    (repeat' (first | walk_at "mini"))
  · have hl := h.lt
    delta t_parts_until_1 w_parts_until_1
    refine wh_end ?_
    (repeat' (first | walk_at "mini" | ((with_reducible show idxV _ _ _ = _); exact h.idx) | ((with_reducible show cmpV _ _ _ _ = _); exact c_niS)))
  · have hl := h.lt
    delta t_parts_until_1 w_parts_until_1
    refine wh_end ?_
    (repeat' (first | walk_at "mini" | ((with_reducible show idxV _ _ _ = _); exact h.idx) | ((with_reducible show cmpV _ _ _ _ = _); exact c_niS) | ((with_reducible show cmpV _ _ _ _ = _); exact c_niT (inStrs_map c S))))
theorem pu_inner {t r S R : List Nat} (hh : Halt S r) {d : Nat} {σ : Sto} {p6 p7 p8 p9 : Option Vl} {pr : Vl} : ∀ (v : List Nat) (n a : Nat), v.length < n → (∀ c ∈ v, [36, 91, 92].contains c = false ∧ S.contains c = false) → Suf t a (v ++ r) →
    LP N d t_parts_until_1 w_parts_until_1 n (puL t a S pr R p6 p7 p8 p9) σ = some (.next, puL t (a + v.length) S pr R p6 p7 p8 p9, σ)
  | _, 0, _, hn, _, _ => absurd hn (Nat.not_lt_zero _)
  | [], n + 1, a, hn, hv, h => pu_in2 h hh
  | c :: v, n + 1, a, hn, hv, h => by
    have hc := hv c (List.mem_cons_self ..)
    rw [pu_in1 h hc.1 hc.2, pu_inner hh v n (a + 1) (Nat.lt_of_succ_lt_succ hn) (fun c hc => hv c (List.mem_cons_of_mem _ hc)) h.step]
    have e : a + 1 + v.length = a + (c :: v).length := by simp; omega
    rw [e]
theorem pu1 (hN : line < N) (h : Suf t a ((c :: v) ++ r)) (hv : ∀ x ∈ c :: v, [36, 91, 92].contains x = false ∧ S.contains x = false) (hh : Halt S r) (hR : R.length + (c :: v).length ≤ line) :
    LP N d t_parts_until_0 w_parts_until_0 (n + 1) (puL t a S pr R p6 p7 p8 p9) σ = LP N d t_parts_until_0 w_parts_until_0 n (puL t (a + (c :: v).length) S pr (R ++ c :: v) (some (.tup [.str txt, .str (c :: v)])) p7 (some (.int a)) p9) σ := by
  have h' : Suf t a (c :: (v ++ r)) := h
  have hl := h'.lt
  obtain ⟨h1, h2⟩ := hv c (List.mem_cons_self ..)
  have h3 : c ≠ 36 ∧ c ≠ 91 ∧ c ≠ 92 := by simpa using h1
  obtain ⟨k1, k2, k3⟩ := h3
  have e := pu_inner (N := N) (d := d) (σ := σ) (p6 := p6) (p7 := p7) (p8 := some (.int a)) (p9 := p9) (pr := pr) (R := R) hh (c :: v) N a (by have := h.le; simp at this ⊢; omega) hv h
  delta t_parts_until_0 w_parts_until_0
  (repeat' (first | walk_at "mini" | ((with_reducible show idxV _ _ _ = _); exact h'.idx) | ((with_reducible show idxV _ _ _ = _); exact rfl) | ((with_reducible show cmpV _ _ _ _ = _); exact c_niT (inStrs_map c S)) | ((with_reducible show slcV _ _ _ _ = _); exact h.cutTo) | ((with_reducible show whileN _ _ _ _ _ = _); exact e) | ((with_reducible show augV _ _ _ = _); exact a_addS hR)))
theorem pu2 (hd : 3 ≤ d) (hN : line < N) (B : BsOf e x) (h : Suf t a (e ++ r)) (hS : S.contains 92 = false) (hR : R.length + [x].length ≤ line) :
    LP N d t_parts_until_0 w_parts_until_0 (n + 1) (puL t a S pr R p6 p7 p8 p9) σ = LP N d t_parts_until_0 w_parts_until_0 n (puL t (a + e.length) S pr (R ++ [x]) (some (.tup [.str txt, .str [x]])) p7 p8 (some (.str [x]))) σ := by
  have y := (y_backslash (N := N) hN B h).at hd σ
  obtain ⟨c, e', rfl, hc⟩ := B.head
  have h' : Suf t a (92 :: c :: (e' ++ r)) := h
  have hl := h'.lt
  have h1 := h'.step
  cases hs : S.contains 32
  · delta t_parts_until_0 w_parts_until_0
    (repeat' (first | walk_at "mini" | ((with_reducible show idxV _ _ _ = _); exact h'.idx) | ((with_reducible show idxV _ _ _ = _); exact rfl) | ((with_reducible show cmpV _ _ _ _ = _); exact c_niT (inStrs_map 92 S)) | ((with_reducible show cmpV _ _ _ _ = _); exact c_inT (inStrs_map 32 S)) | ((with_reducible show callN _ _ _ _ _ _ = _); exact y) | ((with_reducible show augV _ _ _ = _); exact a_addS hR)))
  · delta t_parts_until_0 w_parts_until_0
    (repeat' (first | walk_at "mini" | ((with_reducible show idxV _ _ _ = _); exact h'.idx) | ((with_reducible show idxV _ _ _ = _); exact rfl) | ((with_reducible show cmpV _ _ _ _ = _); exact c_niT (inStrs_map 92 S)) | ((with_reducible show cmpV _ _ _ _ = _); exact c_inT (inStrs_map 32 S)) | ((with_reducible show slcV _ _ _ _ = _); exact h1.c1) | ((with_reducible show callN _ _ _ _ _ _ = _); exact y) | ((with_reducible show augV _ _ _ = _); exact a_addS hR)))
theorem pu3 (h : Suf t a r) (hS : S.contains 92 = false) (hE : EndAt S r) : LP N d t_parts_until_0 w_parts_until_0 (n + 1) (puL t a S pr R p6 p7 p8 p9) σ = some (.next, puL t a S pr R p6 p7 p8 p9, σ) := by
  rcases hE with rfl | ⟨c, r', rfl, hc⟩ | ⟨hs, r', rfl⟩
  · have hl := h.end
    delta t_parts_until_0 w_parts_until_0
    refine wh_end ?_
    (repeat' (first | walk_at "mini"))
  · have hl := h.lt
    delta t_parts_until_0 w_parts_until_0
    refine wh_end ?_
    (repeat' (first | walk_at "mini" | ((with_reducible show idxV _ _ _ = _); exact h.idx) | ((with_reducible show cmpV _ _ _ _ = _); exact c_niT (inStrs_map c S))))
  · have hl := h.lt
    have h1 := h.step
    delta t_parts_until_0 w_parts_until_0
    (repeat' (first | walk_at "mini" | ((with_reducible show idxV _ _ _ = _); exact h.idx) | ((with_reducible show cmpV _ _ _ _ = _); exact c_niT (inStrs_map 92 S)) | ((with_reducible show cmpV _ _ _ _ = _); exact c_inT (inStrs_map 32 S)) | ((with_reducible show slcV _ _ _ _ = _); exact h1.c1)))
end
theorem EndAt.halt {S r : List Nat} (h : EndAt S r) : Halt S r := by
  rcases h with rfl | ⟨c, r', rfl, hc⟩ | ⟨hs, r', rfl⟩
  · exact .inl rfl
  · refine .inr ⟨_, _, rfl, ?_⟩
    cases q : [36, 91, 92].contains c
    · exact .inr ⟨rfl, hc⟩
    · exact .inl rfl
  · exact .inr ⟨_, _, rfl, .inl rfl⟩
theorem pu_loop (hN : line < N) {t r S : List Nat} (hS : S.contains 92 = false) (hE : EndAt S r) {d : Nat} {σ : Sto} (hd : 3 ≤ d) {pr : Vl} : ∀ (k : Nat) (w x R : List Nat) (n a : Nat) (p6 p7 p8 p9 : Option Vl), w.length < k → k ≤ n → Dec S w x → Suf t a (w ++ r) → R.length + x.length ≤ line →
    ∃ x6 x7 x8 x9, LP N d t_parts_until_0 w_parts_until_0 n (puL t a S pr R p6 p7 p8 p9) σ = some (.next, puL t (a + w.length) S pr (R ++ x) x6 x7 x8 x9, σ)
  | 0, _, _, _, _, _, _, _, _, _, hk, _, _, _, _ => absurd hk (Nat.not_lt_zero _)
  | k + 1, w, x, R, n, a, p6, p7, p8, p9, hk, hn, D, h, hR => by
    obtain ⟨n, rfl⟩ : ∃ n', n = n' + 1 := ⟨n - 1, by omega⟩
    obtain ⟨v, w', x', rfl, rfl, hv, D', hw'⟩ := D.run
    cases v with
    | nil =>
      cases D' with
      | nil => exact ⟨p6, p7, p8, p9, by rw [pu3 h hS hE]; simp⟩
      | lit h1 h2 D'' =>
        rcases hw' with q | ⟨w'', q⟩
        · cases q
        · cases q; simp at h1
      | @esc e w2 x2 y B D'' =>
        have h2 : Suf t a (e ++ (w2 ++ r)) := by simpa using h
        have hl : 0 < e.length := by obtain ⟨c, e', rfl, _⟩ := B.head; simp
        rw [pu2 hd hN B h2 hS (by simp at hR ⊢; omega)]
        obtain ⟨x6, x7, x8, x9, e1⟩ := pu_loop hN hS hE hd (σ := σ) (pr := pr) k w2 x2 (R ++ [y]) n (a + e.length) (some (.tup [.str txt, .str [y]])) p7 p8 (some (.str [y])) (by simp at hk; omega) (by omega) D'' h2.skip (by simp at hR ⊢; omega)
        refine ⟨x6, x7, x8, x9, ?_⟩
        rw [e1, show a + e.length + w2.length = a + ([] ++ (e ++ w2)).length by simp; omega, show R ++ [y] ++ x2 = R ++ ([] ++ y :: x2) by simp]
    | cons c v =>
      have h2 : Suf t a ((c :: v) ++ (w' ++ r)) := by simpa using h
      have hh : Halt S (w' ++ r) := by
        rcases hw' with rfl | ⟨w'', rfl⟩
        · exact hE.halt
        · exact .inr ⟨_, _, rfl, .inl rfl⟩
      rw [pu1 hN h2 hv hh (by simp at hR ⊢; omega)]
      obtain ⟨x6, x7, x8, x9, e1⟩ := pu_loop hN hS hE hd (σ := σ) (pr := pr) k w' x' (R ++ c :: v) n (a + (c :: v).length) (some (.tup [.str txt, .str (c :: v)])) p7 (some (.int a)) p9 (by simp at hk; omega) (by omega) D' h2.skip (by simp at hR ⊢; omega)
      refine ⟨x6, x7, x8, x9, ?_⟩
      rw [e1, show a + (c :: v).length + w'.length = a + (c :: v ++ w').length by simp; omega, List.append_assoc]
noncomputable def partsOf (x : List Nat) : List Vl := match x with
  | [] => []
  | c :: r => [.tup [.str txt, .str (c :: r)]]
theorem m_app {σ : Sto} {l : List Vl} {v : Vl} (h : l.length < line) : methV (σ ++ [.list l]) .append (.ref σ.length) [v] = some (.none, σ ++ [.list (l ++ [v])]) := by
  rw [mt_append lstI_end h, sto_set]
theorem mk_app {σ : Sto} {l : List Vl} : methK (σ ++ [.list l]) .append (.ref σ.length) = true := by
  show (lstI (σ ++ [.list l]) σ.length).isSome = true
  rw [lstI_end]; rfl
theorem lst_at {σ : Sto} {l : List Vl} : lstOf (σ ++ [.list l]) (.ref σ.length) = some l := lstI_end
theorem bi_tupR {σ : Sto} {l : List Vl} : biV (σ ++ [.list l]) .tuple [.ref σ.length] = some (.tup l) := mp (f := fun l => Vl.tup l) lst_at
theorem y_parts_until (hN : line < N) {t r S w x : List Nat} {a : Nat} (hS : S.contains 92 = false) (hE : EndAt S r) (D : Dec S w x) (h : Suf t a (w ++ r)) (hx : x.length ≤ line) :
    Yields N 4 .parts_until [.str t, .int a, .tup (signs S)] (.tup [.tup (partsOf x), .int ((a + w.length : Nat) : Int)]) := by
  have hf : noref 0 (.tup [.tup (partsOf x), .int ((a + w.length : Nat) : Int)]) = true := by cases x <;> rfl
  refine yields_pureT [.list (partsOf x)] (us := [.str t, .int a, .tup (signs S)]) rfl rfl hf fun d σ hd => ?_
  show outR (exSs _ N b_parts_until [some (.str t), some (.int a), some (.tup (signs S)), none, none, none, none, none, none, none] σ) = _
  obtain ⟨x6, x7, x8, x9, e⟩ := pu_loop (N := N) hN hS hE (d := d) (σ := σ ++ [.list []]) hd (pr := .ref σ.length) N w x [] N a none none none none (by have := h.le; simp at this; omega) (Nat.le_refl _) D h (by simpa using hx)
  cases x with
  | nil =>
    delta b_parts_until
    (repeat' (first | walk_at "mini" | ((with_reducible show whileN _ _ _ _ _ = _); exact e) | ((with_reducible show biV _ _ _ = _); exact bi_tupR)))
  | cons c y =>
    delta b_parts_until
    (repeat' (first | walk_at "mini" | ((with_reducible show whileN _ _ _ _ _ = _); exact e) | ((with_reducible show methK _ _ _ = _); exact mk_app) | ((with_reducible show methV _ _ _ _ = _); exact m_app (by decide)) | ((with_reducible show biV _ _ _ = _); exact bi_tupR)))
end
end

section
section
variable {N : Nat}
/-! ## Words -/
noncomputable abbrev bareS : List Nat := [32, 9, 11, 12, 13, 10, 59]
theorem y_bare_stops : Yields N 1 .bare_stops [.bool false] (.tup (signs bareS)) := by
  refine yields_pure (us := [.bool false]) rfl rfl rfl fun d σ hd => ?_
  show outR (exSs _ N b_bare_stops [some (.bool false)] σ) = _
  delta b_bare_stops
  (repeat' (first | walk_at "mini"))
theorem inNl (c : Nat) : inStrs [c] [.str [], .str [10], .str [59]] = some ([10, 59].contains c) := by
  show (inStrs [c] ([10, 59].map fun x => Vl.str [x])).map (fun x => (([] : List Nat) == [c]) || x) = _
  rw [inStrs_map]; rfl
theorem inNl0 : inStrs [] [.str [], .str [10], .str [59]] = some true := rfl
theorem skipG_len : ∀ (n : Nat) (s : List Nat), s.length ≤ n → (skipG s).length ≤ s.length
  | _, [], _ => Nat.le_refl _
  | 0, c :: r, h => absurd h (by simp)
  | n + 1, c :: r, h => by
    have hr : r.length ≤ n := by simpa using h
    cases g : isGapB c with
    | true => rw [skipG_gap g]; have := skipG_len n r hr; simp; omega
    | false =>
      cases g2 : ((c :: r).take 2 == [92, 10]) with
      | false => rw [skipG_no g g2]; exact Nat.le_refl _
      | true =>
        cases r with
        | nil => simp at g2
        | cons c2 r =>
          simp at g2
          obtain ⟨rfl, rfl⟩ := g2
          have := skipG_len n r (by simp at hr; omega)
          show (skipG r).length ≤ _
          simp; omega
theorem Suf.same {t s : List Nat} {a b : Nat} (h : Suf t a s) (h' : Suf t b s) : a = b := by have := h.len; have := h'.len; omega
section
variable {t s r : List Nat} {a c n d x : Nat} {σ : Sto}
theorem y_isx1 (h : Suf t a s) (hs : (s.take 3 != [123, 42, 125]) = true) : Yields N 3 .is_expanded [.str t, .int a] (.bool false) := by
  refine yields_pure (us := [.str t, .int a]) rfl rfl rfl fun d σ hd => ?_
  show outR (exSs _ N b_is_expanded [some (.str t), some (.int a), none] σ) = _
  delta b_is_expanded
  (repeat' (first | walk_at "mini" | ((with_reducible show slcV _ _ _ _ = _); exact h.cut3)))
theorem y_isx2 (hN : line < N) (h : Suf t a (123 :: 42 :: 125 :: r)) (hE : EndAt bareS r) : Yields N 3 .is_expanded [.str t, .int a] (.bool false) := by
  have h3 := h.step.step.step
  refine yields_pure (us := [.str t, .int a]) rfl rfl rfl fun d σ hd => ?_
  show outR (exSs _ N b_is_expanded [some (.str t), some (.int a), none] σ) = _
  obtain ⟨a', h1, y⟩ := y_skip_gaps hN h3
  have y := y.at hd σ
  have key : skipG r ≠ r → (((a' : Int)) == (a : Int) + 3) = false := fun q => by
    rw [beq_eq_false_iff_ne]
    intro e
    have : a' = a + 3 := by omega
    subst this
    exact q (h1.1.symm.trans h3.1)
  have gap : ∀ c r', r = c :: r' → isGapB c = true → skipG r ≠ r := fun c r' e g q => by
    subst e
    rw [skipG_gap g] at q
    have := skipG_len _ r' (Nat.le_refl _)
    rw [q] at this
    simp at this
    omega
  rcases hE with rfl | ⟨c, r', rfl, hc⟩ | ⟨_, r', rfl⟩
  · have e3 : slcV σ (.str t) (a : Int) ((a : Int) + 3) = some (.str [123, 42, 125]) := h.cut3
    have e4 : slcV σ (.str t) ((a : Int) + 3) ((a : Int) + 3 + 1) = some (.str []) := h3.c1n
    delta b_is_expanded
    (repeat' (first | walk_at "mini" | with_reducible exact e3 | with_reducible exact e4 | with_reducible exact c_inT inNl0))
  · have e3 : slcV σ (.str t) (a : Int) ((a : Int) + 3) = some (.str [123, 42, 125]) := h.cut3
    have e4 : slcV σ (.str t) ((a : Int) + 3) ((a : Int) + 3 + 1) = some (.str [c]) := h3.c1
    have y' : callN D N d .skip_gaps [.str t, .int ((a : Int) + 3)] σ = some (.int a', σ) := y
    cases hn : [10, 59].contains c
    · have hg : isGapB c = true := by
        simp only [List.contains_cons, List.contains_nil, Bool.or_false, Bool.or_eq_false_iff, beq_eq_false_iff_ne] at hn
        simpa [isGapB, hn.1, hn.2] using hc
      have hk := key (gap c r' rfl hg)
      delta b_is_expanded
      (repeat' (first | walk_at "mini" | with_reducible exact e3 | with_reducible exact e4 | with_reducible exact c_inT (inNl c) | with_reducible exact y'))
    · delta b_is_expanded
      (repeat' (first | walk_at "mini" | with_reducible exact e3 | with_reducible exact e4 | with_reducible exact c_inT (inNl c)))
  · have hk := key (fun q => by
      have := skipG_len _ r' (Nat.le_refl _)
      have q' : skipG r' = 92 :: 10 :: r' := q
      rw [q'] at this
      simp at this
      omega)
    have e3 : slcV σ (.str t) (a : Int) ((a : Int) + 3) = some (.str [123, 42, 125]) := h.cut3
    have e4 : slcV σ (.str t) ((a : Int) + 3) ((a : Int) + 3 + 1) = some (.str [92]) := h3.c1
    have y' : callN D N d .skip_gaps [.str t, .int ((a : Int) + 3)] σ = some (.int a', σ) := y
    delta b_is_expanded
    (repeat' (first | walk_at "mini" | with_reducible exact e3 | with_reducible exact e4 | with_reducible exact c_inT (inNl 92) | with_reducible exact y'))
theorem y_isx3 (hN : line < N) (h : Suf t a (123 :: 42 :: 125 :: c :: r)) (hc : [10, 59].contains c = false) (hg : skipG (c :: r) = c :: r) : Yields N 3 .is_expanded [.str t, .int a] (.bool true) := by
  have h3 := h.step.step.step
  refine yields_pure (us := [.str t, .int a]) rfl rfl rfl fun d σ hd => ?_
  show outR (exSs _ N b_is_expanded [some (.str t), some (.int a), none] σ) = _
  obtain ⟨a', h1, y⟩ := y_skip_gaps hN h3
  rw [hg] at h1
  have e := h1.same h3
  subst e
  have y := y.at hd σ
  have hk : (((a + 1 + 1 + 1 : Nat) : Int) == (a : Int) + 3) = true := by rw [beq_iff_eq]; omega
  have e3 : slcV σ (.str t) (a : Int) ((a : Int) + 3) = some (.str [123, 42, 125]) := h.cut3
  have e4 : slcV σ (.str t) ((a : Int) + 3) ((a : Int) + 3 + 1) = some (.str [c]) := h3.c1
  have y' : callN D N d .skip_gaps [.str t, .int ((a : Int) + 3)] σ = some (.int ((a + 1 + 1 + 1 : Nat) : Int), σ) := y
  delta b_is_expanded
  (repeat' (first | walk_at "mini" | with_reducible exact e3 | with_reducible exact e4 | with_reducible exact c_inT (inNl c) | with_reducible exact y'))
end
end
end

section
section
variable {N : Nat}
inductive Wd : List Nat → List Nat → Prop
  | bare {c : Nat} {w x : List Nat} (D : Dec bareS (c :: w) x) (h1 : c ≠ 123) (h2 : c ≠ 34) : Wd (c :: w) x
  | quot {w x : List Nat} (D : Dec [34] w x) : Wd (34 :: (w ++ [34])) x
  | brac {u : List Nat} (B : Br 0 u) : Wd (123 :: (u ++ [125])) u
inductive Cw : Bool → List Nat → List Nat → Prop
  | no {w x : List Nat} (W : Wd w x) : Cw false w x
  | yes {w x : List Nat} (W : Wd w x) : Cw true (123 :: 42 :: 125 :: w) x
theorem Dec.first {S w x : List Nat} {c : Nat} (D : Dec S (c :: w) x) : (c ≠ 92 ∧ S.contains c = false) ∨ ∃ c2 w2, c = 92 ∧ w = c2 :: w2 ∧ c2 ≠ 10 := by
  generalize hq : c :: w = q at D
  cases D with
  | nil => cases hq
  | lit h1 h2 h => cases hq; exact .inl ⟨by rintro rfl; simp at h1, h2⟩
  | esc h1 h =>
    obtain ⟨c2, e', rfl, hc⟩ := h1.head
    cases hq
    exact .inr ⟨_, _, rfl, rfl, hc⟩
theorem Wd.first {w x : List Nat} (W : Wd w x) (r : List Nat) : ∃ c w', w = c :: w' ∧ [10, 59].contains c = false ∧ skipG (w ++ r) = w ++ r := by
  cases W with
  | @bare c w x D h1 h2 =>
    refine ⟨c, w, rfl, ?_, ?_⟩
    · rcases D.first with ⟨_, h⟩ | ⟨c2, w2, rfl, rfl, hc⟩
      · simp only [List.contains_cons, List.contains_nil, Bool.or_false, Bool.or_eq_false_iff] at h ⊢
        exact ⟨h.2.2.2.2.2.1, h.2.2.2.2.2.2⟩
      · decide
    · rcases D.first with ⟨h3, h⟩ | ⟨c2, w2, rfl, rfl, hc⟩
      · refine skipG_no ?_ ?_
        · simp only [isGapB, List.contains_cons, List.contains_nil, Bool.or_false, Bool.or_eq_false_iff] at h ⊢
          exact ⟨h.1, h.2.1, h.2.2.1, h.2.2.2.1, h.2.2.2.2.1⟩
        · cases w <;> cases r <;> simp [h3]
      · exact skipG_no rfl (by simp [hc])
  | quot D => exact ⟨_, _, rfl, rfl, skipG_no rfl (by simp)⟩
  | brac B => exact ⟨_, _, rfl, rfl, skipG_no rfl (by simp)⟩
theorem nl_bare {r : List Nat} (h : EndAt bareS r) : EndAt bareS r := h
theorem end_quot (r : List Nat) : EndAt [34] (34 :: r) := .inr (.inl ⟨_, _, rfl, rfl⟩)
theorem Br.no_star {n : Nat} {u : List Nat} (B : Br 0 u) : u = [42] ∨ ∀ r, (((123 :: (u ++ [125])) ++ r).take 3 != [123, 42, 125]) = true := by
  cases u with
  | nil => exact .inr fun r => by simp
  | cons c u =>
    by_cases h : c = 42
    · subst h
      cases u with
      | nil => exact .inl rfl
      | cons c2 u =>
        right; intro r
        by_cases h2 : c2 = 125
        · subst h2
          cases B with
          | lit _ B =>
            cases B with
            | lit h _ => simp at h
        · simp [h2]
    · exact .inr fun r => by cases u <;> simp [h]
theorem y_isx (hN : line < N) {t r w x : List Nat} {a : Nat} (W : Wd w x) (hE : EndAt bareS r) (h : Suf t a (w ++ r)) : Yields N 3 .is_expanded [.str t, .int a] (.bool false) := by
  cases W with
  | bare D h1 h2 => exact y_isx1 h (by rename_i c w; cases w <;> cases r <;> simp [h1] <;> (rename_i w; cases w <;> simp [h1]))
  | quot D => exact y_isx1 h (by rename_i w; cases w <;> simp)
  | brac B =>
    rcases Br.no_star (n := 0) B with rfl | q
    · exact y_isx2 hN h hE
    · exact y_isx1 h (q r)
noncomputable def wv (p : Bool × List Nat) : Vl := .tup [.bool p.1, .tup (partsOf p.2)]
section
variable {t s r u w x : List Nat} {a c n d : Nat} {σ : Sto} {e : Bool}
theorem wd_brac (hN : line < N) (hd : 4 ≤ d) (B : Br 0 u) {a0 : Nat} (h : Suf t a0 (123 :: (u ++ [125]) ++ r)) (y : callN D N d .is_expanded [.str t, .int a] σ = some (.bool e, σ)) (ha : a0 = bif e then a + 3 else a) :
    outR (exSs (callN D N d) N b_word [some (.str t), some (.int a), some (.bool false), none, none, none, none, none, none] σ) = some (.tup [wv (e, u), .int ((a0 + 1 + u.length + 1 : Nat) : Int)], σ) := by
  have h' : Suf t a0 (123 :: (u ++ 125 :: r)) := by simpa using h
  have yb := (y_braces hN B h').at (by omega : 1 ≤ d) σ
  cases e <;> subst ha <;> cases u <;> delta b_word
  · (repeat' (first | walk_at "mini" | with_reducible exact y | ((with_reducible show slcV _ _ _ _ = _); exact h'.c1) | ((with_reducible show callN _ _ _ _ _ _ = _); exact yb)))
  · (repeat' (first | walk_at "mini" | with_reducible exact y | ((with_reducible show slcV _ _ _ _ = _); exact h'.c1) | ((with_reducible show callN _ _ _ _ _ _ = _); exact yb)))
  · (repeat' (first | walk_at "mini" | with_reducible exact y | ((with_reducible show slcV _ _ _ _ = _); exact h'.c1) | ((with_reducible show callN _ _ _ _ _ _ = _); exact yb)))
  · (repeat' (first | walk_at "mini" | with_reducible exact y | ((with_reducible show slcV _ _ _ _ = _); exact h'.c1) | ((with_reducible show callN _ _ _ _ _ _ = _); exact yb)))
theorem wd_quot (hN : line < N) (hd : 4 ≤ d) (D' : Dec [34] w x) (hx : x.length ≤ line) {a0 : Nat} (h : Suf t a0 (34 :: (w ++ [34]) ++ r)) (y : callN D N d .is_expanded [.str t, .int a] σ = some (.bool e, σ)) (ha : a0 = bif e then a + 3 else a) :
    outR (exSs (callN D N d) N b_word [some (.str t), some (.int a), some (.bool false), none, none, none, none, none, none] σ) = some (.tup [wv (e, x), .int ((a0 + 1 + w.length + 1 : Nat) : Int)], σ) := by
  have h' : Suf t a0 (34 :: (w ++ 34 :: r)) := by simpa using h
  have yb := (y_parts_until hN (S := [34]) rfl (end_quot r) D' h'.step hx).at (by omega : 4 ≤ d) σ
  have hg := h'.step.skip.ge
  cases e <;> subst ha <;> delta b_word
  · (repeat' (first | walk_at "mini" | with_reducible exact y | ((with_reducible show slcV _ _ _ _ = _); exact h'.c1) | ((with_reducible show callN _ _ _ _ _ _ = _); exact yb)))
  · (repeat' (first | walk_at "mini" | with_reducible exact y | ((with_reducible show slcV _ _ _ _ = _); exact h'.c1) | ((with_reducible show callN _ _ _ _ _ _ = _); exact yb)))
theorem wd_bare (hN : line < N) (hd : 4 ≤ d) (D' : Dec bareS (c :: w) x) (h1 : c ≠ 123) (h2 : c ≠ 34) (hE : EndAt bareS r) (hx : x.length ≤ line) {a0 : Nat} (h : Suf t a0 (c :: w ++ r)) (y : callN D N d .is_expanded [.str t, .int a] σ = some (.bool e, σ)) (ha : a0 = bif e then a + 3 else a) :
    outR (exSs (callN D N d) N b_word [some (.str t), some (.int a), some (.bool false), none, none, none, none, none, none] σ) = some (.tup [wv (e, x), .int ((a0 + (w.length + 1) : Nat) : Int)], σ) := by
  have h' : Suf t a0 (c :: (w ++ r)) := h
  have yb := (y_parts_until hN (S := bareS) rfl hE D' h hx).at (by omega : 4 ≤ d) σ
  have ys := (y_bare_stops (N := N)).at (by omega : 1 ≤ d) σ
  cases e <;> subst ha <;> delta b_word
  · (repeat' (first | walk_at "mini" | with_reducible exact y | with_reducible exact ys | ((with_reducible show slcV _ _ _ _ = _); exact h'.c1) | ((with_reducible show callN _ _ _ _ _ _ = _); exact yb)))
  · (repeat' (first | walk_at "mini" | with_reducible exact y | with_reducible exact ys | ((with_reducible show slcV _ _ _ _ = _); exact h'.c1) | ((with_reducible show callN _ _ _ _ _ _ = _); exact yb)))
end
theorem y_word (hN : line < N) {t r w x : List Nat} {a : Nat} {e : Bool} (W : Cw e w x) (hE : EndAt bareS r) (hx : x.length ≤ line) (h : Suf t a (w ++ r)) : Yields N 5 .word [.str t, .int a, .bool false] (.tup [wv (e, x), .int ((a + w.length : Nat) : Int)]) := by
  have hf : noref 0 (.tup [wv (e, x), .int ((a + w.length : Nat) : Int)]) = true := by cases x <;> rfl
  refine yields_pure (us := [.str t, .int a, .bool false]) rfl rfl hf fun d σ hd => ?_
  show outR (exSs _ N b_word [some (.str t), some (.int a), some (.bool false), none, none, none, none, none, none] σ) = _
  cases W with
  | no W =>
    have y := (y_isx hN W hE h).at (by omega : 3 ≤ d) σ
    cases W with
    | bare D h1 h2 => exact wd_bare hN hd D h1 h2 hE hx h y rfl
    | quot D =>
      rename_i w
      have e1 : a + (34 :: (w ++ [34])).length = a + 1 + w.length + 1 := by simp; omega
      rw [e1]; exact wd_quot hN hd D hx h y rfl
    | brac B =>
      have e1 : a + (123 :: (x ++ [125])).length = a + 1 + x.length + 1 := by simp; omega
      rw [e1]; exact wd_brac hN hd B h y rfl
  | @yes w x W =>
    obtain ⟨c, w', rfl, hc, hg⟩ := W.first r
    have y := (y_isx3 hN h hc hg).at (by omega : 3 ≤ d) σ
    have h3 : Suf t (a + 3) (c :: w' ++ r) := h.step.step.step
    generalize hw : c :: w' = w at *
    have e0 : a + (123 :: 42 :: 125 :: w).length = a + 3 + w.length := by simp; omega
    rw [e0]
    clear hw
    cases W with
    | bare D h1 h2 => exact wd_bare hN hd D h1 h2 hE hx h3 y rfl
    | quot D =>
      rename_i w
      have e1 : a + 3 + (34 :: (w ++ [34])).length = a + 3 + 1 + w.length + 1 := by simp; omega
      rw [e1]; exact wd_quot hN hd D hx h3 y rfl
    | brac B =>
      have e1 : a + 3 + (123 :: (x ++ [125])).length = a + 3 + 1 + x.length + 1 := by simp; omega
      rw [e1]; exact wd_brac hN hd B h3 y rfl
end
end

section
section
variable {N : Nat}
/-! ## Commands -/
noncomputable def Gap (g : List Nat) : Prop := (∀ s, skipG (g ++ s) = skipG s) ∧ (∀ s, EndAt bareS (g ++ s)) ∧ 0 < g.length
inductive Cmd : List Nat → List (Bool × List Nat) → Prop
  | one {e : Bool} {w x : List Nat} (W : Cw e w x) (hx : x.length ≤ line) : Cmd w [(e, x)]
  | cons {e : Bool} {w x g c : List Nat} {l : List (Bool × List Nat)} (W : Cw e w x) (hx : x.length ≤ line) (G : Gap g) (h : Cmd c l) : Cmd (w ++ (g ++ c)) ((e, x) :: l)
/-- what stands behind a command: r, of which r' is left -/
noncomputable def CmdEnd (r r' : List Nat) : Prop := EndAt bareS r ∧ ((skipG r = [] ∧ r' = []) ∨ ∃ c, skipG r = c :: r' ∧ [10, 59].contains c = true)
theorem Cw.first {e : Bool} {w x : List Nat} (W : Cw e w x) (r : List Nat) : ∃ c w', w = c :: w' ∧ [10, 59].contains c = false ∧ skipG (w ++ r) = w ++ r := by
  cases W with
  | no W => exact W.first r
  | yes W => exact ⟨_, _, rfl, rfl, skipG_no rfl (by simp)⟩
theorem Cmd.first {c : List Nat} {l : List (Bool × List Nat)} (K : Cmd c l) (r : List Nat) : ∃ x c', c = x :: c' ∧ [10, 59].contains x = false ∧ skipG (c ++ r) = c ++ r := by
  cases K with
  | one W hx => exact W.first r
  | cons W hx G h =>
    rename_i w x g c l
    obtain ⟨y, w', rfl, h1, h2⟩ := W.first (g ++ c ++ r)
    exact ⟨y, _, rfl, h1, by simpa using h2⟩
section
variable {t s r : List Nat} {a b c n d p q : Nat} {σ : Sto} {a0 : Int} {ws : List Vl} {p7 p8 : Option Vl} {v : Vl}
noncomputable abbrev caL (t : List Nat) (a0 : Int) (b : Nat) (j : Nat) (p : Nat) (p7 p8 : Option Vl) : Loc := [some (.str t), some (.int a0), some (.bool false), some (.int (b : Int)), some (.int (t.length : Int)), some (.ref j), some (.int (p : Int)), p7, p8]
theorem ca1 (hd : 5 ≤ d) (yw : Yields N 5 .word [.str t, .int p, .bool false] (.tup [v, .int (a : Int)])) (yg : Yields N 2 .skip_gaps [.str t, .int a] (.int q)) (h : Suf t q (c :: r)) (hc : [10, 59].contains c = false) (hne : q ≠ a) (hw : ws.length < line) :
    LP N d t_command_at_0 w_command_at_0 (n + 1) (caL t a0 b σ.length p p7 p8) (σ ++ [.list ws]) = LP N d t_command_at_0 w_command_at_0 n (caL t a0 b σ.length q (some v) (some (.int a))) (σ ++ [.list (ws ++ [v])]) := by
  have yw := fun σ => yw.at hd σ
  have yg := fun σ => yg.at (by omega : 2 ≤ d) σ
  have hl := h.ge
  have hne' : (((q : Int)) == (a : Int)) = false := by rw [beq_eq_false_iff_ne]; omega
  delta t_command_at_0 w_command_at_0
  (repeat' (first | walk_at "mini" | with_reducible exact yw _ | with_reducible exact yg _ | ((with_reducible show idxV _ _ _ = _); exact h.idx) | ((with_reducible show methK _ _ _ = _); exact mk_app) | ((with_reducible show methV _ _ _ _ = _); exact m_app hw) | ((with_reducible show cmpV _ _ _ _ = _); exact c_inT (inStrs_map c [10, 59]))))
theorem ca2 (hd : 5 ≤ d) (yw : Yields N 5 .word [.str t, .int p, .bool false] (.tup [v, .int (a : Int)])) (yg : Yields N 2 .skip_gaps [.str t, .int a] (.int q)) (h : Suf t q []) (hw : ws.length < line) :
    ∃ ρ, LP N d t_command_at_0 w_command_at_0 (n + 1) (caL t a0 b σ.length p p7 p8) (σ ++ [.list ws]) = some (.ret (.tup [.tup (ws ++ [v]), .int b, .int a, .int t.length]), ρ, σ ++ [.list (ws ++ [v])]) := by
  have yw := fun σ => yw.at hd σ
  have yg := fun σ => yg.at (by omega : 2 ≤ d) σ
  have hl := h.ged
  apply Exists.intro
  delta t_command_at_0 w_command_at_0
  (repeat' (first | walk_at "mini" | with_reducible exact yw _ | with_reducible exact yg _ | ((with_reducible show methK _ _ _ = _); exact mk_app) | ((with_reducible show methV _ _ _ _ = _); exact m_app hw) | ((with_reducible show biV _ _ _ = _); exact bi_tupR)))
theorem ca3 (hd : 5 ≤ d) (yw : Yields N 5 .word [.str t, .int p, .bool false] (.tup [v, .int (a : Int)])) (yg : Yields N 2 .skip_gaps [.str t, .int a] (.int q)) (h : Suf t q (c :: r)) (hc : [10, 59].contains c = true) (hw : ws.length < line) :
    ∃ ρ, LP N d t_command_at_0 w_command_at_0 (n + 1) (caL t a0 b σ.length p p7 p8) (σ ++ [.list ws]) = some (.ret (.tup [.tup (ws ++ [v]), .int b, .int a, .int ((q + 1 : Nat) : Int)]), ρ, σ ++ [.list (ws ++ [v])]) := by
  have yw := fun σ => yw.at hd σ
  have yg := fun σ => yg.at (by omega : 2 ≤ d) σ
  have hl := h.ge
  apply Exists.intro
  delta t_command_at_0 w_command_at_0
  (repeat' (first | walk_at "mini" | with_reducible exact yw _ | with_reducible exact yg _ | ((with_reducible show idxV _ _ _ = _); exact h.idx) | ((with_reducible show methK _ _ _ = _); exact mk_app) | ((with_reducible show methV _ _ _ _ = _); exact m_app hw) | ((with_reducible show cmpV _ _ _ _ = _); exact c_inT (inStrs_map c [10, 59])) | ((with_reducible show biV _ _ _ = _); exact bi_tupR)))
end
theorem ca_loop (hN : line < N) {t c : List Nat} {l : List (Bool × List Nat)} (K : Cmd c l) : ∀ {r r' : List Nat} (ws : List Vl) (p : Nat), CmdEnd r r' → Suf t p (c ++ r) → ws.length + l.length < line → ∃ e a', Suf t a' r' ∧ ∀ n d σ (a0 : Int) (b : Nat) (p7 p8 : Option Vl), l.length < n → 5 ≤ d → ∃ ρ,
    LP N d t_command_at_0 w_command_at_0 n (caL t a0 b σ.length p p7 p8) (σ ++ [.list ws]) = some (.ret (.tup [.tup (ws ++ l.map wv), .int b, .int (e : Nat), .int (a' : Nat)]), ρ, σ ++ [.list (ws ++ l.map wv)]) := by
  induction K with
  | @one e w x W hx =>
    intro r r' ws p hE h hl
    have yw := y_word hN W hE.1 hx h
    obtain ⟨q, hq, yg⟩ := y_skip_gaps hN h.skip
    rcases hE.2 with ⟨h1, rfl⟩ | ⟨c, h1, hc⟩
    · rw [h1] at hq
      refine ⟨p + w.length, t.length, hq.fin, fun n d σ a0 b p7 p8 hn hd => ?_⟩
      obtain ⟨m, rfl⟩ : ∃ m, n = m + 1 := ⟨n - 1, by omega⟩
      exact ca2 hd yw yg hq (by simp at hl; omega)
    · rw [h1] at hq
      refine ⟨p + w.length, q + 1, hq.step, fun n d σ a0 b p7 p8 hn hd => ?_⟩
      obtain ⟨m, rfl⟩ : ∃ m, n = m + 1 := ⟨n - 1, by omega⟩
      exact ca3 hd yw yg hq hc (by simp at hl; omega)
  | @cons e w x g c l W hx G K ih =>
    intro r r' ws p hE h hl
    have h1 : Suf t p (w ++ (g ++ (c ++ r))) := by simpa using h
    have yw := y_word hN W (G.2.1 _) hx h1
    obtain ⟨q, hq, yg⟩ := y_skip_gaps hN h1.skip
    obtain ⟨y, c', hc1, hc2, hc3⟩ := K.first r
    rw [G.1, hc3] at hq
    obtain ⟨e', a', h2, h3⟩ := ih (ws ++ [wv (e, x)]) q hE hq (by simp at hl ⊢; omega)
    refine ⟨e', a', h2, fun n d σ a0 b p7 p8 hn hd => ?_⟩
    obtain ⟨m, rfl⟩ : ∃ m, n = m + 1 := ⟨n - 1, by omega⟩
    have hne : q ≠ p + w.length := by
      have := hq.len; have := h1.skip.len; have := G.2.2
      simp at *; omega
    have hq' : Suf t q (y :: (c' ++ r)) := by rw [hc1] at hq; exact hq
    rw [ca1 hd yw yg hq' hc2 hne (by simp at hl; omega)]
    obtain ⟨ρ, e1⟩ := h3 m d σ a0 b (some (wv (e, x))) (some (.int ((p + w.length : Nat) : Int))) (by simp at hn; omega) hd
    exact ⟨ρ, by rw [e1]; simp⟩
theorem noref_wv (l : List (Bool × List Nat)) : norefs 0 (l.map wv) = true := by
  induction l with
  | nil => rfl
  | cons p l ih =>
    obtain ⟨e, x⟩ := p
    cases x <;> simp [norefs, noref, wv, partsOf, ih]
theorem y_command_at (hN : line < N) {t s c r r' : List Nat} {l : List (Bool × List Nat)} {a k : Nat} (h : Suf t a s) (S : Skips k s (c ++ r)) (hk : k < N) (K : Cmd c l) (hE : CmdEnd r r') (hl : l.length < line) :
    ∃ b e a', Suf t a' r' ∧ Yields N 6 .command_at [.str t, .int a] (.tup [.tup (l.map wv), .int (b : Nat), .int (e : Nat), .int (a' : Nat)]) := by
  obtain ⟨b, hb, yb⟩ := y_skip_to_command hN h S hk
  obtain ⟨e, a', h1, h2⟩ := ca_loop hN K [] b hE hb (by simpa using hl)
  obtain ⟨y, c', hc1, hc2, hc3⟩ := K.first r
  have hg := (show Suf t b (y :: (c' ++ r)) by rw [hc1] at hb; exact hb).ge
  have hf : noref 0 (.tup [.tup (l.map wv), .int (b : Nat), .int (e : Nat), .int (a' : Nat)]) = true := by simp [noref, norefs, noref_wv]
  refine ⟨b, e, a', h1, yields_pureT [.list (l.map wv)] (us := [.str t, .int a, .bool false]) rfl rfl hf fun d σ hd => ?_⟩
  show outR (exSs _ N b_command_at [some (.str t), some (.int a), some (.bool false), none, none, none, none, none, none] σ) = _
  obtain ⟨ρ, e1⟩ := h2 N d σ a b none none (by omega) hd
  have yb := yb.at (by omega : 3 ≤ d) σ
  delta b_command_at
  (repeat' (first | walk_at "mini" | with_reducible exact yb | ((with_reducible show whileN _ _ _ _ _ = _); exact e1)))
theorem y_command_none (hN : line < N) {t s : List Nat} {a k : Nat} (h : Suf t a s) (S : Skips k s []) (hk : k < N) : Yields N 6 .command_at [.str t, .int a] .none := by
  obtain ⟨b, hb, yb⟩ := y_skip_to_command hN h S hk
  have hg := hb.ged
  refine yields_pure (us := [.str t, .int a, .bool false]) rfl rfl rfl fun d σ hd => ?_
  show outR (exSs _ N b_command_at [some (.str t), some (.int a), some (.bool false), none, none, none, none, none, none] σ) = _
  have yb := yb.at (by omega : 3 ≤ d) σ
  delta b_command_at
  (repeat' (first | walk_at "mini" | with_reducible exact yb))
end
end

section
section
variable {N : Nat}
/-! ## Lists read -/
noncomputable abbrev blankS : List Nat := [32, 9, 10, 11, 12, 13]
noncomputable def LEnd (r : List Nat) : Prop := r = [] ∨ ∃ c r', r = c :: r' ∧ blankS.contains c = true
theorem y_check_behind {t r : List Nat} {a : Nat} {w : List Nat} (h : Suf t a r) (hE : LEnd r) : Yields N 2 .check_behind [.str t, .int a, .str w] .none := by
  refine yields_pure (us := [.str t, .int a, .str w]) rfl rfl rfl fun d σ hd => ?_
  show outR (exSs _ N b_check_behind [some (.str t), some (.int a), some (.str w), none] σ) = _
  rcases hE with rfl | ⟨c, r', rfl, hc⟩
  · have hl := h.ged
    delta b_check_behind
    (repeat' (first | walk_at "mini"))
  · have hl := h.ge
    have y := (y_is_blank (N := N) c).at hd σ
    delta b_check_behind
    (repeat' (first | walk_at "mini" | ((with_reducible show idxV _ _ _ = _); exact h.idx) | with_reducible exact y))
section
variable {t s r u w : List Nat} {a b g c n d x : Nat} {σ : Sto} {z : Int} {x4 : Option Vl}
noncomputable abbrev beL (t : List Nat) (g : Nat) (z : Int) (a : Nat) (x4 : Option Vl) : Loc := [some (.str t), some (.int (g : Int)), some (.int z), some (.int (a : Int)), x4]
theorem be1 (h : Suf t a (123 :: r)) : LP N d t_braced_element_0 w_braced_element_0 (n + 1) (beL t g z a x4) σ = LP N d t_braced_element_0 w_braced_element_0 n (beL t g (z + 1) (a + 1) (some (.str [123]))) σ := by
  have hl := h.lt
  delta t_braced_element_0 w_braced_element_0
  (repeat' (first | walk_at "mini" | ((with_reducible show idxV _ _ _ = _); exact h.idx)))
theorem be2 (h : Suf t a (125 :: r)) (hz : (z - 1 == 0) = false) : LP N d t_braced_element_0 w_braced_element_0 (n + 1) (beL t g z a x4) σ = LP N d t_braced_element_0 w_braced_element_0 n (beL t g (z - 1) (a + 1) (some (.str [125]))) σ := by
  have hl := h.lt
  delta t_braced_element_0 w_braced_element_0
  (repeat' (first | walk_at "mini" | ((with_reducible show idxV _ _ _ = _); exact h.idx)))
theorem be3 (hd : 2 ≤ d) (h : Suf t a (125 :: r)) (hE : LEnd r) (hz : (z - 1 == 0) = true) (hw : ∀ σ, slcV σ (.str t) (g : Int) (a : Int) = some (.str w)) :
    ∃ ρ, LP N d t_braced_element_0 w_braced_element_0 (n + 1) (beL t g z a x4) σ = some (.ret (.tup [.str w, .int ((a + 1 : Nat) : Int)]), ρ, σ) := by
  have hl := h.lt
  have y := (y_check_behind (N := N) (w := [98, 114, 97, 99, 101, 115]) h.step hE).at hd σ
  apply Exists.intro
  delta t_braced_element_0 w_braced_element_0
  (repeat' (first | walk_at "mini" | ((with_reducible show idxV _ _ _ = _); exact h.idx) | ((with_reducible show callN _ _ _ _ _ _ = _); exact y) | with_reducible exact hw _))
theorem be4 (h : Suf t a (92 :: c :: r)) : LP N d t_braced_element_0 w_braced_element_0 (n + 1) (beL t g z a x4) σ = LP N d t_braced_element_0 w_braced_element_0 n (beL t g z (a + 2) (some (.str [92]))) σ := by
  have hl := h.lt
  delta t_braced_element_0 w_braced_element_0
  (repeat' (first | walk_at "mini" | ((with_reducible show idxV _ _ _ = _); exact h.idx)))
theorem be5 (h : Suf t a (c :: r)) (hc : [123, 125, 92].contains c = false) : LP N d t_braced_element_0 w_braced_element_0 (n + 1) (beL t g z a x4) σ = LP N d t_braced_element_0 w_braced_element_0 n (beL t g z (a + 1) (some (.str [c]))) σ := by
  have hl := h.lt
  have hc' : c ≠ 123 ∧ c ≠ 125 ∧ c ≠ 92 := by simpa using hc
  obtain ⟨h1, h2, h3⟩ := hc'
  delta t_braced_element_0 w_braced_element_0
  (repeat' (first | walk_at "mini" | ((with_reducible show idxV _ _ _ = _); exact h.idx)))
end
theorem be_loop {t w r : List Nat} {g d : Nat} {σ : Sto} (hd : 2 ≤ d) (hE : LEnd r) (hw : Suf t g (w ++ 125 :: r)) {m : Nat} {u : List Nat} (B : Br m u) : ∀ (n a : Nat) (z : Int) (x4 : Option Vl), u.length < n → z = (m : Int) + 1 → Suf t a (u ++ 125 :: r) → a + u.length = g + w.length →
    ∃ ρ, LP N d t_braced_element_0 w_braced_element_0 n (beL t g z a x4) σ = some (.ret (.tup [.str w, .int ((g + w.length + 1 : Nat) : Int)]), ρ, σ) := by
  induction B with
  | nil =>
    intro n a z x4 hn hz h hg
    obtain ⟨n, rfl⟩ : ∃ n', n = n' + 1 := ⟨n - 1, by omega⟩
    have hb : a = g + w.length := by simpa using hg
    subst hb
    exact be3 hd h hE (by subst hz; rfl) fun σ => hw.cutTo
  | op B ih =>
    intro n a z x4 hn hz h hg
    obtain ⟨n, rfl⟩ : ∃ n', n = n' + 1 := ⟨n - 1, by omega⟩
    rw [be1 h]
    exact ih n (a + 1) (z + 1) _ (Nat.lt_of_succ_lt_succ hn) (by omega) h.step (by simp at hg; omega)
  | cl B ih =>
    intro n a z x4 hn hz h hg
    obtain ⟨n, rfl⟩ : ∃ n', n = n' + 1 := ⟨n - 1, by omega⟩
    rw [be2 h (by rw [beq_eq_false_iff_ne]; omega)]
    exact ih n (a + 1) (z - 1) _ (Nat.lt_of_succ_lt_succ hn) (by omega) h.step (by simp at hg; omega)
  | esc hc B ih =>
    intro n a z x4 hn hz h hg
    obtain ⟨n, rfl⟩ : ∃ n', n = n' + 1 := ⟨n - 1, by omega⟩
    rw [be4 h]
    exact ih n (a + 2) z _ (by simp at hn; omega) hz h.step.step (by simp at hg; omega)
  | lit hc B ih =>
    intro n a z x4 hn hz h hg
    obtain ⟨n, rfl⟩ : ∃ n', n = n' + 1 := ⟨n - 1, by omega⟩
    rw [be5 h hc]
    exact ih n (a + 1) z _ (Nat.lt_of_succ_lt_succ hn) hz h.step (by simp at hg; omega)
theorem y_braced_element (hN : line < N) {t u r : List Nat} {g : Nat} (B : Br 0 u) (hE : LEnd r) (h : Suf t g (u ++ 125 :: r)) : Yields N 3 .braced_element [.str t, .int g] (.tup [.str u, .int ((g + u.length + 1 : Nat) : Int)]) := by
  refine yields_pure (us := [.str t, .int g]) rfl rfl rfl fun d σ hd => ?_
  show outR (exSs _ N b_braced_element [some (.str t), some (.int g), none, none, none] σ) = _
  obtain ⟨ρ, e⟩ := be_loop (N := N) (d := d) (σ := σ) hd hE h B N g 1 none (by have := h.le; simp at this; omega) rfl h rfl
  delta b_braced_element
  (repeat' (first | walk_at "mini" | ((with_reducible show whileN _ _ _ _ _ = _); exact e)))
inductive LDec : List Nat → List Nat → Prop
  | nil : LDec [] []
  | lit {c : Nat} {w x : List Nat} (h1 : blankS.contains c = false) (h2 : c ≠ 92) (h : LDec w x) : LDec (c :: w) (c :: x)
  | esc {e w x : List Nat} {y : Nat} (h1 : BsOf e y) (h : LDec w x) : LDec (e ++ w) (y :: x)
section
variable {t s r u w e : List Nat} {a b g c n d x : Nat} {σ : Sto} {ws : List Vl} {x3 : Option Vl}
noncomputable abbrev baL (t : List Nat) (a j : Nat) (x3 : Option Vl) : Loc := [some (.str t), some (.int (a : Int)), some (.ref j), x3]
theorem ba1 (hd : 1 ≤ d) (h : Suf t a (c :: r)) (h1 : blankS.contains c = false) (h2 : c ≠ 92) (hw : ws.length < line) : LP N d t_bare_element_0 w_bare_element_0 (n + 1) (baL t a σ.length x3) (σ ++ [.list ws]) = LP N d t_bare_element_0 w_bare_element_0 n (baL t (a + 1) σ.length (some (.str [c]))) (σ ++ [.list (ws ++ [.str [c]])]) := by
  have hl := h.lt
  have y := fun σ => (y_is_blank (N := N) c).at hd σ
  delta t_bare_element_0 w_bare_element_0
  (repeat' (first | walk_at "mini" | ((with_reducible show idxV _ _ _ = _); exact h.idx) | with_reducible exact y _ | ((with_reducible show methK _ _ _ = _); exact mk_app) | ((with_reducible show methV _ _ _ _ = _); exact m_app hw)))
theorem ba2 (hN : line < N) (hd : 3 ≤ d) (B : BsOf e x) (h : Suf t a (e ++ r)) (hw : ws.length < line) : LP N d t_bare_element_0 w_bare_element_0 (n + 1) (baL t a σ.length x3) (σ ++ [.list ws]) = LP N d t_bare_element_0 w_bare_element_0 n (baL t (a + e.length) σ.length (some (.str [x]))) (σ ++ [.list (ws ++ [.str [x]])]) := by
  have yb := fun σ => (y_backslash (N := N) hN B h).at hd σ
  obtain ⟨c, e', rfl, hc⟩ := B.head
  have h' : Suf t a (92 :: c :: (e' ++ r)) := h
  have hl := h'.lt
  have y := fun σ => (y_is_blank (N := N) 92).at (by omega : 1 ≤ d) σ
  delta t_bare_element_0 w_bare_element_0
  (repeat' (first | walk_at "mini" | ((with_reducible show idxV _ _ _ = _); exact h'.idx) | with_reducible exact y _ | with_reducible exact yb _ | ((with_reducible show methK _ _ _ = _); exact mk_app) | ((with_reducible show methV _ _ _ _ = _); exact m_app hw)))
theorem ba3 (hd : 1 ≤ d) (h : Suf t a r) (hE : LEnd r) : LP N d t_bare_element_0 w_bare_element_0 (n + 1) (baL t a σ.length x3) (σ ++ [.list ws]) = some (.next, baL t a σ.length x3, σ ++ [.list ws]) := by
  rcases hE with rfl | ⟨c, r', rfl, hc⟩
  · have hl := h.end
    delta t_bare_element_0 w_bare_element_0
    refine wh_end ?_
    (repeat' (first | walk_at "mini"))
  · have hl := h.lt
    have y := fun σ => (y_is_blank (N := N) c).at hd σ
    delta t_bare_element_0 w_bare_element_0
    refine wh_end ?_
    (repeat' (first | walk_at "mini" | ((with_reducible show idxV _ _ _ = _); exact h.idx) | with_reducible exact y _))
end
theorem ba_loop (hN : line < N) {t r : List Nat} {d : Nat} {σ : Sto} (hd : 3 ≤ d) (hE : LEnd r) {w x : List Nat} (D : LDec w x) : ∀ (n a : Nat) (ws : List Vl) (x3 : Option Vl), w.length < n → Suf t a (w ++ r) → ws.length + x.length < line →
    ∃ x3', LP N d t_bare_element_0 w_bare_element_0 n (baL t a σ.length x3) (σ ++ [.list ws]) = some (.next, baL t (a + w.length) σ.length x3', σ ++ [.list (ws ++ signs x)]) := by
  induction D with
  | nil =>
    intro n a ws x3 hn h hw
    obtain ⟨n, rfl⟩ : ∃ n', n = n' + 1 := ⟨n - 1, by omega⟩
    exact ⟨x3, by rw [ba3 (by omega) h hE]; simp⟩
  | @lit c w x h1 h2 D ih =>
    intro n a ws x3 hn h hw
    obtain ⟨n, rfl⟩ : ∃ n', n = n' + 1 := ⟨n - 1, by omega⟩
    rw [ba1 (by omega) h h1 h2 (by omega)]
    obtain ⟨x3', e⟩ := ih n (a + 1) (ws ++ [.str [c]]) (some (.str [c])) (Nat.lt_of_succ_lt_succ hn) h.step (by simp at hw ⊢; omega)
    exact ⟨x3', by rw [e, show a + 1 + w.length = a + (c :: w).length by simp; omega]; simp⟩
  | @esc e w x y B D ih =>
    intro n a ws x3 hn h hw
    obtain ⟨n, rfl⟩ : ∃ n', n = n' + 1 := ⟨n - 1, by omega⟩
    have h2 : Suf t a (e ++ (w ++ r)) := by simpa using h
    have hl : 0 < e.length := by obtain ⟨c, e', rfl, _⟩ := B.head; simp
    rw [ba2 hN hd B h2 (by omega)]
    obtain ⟨x3', e1⟩ := ih n (a + e.length) (ws ++ [.str [y]]) (some (.str [y])) (by simp at hn; omega) h2.skip (by simp at hw ⊢; omega)
    exact ⟨x3', by rw [e1, show a + e.length + w.length = a + (e ++ w).length by simp; omega]; simp⟩
theorem strsOf_map : ∀ l : List (List Nat), strsOf (l.map Vl.str) = some l
  | [] => rfl
  | a :: l => mp (f := fun t => a :: t) (strsOf_map l)
theorem strsOf_signs (x : List Nat) : strsOf (signs x) = some (x.map fun c => [c]) := by
  have := strsOf_map (x.map fun c => [c])
  rw [List.map_map] at this
  exact this
theorem joinL_flat : ∀ l : List (List Nat), joinL [] l = l.flatten
  | [] => rfl
  | [a] => by simp [joinL]
  | a :: b :: l => by
    show a ++ [] ++ joinL [] (b :: l) = _
    rw [joinL_flat (b :: l)]; simp
theorem join_signs (x : List Nat) : joinL [] (x.map fun c => [c]) = x := by
  rw [joinL_flat]; induction x with
  | nil => rfl
  | cons c x ih => simp [ih]
theorem sum_signs (x : List Nat) : ((x.map fun c => [c]).map List.length).sum = x.length := by
  induction x with
  | nil => rfl
  | cons c x ih => simp only [List.map_cons, List.sum_cons, ih, List.length_cons, List.length_nil]; omega
theorem m_joinS {σ : Sto} {x : List Nat} (h : x.length ≤ line) : methV (σ ++ [.list (signs x)]) .join (.str []) [.ref σ.length] = some (.str x, σ ++ [.list (signs x)]) := by
  rw [mt_join lst_at (strsOf_signs x) (by rw [sum_signs]; exact h), join_signs]
theorem y_bare_element (hN : line < N) {t w x r : List Nat} {a : Nat} (D : LDec w x) (hE : LEnd r) (h : Suf t a (w ++ r)) (hx : x.length < line) : Yields N 4 .bare_element [.str t, .int a] (.tup [.str x, .int ((a + w.length : Nat) : Int)]) := by
  refine yields_pureT [.list (signs x)] (us := [.str t, .int a]) rfl rfl rfl fun d σ hd => ?_
  show outR (exSs _ N b_bare_element [some (.str t), some (.int a), none, none] σ) = _
  obtain ⟨x3, e⟩ := ba_loop hN (σ := σ) hd hE D N a [] none (by have := h.le; simp at this; omega) h (by simpa using hx)
  delta b_bare_element
  (repeat' (first | walk_at "mini" | ((with_reducible show whileN _ _ _ _ _ = _); exact e) | ((with_reducible show methV _ _ _ _ = _); exact m_joinS (Nat.le_of_lt hx))))
end
end

section
section
variable {N : Nat}
inductive El : List Nat → List Nat → Prop
  | bare {c : Nat} {w x : List Nat} (D : LDec (c :: w) x) (h1 : blankS.contains c = false) (h2 : c ≠ 123) (h3 : c ≠ 34) (hx : x.length < line) : El (c :: w) x
  | brac {u : List Nat} (B : Br 0 u) : El (123 :: (u ++ [125])) u
inductive Jn : List Nat → List (List Nat) → Prop
  | nil : Jn [] []
  | one {e x : List Nat} (E : El e x) : Jn e [x]
  | cons {e x w : List Nat} {l : List (List Nat)} (E : El e x) (J : Jn w l) : Jn (e ++ 32 :: w) (x :: l)
theorem El.first {e x : List Nat} (E : El e x) : ∃ c w, e = c :: w ∧ blankS.contains c = false ∧ c ≠ 34 := by
  cases E with
  | bare D h1 h2 h3 => exact ⟨_, _, rfl, h1, h3⟩
  | brac B => exact ⟨_, _, rfl, rfl, by decide⟩
section
variable {t s r u w e x : List Nat} {a a' c n d : Nat} {σ : Sto}
noncomputable abbrev feL (t : List Nat) (a : Nat) : Loc := [some (.str t), some (.int (a : Int))]
theorem fe1 (hd : 1 ≤ d) (h : Suf t a (c :: r)) (hc : blankS.contains c = true) : LP N d t_find_element_0 w_find_element_0 (n + 1) (feL t a) σ = LP N d t_find_element_0 w_find_element_0 n (feL t (a + 1)) σ := by
  have hl := h.lt
  have y := (y_is_blank (N := N) c).at hd σ
  delta t_find_element_0 w_find_element_0
  (repeat' (first | walk_at "mini" | ((with_reducible show idxV _ _ _ = _); exact h.idx) | with_reducible exact y))
theorem fe2 (hd : 1 ≤ d) (h : Suf t a (c :: r)) (hc : blankS.contains c = false) : LP N d t_find_element_0 w_find_element_0 (n + 1) (feL t a) σ = some (.next, feL t a, σ) := by
  have hl := h.lt
  have y := (y_is_blank (N := N) c).at hd σ
  delta t_find_element_0 w_find_element_0
  refine wh_end ?_
  (repeat' (first | walk_at "mini" | ((with_reducible show idxV _ _ _ = _); exact h.idx) | with_reducible exact y))
theorem fe3 (h : Suf t a []) : LP N d t_find_element_0 w_find_element_0 (n + 1) (feL t a) σ = some (.next, feL t a, σ) := by
  have hl := h.end
  delta t_find_element_0 w_find_element_0
  refine wh_end ?_
  (repeat' (first | walk_at "mini"))
theorem y_find_none (hN : line < N) {pre : List Nat} (hp : pre = [] ∨ pre = [32]) (h : Suf t a pre) : Yields N 2 .find_element [.str t, .int a] .none := by
  refine yields_pure (us := [.str t, .int a]) rfl rfl rfl fun d σ hd => ?_
  show outR (exSs _ N b_find_element [some (.str t), some (.int a)] σ) = _
  obtain ⟨m, hm⟩ : ∃ m, N = m + 1 + 1 := ⟨N - 2, by have : line = 16777216 := rfl; omega⟩
  rcases hp with rfl | rfl
  · have e : LP N d t_find_element_0 w_find_element_0 (m + 1 + 1) (feL t a) σ = _ := fe3 h
    rw [← hm] at e
    have hg := h.ged
    delta b_find_element
    (repeat' (first | walk_at "mini" | ((with_reducible show whileN _ _ _ _ _ = _); exact e)))
  · have e : LP N d t_find_element_0 w_find_element_0 (m + 1 + 1) (feL t a) σ = _ := (fe1 hd h rfl).trans (fe3 h.step)
    rw [← hm] at e
    have hg := h.step.ged
    delta b_find_element
    (repeat' (first | walk_at "mini" | ((with_reducible show whileN _ _ _ _ _ = _); exact e)))
theorem fe_body (hN : line < N) (hd : 4 ≤ d) {a0 : Nat} (E : El e x) (hE : LEnd r) (h : Suf t a0 (e ++ r)) (hw : LP N d t_find_element_0 w_find_element_0 N (feL t a) σ = some (.next, feL t a0, σ)) :
    outR (exSs (callN D N d) N b_find_element [some (.str t), some (.int a)] σ) = some (.tup [.str x, .int ((a0 + e.length : Nat) : Int)], σ) := by
  cases E with
  | @bare c w _ D' h1 h2 h3 hx =>
    have y := (y_bare_element hN D' hE h hx).at (by omega : 4 ≤ d) σ
    have h' : Suf t a0 (c :: (w ++ r)) := h
    have hg := h'.ge
    delta b_find_element
    (repeat' (first | walk_at "mini" | ((with_reducible show whileN _ _ _ _ _ = _); exact hw) | ((with_reducible show idxV _ _ _ = _); exact h'.idx) | with_reducible exact y))
  | brac B =>
    have h' : Suf t a0 (123 :: (x ++ 125 :: r)) := by simpa using h
    have y := (y_braced_element hN B hE h'.step).at (by omega : 3 ≤ d) σ
    have hg := h'.ge
    have e1 : a0 + (123 :: (x ++ [125])).length = a0 + 1 + x.length + 1 := by simp; omega
    rw [e1]
    delta b_find_element
    (repeat' (first | walk_at "mini" | ((with_reducible show whileN _ _ _ _ _ = _); exact hw) | ((with_reducible show idxV _ _ _ = _); exact h'.idx) | ((with_reducible show callN _ _ _ _ _ _ = _); exact y)))
theorem y_find_element (hN : line < N) {pre : List Nat} (hp : pre = [] ∨ pre = [32]) (E : El e x) (hE : LEnd r) (h : Suf t a (pre ++ (e ++ r))) :
    ∃ a', Suf t a' r ∧ Yields N 5 .find_element [.str t, .int a] (.tup [.str x, .int (a' : Nat)]) := by
  obtain ⟨c, w, he, hc, _⟩ := E.first
  refine ⟨a + pre.length + e.length, h.skip.skip, yields_pure (us := [.str t, .int a]) rfl rfl rfl fun d σ hd => ?_⟩
  refine fe_body hN hd E hE h.skip ?_
  have h2 : Suf t (a + pre.length) (c :: (w ++ r)) := by have := h.skip; rw [he] at this; exact this
  have hl2 : line = 16777216 := rfl
  have key : ∀ n, LP N d t_find_element_0 w_find_element_0 (n + 1 + 1) (feL t a) σ = some (.next, feL t (a + pre.length), σ) := fun n => by
    rcases hp with rfl | rfl
    · exact fe2 (by omega) h2 hc
    · rw [fe1 (by omega) h rfl]; exact fe2 (by omega) h2 hc
  have := key (N - 2)
  rwa [show N - 2 + 1 + 1 = N by omega] at this
end
noncomputable abbrev slL (t : List Nat) (j : Nat) (f : Vl) : Loc := [some (.str t), some (.ref j), some f]
section
variable {t : List Nat} {a n d : Nat} {σ : Sto} {ws : List Vl} {x : List Nat} {f : Vl}
theorem sp1 (hd : 5 ≤ d) (y : Yields N 5 .find_element [.str t, .int a] f) (hw : ws.length < line) : LP N d t_split_list_0 w_split_list_0 (n + 1) (slL t σ.length (.tup [.str x, .int a])) (σ ++ [.list ws]) = LP N d t_split_list_0 w_split_list_0 n (slL t σ.length f) (σ ++ [.list (ws ++ [.str x])]) := by
  have y := fun σ => y.at hd σ
  have h1 : ∀ σ, cmpV σ .isnot (.tup [.str x, .int (a : Int)]) .none = some true := fun _ => rfl
  have h2 : ∀ σ, idxV σ (.tup [.str x, .int (a : Int)]) (.int 0) = some (.str x) := fun _ => rfl
  have h3 : ∀ σ, idxV σ (.tup [.str x, .int (a : Int)]) (.int 1) = some (.int (a : Int)) := fun _ => rfl
  delta t_split_list_0 w_split_list_0
  (repeat' (first | walk_at "mini" | with_reducible exact h1 _ | with_reducible exact h2 _ | with_reducible exact h3 _ | with_reducible exact y _ | ((with_reducible show methK _ _ _ = _); exact mk_app) | ((with_reducible show methV _ _ _ _ = _); exact m_app hw)))
theorem sp2 : LP N d t_split_list_0 w_split_list_0 (n + 1) (slL t σ.length .none) (σ ++ [.list ws]) = some (.next, slL t σ.length .none, σ ++ [.list ws]) := by
  have h1 : ∀ σ, cmpV σ .isnot .none .none = some false := fun _ => rfl
  delta t_split_list_0 w_split_list_0
  refine wh_end ?_
  (repeat' (first | walk_at "mini" | with_reducible exact h1 _))
end
theorem sp_loop (hN : line < N) {t w : List Nat} {l : List (List Nat)} (J : Jn w l) : ∀ (a : Nat) (pre : List Nat), (pre = [] ∨ pre = [32]) → Suf t a (pre ++ w) →
    ∃ f, Yields N 5 .find_element [.str t, .int a] f ∧ ∀ d σ ws n, 5 ≤ d → l.length < n → ws.length + l.length < line → LP N d t_split_list_0 w_split_list_0 n (slL t σ.length f) (σ ++ [.list ws]) = some (.next, slL t σ.length .none, σ ++ [.list (ws ++ l.map Vl.str)]) := by
  induction J with
  | nil =>
    intro a pre hp h
    refine ⟨.none, fun d hd σ => (y_find_none hN hp (by simpa using h)).at (by omega) σ, fun d σ ws n hd hn hw => ?_⟩
    obtain ⟨n, rfl⟩ : ∃ n', n = n' + 1 := ⟨n - 1, by omega⟩
    rw [sp2]; simp
  | one E =>
    intro a pre hp h
    obtain ⟨a', h1, y⟩ := y_find_element hN (r := []) hp E (.inl rfl) (by simpa using h)
    refine ⟨_, y, fun d σ ws n hd hn hw => ?_⟩
    obtain ⟨n, rfl⟩ : ∃ n', n = n' + 1 + 1 := ⟨n - 2, by simp at hn; omega⟩
    rw [sp1 hd (fun d hd σ => (y_find_none hN (.inl rfl) h1).at (by omega) σ) (by omega), sp2]
    simp
  | cons E J ih =>
    intro a pre hp h
    obtain ⟨a', h1, y⟩ := y_find_element hN hp E (.inr ⟨32, _, rfl, rfl⟩) (by simpa using h)
    obtain ⟨f, yf, hf⟩ := ih a' [32] (.inr rfl) h1
    refine ⟨_, y, fun d σ ws n hd hn hw => ?_⟩
    obtain ⟨n, rfl⟩ : ∃ n', n = n' + 1 := ⟨n - 1, by omega⟩
    rw [sp1 hd yf (by omega), hf d σ _ n hd (by simp at hn; omega) (by simp at hw ⊢; omega)]
    simp
theorem noref_strs (l : List (List Nat)) : norefs 0 (l.map Vl.str) = true := by
  induction l with
  | nil => rfl
  | cons x l ih => simp [norefs, noref, ih]
theorem y_split_list (hN : line < N) {w : List Nat} {l : List (List Nat)} (J : Jn w l) (hw : w.length ≤ line) (hl : l.length < line) : Yields N 6 .split_list [.str w] (.lst (l.map Vl.str)) := by
  refine yields_list [] (us := [.str w]) rfl rfl (noref_strs l) fun d σ hd => ?_
  show outR (exSs _ N b_split_list [some (.str w), none, none] σ) = _
  have h : Suf w 0 w := ⟨rfl, Nat.zero_le _, hw⟩
  obtain ⟨f, y, hf⟩ := sp_loop hN J 0 [] (.inl rfl) h
  have e := hf d σ [] N hd (by omega) (by simpa using hl)
  have y := fun σ => y.at hd σ
  delta b_split_list
  (repeat' (first | walk_at "mini" | ((with_reducible show whileN _ _ _ _ _ = _); exact e) | ((with_reducible show callN _ _ _ _ _ _ = _); exact y _)))
end
end

section
section
variable {N : Nat}
/-! ## Words read -/
theorem mk_ext {σ : Sto} {l : List Vl} : methK (σ ++ [.list l]) .extend (.ref σ.length) = true := mk_app
theorem m_ext {σ : Sto} {l k : List Vl} (h : l.length + k.length < line) : methV (σ ++ [.list l]) .extend (.ref σ.length) [.lst k] = some (.none, σ ++ [.list (l ++ k)]) := by
  rw [mt_extend lstI_end rfl h, sto_set]
theorem m_join1 {σ : Sto} {x : List Nat} (h : x.length ≤ line) : methV (σ ++ [.list [.str x]]) .join (.str []) [.ref σ.length] = some (.str x, σ ++ [.list [.str x]]) := by
  exact mt_join (ss := [x]) (s := []) lst_at rfl (by simpa using h)
theorem m_join0 {σ : Sto} {s : List Nat} : methV (σ ++ [.list []]) .join (.str s) [.ref σ.length] = some (.str [], σ ++ [.list []]) := by
  exact mt_join (ss := []) (s := s) lst_at rfl (by simp)
theorem y_text_of {hv' : Vl} {x : List Nat} (hx : x.length ≤ line) : Yields N 1 .text_of [hv', .tup (partsOf x)] (.str x) := by
  cases x with
  | nil =>
    refine yields_pureT [.list []] (us := [hv', .tup []]) rfl rfl rfl fun d σ hd => ?_
    show outR (exSs _ N b_text_of [some hv', some (.tup []), none, none, none] σ) = _
    have e : ∀ σ, FL N d w_text_of_0 3 [] [some hv', some (.tup []), some (.ref σ.length), none, none] (σ ++ [.list []]) = some (.next, [some hv', some (.tup []), some (.ref σ.length), none, none], σ ++ [.list []]) := fun _ => rfl
    delta b_text_of
    (repeat' (first | walk_at "mini" | ((with_reducible show forL _ _ _ _ _ = _); exact e _) | ((with_reducible show methV _ _ _ _ = _); exact m_join0)))
  | cons c y =>
    refine yields_pureT [.list [.str (c :: y)]] (us := [hv', .tup [.tup [.str txt, .str (c :: y)]]]) rfl rfl rfl fun d σ hd => ?_
    show outR (exSs _ N b_text_of [some hv', some (.tup [.tup [.str txt, .str (c :: y)]]), none, none, none] σ) = _
    have e : FL N d w_text_of_0 3 [.tup [.str txt, .str (c :: y)]] [some hv', some (.tup [.tup [.str txt, .str (c :: y)]]), some (.ref σ.length), none, none] (σ ++ [.list []]) =
        some (.next, [some hv', some (.tup [.tup [.str txt, .str (c :: y)]]), some (.ref σ.length), some (.tup [.str txt, .str (c :: y)]), none], σ ++ [.list [.str (c :: y)]]) := by
      have h1 : ∀ σ, idxV σ (.tup [.str txt, .str (c :: y)]) (.int 0) = some (.str txt) := fun _ => rfl
      have h2 : ∀ σ, idxV σ (.tup [.str txt, .str (c :: y)]) (.int 1) = some (.str (c :: y)) := fun _ => rfl
      delta w_text_of_0
      apply fo_turn
      (repeat' (first | walk_at "mini" | with_reducible exact h1 _ | with_reducible exact h2 _ | ((with_reducible show methK _ _ _ = _); exact mk_app) | ((with_reducible show methV _ _ _ _ = _); exact m_app (by decide))))
    delta b_text_of
    (repeat' (first | walk_at "mini" | ((with_reducible show forL _ _ _ _ _ = _); exact e) | ((with_reducible show methV _ _ _ _ = _); exact m_join1 hx)))
inductive Means : List (Bool × List Nat) → List (List Nat) → Prop
  | nil : Means [] []
  | word {x : List Nat} {l : List (Bool × List Nat)} {r : List (List Nat)} (hx : x.length ≤ line) (h : Means l r) : Means ((false, x) :: l) (x :: r)
  | list {x : List Nat} {k : List (List Nat)} {l : List (Bool × List Nat)} {r : List (List Nat)} (hx : x.length ≤ line) (J : Jn x k) (h : Means l r) : Means ((true, x) :: l) (k ++ r)
section
variable {hv' : Vl} {x : List Nat} {k : List (List Nat)} {d : Nat} {σ : Sto} {ws : List Vl} {vs : List Vl} {p1 p3 p4 : Option Vl} {Q : Option (Fl × Loc × Sto)}
theorem wo1 (hd : 6 ≤ d) (hx : x.length ≤ line) (hw : ws.length < line) (k : FL N d w_words_of_0 3 vs [some hv', p1, some (.ref σ.length), some (wv (false, x)), some (.str x)] (σ ++ [.list (ws ++ [.str x])]) = Q) :
    FL N d w_words_of_0 3 (wv (false, x) :: vs) [some hv', p1, some (.ref σ.length), p3, p4] (σ ++ [.list ws]) = Q := by
  have y := fun σ => (y_text_of (N := N) (hv' := hv') hx).at (by omega : 1 ≤ d) σ
  have h1 : ∀ σ, idxV σ (wv (false, x)) (.int 0) = some (.bool false) := fun _ => rfl
  have h2 : ∀ σ, idxV σ (wv (false, x)) (.int 1) = some (.tup (partsOf x)) := fun _ => rfl
  subst k
  delta w_words_of_0
  apply fo_turn
  (repeat' (first | walk_at "mini" | with_reducible exact h1 _ | with_reducible exact h2 _ | with_reducible exact y _ | ((with_reducible show methK _ _ _ = _); exact mk_app) | ((with_reducible show methV _ _ _ _ = _); exact m_app hw)))
theorem wo2 (hN : line < N) (hd : 6 ≤ d) (hx : x.length ≤ line) (J : Jn x k) (hw : ws.length + k.length < line) (q : FL N d w_words_of_0 3 vs [some hv', p1, some (.ref σ.length), some (wv (true, x)), some (.str x)] (σ ++ [.list (ws ++ k.map Vl.str)]) = Q) :
    FL N d w_words_of_0 3 (wv (true, x) :: vs) [some hv', p1, some (.ref σ.length), p3, p4] (σ ++ [.list ws]) = Q := by
  have y := fun σ => (y_text_of (N := N) (hv' := hv') hx).at (by omega : 1 ≤ d) σ
  have ys := fun σ => (y_split_list (N := N) hN J hx (by omega)).at (by omega : 6 ≤ d) σ
  have h1 : ∀ σ, idxV σ (wv (true, x)) (.int 0) = some (.bool true) := fun _ => rfl
  have h2 : ∀ σ, idxV σ (wv (true, x)) (.int 1) = some (.tup (partsOf x)) := fun _ => rfl
  have hw' : ws.length + (k.map Vl.str).length < line := by simpa using hw
  subst q
  delta w_words_of_0
  apply fo_turn
  (repeat' (first | walk_at "mini" | with_reducible exact h1 _ | with_reducible exact h2 _ | with_reducible exact y _ | with_reducible exact ys _ | ((with_reducible show methK _ _ _ = _); exact mk_ext) | ((with_reducible show methV _ _ _ _ = _); exact m_ext hw')))
end
theorem wo_loop (hN : line < N) {hv' : Vl} {l : List (Bool × List Nat)} {r : List (List Nat)} (M : Means l r) : ∀ {d : Nat} {σ : Sto} (ws : List Vl) (p1 p3 p4 : Option Vl), 6 ≤ d → ws.length + r.length < line →
    ∃ ρ3 ρ4, FL N d w_words_of_0 3 (l.map wv) [some hv', p1, some (.ref σ.length), p3, p4] (σ ++ [.list ws]) = some (.next, [some hv', p1, some (.ref σ.length), ρ3, ρ4], σ ++ [.list (ws ++ r.map Vl.str)]) := by
  induction M with
  | nil => intro d σ ws p1 p3 p4 hd hw; exact ⟨p3, p4, by simp [forL]⟩
  | word hx M ih =>
    intro d σ ws p1 p3 p4 hd hw
    obtain ⟨ρ3, ρ4, e⟩ := ih (σ := σ) (ws ++ [.str _]) p1 (some (wv (false, _))) (some (.str _)) hd (by simp at hw ⊢; omega)
    exact ⟨ρ3, ρ4, wo1 hd hx (by omega) (by rw [e]; simp)⟩
  | @list x k l r hx J M ih =>
    intro d σ ws p1 p3 p4 hd hw
    simp at hw
    obtain ⟨ρ3, ρ4, e⟩ := ih (σ := σ) (ws ++ k.map Vl.str) p1 (some (wv (true, _))) (some (.str _)) hd (by simp; omega)
    exact ⟨ρ3, ρ4, wo2 hN hd hx J (by omega) (by rw [e]; simp)⟩
theorem y_words_of (hN : line < N) {hv' : Vl} {l : List (Bool × List Nat)} {r : List (List Nat)} (M : Means l r) (hr : r.length < line) : Yields N 7 .words_of [hv', .tup (l.map wv)] (.lst (r.map Vl.str)) := by
  refine yields_list [] (us := [hv', .tup (l.map wv)]) rfl rfl (noref_strs r) fun d σ hd => ?_
  show outR (exSs _ N b_words_of [some hv', some (.tup (l.map wv)), none, none, none] σ) = _
  obtain ⟨ρ3, ρ4, e⟩ := wo_loop hN (hv' := hv') M (σ := σ) [] (some (.tup (l.map wv))) none none hd (by simpa using hr)
  delta b_words_of
  (repeat' (first | walk_at "mini" | ((with_reducible show forL _ _ _ _ _ = _); exact e)))

/-! ## Lists written -/
noncomputable def escS : List Nat := [93, 91, 36, 59, 32, 92, 34]
theorem y_escaped (c : Nat) (dp : Bool) : ∃ e, Yields N 1 .escaped [.str [c], .bool dp] (.str e) ∧ e.length ≤ 2 ∧ (c = 35 → e = [c]) ∧
    (BsOf e c ∨ (e = [c] ∧ [12, 10, 13, 9, 11].contains c = false ∧ escS.contains c = false ∧ (dp = true → [123, 125].contains c = false))) := by
  cases h1 : [12, 10, 13, 9, 11].contains c with
  | true =>
    have hm : c ∈ [12, 10, 13, 9, 11] := by simpa using h1
    simp only [List.mem_cons, List.not_mem_nil, or_false] at hm
    obtain ⟨k, x, hk1, hk2, hB, h35⟩ : ∃ k x : Nat, idxC c [12, 10, 13, 9, 11] 0 = (k : Int) ∧ [102, 110, 114, 116, 118][k]? = some x ∧ BsOf [92, x] c ∧ c ≠ 35 := by
      rcases hm with rfl | rfl | rfl | rfl | rfl
      · exact ⟨0, _, rfl, rfl, .known (by decide), by decide⟩
      · exact ⟨1, _, rfl, rfl, .known (by decide), by decide⟩
      · exact ⟨2, _, rfl, rfl, .known (by decide), by decide⟩
      · exact ⟨3, _, rfl, rfl, .known (by decide), by decide⟩
      · exact ⟨4, _, rfl, rfl, .known (by decide), by decide⟩
    have m1 : ∀ σ, methV σ .find (.str [12, 10, 13, 9, 11]) [.str [c]] = some (.int (k : Int), σ) := fun _ => by rw [← hk1]; rfl
    have i1 : ∀ σ, idxV σ (.str [102, 110, 114, 116, 118]) (.int (k : Int)) = some (.str [x]) := fun _ => idxS hk2
    have k0 : decide ((0 : Int) ≤ (k : Int)) = true := decide_eq_true (Int.natCast_nonneg k)
    have hadd : ∀ σ, binV σ .add (.str [92]) (.str [x]) = some (.str [92, x]) := fun σ => b_addS (show 2 ≤ line by decide)
    refine ⟨[92, x], yields_pure (us := [.str [c], .bool dp]) rfl rfl rfl fun d σ hd => ?_, Nat.le_refl _, fun q => absurd q h35, .inl hB⟩
    show outR (exSs _ N b_escaped [some (.str [c]), some (.bool dp), none] σ) = _
    delta b_escaped
    (repeat' (first | walk_at "mini" | with_reducible exact m1 _ | with_reducible exact i1 _ | with_reducible exact hadd _))
  | false =>
    have k0 : decide ((0 : Int) ≤ idxC c [12, 10, 13, 9, 11] 0) = false := by rw [idxC_no _ _ _ h1]; rfl
    have hadd : ∀ σ, binV σ .add (.str [92]) (.str [c]) = some (.str [92, c]) := fun σ => b_addS (show 2 ≤ line by decide)
    cases h2 : escS.contains c with
    | true =>
      have h2' : [93, 91, 36, 59, 32, 92, 34].contains c = true := h2
      have hm : c ∈ [93, 91, 36, 59, 32, 92, 34] := by simpa using h2'
      simp only [List.mem_cons, List.not_mem_nil, or_false] at hm
      refine ⟨[92, c], yields_pure (us := [.str [c], .bool dp]) rfl rfl rfl fun d σ hd => ?_, Nat.le_refl _, fun q => absurd hm (by subst q; decide), .inl (.other ?_ ?_ ?_ ?_)⟩
      · show outR (exSs _ N b_escaped [some (.str [c]), some (.bool dp), none] σ) = _
        delta b_escaped
        (repeat' (first | walk_at "mini" | ((with_reducible show methV _ _ _ _ = _); exact rfl) | with_reducible exact hadd _ | ((with_reducible show cmpV _ _ _ _ = _); exact c_inT (inStrs_map c [93, 91, 36, 59, 32, 92, 34]))))
      all_goals (rcases hm with rfl | rfl | rfl | rfl | rfl | rfl | rfl <;> decide)
    | false =>
      have h2' : [93, 91, 36, 59, 32, 92, 34].contains c = false := h2
      cases dp with
      | false =>
        refine ⟨[c], yields_pure (us := [.str [c], .bool false]) rfl rfl rfl fun d σ hd => ?_, by simp, fun _ => rfl, .inr ⟨rfl, rfl, rfl, fun q => by cases q⟩⟩
        show outR (exSs _ N b_escaped [some (.str [c]), some (.bool false), none] σ) = _
        delta b_escaped
        (repeat' (first | walk_at "mini" | ((with_reducible show methV _ _ _ _ = _); exact rfl) | ((with_reducible show cmpV _ _ _ _ = _); exact c_inT (inStrs_map c [93, 91, 36, 59, 32, 92, 34]))))
      | true =>
        cases h3 : [123, 125].contains c with
        | true =>
          have hm : c ∈ [123, 125] := by simpa using h3
          simp only [List.mem_cons, List.not_mem_nil, or_false] at hm
          refine ⟨[92, c], yields_pure (us := [.str [c], .bool true]) rfl rfl rfl fun d σ hd => ?_, Nat.le_refl _, fun q => absurd hm (by subst q; decide), .inl (.other ?_ ?_ ?_ ?_)⟩
          · show outR (exSs _ N b_escaped [some (.str [c]), some (.bool true), none] σ) = _
            delta b_escaped
            (repeat' (first | walk_at "mini" | ((with_reducible show methV _ _ _ _ = _); exact rfl) | with_reducible exact hadd _ | ((with_reducible show cmpV _ _ _ _ = _); exact c_inT (inStrs_map c [93, 91, 36, 59, 32, 92, 34])) | ((with_reducible show cmpV _ _ _ _ = _); exact c_inT (inStrs_map c [123, 125]))))
          all_goals (rcases hm with rfl | rfl <;> decide)
        | false =>
          refine ⟨[c], yields_pure (us := [.str [c], .bool true]) rfl rfl rfl fun d σ hd => ?_, by simp, fun _ => rfl, .inr ⟨rfl, rfl, rfl, fun _ => rfl⟩⟩
          show outR (exSs _ N b_escaped [some (.str [c]), some (.bool true), none] σ) = _
          delta b_escaped
          (repeat' (first | walk_at "mini" | ((with_reducible show methV _ _ _ _ = _); exact rfl) | ((with_reducible show cmpV _ _ _ _ = _); exact c_inT (inStrs_map c [93, 91, 36, 59, 32, 92, 34])) | ((with_reducible show cmpV _ _ _ _ = _); exact c_inT (inStrs_map c [123, 125]))))
end
end

section
section
variable {N : Nat}
noncomputable abbrev sNone : List Nat := [110, 111, 110, 101]
noncomputable abbrev sBrace : List Nat := [98, 114, 97, 99, 101]
noncomputable abbrev sMask : List Nat := [109, 97, 115, 107]
noncomputable abbrev sEsc : List Nat := [101, 115, 99, 97, 112, 101]
section
variable {t s r : List Nat} {a c c0 n d : Nat} {σ : Sto} {z : Int} {h' ib hs wb we : Bool} {x9 : Option Vl}
noncomputable abbrev moL (t : List Nat) (h' : Bool) (c0 : Nat) (ib hs wb we : Bool) (z : Int) (a : Nat) (x9 : Option Vl) : Loc := [some (.str t), some (.bool h'), some (.str [c0]), some (.bool ib), some (.bool hs), some (.bool wb), some (.bool we), some (.int z), some (.int (a : Int)), x9]
theorem mo1 (h : Suf t a (123 :: r)) : LP N d t_mode_of_0 w_mode_of_0 (n + 1) (moL t h' c0 ib hs wb we z a x9) σ = LP N d t_mode_of_0 w_mode_of_0 n (moL t h' c0 ib hs wb we (z + 1) (a + 1) (some (.str [123]))) σ := by
  have hl := h.lt
  delta t_mode_of_0 w_mode_of_0
  (repeat' (first | walk_at "mini" | ((with_reducible show idxV _ _ _ = _); exact h.idx)))
theorem mo2 (h : Suf t a (125 :: r)) (hz : decide (z - 1 < 0) = false) : LP N d t_mode_of_0 w_mode_of_0 (n + 1) (moL t h' c0 ib hs wb we z a x9) σ = LP N d t_mode_of_0 w_mode_of_0 n (moL t h' c0 ib hs wb we (z - 1) (a + 1) (some (.str [125]))) σ := by
  have hl := h.lt
  delta t_mode_of_0 w_mode_of_0
  (repeat' (first | walk_at "mini" | ((with_reducible show idxV _ _ _ = _); exact h.idx)))
theorem mo2e (h : Suf t a (125 :: r)) (hz : decide (z - 1 < 0) = true) : ∃ ρ, LP N d t_mode_of_0 w_mode_of_0 (n + 1) (moL t h' c0 ib hs wb we z a x9) σ = some (.ret (.str sEsc), ρ, σ) := by
  have hl := h.lt
  apply Exists.intro
  delta t_mode_of_0 w_mode_of_0
  (repeat' (first | walk_at "mini" | ((with_reducible show idxV _ _ _ = _); exact h.idx)))
theorem mo3 (h : Suf t a (c :: r)) (h1 : c ≠ 123) (h2 : c ≠ 125) (h3 : [93, 34].contains c = true) : LP N d t_mode_of_0 w_mode_of_0 (n + 1) (moL t h' c0 ib hs wb we z a x9) σ = LP N d t_mode_of_0 w_mode_of_0 n (moL t h' c0 true hs wb true z (a + 1) (some (.str [c]))) σ := by
  have hl := h.lt
  delta t_mode_of_0 w_mode_of_0
  (repeat' (first | walk_at "mini" | ((with_reducible show idxV _ _ _ = _); exact h.idx) | ((with_reducible show cmpV _ _ _ _ = _); exact c_inT (inStrs_map c [93, 34]))))
theorem mo4 (hd : 1 ≤ d) (h : Suf t a (c :: r)) (h1 : c ≠ 123) (h2 : c ≠ 125) (h3 : [93, 34].contains c = false) (h4 : [91, 36, 59, 92].contains c = true ∨ [91, 36, 59, 92].contains c = false ∧ blankS.contains c = true) (h5 : c ≠ 92) :
    LP N d t_mode_of_0 w_mode_of_0 (n + 1) (moL t h' c0 ib hs wb we z a x9) σ = LP N d t_mode_of_0 w_mode_of_0 n (moL t h' c0 true hs true we z (a + 1) (some (.str [c]))) σ := by
  have hl := h.lt
  have y := (y_is_blank (N := N) c).at hd σ
  rcases h4 with h4 | ⟨h4, h6⟩
  · delta t_mode_of_0 w_mode_of_0
    (repeat' (first | walk_at "mini" | ((with_reducible show idxV _ _ _ = _); exact h.idx) | ((with_reducible show cmpV _ _ _ _ = _); exact c_inT (inStrs_map c [93, 34])) | ((with_reducible show cmpV _ _ _ _ = _); exact c_inT (inStrs_map c [91, 36, 59, 92]))))
  · delta t_mode_of_0 w_mode_of_0
    (repeat' (first | walk_at "mini" | ((with_reducible show idxV _ _ _ = _); exact h.idx) | ((with_reducible show cmpV _ _ _ _ = _); exact c_inT (inStrs_map c [93, 34])) | ((with_reducible show cmpV _ _ _ _ = _); exact c_inT (inStrs_map c [91, 36, 59, 92])) | with_reducible exact y))
theorem mo5 (h : Suf t a [92]) : ∃ ρ, LP N d t_mode_of_0 w_mode_of_0 (n + 1) (moL t h' c0 ib hs wb we z a x9) σ = some (.ret (.str sEsc), ρ, σ) := by
  have hl := h.lt
  have e : (((a : Int) + 1) == (t.length : Int)) = true := by rw [beq_iff_eq]; have := h.len; simp at this; omega
  apply Exists.intro
  delta t_mode_of_0 w_mode_of_0
  (repeat' (first | walk_at "mini" | ((with_reducible show idxV _ _ _ = _); exact h.idx) | ((with_reducible show cmpV _ _ _ _ = _); exact c_inT (inStrs_map 92 [93, 34])) | ((with_reducible show cmpV _ _ _ _ = _); exact c_inT (inStrs_map 92 [91, 36, 59, 92]))))
theorem mo6 (h : Suf t a (92 :: 10 :: r)) : ∃ ρ, LP N d t_mode_of_0 w_mode_of_0 (n + 1) (moL t h' c0 ib hs wb we z a x9) σ = some (.ret (.str sEsc), ρ, σ) := by
  have hl := h.lt
  have e : (((a : Int) + 1) == (t.length : Int)) = false := by rw [beq_eq_false_iff_ne]; have := h.len; simp at this; omega
  have i1 : ∀ σ, idxV σ (.str t) (.int (a : Int)) = some (.str [92]) := fun _ => h.idx
  have i2 : ∀ σ, idxV σ (.str t) (.int ((a : Int) + 1)) = some (.str [10]) := fun _ => h.step.idx
  apply Exists.intro
  delta t_mode_of_0 w_mode_of_0
  (repeat' (first | walk_at "mini" | with_reducible exact i1 _ | with_reducible exact i2 _ | ((with_reducible show cmpV _ _ _ _ = _); exact c_inT (inStrs_map 92 [93, 34])) | ((with_reducible show cmpV _ _ _ _ = _); exact c_inT (inStrs_map 92 [91, 36, 59, 92]))))
theorem mo7 (h : Suf t a (92 :: c :: r)) (h1 : c ≠ 10) (h2 : [123, 125, 92].contains c = true) : LP N d t_mode_of_0 w_mode_of_0 (n + 1) (moL t h' c0 ib hs wb we z a x9) σ = LP N d t_mode_of_0 w_mode_of_0 n (moL t h' c0 true hs true we z (a + 2) (some (.str [92]))) σ := by
  have hl := h.lt
  have e : (((a : Int) + 1) == (t.length : Int)) = false := by rw [beq_eq_false_iff_ne]; have := h.len; simp at this; omega
  have i1 : ∀ σ, idxV σ (.str t) (.int (a : Int)) = some (.str [92]) := fun _ => h.idx
  have i2 : ∀ σ, idxV σ (.str t) (.int ((a : Int) + 1)) = some (.str [c]) := fun _ => h.step.idx
  have j1 : ∀ σ, cmpV σ .isin (.str [c]) (.tup [.str [123], .str [125], .str [92]]) = some ([123, 125, 92].contains c) := fun _ => c_inT (inStrs_map c [123, 125, 92])
  delta t_mode_of_0 w_mode_of_0
  (repeat' (first | walk_at "mini" | with_reducible exact i1 _ | with_reducible exact i2 _ | with_reducible exact j1 _ | ((with_reducible show cmpV _ _ _ _ = _); exact c_inT (inStrs_map 92 [93, 34])) | ((with_reducible show cmpV _ _ _ _ = _); exact c_inT (inStrs_map 92 [91, 36, 59, 92]))))
theorem mo8 (h : Suf t a (92 :: c :: r)) (h1 : c ≠ 10) (h2 : [123, 125, 92].contains c = false) : LP N d t_mode_of_0 w_mode_of_0 (n + 1) (moL t h' c0 ib hs wb we z a x9) σ = LP N d t_mode_of_0 w_mode_of_0 n (moL t h' c0 true hs true we z (a + 1) (some (.str [92]))) σ := by
  have hl := h.lt
  have e : (((a : Int) + 1) == (t.length : Int)) = false := by rw [beq_eq_false_iff_ne]; have := h.len; simp at this; omega
  have i1 : ∀ σ, idxV σ (.str t) (.int (a : Int)) = some (.str [92]) := fun _ => h.idx
  have i2 : ∀ σ, idxV σ (.str t) (.int ((a : Int) + 1)) = some (.str [c]) := fun _ => h.step.idx
  have j1 : ∀ σ, cmpV σ .isin (.str [c]) (.tup [.str [123], .str [125], .str [92]]) = some ([123, 125, 92].contains c) := fun _ => c_inT (inStrs_map c [123, 125, 92])
  delta t_mode_of_0 w_mode_of_0
  (repeat' (first | walk_at "mini" | with_reducible exact i1 _ | with_reducible exact i2 _ | with_reducible exact j1 _ | ((with_reducible show cmpV _ _ _ _ = _); exact c_inT (inStrs_map 92 [93, 34])) | ((with_reducible show cmpV _ _ _ _ = _); exact c_inT (inStrs_map 92 [91, 36, 59, 92]))))
theorem mo9 (hd : 1 ≤ d) (h : Suf t a (c :: r)) (h1 : c ≠ 123) (h2 : c ≠ 125) (h3 : [93, 34].contains c = false) (h4 : [91, 36, 59, 92].contains c = false) (h5 : blankS.contains c = false) :
    LP N d t_mode_of_0 w_mode_of_0 (n + 1) (moL t h' c0 ib hs wb we z a x9) σ = LP N d t_mode_of_0 w_mode_of_0 n (moL t h' c0 ib hs wb we z (a + 1) (some (.str [c]))) σ := by
  have hl := h.lt
  have y := (y_is_blank (N := N) c).at hd σ
  delta t_mode_of_0 w_mode_of_0
  (repeat' (first | walk_at "mini" | ((with_reducible show idxV _ _ _ = _); exact h.idx) | ((with_reducible show cmpV _ _ _ _ = _); exact c_inT (inStrs_map c [93, 34])) | ((with_reducible show cmpV _ _ _ _ = _); exact c_inT (inStrs_map c [91, 36, 59, 92])) | with_reducible exact y))
theorem mo0 (h : Suf t a []) : LP N d t_mode_of_0 w_mode_of_0 (n + 1) (moL t h' c0 ib hs wb we z a x9) σ = some (.next, moL t h' c0 ib hs wb we z a x9, σ) := by
  have hl := h.end
  delta t_mode_of_0 w_mode_of_0
  refine wh_end ?_
  (repeat' (first | walk_at "mini"))
end
inductive MO where
  | esc
  | fin (ib wb we : Bool) (z : Nat)
noncomputable abbrev quietB (c : Nat) : Bool := [91, 36, 59, 92].contains c || blankS.contains c
noncomputable def MO.ok (ib wb : Bool) (m : Nat) (s : List Nat) : MO → Prop
  | .esc => True
  | .fin ib' wb' we' z => (z = 0 → Br m s) ∧ (wb' = false → wb = false ∧ ∀ c ∈ s, quietB c = false) ∧ (ib' = false → ib = false ∧ ∀ c ∈ s, quietB c = false ∧ [93, 34].contains c = false)
noncomputable def MO.says (t : List Nat) (h' : Bool) (c0 : Nat) (hs : Bool) (X : Option (Fl × Loc × Sto)) (σ : Sto) : MO → Prop
  | .esc => ∃ ρ, X = some (.ret (.str sEsc), ρ, σ)
  | .fin ib wb we z => ∃ a' x9', X = some (.next, moL t h' c0 ib hs wb we (z : Int) a' x9', σ)
theorem Br.behind {m c : Nat} {s : List Nat} (B : Br m (c :: s)) (h : [123, 125, 92].contains c = false) : Br m s := by
  cases B with
  | op => simp at h
  | cl => simp at h
  | esc => simp at h
  | lit _ B => exact B
theorem mo_loop {t : List Nat} {h' hs : Bool} {c0 : Nat} : ∀ (k : Nat) (s : List Nat) (n a m : Nat) (ib wb we : Bool) (x9 : Option Vl), s.length < k → k ≤ n → Suf t a s →
    ∃ o : MO, o.ok ib wb m s ∧ ∀ d σ, 1 ≤ d → o.says t h' c0 hs (LP N d t_mode_of_0 w_mode_of_0 n (moL t h' c0 ib hs wb we (m : Int) a x9) σ) σ
  | 0, _, _, _, _, _, _, _, _, hk, _, _ => absurd hk (Nat.not_lt_zero _)
  | k + 1, [], n, a, m, ib, wb, we, x9, hk, hn, h => by
    obtain ⟨n, rfl⟩ : ∃ n', n = n' + 1 := ⟨n - 1, by omega⟩
    exact ⟨.fin ib wb we m, ⟨fun e => by subst e; exact .nil, fun e => ⟨e, fun c hc => by simp at hc⟩, fun e => ⟨e, fun c hc => by simp at hc⟩⟩, fun d σ hd => ⟨a, x9, mo0 h⟩⟩
  | k + 1, c :: s, n, a, m, ib, wb, we, x9, hk, hn, h => by
    obtain ⟨n, rfl⟩ : ∃ n', n = n' + 1 := ⟨n - 1, by omega⟩
    have hk' : s.length < k := Nat.lt_of_succ_lt_succ hk
    have hn' : k ≤ n := by omega
    by_cases e1 : c = 123
    · subst e1
      obtain ⟨o, ok, r⟩ := mo_loop k s n (a + 1) (m + 1) ib wb we (some (.str [123])) hk' hn' h.step
      refine ⟨o, ?_, fun d σ hd => ?_⟩
      · cases o with
        | esc => trivial
        | fin ib' wb' we' z =>
          refine ⟨fun e => .op (ok.1 e), fun e => ⟨(ok.2.1 e).1, fun c hc => ?_⟩, fun e => ⟨(ok.2.2 e).1, fun c hc => ?_⟩⟩
          · rcases List.mem_cons.mp hc with rfl | q
            · rfl
            · exact (ok.2.1 e).2 c q
          · rcases List.mem_cons.mp hc with rfl | q
            · exact ⟨rfl, rfl⟩
            · exact (ok.2.2 e).2 c q
      · rw [mo1 h]; exact r d σ hd
    by_cases e2 : c = 125
    · subst e2
      cases m with
      | zero => exact ⟨.esc, trivial, fun d σ hd => mo2e h (by decide)⟩
      | succ m =>
        obtain ⟨o, ok, r⟩ := mo_loop k s n (a + 1) m ib wb we (some (.str [125])) hk' hn' h.step
        refine ⟨o, ?_, fun d σ hd => ?_⟩
        · cases o with
          | esc => trivial
          | fin ib' wb' we' z =>
            refine ⟨fun e => .cl (ok.1 e), fun e => ⟨(ok.2.1 e).1, fun c hc => ?_⟩, fun e => ⟨(ok.2.2 e).1, fun c hc => ?_⟩⟩
            · rcases List.mem_cons.mp hc with rfl | q
              · rfl
              · exact (ok.2.1 e).2 c q
            · rcases List.mem_cons.mp hc with rfl | q
              · exact ⟨rfl, rfl⟩
              · exact (ok.2.2 e).2 c q
        · rw [mo2 h (decide_eq_false (by omega)), show ((m + 1 : Nat) : Int) - 1 = (m : Int) by omega]; exact r d σ hd
    by_cases e3 : c = 92
    · subst e3
      cases s with
      | nil => exact ⟨.esc, trivial, fun d σ hd => mo5 h⟩
      | cons c2 s =>
        by_cases e4 : c2 = 10
        · subst e4; exact ⟨.esc, trivial, fun d σ hd => mo6 h⟩
        cases e5 : [123, 125, 92].contains c2 with
        | true =>
          obtain ⟨o, ok, r⟩ := mo_loop k s n (a + 2) m true true we (some (.str [92])) (by simp at hk'; omega) hn' h.step.step
          refine ⟨o, ?_, fun d σ hd => ?_⟩
          · cases o with
            | esc => trivial
            | fin ib' wb' we' z => exact ⟨fun e => .esc e4 (ok.1 e), fun e => absurd (ok.2.1 e).1 (by decide), fun e => absurd (ok.2.2 e).1 (by decide)⟩
          · rw [mo7 h e4 e5]; exact r d σ hd
        | false =>
          obtain ⟨o, ok, r⟩ := mo_loop k (c2 :: s) n (a + 1) m true true we (some (.str [92])) hk' hn' h.step
          refine ⟨o, ?_, fun d σ hd => ?_⟩
          · cases o with
            | esc => trivial
            | fin ib' wb' we' z => exact ⟨fun e => .esc e4 ((ok.1 e).behind e5), fun e => absurd (ok.2.1 e).1 (by decide), fun e => absurd (ok.2.2 e).1 (by decide)⟩
          · rw [mo8 h e4 e5]; exact r d σ hd
    have e6 : [123, 125, 92].contains c = false := by simp [e1, e2, e3]
    cases e7 : [93, 34].contains c with
    | true =>
      obtain ⟨o, ok, r⟩ := mo_loop k s n (a + 1) m true wb true (some (.str [c])) hk' hn' h.step
      refine ⟨o, ?_, fun d σ hd => ?_⟩
      · cases o with
        | esc => trivial
        | fin ib' wb' we' z =>
          refine ⟨fun e => .lit e6 (ok.1 e), fun e => ⟨(ok.2.1 e).1, fun c' hc => ?_⟩, fun e => absurd (ok.2.2 e).1 (by decide)⟩
          rcases List.mem_cons.mp hc with rfl | q
          · have hm : c' ∈ [93, 34] := by simpa using e7
            simp only [List.mem_cons, List.not_mem_nil, or_false] at hm
            rcases hm with rfl | rfl <;> rfl
          · exact (ok.2.1 e).2 c' q
      · rw [mo3 h e1 e2 e7]; exact r d σ hd
    | false =>
      cases e8 : quietB c with
      | true =>
        obtain ⟨o, ok, r⟩ := mo_loop k s n (a + 1) m true true we (some (.str [c])) hk' hn' h.step
        refine ⟨o, ?_, fun d σ hd => ?_⟩
        · cases o with
          | esc => trivial
          | fin ib' wb' we' z => exact ⟨fun e => .lit e6 (ok.1 e), fun e => absurd (ok.2.1 e).1 (by decide), fun e => absurd (ok.2.2 e).1 (by decide)⟩
        · have h4 : [91, 36, 59, 92].contains c = true ∨ [91, 36, 59, 92].contains c = false ∧ blankS.contains c = true := by
            cases q : [91, 36, 59, 92].contains c
            · simp only [quietB, q, Bool.false_or] at e8; exact .inr ⟨rfl, e8⟩
            · exact .inl rfl
          rw [mo4 hd h e1 e2 e7 h4 e3]; exact r d σ hd
      | false =>
        have e9 := Bool.or_eq_false_iff.mp e8
        obtain ⟨o, ok, r⟩ := mo_loop k s n (a + 1) m ib wb we (some (.str [c])) hk' hn' h.step
        refine ⟨o, ?_, fun d σ hd => ?_⟩
        · cases o with
          | esc => trivial
          | fin ib' wb' we' z =>
            refine ⟨fun e => .lit e6 (ok.1 e), fun e => ⟨(ok.2.1 e).1, fun c' hc => ?_⟩, fun e => ⟨(ok.2.2 e).1, fun c' hc => ?_⟩⟩
            · rcases List.mem_cons.mp hc with rfl | q
              · exact e8
              · exact (ok.2.1 e).2 c' q
            · rcases List.mem_cons.mp hc with rfl | q
              · exact ⟨e8, e7⟩
              · exact (ok.2.2 e).2 c' q
        · rw [mo9 hd h e1 e2 e7 e9.1 e9.2]; exact r d σ hd
inductive Mode (h' : Bool) : List Nat → List Nat → Prop
  | brace {t : List Nat} (B : Br 0 t) : Mode h' sBrace t
  | none {c : Nat} {s : List Nat} (h : ∀ x ∈ c :: s, quietB x = false ∧ [93, 34].contains x = false) (h1 : c ≠ 123 ∧ c ≠ 34) (h2 : h' = true → c ≠ 35) : Mode h' sNone (c :: s)
  | mask {c : Nat} {s : List Nat} (h : ∀ x ∈ c :: s, quietB x = false) (h1 : c ≠ 123 ∧ c ≠ 34) (h2 : h' = true → c ≠ 35) : Mode h' sMask (c :: s)
  | esc {c : Nat} {s : List Nat} : Mode h' sEsc (c :: s)
theorem y_mode_of (hN : line < N) (t : List Nat) (ht : t.length ≤ line) (h' : Bool) : ∃ m, Yields N 2 .mode_of [.str t, .bool h'] (.str m) ∧ Mode h' m t := by
  cases t with
  | nil =>
    refine ⟨sBrace, yields_pure (us := [.str [], .bool h']) rfl rfl rfl fun d σ hd => ?_, .brace .nil⟩
    show outR (exSs _ N b_mode_of [some (.str []), some (.bool h'), none, none, none, none, none, none, none, none] σ) = _
    delta b_mode_of
    (repeat' (first | walk_at "mini"))
  | cons c s =>
    have h : Suf (c :: s) 0 (c :: s) := ⟨rfl, Nat.zero_le _, ht⟩
    have hne : ((c :: s) == []) = false := rfl
    have i0 : ∀ σ, idxV σ (.str (c :: s)) (.int 0) = some (.str [c]) := fun _ => h.idx
    obtain ⟨o, ok, r⟩ := mo_loop (N := N) (t := c :: s) (h' := h') (hs := h' && ([c] == [35])) (c0 := c) N (c :: s) N 0 0 ([123, 34].contains c) ([123, 34].contains c || (h' && ([c] == [35]))) false none (by omega) (Nat.le_refl _) h
    have first : ([123, 34].contains c = false) → c ≠ 123 ∧ c ≠ 34 := fun q => by simpa using q
    have hash : (h' && ([c] == [35])) = false → h' = true → c ≠ 35 := fun q q2 q3 => by subst q2 q3; simp at q
    have start : ∀ (d : Nat) (σ : Sto), startL .mode_of [.str (c :: s), .bool h'] = [some (.str (c :: s)), some (.bool h'), none, none, none, none, none, none, none, none] := fun _ _ => rfl
    have j1 : ∀ σ, cmpV σ .isin (.str [c]) (.tup [.str [123], .str [34]]) = some ([123, 34].contains c) := fun _ => c_inT (inStrs_map c [123, 34])
    cases o with
    | esc =>
      refine ⟨sEsc, yields_pure (us := [.str (c :: s), .bool h']) rfl rfl rfl fun d σ hd => ?_, .esc⟩
      show outR (exSs _ N b_mode_of [some (.str (c :: s)), some (.bool h'), none, none, none, none, none, none, none, none] σ) = _
      obtain ⟨ρ, e⟩ := r d σ hd
      delta b_mode_of
      (repeat' (first | walk_at "mini" | with_reducible exact i0 _ | with_reducible exact j1 _ | ((with_reducible show whileN _ _ _ _ _ = _); exact e)))
    | fin ib' wb' we' z =>
      cases z with
      | succ z =>
        refine ⟨sEsc, yields_pure (us := [.str (c :: s), .bool h']) rfl rfl rfl fun d σ hd => ?_, .esc⟩
        show outR (exSs _ N b_mode_of [some (.str (c :: s)), some (.bool h'), none, none, none, none, none, none, none, none] σ) = _
        obtain ⟨a', x9, e⟩ := r d σ hd
        have hz : decide ((0 : Int) < ((z + 1 : Nat) : Int)) = true := decide_eq_true (by omega)
        delta b_mode_of
        (repeat' (first | walk_at "mini" | with_reducible exact i0 _ | with_reducible exact j1 _ | ((with_reducible show whileN _ _ _ _ _ = _); exact e)))
      | zero =>
        cases ib' with
        | false =>
          have k := ok.2.2 rfl
          cases hh : (h' && ([c] == [35])) with
          | true =>
            refine ⟨sBrace, yields_pure (us := [.str (c :: s), .bool h']) rfl rfl rfl fun d σ hd => ?_, .brace (ok.1 rfl)⟩
            show outR (exSs _ N b_mode_of [some (.str (c :: s)), some (.bool h'), none, none, none, none, none, none, none, none] σ) = _
            obtain ⟨a', x9, e⟩ := r d σ hd
            delta b_mode_of
            (repeat' (first | walk_at "mini" | with_reducible exact i0 _ | with_reducible exact j1 _ | ((with_reducible show whileN _ _ _ _ _ = _); exact e)))
          | false =>
            refine ⟨sNone, yields_pure (us := [.str (c :: s), .bool h']) rfl rfl rfl fun d σ hd => ?_, .none k.2 (first k.1) (hash hh)⟩
            show outR (exSs _ N b_mode_of [some (.str (c :: s)), some (.bool h'), none, none, none, none, none, none, none, none] σ) = _
            obtain ⟨a', x9, e⟩ := r d σ hd
            delta b_mode_of
            (repeat' (first | walk_at "mini" | with_reducible exact i0 _ | with_reducible exact j1 _ | ((with_reducible show whileN _ _ _ _ _ = _); exact e)))
        | true =>
          cases wb' with
          | true =>
            refine ⟨sBrace, yields_pure (us := [.str (c :: s), .bool h']) rfl rfl rfl fun d σ hd => ?_, .brace (ok.1 rfl)⟩
            show outR (exSs _ N b_mode_of [some (.str (c :: s)), some (.bool h'), none, none, none, none, none, none, none, none] σ) = _
            obtain ⟨a', x9, e⟩ := r d σ hd
            cases we'
            · delta b_mode_of
              (repeat' (first | walk_at "mini" | with_reducible exact i0 _ | with_reducible exact j1 _ | ((with_reducible show whileN _ _ _ _ _ = _); exact e)))
            · delta b_mode_of
              (repeat' (first | walk_at "mini" | with_reducible exact i0 _ | with_reducible exact j1 _ | ((with_reducible show whileN _ _ _ _ _ = _); exact e)))
          | false =>
            have k := ok.2.1 rfl
            have k2 := Bool.or_eq_false_iff.mp k.1
            cases we' with
            | true =>
              refine ⟨sMask, yields_pure (us := [.str (c :: s), .bool h']) rfl rfl rfl fun d σ hd => ?_, .mask k.2 (first k2.1) (hash k2.2)⟩
              show outR (exSs _ N b_mode_of [some (.str (c :: s)), some (.bool h'), none, none, none, none, none, none, none, none] σ) = _
              obtain ⟨a', x9, e⟩ := r d σ hd
              delta b_mode_of
              (repeat' (first | walk_at "mini" | with_reducible exact i0 _ | with_reducible exact j1 _ | ((with_reducible show whileN _ _ _ _ _ = _); exact e)))
            | false =>
              refine ⟨sBrace, yields_pure (us := [.str (c :: s), .bool h']) rfl rfl rfl fun d σ hd => ?_, .brace (ok.1 rfl)⟩
              show outR (exSs _ N b_mode_of [some (.str (c :: s)), some (.bool h'), none, none, none, none, none, none, none, none] σ) = _
              obtain ⟨a', x9, e⟩ := r d σ hd
              delta b_mode_of
              (repeat' (first | walk_at "mini" | with_reducible exact i0 _ | with_reducible exact j1 _ | ((with_reducible show whileN _ _ _ _ _ = _); exact e)))
end
end

section
section
variable {N : Nat}
theorem m_joinG {σ : Sto} (sep : List Nat) {l : List (List Nat)} (h : (l.map List.length).sum + l.length * sep.length ≤ line) : methV (σ ++ [.list (l.map Vl.str)]) .join (.str sep) [.ref σ.length] = some (.str (joinL sep l), σ ++ [.list (l.map Vl.str)]) := by
  exact mt_join lst_at (strsOf_map l) h
theorem quiet_lit {x : Nat} (h : quietB x = false) : [36, 91, 92].contains x = false ∧ bareS.contains x = false ∧ blankS.contains x = false ∧ x ≠ 92 := by
  simp only [quietB, Bool.or_eq_false_iff, List.contains_cons, List.contains_nil, Bool.or_false, beq_eq_false_iff_ne] at h ⊢
  obtain ⟨⟨h1, h2, h3, h4⟩, h5, h6, h7, h8, h9, h10⟩ := h
  exact ⟨⟨h2, h1, h4⟩, ⟨h5, h6, h8, h9, h10, h7, h3⟩, ⟨h5, h6, h7, h8, h9, h10⟩, h4⟩
theorem dec_quiet : ∀ {s : List Nat}, (∀ x ∈ s, quietB x = false) → Dec bareS s s
  | [], _ => .nil
  | c :: s, h => .lit (quiet_lit (h c (List.mem_cons_self ..))).1 (quiet_lit (h c (List.mem_cons_self ..))).2.1 (dec_quiet fun x hx => h x (List.mem_cons_of_mem _ hx))
theorem ldec_quiet : ∀ {s : List Nat}, (∀ x ∈ s, quietB x = false) → LDec s s
  | [], _ => .nil
  | c :: s, h => .lit (quiet_lit (h c (List.mem_cons_self ..))).2.2.1 (quiet_lit (h c (List.mem_cons_self ..))).2.2.2 (ldec_quiet fun x hx => h x (List.mem_cons_of_mem _ hx))
noncomputable def EscB (dp : Bool) (c : Nat) (e : List Nat) : Prop := BsOf e c ∨ (e = [c] ∧ [12, 10, 13, 9, 11].contains c = false ∧ escS.contains c = false ∧ (dp = true → [123, 125].contains c = false))
inductive Escs (dp : Bool) : List Nat → List (List Nat) → Prop
  | nil : Escs dp [] []
  | cons {c : Nat} {e s : List Nat} {es : List (List Nat)} (h : EscB dp c e) (h35 : c = 35 → e = [c]) (hl : e.length ≤ 2) (t : Escs dp s es) : Escs dp (c :: s) (e :: es)
theorem escB_lit {dp : Bool} {c : Nat} (h1 : [12, 10, 13, 9, 11].contains c = false) (h2 : escS.contains c = false) : [36, 91, 92].contains c = false ∧ bareS.contains c = false ∧ blankS.contains c = false ∧ c ≠ 92 ∧ c ≠ 34 := by
  simp only [escS, List.contains_cons, List.contains_nil, Bool.or_false, Bool.or_eq_false_iff, beq_eq_false_iff_ne] at h1 h2 ⊢
  obtain ⟨a1, a2, a3, a4, a5⟩ := h1
  obtain ⟨b1, b2, b3, b4, b5, b6, b7⟩ := h2
  exact ⟨⟨b3, b2, b6⟩, ⟨b5, a4, a5, a1, a3, a2, b4⟩, ⟨b5, a4, a2, a5, a1, a3⟩, b6, b7⟩
theorem Escs.dec {dp : Bool} {s : List Nat} {es : List (List Nat)} (E : Escs dp s es) : Dec bareS es.flatten s ∧ LDec es.flatten s := by
  induction E with
  | nil => exact ⟨.nil, .nil⟩
  | cons h h35 hl t ih =>
    rw [List.flatten_cons]
    rcases h with h | ⟨rfl, h1, h2, _⟩
    · exact ⟨.esc h ih.1, .esc h ih.2⟩
    · obtain ⟨k1, k2, k3, k4, _⟩ := escB_lit (dp := dp) h1 h2
      exact ⟨.lit k1 k2 ih.1, .lit k3 k4 ih.2⟩
theorem Escs.len {dp : Bool} {s : List Nat} {es : List (List Nat)} (E : Escs dp s es) : (es.map List.length).sum ≤ 2 * s.length ∧ es.length = s.length := by
  induction E with
  | nil => exact ⟨Nat.le_refl _, rfl⟩
  | cons h h35 hl t ih => simp; omega
structure QuOk (h' : Bool) (t q : List Nat) : Prop where
  wd : Wd q t
  el : El q t
  len : q.length ≤ 2 * t.length + 2
  hash : h' = true → ∀ r, q ≠ 35 :: r
section
variable {h' : Bool} {t : List Nat} {m : List Nat} {d : Nat} {σ : Sto} {ws : List Vl} {vs : List Vl} {c : Nat} {e : List Nat} {p0 p1 p4 : Option Vl} {Q : Option (Fl × Loc × Sto)}
theorem qu1 (hd : 1 ≤ d) (y : Yields N 1 .escaped [.str [c], .bool (m == sEsc)] (.str e)) (hw : ws.length < line) (k : FL N d w_quote_0 4 vs [p0, p1, some (.str m), some (.ref σ.length), some (.str [c])] (σ ++ [.list (ws ++ [.str e])]) = Q) :
    FL N d w_quote_0 4 (.str [c] :: vs) [p0, p1, some (.str m), some (.ref σ.length), p4] (σ ++ [.list ws]) = Q := by
  have y := fun σ => y.at hd σ
  subst k
  delta w_quote_0
  apply fo_turn
  (repeat' (first | walk_at "mini" | with_reducible exact y _ | ((with_reducible show methK _ _ _ = _); exact mk_app) | ((with_reducible show methV _ _ _ _ = _); exact m_app hw)))
end
theorem qu_loop {m : List Nat} : ∀ (s : List Nat), ∃ es, Escs (m == sEsc) s es ∧ ∀ d σ (ws : List Vl) (p0 p1 p4 : Option Vl), 1 ≤ d → ws.length + s.length < line →
    ∃ p4', FL N d w_quote_0 4 (s.map fun c => .str [c]) [p0, p1, some (.str m), some (.ref σ.length), p4] (σ ++ [.list ws]) = some (.next, [p0, p1, some (.str m), some (.ref σ.length), p4'], σ ++ [.list (ws ++ es.map Vl.str)])
  | [] => ⟨[], .nil, fun d σ ws p0 p1 p4 hd hw => ⟨p4, by simp [forL]⟩⟩
  | c :: s => by
    obtain ⟨e, y, h1, h2, h3⟩ := y_escaped (N := N) c (m == sEsc)
    obtain ⟨es, E, r⟩ := qu_loop s
    refine ⟨e :: es, .cons h3 h2 h1 E, fun d σ ws p0 p1 p4 hd hw => ?_⟩
    simp at hw
    obtain ⟨p4', e1⟩ := r d σ (ws ++ [.str e]) p0 p1 (some (.str [c])) hd (by simp; omega)
    exact ⟨p4', qu1 hd y (by omega) (by rw [e1]; simp)⟩
theorem qu_first {dp : Bool} {c : Nat} {s : List Nat} {es : List (List Nat)} (E : Escs dp (c :: s) es) (h : dp = true ∨ c ≠ 123 ∧ c ≠ 34) : ∃ x r, es.flatten = x :: r ∧ x ≠ 123 ∧ x ≠ 34 ∧ blankS.contains x = false ∧ (x = 35 → c = 35) := by
  cases E with
  | cons hb h35 hl t =>
    rw [List.flatten_cons]
    rcases hb with hb | ⟨rfl, h1, h2, h3⟩
    · obtain ⟨c2, e', rfl, _⟩ := hb.head
      exact ⟨_, _, rfl, by decide, by decide, by decide, fun q => by cases q⟩
    · obtain ⟨k1, k2, k3, k4, k5⟩ := escB_lit (dp := dp) h1 h2
      refine ⟨_, _, rfl, ?_, k5, k3, fun q => q⟩
      rcases h with h | h
      · have := h3 h; rintro rfl; simp at this
      · exact h.1
theorem y_quote (hN : line < N) (t : List Nat) (ht : 2 * t.length + 10 ≤ line) (h' : Bool) : ∃ q, Yields N 3 .quote [.str t, .bool h'] (.str q) ∧ QuOk h' t q := by
  obtain ⟨m, ym, M⟩ := y_mode_of hN t (by omega) h'
  cases M with
  | brace B =>
    have b1 : ∀ σ, binV σ .add (.str [123]) (.str t) = some (.str (123 :: t)) := fun σ => b_addS (show 1 + t.length ≤ line by omega)
    have b2 : ∀ σ, binV σ .add (.str (123 :: t)) (.str [125]) = some (.str (123 :: (t ++ [125]))) := fun σ => b_addS (show t.length + 1 + 1 ≤ line by omega)
    refine ⟨123 :: (t ++ [125]), yields_pure (us := [.str t, .bool h']) rfl rfl rfl fun d σ hd => ?_, ⟨.brac B, .brac B, by simp; omega, fun _ r q => (by cases q)⟩⟩
    show outR (exSs _ N b_quote [some (.str t), some (.bool h'), none, none, none] σ) = _
    have ym := ym.at hd σ
    delta b_quote
    (repeat' (first | walk_at "mini" | with_reducible exact ym | with_reducible exact b1 _ | with_reducible exact b2 _))
  | @none c s h h1 h2 =>
    refine ⟨c :: s, yields_pure (us := [.str (c :: s), .bool h']) rfl rfl rfl fun d σ hd => ?_, ⟨.bare (dec_quiet fun x hx => (h x hx).1) h1.1 h1.2, .bare (ldec_quiet fun x hx => (h x hx).1) (quiet_lit (h c (List.mem_cons_self ..)).1).2.2.1 h1.1 h1.2 (by omega), by omega, fun q r e => by cases e; exact h2 q rfl⟩⟩
    show outR (exSs _ N b_quote [some (.str (c :: s)), some (.bool h'), none, none, none] σ) = _
    have ym := ym.at hd σ
    delta b_quote
    (repeat' (first | walk_at "mini" | with_reducible exact ym))
  | @mask c s h h1 h2 =>
    obtain ⟨es, E, r⟩ := qu_loop (N := N) (m := sMask) (c :: s)
    obtain ⟨x, w, hx, k1, k2, k3, k4⟩ := qu_first E (.inr h1)
    obtain ⟨l1, l2⟩ := E.len
    have hh : (h' && ([c] == [35])) = false := by
      cases h' with
      | false => rfl
      | true => have := h2 rfl; simp [this]
    have D := E.dec
    rw [hx] at D
    refine ⟨es.flatten, yields_pureT [.list (es.map Vl.str)] (us := [.str (c :: s), .bool h']) rfl rfl rfl fun d σ hd => ?_, ?_⟩
    · show outR (exSs _ N b_quote [some (.str (c :: s)), some (.bool h'), none, none, none] σ) = _
      have ym := ym.at hd σ
      have i0 : ∀ σ, idxV σ (.str (c :: s)) (.int 0) = some (.str [c]) := fun _ => (show Suf (c :: s) 0 (c :: s) from ⟨rfl, Nat.zero_le _, by omega⟩).idx
      obtain ⟨p4', e1⟩ := r d σ [] (some (.str (c :: s))) (some (.bool h')) none (by omega) (by simp at ht ⊢; omega)
      have j1 : methV (σ ++ [.list (es.map Vl.str)]) .join (.str []) [.ref σ.length] = some (.str es.flatten, σ ++ [.list (es.map Vl.str)]) := by
        rw [m_joinG [] (by simp at ht ⊢; simp at l1; omega), joinL_flat]
      delta b_quote
      (repeat' (first | walk_at "mini" | with_reducible exact ym | with_reducible exact i0 _ | ((with_reducible show forL _ _ _ _ _ = _); exact e1) | ((with_reducible show methV _ _ _ _ = _); exact j1)))
    · rw [hx]
      exact ⟨.bare D.1 k1 k2, .bare D.2 k3 k1 k2 (by omega), by rw [← hx, List.length_flatten]; omega, fun q r e => by cases e; exact h2 q (k4 rfl)⟩
  | @esc c s =>
    obtain ⟨es, E, r⟩ := qu_loop (N := N) (m := sEsc) (c :: s)
    obtain ⟨x, w, hx, k1, k2, k3, k4⟩ := qu_first E (.inl rfl)
    obtain ⟨l1, l2⟩ := E.len
    have D := E.dec
    cases hh : (h' && ([c] == [35])) with
    | false =>
      rw [hx] at D
      refine ⟨es.flatten, yields_pureT [.list (es.map Vl.str)] (us := [.str (c :: s), .bool h']) rfl rfl rfl fun d σ hd => ?_, ?_⟩
      · show outR (exSs _ N b_quote [some (.str (c :: s)), some (.bool h'), none, none, none] σ) = _
        have ym := ym.at hd σ
        have i0 : ∀ σ, idxV σ (.str (c :: s)) (.int 0) = some (.str [c]) := fun _ => (show Suf (c :: s) 0 (c :: s) from ⟨rfl, Nat.zero_le _, by omega⟩).idx
        obtain ⟨p4', e1⟩ := r d σ [] (some (.str (c :: s))) (some (.bool h')) none (by omega) (by simp at ht ⊢; omega)
        have j1 : methV (σ ++ [.list (es.map Vl.str)]) .join (.str []) [.ref σ.length] = some (.str es.flatten, σ ++ [.list (es.map Vl.str)]) := by
          rw [m_joinG [] (by simp at ht ⊢; simp at l1; omega), joinL_flat]
        delta b_quote
        (repeat' (first | walk_at "mini" | with_reducible exact ym | with_reducible exact i0 _ | ((with_reducible show forL _ _ _ _ _ = _); exact e1) | ((with_reducible show methV _ _ _ _ = _); exact j1)))
      · rw [hx]
        refine ⟨.bare D.1 k1 k2, .bare D.2 k3 k1 k2 (by omega), by rw [← hx, List.length_flatten]; omega, fun q r e => ?_⟩
        cases e
        have := k4 rfl
        subst q this
        simp at hh
    | true =>
      have hc : c = 35 := by simp at hh; exact hh.2
      subst hc
      refine ⟨92 :: es.flatten, yields_pureT [.list (Vl.str [92] :: es.map Vl.str)] (us := [.str (35 :: s), .bool h']) rfl rfl rfl fun d σ hd => ?_, ?_⟩
      · show outR (exSs _ N b_quote [some (.str (35 :: s)), some (.bool h'), none, none, none] σ) = _
        have ym := ym.at hd σ
        have i0 : ∀ σ, idxV σ (.str (35 :: s)) (.int 0) = some (.str [35]) := fun _ => (show Suf (35 :: s) 0 (35 :: s) from ⟨rfl, Nat.zero_le _, by omega⟩).idx
        obtain ⟨p4', e1⟩ := r d σ [.str [92]] (some (.str (35 :: s))) (some (.bool h')) none (by omega) (by simp at ht ⊢; omega)
        have j1 : methV (σ ++ [.list (([92] :: es).map Vl.str)]) .join (.str []) [.ref σ.length] = some (.str (92 :: es.flatten), σ ++ [.list (([92] :: es).map Vl.str)]) := by
          rw [m_joinG [] (by simp at ht ⊢; simp at l1; omega), joinL_flat]; rfl
        delta b_quote
        (repeat' (first | walk_at "mini" | with_reducible exact ym | with_reducible exact i0 _ | ((with_reducible show forL _ _ _ _ _ = _); exact e1) | ((with_reducible show methK _ _ _ = _); exact mk_app) | ((with_reducible show methV _ _ _ _ = _); exact m_app (by decide)) | ((with_reducible show methV _ _ _ _ = _); exact j1)))
      · cases E with
        | @cons _ e _ es hb h35 hl t =>
          obtain rfl := h35 rfl
          have D := t.dec
          have hB : BsOf [92, 35] 35 := .other (by decide) (by decide) (by decide) (by decide)
          refine ⟨.bare (c := 92) (.esc hB D.1) (by decide) (by decide), .bare (c := 92) (.esc hB D.2) (by decide) (by decide) (by decide) (by simp at ht ⊢; omega), ?_, fun _ r q => (by cases q)⟩
          have := t.len
          simp [List.length_flatten]; omega
inductive Els : List (List Nat) → List (List Nat) → Prop
  | nil : Els [] []
  | cons {q x : List Nat} {qs l : List (List Nat)} (E : El q x) (h : Els qs l) : Els (q :: qs) (x :: l)
theorem Els.jn {qs l : List (List Nat)} (h : Els qs l) : Jn (joinL [32] qs) l := by
  induction h with
  | nil => exact .nil
  | cons E h ih =>
    cases h with
    | nil => exact .one E
    | cons E' h' =>
      show Jn (_ ++ [32] ++ joinL [32] _) _
      rw [List.append_assoc]
      exact .cons E ih
theorem joinB_len (sep : List Nat) : ∀ l : List (List Nat), (joinL sep l).length ≤ (l.map List.length).sum + l.length * sep.length
  | [] => Nat.zero_le _
  | [x] => by simp [joinL]
  | x :: y :: l => by
    have := joinB_len sep (y :: l)
    show (x ++ sep ++ joinL sep (y :: l)).length ≤ _
    simp [Nat.add_mul] at this ⊢; omega
noncomputable def tot (l : List (List Nat)) : Nat := (l.map fun x => 2 * x.length + 3).sum
theorem bi_lenR {σ : Sto} {l : List Vl} : biV (σ ++ [.list l]) .len [.ref σ.length] = some (.int l.length) := by
  show (lstI (σ ++ [.list l]) σ.length).map _ = _
  rw [lstI_end]; rfl
section
variable {x q : List Nat} {d : Nat} {σ : Sto} {ws : List Vl} {vs : List Vl} {p0 p2 : Option Vl} {Q : Option (Fl × Loc × Sto)}
theorem jo1 (hd : 3 ≤ d) (y : Yields N 3 .quote [.str x, .bool ((ws.length : Int) == 0)] (.str q)) (hw : ws.length < line) (k : FL N d w_join_list_0 2 vs [p0, some (.ref σ.length), some (.str x)] (σ ++ [.list (ws ++ [.str q])]) = Q) :
    FL N d w_join_list_0 2 (.str x :: vs) [p0, some (.ref σ.length), p2] (σ ++ [.list ws]) = Q := by
  have y := fun σ => y.at hd σ
  subst k
  delta w_join_list_0
  apply fo_turn
  (repeat' (first | walk_at "mini" | with_reducible exact y _ | ((with_reducible show biV _ _ _ = _); exact bi_lenR) | ((with_reducible show methK _ _ _ = _); exact mk_app) | ((with_reducible show methV _ _ _ _ = _); exact m_app hw)))
end
theorem jo_loop (hN : line < N) : ∀ (l : List (List Nat)) (k : Nat), tot l ≤ 1000000 → ∃ qs, Els qs l ∧ (qs.map List.length).sum + qs.length ≤ tot l ∧ ∀ d σ (ws : List Vl) (p0 p2 : Option Vl), ws.length = k → 3 ≤ d → ws.length + l.length < line →
    ∃ p2', FL N d w_join_list_0 2 (l.map Vl.str) [p0, some (.ref σ.length), p2] (σ ++ [.list ws]) = some (.next, [p0, some (.ref σ.length), p2'], σ ++ [.list (ws ++ qs.map Vl.str)])
  | [], k, _ => ⟨[], .nil, Nat.le_refl _, fun d σ ws p0 p2 hk hd hw => ⟨p2, by simp [forL]⟩⟩
  | x :: l, k, ht => by
    have ht' : 2 * x.length + 3 + tot l ≤ 1000000 := by simpa [tot] using ht
    have hl : line = 16777216 := rfl
    obtain ⟨q, y, ok⟩ := y_quote hN x (by omega) ((k : Int) == 0)
    obtain ⟨qs, E, hs, r⟩ := jo_loop hN l (k + 1) (by omega)
    have h3 := ok.len
    refine ⟨q :: qs, .cons ok.el E, ?_, fun d σ ws p0 p2 hk hd hw => ?_⟩
    · have : tot (x :: l) = 2 * x.length + 3 + tot l := by simp [tot]
      simp; omega
    · subst hk
      simp at hw
      obtain ⟨p2', e1⟩ := r d σ (ws ++ [.str q]) p0 (some (.str x)) (by simp) hd (by simp; omega)
      exact ⟨p2', jo1 hd y (by omega) (by rw [e1]; simp)⟩
theorem tot_len (l : List (List Nat)) : l.length ≤ tot l := by
  induction l with
  | nil => exact Nat.zero_le _
  | cons x l ih => simp [tot] at ih ⊢; omega
theorem y_join_list (hN : line < N) (l : List (List Nat)) (ht : tot l ≤ 1000000) : ∃ w, Yields N 4 .join_list [.lst (l.map Vl.str)] (.str w) ∧ Jn w l ∧ w.length ≤ tot l := by
  obtain ⟨qs, E, hs, r⟩ := jo_loop hN l 0 ht
  have hl : line = 16777216 := rfl
  have h2 := tot_len l
  have h3 := joinB_len [32] qs
  refine ⟨joinL [32] qs, yields_pureT [.list (qs.map Vl.str)] (us := [.lst (l.map Vl.str)]) rfl rfl rfl fun d σ hd => ?_, E.jn, by simp at h3; omega⟩
  show outR (exSs _ N b_join_list [some (.lst (l.map Vl.str)), none, none] σ) = _
  obtain ⟨p2', e1⟩ := r d σ [] (some (.lst (l.map Vl.str))) none rfl hd (by simp; omega)
  have j1 := m_joinG (σ := σ) [32] (l := qs) (by simp; omega)
  delta b_join_list
  (repeat' (first | walk_at "mini" | ((with_reducible show forL _ _ _ _ _ = _); exact e1) | ((with_reducible show methV _ _ _ _ = _); exact j1)))
end
end

section
section
variable {N : Nat}
/-! ## Signs written -/
theorem idx_nat {σ : Sto} {s : List Nat} {k c : Nat} (h : s[k]? = some c) : idxV σ (.str s) (.int (k : Int)) = some (.str [c]) := by
  exact idxS h
theorem b_modN {σ : Sto} {A B : Nat} (h : 0 < B ∧ B < big) : binV σ .mod (.int (A : Int)) (.int (B : Int)) = some (.int ((A % B : Nat) : Int)) := by
  rw [b_mod (by omega)]; rfl
theorem b_divN {σ : Sto} {A B : Nat} (h : 0 < B ∧ B < big) : binV σ .fdiv (.int (A : Int)) (.int (B : Int)) = some (.int ((A / B : Nat) : Int)) := by
  rw [b_fdiv (by omega)]; rfl
noncomputable abbrev digs : List Nat := [48, 49, 50, 51, 52, 53, 54, 55, 56, 57, 97, 98, 99, 68, 69, 70]
noncomputable def digC (k : Nat) : Nat := digs.getD k 0
theorem digC_at (k : Nat) (hk : k < 16) : digs[k]? = some (digC k) ∧ isHex (digC k) ∧ hexD (digC k) = k := by
  have h : ∀ k : Fin 16, digs[k.val]? = some (digC k.val) ∧ (digitV (digC k.val) = (hexD (digC k.val) : Int) ∧ hexD (digC k.val) ≤ 15) ∧ hexD (digC k.val) = k.val := by decide +kernel
  exact h ⟨k, hk⟩
noncomputable def hexL (n : Nat) : Nat → List Nat
  | 0 => []
  | w + 1 => hexL (n / 16) w ++ [digC (n % 16)]
theorem hexL_len : ∀ w n, (hexL n w).length = w
  | 0, _ => rfl
  | w + 1, n => by simp [hexL, hexL_len w]
theorem hexL_hex : ∀ w n, ∀ c ∈ hexL n w, isHex c
  | 0, _, c, hc => by simp [hexL] at hc
  | w + 1, n, c, hc => by
    simp only [hexL, List.mem_append, List.mem_singleton] at hc
    rcases hc with hc | rfl
    · exact hexL_hex w _ c hc
    · exact (digC_at _ (Nat.mod_lt _ (by decide))).2.1
theorem hv_app : ∀ (l : List Nat) (v c : Nat), hv v (l ++ [c]) = hv v l * 16 + hexD c
  | [], v, c => rfl
  | x :: l, v, c => hv_app l _ c
theorem hexL_val : ∀ w n, n < 16 ^ w → hv 0 (hexL n w) = n
  | 0, n, h => by simp at h; subst h; rfl
  | w + 1, n, h => by
    rw [hexL, hv_app, hexL_val w (n / 16) (by rw [Nat.pow_succ] at h; omega), (digC_at _ (Nat.mod_lt _ (by decide))).2.2]
    omega
section
variable {n d : Nat} {σ : Sto} {vs : List Vl} {v : Vl} {out : List Nat} {p1 p3 : Option Vl} {Q : Option (Fl × Loc × Sto)}
theorem lh1 (ho : [digC (n % 16)].length + out.length ≤ line) (k : FL N d w_law_hex_0 3 vs [some (.int ((n / 16 : Nat) : Int)), p1, some (.str (digC (n % 16) :: out)), some v] σ = Q) :
    FL N d w_law_hex_0 3 (v :: vs) [some (.int (n : Int)), p1, some (.str out), p3] σ = Q := by
  have b1 : ∀ σ, binV σ .mod (.int (n : Int)) (.int 16) = some (.int ((n % 16 : Nat) : Int)) := fun _ => b_modN (B := 16) (by decide)
  have b2 : ∀ σ, binV σ .fdiv (.int (n : Int)) (.int 16) = some (.int ((n / 16 : Nat) : Int)) := fun _ => b_divN (B := 16) (by decide)
  have i1 : ∀ σ, idxV σ (.str [48, 49, 50, 51, 52, 53, 54, 55, 56, 57, 97, 98, 99, 68, 69, 70]) (.int ((n % 16 : Nat) : Int)) = some (.str [digC (n % 16)]) := fun _ => idx_nat (digC_at _ (Nat.mod_lt _ (by decide))).1
  have b3 : ∀ σ, binV σ .add (.str [digC (n % 16)]) (.str out) = some (.str (digC (n % 16) :: out)) := fun _ => b_addS ho
  subst k
  delta w_law_hex_0
  apply fo_turn
  (repeat' (first | walk_at "mini" | with_reducible exact b1 _ | with_reducible exact b2 _ | with_reducible exact b3 _ | with_reducible exact i1 _))
end
theorem lh_loop {d : Nat} {σ : Sto} {p1 : Option Vl} : ∀ (vs : List Vl) (n : Nat) (out : List Nat) (p3 : Option Vl), out.length + vs.length ≤ line →
    ∃ n' p3', FL N d w_law_hex_0 3 vs [some (.int (n : Int)), p1, some (.str out), p3] σ = some (.next, [some (.int n'), p1, some (.str (hexL n vs.length ++ out)), p3'], σ)
  | [], n, out, p3, h => ⟨_, _, rfl⟩
  | v :: vs, n, out, p3, h => by
    simp at h
    obtain ⟨n', p3', e⟩ := lh_loop vs (n / 16) (digC (n % 16) :: out) (some v) (by simp; omega)
    exact ⟨n', p3', lh1 (by simp; omega) (by rw [e]; simp [hexL])⟩
theorem rangeVs_len (k : Nat) : (rangeVs k).length = k := by simp [rangeVs]
theorem y_law_hex (n w : Nat) (hw : w ≤ 100) : Yields N 1 .law_hex [.int n, .int w] (.str (hexL n w)) := by
  refine yields_pure (us := [.int n, .int w]) rfl rfl rfl fun d σ hd => ?_
  show outR (exSs _ N b_law_hex [some (.int n), some (.int w), none, none] σ) = _
  have hl : line = 16777216 := rfl
  have hb : big = 1099511627776 := rfl
  obtain ⟨n', p3', e⟩ := lh_loop (N := N) (d := d) (σ := σ) (p1 := some (.int w)) (rangeVs w) n [] none (by rw [rangeVs_len]; simp; omega)
  rw [rangeVs_len, List.append_nil] at e
  have hr : (0 : Int) ≤ (w : Int) ∧ (w : Int) < big := by omega
  delta b_law_hex
  (repeat' (first | walk_at "mini" | ((with_reducible show forL _ _ _ _ _ = _); exact e) | ((with_reducible show 0 ≤ _ ∧ _); exact hr)))
noncomputable abbrev alnum : List Nat := [97, 98, 99, 100, 101, 102, 103, 104, 105, 106, 107, 108, 109, 110, 111, 112, 113, 114, 115, 116, 117, 118, 119, 120, 121, 122, 65, 66, 67, 68, 69, 70, 71, 72, 73, 74, 75, 76, 77, 78, 79, 80, 81, 82, 83, 84, 85, 86, 87, 88, 89, 90, 48, 49, 50, 51, 52, 53, 54, 55, 56, 57]
noncomputable def Coded (c : Nat) (e : List Nat) : Prop := BsOf e c ∨ (e = [c] ∧ alnum.contains c = true)
theorem oct_at (k : Nat) (h : k < 8) : [48, 49, 50, 51, 52, 53, 54, 55][k]? = some (48 + k) ∧ digitV (48 + k) = (k : Int) ∧ [48, 49, 50, 51, 52, 53, 54, 55].contains (48 + k) = true := by
  have h2 : ∀ k : Fin 8, [48, 49, 50, 51, 52, 53, 54, 55][k.val]? = some (48 + k.val) ∧ digitV (48 + k.val) = (k.val : Int) ∧ [48, 49, 50, 51, 52, 53, 54, 55].contains (48 + k.val) = true := by decide +kernel
  exact h2 ⟨k, h⟩
theorem oct_at4 (k : Nat) (h : k < 4) : [48, 49, 50, 51][k]? = some (48 + k) := by
  have h2 : ∀ k : Fin 4, [48, 49, 50, 51][k.val]? = some (48 + k.val) := by decide +kernel
  exact h2 ⟨k, h⟩
theorem hex_coded {s w c : Nat} (hs : s = 120 ∨ s = 117 ∨ s = 85) (hw : w = hexLen s) (hc : c < 16 ^ w) (h : c < 1114112) : BsOf (92 :: s :: hexL c w) c :=
  .hex hs (by rw [hexL_len, hw]) (hexL_hex w c) (hexL_val w c hc) (by omega)
theorem div64 {c : Nat} (h : c < 256) : c / 64 < 4 := by omega
theorem oct_sum (c : Nat) : ((0 * 8 + c / 64) * 8 + c / 8 % 8) * 8 + c % 8 = c := by omega
theorem y_law_coded (c way : Nat) (hc : c < 1114112) : ∃ e, Yields N 2 .law_coded [.str [c], .int way] (.str e) ∧ e.length ≤ 10 ∧ Coded c e := by
  have hl : line = 16777216 := rfl
  have add2 : ∀ (s w : Nat), w ≤ 8 → ∀ σ, binV σ .add (.str [92, s]) (.str (hexL c w)) = some (.str (92 :: s :: hexL c w)) := fun s w hw σ => b_addS (by rw [hexL_len]; show 2 + w ≤ line; omega)
  cases a1 : ((way : Int) == 1 && decide ((c : Int) < 256)) with
  | true =>
    have hc' : c < 256 := Int.ofNat_lt.mp (of_decide_eq_true (Bool.and_eq_true_iff.mp a1).2)
    refine ⟨92 :: 120 :: hexL c 2, yields_pure (us := [.str [c], .int way]) rfl rfl rfl fun d σ hd => ?_, by simp [hexL_len], .inl (hex_coded (.inl rfl) rfl (show c < 16 ^ 2 from hc') hc)⟩
    show outR (exSs _ N b_law_coded [some (.str [c]), some (.int way), none, none] σ) = _
    have y := fun σ => (y_law_hex (N := N) c 2 (by omega)).at (by omega : 1 ≤ d) σ
    have y' : ∀ σ, callN D N d .law_hex [.int c, .int 2] σ = _ := y
    delta b_law_coded
    (repeat' (first | walk_at "mini" | with_reducible exact y' _ | with_reducible exact add2 120 2 (by decide) _))
  | false =>
  cases a2 : ((way : Int) == 2 && decide ((c : Int) < 65536)) with
  | true =>
    have hc' : c < 65536 := Int.ofNat_lt.mp (of_decide_eq_true (Bool.and_eq_true_iff.mp a2).2)
    refine ⟨92 :: 117 :: hexL c 4, yields_pure (us := [.str [c], .int way]) rfl rfl rfl fun d σ hd => ?_, by simp [hexL_len], .inl (hex_coded (.inr (.inl rfl)) rfl (show c < 16 ^ 4 from hc') hc)⟩
    show outR (exSs _ N b_law_coded [some (.str [c]), some (.int way), none, none] σ) = _
    have y := fun σ => (y_law_hex (N := N) c 4 (by omega)).at (by omega : 1 ≤ d) σ
    have y' : ∀ σ, callN D N d .law_hex [.int c, .int 4] σ = _ := y
    delta b_law_coded
    (repeat' (first | walk_at "mini" | with_reducible exact y' _ | with_reducible exact add2 117 4 (by decide) _))
  | false =>
  cases a3 : ((way : Int) == 3) with
  | true =>
    refine ⟨92 :: 85 :: hexL c 8, yields_pure (us := [.str [c], .int way]) rfl rfl rfl fun d σ hd => ?_, by simp [hexL_len], .inl (hex_coded (.inr (.inr rfl)) rfl (show c < 16 ^ 8 from Nat.lt_of_lt_of_le hc (by decide)) hc)⟩
    show outR (exSs _ N b_law_coded [some (.str [c]), some (.int way), none, none] σ) = _
    have y := fun σ => (y_law_hex (N := N) c 8 (by omega)).at (by omega : 1 ≤ d) σ
    have y' : ∀ σ, callN D N d .law_hex [.int c, .int 8] σ = _ := y
    delta b_law_coded
    (repeat' (first | walk_at "mini" | with_reducible exact y' _ | with_reducible exact add2 85 8 (by decide) _))
  | false =>
  cases a4 : ((way : Int) == 4 && decide ((c : Int) < 256)) with
  | true =>
    have hc' : c < 256 := Int.ofNat_lt.mp (of_decide_eq_true (Bool.and_eq_true_iff.mp a4).2)
    have hc4 := div64 hc'
    have o1 := oct_at (c / 64) (Nat.lt_of_lt_of_le hc4 (by decide))
    have o2 := oct_at (c / 8 % 8) (Nat.mod_lt _ (by decide))
    have o3 := oct_at (c % 8) (Nat.mod_lt _ (by decide))
    refine ⟨[92, 48 + c / 64, 48 + c / 8 % 8, 48 + c % 8], yields_pure (us := [.str [c], .int way]) rfl rfl rfl fun d σ hd => ?_, by simp, .inl (.oct o1.2.1 o2.2.1 o3.2.1 (Nat.le_of_lt_succ hc4) (Nat.le_of_lt_succ (Nat.mod_lt _ (by decide))) (Nat.le_of_lt_succ (Nat.mod_lt _ (by decide))) o1.2.2 (oct_sum c))⟩
    show outR (exSs _ N b_law_coded [some (.str [c]), some (.int way), none, none] σ) = _
    have b1 : ∀ σ, binV σ .fdiv (.int (c : Int)) (.int 64) = some (.int ((c / 64 : Nat) : Int)) := fun _ => b_divN (B := 64) (by decide)
    have b2 : ∀ σ, binV σ .fdiv (.int (c : Int)) (.int 8) = some (.int ((c / 8 : Nat) : Int)) := fun _ => b_divN (B := 8) (by decide)
    have b3 : ∀ σ, binV σ .mod (.int ((c / 8 : Nat) : Int)) (.int 8) = some (.int ((c / 8 % 8 : Nat) : Int)) := fun _ => b_modN (B := 8) (by decide)
    have b4 : ∀ σ, binV σ .mod (.int (c : Int)) (.int 8) = some (.int ((c % 8 : Nat) : Int)) := fun _ => b_modN (B := 8) (by decide)
    have i1 : ∀ σ, idxV σ (.str [48, 49, 50, 51]) (.int ((c / 64 : Nat) : Int)) = some (.str [48 + c / 64]) := fun _ => idx_nat (oct_at4 _ hc4)
    have i2 : ∀ σ, idxV σ (.str [48, 49, 50, 51, 52, 53, 54, 55]) (.int ((c / 8 % 8 : Nat) : Int)) = some (.str [48 + c / 8 % 8]) := fun _ => idx_nat o2.1
    have i3 : ∀ σ, idxV σ (.str [48, 49, 50, 51, 52, 53, 54, 55]) (.int ((c % 8 : Nat) : Int)) = some (.str [48 + c % 8]) := fun _ => idx_nat o3.1
    have p1 : ∀ (x : Nat) σ, binV σ .add (.str [92]) (.str [x]) = some (.str [92, x]) := fun _ _ => b_addS (show 2 ≤ line by decide)
    have p2 : ∀ (x y : Nat) σ, binV σ .add (.str [92, x]) (.str [y]) = some (.str [92, x, y]) := fun _ _ _ => b_addS (show 3 ≤ line by decide)
    have p3 : ∀ (x y z : Nat) σ, binV σ .add (.str [92, x, y]) (.str [z]) = some (.str [92, x, y, z]) := fun _ _ _ _ => b_addS (show 4 ≤ line by decide)
    delta b_law_coded
    (repeat' (first | walk_at "mini" | with_reducible exact b1 _ | with_reducible exact b2 _ | with_reducible exact b3 _ | with_reducible exact b4 _ | with_reducible exact i1 _ | with_reducible exact i2 _ | with_reducible exact i3 _ | with_reducible exact p1 _ _ | with_reducible exact p2 _ _ _ | with_reducible exact p3 _ _ _ _))
  | false =>
  have add1 : ∀ (x : Nat) σ, binV σ .add (.str [92]) (.str [x]) = some (.str [92, x]) := fun _ _ => b_addS (show 2 ≤ line by decide)
  cases h1 : [7, 8, 9, 10, 11, 12, 13].contains c with
  | true =>
    have hm : c ∈ [7, 8, 9, 10, 11, 12, 13] := by simpa using h1
    have hk : ∃ (k x : Nat), idxC c [7, 8, 9, 10, 11, 12, 13] 0 = (k : Int) ∧ [97, 98, 116, 110, 118, 102, 114][k]? = some x ∧ BsOf [92, x] c := by
      simp only [List.mem_cons, List.not_mem_nil, or_false] at hm
      rcases hm with rfl | rfl | rfl | rfl | rfl | rfl | rfl
      · exact ⟨0, _, rfl, rfl, .known (by decide)⟩
      · exact ⟨1, _, rfl, rfl, .known (by decide)⟩
      · exact ⟨2, _, rfl, rfl, .known (by decide)⟩
      · exact ⟨3, _, rfl, rfl, .known (by decide)⟩
      · exact ⟨4, _, rfl, rfl, .known (by decide)⟩
      · exact ⟨5, _, rfl, rfl, .known (by decide)⟩
      · exact ⟨6, _, rfl, rfl, .known (by decide)⟩
    obtain ⟨k, x, hk1, hk2, hB⟩ := hk
    refine ⟨[92, x], yields_pure (us := [.str [c], .int way]) rfl rfl rfl fun d σ hd => ?_, by simp, .inl hB⟩
    show outR (exSs _ N b_law_coded [some (.str [c]), some (.int way), none, none] σ) = _
    have k0 : decide ((0 : Int) ≤ (k : Int)) = true := decide_eq_true (by omega)
    have m1 : ∀ σ, methV σ .find (.str [7, 8, 9, 10, 11, 12, 13]) [.str [c]] = some (.int (k : Int), σ) := fun _ => by rw [← hk1]; rfl
    have i1 : ∀ σ, idxV σ (.str [97, 98, 116, 110, 118, 102, 114]) (.int (k : Int)) = some (.str [x]) := fun _ => idx_nat hk2
    delta b_law_coded
    (repeat' (first | walk_at "mini" | with_reducible exact m1 _ | with_reducible exact i1 _ | with_reducible exact add1 _ _))
  | false =>
  have k0 : decide ((0 : Int) ≤ idxC c [7, 8, 9, 10, 11, 12, 13] 0) = false := by rw [idxC_no _ _ _ h1]; rfl
  cases h2 : alnum.contains c with
  | true =>
    refine ⟨[c], yields_pure (us := [.str [c], .int way]) rfl rfl rfl fun d σ hd => ?_, by simp, .inr ⟨rfl, h2⟩⟩
    show outR (exSs _ N b_law_coded [some (.str [c]), some (.int way), none, none] σ) = _
    delta b_law_coded
    (repeat' (first | walk_at "mini" | ((with_reducible show methV _ _ _ _ = _); exact rfl) | ((with_reducible show cmpV _ _ _ _ = _); exact c_inS)))
  | false =>
    refine ⟨[92, c], yields_pure (us := [.str [c], .int way]) rfl rfl rfl fun d σ hd => ?_, by simp, .inl (.other ?_ ?_ ?_ ?_)⟩
    · show outR (exSs _ N b_law_coded [some (.str [c]), some (.int way), none, none] σ) = _
      delta b_law_coded
      (repeat' (first | walk_at "mini" | ((with_reducible show methV _ _ _ _ = _); exact rfl) | ((with_reducible show cmpV _ _ _ _ = _); exact c_inS) | with_reducible exact add1 _ _))
    · rw [← Bool.not_eq_true, List.contains_iff_mem] at h2 ⊢
      exact fun q => h2 (List.Subset.trans (fun x hx => hx) (by decide : [97, 98, 102, 110, 114, 116, 118] ⊆ alnum) q)
    · rintro rfl; simp at h1
    · rw [← Bool.not_eq_true, List.contains_iff_mem] at h2 ⊢
      exact fun q => h2 ((by decide : [120, 117, 85] ⊆ alnum) q)
    · rw [← Bool.not_eq_true, List.contains_iff_mem] at h2 ⊢
      exact fun q => h2 ((by decide : [48, 49, 50, 51, 52, 53, 54, 55] ⊆ alnum) q)
end
end

section
section
variable {N : Nat}
/-! ## Words written -/
inductive Sps (must : List Nat) : List Nat → List Nat → List (List Nat) → Prop
  | nil {ah : List Nat} : Sps must ah [] []
  | cons {ah : List Nat} {c : Nat} {e s : List Nat} {es : List (List Nat)} (h : Coded c e ∨ (e = [c] ∧ must.contains c = false ∧ ah.contains c = false)) (hl : e.length ≤ 10) (t : Sps must [] s es) : Sps must ah (c :: s) (e :: es)
theorem Sps.len {must ah s : List Nat} {es : List (List Nat)} (h : Sps must ah s es) : es.flatten.length ≤ 10 * s.length := by
  induction h with
  | nil => simp
  | cons h hl t ih => simp at ih ⊢; omega
theorem Sps.dec {must ah s S : List Nat} {es : List (List Nat)} (h : Sps must ah s es) (h1 : ∀ c, must.contains c = false → [36, 91, 92].contains c = false ∧ S.contains c = false) (h2 : ∀ c, alnum.contains c = true → [36, 91, 92].contains c = false ∧ S.contains c = false) : Dec S es.flatten s := by
  induction h with
  | nil => exact .nil
  | cons h hl t ih =>
    rw [List.flatten_cons]
    rcases h with (h | ⟨rfl, h⟩) | ⟨rfl, h, _⟩
    · exact .esc h ih
    · exact .lit (h2 _ h).1 (h2 _ h).2 ih
    · exact .lit (h1 _ h).1 (h1 _ h).2 ih
noncomputable def upFrom (k n : Nat) : List Vl := (List.range' k n).map fun (i : Nat) => Vl.int (i : Int)
theorem upFrom_succ (k n : Nat) : upFrom k (n + 1) = .int (k : Int) :: upFrom (k + 1) n := rfl
theorem rangeVs_up (n : Nat) : rangeVs n = upFrom 0 n := by simp [rangeVs, upFrom, List.range_eq_range']
section
variable {t s must ahead out e : List Nat} {k c turn d : Nat} {σ : Sto} {vs : List Vl} {p5 p6 : Option Vl} {Q : Option (Fl × Loc × Sto)}
noncomputable abbrev spW (must ahead : List Nat) (turn k c : Nat) : Bool := must.contains c || (((k : Int) == 0 && ahead.contains c) || (((turn : Int) + (k : Int)) % 3 == 0))
theorem ls1 (hd : 2 ≤ d) (h : Suf t k (c :: s)) (hu : spW must ahead turn k c = true) (ht : turn ≤ 1000000) (y : Yields N 2 .law_coded [.str [c], .int (((turn * 5 + k) % 6 : Nat) : Int)] (.str e)) (ho : out.length + e.length ≤ line)
    (q : FL N d w_law_spelled_0 5 vs [some (.str t), some (.str must), some (.str ahead), some (.int turn), some (.str (out ++ e)), some (.int (k : Int)), some (.str [c])] σ = Q) :
    FL N d w_law_spelled_0 5 (.int (k : Int) :: vs) [some (.str t), some (.str must), some (.str ahead), some (.int turn), some (.str out), p5, p6] σ = Q := by
  have y := fun σ => y.at hd σ
  have hb : big = 1099511627776 := rfl
  have b1 : ∀ σ, binV σ .mod (.int ((turn : Int) + (k : Int))) (.int 3) = some (.int (((turn : Int) + (k : Int)) % 3)) := fun _ => b_mod (by decide)
  have b2 : ∀ σ, binV σ .mul (.int (turn : Int)) (.int 5) = some (.int ((turn : Int) * 5)) := fun _ => b_mul ⟨by omega, by decide⟩
  have b3 : ∀ σ, binV σ .mod (.int ((turn : Int) * 5 + (k : Int))) (.int 6) = some (.int (((turn * 5 + k) % 6 : Nat) : Int)) := fun _ => b_modN (A := turn * 5 + k) (B := 6) (by decide)
  have b4 : ∀ σ, binV σ .add (.str out) (.str e) = some (.str (out ++ e)) := fun _ => b_addS ho
  subst q
  delta w_law_spelled_0
  apply fo_turn
  (repeat' (first | walk_at "mini" | ((with_reducible show idxV _ _ _ = _); exact h.idx) | with_reducible exact b1 _ | with_reducible exact b2 _ | with_reducible exact b3 _ | with_reducible exact b4 _ | with_reducible exact y _ | ((with_reducible show cmpV _ _ _ _ = _); exact c_inS)))
theorem ls2 (h : Suf t k (c :: s)) (hu : spW must ahead turn k c = false) (ho : out.length + [c].length ≤ line)
    (q : FL N d w_law_spelled_0 5 vs [some (.str t), some (.str must), some (.str ahead), some (.int turn), some (.str (out ++ [c])), some (.int (k : Int)), some (.str [c])] σ = Q) :
    FL N d w_law_spelled_0 5 (.int (k : Int) :: vs) [some (.str t), some (.str must), some (.str ahead), some (.int turn), some (.str out), p5, p6] σ = Q := by
  have b1 : ∀ σ, binV σ .mod (.int ((turn : Int) + (k : Int))) (.int 3) = some (.int (((turn : Int) + (k : Int)) % 3)) := fun _ => b_mod (by decide)
  have b4 : ∀ σ, binV σ .add (.str out) (.str [c]) = some (.str (out ++ [c])) := fun _ => b_addS ho
  subst q
  delta w_law_spelled_0
  apply fo_turn
  (repeat' (first | walk_at "mini" | ((with_reducible show idxV _ _ _ = _); exact h.idx) | with_reducible exact b1 _ | with_reducible exact b4 _ | ((with_reducible show cmpV _ _ _ _ = _); exact c_inS)))
end
theorem ls_loop {t must ahead : List Nat} {turn : Nat} (ht : turn ≤ 1000000) : ∀ (s : List Nat) (k : Nat), Suf t k s → (∀ c ∈ s, c < 1114112) → ∃ es, Sps must (if k = 0 then ahead else []) s es ∧ ∀ d σ (out : List Nat) (p5 p6 : Option Vl), 2 ≤ d → out.length + 10 * s.length ≤ line →
    ∃ p5' p6', FL N d w_law_spelled_0 5 (upFrom k s.length) [some (.str t), some (.str must), some (.str ahead), some (.int turn), some (.str out), p5, p6] σ = some (.next, [some (.str t), some (.str must), some (.str ahead), some (.int turn), some (.str (out ++ es.flatten)), p5', p6'], σ)
  | [], k, h, hc => ⟨[], .nil, fun d σ out p5 p6 hd ho => ⟨p5, p6, by simp [upFrom, forL]⟩⟩
  | c :: s, k, h, hc => by
    obtain ⟨es, E, r⟩ := ls_loop (must := must) (ahead := ahead) ht s (k + 1) h.step (fun c hc' => hc c (List.mem_cons_of_mem _ hc'))
    rw [if_neg (by omega)] at E
    cases hu : spW must ahead turn k c with
    | true =>
      obtain ⟨e, y, h1, h2⟩ := y_law_coded (N := N) c ((turn * 5 + k) % 6) (hc c (List.mem_cons_self ..))
      refine ⟨e :: es, .cons (.inl h2) h1 E, fun d σ out p5 p6 hd ho => ?_⟩
      simp at ho
      obtain ⟨p5', p6', e1⟩ := r d σ (out ++ e) (some (.int (k : Int))) (some (.str [c])) hd (by simp; omega)
      exact ⟨p5', p6', (ls1 (vs := upFrom (k + 1) s.length) hd h hu ht y (by omega) rfl).trans (by rw [e1]; simp)⟩
    | false =>
      have hm := Bool.or_eq_false_iff.mp hu
      have hm2 := Bool.or_eq_false_iff.mp hm.2
      refine ⟨[c] :: es, .cons (.inr ⟨rfl, hm.1, ?_⟩) (by simp) E, fun d σ out p5 p6 hd ho => ?_⟩
      · split
        · rename_i hk
          subst hk
          simpa using hm2.1
        · rfl
      · simp at ho
        obtain ⟨p5', p6', e1⟩ := r d σ (out ++ [c]) (some (.int (k : Int))) (some (.str [c])) hd (by simp; omega)
        exact ⟨p5', p6', (ls2 (vs := upFrom (k + 1) s.length) h hu (by simp; omega) rfl).trans (by rw [e1]; simp)⟩
theorem y_law_spelled {t must ahead : List Nat} {turn : Nat} (ht : turn ≤ 1000000) (hl : t.length ≤ 1000000) (hc : ∀ c ∈ t, c < 1114112) : ∃ es, Yields N 3 .law_spelled [.str t, .str must, .str ahead, .int turn] (.str es.flatten) ∧ Sps must ahead t es := by
  have hline : line = 16777216 := rfl
  have hb : big = 1099511627776 := rfl
  have h : Suf t 0 t := ⟨rfl, Nat.zero_le _, by omega⟩
  obtain ⟨es, E, r⟩ := ls_loop (N := N) (must := must) (ahead := ahead) ht t 0 h hc
  rw [if_pos rfl] at E
  refine ⟨es, yields_pure (us := [.str t, .str must, .str ahead, .int turn]) rfl rfl rfl fun d σ hd => ?_, E⟩
  show outR (exSs _ N b_law_spelled [some (.str t), some (.str must), some (.str ahead), some (.int turn), none, none, none] σ) = _
  obtain ⟨p5', p6', e1⟩ := r d σ [] none none hd (by simp; omega)
  rw [← rangeVs_up] at e1
  have hr : (0 : Int) ≤ (t.length : Int) ∧ (t.length : Int) < big := by omega
  delta b_law_spelled
  (repeat' (first | walk_at "mini" | ((with_reducible show forL _ _ _ _ _ = _); exact e1) | ((with_reducible show 0 ≤ _ ∧ _); exact hr)))
section
variable {t s r : List Nat} {a c n d : Nat} {σ : Sto} {z : Int} {x3 : Option Vl}
theorem inNl2 (c : Nat) : inStrs [c] [.str [], .str [10]] = some ([10].contains c) := by
  show (inStrs [c] ([10].map fun x => Vl.str [x])).map (fun x => (([] : List Nat) == [c]) || x) = _
  rw [inStrs_map]; rfl
noncomputable abbrev mbL (t : List Nat) (z : Int) (a : Nat) (x3 : Option Vl) : Loc := [some (.str t), some (.int z), some (.int (a : Int)), x3]
theorem mb0 (h : Suf t a []) : LP N d t_law_may_brace_0 w_law_may_brace_0 (n + 1) (mbL t z a x3) σ = some (.next, mbL t z a x3, σ) := by
  have hl := h.end
  delta t_law_may_brace_0 w_law_may_brace_0
  refine wh_end ?_
  (repeat' (first | walk_at "mini"))
theorem mb1 (h : Suf t a [92]) : ∃ ρ, LP N d t_law_may_brace_0 w_law_may_brace_0 (n + 1) (mbL t z a x3) σ = some (.ret (.bool false), ρ, σ) := by
  have hl := h.lt
  have e1 : ∀ σ, slcV σ (.str t) ((a : Int) + 1) ((a : Int) + 2) = some (.str []) := fun _ => h.step.c1n
  have j1 : ∀ σ, cmpV σ .isin (.str []) (.tup [.str [], .str [10]]) = some true := fun _ => rfl
  apply Exists.intro
  delta t_law_may_brace_0 w_law_may_brace_0
  (repeat' (first | walk_at "mini" | ((with_reducible show idxV _ _ _ = _); exact h.idx) | with_reducible exact e1 _ | with_reducible exact j1 _))
theorem mb2 (h : Suf t a (92 :: 10 :: r)) : ∃ ρ, LP N d t_law_may_brace_0 w_law_may_brace_0 (n + 1) (mbL t z a x3) σ = some (.ret (.bool false), ρ, σ) := by
  have hl := h.lt
  have e1 : ∀ σ, slcV σ (.str t) ((a : Int) + 1) ((a : Int) + 2) = some (.str [10]) := fun _ => h.step.c1
  have j1 : ∀ σ, cmpV σ .isin (.str [10]) (.tup [.str [], .str [10]]) = some true := fun _ => rfl
  apply Exists.intro
  delta t_law_may_brace_0 w_law_may_brace_0
  (repeat' (first | walk_at "mini" | ((with_reducible show idxV _ _ _ = _); exact h.idx) | with_reducible exact e1 _ | with_reducible exact j1 _))
theorem mb3 (h : Suf t a (92 :: c :: r)) (hc : c ≠ 10) : LP N d t_law_may_brace_0 w_law_may_brace_0 (n + 1) (mbL t z a x3) σ = LP N d t_law_may_brace_0 w_law_may_brace_0 n (mbL t z (a + 2) (some (.str [92]))) σ := by
  have hl := h.lt
  have e1 : ∀ σ, slcV σ (.str t) ((a : Int) + 1) ((a : Int) + 2) = some (.str [c]) := fun _ => h.step.c1
  have hc' : [10].contains c = false := by simp [hc]
  have j1 : ∀ σ, cmpV σ .isin (.str [c]) (.tup [.str [], .str [10]]) = some ([10].contains c) := fun _ => c_inT (inNl2 c)
  delta t_law_may_brace_0 w_law_may_brace_0
  (repeat' (first | walk_at "mini" | ((with_reducible show idxV _ _ _ = _); exact h.idx) | with_reducible exact e1 _ | with_reducible exact j1 _))
theorem mb4 (h : Suf t a (123 :: r)) : LP N d t_law_may_brace_0 w_law_may_brace_0 (n + 1) (mbL t z a x3) σ = LP N d t_law_may_brace_0 w_law_may_brace_0 n (mbL t (z + 1) (a + 1) (some (.str [123]))) σ := by
  have hl := h.lt
  delta t_law_may_brace_0 w_law_may_brace_0
  (repeat' (first | walk_at "mini" | ((with_reducible show idxV _ _ _ = _); exact h.idx)))
theorem mb5 (h : Suf t a (125 :: r)) (hz : decide (z - 1 < 0) = false) : LP N d t_law_may_brace_0 w_law_may_brace_0 (n + 1) (mbL t z a x3) σ = LP N d t_law_may_brace_0 w_law_may_brace_0 n (mbL t (z - 1) (a + 1) (some (.str [125]))) σ := by
  have hl := h.lt
  delta t_law_may_brace_0 w_law_may_brace_0
  (repeat' (first | walk_at "mini" | ((with_reducible show idxV _ _ _ = _); exact h.idx)))
theorem mb6 (h : Suf t a (125 :: r)) (hz : decide (z - 1 < 0) = true) : ∃ ρ, LP N d t_law_may_brace_0 w_law_may_brace_0 (n + 1) (mbL t z a x3) σ = some (.ret (.bool false), ρ, σ) := by
  have hl := h.lt
  apply Exists.intro
  delta t_law_may_brace_0 w_law_may_brace_0
  (repeat' (first | walk_at "mini" | ((with_reducible show idxV _ _ _ = _); exact h.idx)))
theorem mb7 (h : Suf t a (c :: r)) (h1 : c ≠ 92) (h2 : c ≠ 123) (h3 : c ≠ 125) : LP N d t_law_may_brace_0 w_law_may_brace_0 (n + 1) (mbL t z a x3) σ = LP N d t_law_may_brace_0 w_law_may_brace_0 n (mbL t z (a + 1) (some (.str [c]))) σ := by
  have hl := h.lt
  delta t_law_may_brace_0 w_law_may_brace_0
  (repeat' (first | walk_at "mini" | ((with_reducible show idxV _ _ _ = _); exact h.idx)))
end
noncomputable def mbSays (t : List Nat) (X : Option (Fl × Loc × Sto)) (σ : Sto) : Option Nat → Prop
  | none => ∃ ρ, X = some (.ret (.bool false), ρ, σ)
  | some z => ∃ a' x3', X = some (.next, mbL t (z : Int) a' x3', σ)
theorem mb_loop {t : List Nat} : ∀ (k : Nat) (s : List Nat) (n a m : Nat) (x3 : Option Vl), s.length < k → k ≤ n → Suf t a s → ∃ o : Option Nat, (o = some 0 → Br m s) ∧ ∀ d σ, mbSays t (LP N d t_law_may_brace_0 w_law_may_brace_0 n (mbL t (m : Int) a x3) σ) σ o
  | 0, _, _, _, _, _, hk, _, _ => absurd hk (Nat.not_lt_zero _)
  | k + 1, s, n, a, m, x3, hk, hn, h => by
    obtain ⟨n, rfl⟩ : ∃ n', n = n' + 1 := ⟨n - 1, by omega⟩
    cases s with
    | nil => exact ⟨some m, fun e => by cases e; exact .nil, fun d σ => ⟨a, x3, mb0 h⟩⟩
    | cons c s =>
      have hk' : s.length < k := Nat.lt_of_succ_lt_succ hk
      have hn' : k ≤ n := by omega
      by_cases e1 : c = 92
      · subst e1
        cases s with
        | nil => exact ⟨none, fun e => (by cases e), fun d σ => mb1 h⟩
        | cons c2 s =>
          by_cases e2 : c2 = 10
          · subst e2; exact ⟨none, fun e => (by cases e), fun d σ => mb2 h⟩
          · obtain ⟨o, ok, r⟩ := mb_loop k s n (a + 2) m (some (.str [92])) (by simp at hk'; omega) hn' h.step.step
            exact ⟨o, fun e => .esc e2 (ok e), fun d σ => by rw [mb3 h e2]; exact r d σ⟩
      by_cases e2 : c = 123
      · subst e2
        obtain ⟨o, ok, r⟩ := mb_loop k s n (a + 1) (m + 1) (some (.str [123])) hk' hn' h.step
        exact ⟨o, fun e => .op (ok e), fun d σ => by rw [mb4 h]; exact r d σ⟩
      by_cases e3 : c = 125
      · subst e3
        cases m with
        | zero => exact ⟨none, fun e => (by cases e), fun d σ => mb6 h (by decide)⟩
        | succ m =>
          obtain ⟨o, ok, r⟩ := mb_loop k s n (a + 1) m (some (.str [125])) hk' hn' h.step
          exact ⟨o, fun e => .cl (ok e), fun d σ => by rw [mb5 h (decide_eq_false (by omega)), show ((m + 1 : Nat) : Int) - 1 = (m : Int) by omega]; exact r d σ⟩
      · obtain ⟨o, ok, r⟩ := mb_loop k s n (a + 1) m (some (.str [c])) hk' hn' h.step
        exact ⟨o, fun e => .lit (by simp [e1, e2, e3]) (ok e), fun d σ => by rw [mb7 h e1 e2 e3]; exact r d σ⟩
theorem y_law_may_brace (hN : line < N) {t : List Nat} (hl : t.length ≤ line) : ∃ b, Yields N 1 .law_may_brace [.str t] (.bool b) ∧ (b = true → Br 0 t) := by
  have h : Suf t 0 t := ⟨rfl, Nat.zero_le _, hl⟩
  obtain ⟨o, ok, r⟩ := mb_loop (N := N) N t N 0 0 none (by omega) (Nat.le_refl _) h
  cases o with
  | none =>
    refine ⟨false, yields_pure (us := [.str t]) rfl rfl rfl fun d σ hd => ?_, fun q => by cases q⟩
    show outR (exSs _ N b_law_may_brace [some (.str t), none, none, none] σ) = _
    obtain ⟨ρ, e⟩ := r d σ
    delta b_law_may_brace
    (repeat' (first | walk_at "mini" | ((with_reducible show whileN _ _ _ _ _ = _); exact e)))
  | some z =>
    refine ⟨((z : Int) == 0), yields_pure (us := [.str t]) rfl rfl rfl fun d σ hd => ?_, fun q => ok (by simp at q; rw [q])⟩
    show outR (exSs _ N b_law_may_brace [some (.str t), none, none, none] σ) = _
    obtain ⟨a', x3', e⟩ := r d σ
    delta b_law_may_brace
    (repeat' (first | walk_at "mini" | ((with_reducible show whileN _ _ _ _ _ = _); exact e)))
noncomputable abbrev must1 : List Nat := [32, 9, 10, 11, 12, 13, 59, 91, 36, 92]
noncomputable abbrev ahead1 : List Nat := [34, 123, 35]
noncomputable abbrev must2 : List Nat := [34, 92, 36, 91]
theorem must1_ok (c : Nat) (h : must1.contains c = false) : [36, 91, 92].contains c = false ∧ bareS.contains c = false := by
  simp only [List.contains_cons, List.contains_nil, Bool.or_false, Bool.or_eq_false_iff] at h ⊢
  obtain ⟨h1, h2, h3, h4, h5, h6, h7, h8, h9, h10⟩ := h
  exact ⟨⟨h9, h8, h10⟩, h1, h2, h4, h5, h6, h3, h7⟩
theorem must2_ok (c : Nat) (h : must2.contains c = false) : [36, 91, 92].contains c = false ∧ [34].contains c = false := by
  simp only [List.contains_cons, List.contains_nil, Bool.or_false, Bool.or_eq_false_iff] at h ⊢
  obtain ⟨h1, h2, h3, h4⟩ := h
  exact ⟨⟨h3, h4, h2⟩, h1⟩
theorem alnum_ok (c : Nat) (h : alnum.contains c = true) : ([36, 91, 92].contains c = false ∧ bareS.contains c = false) ∧ [34].contains c = false ∧ c ≠ 123 ∧ c ≠ 35 ∧ c ≠ 34 := by
  have hm : c ∈ alnum := List.contains_iff_mem.mp h
  have : ∀ c ∈ alnum, ([36, 91, 92].contains c = false ∧ bareS.contains c = false) ∧ [34].contains c = false ∧ c ≠ 123 ∧ c ≠ 35 ∧ c ≠ 34 := by decide
  exact this c hm
structure WrOk (f : Bool) (t w : List Nat) : Prop where
  wd : Wd w t
  len : w.length ≤ 10 * t.length + 2
  hash : f = true → ∀ r, w ≠ 35 :: r
theorem y_law_written (hN : line < N) {t : List Nat} {turn : Nat} (ht : turn ≤ 1000000) (hl : t.length ≤ 1000000) (hc : ∀ c ∈ t, c < 1114112) (f : Bool) : ∃ w, Yields N 4 .law_written [.str t, .int turn, .bool f] (.str w) ∧ WrOk f t w := by
  have hline : line = 16777216 := rfl
  have hb : big = 1099511627776 := rfl
  have b1 : ∀ σ, binV σ .fdiv (.int (turn : Int)) (.int 4) = some (.int ((turn / 4 : Nat) : Int)) := fun _ => b_divN (B := 4) (by decide)
  have b2 : ∀ σ, binV σ .mod (.int ((turn : Int) + ((turn / 4 : Nat) : Int))) (.int 4) = some (.int (((turn + turn / 4) % 4 : Nat) : Int)) := fun _ => b_modN (A := turn + turn / 4) (B := 4) (by decide)
  have quoted : ∀ (hf : (turn + turn / 4) % 4 ≠ 3) (hf2 : ((((turn + turn / 4) % 4 : Nat) : Int) == 2) = false ∨ Yields N 1 .law_may_brace [.str t] (.bool false)) (hf0 : ((((turn + turn / 4) % 4 : Nat) : Int) == 0) = false ∨ t = []), ∃ w, Yields N 4 .law_written [.str t, .int turn, .bool f] (.str w) ∧ WrOk f t w := by
    intro hf hf2 hf0
    obtain ⟨es, y, E⟩ := y_law_spelled (N := N) (must := must2) (ahead := []) ht hl hc
    have hE := E.len
    have hD : Dec [34] es.flatten t := E.dec must2_ok fun c hc => ⟨(alnum_ok c hc).1.1, (alnum_ok c hc).2.1⟩
    have a1 : ∀ σ, binV σ .add (.str [34]) (.str es.flatten) = some (.str (34 :: es.flatten)) := fun σ => b_addS (show 1 + es.flatten.length ≤ line by omega)
    have a2 : ∀ σ, binV σ .add (.str (34 :: es.flatten)) (.str [34]) = some (.str (34 :: (es.flatten ++ [34]))) := fun σ => b_addS (show es.flatten.length + 1 + 1 ≤ line by omega)
    refine ⟨34 :: (es.flatten ++ [34]), yields_pure (us := [.str t, .int turn, .bool f]) rfl rfl rfl fun d σ hd => ?_, .quot hD, by simp at hE ⊢; omega, fun _ r q => (by cases q)⟩
    show outR (exSs _ N b_law_written [some (.str t), some (.int turn), some (.bool f), none] σ) = _
    have y := fun σ => y.at hd σ
    have h3 : ((((turn + turn / 4) % 4 : Nat) : Int) == 3) = false := by rw [beq_eq_false_iff_ne]; omega
    rcases hf2 with h2 | h2
    · rcases hf0 with h0 | rfl
      · delta b_law_written
        (repeat' (first | walk_at "mini" | with_reducible exact b1 _ | with_reducible exact b2 _ | with_reducible exact y _ | with_reducible exact a1 _ | with_reducible exact a2 _))
      · cases h0 : ((((turn + turn / 4) % 4 : Nat) : Int) == 0)
        · delta b_law_written
          (repeat' (first | walk_at "mini" | with_reducible exact b1 _ | with_reducible exact b2 _ | with_reducible exact y _ | with_reducible exact a1 _ | with_reducible exact a2 _))
        · delta b_law_written
          (repeat' (first | walk_at "mini" | with_reducible exact b1 _ | with_reducible exact b2 _ | with_reducible exact y _ | with_reducible exact a1 _ | with_reducible exact a2 _))
    · have h2 := fun σ => h2.at (by omega : 1 ≤ d) σ
      have h2' : ((((turn + turn / 4) % 4 : Nat) : Int) == 2 && false) = false := Bool.and_false _
      rcases hf0 with h0 | rfl
      · delta b_law_written
        (repeat' (first | walk_at "mini" | with_reducible exact b1 _ | with_reducible exact b2 _ | with_reducible exact y _ | with_reducible exact h2 _ | with_reducible exact a1 _ | with_reducible exact a2 _))
      · cases h0 : ((((turn + turn / 4) % 4 : Nat) : Int) == 0)
        · delta b_law_written
          (repeat' (first | walk_at "mini" | with_reducible exact b1 _ | with_reducible exact b2 _ | with_reducible exact y _ | with_reducible exact h2 _ | with_reducible exact a1 _ | with_reducible exact a2 _))
        · delta b_law_written
          (repeat' (first | walk_at "mini" | with_reducible exact b1 _ | with_reducible exact b2 _ | with_reducible exact y _ | with_reducible exact h2 _ | with_reducible exact a1 _ | with_reducible exact a2 _))
  by_cases f3 : (turn + turn / 4) % 4 = 3
  · obtain ⟨q, y, ok⟩ := y_quote hN t (by omega) f
    have h3 : ((((turn + turn / 4) % 4 : Nat) : Int) == 3) = true := by rw [beq_iff_eq]; omega
    refine ⟨q, yields_pure (us := [.str t, .int turn, .bool f]) rfl rfl rfl fun d σ hd => ?_, ok.wd, by have := ok.len; omega, ok.hash⟩
    show outR (exSs _ N b_law_written [some (.str t), some (.int turn), some (.bool f), none] σ) = _
    have y := fun σ => y.at hd σ
    delta b_law_written
    (repeat' (first | walk_at "mini" | with_reducible exact b1 _ | with_reducible exact b2 _ | with_reducible exact y _))
  have h3 : ((((turn + turn / 4) % 4 : Nat) : Int) == 3) = false := by rw [beq_eq_false_iff_ne]; omega
  by_cases f2 : (turn + turn / 4) % 4 = 2
  · obtain ⟨b, y, ok⟩ := y_law_may_brace hN (show t.length ≤ line by omega)
    cases b with
    | false => exact quoted f3 (.inr y) (.inl (by rw [beq_eq_false_iff_ne]; omega))
    | true =>
      have h2 : ((((turn + turn / 4) % 4 : Nat) : Int) == 2) = true := by rw [beq_iff_eq]; omega
      have a1 : ∀ σ, binV σ .add (.str [123]) (.str t) = some (.str (123 :: t)) := fun σ => b_addS (show 1 + t.length ≤ line by omega)
      have a2 : ∀ σ, binV σ .add (.str (123 :: t)) (.str [125]) = some (.str (123 :: (t ++ [125]))) := fun σ => b_addS (show t.length + 1 + 1 ≤ line by omega)
      refine ⟨123 :: (t ++ [125]), yields_pure (us := [.str t, .int turn, .bool f]) rfl rfl rfl fun d σ hd => ?_, .brac (ok rfl), by simp; omega, fun _ r q => (by cases q)⟩
      show outR (exSs _ N b_law_written [some (.str t), some (.int turn), some (.bool f), none] σ) = _
      have y := fun σ => y.at (by omega : 1 ≤ d) σ
      delta b_law_written
      (repeat' (first | walk_at "mini" | with_reducible exact b1 _ | with_reducible exact b2 _ | with_reducible exact y _ | with_reducible exact a1 _ | with_reducible exact a2 _))
  have h2 : ((((turn + turn / 4) % 4 : Nat) : Int) == 2) = false := by rw [beq_eq_false_iff_ne]; omega
  by_cases f0 : (turn + turn / 4) % 4 = 0
  · cases t with
    | nil => exact quoted f3 (.inl h2) (.inr rfl)
    | cons c s =>
      have h0 : ((((turn + turn / 4) % 4 : Nat) : Int) == 0) = true := by rw [beq_iff_eq]; omega
      have hne : ((c :: s) != []) = true := rfl
      obtain ⟨es, y, E⟩ := y_law_spelled (N := N) (must := must1) (ahead := ahead1) ht hl hc
      have hE := E.len
      have hD : Dec bareS es.flatten (c :: s) := E.dec must1_ok fun c hc => (alnum_ok c hc).1
      have hx : ∃ x r, es.flatten = x :: r ∧ x ≠ 123 ∧ x ≠ 34 ∧ x ≠ 35 := by
        cases E with
        | cons h hl t =>
          rw [List.flatten_cons]
          rcases h with (h | ⟨rfl, h⟩) | ⟨rfl, h, ha⟩
          · obtain ⟨c2, e', rfl, _⟩ := h.head
            exact ⟨_, _, rfl, by decide, by decide, by decide⟩
          · obtain ⟨_, _, k1, k2, k3⟩ := alnum_ok c h
            exact ⟨_, _, rfl, k1, k3, k2⟩
          · have : c ≠ 34 ∧ c ≠ 123 ∧ c ≠ 35 := by simpa using ha
            exact ⟨_, _, rfl, this.2.1, this.1, this.2.2⟩
      obtain ⟨x, r, hx, k1, k2, k3⟩ := hx
      refine ⟨es.flatten, yields_pure (us := [.str (c :: s), .int turn, .bool f]) rfl rfl rfl fun d σ hd => ?_, by rw [hx] at hD ⊢; exact .bare hD k1 k2, by omega, fun _ r q => by rw [hx] at q; cases q; exact k3 rfl⟩
      show outR (exSs _ N b_law_written [some (.str (c :: s)), some (.int turn), some (.bool f), none] σ) = _
      have y := fun σ => y.at hd σ
      delta b_law_written
      (repeat' (first | walk_at "mini" | with_reducible exact b1 _ | with_reducible exact b2 _ | with_reducible exact y _))
  · exact quoted f3 (.inl h2) (.inl (by rw [beq_eq_false_iff_ne]; omega))
end
end

section
section
variable {N : Nat}
/-! ## What the law draws -/
noncomputable abbrev sgs : List Nat := [32, 9, 10, 13, 11, 12, 123, 125, 91, 93, 40, 41, 34, 36, 59, 92, 35, 42, 58, 45, 97, 98, 102, 110, 114, 116, 118, 120, 117, 85, 48, 55, 56, 57, 70, 95, 233]
theorem y_law_sign (v : Int) : ∃ c, c < 1114112 ∧ Yields N 1 .law_sign [.int v] (.str [c]) := by
  have m1 : ∀ σ, binV σ .mod (.int v) (.int 40) = some (.int (v % 40)) := fun _ => b_mod (by decide)
  have m2 : ∀ σ, binV σ .fdiv (.int v) (.int 40) = some (.int (v / 40)) := fun _ => b_fdiv (by decide)
  have m3 : ∀ σ, binV σ .mod (.int (v / 40)) (.int 1112064) = some (.int (v / 40 % 1112064)) := fun _ => b_mod (by decide)
  cases h1 : decide (v % 40 < ((sgs.length : Nat) : Int)) with
  | true =>
    have h2 : (v % 40).toNat < 37 := by have := of_decide_eq_true h1; simp at this; omega
    obtain ⟨c, hc, hc2⟩ : ∃ c, sgs[(v % 40).toNat]? = some c ∧ c < 1114112 := by
      refine ⟨sgs[(v % 40).toNat]'h2, List.getElem?_eq_getElem h2, ?_⟩
      have : ∀ c ∈ sgs, c < 1114112 := by decide
      exact this _ (List.getElem_mem h2)
    have i1 : ∀ σ, idxV σ (.str sgs) (.int (v % 40)) = some (.str [c]) := fun _ => by
      have := idxS (σ := []) hc
      rwa [Int.toNat_of_nonneg (by omega)] at this
    refine ⟨c, hc2, yields_pure (us := [.int v]) rfl rfl rfl fun d σ hd => ?_⟩
    show outR (exSs _ N b_law_sign [some (.int v), none, none, none] σ) = _
    delta b_law_sign
    (repeat' (first | walk_at "mini" | with_reducible exact m1 _ | with_reducible exact i1 _))
  | false =>
    have h3 : 0 ≤ v / 40 % 1112064 ∧ v / 40 % 1112064 < 1112064 := by omega
    cases h2 : decide (v / 40 % 1112064 < 55296) with
    | true =>
      have k : (0 : Int) ≤ v / 40 % 1112064 ∧ v / 40 % 1112064 < 1114112 := by omega
      refine ⟨(v / 40 % 1112064).toNat, by omega, yields_pure (us := [.int v]) rfl rfl rfl fun d σ hd => ?_⟩
      show outR (exSs _ N b_law_sign [some (.int v), none, none, none] σ) = _
      delta b_law_sign
      (repeat' (first | walk_at "mini" | with_reducible exact m1 _ | with_reducible exact m2 _ | with_reducible exact m3 _ | ((with_reducible show biV _ _ _ = _); exact bi_chr k)))
    | false =>
      have k : (0 : Int) ≤ v / 40 % 1112064 + 2048 ∧ v / 40 % 1112064 + 2048 < 1114112 := by omega
      refine ⟨(v / 40 % 1112064 + 2048).toNat, by omega, yields_pure (us := [.int v]) rfl rfl rfl fun d σ hd => ?_⟩
      show outR (exSs _ N b_law_sign [some (.int v), none, none, none] σ) = _
      delta b_law_sign
      (repeat' (first | walk_at "mini" | with_reducible exact m1 _ | with_reducible exact m2 _ | with_reducible exact m3 _ | ((with_reducible show biV _ _ _ = _); exact bi_chr k)))
/-- the pen: the script, and the place -/
noncomputable abbrev pen (sc : List Vl) (a : Nat) : Ob := .list [.lst sc, .int (a : Int)]
noncomputable def Ints (sc : List Vl) : Prop := ∀ v ∈ sc, ∃ i, v = .int i
theorem callN_run {d : Nat} {f : Fn} {vs us : List Vl} {σ σ' : Sto} {v : Vl} (hb : bindA (D f).np (D f).defs vs = some us) (hp : (D f).pur = false)
    (h : outR (exSs (callN D N d) N (D f).body (startL f us) σ) = some (v, σ')) : callN D N (d + 1) f vs σ = some (v, σ') := by
  rw [callN_succ hb h, hp]; rfl
theorem next_ok {sc : List Vl} (hs : Ints sc) {a : Nat} (ha : a ≤ 1000) (d : Nat) : ∃ i : Int, ∀ τ, callN D N (d + 1) .law_next [.ref 0] (pen sc a :: τ) = some (.int i, pen sc (a + 1) :: τ) := by
  have hb : big = 1099511627776 := rfl
  cases hlt : decide ((a : Int) < (sc.length : Int)) with
  | true =>
    have hl : a < sc.length := by have := of_decide_eq_true hlt; omega
    obtain ⟨i, hi⟩ := hs _ (List.getElem_mem hl)
    refine ⟨i, fun τ => callN_run (us := [.ref 0]) rfl rfl ?_⟩
    show outR (exSs _ N b_law_next [some (.ref 0), none] _) = _
    have i1 : ∀ σ, idxV (pen sc a :: σ) (.ref 0) (.int 1) = some (.int (a : Int)) := fun _ => rfl
    have i2 : ∀ σ, idxV (pen sc (a + 1) :: σ) (.ref 0) (.int 0) = some (.lst sc) := fun _ => rfl
    have i3 : ∀ σ, idxV σ (.lst sc) (.int (a : Int)) = some (.int i) := fun _ => idxL (hi ▸ List.getElem?_eq_getElem hl)
    have s1 : exS (callN D N d) N (.setItem (.loc 0 ⟨646,4,646,7⟩) (.int 1 ⟨646,8,646,9⟩) (.bin .add (.loc 1 ⟨646,13,646,15⟩) (.int 1 ⟨646,18,646,19⟩) ⟨646,13,646,19⟩) ⟨646,4,646,10⟩ ⟨646,4,646,19⟩) [some (.ref 0), some (.int (a : Int))] (pen sc a :: τ) = some (.next, [some (.ref 0), some (.int (a : Int))], pen sc (a + 1) :: τ) := rfl
    delta b_law_next
    (repeat' (first | walk_at "mini" | with_reducible exact i1 _ | with_reducible exact i2 _ | with_reducible exact i3 _ | ((with_reducible show exS _ _ (.setItem _ _ _ _ _) _ _ = _); exact s1) | ((with_reducible show biV _ _ _ = _); exact bi_lenL)))
  | false =>
    refine ⟨31 * a * a + 17 * a + 9, fun τ => callN_run (us := [.ref 0]) rfl rfl ?_⟩
    show outR (exSs _ N b_law_next [some (.ref 0), none] _) = _
    have i1 : ∀ σ, idxV (pen sc a :: σ) (.ref 0) (.int 1) = some (.int (a : Int)) := fun _ => rfl
    have i2 : ∀ σ, idxV (pen sc (a + 1) :: σ) (.ref 0) (.int 0) = some (.lst sc) := fun _ => rfl
    have m1 : ∀ σ, binV σ .mul (.int 31) (.int (a : Int)) = some (.int (31 * (a : Int))) := fun _ => b_mul (by omega)
    have m2 : ∀ σ, binV σ .mul (.int (31 * (a : Int))) (.int (a : Int)) = some (.int (31 * (a : Int) * (a : Int))) := fun _ => b_mul (by omega)
    have m3 : ∀ σ, binV σ .mul (.int 17) (.int (a : Int)) = some (.int (17 * (a : Int))) := fun _ => b_mul (by omega)
    have s1 : exS (callN D N d) N (.setItem (.loc 0 ⟨646,4,646,7⟩) (.int 1 ⟨646,8,646,9⟩) (.bin .add (.loc 1 ⟨646,13,646,15⟩) (.int 1 ⟨646,18,646,19⟩) ⟨646,13,646,19⟩) ⟨646,4,646,10⟩ ⟨646,4,646,19⟩) [some (.ref 0), some (.int (a : Int))] (pen sc a :: τ) = some (.next, [some (.ref 0), some (.int (a : Int))], pen sc (a + 1) :: τ) := rfl
    delta b_law_next
    (repeat' (first | walk_at "mini" | with_reducible exact i1 _ | with_reducible exact i2 _ | with_reducible exact m1 _ | with_reducible exact m2 _ | with_reducible exact m3 _ | ((with_reducible show exS _ _ (.setItem _ _ _ _ _) _ _ = _); exact s1) | ((with_reducible show biV _ _ _ = _); exact bi_lenL)))
end
end

section
section
variable {N : Nat}
noncomputable def Chars (x : List Nat) : Prop := ∀ c ∈ x, c < 1114112
theorem Chars.snoc {x : List Nat} {c : Nat} (h : Chars x) (hc : c < 1114112) : Chars (x ++ [c]) := fun y hy => by
  rcases List.mem_append.mp hy with q | q
  · exact h y q
  · simp at q; subst q; exact hc
theorem m_appP {p : Ob} {τ : Sto} {l : List Vl} {v : Vl} (h : l.length < line) : methV (p :: (τ ++ [.list l])) .append (.ref (τ.length + 1)) [v] = some (.none, p :: (τ ++ [.list (l ++ [v])])) := m_app (σ := p :: τ) h
theorem mk_appP {p : Ob} {τ : Sto} {l : List Vl} : methK (p :: (τ ++ [.list l])) .append (.ref (τ.length + 1)) = true := mk_app (σ := p :: τ)
theorem dr_in {sc : List Vl} (hs : Ints sc) {d : Nat} : ∀ (vs : List Vl) (a : Nat) (text : List Nat), a + vs.length ≤ 1000 → text.length + vs.length ≤ 100 → Chars text → ∃ text', Chars text' ∧ text'.length = text.length + vs.length ∧ ∀ τ (w : Nat) (p2 p4 : Option Vl), ∃ p4',
    FL N (d + 1) w_law_drawn_1 4 vs [some (.ref 0), some (.ref w), p2, some (.str text), p4] (pen sc a :: τ) = some (.next, [some (.ref 0), some (.ref w), p2, some (.str text'), p4'], pen sc (a + vs.length) :: τ)
  | [], a, text, ha, hl, hc => ⟨text, hc, rfl, fun τ w p2 p4 => ⟨p4, rfl⟩⟩
  | v :: vs, a, text, ha, hl, hc => by
    simp at ha hl
    obtain ⟨i, hi⟩ := next_ok (N := N) hs (a := a) (by omega) d
    obtain ⟨c, hc1, y⟩ := y_law_sign (N := N) i
    have y := fun σ => y.at (by omega : 1 ≤ d + 1) σ
    obtain ⟨text', h1, h2, h3⟩ := dr_in hs (d := d) vs (a + 1) (text ++ [c]) (by omega) (by simp; omega) (hc.snoc hc1)
    refine ⟨text', h1, by rw [h2]; simp; omega, fun τ w p2 p4 => ?_⟩
    obtain ⟨p4', e⟩ := h3 τ w p2 (some v)
    refine ⟨p4', ?_⟩
    have hl' : line = 16777216 := rfl
    have b1 : ∀ σ, binV σ .add (.str text) (.str [c]) = some (.str (text ++ [c])) := fun _ => b_addS (by simp; omega)
    rw [show a + (v :: vs).length = a + 1 + vs.length by simp; omega, ← e]
    delta w_law_drawn_1
    apply fo_turn
    (repeat' (first | walk_at "mini" | with_reducible exact hi _ | with_reducible exact y _ | with_reducible exact b1 _))
theorem dr_out {sc : List Vl} (hs : Ints sc) {d : Nat} : ∀ (vs : List Vl) (a : Nat) (ws : List (List Nat)), a + 6 * vs.length ≤ 1000 → ws.length + vs.length ≤ 100 → (∀ x ∈ ws, Chars x ∧ x.length ≤ 5) → ∃ (a' : Nat) (ws' : List (List Nat)), a' ≤ a + 6 * vs.length ∧ ws'.length = ws.length + vs.length ∧ (∀ x ∈ ws', Chars x ∧ x.length ≤ 5) ∧ ∀ τ (p2 p3 p4 : Option Vl), ∃ p2' p3' p4',
    FL N (d + 1) w_law_drawn_0 2 vs [some (.ref 0), some (.ref (τ.length + 1)), p2, p3, p4] (pen sc a :: (τ ++ [.list (ws.map Vl.str)])) =
      some (.next, [some (.ref 0), some (.ref (τ.length + 1)), p2', p3', p4'], pen sc a' :: (τ ++ [.list (ws'.map Vl.str)]))
  | [], a, ws, ha, hl, hc => ⟨a, ws, Nat.le_refl _, rfl, hc, fun τ p2 p3 p4 => ⟨p2, p3, p4, rfl⟩⟩
  | v :: vs, a, ws, ha, hl, hc => by
    simp at ha hl
    obtain ⟨i, hi⟩ := next_ok (N := N) hs (a := a) (by omega) d
    have h6 : 0 ≤ i % 6 ∧ i % 6 < 6 := by omega
    have hlen : (rangeVs (i % 6).toNat).length = (i % 6).toNat := rangeVs_len _
    obtain ⟨text, hc1, hl1, hin'⟩ := dr_in (N := N) hs (d := d) (rangeVs (i % 6).toNat) (a + 1) [] (by omega) (by simp; omega) (fun c hc => by simp at hc)
    rw [hlen] at hl1 hin'
    have hl1 : text.length ≤ 5 := by simp at hl1; omega
    obtain ⟨a', ws', h1, h2, h3, h4⟩ := dr_out hs (d := d) vs (a + 1 + (i % 6).toNat) (ws ++ [text]) (by omega) (by simp; omega) (fun x hx => by
      rcases List.mem_append.mp hx with q | q
      · exact hc x q
      · simp at q; subst q; exact ⟨hc1, hl1⟩)
    refine ⟨a', ws', by simp; omega, by rw [h2]; simp; omega, h3, fun τ p2 p3 p4 => ?_⟩
    obtain ⟨p4', e1⟩ := hin' (τ ++ [.list (ws.map Vl.str)]) (τ.length + 1) (some v) p4
    obtain ⟨p2', p3', p4'', e2⟩ := h4 τ (some v) (some (.str text)) p4'
    refine ⟨p2', p3', p4'', ?_⟩
    rw [← e2]
    have m1 : ∀ σ, binV σ .mod (.int i) (.int 6) = some (.int (i % 6)) := fun _ => b_mod (by decide)
    have hr : (0 : Int) ≤ i % 6 ∧ i % 6 < big := by have : big = 1099511627776 := rfl; omega
    have hw : (ws.map Vl.str).length < line := by have : line = 16777216 := rfl; simp; omega
    rw [List.map_append]
    delta w_law_drawn_0
    apply fo_turn
    (repeat' (first | walk_at "mini" | with_reducible exact hi _ | with_reducible exact m1 _ | ((with_reducible show forL _ _ _ _ _ = _); exact e1) | ((with_reducible show 0 ≤ _ ∧ _); exact hr) | ((with_reducible show methK _ _ _ = _); exact mk_appP) | ((with_reducible show methV _ _ _ _ = _); exact m_appP hw)))
end
end

section
section
variable {N : Nat}
theorem drawn_ok {sc : List Vl} (hs : Ints sc) {a : Nat} (ha : a ≤ 500) (d : Nat) : ∃ (a' : Nat) (ws : List (List Nat)), a' ≤ a + 25 ∧ ws.length ≤ 4 ∧ (∀ x ∈ ws, Chars x ∧ x.length ≤ 5) ∧
    ∀ τ, callN D N (d + 1 + 1) .law_drawn [.ref 0] (pen sc a :: τ) = some (.ref (τ.length + 1), pen sc a' :: (τ ++ [.list (ws.map Vl.str)])) := by
  obtain ⟨i, hi⟩ := next_ok (N := N) hs (a := a) (by omega) d
  have h5 : 0 ≤ i % 5 ∧ i % 5 < 5 := by omega
  obtain ⟨a', ws, h1, h2, h3, h4⟩ := dr_out (N := N) hs (d := d) (rangeVs (i % 5).toNat) (a + 1) [] (by rw [rangeVs_len]; omega) (by rw [rangeVs_len]; simp; omega) (fun x hx => by simp at hx)
  rw [rangeVs_len] at h1 h2
  refine ⟨a', ws, by omega, by simp at h2; omega, h3, fun τ => callN_run (us := [.ref 0]) rfl rfl ?_⟩
  show outR (exSs _ N b_law_drawn [some (.ref 0), none, none, none, none] _) = _
  obtain ⟨p2', p3', p4', e⟩ := h4 τ none none none
  have e0 : ∀ p, evE (callN D N (d + 1)) (.list .nil p) [some (.ref 0), none, none, none, none] (pen sc a :: τ) = some (.ref (τ.length + 1), pen sc a :: (τ ++ [.list []])) := fun _ => rfl
  have m1 : ∀ σ, binV σ .mod (.int i) (.int 5) = some (.int (i % 5)) := fun _ => b_mod (by decide)
  have hr : (0 : Int) ≤ i % 5 ∧ i % 5 < big := by have : big = 1099511627776 := rfl; omega
  delta b_law_drawn
  (repeat' (first | with_reducible exact e0 _ | walk_at "mini" | with_reducible exact hi _ | with_reducible exact m1 _ | ((with_reducible show forL _ _ _ _ _ = _); exact e) | ((with_reducible show 0 ≤ _ ∧ _); exact hr)))
noncomputable abbrev fixedW : List (List Nat) := [[], [97, 32, 123, 98], [125, 99], [100, 92], [101, 10, 102], [92, 10], [34, 103, 34, 32, 104, 34], [36, 105, 91, 106, 93], [42], [123, 42, 125], [59, 32, 35], [123, 107, 125, 9, 91, 108, 93, 125, 123], [233, 255, 1114110], [109, 92, 123, 110]]
theorem y_law_fixed : Yields N 1 .law_fixed [] (.lst (fixedW.map Vl.str)) := by
  refine yields_list [] (us := []) rfl rfl (noref_strs _) fun d σ hd => ?_
  show outR (exSs _ N b_law_fixed [] σ) = _
  delta b_law_fixed
  (repeat' (first | walk_at "mini"))
/-! ## Commands written -/
theorem digitV_lt {c m : Nat} (h : digitV c = (m : Int)) : c < 1114112 := by
  unfold digitV at h
  cases h1 : (decide ((48:Int) ≤ c) && decide ((c:Int) ≤ 57)) with
  | true => simp at h1; omega
  | false =>
    cases h2 : (decide ((97:Int) ≤ c) && decide ((c:Int) ≤ 122)) with
    | true => simp at h2; omega
    | false =>
      cases h3 : (decide ((65:Int) ≤ c) && decide ((c:Int) ≤ 90)) with
      | true => simp at h3; omega
      | false => rw [h1, h2, h3] at h; simp at h
theorem Chars.cons {c : Nat} {x : List Nat} (hc : c < 1114112) (h : Chars x) : Chars (c :: x) := fun y hy => by
  rcases List.mem_cons.mp hy with rfl | q
  · exact hc
  · exact h y q
theorem Chars.nil : Chars [] := fun y hy => by simp at hy
theorem Chars.app {x y : List Nat} (h : Chars x) (h' : Chars y) : Chars (x ++ y) := fun c hc => by
  rcases List.mem_append.mp hc with q | q
  · exact h c q
  · exact h' c q
theorem Chars.tail {c : Nat} {x : List Nat} (h : Chars (c :: x)) : c < 1114112 ∧ Chars x := ⟨h c (List.mem_cons_self ..), fun y hy => h y (List.mem_cons_of_mem _ hy)⟩
theorem BsOf.chars {e : List Nat} {x : Nat} (B : BsOf e x) (hx : x < 1114112) : Chars e := by
  cases B with
  | known h =>
    simp only [List.mem_cons, Prod.mk.injEq, List.not_mem_nil, or_false] at h
    rcases h with ⟨rfl, rfl⟩ | ⟨rfl, rfl⟩ | ⟨rfl, rfl⟩ | ⟨rfl, rfl⟩ | ⟨rfl, rfl⟩ | ⟨rfl, rfl⟩ | ⟨rfl, rfl⟩ <;> exact .cons (by decide) (.cons (by decide) .nil)
  | other => exact .cons (by decide) (.cons hx .nil)
  | hex hs hl hh => exact .cons (by decide) (.cons (by rcases hs with rfl | rfl | rfl <;> decide) fun c hc => digitV_lt (hh c hc).1)
  | oct e1 e2 e3 => exact .cons (by decide) (.cons (digitV_lt e1) (.cons (digitV_lt e2) (.cons (digitV_lt e3) .nil)))
theorem LDec.chars {w x : List Nat} (D : LDec w x) : Chars x → Chars w := by
  induction D with
  | nil => exact fun _ => .nil
  | lit h1 h2 h ih => exact fun q => .cons q.tail.1 (ih q.tail.2)
  | esc h1 h ih => exact fun q => (h1.chars q.tail.1).app (ih q.tail.2)
theorem El.chars {w x : List Nat} (E : El w x) (hx : Chars x) : Chars w := by
  cases E with
  | bare D => exact D.chars hx
  | brac B => exact .cons (by decide) (hx.app (.cons (by decide) .nil))
theorem Jn.chars {w : List Nat} {l : List (List Nat)} (J : Jn w l) : (∀ x ∈ l, Chars x) → Chars w := by
  induction J with
  | nil => exact fun _ => .nil
  | one E => exact fun h => E.chars (h _ (List.mem_cons_self ..))
  | cons E J ih => exact fun h => (E.chars (h _ (List.mem_cons_self ..))).app (.cons (by decide) (ih fun x hx => h x (List.mem_cons_of_mem _ hx)))
noncomputable abbrev gapsW : List (List Nat) := [[32], [9], [92, 10], [32, 32], [32, 92, 10, 9], [11, 12], [13]]
theorem gaps_ok : ∀ g ∈ gapsW, Gap g ∧ g.length ≤ 4 := by
  have c1 : ∀ (c : Nat) (s : List Nat), bareS.contains c = true → EndAt bareS (c :: s) := fun c s h => .inr (.inl ⟨c, s, rfl, h⟩)
  intro g hg
  simp only [gapsW, List.mem_cons, List.not_mem_nil, or_false] at hg
  rcases hg with rfl | rfl | rfl | rfl | rfl | rfl | rfl
  · exact ⟨⟨fun s => skipG_gap rfl, fun s => c1 _ _ rfl, by decide⟩, by decide⟩
  · exact ⟨⟨fun s => skipG_gap rfl, fun s => c1 _ _ rfl, by decide⟩, by decide⟩
  · exact ⟨⟨fun s => rfl, fun s => .inr (.inr ⟨rfl, _, rfl⟩), by decide⟩, by decide⟩
  · exact ⟨⟨fun s => (skipG_gap rfl).trans (skipG_gap rfl), fun s => c1 _ _ rfl, by decide⟩, by decide⟩
  · exact ⟨⟨fun s => (skipG_gap rfl).trans (skipG_gap (c := 9) rfl), fun s => c1 _ _ rfl, by decide⟩, by decide⟩
  · exact ⟨⟨fun s => (skipG_gap rfl).trans (skipG_gap rfl), fun s => c1 _ _ rfl, by decide⟩, by decide⟩
  · exact ⟨⟨fun s => skipG_gap rfl, fun s => c1 _ _ rfl, by decide⟩, by decide⟩
inductive More : List Nat → List (Bool × List Nat) → Prop
  | nil : More [] []
  | cons {e : Bool} {w x g t : List Nat} {l : List (Bool × List Nat)} (G : Gap g) (W : Cw e w x) (hx : x.length ≤ line) (h : More t l) : More (g ++ (w ++ t)) ((e, x) :: l)
theorem More.cmd {t : List Nat} {l : List (Bool × List Nat)} (M : More t l) : ∀ {e : Bool} {w x : List Nat}, Cw e w x → x.length ≤ line → Cmd (w ++ t) ((e, x) :: l) := by
  induction M with
  | nil => intro e w x W hx; rw [List.append_nil]; exact .one W hx
  | cons G W hx M ih => intro e' w' x' W' hx'; exact .cons W' hx' G (ih W hx)
end
end

section
section
variable {N : Nat}
noncomputable abbrev lcL (L : List (List Nat)) (turn j : Nat) (out : List Nat) (k : Nat) (p5 : Option Vl) : Loc := [some (.lst (L.map Vl.str)), some (.int (turn : Int)), some (.ref j), some (.str out), some (.int (k : Int)), p5]
noncomputable abbrev gapsO : Ob := .list (gapsW.map Vl.str)
theorem gap_at {σ : Sto} {i : Nat} {g : List Nat} (h : gapsW[i]? = some g) : idxV (σ ++ [gapsO]) (.ref σ.length) (.int (i : Int)) = some (.str g) := by
  exact idxR sto_at (by rw [List.getElem?_map, h]; rfl)
theorem slcL {σ : Sto} {L : List (List Nat)} {k m : Nat} (h : k ≤ 1000 ∧ m ≤ 1000) : slcV σ (.lst (L.map Vl.str)) (k : Int) ((k : Int) + (m : Int)) = some (.lst (((L.drop k).take m).map Vl.str)) := by
  have hb : big = 1099511627776 := rfl
  have e : ((k : Int) + (m : Int)).toNat - k = m := by omega
  unfold slcV
  rw [if_pos (by omega)]
  simp only [slcW, Int.toNat_natCast, e, List.map_take, List.map_drop]
section
variable {L : List (List Nat)} {turn k n d m : Nat} {out g q w : List Nat} {σ : Sto} {p5 : Option Vl}
theorem lc0 (hlt : decide ((k : Int) < (((L.map Vl.str).length : Nat) : Int)) = false) : LP N d t_law_command_0 w_law_command_0 (n + 1) (lcL L turn σ.length out k p5) (σ ++ [gapsO]) = some (.next, lcL L turn σ.length out k p5, σ ++ [gapsO]) := by
  delta t_law_command_0 w_law_command_0
  refine wh_end ?_
  (repeat' (first | walk_at "mini" | ((with_reducible show biV _ _ _ = _); exact bi_lenL)))
theorem lc1 (hd : 4 ≤ d) (hw : L[k]? = some w) (ht : (turn + 1) % 4 ≠ 3) (hg : gapsW[(turn + 1) % 7]? = some g) (y : Yields N 4 .law_written [.str w, .int ((turn + 1 : Nat) : Int), .bool false] (.str q)) (ho : out.length + g.length + q.length ≤ line) :
    LP N d t_law_command_0 w_law_command_0 (n + 1) (lcL L turn σ.length out k p5) (σ ++ [gapsO]) = LP N d t_law_command_0 w_law_command_0 n (lcL L (turn + 1) σ.length (out ++ g ++ q) (k + 1) p5) (σ ++ [gapsO]) := by
  have hlt : decide ((k : Int) < (((L.map Vl.str).length : Nat) : Int)) = true := decide_eq_true (by have := (List.getElem?_eq_some_iff.mp hw).1; simp; omega)
  have h4 : ((((turn + 1) % 4 : Nat) : Int) == 3) = false := by rw [beq_eq_false_iff_ne]; omega
  have m1 : ∀ σ, binV σ .mod (.int ((turn : Int) + 1)) (.int 7) = some (.int (((turn + 1) % 7 : Nat) : Int)) := fun _ => b_modN (A := turn + 1) (B := 7) (by decide)
  have m2 : ∀ σ, binV σ .mod (.int ((turn : Int) + 1)) (.int 4) = some (.int (((turn + 1) % 4 : Nat) : Int)) := fun _ => b_modN (A := turn + 1) (B := 4) (by decide)
  have a1 : ∀ σ, binV σ .add (.str out) (.str g) = some (.str (out ++ g)) := fun _ => b_addS (by omega)
  have a2 : ∀ σ, binV σ .add (.str (out ++ g)) (.str q) = some (.str (out ++ g ++ q)) := fun _ => b_addS (by simp; omega)
  have i1 : ∀ σ, idxV σ (.lst (L.map Vl.str)) (.int (k : Int)) = some (.str w) := fun _ => idxL (by rw [List.getElem?_map, hw]; rfl)
  have y' : ∀ σ, callN D N d .law_written [.str w, .int ((turn : Int) + 1), .bool false] σ = some (.str q, σ) := fun σ => y.at hd σ
  delta t_law_command_0 w_law_command_0
  (repeat' (first | walk_at "mini" | ((with_reducible show biV _ _ _ = _); exact bi_lenL) | with_reducible exact m1 _ | with_reducible exact m2 _ | with_reducible exact a1 _ | with_reducible exact a2 _ | with_reducible exact i1 _ | with_reducible exact gap_at hg | with_reducible exact y' _))
theorem lc2 (hd : 4 ≤ d) (hk : k < L.length) (hk2 : k ≤ 1000) (ht : (turn + 1) % 4 = 3) (hg : gapsW[(turn + 1) % 7]? = some g) (hm : ((turn + 1) / 4 + (turn + 1) / 16) % 4 = m) (yj : Yields N 4 .join_list [.lst (((L.drop k).take m).map Vl.str)] (.str w))
    (y : Yields N 4 .law_written [.str w, .int ((turn + 1 : Nat) : Int), .bool false] (.str q)) (ho : out.length + g.length + (123 :: 42 :: 125 :: q).length ≤ line) :
    ∃ p5', LP N d t_law_command_0 w_law_command_0 (n + 1) (lcL L turn σ.length out k p5) (σ ++ [gapsO]) = LP N d t_law_command_0 w_law_command_0 n (lcL L (turn + 1) σ.length (out ++ g ++ 123 :: 42 :: 125 :: q) (k + m) p5') (σ ++ [gapsO]) := by
  have hlt : decide ((k : Int) < (((L.map Vl.str).length : Nat) : Int)) = true := decide_eq_true (by simp; omega)
  have h4 : ((((turn + 1) % 4 : Nat) : Int) == 3) = true := by rw [beq_iff_eq]; omega
  have hm4 : m < 4 := by omega
  have m1 : ∀ σ, binV σ .mod (.int ((turn : Int) + 1)) (.int 7) = some (.int (((turn + 1) % 7 : Nat) : Int)) := fun _ => b_modN (A := turn + 1) (B := 7) (by decide)
  have m2 : ∀ σ, binV σ .mod (.int ((turn : Int) + 1)) (.int 4) = some (.int (((turn + 1) % 4 : Nat) : Int)) := fun _ => b_modN (A := turn + 1) (B := 4) (by decide)
  have m3 : ∀ σ, binV σ .fdiv (.int ((turn : Int) + 1)) (.int 4) = some (.int (((turn + 1) / 4 : Nat) : Int)) := fun _ => b_divN (A := turn + 1) (B := 4) (by decide)
  have m4 : ∀ σ, binV σ .fdiv (.int ((turn : Int) + 1)) (.int 16) = some (.int (((turn + 1) / 16 : Nat) : Int)) := fun _ => b_divN (A := turn + 1) (B := 16) (by decide)
  have m5 : ∀ σ, binV σ .mod (.int ((((turn + 1) / 4 : Nat) : Int) + (((turn + 1) / 16 : Nat) : Int))) (.int 4) = some (.int (m : Int)) := fun _ => by
    rw [← hm]; exact b_modN (A := (turn + 1) / 4 + (turn + 1) / 16) (B := 4) (by decide)
  have a1 : ∀ σ, binV σ .add (.str out) (.str g) = some (.str (out ++ g)) := fun _ => b_addS (by omega)
  have a2 : ∀ σ, binV σ .add (.str (out ++ g)) (.str [123, 42, 125]) = some (.str (out ++ g ++ [123, 42, 125])) := fun _ => b_addS (by simp at ho ⊢; omega)
  have a3 : ∀ σ, binV σ .add (.str (out ++ g ++ [123, 42, 125])) (.str q) = some (.str (out ++ g ++ 123 :: 42 :: 125 :: q)) := fun σ => by
    have := b_addS (σ := σ) (A := out ++ g ++ [123, 42, 125]) (B := q) (by simp at ho ⊢; omega)
    rw [List.append_assoc (out ++ g)] at this
    exact this
  have s1 : ∀ σ, slcV σ (.lst (L.map Vl.str)) (k : Int) ((k : Int) + (m : Int)) = some (.lst (((L.drop k).take m).map Vl.str)) := fun _ => slcL ⟨hk2, by omega⟩
  have yj := fun σ => yj.at hd σ
  have y' : ∀ σ, callN D N d .law_written [.str w, .int ((turn : Int) + 1), .bool false] σ = some (.str q, σ) := fun σ => y.at hd σ
  refine ⟨some (.int (m : Int)), ?_⟩
  delta t_law_command_0 w_law_command_0
  (repeat' (first | walk_at "mini" | ((with_reducible show biV _ _ _ = _); exact bi_lenL) | with_reducible exact m1 _ | with_reducible exact m2 _ | with_reducible exact m3 _ | with_reducible exact m4 _ | with_reducible exact m5 _ | with_reducible exact a1 _ | with_reducible exact a2 _ | with_reducible exact a3 _ | with_reducible exact s1 _ | with_reducible exact gap_at hg | with_reducible exact yj _ | with_reducible exact y' _))
end
theorem slc_len (L : List (List Nat)) (k m : Nat) : ((L.drop k).take m).length ≤ L.length := ((List.take_sublist _ _).trans (List.drop_sublist _ _)).length_le
theorem tot_le {l : List (List Nat)} (h : ∀ x ∈ l, x.length ≤ 20) : tot l ≤ 43 * l.length := by
  induction l with
  | nil => exact Nat.le_refl _
  | cons x l ih =>
    have h1 := h x (List.mem_cons_self ..)
    have h2 := ih fun y hy => h y (List.mem_cons_of_mem _ hy)
    have : tot (x :: l) = 2 * x.length + 3 + tot l := by simp [tot]
    simp; omega
theorem gap_some (t : Nat) : ∃ g, gapsW[t % 7]? = some g ∧ Gap g ∧ g.length ≤ 4 := by
  have h : t % 7 < gapsW.length := Nat.mod_lt _ (by decide)
  exact ⟨_, List.getElem?_eq_getElem h, gaps_ok _ (List.getElem_mem h)⟩
noncomputable def meas (n k turn : Nat) : Nat := 2 * (n - k) + (if (turn + 1) % 4 = 3 then 1 else 0)
theorem meas_list {n k m turn f : Nat} (h3 : (turn + 1) % 4 = 3) (h : meas n k turn < f + 1) : meas n (k + m) (turn + 1) < f := by
  unfold meas at *
  rw [if_pos h3] at h; rw [if_neg (by omega)]; omega
theorem meas_word {n k turn f : Nat} (h3 : ¬ (turn + 1) % 4 = 3) (hk : k < n) (h : meas n k turn < f + 1) : meas n (k + 1) (turn + 1) < f := by
  unfold meas at *
  rw [if_neg h3] at h; split <;> omega
theorem len_piece {g p t : List Nat} {f : Nat} (hg : g.length ≤ 4) (hp : p.length ≤ 8700) (ht : t.length ≤ 9000 * f) : (g ++ (p ++ t)).length ≤ 9000 * (f + 1) := by
  rw [List.length_append, List.length_append]; omega
theorem out_piece {g p out : List Nat} {f : Nat} (hg : g.length ≤ 4) (hp : p.length ≤ 8700) (ho : out.length + 9000 * (f + 1) ≤ line) : out.length + g.length + p.length ≤ line ∧ (out ++ g ++ p).length + 9000 * f ≤ line := by
  rw [List.length_append, List.length_append]; omega
theorem turn_step {turn f : Nat} (h : turn + (f + 1) ≤ 1000) : turn + 1 + f ≤ 1000 ∧ turn + 1 ≤ 1000000 := by omega
theorem small_line {a b : Nat} (h : a ≤ b) (hb : b ≤ 1000000) : a ≤ line := Nat.le_trans h (Nat.le_trans hb (by decide))
theorem lc_loop (hN : line < N) {L : List (List Nat)} (hL : ∀ x ∈ L, Chars x ∧ x.length ≤ 20) (hn : L.length ≤ 20) : ∀ (f n k turn : Nat), meas L.length k turn < f → f ≤ n → turn + f ≤ 1000 →
    ∃ t l, More t l ∧ Means l (L.drop k) ∧ t.length ≤ 9000 * f ∧ l.length ≤ f ∧ ∀ d σ (out : List Nat) (p5 : Option Vl), 4 ≤ d → out.length + 9000 * f ≤ line →
      ∃ x1 x4 x5, LP N d t_law_command_0 w_law_command_0 n (lcL L turn σ.length out k p5) (σ ++ [gapsO]) = some (.next, [some (.lst (L.map Vl.str)), x1, some (.ref σ.length), some (.str (out ++ t)), x4, x5], σ ++ [gapsO])
  | 0, n, k, turn, h, _, _ => absurd h (Nat.not_lt_zero _)
  | f + 1, 0, k, turn, h, hf, _ => absurd hf (Nat.not_succ_le_zero f)
  | f + 1, n + 1, k, turn, h, hf, ht => by
    have hf' := Nat.le_of_succ_le_succ hf
    obtain ⟨ht', ht2⟩ := turn_step ht
    by_cases hkl : L.length ≤ k
    · refine ⟨[], [], .nil, by rw [List.drop_eq_nil_of_le hkl]; exact .nil, Nat.zero_le _, Nat.zero_le _, fun d σ out p5 hd ho => ⟨some (.int (turn : Int)), some (.int (k : Int)), p5, ?_⟩⟩
      rw [lc0 (decide_eq_false (by rw [List.length_map]; exact fun q => Nat.not_lt.mpr hkl (Int.ofNat_lt.mp q))), List.append_nil]
    have hkl : k < L.length := Nat.lt_of_not_le hkl
    have hk20 : k ≤ 1000 := Nat.le_trans (Nat.le_of_lt hkl) (Nat.le_trans hn (by decide))
    obtain ⟨g, hg, G, hg4⟩ := gap_some (turn + 1)
    by_cases h3 : (turn + 1) % 4 = 3
    · obtain ⟨m, hm⟩ : ∃ m, ((turn + 1) / 4 + (turn + 1) / 16) % 4 = m := ⟨_, rfl⟩
      have hsub : ∀ x ∈ (L.drop k).take m, Chars x ∧ x.length ≤ 20 := fun x hx => hL x (List.mem_of_mem_drop (List.mem_of_mem_take hx))
      have htot : tot ((L.drop k).take m) ≤ 860 := Nat.le_trans (tot_le fun x hx => (hsub x hx).2) (Nat.mul_le_mul_left 43 (Nat.le_trans (slc_len L k m) hn))
      obtain ⟨w, yj, J, hw⟩ := y_join_list hN ((L.drop k).take m) (Nat.le_trans htot (by decide))
      have hw2 := Nat.le_trans hw htot
      obtain ⟨q, y, ok⟩ := y_law_written hN (t := w) (turn := turn + 1) ht2 (Nat.le_trans hw2 (by decide)) (J.chars fun x hx => (hsub x hx).1) false
      have hq : (123 :: 42 :: 125 :: q).length ≤ 8700 := Nat.le_trans (Nat.add_le_add_right ok.len 3) (Nat.le_trans (Nat.add_le_add_right (Nat.add_le_add_right (Nat.mul_le_mul_left 10 hw2) 2) 3) (by decide))
      obtain ⟨t, l, M, Me, h1, h2, h4⟩ := lc_loop hN hL hn f n (k + m) (turn + 1) (meas_list h3 h) hf' ht'
      refine ⟨g ++ ((123 :: 42 :: 125 :: q) ++ t), (true, w) :: l, .cons G (.yes ok.wd) (small_line hw2 (by decide)) M, ?_, len_piece hg4 hq h1, Nat.succ_le_succ h2, fun d σ out p5 hd ho => ?_⟩
      · have := Means.list (x := w) (small_line hw2 (by decide)) J Me
        rw [← List.drop_drop, List.take_append_drop] at this
        exact this
      · obtain ⟨o1, o2⟩ := out_piece hg4 hq ho
        obtain ⟨p5', e1⟩ := lc2 (n := n) (σ := σ) (out := out) (p5 := p5) hd hkl hk20 h3 hg hm yj y o1
        obtain ⟨x1, x4, x5, e2⟩ := h4 d σ (out ++ g ++ 123 :: 42 :: 125 :: q) p5' hd o2
        exact ⟨x1, x4, x5, by rw [e1, e2, List.append_assoc, List.append_assoc]⟩
    · have hw : L[k]? = some L[k] := List.getElem?_eq_getElem hkl
      have hx := hL _ (List.getElem_mem hkl)
      obtain ⟨q, y, ok⟩ := y_law_written hN (t := L[k]) (turn := turn + 1) ht2 (Nat.le_trans hx.2 (by decide)) hx.1 false
      have hq : q.length ≤ 8700 := Nat.le_trans ok.len (Nat.le_trans (Nat.add_le_add_right (Nat.mul_le_mul_left 10 hx.2) 2) (by decide))
      obtain ⟨t, l, M, Me, h1, h2, h4⟩ := lc_loop hN hL hn f n (k + 1) (turn + 1) (meas_word h3 hkl h) hf' ht'
      refine ⟨g ++ (q ++ t), (false, L[k]) :: l, .cons G (.no ok.wd) (small_line hx.2 (by decide)) M, ?_, len_piece hg4 hq h1, Nat.succ_le_succ h2, fun d σ out p5 hd ho => ?_⟩
      · rw [List.drop_eq_getElem_cons hkl]
        exact .word (small_line hx.2 (by decide)) Me
      · obtain ⟨o1, o2⟩ := out_piece hg4 hq ho
        obtain ⟨x1, x4, x5, e2⟩ := h4 d σ (out ++ g ++ q) p5 hd o2
        exact ⟨x1, x4, x5, by rw [lc1 hd hw h3 hg y o1, e2, List.append_assoc, List.append_assoc]⟩
structure CmdOk (L : List (List Nat)) (c : List Nat) : Prop where
  cmd : ∃ l, Cmd c l ∧ Means l L ∧ l.length ≤ 50
  len : c.length ≤ 500000
  hash : ∀ r, c ≠ 35 :: r
theorem y_law_command (hN : line < N) {w0 : List Nat} {L : List (List Nat)} (hL : ∀ x ∈ w0 :: L, Chars x ∧ x.length ≤ 20) (hn : (w0 :: L).length ≤ 20) {turn : Nat} (ht : turn ≤ 64) : ∃ c, Yields N 5 .law_command [.lst ((w0 :: L).map Vl.str), .int (turn : Int)] (.str c) ∧ CmdOk (w0 :: L) c := by
  have hl : line = 16777216 := rfl
  have h0 := hL w0 (List.mem_cons_self ..)
  obtain ⟨q, y, ok⟩ := y_law_written hN (t := w0) (turn := turn) (by omega) (by omega) h0.1 true
  have hq := ok.len
  obtain ⟨t, l, M, Me, h1, h2, h4⟩ := lc_loop hN hL hn 42 N 1 turn (by unfold meas; split <;> omega) (by omega) (by omega)
  refine ⟨q ++ t, yields_pureT [gapsO] (us := [.lst ((w0 :: L).map Vl.str), .int (turn : Int)]) rfl rfl rfl fun d σ hd => ?_, ⟨⟨_, M.cmd (.no ok.wd) (by omega), .word (by omega) Me, by simp; omega⟩, by simp; omega, ?_⟩⟩
  · show outR (exSs _ N b_law_command [some (.lst ((w0 :: L).map Vl.str)), some (.int (turn : Int)), none, none, none, none] σ) = _
    obtain ⟨x1, x4, x5, e⟩ := h4 d σ q none hd (by omega)
    have i1 : ∀ σ, idxV σ (.lst ((w0 :: L).map Vl.str)) (.int 0) = some (.str w0) := fun _ => rfl
    have y := fun σ => y.at hd σ
    delta b_law_command
    (repeat' (first | walk_at "mini" | with_reducible exact i1 _ | with_reducible exact y _ | ((with_reducible show whileN _ _ _ _ _ = _); exact e)))
  · intro r e
    obtain ⟨x, q', hx, -, -⟩ := ok.wd.first []
    subst hx
    cases e
    exact ok.hash rfl _ rfl
end
end

section
/-! ## Scripts -/
noncomputable def Pre (p : List Nat) : Prop := ∀ s s' k, Skips k s s' → ∃ k', k' ≤ k + p.length ∧ Skips k' (p ++ s) s'
theorem Skips.of {k : Nat} {s s2 s' : List Nat} (S : Skips k s s') (h : skipG s2 = skipG s) : Skips k s2 s' := by
  cases S with
  | stop h1 hs => exact .stop (h.trans h1) hs
  | nl h1 hc hs => exact .nl (h.trans h1) hc hs
  | com h1 hs => exact .com (h.trans h1) hs
theorem Pre.nil : Pre [] := fun s s' k S => ⟨k, Nat.le_refl _, S⟩
theorem Pre.gap {c : Nat} {p : List Nat} (h : Pre p) (g : isGapB c = true) : Pre (c :: p) := fun s s' k S => by
  obtain ⟨k', h1, h2⟩ := h s s' k S
  exact ⟨k', by simp; omega, h2.of (skipG_gap g)⟩
theorem Pre.bs {p : List Nat} (h : Pre p) : Pre (92 :: 10 :: p) := fun s s' k S => by
  obtain ⟨k', h1, h2⟩ := h s s' k S
  exact ⟨k', by simp; omega, h2.of rfl⟩
theorem Pre.nl {c : Nat} {p : List Nat} (h : Pre p) (hc : c = 10 ∨ c = 59) : Pre (c :: p) := fun s s' k S => by
  obtain ⟨k', h1, h2⟩ := h s s' k S
  refine ⟨k' + 1, by simp; omega, .nl (skipG_no ?_ ?_) hc h2⟩
  · rcases hc with rfl | rfl <;> rfl
  · rcases hc with rfl | rfl <;> simp
theorem Pre.com {q p : List Nat} (h : Pre p) (hq : ∀ s, comS (35 :: (q ++ s)) = s) : Pre (35 :: (q ++ p)) := fun s s' k S => by
  obtain ⟨k', h1, h2⟩ := h s s' k S
  refine ⟨k' + 1, by simp; omega, .com (r := q ++ (p ++ s)) ?_ ?_⟩
  · show skipG (35 :: (q ++ p ++ s)) = _
    rw [List.append_assoc]; exact skipG_no rfl (by simp)
  · rw [hq]; exact h2
noncomputable abbrev leadsW : List (List Nat) := [[], [32], [10], [59], [92, 10], [35, 32, 91, 32, 123, 10], [59, 35, 92, 10, 34, 10, 9], [11, 12, 59, 13]]
noncomputable abbrev endsW : List (List Nat) := [[59], [10], [32, 59, 9], [10, 59, 59, 10], [59, 35, 32, 34, 32, 91, 32, 123, 10], [92, 10, 10], [59, 35, 92, 92, 10], [9, 10, 35, 92, 10, 93, 10]]
noncomputable abbrev tailsW : List (List Nat) := [[], [32], [10], [59], [92, 10], [59, 35, 92], [9, 92, 10, 32, 59, 59], [10, 35, 32, 34, 32, 123]]
theorem leads_ok : ∀ p ∈ leadsW, Pre p ∧ p.length ≤ 10 := by
  intro p hp
  simp only [leadsW, List.mem_cons, List.not_mem_nil, or_false] at hp
  rcases hp with rfl | rfl | rfl | rfl | rfl | rfl | rfl | rfl
  · exact ⟨.nil, by decide⟩
  · exact ⟨Pre.nil.gap rfl, by decide⟩
  · exact ⟨Pre.nil.nl (.inl rfl), by decide⟩
  · exact ⟨Pre.nil.nl (.inr rfl), by decide⟩
  · exact ⟨Pre.nil.bs, by decide⟩
  · exact ⟨Pre.nil.com (q := [32, 91, 32, 123, 10]) fun s => rfl, by decide⟩
  · exact ⟨((Pre.nil.gap (c := 9) rfl).com (q := [92, 10, 34, 10]) fun s => rfl).nl (.inr rfl), by decide⟩
  · exact ⟨(((Pre.nil.gap (c := 13) rfl).nl (c := 59) (.inr rfl)).gap rfl).gap rfl, by decide⟩
theorem endB {c : Nat} {s : List Nat} (h : bareS.contains c = true) : EndAt bareS (c :: s) := .inr (.inl ⟨c, s, rfl, h⟩)
theorem ends_ok : ∀ e ∈ endsW, (∃ e', Pre e' ∧ e'.length ≤ 10 ∧ ∀ s, CmdEnd (e ++ s) (e' ++ s)) ∧ e.length ≤ 10 := by
  intro p hp
  simp only [endsW, List.mem_cons, List.not_mem_nil, or_false] at hp
  rcases hp with rfl | rfl | rfl | rfl | rfl | rfl | rfl | rfl
  · exact ⟨⟨[], .nil, by decide, fun s => ⟨endB rfl, .inr ⟨59, skipG_no rfl (by simp), rfl⟩⟩⟩, by decide⟩
  · exact ⟨⟨[], .nil, by decide, fun s => ⟨endB rfl, .inr ⟨10, skipG_no rfl (by simp), rfl⟩⟩⟩, by decide⟩
  · exact ⟨⟨[9], Pre.nil.gap rfl, by decide, fun s => ⟨endB rfl, .inr ⟨59, (skipG_gap rfl).trans (skipG_no rfl (by simp)), rfl⟩⟩⟩, by decide⟩
  · exact ⟨⟨[59, 59, 10], ((Pre.nil.nl (c := 10) (.inl rfl)).nl (c := 59) (.inr rfl)).nl (.inr rfl), by decide, fun s => ⟨endB rfl, .inr ⟨10, skipG_no rfl (by simp), rfl⟩⟩⟩, by decide⟩
  · exact ⟨⟨[35, 32, 34, 32, 91, 32, 123, 10], Pre.nil.com (q := [32, 34, 32, 91, 32, 123, 10]) fun s => rfl, by decide, fun s => ⟨endB rfl, .inr ⟨59, skipG_no rfl (by simp), rfl⟩⟩⟩, by decide⟩
  · exact ⟨⟨[], .nil, by decide, fun s => ⟨.inr (.inr ⟨rfl, _, rfl⟩), .inr ⟨10, (show skipG (92 :: 10 :: 10 :: s) = skipG (10 :: s) from rfl).trans (skipG_no rfl (by simp)), rfl⟩⟩⟩, by decide⟩
  · exact ⟨⟨[35, 92, 92, 10], Pre.nil.com (q := [92, 92, 10]) fun s => rfl, by decide, fun s => ⟨endB rfl, .inr ⟨59, skipG_no rfl (by simp), rfl⟩⟩⟩, by decide⟩
  · exact ⟨⟨[35, 92, 10, 93, 10], Pre.nil.com (q := [92, 10, 93, 10]) fun s => rfl, by decide, fun s => ⟨endB rfl, .inr ⟨10, (skipG_gap rfl).trans (skipG_no rfl (by simp)), rfl⟩⟩⟩, by decide⟩
theorem Skips.fin : Skips 0 [] [] := .stop rfl fun c r e => by cases e
theorem tails_ok : ∀ p ∈ tailsW, (∃ r' k, CmdEnd p r' ∧ k ≤ 10 ∧ Skips k r' []) ∧ p.length ≤ 10 := by
  intro p hp
  have pf : ∀ p, Pre p → p.length ≤ 10 → ∃ k, k ≤ 10 ∧ Skips k p [] := fun p h hl => by
    obtain ⟨k, h1, h2⟩ := h [] [] 0 .fin
    rw [List.append_nil] at h2
    exact ⟨k, by omega, h2⟩
  simp only [tailsW, List.mem_cons, List.not_mem_nil, or_false] at hp
  rcases hp with rfl | rfl | rfl | rfl | rfl | rfl | rfl | rfl
  · exact ⟨⟨[], 0, ⟨.inl rfl, .inl ⟨rfl, rfl⟩⟩, by decide, .fin⟩, by decide⟩
  · exact ⟨⟨[], 0, ⟨endB rfl, .inl ⟨rfl, rfl⟩⟩, by decide, .fin⟩, by decide⟩
  · exact ⟨⟨[], 0, ⟨endB rfl, .inr ⟨10, rfl, rfl⟩⟩, by decide, .fin⟩, by decide⟩
  · exact ⟨⟨[], 0, ⟨endB rfl, .inr ⟨59, rfl, rfl⟩⟩, by decide, .fin⟩, by decide⟩
  · exact ⟨⟨[], 0, ⟨.inr (.inr ⟨rfl, _, rfl⟩), .inl ⟨rfl, rfl⟩⟩, by decide, .fin⟩, by decide⟩
  · exact ⟨⟨[35, 92], 1, ⟨endB rfl, .inr ⟨59, rfl, rfl⟩⟩, by decide, .com rfl .fin⟩, by decide⟩
  · obtain ⟨k, h1, h2⟩ := pf [59] (Pre.nil.nl (.inr rfl)) (by decide)
    exact ⟨⟨[59], k, ⟨endB rfl, .inr ⟨59, rfl, rfl⟩⟩, h1, h2⟩, by decide⟩
  · exact ⟨⟨[35, 32, 34, 32, 123], 1, ⟨endB rfl, .inr ⟨10, rfl, rfl⟩⟩, by decide, .com rfl .fin⟩, by decide⟩
inductive Scr : List Nat → List (List (List Nat)) → Prop
  | done {k : Nat} {s : List Nat} (S : Skips k s []) (hk : k ≤ 1000) : Scr s []
  | cmd {k : Nat} {s c r r' : List Nat} {l : List (Bool × List Nat)} {w : List Nat} {ws : List (List Nat)} {rest : List (List (List Nat))} (S : Skips k s (c ++ r)) (hk : k ≤ 1000) (K : Cmd c l) (E : CmdEnd r r') (M : Means l (w :: ws)) (hl : l.length ≤ 50) (hr : ws.length ≤ 50) (h : Scr r' rest) : Scr s ((w :: ws) :: rest)
theorem CmdOk.at {L : List (List Nat)} {c : List Nat} (h : CmdOk L c) (r : List Nat) : Skips 0 (c ++ r) (c ++ r) := by
  obtain ⟨l, K, -, -⟩ := h.cmd
  obtain ⟨x, c', rfl, h1, h2⟩ := K.first r
  refine .stop h2 fun c2 r2 e => ?_
  cases e
  have := h.hash c'
  simp at h1 this ⊢
  exact ⟨h1.1, h1.2, this⟩
theorem scr_one {w : List Nat} {ws : List (List Nat)} {p c : List Nat} (hp : Pre p) (hl : p.length ≤ 10) (h : CmdOk (w :: ws) c) (hws : ws.length ≤ 50) : Scr (p ++ c) [w :: ws] := by
  obtain ⟨l, K, M, hl'⟩ := h.cmd
  obtain ⟨k, h1, S⟩ := hp _ _ _ (h.at [])
  rw [List.append_nil] at S
  refine .cmd (r := []) (by rw [List.append_nil]; exact S) (by omega) K ⟨.inl rfl, .inl ⟨rfl, rfl⟩⟩ M hl' hws (.done .fin (by decide))
theorem scr_two {w w2 : List Nat} {ws ws2 : List (List Nat)} {p c e p2 c2 tl : List Nat} (hp : p ∈ leadsW) (h : CmdOk (w :: ws) c) (he : e ∈ endsW) (hp2 : p2 ∈ leadsW) (h2 : CmdOk (w2 :: ws2) c2) (ht : tl ∈ tailsW) (hws : ws.length ≤ 50) (hws2 : ws2.length ≤ 50) :
    Scr (p ++ c ++ (e ++ p2) ++ (c2 ++ tl)) [w :: ws, w2 :: ws2] := by
  obtain ⟨l, K, M, hl⟩ := h.cmd
  obtain ⟨l2, K2, M2, hl2⟩ := h2.cmd
  obtain ⟨P1, n1⟩ := leads_ok p hp
  obtain ⟨P2, n2⟩ := leads_ok p2 hp2
  obtain ⟨⟨e', P3, n3, E⟩, n4⟩ := ends_ok e he
  obtain ⟨⟨r', k3, E2, hk3, S3⟩, n5⟩ := tails_ok tl ht
  obtain ⟨k1, q1, S1⟩ := P1 _ _ _ (h.at (e ++ (p2 ++ (c2 ++ tl))))
  obtain ⟨k2, q2, S2⟩ := P2 _ _ _ (h2.at tl)
  obtain ⟨k4, q4, S4⟩ := P3 _ _ _ S2
  have e1 : p ++ c ++ (e ++ p2) ++ (c2 ++ tl) = p ++ (c ++ (e ++ (p2 ++ (c2 ++ tl)))) := by simp
  rw [e1]
  exact .cmd S1 (by omega) K (E _) M hl hws (.cmd S4 (by omega) K2 E2 M2 hl2 hws2 (.done S3 (by omega)))
end

section
section
variable {N : Nat}
/-! ## The host -/
section
variable {C : CallT} {ρ : Loc} {σ σ1 σ2 : Sto} {p pf pa pi pc : Pos} {o e : Ex} {es : Exs} {v x : Vl} {vs : List Vl} {q : Option (Vl × Sto)} {Q : Option (Fl × Loc × Sto)}
theorem ev_methF {m : Mt} {f : Fn} {l : List (At × Vl)} (hf : methF m = some f) (h : evE C o ρ σ = some (x, σ1)) (hi : instOf σ1 x = some l) (h2 : evEs C es ρ σ1 = some (vs, σ2)) (hc : C f (x :: vs) σ2 = q) : evE C (.meth o m pa es p) ρ σ = q := by
  exact tv h (by rw [hf]; exact bs hi (tl h2 hc))
theorem ev_attr {a : At} {l : List (At × Vl)} (h : evE C o ρ σ = some (x, σ1)) (hi : instOf σ1 x = some l) (ha : attrGet a l = some v) : evE C (.attr o a p) ρ σ = some (v, σ1) := by
  exact tv h (bs hi (mp ha))
theorem ev_isi {i : Nat} {c : Cl} {s : List Nat} (h : locGet ρ i = some (.str s)) : evE C (.isi i c pf pi pc p) ρ σ = some (.bool false, σ) := by
  exact bs h rfl
theorem ev_callL {i : Nat} {f : Fn} (hl : locGet ρ i = some (.fn f)) (h : evEs C es ρ σ = some (vs, σ1)) (hc : C f vs σ1 = q) : evE C (.callL i pf es p) ρ σ = q := by
  exact bs hl (bs rfl (tl h hc))
theorem ev_new (h : C .smallInit [.ref (σ.length + 1)] (σ ++ [.attrs [], .inst σ.length]) = some (.none, σ1)) : evE C (.new pf p) ρ σ = some (.ref (σ.length + 1), σ1) := tv h rfl
theorem st_tri {N : Nat} {b : Sts} {hs : List ExceptHandler} (h : exSs C N b ρ σ = Q) : exS C N (.tri b hs p) ρ σ = Q := h
end
noncomputable def attrsL (sp : Nat) : List (At × Vl) := [(.tools, .ref 10), (.inline, .ref 11), (.limit, .int 40), (.fuel, .none), (.depth, .int 0), (.spent, .int (sp : Int)), (.epoch, .int 0), (.frame, .none), (.coroutine, .none), (.vars, .ref 12), (.commands, .ref 13), (.firsts, .ref 14)]
noncomputable abbrev cmdV : Vl := .tup [.fn .law_record, .ref 15]
structure P8 where
  (a0 a1 a2 a3 a4 a5 a6 a7 : Ob)
noncomputable def HS0 (P : P8) : Sto := [P.a0, P.a1, P.a2, P.a3, P.a4, P.a5, P.a6, P.a7]
noncomputable def HS1 (P : P8) : Sto := [P.a0, P.a1, P.a2, P.a3, P.a4, P.a5, P.a6, P.a7, .attrs (attrsL 0), .inst 8, .dict [], .dict [], .dict [], .dict [], .dict []]
noncomputable def HS2 (P : P8) : Sto := [P.a0, P.a1, P.a2, P.a3, P.a4, P.a5, P.a6, P.a7, .attrs (attrsL 0), .inst 8, .dict [], .dict [], .dict [], .dict [], .dict [], .list []]
noncomputable def HS (P : P8) (nm : List Nat) (sp : Nat) (log : List Vl) : Sto := [P.a0, P.a1, P.a2, P.a3, P.a4, P.a5, P.a6, P.a7, .attrs (attrsL sp), .inst 8, .dict [], .dict [], .dict [], .dict [(nm, cmdV)], .dict [], .list log]
theorem smallInit_ok {d : Nat} (P : P8) : callN D N (d + 1 + 1) .smallInit [.ref 9] [P.a0, P.a1, P.a2, P.a3, P.a4, P.a5, P.a6, P.a7, .attrs [], .inst 8] = some (.none, HS1 P) := by
  kernel_rfl
theorem newB_ok {d : Nat} {P : P8} {ρ : Loc} {pf p : Pos} : evE (callN D N (d + 1 + 1)) (.new pf p) ρ (HS0 P) = some (.ref 9, HS1 P) := by
  exact ev_new (σ := HS0 P) (smallInit_ok (N := N) (d := d) P)
theorem put_ok {d : Nat} (P : P8) (nm : List Nat) : callN D N (d + 1 + 1) .put [.ref 9, .str nm, .fn .law_record, .ref 15] (HS2 P) = some (.none, HS P nm 0 []) := by
  kernel_rfl
section
variable {P : P8} {nm : List Nat} {sp d : Nat} {log : List Vl} {w : Vl} {ws : List Vl}
theorem spend_ok : callN D N (d + 1) .spend [.ref 9] (HS P nm sp log) = some (.none, HS P nm (sp + 1) log) := by
  kernel_rfl
theorem inst_ok : instOf (HS P nm sp log) (.ref 9) = some (attrsL sp) := rfl
theorem at_cmds : attrGet .commands (attrsL sp) = some (.ref 13) := rfl
theorem at_spent : attrGet .spent (attrsL sp) = some (.int (sp : Int)) := rfl
theorem m_rec (h : log.length < line) : methV (HS P nm sp log) .append (.ref 15) [w] = some (.none, HS P nm sp (log ++ [w])) := by
  show (if log.length < line then some (Vl.none, (HS P nm sp log).set 15 (.list (log ++ [w]))) else none) = _
  rw [if_pos h]; rfl
theorem mk_rec : methK (HS P nm sp log) .append (.ref 15) = true := rfl
theorem bi_rec : biV (HS P nm sp log) .len [.ref 15] = some (.int log.length) := rfl
theorem bi_str {σ : Sto} {n : Nat} (h : n < 10) : biV σ .str [.int (n : Int)] = some (.str [48 + n]) := by
  exact (if_pos (by omega)).trans (by rw [Int.toNat_natCast])
theorem record_ok (h : log.length < 9) : callN D N (d + 1) .law_record [.ref 9, w, .ref 15] (HS P nm sp log) = some (.str [48 + (log.length + 1)], HS P nm sp (log ++ [w])) := by
  refine callN_run (us := [.ref 9, w, .ref 15]) rfl rfl ?_
  show outR (exSs _ N b_law_record [some (.ref 9), some w, some (.ref 15)] _) = _
  have hl : log.length < line := by have : line = 16777216 := rfl; omega
  have b1 : biV (HS P nm sp (log ++ [w])) .str [.int (((log ++ [w]).length : Nat) : Int)] = some (.str [48 + (log.length + 1)]) := by
    rw [bi_str (by simp; omega)]; simp
  delta b_law_record
  (repeat' (first | walk_at "mini" | ((with_reducible show methK _ _ _ = _); exact mk_rec) | ((with_reducible show methV _ _ _ _ = _); exact m_rec hl) | ((with_reducible show biV _ _ _ = _); exact bi_rec) | ((with_reducible show biV _ _ _ = _); exact b1)))
theorem act_ok (h : log.length < 9) : callN D N (d + 1 + 1) .act [.ref 9, w, .fn .law_record, .ref 15] (HS P nm sp log) = some (.str [48 + (log.length + 1)], HS P nm sp (log ++ [w])) := by
  refine callN_run (us := [.ref 9, w, .fn .law_record, .ref 15]) rfl rfl ?_
  show outR (exSs _ N b_act [some (.ref 9), some w, some (.fn .law_record), some (.ref 15)] _) = _
  have c1 : ∀ σ, cmpV σ .is (.ref 15) .none = some false := fun _ => rfl
  delta b_act
  (repeat' (first | ((with_reducible apply ev_callL); (next => exact rfl)) | walk_at "mini" | with_reducible exact c1 _ | with_reducible exact record_ok h))
theorem begin_ok (h : log.length < 9) : callN D N (d + 1 + 1 + 1) .begin [.ref 9, .lst (.str nm :: ws)] (HS P nm sp log) = some (.str [48 + (log.length + 1)], HS P nm (sp + 1) (log ++ [.lst (.str nm :: ws)])) := by
  refine callN_run (us := [.ref 9, .lst (.str nm :: ws)]) rfl rfl ?_
  show outR (exSs _ N b_begin [some (.ref 9), some (.lst (.str nm :: ws)), none, none] _) = _
  have i1 : ∀ σ, idxV σ (.lst (.str nm :: ws)) (.int 0) = some (.str nm) := fun _ => rfl
  have c1 : cmpV (HS P nm sp log) .notin (.str nm) (.ref 13) = some false := by
    show some (!(if nm = nm then some cmdV else none).isSome) = _
    rw [if_pos rfl]; rfl
  have i2 : idxV (HS P nm (sp + 1) log) (.ref 13) (.str nm) = some cmdV := by
    show (if nm = nm then some cmdV else none) = _
    rw [if_pos rfl]
  delta b_begin
  (repeat' (first | ((with_reducible apply ev_methF); (next => exact rfl)) | (with_reducible apply ev_attr) | walk_at "mini" | with_reducible exact i1 _ | with_reducible exact c1 | with_reducible exact i2 | with_reducible exact inst_ok | with_reducible exact at_cmds | with_reducible exact spend_ok | with_reducible exact act_ok h))
theorem call_ok (h : log.length < 9) : callN D N (d + 1 + 1 + 1 + 1) .call [.ref 9, .lst (.str nm :: ws)] (HS P nm sp log) = some (.str [48 + (log.length + 1)], HS P nm (sp + 1) (log ++ [.lst (.str nm :: ws)])) := by
  refine callN_run (us := [.ref 9, .lst (.str nm :: ws)]) rfl rfl ?_
  show outR (exSs _ N b_call [some (.ref 9), some (.lst (.str nm :: ws)), none] _) = _
  have t1 : ∀ σ, truthV σ (.lst (.str nm :: ws)) = some true := fun _ => rfl
  delta b_call
  (repeat' (first | with_reducible exact t1 _ | ((with_reducible apply ev_methF); (next => exact rfl)) | (with_reducible exact ev_isi rfl) | walk_at "mini" | with_reducible exact inst_ok | with_reducible exact begin_ok h))
end
end
end

section
section
variable {N : Nat}
/-! ## Scripts run -/
noncomputable abbrev rsL (t : List Nat) (res : Vl) (pb pe pr : Option Vl) (cmd : Vl) (pw pbh : Option Vl) : Loc := [some (.ref 9), some (.str t), some res, pb, pe, pr, some cmd, pw, pbh]
noncomputable def lastR (res : Vl) (n : Nat) : Nat → Vl
  | 0 => res
  | k + 1 => .str [48 + (n + (k + 1))]
noncomputable def recd (wss : List (List (List Nat))) : List Vl := wss.map fun W => .lst (W.map Vl.str)
section
variable {P : P8} {nm t : List Nat} {sp d n a : Nat} {log : List Vl} {res cmd : Vl} {pb pe pr pw pbh : Option Vl} {ws : List (List Nat)} {l : List (Bool × List Nat)} {b e : Int}
theorem rs_end : LP N d t_run_script_0 w_run_script_0 (n + 1) (rsL t res pb pe pr .none pw pbh) (HS P nm sp log) = some (.next, rsL t res pb pe pr .none pw pbh, HS P nm sp log) := by
  have c1 : ∀ σ, cmpV σ .isnot .none .none = some false := fun _ => rfl
  delta t_run_script_0 w_run_script_0
  refine wh_end ?_
  (repeat' (first | walk_at "mini" | with_reducible exact c1 _))
theorem rs_turn (hN : line < N) (hd : 7 ≤ d) (h : log.length < 9) (M : Means l (nm :: ws)) (hw : ws.length ≤ 50) (y : Yields N 6 .command_at [.str t, .int (a : Int)] cmd) :
    LP N d t_run_script_0 w_run_script_0 (n + 1) (rsL t res pb pe pr (.tup [.tup (l.map wv), .int b, .int e, .int (a : Int)]) pw pbh) (HS P nm sp log) =
      LP N d t_run_script_0 w_run_script_0 n (rsL t (.str [48 + (log.length + 1)]) (some (.int (a : Int))) (some (.int (t.length : Int))) pr cmd (some (.tup (l.map wv))) (some (.int (a : Int)))) (HS P nm (sp + 1) (log ++ [.lst ((nm :: ws).map Vl.str)])) := by
  have c1 : ∀ σ, cmpV σ .isnot (.tup [.tup (l.map wv), .int b, .int e, .int (a : Int)]) .none = some true := fun _ => rfl
  have hl : line = 16777216 := rfl
  have yw := fun σ => (y_words_of (N := N) hN (hv' := .ref 9) M (by simp; omega)).at hd σ
  have y := fun σ => y.at (by omega : 6 ≤ d) σ
  obtain ⟨d, rfl⟩ : ∃ d', d = d' + 1 + 1 + 1 + 1 := ⟨d - 4, by omega⟩
  have yc := call_ok (N := N) (P := P) (nm := nm) (sp := sp) (d := d) (ws := ws.map Vl.str) h
  rw [← List.map_cons] at yc
  delta t_run_script_0 w_run_script_0
  (repeat' (first | ((with_reducible apply ev_methF); (next => exact rfl)) | walk_at "mini" | with_reducible exact c1 _ | with_reducible exact inst_ok | with_reducible exact yw _ | with_reducible exact yc | with_reducible exact y _))
end
theorem rs_loop (hN : line < N) {t s : List Nat} {wss : List (List (List Nat))} (S : Scr s wss) : ∀ a, Suf t a s → ∃ cmd, Yields N 6 .command_at [.str t, .int (a : Int)] cmd ∧ ∀ n d P nm sp log res pb pe pr pw pbh, wss.length < n → 7 ≤ d → log.length + wss.length ≤ 9 → (∀ W ∈ wss, ∃ ws, W = nm :: ws) →
    ∃ ρ, LP N d t_run_script_0 w_run_script_0 n (rsL t res pb pe pr cmd pw pbh) (HS P nm sp log) = some (.next, some (.ref 9) :: some (.str t) :: some (lastR res log.length wss.length) :: ρ, HS P nm (sp + wss.length) (log ++ recd wss)) := by
  have hl : line = 16777216 := rfl
  induction S with
  | done S hk =>
    intro a h
    refine ⟨.none, y_command_none hN h S (by omega), fun n d P nm sp log res pb pe pr pw pbh hn hd hlog hw => ?_⟩
    obtain ⟨n, rfl⟩ : ∃ m, n = m + 1 := ⟨n - 1, by omega⟩
    refine ⟨[pb, pe, pr, some .none, pw, pbh], ?_⟩
    simp only [recd, List.map_nil, List.append_nil, List.length_nil, Nat.add_zero, lastR]
    exact rs_end (N := N)
  | @cmd k s c r r' l w ws rest S hk K E M hll hr S' ih =>
    intro a h
    obtain ⟨b, e, a', h1, y⟩ := y_command_at hN h S (by omega) K E (by omega)
    obtain ⟨cmd', y', h2⟩ := ih a' h1
    refine ⟨_, y, fun n d P nm sp log res pb pe pr pw pbh hn hd hlog hw => ?_⟩
    obtain ⟨n, rfl⟩ : ∃ m, n = m + 1 := ⟨n - 1, by omega⟩
    simp at hlog hn
    obtain ⟨ws', hws⟩ := hw _ (List.mem_cons_self ..)
    cases hws
    obtain ⟨ρ, e1⟩ := h2 n d P w (sp + 1) (log ++ [.lst ((w :: ws).map Vl.str)]) (.str [48 + (log.length + 1)]) (some (.int (a' : Int))) (some (.int (t.length : Int))) pr (some (.tup (l.map wv))) (some (.int (a' : Int))) (by omega) hd (by simp; omega) (fun W hW => hw W (List.mem_cons_of_mem _ hW))
    refine ⟨ρ, ?_⟩
    rw [rs_turn hN hd (by omega) M hr y', e1]
    have e2 : lastR (.str [48 + (log.length + 1)]) (log ++ [Vl.lst ((w :: ws).map Vl.str)]).length rest.length = lastR res log.length ((w :: ws) :: rest).length := by
      cases rest with
      | nil => rfl
      | cons x rest => simp only [lastR, List.length_append, List.length_cons, List.length_nil]; congr 2; omega
    have e3 : sp + 1 + rest.length = sp + ((w :: ws) :: rest).length := by simp; omega
    have e4 : (log ++ [Vl.lst ((w :: ws).map Vl.str)]) ++ recd rest = log ++ recd ((w :: ws) :: rest) := by simp [recd]
    rw [e2, e3, e4]
theorem run_ok (hN : line < N) {t : List Nat} {wss : List (List (List Nat))} (S : Scr t wss) (ht : t.length ≤ line) {d : Nat} (hd : 7 ≤ d) (P : P8) {nm : List Nat} (sp : Nat) (log : List Vl) (hlog : log.length + wss.length ≤ 9) (hw : ∀ W ∈ wss, ∃ ws, W = nm :: ws) :
    callN D N (d + 1) .run_script [.ref 9, .str t] (HS P nm sp log) = some (lastR (.str []) log.length wss.length, HS P nm (sp + wss.length) (log ++ recd wss)) := by
  have hl : line = 16777216 := rfl
  obtain ⟨cmd, y, h⟩ := rs_loop hN (t := t) S 0 ⟨rfl, Nat.zero_le _, ht⟩
  obtain ⟨ρ, e⟩ := h N d P nm sp log (.str []) (some (.int 0)) (some (.int (t.length : Int))) none none none (by omega) hd hlog hw
  have y : ∀ σ, callN D N d .command_at [.str t, .int 0] σ = some (cmd, σ) := fun σ => y.at (by omega : 6 ≤ d) σ
  refine callN_run (us := [.ref 9, .str t]) rfl rfl ?_
  show outR (exSs _ N b_run_script [some (.ref 9), some (.str t), none, none, none, none, none, none, none] _) = _
  delta b_run_script
  (repeat' (first | with_reducible apply st_tri | walk_at "mini" | with_reducible exact y _ | ((with_reducible show whileN _ _ _ _ _ = _); exact e)))
end
end

section
section
variable {N : Nat}
/-! ## The law -/
theorem b_addL {σ : Sto} {i : Nat} {y : Vl} {a b : List Vl} (h1 : lstOf σ (.ref i) = some a) (h2 : lstOf σ y = some b) (h : a.length + b.length ≤ line) : binV σ .add (.ref i) y = some (.lst (a ++ b)) := by
  show (lstOf σ (.ref i)).bind (fun a => (lstOf σ y).bind fun b => if a.length + b.length ≤ line then some (Vl.lst (a ++ b)) else none) = _
  rw [h1]
  show (lstOf σ y).bind _ = _
  rw [h2]; exact if_pos h
theorem eqStrsB_self : ∀ l : List (List Nat), eqStrs (l.map Vl.str) (l.map Vl.str) = some true
  | [] => rfl
  | a :: l => (mp (f := fun x => (a == a) && x) (eqStrsB_self l)).trans (by simp)
theorem eqLists_self : ∀ l : List (List (List Nat)), eqLists (recd l) (recd l) = some true
  | [] => rfl
  | a :: l => bs (f := fun x => (eqLists (recd l) (recd l)).map fun y => x && y) (eqStrsB_self a) (mp (f := fun y => true && y) (eqLists_self l))
theorem lst_idx {σ : Sto} {r : Nat} {L : List (List Nat)} {i : Int} {k : Nat} {x : List Nat} (hr : σ[r]? = some (.list (L.map Vl.str))) (hi : i = (k : Int)) (hx : L[k]? = some x) : idxV σ (.ref r) (.int i) = some (.str x) := by
  subst hi
  exact idxR hr (by rw [List.getElem?_map, hx]; rfl)
theorem pick (L : List (List Nat)) (n : Nat) (hn : 0 < n) (hl : L.length = n) (i : Int) : ∃ (k : Nat) (x : List Nat), i % (n : Int) = (k : Int) ∧ L[k]? = some x ∧ x ∈ L := by
  have h1 : 0 ≤ i % (n : Int) := Int.emod_nonneg _ (by omega)
  have h2 : i % (n : Int) < n := Int.emod_lt_of_pos _ (by omega)
  have hk : (i % (n : Int)).toNat < L.length := by omega
  exact ⟨(i % (n : Int)).toNat, L[(i % (n : Int)).toNat], by omega, List.getElem?_eq_getElem hk, List.getElem_mem hk⟩
noncomputable abbrev namesW : List (List Nat) := [[114, 101, 99], [35], [97, 32, 98], [123], [92]]
noncomputable abbrev LO (L : List (List Nat)) : Ob := .list (L.map Vl.str)
theorem ev_listE {C : CallT} {es : Exs} {ρ : Loc} {σ σ1 τ : Sto} {vs : List Vl} {r : Nat} {p : Pos} (h : evEs C es ρ σ = some (vs, σ1)) (hn : vs.length ≤ 100) (hr : r = σ1.length) (ht : τ = σ1 ++ [.list vs]) : evE C (.list es p) ρ σ = some (.ref r, τ) := by
  subst hr ht; exact ev_list h hn
theorem step {C : CallT} {N : Nat} {s : St} {ss : Sts} {ρ ρ1 : Loc} {σ σ1 : Sto} {Q : Option (Fl × Loc × Sto)} (h : exS C N s ρ σ = some (.next, ρ1, σ1)) (k : exSs C N ss ρ1 σ1 = Q) : exSs C N (.cons s ss) ρ σ = Q := ss_cons h (sq_next k)
theorem small_names : ∀ x ∈ namesW, Chars x ∧ x.length ≤ 20 := by
  unfold Chars
  decide
theorem small_fixed : ∀ x ∈ fixedW, Chars x ∧ x.length ≤ 20 := by
  unfold Chars
  decide
theorem five_len {a b c d e f : Nat} (ha : a ≤ 10) (hb : b ≤ 500000) (hc : c ≤ 10) (hd : d ≤ 10) (he : e ≤ 500000) (hf : f ≤ 10) : a + b ≤ line ∧ c + d ≤ line ∧ e + f ≤ line ∧ a + b + (c + d) ≤ line ∧ a + b + (c + d) + (e + f) ≤ line := by
  have : line = 16777216 := rfl
  omega
theorem places {a : Nat} (h : a ≤ 2 + 25) : a ≤ 1000 ∧ a + 1 ≤ 1000 ∧ a + 1 + 1 ≤ 1000 ∧ a + 1 + 1 + 1 ≤ 1000 ∧ a + 1 + 1 + 1 + 1 ≤ 1000 := by omega
theorem mod64 (i : Int) : ∃ k : Nat, i % 64 = (k : Int) ∧ k < 64 := ⟨(i % 64).toNat, by omega, by omega⟩
theorem deep {e : Nat} (he : 5 ≤ e) : 1 ≤ e + 1 + 1 + 1 ∧ 5 ≤ e + 1 + 1 + 1 ∧ 7 ≤ e + 1 + 1 := by omega
theorem law_ok (hN : line < N) {sc0 : List Vl} (hs0 : Ints sc0) {e : Nat} (he : 5 ≤ e) : ∃ σ', callN D N (e + 1 + 1 + 1 + 1) .law [.lst sc0] [] = some (.bool true, σ') := by
  have hline : line = 16777216 := rfl
  obtain ⟨sc, hsc⟩ : ∃ sc, sc0.take 63 = sc := ⟨_, rfl⟩
  have hs : Ints sc := fun v hv => hs0 v (List.mem_of_mem_take (hsc ▸ hv))
  obtain ⟨i0, n0⟩ := next_ok (N := N) hs (a := 0) (by decide) (e + 1 + 1)
  obtain ⟨k0, nm, q0, g0, m0⟩ := pick namesW 5 (by decide) rfl i0
  obtain ⟨i1, n1⟩ := next_ok (N := N) hs (a := 1) (by decide) (e + 1 + 1)
  obtain ⟨tn, ht, ht64⟩ := mod64 i1
  obtain ⟨a, ws, ha, hws, hwc, dr⟩ := drawn_ok (N := N) hs (a := 2) (by decide) (e + 1)
  obtain ⟨p0, p1, p2, p3, p4⟩ := places ha
  obtain ⟨i2, n2⟩ := next_ok (N := N) hs (a := a) p0 (e + 1 + 1)
  obtain ⟨k2, ld, q2, g2, m2⟩ := pick leadsW 8 (by decide) rfl i2
  obtain ⟨i3, n3⟩ := next_ok (N := N) hs (a := a + 1) p1 (e + 1 + 1)
  obtain ⟨k3, en, q3, g3, m3⟩ := pick endsW 8 (by decide) rfl i3
  obtain ⟨i4, n4⟩ := next_ok (N := N) hs (a := a + 1 + 1) p2 (e + 1 + 1)
  obtain ⟨k4, ld2, q4, g4, m4⟩ := pick leadsW 8 (by decide) rfl i4
  obtain ⟨i5, n5⟩ := next_ok (N := N) hs (a := a + 1 + 1 + 1) p3 (e + 1 + 1)
  obtain ⟨tn2, ht2, ht264⟩ := mod64 ((tn : Int) + i5)
  obtain ⟨i6, n6⟩ := next_ok (N := N) hs (a := a + 1 + 1 + 1 + 1) p4 (e + 1 + 1)
  obtain ⟨k6, tl, q6, g6, m6⟩ := pick tailsW 8 (by decide) rfl i6
  have L1 : ∀ x ∈ nm :: fixedW, Chars x ∧ x.length ≤ 20 := fun x hx => by
    rcases List.mem_cons.mp hx with rfl | h
    · exact small_names _ m0
    · exact small_fixed _ h
  have L2 : ∀ x ∈ nm :: ws, Chars x ∧ x.length ≤ 20 := fun x hx => by
    rcases List.mem_cons.mp hx with rfl | h
    · exact small_names _ m0
    · exact ⟨(hwc x h).1, Nat.le_trans (hwc x h).2 (by decide)⟩
  obtain ⟨c1, y1, ok1⟩ := y_law_command hN L1 (by simp) (turn := tn) (Nat.le_of_lt ht64)
  obtain ⟨c2, y2, ok2⟩ := y_law_command hN L2 (Nat.le_trans (Nat.succ_le_succ hws) (by decide)) (turn := tn2) (Nat.le_of_lt ht264)
  have hld := leads_ok ld m2
  have hld2 := leads_ok ld2 m4
  have hen := ends_ok en m3
  have htl := tails_ok tl m6
  have hc1 := ok1.len
  have hc2 := ok2.len
  have S1 := scr_one hld.1 hld.2 ok1 (by decide)
  have S2 := scr_two m2 ok1 m3 m4 ok2 m6 (by decide) (Nat.le_trans hws (by decide))
  obtain ⟨hl1, hl2, hl3, hl4, hl5⟩ := five_len hld.2 hc1 hen.2 hld2.2 hc2 htl.2
  obtain ⟨d1, d5, d7⟩ := deep he
  obtain ⟨P, hP⟩ : ∃ P : P8, P = ⟨pen sc (a + 1 + 1 + 1 + 1 + 1), LO namesW, LO leadsW, LO endsW, LO tailsW, LO [nm], LO [nm], LO ws⟩ := ⟨_, rfl⟩
  have r1 := run_ok (N := N) hN S1 (by rw [List.length_append]; exact hl1) (d := e + 1 + 1) d7 P (nm := nm) 0 [] (by simp) (fun W hW => by simp at hW; exact ⟨_, hW⟩)
  have r2 := run_ok (N := N) hN S2 (by simp only [List.length_append]; exact hl5) (d := e + 1 + 1) d7 P (nm := nm) 1 (recd [nm :: fixedW]) (by simp [recd]) (fun W hW => by
    rcases List.mem_cons.mp hW with rfl | h
    · exact ⟨_, rfl⟩
    · simp at h; exact ⟨_, h⟩)
  have q0 : i0 % 5 = (k0 : Int) := q0
  have q2 : i2 % 8 = (k2 : Int) := q2
  have q3 : i3 % 8 = (k3 : Int) := q3
  have q4 : i4 % 8 = (k4 : Int) := q4
  have q6 : i6 % 8 = (k6 : Int) := q6
  have sl : slcV [] (.lst sc0) 0 63 = some (.lst sc) := by
    rw [← hsc]; exact if_pos (by decide)
  have yf := fun σ => (y_law_fixed (N := N)).at d1 σ
  have y1 := fun σ => y1.at d5 σ
  have y2 := fun σ => y2.at d5 σ
  have hl4 : (ld ++ c1).length + (en ++ ld2).length ≤ line := by simp only [List.length_append]; exact hl4
  have hl5 : (ld ++ c1 ++ (en ++ ld2)).length + (c2 ++ tl).length ≤ line := by simp only [List.length_append]; exact hl5
  have hwl : [Vl.str nm].length + (ws.map Vl.str).length ≤ line := by rw [List.length_map]; exact small_line (Nat.add_le_add_left hws 1) (by decide)
  have hfl : [Vl.str nm].length + (fixedW.map Vl.str).length ≤ line := by show 1 + 14 ≤ line; decide
  suffices h : ∃ ρ σ', exSs (callN D N (e + 1 + 1 + 1)) N b_law [some (.lst sc0), none, none, none, none, none, none, none, none, none, none, none, none, none, none] [] = some (.ret (.bool true), ρ, σ') from by
    obtain ⟨ρ, σ', h⟩ := h; exact ⟨σ', callN_run (us := [.lst sc0]) rfl rfl (out_ret h)⟩
  apply Exists.intro
  apply Exists.intro
  delta b_law
  refine step (ρ1 := [some (.lst sc), none, none, none, none, none, none, none, none, none, none, none, none, none, none]) (σ1 := []) (st_assign (ev_slcU (ev_loc rfl) ev_int sl)) ?_
  refine step (ρ1 := [some (.lst sc), some (.ref 0), none, none, none, none, none, none, none, none, none, none, none, none, none]) (σ1 := [pen sc (0)]) (st_assign (ev_listE (vs := [.lst sc, .int 0]) (es_cons (ev_loc rfl) (es_cons ev_int es_nil)) (Nat.le_of_ble_eq_true rfl) rfl rfl)) ?_
  refine step (ρ1 := [some (.lst sc), some (.ref 0), some (.str nm), none, none, none, none, none, none, none, none, none, none, none, none]) (σ1 := [pen sc (0 + 1), LO namesW]) (st_assign (ev_idx (σ1 := [pen sc (0), LO namesW]) (ev_listE (r := 1) (σ1 := [pen sc 0]) (vs := namesW.map Vl.str) ?es3 (Nat.le_of_ble_eq_true rfl) rfl rfl) (ev_bin (ev_call (es_cons (ev_loc rfl) es_nil) (n0 _)) ev_int (b_mod (by decide))) (lst_idx (r := 1) (L := namesW) rfl q0 g0))) ?_
  · repeat' first | exact es_nil | exact ev_str | apply es_cons
  refine step (ρ1 := [some (.lst sc), some (.ref 0), some (.str nm), some (.ref 2), none, none, none, none, none, none, none, none, none, none, none]) (σ1 := [pen sc (1), LO namesW, LO leadsW]) (st_assign (ev_listE (σ1 := [pen sc (1), LO namesW]) (vs := leadsW.map Vl.str) ?es4 (Nat.le_of_ble_eq_true rfl) rfl rfl)) ?_
  · repeat' first | exact es_nil | exact ev_str | apply es_cons
  refine step (ρ1 := [some (.lst sc), some (.ref 0), some (.str nm), some (.ref 2), some (.ref 3), none, none, none, none, none, none, none, none, none, none]) (σ1 := [pen sc (1), LO namesW, LO leadsW, LO endsW]) (st_assign (ev_listE (σ1 := [pen sc (1), LO namesW, LO leadsW]) (vs := endsW.map Vl.str) ?es5 (Nat.le_of_ble_eq_true rfl) rfl rfl)) ?_
  · repeat' first | exact es_nil | exact ev_str | apply es_cons
  refine step (ρ1 := [some (.lst sc), some (.ref 0), some (.str nm), some (.ref 2), some (.ref 3), some (.ref 4), none, none, none, none, none, none, none, none, none]) (σ1 := [pen sc (1), LO namesW, LO leadsW, LO endsW, LO tailsW]) (st_assign (ev_listE (σ1 := [pen sc (1), LO namesW, LO leadsW, LO endsW]) (vs := tailsW.map Vl.str) ?es6 (Nat.le_of_ble_eq_true rfl) rfl rfl)) ?_
  · repeat' first | exact es_nil | exact ev_str | apply es_cons
  refine step (ρ1 := [some (.lst sc), some (.ref 0), some (.str nm), some (.ref 2), some (.ref 3), some (.ref 4), some (.int (tn : Int)), none, none, none, none, none, none, none, none]) (σ1 := [pen sc (1 + 1), LO namesW, LO leadsW, LO endsW, LO tailsW]) (st_assign (ht ▸ (ev_bin (ev_call (es_cons (ev_loc rfl) es_nil) (n1 _)) ev_int (b_mod (by decide))))) ?_
  refine step (ρ1 := [some (.lst sc), some (.ref 0), some (.str nm), some (.ref 2), some (.ref 3), some (.ref 4), some (.int (tn : Int)), some (.lst ((nm :: fixedW).map Vl.str)), none, none, none, none, none, none, none]) (σ1 := [pen sc (2), LO namesW, LO leadsW, LO endsW, LO tailsW, LO [nm]]) (st_assign (ev_bin (ev_listE (r := 5) (vs := [.str nm]) (es_cons (ev_loc rfl) es_nil) (Nat.le_of_ble_eq_true rfl) rfl rfl) (ev_call es_nil (yf _)) (b_addL (a := [.str nm]) rfl rfl hfl))) ?_
  refine step (ρ1 := [some (.lst sc), some (.ref 0), some (.str nm), some (.ref 2), some (.ref 3), some (.ref 4), some (.int (tn : Int)), some (.lst ((nm :: fixedW).map Vl.str)), some (.lst ((nm :: ws).map Vl.str)), none, none, none, none, none, none]) (σ1 := [pen sc (a), LO namesW, LO leadsW, LO endsW, LO tailsW, LO [nm], LO [nm], LO ws]) (st_assign (ev_bin (σ1 := [pen sc (2), LO namesW, LO leadsW, LO endsW, LO tailsW, LO [nm], LO [nm]]) (ev_listE (r := 6) (vs := [.str nm]) (es_cons (ev_loc rfl) es_nil) (Nat.le_of_ble_eq_true rfl) rfl rfl) (ev_call (es_cons (ev_loc rfl) es_nil) (dr [LO namesW, LO leadsW, LO endsW, LO tailsW, LO [nm], LO [nm]])) (b_addL (a := [.str nm]) rfl rfl hwl))) ?_
  refine step (ρ1 := [some (.lst sc), some (.ref 0), some (.str nm), some (.ref 2), some (.ref 3), some (.ref 4), some (.int (tn : Int)), some (.lst ((nm :: fixedW).map Vl.str)), some (.lst ((nm :: ws).map Vl.str)), some (.str (ld ++ c1)), none, none, none, none, none]) (σ1 := [pen sc (a + 1), LO namesW, LO leadsW, LO endsW, LO tailsW, LO [nm], LO [nm], LO ws]) (st_assign (ev_bin (ev_idx (ev_loc rfl) (ev_bin (ev_call (es_cons (ev_loc rfl) es_nil) (n2 _)) ev_int (b_mod (by decide))) (lst_idx (r := 2) (L := leadsW) rfl q2 g2)) (ev_call (es_cons (ev_loc rfl) (es_cons (ev_loc rfl) es_nil)) (y1 _)) (b_addS hl1))) ?_
  refine step (ρ1 := [some (.lst sc), some (.ref 0), some (.str nm), some (.ref 2), some (.ref 3), some (.ref 4), some (.int (tn : Int)), some (.lst ((nm :: fixedW).map Vl.str)), some (.lst ((nm :: ws).map Vl.str)), some (.str (ld ++ c1)), some (.str (en ++ ld2)), none, none, none, none]) (σ1 := [pen sc (a + 1 + 1 + 1), LO namesW, LO leadsW, LO endsW, LO tailsW, LO [nm], LO [nm], LO ws]) (st_assign (ev_bin (ev_idx (ev_loc rfl) (ev_bin (ev_call (es_cons (ev_loc rfl) es_nil) (n3 _)) ev_int (b_mod (by decide))) (lst_idx (r := 3) (L := endsW) rfl q3 g3)) (ev_idx (ev_loc rfl) (ev_bin (ev_call (es_cons (ev_loc rfl) es_nil) (n4 _)) ev_int (b_mod (by decide))) (lst_idx (r := 2) (L := leadsW) rfl q4 g4)) (b_addS hl2))) ?_
  refine step (ρ1 := [some (.lst sc), some (.ref 0), some (.str nm), some (.ref 2), some (.ref 3), some (.ref 4), some (.int (tn : Int)), some (.lst ((nm :: fixedW).map Vl.str)), some (.lst ((nm :: ws).map Vl.str)), some (.str (ld ++ c1)), some (.str (en ++ ld2)), some (.str (c2 ++ tl)), none, none, none]) (σ1 := [pen sc (a + 1 + 1 + 1 + 1 + 1), LO namesW, LO leadsW, LO endsW, LO tailsW, LO [nm], LO [nm], LO ws]) (st_assign (ev_bin (ev_call (es_cons (ev_loc rfl) (es_cons (ht2 ▸ (ev_bin (ev_bin (ev_loc rfl) (ev_call (es_cons (ev_loc rfl) es_nil) (n5 _)) b_addI) ev_int (b_mod (by decide)))) es_nil)) (y2 _)) (ev_idx (ev_loc rfl) (ev_bin (ev_call (es_cons (ev_loc rfl) es_nil) (n6 _)) ev_int (b_mod (by decide))) (lst_idx (r := 4) (L := tailsW) rfl q6 g6)) (b_addS hl3))) ?_
  rw [show [pen sc (a + 1 + 1 + 1 + 1 + 1), LO namesW, LO leadsW, LO endsW, LO tailsW, LO [nm], LO [nm], LO ws] = HS0 P by rw [hP]; rfl]
  refine step (ρ1 := [some (.lst sc), some (.ref 0), some (.str nm), some (.ref 2), some (.ref 3), some (.ref 4), some (.int (tn : Int)), some (.lst ((nm :: fixedW).map Vl.str)), some (.lst ((nm :: ws).map Vl.str)), some (.str (ld ++ c1)), some (.str (en ++ ld2)), some (.str (c2 ++ tl)), none, some (.ref 9), some (.ref 15)]) (σ1 := HS2 P) (st_assignD (σ1 := HS1 P) (newB_ok (P := P)) (ev_listE (vs := []) es_nil (Nat.le_of_ble_eq_true rfl) rfl rfl) (by decide)) ?_
  refine step (ρ1 := [some (.lst sc), some (.ref 0), some (.str nm), some (.ref 2), some (.ref 3), some (.ref 4), some (.int (tn : Int)), some (.lst ((nm :: fixedW).map Vl.str)), some (.lst ((nm :: ws).map Vl.str)), some (.str (ld ++ c1)), some (.str (en ++ ld2)), some (.str (c2 ++ tl)), none, some (.ref 9), some (.ref 15)]) (σ1 := HS P nm 0 []) (st_expr (ev_methF rfl (ev_loc rfl) (l := attrsL 0) rfl (es_cons (ev_loc rfl) (es_cons ev_fn (es_cons (ev_loc rfl) es_nil))) (put_ok P nm))) ?_
  refine step (ρ1 := [some (.lst sc), some (.ref 0), some (.str nm), some (.ref 2), some (.ref 3), some (.ref 4), some (.int (tn : Int)), some (.lst ((nm :: fixedW).map Vl.str)), some (.lst ((nm :: ws).map Vl.str)), some (.str (ld ++ c1)), some (.str (en ++ ld2)), some (.str (c2 ++ tl)), some (.ref 16), some (.ref 9), some (.ref 15)]) (σ1 := HS P nm 3 (recd [nm :: fixedW, nm :: fixedW, nm :: ws]) ++ [.list [.str [49], .str [51]]]) (st_assign (ev_listE (σ1 := HS P nm 3 (recd [nm :: fixedW, nm :: fixedW, nm :: ws])) (vs := [.str [49], .str [51]]) (es_cons (ev_call (es_cons (ev_loc rfl) (es_cons (ev_loc rfl) es_nil)) r1) (es_cons (ev_call (es_cons (ev_loc rfl) (es_cons (ev_bin (ev_bin (ev_loc rfl) (ev_loc rfl) (b_addS hl4)) (ev_loc rfl) (b_addS hl5)) es_nil)) r2) es_nil)) (Nat.le_of_ble_eq_true rfl) rfl rfl)) ?_
  have k1 : cmpV (HS P nm 3 (recd [nm :: fixedW, nm :: fixedW, nm :: ws]) ++ [.list [.str [49], .str [51]]] ++ [.list [.str [49], .str [51]]]) .eq (.ref 16) (.ref 17) = some true := rfl
  have k2 : cmpV (HS P nm 3 (recd [nm :: fixedW, nm :: fixedW, nm :: ws]) ++ [.list [.str [49], .str [51]]] ++ [.list [.str [49], .str [51]]] ++ [.list (recd [nm :: fixedW, nm :: fixedW, nm :: ws])]) .eq (.ref 15) (.ref 18) = some true := eqLists_self [nm :: fixedW, nm :: fixedW, nm :: ws]
  have k3 : ∀ σ, cmpV σ .eq (.int ((3 : Nat) : Int)) (.int 3) = some true := fun _ => rfl
  refine ss_cons (st_ret (ev_bop (bo_and (ev_cmp (ev_loc rfl) (ev_listE (vs := [.str [49], .str [51]]) (es_cons ev_str (es_cons ev_str es_nil)) (Nat.le_of_ble_eq_true rfl) rfl rfl) k1) tr_bool (ct rfl (bo_and (ev_cmp (ev_loc rfl) (ev_listE (vs := recd [nm :: fixedW, nm :: fixedW, nm :: ws]) (es_cons (ev_loc rfl) (es_cons (ev_loc rfl) (es_cons (ev_loc rfl) es_nil))) (Nat.le_of_ble_eq_true rfl) rfl rfl) k2) tr_bool (ct rfl (bo_one (ev_cmp (ev_attr (l := attrsL 3) (ev_loc rfl) rfl at_spent) ev_int (k3 _))))))))) ?_
  exact sq_ret
end
end

section
/-! ## Where the text's defs lie -/
noncomputable def faF : Fn → Addr
  | .is_blank => 181
  | .digit => 188
  | .hex_sign => 195
  | .octal_sign => 202
  | .backslash => 209
  | .is_gap => 216
  | .skip_gaps => 223
  | .comment_behind => 230
  | .skip_to_command => 237
  | .braces => 265
  | .parts_until => 272
  | .bare_stops => 279
  | .is_expanded => 286
  | .word => 293
  | .command_at => 301
  | .check_behind => 308
  | .braced_element => 315
  | .quoted_element => 322
  | .bare_element => 329
  | .find_element => 336
  | .split_list => 343
  | .mode_of => 350
  | .escaped => 357
  | .quote => 365
  | .join_list => 372
  | .text_of => 400
  | .words_of => 407
  | .run_script => 421
  | .act => 548
  | .hostInit => 436
  | .spend => 450
  | .call => 478
  | .smallInit => 563
  | .put => 634
  | .remove => 641
  | .begin => 662
  | .law_next => 674
  | .law_sign => 681
  | .law_drawn => 688
  | .law_fixed => 695
  | .law_hex => 702
  | .law_coded => 709
  | .law_spelled => 716
  | .law_may_brace => 723
  | .law_written => 730
  | .law_command => 737
  | .law_record => 744
  | .law => 751
noncomputable def stF : Fn → Stmt
  | .is_blank => st 15
  | .digit => st 16
  | .hex_sign => st 18
  | .octal_sign => st 19
  | .backslash => st 20
  | .is_gap => st 21
  | .skip_gaps => st 22
  | .comment_behind => st 23
  | .skip_to_command => st 24
  | .braces => st 28
  | .parts_until => st 29
  | .bare_stops => st 30
  | .is_expanded => st 31
  | .word => st 32
  | .command_at => st 33
  | .check_behind => st 35
  | .braced_element => st 36
  | .quoted_element => st 37
  | .bare_element => st 38
  | .find_element => st 39
  | .split_list => st 40
  | .mode_of => st 41
  | .escaped => st 42
  | .quote => st 43
  | .join_list => st 44
  | .text_of => st 48
  | .words_of => st 49
  | .run_script => st 51
  | .act => st 58
  | .hostInit => me 52 0
  | .spend => me 52 2
  | .call => me 52 6
  | .smallInit => me 59 0
  | .put => me 59 10
  | .remove => me 59 11
  | .begin => me 59 14
  | .law_next => st 61
  | .law_sign => st 62
  | .law_drawn => st 63
  | .law_fixed => st 64
  | .law_hex => st 65
  | .law_coded => st 66
  | .law_spelled => st 67
  | .law_may_brace => st 68
  | .law_written => st 69
  | .law_command => st 70
  | .law_record => st 71
  | .law => st 72
noncomputable def quF : Fn → Str
  | .is_blank => "is_blank"
  | .digit => "digit"
  | .hex_sign => "hex_sign"
  | .octal_sign => "octal_sign"
  | .backslash => "backslash"
  | .is_gap => "is_gap"
  | .skip_gaps => "skip_gaps"
  | .comment_behind => "comment_behind"
  | .skip_to_command => "skip_to_command"
  | .braces => "braces"
  | .parts_until => "parts_until"
  | .bare_stops => "bare_stops"
  | .is_expanded => "is_expanded"
  | .word => "word"
  | .command_at => "command_at"
  | .check_behind => "check_behind"
  | .braced_element => "braced_element"
  | .quoted_element => "quoted_element"
  | .bare_element => "bare_element"
  | .find_element => "find_element"
  | .split_list => "split_list"
  | .mode_of => "mode_of"
  | .escaped => "escaped"
  | .quote => "quote"
  | .join_list => "join_list"
  | .text_of => "text_of"
  | .words_of => "words_of"
  | .run_script => "run_script"
  | .act => "act"
  | .hostInit => "Host.__init__"
  | .spend => "Host.spend"
  | .call => "Host.call"
  | .smallInit => "SmallHost.__init__"
  | .put => "SmallHost.put"
  | .remove => "SmallHost.remove"
  | .begin => "SmallHost.begin"
  | .law_next => "_law_next"
  | .law_sign => "_law_sign"
  | .law_drawn => "_law_drawn"
  | .law_fixed => "_law_fixed"
  | .law_hex => "_law_hex"
  | .law_coded => "_law_coded"
  | .law_spelled => "_law_spelled"
  | .law_may_brace => "_law_may_brace"
  | .law_written => "_law_written"
  | .law_command => "_law_command"
  | .law_record => "_law_record"
  | .law => "law"
noncomputable def dfF : Fn → Value
  | .is_blank => .none
  | .digit => .none
  | .hex_sign => .none
  | .octal_sign => .none
  | .backslash => .none
  | .is_gap => .none
  | .skip_gaps => .none
  | .comment_behind => .none
  | .skip_to_command => .none
  | .braces => .none
  | .parts_until => .none
  | .bare_stops => .none
  | .is_expanded => .none
  | .word => .none
  | .command_at => .ref 294
  | .check_behind => .none
  | .braced_element => .none
  | .quoted_element => .none
  | .bare_element => .none
  | .find_element => .none
  | .split_list => .none
  | .mode_of => .none
  | .escaped => .none
  | .quote => .ref 358
  | .join_list => .none
  | .text_of => .none
  | .words_of => .none
  | .run_script => .none
  | .act => .none
  | .hostInit => .ref 429
  | .spend => .none
  | .call => .none
  | .smallInit => .ref 556
  | .put => .ref 627
  | .remove => .none
  | .begin => .none
  | .law_next => .none
  | .law_sign => .none
  | .law_drawn => .none
  | .law_fixed => .none
  | .law_hex => .none
  | .law_coded => .none
  | .law_spelled => .none
  | .law_may_brace => .none
  | .law_written => .none
  | .law_command => .none
  | .law_record => .none
  | .law => .none
noncomputable def moF : Fn → Value
  | .is_blank => .str "tclcore.numbers" 418
  | .digit => .str "tclcore.numbers" 418
  | .hex_sign => .str "tclcore.words" 435
  | .octal_sign => .str "tclcore.words" 435
  | .backslash => .str "tclcore.words" 435
  | .is_gap => .str "tclcore.words" 435
  | .skip_gaps => .str "tclcore.words" 435
  | .comment_behind => .str "tclcore.words" 435
  | .skip_to_command => .str "tclcore.words" 435
  | .braces => .str "tclcore.words" 435
  | .parts_until => .str "tclcore.words" 435
  | .bare_stops => .str "tclcore.words" 435
  | .is_expanded => .str "tclcore.words" 435
  | .word => .str "tclcore.words" 435
  | .command_at => .str "tclcore.words" 435
  | .check_behind => .str "tclcore.lists" 611
  | .braced_element => .str "tclcore.lists" 611
  | .quoted_element => .str "tclcore.lists" 611
  | .bare_element => .str "tclcore.lists" 611
  | .find_element => .str "tclcore.lists" 611
  | .split_list => .str "tclcore.lists" 611
  | .mode_of => .str "tclcore.lists" 611
  | .escaped => .str "tclcore.lists" 611
  | .quote => .str "tclcore.lists" 611
  | .join_list => .str "tclcore.lists" 611
  | .text_of => .str "tclcore.host" 751
  | .words_of => .str "tclcore.host" 751
  | .run_script => .str "tclcore.host" 751
  | .act => .str "tclcore.host" 751
  | .hostInit => .str "tclcore.host" 751
  | .spend => .str "tclcore.host" 751
  | .call => .str "tclcore.host" 751
  | .smallInit => .str "tclcore.host" 751
  | .put => .str "tclcore.host" 751
  | .remove => .str "tclcore.host" 751
  | .begin => .str "tclcore.host" 751
  | .law_next => .str "law_np0154_01" 1119
  | .law_sign => .str "law_np0154_01" 1119
  | .law_drawn => .str "law_np0154_01" 1119
  | .law_fixed => .str "law_np0154_01" 1119
  | .law_hex => .str "law_np0154_01" 1119
  | .law_coded => .str "law_np0154_01" 1119
  | .law_spelled => .str "law_np0154_01" 1119
  | .law_may_brace => .str "law_np0154_01" 1119
  | .law_written => .str "law_np0154_01" 1119
  | .law_command => .str "law_np0154_01" 1119
  | .law_record => .str "law_np0154_01" 1119
  | .law => .str "law_np0154_01" 1119
noncomputable def coF : Fn → Addr
  | .is_blank => 180
  | .digit => 187
  | .hex_sign => 194
  | .octal_sign => 201
  | .backslash => 208
  | .is_gap => 215
  | .skip_gaps => 222
  | .comment_behind => 229
  | .skip_to_command => 236
  | .braces => 264
  | .parts_until => 271
  | .bare_stops => 278
  | .is_expanded => 285
  | .word => 292
  | .command_at => 300
  | .check_behind => 307
  | .braced_element => 314
  | .quoted_element => 321
  | .bare_element => 328
  | .find_element => 335
  | .split_list => 342
  | .mode_of => 349
  | .escaped => 356
  | .quote => 364
  | .join_list => 371
  | .text_of => 399
  | .words_of => 406
  | .run_script => 420
  | .act => 547
  | .hostInit => 435
  | .spend => 449
  | .call => 477
  | .smallInit => 562
  | .put => 633
  | .remove => 640
  | .begin => 661
  | .law_next => 673
  | .law_sign => 680
  | .law_drawn => 687
  | .law_fixed => 694
  | .law_hex => 701
  | .law_coded => 708
  | .law_spelled => 715
  | .law_may_brace => 722
  | .law_written => 729
  | .law_command => 736
  | .law_record => 743
  | .law => 750
noncomputable def caF : Cl → Addr
  | .nest => 105
  | .pause => 126
  | .host => 502
  | .small => 665
noncomputable def parS : Stmt → Arguments
  | .FunctionDef _ a .. => a
  | _ => default
noncomputable def scS : Stmt → Scope
  | .FunctionDef _ _ _ _ _ _ sc .. => sc
  | _ => default
noncomputable abbrev fdF (f : Fn) : FuncData := fnOf f.name (quF f) (parS (stF f)) ((D f).body.py (D f).names) (scS (stF f)) (dfF f) .none .none (moF f) none (.ref (coF f)) .none
theorem fn_look (f : Fn) (P : Params) : (KF P).lookup (faF f) = some ⟨.type "function", none, .func (fdF f), #[]⟩ := by
  cases f <;> kernel_rfl
theorem fn_code (f : Fn) (P : Params) : codeIn (KF P) (.ref (coF f)) (quF f) = true := by
  cases f <;> kernel_rfl
noncomputable def isFun : ScopeKind → Bool
  | .function => true
  | _ => false
noncomputable def isLoc : Option NameKind → Bool
  | some .local => true
  | _ => false
noncomputable def notCell : NameKind → Bool
  | .cell => false
  | _ => true
noncomputable def nodupS : List Str → Bool
  | [] => true
  | x :: r => !(r.contains x) && nodupS r
noncomputable def nsOkB (ns : List Str) (sc : Scope) : Bool := isFun sc.kind && ns.all (fun x => isLoc (sc.names.lookup x) && !(x == ("__debug__" : Str))) && nodupS ns
theorem nodupS_of : ∀ {ns : List Str}, nodupS ns = true → ns.Nodup
  | [], _ => .nil
  | x :: r, h => by
    simp only [nodupS, Bool.and_eq_true, Bool.not_eq_true'] at h
    refine List.nodup_cons.mpr ⟨fun q => ?_, nodupS_of h.2⟩
    rw [List.contains_iff_mem.mpr q] at h
    cases h.1
theorem NsOk.of {ns : List Str} {sc : Scope} (h : nsOkB ns sc = true) : NsOk ns sc := by
  simp only [nsOkB, Bool.and_eq_true, List.all_eq_true] at h
  obtain ⟨⟨h1, h2⟩, h3⟩ := h
  have mem : ∀ i, (hi : i < ns.length) → nm ns i ∈ ns := fun i hi => by rw [nm_get ns i hi]; exact List.getElem_mem hi
  refine ⟨?_, fun i hi => ?_, fun i hi => ?_, fun i j hi hj e => ?_⟩
  · cases q : sc.kind <;> rw [q] at h1 <;> first | rfl | cases h1
  · have := (h2 _ (mem i hi)).1
    unfold isLoc at this
    split at this
    · assumption
    · cases this
  · simpa using (h2 _ (mem i hi)).2
  · rw [nm_get ns i hi, nm_get ns j hj] at e
    exact (List.getElem_inj (nodupS_of h3)).mp e
theorem fn_ns (f : Fn) : nsOkB (D f).names (scS (stF f)) = true := by
  cases f <;> kernel_rfl
theorem fn_wf (f : Fn) : (D f).body.wf (scS (stF f)) (D f).names.length = true := by
  cases f <;> kernel_rfl
theorem fn_co (f : Fn) : (scS (stF f)).isCoroutine = false := by
  cases f <;> kernel_rfl
theorem fn_gen (f : Fn) : (scS (stF f)).isGenerator = false := by
  cases f <;> kernel_rfl
theorem fn_cell (f : Fn) : (scS (stF f)).names.all (fun x => notCell x.2) = true := by
  cases f <;> kernel_rfl
theorem fn_np (f : Fn) : Nat.ble (D f).np (D f).names.length = true := by
  cases f <;> kernel_rfl
end

section
noncomputable def esOf (o : Obj) : Array DictEntry := match o.data with
  | .dict es _ => es
  | _ => #[]
theorem ns_find {K : Frag} {h : Heap} (hK : K.In h) {a : Addr} {m : Str → Option Value} (N : h.Ns a m) {o : Obj} (ho : K.lookup a = some o) (x : Str) : m x = nsFind (esOf o) x := by
  obtain ⟨o', es, ep, h1, h2, h3, h4⟩ := N
  have := hK _ _ ho
  rw [h1] at this; cases this
  rw [← h4 x]
  unfold esOf; rw [h2]
theorem g_look (P : Params) : (KF P).lookup mainGlobals = some (o3 P) := by kernel_rfl
theorem g_fn (f : Fn) (hf : f.isGlob = true) (P : Params) : nsFind (esOf (o3 P)) f.name = some (.ref (faF f)) := by
  cases f <;> first | (exact Bool.noConfusion hf) | kernel_rfl
theorem g_cl (c : Cl) (P : Params) : nsFind (esOf (o3 P)) c.name = some (.ref (caF c)) := by
  cases c <;> kernel_rfl
theorem g_bi (b : Bi) (P : Params) : nsFind (esOf (o3 P)) b.name = none := by
  cases b <;> kernel_rfl
theorem b_bi (b : Bi) : bootBuiltins b.name = some b.val := by
  cases b <;> kernel_rfl
theorem b_ne (b : Bi) : (b.name == ("__name__" : Str)) = false := by
  cases b <;> kernel_rfl
theorem g_range (P : Params) : nsFind (esOf (o3 P)) "range" = none := by kernel_rfl
theorem b_range : bootBuiltins "range" = some (.type "range") := by kernel_rfl
theorem k_sys (P : Params) : ((KF P).lookup sysModules).isSome = true := by kernel_rfl
theorem k_hasD (P : Params) : hasDictIn (KF P) (caF .small) = true := by kernel_rfl
theorem k_plain (P : Params) (n : Str) : plainGet (KF P) (caF .small) n = true := by kernel_rfl
theorem k_noAttr (P : Params) (a : At) : findIn (KF P) (.ref (caF .small)) a.name = some none := by
  cases a <;> kernel_rfl
theorem k_meths (P : Params) (m : Mt) (f : Fn) (e : methF m = some f) : findIn (KF P) (.ref (caF .small)) m.name = some (some (.ref (faF f))) ∧ isFn (KF P) (.ref (faF f)) = true := by
  cases m <;> cases e <;> constructor <;> kernel_rfl
theorem k_hostG (P : Params) : specialIn (KF P) (.ref (caF .host)) "__getattribute__" = some (some (.builtin "type.__getattribute__")) := by kernel_rfl
theorem k_hostT (P : Params) : typeIn (KF P) (.ref (caF .host)) = some (.type "type") := by kernel_rfl
theorem k_hostR (P : Params) : readsIn (KF P) (caF .host) (.type "type") = true := by kernel_rfl
theorem k_hostF (P : Params) : findCls (KF P) (.ref (caF .host)) (.type "type") "__init__" = some (.val (.ref (faF .hostInit))) := by kernel_rfl
theorem k_keep (P : Params) : keepIn (KF P) (.ref (caF .small)) = true := by kernel_rfl
theorem k_makes (P : Params) : makesIn (KF P) (caF .small) = true := by kernel_rfl
theorem k_init (P : Params) : findIn (KF P) (.ref (caF .small)) "__init__" = some (some (.ref (faF .smallInit))) := by kernel_rfl
theorem k_initF (P : Params) : isFn (KF P) (.ref (faF .smallInit)) = true := by kernel_rfl
theorem k_notStr (P : Params) (c : Cl) : (clsIn (KF P) (caF c)).isSome = true ∧ typeIn (KF P) (.ref (caF c)) = some (.type "type") ∧ subIn (KF P) (.type "str") (.ref (caF c)) = some false := by
  cases c <;> refine ⟨?_, ?_, ?_⟩ <;> kernel_rfl
theorem k_setS (P : Params) : findIn (KF P) (.ref (caF .small)) "__setattr__" = some (some (.builtin "object.__setattr__")) := by kernel_rfl
theorem k_over (P : Params) : plainOver (KF P) (caF .small) = true := by kernel_rfl
theorem k_taker (P : Params) (a : At) : takerIn (KF P) (caF .small) a.name = some none := by
  cases a <;> kernel_rfl
end

section
noncomputable def Binds (P : Params) (f : Fn) : Prop := ∀ {X : MC} {s : Shared} {φ : List Addr} {xs : List Value} {vs us : List Vl}, (KF P).In s.heap → RelVs X φ s.heap xs vs → bindA (D f).np (D f).defs vs = some us → ∃ ys, BindsTo s (fdF f) ⟨xs, []⟩ (((D f).names.take (D f).np).zip ys) ∧ RelVs X φ s.heap ys us
theorem bindA_nil {np : Nat} {vs us : List Vl} (e : bindA np [] vs = some us) : us = vs ∧ vs.length = np :=
  ifE e fun h e => by
    cases e
    exact ⟨by rw [List.drop_nil, List.append_nil], Nat.le_antisymm h.1 h.2⟩
theorem binds_of {P : Params} {f : Fn} {k : Nat} (hd : (D f).defs = []) (hn : (D f).np = k) (h : ∀ xs : List Value, xs.length = k → bindArgs (fdF f) ⟨xs, []⟩ = pure (((D f).names.take (D f).np).zip xs)) : Binds P f := by
  intro X s φ xs vs us hK r e
  rw [hd] at e
  obtain ⟨rfl, hl⟩ := bindA_nil e
  exact ⟨xs, BindsTo.of_eq (h xs (by rw [r.length, hl, hn])), r⟩
theorem list0 {α : Type} {p : List α → Prop} (h : p []) : ∀ l : List α, l.length = 0 → p l
  | [], _ => h
  | _ :: _, e => by simp at e
theorem list1 {α : Type} {p : List α → Prop} (h : ∀ a, p [a]) : ∀ l : List α, l.length = 1 → p l
  | [a], _ => h a
  | [], e => by simp at e
  | _ :: _ :: _, e => by simp at e
theorem list2 {α : Type} {p : List α → Prop} (h : ∀ a b, p [a, b]) : ∀ l : List α, l.length = 2 → p l
  | [a, b], _ => h a b
  | [], e => by simp at e
  | [_], e => by simp at e
  | _ :: _ :: _ :: _, e => by simp at e
theorem list3 {α : Type} {p : List α → Prop} (h : ∀ a b c, p [a, b, c]) : ∀ l : List α, l.length = 3 → p l
  | [a, b, c], _ => h a b c
  | [], e => by simp at e
  | [_], e => by simp at e
  | [_, _], e => by simp at e
  | _ :: _ :: _ :: _ :: _, e => by simp at e
theorem list4 {α : Type} {p : List α → Prop} (h : ∀ a b c d, p [a, b, c, d]) : ∀ l : List α, l.length = 4 → p l
  | [a, b, c, d], _ => h a b c d
  | [], e => by simp at e
  | [_], e => by simp at e
  | [_, _], e => by simp at e
  | [_, _, _], e => by simp at e
  | _ :: _ :: _ :: _ :: _ :: _, e => by simp at e
/-- arguments that may be left out -/
theorem nat3 {a b n : Nat} (h1 : a ≤ n) (h2 : n ≤ a + b) : n - a ≤ b ∧ a + (n - a) = n ∧ a + b - n = b - (n - a) := by omega
theorem bindA_def {np : Nat} {ds vs us : List Vl} (e : bindA np ds vs = some us) : ∃ j, j ≤ ds.length ∧ vs.length + j = np ∧ us = vs ++ ds.drop (ds.length - j) :=
  ifE e fun h e => by
    obtain ⟨n1, n2, n3⟩ := nat3 h.1 h.2
    cases e
    exact ⟨np - vs.length, n1, n2, by rw [n3]⟩
noncomputable def DefOk (f : Fn) (ws : Array Value) (n j : Nat) (xs : List Value) : Prop := ∃ q : Option (Array Value) → Sem (List (Str × Value)), bindArgs (fdF f) ⟨xs, []⟩ = (seqItems? (fdF f).defaults >>= q) ∧ q (some ws) = pure (((D f).names.take (D f).np).zip (xs ++ ws.toList.drop (n - j)))
theorem binds_def {P : Params} {f : Fn} {T : Addr} {ws : Array Value} {k : Nat} {ds : List Vl} (hd : (D f).defs = ds) (hn : (D f).np = k) (hT : dfF f = .ref T) (hlook : (KF P).lookup T = some (tu ws))
    (hrel : ∀ (X : MC) φ (h : Heap), RelVs X φ h ws.toList ds)
    (h : ∀ j, j ≤ ds.length → ∀ xs : List Value, xs.length + j = k → DefOk f ws ds.length j xs) : Binds P f := by
  intro X s φ xs vs us hK r e
  rw [hd] at e
  obtain ⟨j, hj, hl, rfl⟩ := bindA_def e
  obtain ⟨q, h1, h2⟩ := h j hj xs (by rw [r.length, hl, hn])
  exact ⟨_, BindsTo.of_defaults (o := tu ws) hT (hK _ _ hlook) rfl h1 h2, r.append ((hrel X φ s.heap).drop _)⟩
theorem bn_is_blank (P : Params) : Binds P .is_blank := binds_of rfl rfl (list1 (fun a => by kernel_rfl))
theorem bn_digit (P : Params) : Binds P .digit := binds_of rfl rfl (list1 (fun a => by kernel_rfl))
theorem bn_hex_sign (P : Params) : Binds P .hex_sign := binds_of rfl rfl (list2 (fun a b => by kernel_rfl))
theorem bn_octal_sign (P : Params) : Binds P .octal_sign := binds_of rfl rfl (list2 (fun a b => by kernel_rfl))
theorem bn_backslash (P : Params) : Binds P .backslash := binds_of rfl rfl (list2 (fun a b => by kernel_rfl))
theorem bn_is_gap (P : Params) : Binds P .is_gap := binds_of rfl rfl (list1 (fun a => by kernel_rfl))
theorem bn_skip_gaps (P : Params) : Binds P .skip_gaps := binds_of rfl rfl (list2 (fun a b => by kernel_rfl))
theorem bn_comment_behind (P : Params) : Binds P .comment_behind := binds_of rfl rfl (list2 (fun a b => by kernel_rfl))
theorem bn_skip_to_command (P : Params) : Binds P .skip_to_command := binds_of rfl rfl (list2 (fun a b => by kernel_rfl))
theorem bn_braces (P : Params) : Binds P .braces := binds_of rfl rfl (list2 (fun a b => by kernel_rfl))
theorem bn_parts_until (P : Params) : Binds P .parts_until := binds_of rfl rfl (list3 (fun a b c => by kernel_rfl))
theorem bn_bare_stops (P : Params) : Binds P .bare_stops := binds_of rfl rfl (list1 (fun a => by kernel_rfl))
theorem bn_is_expanded (P : Params) : Binds P .is_expanded := binds_of rfl rfl (list2 (fun a b => by kernel_rfl))
theorem bn_word (P : Params) : Binds P .word := binds_of rfl rfl (list3 (fun a b c => by kernel_rfl))
theorem bn_check_behind (P : Params) : Binds P .check_behind := binds_of rfl rfl (list3 (fun a b c => by kernel_rfl))
theorem bn_braced_element (P : Params) : Binds P .braced_element := binds_of rfl rfl (list2 (fun a b => by kernel_rfl))
theorem bn_quoted_element (P : Params) : Binds P .quoted_element := binds_of rfl rfl (list2 (fun a b => by kernel_rfl))
theorem bn_bare_element (P : Params) : Binds P .bare_element := binds_of rfl rfl (list2 (fun a b => by kernel_rfl))
theorem bn_find_element (P : Params) : Binds P .find_element := binds_of rfl rfl (list2 (fun a b => by kernel_rfl))
theorem bn_split_list (P : Params) : Binds P .split_list := binds_of rfl rfl (list1 (fun a => by kernel_rfl))
theorem bn_mode_of (P : Params) : Binds P .mode_of := binds_of rfl rfl (list2 (fun a b => by kernel_rfl))
theorem bn_escaped (P : Params) : Binds P .escaped := binds_of rfl rfl (list2 (fun a b => by kernel_rfl))
theorem bn_join_list (P : Params) : Binds P .join_list := binds_of rfl rfl (list1 (fun a => by kernel_rfl))
theorem bn_text_of (P : Params) : Binds P .text_of := binds_of rfl rfl (list2 (fun a b => by kernel_rfl))
theorem bn_words_of (P : Params) : Binds P .words_of := binds_of rfl rfl (list2 (fun a b => by kernel_rfl))
theorem bn_run_script (P : Params) : Binds P .run_script := binds_of rfl rfl (list2 (fun a b => by kernel_rfl))
theorem bn_act (P : Params) : Binds P .act := binds_of rfl rfl (list4 (fun a b c d => by kernel_rfl))
theorem bn_spend (P : Params) : Binds P .spend := binds_of rfl rfl (list1 (fun a => by kernel_rfl))
theorem bn_call (P : Params) : Binds P .call := binds_of rfl rfl (list2 (fun a b => by kernel_rfl))
theorem bn_remove (P : Params) : Binds P .remove := binds_of rfl rfl (list2 (fun a b => by kernel_rfl))
theorem bn_begin (P : Params) : Binds P .begin := binds_of rfl rfl (list2 (fun a b => by kernel_rfl))
theorem bn_law_next (P : Params) : Binds P .law_next := binds_of rfl rfl (list1 (fun a => by kernel_rfl))
theorem bn_law_sign (P : Params) : Binds P .law_sign := binds_of rfl rfl (list1 (fun a => by kernel_rfl))
theorem bn_law_drawn (P : Params) : Binds P .law_drawn := binds_of rfl rfl (list1 (fun a => by kernel_rfl))
theorem bn_law_fixed (P : Params) : Binds P .law_fixed := binds_of rfl rfl (list0 (by kernel_rfl))
theorem bn_law_hex (P : Params) : Binds P .law_hex := binds_of rfl rfl (list2 (fun a b => by kernel_rfl))
theorem bn_law_coded (P : Params) : Binds P .law_coded := binds_of rfl rfl (list2 (fun a b => by kernel_rfl))
theorem bn_law_spelled (P : Params) : Binds P .law_spelled := binds_of rfl rfl (list4 (fun a b c d => by kernel_rfl))
theorem bn_law_may_brace (P : Params) : Binds P .law_may_brace := binds_of rfl rfl (list1 (fun a => by kernel_rfl))
theorem bn_law_written (P : Params) : Binds P .law_written := binds_of rfl rfl (list3 (fun a b c => by kernel_rfl))
theorem bn_law_command (P : Params) : Binds P .law_command := binds_of rfl rfl (list2 (fun a b => by kernel_rfl))
theorem bn_law_record (P : Params) : Binds P .law_record := binds_of rfl rfl (list3 (fun a b c => by kernel_rfl))
theorem bn_law (P : Params) : Binds P .law := binds_of rfl rfl (list1 (fun a => by kernel_rfl))
theorem bn_command_at (P : Params) : Binds P .command_at := by
  refine binds_def (T := 294) (ws := #[.bool false]) (k := 3) (ds := [.bool false]) rfl rfl rfl (by kernel_rfl) (fun X φ h => .cons (.bool _) .nil) fun j hj xs hx => ?_
  have hj' : j = 0 ∨ j = 1 := by simp at hj; omega
  rcases hj' with rfl | rfl
  · exact list3 (p := DefOk .command_at #[.bool false] 1 0) (fun a b c => ⟨_, rfl, by kernel_rfl⟩) xs (by omega)
  · exact list2 (p := DefOk .command_at #[.bool false] 1 1) (fun a b => ⟨_, rfl, by kernel_rfl⟩) xs (by omega)
theorem bn_quote (P : Params) : Binds P .quote := by
  refine binds_def (T := 358) (ws := #[.bool false]) (k := 2) (ds := [.bool false]) rfl rfl rfl (by kernel_rfl) (fun X φ h => .cons (.bool _) .nil) fun j hj xs hx => ?_
  have hj' : j = 0 ∨ j = 1 := by simp at hj; omega
  rcases hj' with rfl | rfl
  · exact list2 (p := DefOk .quote #[.bool false] 1 0) (fun a b => ⟨_, rfl, by kernel_rfl⟩) xs (by omega)
  · exact list1 (p := DefOk .quote #[.bool false] 1 1) (fun a => ⟨_, rfl, by kernel_rfl⟩) xs (by omega)
theorem bn_hostInit (P : Params) : Binds P .hostInit := by
  refine binds_def (T := 429) (ws := #[.int 40 812, .none]) (k := 3) (ds := [.int 40, .none]) rfl rfl rfl (by kernel_rfl) (fun X φ h => .cons (.int _ _) (.cons .none .nil)) fun j hj xs hx => ?_
  have hj' : j = 0 ∨ j = 1 ∨ j = 2 := by simp at hj; omega
  rcases hj' with rfl | rfl | rfl
  · exact list3 (p := DefOk .hostInit #[.int 40 812, .none] 2 0) (fun a b c => ⟨_, rfl, by kernel_rfl⟩) xs (by omega)
  · exact list2 (p := DefOk .hostInit #[.int 40 812, .none] 2 1) (fun a b => ⟨_, rfl, by kernel_rfl⟩) xs (by omega)
  · exact list1 (p := DefOk .hostInit #[.int 40 812, .none] 2 2) (fun a => ⟨_, rfl, by kernel_rfl⟩) xs (by omega)
theorem bn_smallInit (P : Params) : Binds P .smallInit := by
  refine binds_def (T := 556) (ws := #[.int 40 977, .none]) (k := 3) (ds := [.int 40, .none]) rfl rfl rfl (by kernel_rfl) (fun X φ h => .cons (.int _ _) (.cons .none .nil)) fun j hj xs hx => ?_
  have hj' : j = 0 ∨ j = 1 ∨ j = 2 := by simp at hj; omega
  rcases hj' with rfl | rfl | rfl
  · exact list3 (p := DefOk .smallInit #[.int 40 977, .none] 2 0) (fun a b c => ⟨_, rfl, by kernel_rfl⟩) xs (by omega)
  · exact list2 (p := DefOk .smallInit #[.int 40 977, .none] 2 1) (fun a b => ⟨_, rfl, by kernel_rfl⟩) xs (by omega)
  · exact list1 (p := DefOk .smallInit #[.int 40 977, .none] 2 2) (fun a => ⟨_, rfl, by kernel_rfl⟩) xs (by omega)
theorem bn_put (P : Params) : Binds P .put := by
  refine binds_def (T := 627) (ws := #[.none]) (k := 4) (ds := [.none]) rfl rfl rfl (by kernel_rfl) (fun X φ h => .cons .none .nil) fun j hj xs hx => ?_
  have hj' : j = 0 ∨ j = 1 := by simp at hj; omega
  rcases hj' with rfl | rfl
  · exact list4 (p := DefOk .put #[.none] 1 0) (fun a b c d => ⟨_, rfl, by kernel_rfl⟩) xs (by omega)
  · exact list3 (p := DefOk .put #[.none] 1 1) (fun a b c => ⟨_, rfl, by kernel_rfl⟩) xs (by omega)
theorem fn_binds (P : Params) : ∀ f, Binds P f
  | .is_blank => bn_is_blank P
  | .digit => bn_digit P
  | .hex_sign => bn_hex_sign P
  | .octal_sign => bn_octal_sign P
  | .backslash => bn_backslash P
  | .is_gap => bn_is_gap P
  | .skip_gaps => bn_skip_gaps P
  | .comment_behind => bn_comment_behind P
  | .skip_to_command => bn_skip_to_command P
  | .braces => bn_braces P
  | .parts_until => bn_parts_until P
  | .bare_stops => bn_bare_stops P
  | .is_expanded => bn_is_expanded P
  | .word => bn_word P
  | .command_at => bn_command_at P
  | .check_behind => bn_check_behind P
  | .braced_element => bn_braced_element P
  | .quoted_element => bn_quoted_element P
  | .bare_element => bn_bare_element P
  | .find_element => bn_find_element P
  | .split_list => bn_split_list P
  | .mode_of => bn_mode_of P
  | .escaped => bn_escaped P
  | .quote => bn_quote P
  | .join_list => bn_join_list P
  | .text_of => bn_text_of P
  | .words_of => bn_words_of P
  | .run_script => bn_run_script P
  | .act => bn_act P
  | .hostInit => bn_hostInit P
  | .spend => bn_spend P
  | .call => bn_call P
  | .smallInit => bn_smallInit P
  | .put => bn_put P
  | .remove => bn_remove P
  | .begin => bn_begin P
  | .law_next => bn_law_next P
  | .law_sign => bn_law_sign P
  | .law_drawn => bn_law_drawn P
  | .law_fixed => bn_law_fixed P
  | .law_hex => bn_law_hex P
  | .law_coded => bn_law_coded P
  | .law_spelled => bn_law_spelled P
  | .law_may_brace => bn_law_may_brace P
  | .law_written => bn_law_written P
  | .law_command => bn_law_command P
  | .law_record => bn_law_record P
  | .law => bn_law P
end

section
noncomputable def XF (w : World) (base : Heap) (mg mb : Str → Option Value) : MC := ⟨pE, w, base, mg, mb, faF, caF, D, KF w.params⟩
theorem okF {w : World} {base : Heap} {mg mb : Str → Option Value} (hK : (KF w.params).In base) (hg : base.Ns mainGlobals mg) (hb : base.Ns builtinsNs mb) (hbi : ∀ x : Str, x ≠ "__name__" → mb x = bootBuiltins x) (hlim : base.NoLimit) : (XF w base mg mb).Ok where
  g := hg
  b := hb
  nolimit := hlim
  sys := fun e => by
    obtain ⟨o, ho⟩ := Option.isSome_iff_exists.mp (k_sys w.params)
    have := hK _ _ ho
    exact absurd (this.symm.trans e) (by simp)
  gfn := fun f hf => (ns_find hK hg (g_look _) _).trans (g_fn f hf _)
  gcl := fun c => (ns_find hK hg (g_look _) _).trans (g_cl c _)
  gbi := fun b => ⟨(ns_find hK hg (g_look _) _).trans (g_bi b _), (hbi _ (beq_eq_false_iff_ne.mp (b_ne b))).trans (b_bi b)⟩
  grange := ⟨(ns_find hK hg (g_look _) _).trans (g_range _), (hbi _ (by decide)).trans b_range⟩
  fn := fun f => ⟨_, _, _, _, quF f, parS (stF f), scS (stF f), dfF f, .none, .none, moF f, none, .ref (coF f), .none, hK _ _ (fn_look f _), codeRec_of hK (fn_code f _), NsOk.of (fn_ns f), fn_wf f, fn_co f, fn_gen f,
    (fun x hx e => by
      have := List.all_eq_true.mp (fn_cell f) x hx
      rw [e] at this; cases this),
    Nat.le_of_ble_eq_true (fn_np f), fun s φ xs vs us hk r e => fn_binds w.params f (fun a o e => hk _ _ (hK a o e)) r e⟩
  kin := hK
  hasD := k_hasD _
  plain := k_plain _
  noAttr := k_noAttr _
  meths := fun m f e => k_meths _ m f e
  hostG := k_hostG _
  hostI := ⟨_, k_hostT _, k_hostR _, k_hostF _⟩
  keep := k_keep _
  makes := k_makes _
  init := k_init _
  initF := k_initF _
  notStr := fun c => k_notStr _ c
  setS := k_setS _
  over := k_over _
  taker := fun a => k_taker _ a
theorem rel_ints {X : MC} {P : Params} {h : Heap} : ∀ {vs : List Value} {is : List Int}, WellAll P h vs (is.map WData.int) → RelVs X [] h vs (is.map Vl.int)
  | _, [], .nil => .nil
  | _, _ :: _, .cons x y => .cons (by cases x; exact .int _ _) (rel_ints y)
theorem dF_name : dF.name = "law" := by kernel_rfl
theorem ofPys_ints : ∀ l : List Int, ofPys (l.map PyData.int) = l.map WData.int
  | [] => rfl
  | a :: l => by simp only [List.map_cons, ofPys, ofPys_ints l, ofPy]
theorem walkF : WalkF := by
  intro w s₀ s₁ mg mb G Y fa o pm cd doc dV kV ho hd hcd hD hmg hg args vals as hpre hlay hrd hwl hlo
  have KX := kIn_of Y
  have hsh := (pre_splitW hpre).1
  have hcond := (pre_splitW hpre).2
  wrow_hasAll hsh hlay
  rename_i is _ _ _ _ _
  w_cond hcond
  rename_i hlen _
  have T := G.T
  have O := okF (w := w) KX T.g T.b T.builtins T.nolimit
  rw [dF_name] at hmg
  have hfa := O.gfn .law rfl
  have : (XF w s₁.heap mg mb).mg Fn.law.name = some (.ref fa) := hmg
  rw [hfa] at this
  cases this
  obtain ⟨v, vs', rfl, w1, w2⟩ := wellAll_cons_inv hwl
  cases w2
  have hline : line = 16777216 := rfl
  have w1' : Well w.params s₁.heap v (.list (is.map WData.int)) := by rw [← ofPys_ints]; exact w1
  cases w1' with
  | @list a vs _ hget hall =>
  have hr : RelVs (XF w s₁.heap mg mb) [] s₁.heap [.ref a] [.lst (is.map Vl.int)] := .cons (.lst a vs.toArray 0 _ hget (by simp) (by simp at hlen ⊢; omega) (rel_ints hall)) .nil
  obtain ⟨σ', hlaw⟩ := law_ok (N := line + 1) (by omega) (sc0 := is.map Vl.int) (fun v hv => by obtain ⟨i, _, rfl⟩ := List.mem_map.mp hv; exact ⟨i, rfl⟩) (Nat.le_refl 5)
  refine enter_call ?_
  refine codeAny_mono ?_ (fun _ _ g => GoodW.toG g)
  refine law_entry O (line + 1) (5 + 1 + 1 + 1) (f := .law) rfl hlaw rfl hr ⟨by decide, by decide, rfl⟩ fun φ' h' tk' x E r => ?_
  cases r with
  | bool =>
  have hkeep : ∀ b o, s₁.heap.get? b = some o → h'.get? b = some o := fun b o e => E.keep b o e (by simp) (by simp)
  have hgens : ({ s₁ with heap := h', toks := tk' } : Shared).gens = #[] := hg
  have hn : ∀ cls, (PySem.Challenge.rw_np0154_01.row.toRowW).claim.raises [ofPy (PyData.list (List.map PyData.int is))] cls = false := raisesW_false (by wrow_none_raised)
  have hp : (PySem.Challenge.rw_np0154_01.row.toRowW).claim.post [ofPy (PyData.list (List.map PyData.int is))] (.bool true) [ofPy (PyData.list (List.map PyData.int is))] = true := by wrow_post
  exact ⟨.inl ⟨_, .bool true, [], rfl, hn, .bool true, hp, unshared_nil⟩, hkeep, rfl, hgens⟩
end

end Mini
theorem PySem.Challenge.cw_np0154_01_holds : PySem.Challenge.rw_np0154_01.Holds :=
  Mini.hdF Mini.walkF
